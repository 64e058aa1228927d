import PyProof.Rows.All
import Wide.All
import OpenK.AllK
import Wide.FinOn
import HandS.ForSpec
import HandS.Comp
import HandS.Wide
import HandS.EndBits
import HandS.Defaults
import HandS.IsInst
import HandS.Deep
import HandS.Style
import HandS.TupAny
import PyProof.StrOps2
import PyProof.LongRange
import HandS.Iter
import HandS.Zip
import HandS.Text
import HandS.RaiseMore
import HandS.ExcOwn
import HandS.TryMany
import HandS.WideBits
import HandS.Zip0
import PyProof.EnumMake
import PyProof.ExcClass
import PyProof.ExcBaseAll.ValueError
import PyProof.ExcBaseAll.IndexError
import PyProof.ExcBaseAll.LookupError
import PyProof.ExcBaseAll.OverflowError
import PyProof.ExcBaseAll.RuntimeError
import HandS.Exc
import HandS.ExcField
import PyProof.ReprRoads
import HandS.Flow
import HandS.More
import HandS.SortInts
import KE.KTupSum
import PyProof.FitsInt
import KE.DatumOrd
import KE.DataMinMax
import HandS.Dict
import KE.KDictDisplayH
import HandS.Strs
import OpenK.KOps
import PyProof.SliceList
import HandS.Conv
import HandS.Head0
import HandS.Head1
import HandS.Head2
import HandS.HeadHook1
import HandS.HeadHook2
import HandS.Words
import PySem.Challenge.RW_heightsums_k01_steps_and_paths
set_option Elab.async false
set_option linter.all false
set_option maxRecDepth 100000
set_option maxHeartbeats 1000000
/-! Contracts of defs where no display of a list is under way (so that repr of lists may be told), and the end of a law by them. -/
namespace DL
open PySem PySem.Spec PyProof.Rows L2

structure RmG (k : Nat) (A : Around) : Prop where
  rm : Room k A
  gd : A.guards = some []
theorem RmG.mono {j k : Nat} {A : Around} (r : RmG k A) (h : j ≤ k) : RmG j A := ⟨r.rm.mono h, r.gd⟩
theorem RmG.units {k : Nat} {A : Around} (r : RmG k A) : A.units + 64 < cLine := r.rm.units
theorem RmG.units0 {k : Nat} {A : Around} (r : RmG k A) : A.units < cLine := r.rm.units0
theorem RmG.make {k : Nat} {A : Around} (r : RmG (k + 1) A) (C : Addr) (us : List Value) (kw : List (Str × Value)) : RmG k (A.under (.builtin "type.__call__" ⟨.ref C :: us, kw⟩)) :=
  ⟨r.rm.make C us kw, by
    have e : (Code.builtin "type.__call__" ⟨.ref C :: us, kw⟩).guards = [] := by
      have q : ∀ z, (Code.builtin "type.__call__" z).isGuard = false := fun z => by first | rfl | simp [Code.isGuard, guardIds] | decide
      unfold Code.guards
      rw [q]
      rfl
    unfold Around.under
    dsimp only
    rw [e]
    exact r.gd⟩
/-- a def's contract, asked for where no guard stands -/
structure FnG (P : Program) (w : World) (K : PySem.W.Frag) (mg : Str → Option Value) (base : Heap) (k : Nat) (f : Addr) (fd : FuncData) (ps : List Str) (sp : Sp) : Prop where
  len : ∀ vs H Q E, sp vs H Q E → vs.length = ps.length
  run : ∀ (A : Around) (fs : List PySem.Env) (s : Shared) (H : Hp) (args : Args) (us : List Value) (vs : List V) (Q : VK) (E : XK), RmG k A → Env0 P w K mg base A fs s H → BindsTo s fd args (ps.zip us) → Vals vs us → sp vs H Q E →
    codeAny (model P w) A (.call (.ref f) args) (CR (L2.CX P w) fs P w H s Q E) s
theorem FnG.of {P : Program} {w : World} {K : PySem.W.Frag} {mg : Str → Option Value} {base : Heap} {k : Nat} {f : Addr} {fd : FuncData} {ps : List Str} {sp : Sp} (F : FnOk P w K mg base (L2.CX P w) k f fd ps sp) : FnG P w K mg base k f fd ps sp :=
  ⟨F.len, fun A fs s H args us vs Q E r => F.run A fs s H args us vs Q E r.rm⟩
/-- THE RULE: the body's judgement gives the contract -/
theorem fnG_of {P : Program} {w : World} {K : PySem.W.Frag} {mg : Str → Option Value} {base : Heap} {k : Nat} {f : Addr} {nm qual : Str} {params : Arguments} {body : List Stmt} {scope : Scope} {dV kV doc pm cdv ct oc : Value} {an od : Option Addr}
    {sl : Array (Option Value)} {N ps : List Str} {sp : Sp} (lk : K.lookup f = some ⟨oc, od, .func (PySem.W.fnOf nm qual params body scope dV kV doc pm an cdv ct), sl⟩) (hcd : PySem.W.codeIn K cdv qual = true) (S : FnScope N ps scope)
    (len : ∀ vs H Q E, sp vs H Q E → vs.length = ps.length)
    (hbody : ∀ (A : Around) (fs : List PySem.Env) (s : Shared) (H : Hp) (vs : List V) (Q : VK) (E : XK), RmG k (A.deeper (envOfC qual scope s.heap.objs.size f cdv)) → sp vs H Q E →
      ∃ t, PSs (cxOf (L2.CX P w) P w K mg base N qual scope f cdv A fs s H E) body t ∧ t { nx := fun _ H' => Q .non H', rt := Q } (L2.start N vs) H) :
    FnG P w K mg base (k + 1) f (PySem.W.fnOf nm qual params body scope dV kV doc pm an cdv ct) ps sp := by
  refine ⟨len, fun A fs s H args us vs Q E hr e0 hb r hsp => ?_⟩
  have kin : K.In s.heap := e0.mod.kin.keeps fun b o q => (e0.bs b o q).1
  have nolim : s.heap.NoLimit := e0.mod.nolimit.keeps fun b o q => (e0.bs b o q).1
  have kinds : ∀ z ∈ ps.zip us, scope.names.lookup z.1 = some .local ∨ (scope.names.lookup z.1 = some .cell ∧ ((cellsFrom (s.heap.objs.size + 1) scope.names []).lookup z.1).isSome = true) := by
    rintro ⟨n, v⟩ hz
    cases S.par n (List.of_mem_zip hz).1 with
    | inl q => exact .inl q
    | inr q => exact .inr ⟨q, PySem.W.cellsFrom_some _ _ _ (.inl q)⟩
  apply codeAny_call_function hr.rm.depth (kin _ _ lk) rfl S.co S.gen rfl (PySem.W.codeRec_of kin hcd)
  apply hb
  apply wpAny_newFunctionEnv_cells S.kind kinds
  intro env he s1 x
  subst he
  refine ⟨nolim.keeps x.toInCall.keep, codeAny_func ?_⟩
  obtain ⟨t, ht, hq⟩ := hbody A fs s H vs Q E ⟨hr.rm.deeper _, hr.gd⟩ hsp
  have I := inv_start (CX := L2.CX P w) (mg := mg) (base := base) (E := E) S hr.rm.hd e0 (len _ _ _ _ hsp) r x
  have done : ∀ {σ' : L2.St} {H' : Hp} {v : V} {u : Value} {s' : Shared}, Inv (cxOf (L2.CX P w) P w K mg base N qual scope f cdv A fs s H E) [] σ' H' s' → RelV v u → Q v H' → CE fs P w H s Q u s' :=
    fun J rv q => ⟨_, _, J.os, J.bare, J.base, J.hok, rv, q⟩
  refine wpAny_mono (ht.run [] s1 (L2.start N vs) H _ I hq) ?_ (fun e s' hs => hs)
  intro fl s' hs
  match fl, hs with
  | .ret u, ⟨_, _, _, J, rv, q⟩ => exact done J rv q
  | .next, ⟨_, _, J, q⟩ => exact done (v := V.non) (u := Value.none) J rfl q
  | .brk, ⟨_, _, _, q⟩ => exact q.elim
  | .cont, ⟨_, _, _, q⟩ => exact q.elim

/-- the law's contract at the heap that the top leaves -/
theorem law_callG {P : Program} {w : World} {K : PySem.W.Frag} {mg mb : Str → Option Value} {k : Nat} {fa a : Addr} {fd : FuncData} {x : Str} {sp : Sp} {s1 : Shared} {vs : List Value} {ns : List Int}
    (kin : K.In s1.heap) (hns : s1.heap.Ns mainGlobals mg) (hb : s1.heap.Ns builtinsNs mb) (hbb : ∀ y : Str, y ≠ "__name__" → mb y = bootBuiltins y) (hlim : s1.heap.NoLimit) (hg : s1.gens = #[])
    (ha : s1.heap.get? a = some { cls := .type "list", data := .seq vs.toArray }) (hi : IntsAre vs ns) (hl : ns.length ≤ sizeLine) (hr : RmG k callerA)
    (F : ∀ base : Heap, K.In base → base.Ns mainGlobals mg → FnG P w K mg base k fa fd [x] sp) (hbind : ∀ (s : Shared) (u : Value), BindsTo s fd ⟨[u], []⟩ [(x, u)])
    (hsp : ∀ H : Hp, SqL K H a (ns.map V.int) → sp [.ref a] H (fun v _ => v = .bl true) fun _ _ _ => False)
    (hCX : ∀ H e s', L2.CX P w [] H s1 (fun _ _ _ => False) e s' → False) :
    codeAny (model P w) callerA (.call (.ref fa) ⟨[.ref a], []⟩) (fun r s' => r = .ok (.ret (.bool true)) ∧ OldK s1.heap s'.heap ∧ s'.os = s1.os ∧ AllBare s'.gens) s1 := by
  have rv := vals_ints hi
  have main : ∀ H : Hp, (∀ b, H b = none ∨ ∃ ob xs, H b = some (.frz ob (.lst xs))) → SqL K H a (ns.map V.int) → HOk P w H s1.heap → (∀ b, H b ≠ none → b = a) → (H a ≠ none → K.lookup a = none) →
      codeAny (model P w) callerA (.call (.ref fa) ⟨[.ref a], []⟩) (fun r s' => r = .ok (.ret (.bool true)) ∧ OldK s1.heap s'.heap ∧ s'.os = s1.os ∧ AllBare s'.gens) s1 := by
    intro H hO hS hok hA hK
    have hid : ∀ {b : Addr} {o : Obj}, s1.heap.get? b = some o → H b = none → (hidT s1.heap H).get? b = some o := fun e n => hidT_get e n
    have no : ∀ {b : Addr} {o : Obj} {es : Array DictEntry} {ep : Nat}, s1.heap.get? b = some o → o.data = .dict es ep → H b = none := by
      intro b o es ep e d
      cases q : H b with
      | none => rfl
      | some u =>
        obtain rfl : b = a := hA b (by rw [q]; simp)
        rw [ha] at e
        cases e
        cases (show Data.seq vs.toArray _ = Data.dict es ep from d)
    have ns' : ∀ {b : Addr} {m : Str → Option Value}, s1.heap.Ns b m → (hidT s1.heap H).Ns b m := by
      rintro b m ⟨o, es, ep, e, d, r⟩
      exact ⟨o, es, ep, hid e (no e d), d, r⟩
    have kb : K.In (hidT s1.heap H) := by
      intro b o e
      refine hid (kin b o e) ?_
      cases q : H b with
      | none => rfl
      | some u =>
        obtain rfl : b = a := hA b (by rw [q]; simp)
        rw [hK (by rw [q]; simp)] at e
        cases e
    obtain ⟨mc, l1, l2⟩ := hlim
    have md : Mod K mg (hidT s1.heap H) := ⟨kb, ns' hns, ⟨mb, ns' hb, hbb⟩, mc, ns' l1, l2⟩
    have e0 : Env0 P w K mg (hidT s1.heap H) callerA [] s1 H := ⟨rfl, md, fun b o e => of_hidT e, Nat.le_of_eq (hidT_size _ _), trivial, fun b hb => absurd (show b ∈ ([] : List Addr) from hb) (by simp), hok, .of_eq hg⟩
    have run := (F _ kb (ns' hns)).run callerA [] s1 H ⟨[.ref a], []⟩ [.ref a] [.ref a] _ _ hr e0 (hbind s1 (.ref a)) (.cons rfl .nil) (hsp H hS)
    refine codeAny_mono run fun r s' h => ?_
    match r, h with
    | .error e, h => exact (hCX H e s' h).elim
    | .ok .next, h => exact h.elim
    | .ok .brk, h => exact h.elim
    | .ok .cont, h => exact h.elim
    | .ok (.ret u), ⟨v, H', os, bare, un, hok', rel, q⟩ =>
      obtain rfl : v = .bl true := q
      obtain rfl : u = Value.bool true := rel
      refine ⟨rfl, OldK.of_keep fun b o e => ?_, os, bare⟩
      rcases hO b with z | ⟨ob, xs, z⟩
      · exact un.keep b o e z (fun y => by cases (show b ∈ ([] : List Addr) from y)) (by simp)
      · obtain ⟨e1, _⟩ := hok b _ z
        obtain ⟨e2, _⟩ := hok' b _ (un.frzs b ob _ z)
        rw [e] at e1
        cases e1
        exact e2
  cases hk : K.lookup a with
  | some o =>
    have e := kin a o hk
    rw [ha] at e
    cases e
    have z : ns.length = vs.length := hi.length.symm
    exact main (fun _ => none) (fun _ => .inl rfl) (.inr ⟨_, vs.toArray, _, hk, rfl, rfl, rfl, by rw [List.size_toArray, ← z]; exact hl, by simpa using rv⟩) (fun b u z => by cases (show (none : Option HO) = some u from z)) (fun b z => absurd rfl z) fun z => absurd rfl z
  | none =>
    let H : Hp := fun b => if b = a then some (.frz { cls := .type "list", data := .seq vs.toArray } (.lst (ns.map V.int))) else none
    have hat : H a = some (.frz { cls := .type "list", data := .seq vs.toArray } (.lst (ns.map V.int))) := if_pos rfl
    have hne : ∀ b, b ≠ a → H b = none := fun b h => if_neg h
    have only : ∀ b, H b ≠ none → b = a := fun b h => Decidable.byContradiction fun c => h (hne b c)
    refine main H (fun b => ?_) (.inl (.inr ⟨_, hat⟩)) (fun b u z => ?_) only fun _ => hk
    · by_cases c : b = a
      · subst c; exact .inr ⟨_, _, hat⟩
      · exact .inl (hne b c)
    · obtain rfl : b = a := only b (by rw [z]; simp)
      rw [hat] at z
      cases z
      exact ⟨ha, by rw [List.length_map]; exact hl, vs, _, rv, ha⟩
theorem walkG {l : PySem.W.OpenLaw} {n k : Nat} {q : Program} {loose : List Str} {XP : (Str → Option Value) → Heap → Prop} {YP : World → Heap → Prop} {d : DefRec} {K : Params → PySem.W.Frag} {sp : World → Sp} {x : Str}
    (hn : l.most = some n) (hn2 : n ≤ sizeLine) (hdf : d.params.defaults = []) (hr : RmG k callerA)
    (hY : ∀ (w : World) (h : Heap), YP w h → (K w.params).In h)
    (F : ∀ (w : World) (mg : Str → Option Value) (fa : Addr) (h : Heap), (K w.params).In h → h.Ns mainGlobals mg → mg d.name = some (.ref fa) →
      ∃ fd : FuncData, (∀ (s : Shared) (u : Value), BindsTo s fd ⟨[u], []⟩ [(x, u)]) ∧ ∀ base : Heap, (K w.params).In base → base.Ns mainGlobals mg → FnG l.prog w (K w.params) mg base k fa fd [x] (sp w))
    (hsp : ∀ (w : World) (H : Hp) (a : Addr) (ns : List Int), ns.length ≤ n → (∀ z ∈ ns, Builtin.Int.intBits z ≤ 1048576) → SqL (K w.params) H a (ns.map V.int) → sp w [.ref a] H (fun v _ => v = .bl true) fun _ _ _ => False)
    (hCX : ∀ (w : World) (H : Hp) (s : Shared) (e : Value) (s' : Shared), L2.CX l.prog w [] H s (fun _ _ _ => False) e s' → False) :
    PySem.W.WalkO q loose XP YP l.row.toRowW d [] (fun f vs => PySem.call f vs) := by
  refine Att.attach_callB hn hdf ?_
  intro w s0 s1 mg mb fa o pm cd doc a vs ns G Y ho hd hcd hmg hobj hints hlen hbits hg
  have kin := hY w _ Y
  obtain ⟨fd, hb, hF⟩ := F w mg fa _ kin G.T.g hmg
  exact law_callG kin G.T.g G.T.b G.T.builtins G.T.nolimit hg hobj hints (Nat.le_trans hlen hn2) hr hF hb (fun H hS => hsp w H a ns hlen hbits hS) fun H e s' => hCX w H s1 e s'
end DL
set_option Elab.async false
set_option linter.all false
set_option maxRecDepth 100000
set_option maxHeartbeats 1000000
/-! Plain data over the hand layer: what a value is worth as data, who owns which list, and what a piece of code does to both. -/
namespace DL
open PySem PySem.Spec PyProof.Rows L2

inductive D where
  | non | bl (b : Bool) | int (i : Int) | str (x : Str) | ty (n : String) | ref (a : Addr)
  | tup (xs : List D) | ro (xs : List D) | lst (o : Bool) (xs : List D) | ob (o : Bool) (c : String) (fs : List (Str × D)) | dct (o t : Bool) (kvs : List (D × D))
  deriving Inhabited

abbrev Env := List (Option D)
structure Exn where
  cls : String
  fs : List (Str × D)

inductive Out (α : Type) where
  | ok (a : α) (ρ : Env) (q : Bool)
  | ex (c : Exn) (ρ : Env)
  | no
inductive SOut where
  | nx (ρ : Env) | rt (d : D) (ρ : Env) | bk (ρ : Env) | ct (ρ : Env) | ex (c : Exn) (ρ : Env) | no
inductive FOut where
  | ok (d : D) (bs : List D) | ex (c : Exn) (bs : List D) | no

def Out.bind {α β : Type} (o : Out α) (f : α → Env → Out β) : Out β :=
  match o with
  | .ok a ρ q => (match f a ρ with
    | .ok b ρ' q' => .ok b ρ' (q && q')
    | .ex c ρ' => .ex c ρ'
    | .no => .no)
  | .ex c ρ => .ex c ρ
  | .no => .no

/-! ### what a value is worth -/
/-- the names of the module's own tuples -/
def CN : List Str := ["STEPS", "ORIGIN"]
/-- a tuple: tracked, or one of the module's own -/
def TupAt (K : PySem.W.Frag) (G : Hp) (a : Addr) (xs : List V) : Prop := G a = some (.tup xs) ∨
  ∃ (o : Obj) (its : Array Value) (n : Nat), ((∃ nm : Str, nm ∈ CN ∧ PySem.W.nsIn K mainGlobals nm = some (some (.ref a))) ∨ ∃ (x : Str) (r : List V), xs = .str x :: r) ∧ K.lookup a = some o ∧ o.cls = .type "tuple" ∧ o.data = .seq its n ∧ its.size ≤ sizeLine ∧ Vals xs its.toList
def kD : Key → D
  | .inl i => .int i
  | .inr x => .str x
mutual
inductive Is (K : PySem.W.Frag) (G : Hp) : V → D → Prop
  | non : Is K G .non .non
  | bl (b : Bool) : Is K G (.bl b) (.bl b)
  | int (i : Int) : Is K G (.int i) (.int i)
  | str (x : Str) : Is K G (.str x) (.str x)
  | ty (n : String) : Is K G (.ty n) (.ty n)
  | ref (a : Addr) : Is K G (.ref a) (.ref a)
  | tup {a : Addr} {xs : List V} {ds : List D} : TupAt K G a xs → IsAll K G xs ds → Is K G (.ref a) (.tup ds)
  | ro {a : Addr} {xs : List V} {ds : List D} : SqL K G a xs → IsAll K G xs ds → Is K G (.ref a) (.ro ds)
  | lst {a : Addr} {xs : List V} {ds : List D} : Rd G a (.lst xs) → IsAll K G xs ds → Is K G (.ref a) (.lst false ds)
  | ob {a C dx : Addr} {c : String} {fs : List (Str × V)} {ds : List (Str × D)} : PySem.W.nsIn K mainGlobals (c : Str) = some (some (.ref C)) → G a = some (.ins C dx fs) → IsFs K G fs ds → Is K G (.ref a) (.ob false c ds)
  | dctK {a : Addr} {kvs : List (Key × V)} {ds : List (D × D)} : Rd G a (.dK kvs) → IsKs K G kvs ds → Is K G (.ref a) (.dct false false ds)
  | dctT {a : Addr} {kvs : List (List Key × V)} {ds : List (D × D)} : Rd G a (.dT kvs) → IsTs K G kvs ds → Is K G (.ref a) (.dct false true ds)
inductive IsAll (K : PySem.W.Frag) (G : Hp) : List V → List D → Prop
  | nil : IsAll K G [] []
  | cons {v : V} {vs : List V} {d : D} {ds : List D} : Is K G v d → IsAll K G vs ds → IsAll K G (v :: vs) (d :: ds)
inductive IsFs (K : PySem.W.Frag) (G : Hp) : List (Str × V) → List (Str × D) → Prop
  | nil : IsFs K G [] []
  | cons {n : Str} {v : V} {fs : List (Str × V)} {d : D} {ds : List (Str × D)} : Is K G v d → IsFs K G fs ds → IsFs K G ((n, v) :: fs) ((n, d) :: ds)
inductive IsKs (K : PySem.W.Frag) (G : Hp) : List (Key × V) → List (D × D) → Prop
  | nil : IsKs K G [] []
  | cons {k : Key} {v : V} {fs : List (Key × V)} {d : D} {ds : List (D × D)} : Is K G v d → IsKs K G fs ds → IsKs K G ((k, v) :: fs) ((kD k, d) :: ds)
inductive IsTs (K : PySem.W.Frag) (G : Hp) : List (List Key × V) → List (D × D) → Prop
  | nil : IsTs K G [] []
  | cons {k : List Key} {v : V} {fs : List (List Key × V)} {d : D} {ds : List (D × D)} : Is K G v d → IsTs K G fs ds → IsTs K G ((k, v) :: fs) ((.tup (k.map kD), d) :: ds)
end

theorem same_rd {H H' : Hp} {a : Addr} {u : HO} (e : Same H H') (h : Rd H a u) : Rd H' a u := by
  rcases h with h | ⟨o, h⟩
  · exact .inl (e _ _ h)
  · exact .inr ⟨o, e _ _ h⟩
theorem same_tup {K : PySem.W.Frag} {H H' : Hp} {a : Addr} {xs : List V} (e : Same H H') (h : TupAt K H a xs) : TupAt K H' a xs := by
  rcases h with h | h
  · exact .inl (e _ _ h)
  · exact .inr h
theorem sq_tup {K : PySem.W.Frag} {H H' : Hp} {a : Addr} {xs : List V} (e : Same H H') (h : TupAt K H a xs) : SqT K H' a xs := by
  rcases h with h | ⟨o, its, n, _, h⟩
  · exact .inl (.inl (e _ _ h))
  · exact .inr ⟨o, its, n, h⟩
section
variable {K : PySem.W.Frag} {G G' : Hp}
mutual
theorem Is.mono (e : Same G G') : ∀ {v : V} {d : D}, Is K G v d → Is K G' v d
  | _, _, .non => .non
  | _, _, .bl b => .bl b
  | _, _, .int i => .int i
  | _, _, .str x => .str x
  | _, _, .ty n => .ty n
  | _, _, .ref a => .ref a
  | _, _, .tup h r => .tup (same_tup e h) (IsAll.mono e r)
  | _, _, .ro h r => .ro (e.seq h) (IsAll.mono e r)
  | _, _, .lst h r => .lst (same_rd e h) (IsAll.mono e r)
  | _, _, .ob n h r => .ob n (e _ _ h) (IsFs.mono e r)
  | _, _, .dctK h r => .dctK (same_rd e h) (IsKs.mono e r)
  | _, _, .dctT h r => .dctT (same_rd e h) (IsTs.mono e r)
theorem IsAll.mono (e : Same G G') : ∀ {vs : List V} {ds : List D}, IsAll K G vs ds → IsAll K G' vs ds
  | _, _, .nil => .nil
  | _, _, .cons h r => .cons (Is.mono e h) (IsAll.mono e r)
theorem IsFs.mono (e : Same G G') : ∀ {vs : List (Str × V)} {ds : List (Str × D)}, IsFs K G vs ds → IsFs K G' vs ds
  | _, _, .nil => .nil
  | _, _, .cons h r => .cons (Is.mono e h) (IsFs.mono e r)
theorem IsKs.mono (e : Same G G') : ∀ {vs : List (Key × V)} {ds : List (D × D)}, IsKs K G vs ds → IsKs K G' vs ds
  | _, _, .nil => .nil
  | _, _, .cons h r => .cons (Is.mono e h) (IsKs.mono e r)
theorem IsTs.mono (e : Same G G') : ∀ {vs : List (List Key × V)} {ds : List (D × D)}, IsTs K G vs ds → IsTs K G' vs ds
  | _, _, .nil => .nil
  | _, _, .cons h r => .cons (Is.mono e h) (IsTs.mono e r)
end
theorem IsAll.length : ∀ {vs : List V} {ds : List D}, IsAll K G vs ds → vs.length = ds.length
  | _, _, .nil => rfl
  | _, _, .cons _ r => congrArg (· + 1) r.length
theorem IsAll.get : ∀ {vs : List V} {ds : List D} {i : Nat} {v : V}, IsAll K G vs ds → vs[i]? = some v → ∃ d, ds[i]? = some d ∧ Is K G v d
  | _, _, _, _, .nil, h => by simp at h
  | _, _, 0, _, .cons h _, e => by simp at e; subst e; exact ⟨_, rfl, h⟩
  | _, _, i + 1, _, .cons _ r, e => by
    obtain ⟨d, h1, h2⟩ := IsAll.get (i := i) r (by simpa using e)
    exact ⟨d, by simpa using h1, h2⟩
theorem IsAll.get' : ∀ {vs : List V} {ds : List D} {i : Nat} {d : D}, IsAll K G vs ds → ds[i]? = some d → ∃ v, vs[i]? = some v ∧ Is K G v d
  | _, _, _, _, .nil, h => by simp at h
  | _, _, 0, _, .cons h _, e => by simp at e; subst e; exact ⟨_, rfl, h⟩
  | _, _, i + 1, _, .cons _ r, e => by
    obtain ⟨d, h1, h2⟩ := IsAll.get' (i := i) r (by simpa using e)
    exact ⟨d, by simpa using h1, h2⟩
theorem IsAll.append : ∀ {vs ws : List V} {ds es : List D}, IsAll K G vs ds → IsAll K G ws es → IsAll K G (vs ++ ws) (ds ++ es)
  | _, _, _, _, .nil, s => s
  | _, _, _, _, .cons h r, s => .cons h (r.append s)
theorem IsAll.take : ∀ {vs : List V} {ds : List D} (n : Nat), IsAll K G vs ds → IsAll K G (vs.take n) (ds.take n)
  | _, _, 0, _ => by simpa using IsAll.nil
  | _, _, _ + 1, .nil => .nil
  | _, _, n + 1, .cons h r => .cons h (r.take n)
theorem IsAll.drop : ∀ {vs : List V} {ds : List D} (n : Nat), IsAll K G vs ds → IsAll K G (vs.drop n) (ds.drop n)
  | _, _, 0, r => r
  | _, _, _ + 1, .nil => .nil
  | _, _, n + 1, .cons _ r => r.drop n
theorem IsAll.set {v : V} {d : D} (h : Is K G v d) : ∀ {vs : List V} {ds : List D} (i : Nat), IsAll K G vs ds → IsAll K G (vs.set i v) (ds.set i d)
  | _, _, _, .nil => .nil
  | _, _, 0, .cons _ r => .cons h r
  | _, _, i + 1, .cons q r => .cons q (IsAll.set h i r)
theorem IsFs.lookup : ∀ {vs : List (Str × V)} {ds : List (Str × D)} {f : Str} {d : D}, IsFs K G vs ds → ds.lookup f = some d → ∃ v, vs.lookup f = some v ∧ Is K G v d
  | _, _, _, _, .nil, h => by simp at h
  | _, _, f, _, .cons (n := n) h r, e => by
    by_cases c : f = n
    · subst c
      simp [List.lookup] at e ⊢
      subst e
      exact h
    · have c' : (f == n) = false := by simpa using c
      simp only [List.lookup, c'] at e ⊢
      exact r.lookup e
theorem IsFs.lookup_none : ∀ {vs : List (Str × V)} {ds : List (Str × D)} {f : Str}, IsFs K G vs ds → ds.lookup f = none → vs.lookup f = none
  | _, _, _, .nil, _ => by simp
  | _, _, f, .cons (n := n) h r, e => by
    by_cases c : f = n
    · subst c
      simp [List.lookup] at e
    · have c' : (f == n) = false := by simpa using c
      simp only [List.lookup, c'] at e ⊢
      exact r.lookup_none e
end

/-! ### who owns what: a label tells the slot, and the field in it -/
abbrev Lb := Addr → Option (Nat × Option Str)
inductive Own1 (K : PySem.W.Frag) (G H : Hp) (ω : Lb) (l : Nat × Option Str) : V → D → Prop
  | frz {v : V} {d : D} : Is K G v d → Own1 K G H ω l v d
  | lst {a : Addr} {xs : List V} {ds : List D} : ω a = some l → H a = some (.lst xs) → IsAll K G xs ds → Own1 K G H ω l (.ref a) (.lst true ds)
  | dctK {a : Addr} {kvs : List (Key × V)} {ds : List (D × D)} : ω a = some l → H a = some (.dK kvs) → IsKs K G kvs ds → Own1 K G H ω l (.ref a) (.dct true false ds)
  | dctT {a : Addr} {kvs : List (List Key × V)} {ds : List (D × D)} : ω a = some l → H a = some (.dT kvs) → IsTs K G kvs ds → Own1 K G H ω l (.ref a) (.dct true true ds)
inductive OwnFs (K : PySem.W.Frag) (G H : Hp) (ω : Lb) (i : Nat) : List (Str × V) → List (Str × D) → Prop
  | nil : OwnFs K G H ω i [] []
  | cons {n : Str} {v : V} {fs : List (Str × V)} {d : D} {ds : List (Str × D)} : Own1 K G H ω (i, some n) v d → OwnFs K G H ω i fs ds → OwnFs K G H ω i ((n, v) :: fs) ((n, d) :: ds)
inductive Own (K : PySem.W.Frag) (G H : Hp) (ω : Lb) (i : Nat) : V → D → Prop
  | one {v : V} {d : D} : Own1 K G H ω (i, none) v d → Own K G H ω i v d
  | ob {a C dx : Addr} {c : String} {fs : List (Str × V)} {ds : List (Str × D)} : PySem.W.nsIn K mainGlobals (c : Str) = some (some (.ref C)) → ω a = some (i, none) → H a = some (.ins C dx fs) → OwnFs K G H ω i fs ds → Own K G H ω i (.ref a) (.ob true c ds)
section
variable {K : PySem.W.Frag} {G G' H H' : Hp} {ω ω' : Lb} {i j : Nat}
theorem Own.frz {v : V} {d : D} (h : Is K G v d) : Own K G H ω i v d := .one (.frz h)
/-- the heaps go on, the nodes of slot i stand as they did under slot j's label -/
theorem Own1.go {p : Option Str} (e : Same G G') (hω : ∀ a p, ω a = some (i, p) → ω' a = some (j, p) ∧ H' a = H a) {v : V} {d : D} (h : Own1 K G H ω (i, p) v d) : Own1 K G' H' ω' (j, p) v d := by
  cases h with
  | frz h => exact .frz (h.mono e)
  | lst h1 h2 h3 => exact .lst (hω _ _ h1).1 ((hω _ _ h1).2.trans h2) (h3.mono e)
  | dctK h1 h2 h3 => exact .dctK (hω _ _ h1).1 ((hω _ _ h1).2.trans h2) (h3.mono e)
  | dctT h1 h2 h3 => exact .dctT (hω _ _ h1).1 ((hω _ _ h1).2.trans h2) (h3.mono e)
theorem OwnFs.go (e : Same G G') (hω : ∀ a p, ω a = some (i, p) → ω' a = some (j, p) ∧ H' a = H a) : ∀ {fs : List (Str × V)} {ds : List (Str × D)}, OwnFs K G H ω i fs ds → OwnFs K G' H' ω' j fs ds
  | _, _, .nil => .nil
  | _, _, .cons h r => .cons (h.go e hω) (r.go e hω)
theorem Own.go (e : Same G G') (hω : ∀ a p, ω a = some (i, p) → ω' a = some (j, p) ∧ H' a = H a) {v : V} {d : D} (h : Own K G H ω i v d) : Own K G' H' ω' j v d := by
  cases h with
  | one h => exact .one (h.go e hω)
  | ob n h1 h2 h3 => exact .ob n (hω _ _ h1).1 ((hω _ _ h1).2.trans h2) (h3.go e hω)
end

/-! ### frozen data -/
def frz1 : D → D
  | .lst _ ds => .lst false ds
  | .dct _ t ds => .dct false t ds
  | d => d
def frz : D → D
  | .lst _ ds => .lst false ds
  | .dct _ t ds => .dct false t ds
  | .ob _ c fs => .ob false c (fs.map fun p => (p.1, frz1 p.2))
  | d => d
/-- a label's nodes become part of the frozen heap -/
def melt (ω : Lb) (i : Nat) (G H : Hp) : Hp := fun a => match ω a with
  | some (j, _) => if j = i then H a else G a
  | none => G a
def unlab (ω : Lb) (i : Nat) : Lb := fun a => match ω a with
  | some (j, p) => if j = i then none else some (j, p)
  | none => none
section
variable {K : PySem.W.Frag} {G H : Hp} {ω : Lb} {i : Nat}
theorem melt_same (h : ∀ a, ω a ≠ none → G a = none) : Same G (melt ω i G H) := fun a o e => by
  unfold melt
  cases q : ω a with
  | none => exact e
  | some l => rw [h a (by rw [q]; simp)] at e; cases e
theorem melt_le (h : Same G H) : Same (melt ω i G H) H := fun a o e => by
  unfold melt at e
  cases q : ω a with
  | none => rw [q] at e; exact h a o e
  | some l =>
    rw [q] at e
    obtain ⟨j, p⟩ := l
    by_cases c : j = i
    · simpa [c] using e
    · exact h a o (by simpa [c] using e)
theorem melt_at {a : Addr} {p : Option Str} (h : ω a = some (i, p)) : melt ω i G H a = H a := by unfold melt; rw [h]; simp
theorem melt_ne {a : Addr} (h : ∀ p, ω a ≠ some (i, p)) : melt ω i G H a = G a := by
  unfold melt
  cases q : ω a with
  | none => rfl
  | some l =>
    obtain ⟨j, p⟩ := l
    by_cases c : j = i
    · subst c; exact absurd q (h p)
    · simp [c]
theorem unlab_at {a : Addr} {p : Option Str} (h : ω a = some (i, p)) : unlab ω i a = none := by unfold unlab; rw [h]; simp
theorem unlab_some {a : Addr} {l : Nat × Option Str} (h : unlab ω i a = some l) : ω a = some l ∧ l.1 ≠ i := by
  unfold unlab at h
  cases q : ω a with
  | none => rw [q] at h; cases h
  | some m =>
    rw [q] at h
    obtain ⟨j, p⟩ := m
    by_cases c : j = i
    · simp [c] at h
    · simp [c] at h
      subst h
      exact ⟨rfl, c⟩
theorem unlab_keep {a : Addr} {j : Nat} {p : Option Str} (h : ω a = some (j, p)) (c : j ≠ i) : unlab ω i a = some (j, p) := by unfold unlab; rw [h]; simp [c]
theorem Own1.frozen {p : Option Str} (hG : ∀ a, ω a ≠ none → G a = none) {v : V} {d : D} (h : Own1 K G H ω (i, p) v d) : Is K (melt ω i G H) v (frz1 d) := by
  cases h with
  | frz h =>
    have h' := h.mono (melt_same (H := H) (i := i) hG)
    cases h' with
    | lst a b => exact .lst a b
    | non => exact .non
    | bl b => exact .bl b
    | int i => exact .int i
    | str x => exact .str x
    | ty n => exact .ty n
    | ref a => exact .ref a
    | tup a b => exact .tup a b
    | ro a b => exact .ro a b
    | ob n a b => exact .ob n a b
    | dctK a b => exact .dctK a b
    | dctT a b => exact .dctT a b
  | lst h1 h2 h3 => exact .lst (Rd.of ((melt_at h1).trans h2)) (h3.mono (melt_same hG))
  | dctK h1 h2 h3 => exact .dctK (Rd.of ((melt_at h1).trans h2)) (h3.mono (melt_same hG))
  | dctT h1 h2 h3 => exact .dctT (Rd.of ((melt_at h1).trans h2)) (h3.mono (melt_same hG))
theorem OwnFs.frozen (hG : ∀ a, ω a ≠ none → G a = none) : ∀ {fs : List (Str × V)} {ds : List (Str × D)}, OwnFs K G H ω i fs ds → IsFs K (melt ω i G H) fs (ds.map fun p => (p.1, frz1 p.2))
  | _, _, .nil => .nil
  | _, _, .cons h r => .cons (h.frozen hG) (r.frozen hG)
mutual
/-- frozen data that is frozen data: frz does nothing but inside -/
theorem Is.frz {G : Hp} : ∀ {v : V} {d : D}, Is K G v d → Is K G v (DL.frz d)
  | _, _, .non => .non
  | _, _, .bl b => .bl b
  | _, _, .int i => .int i
  | _, _, .str x => .str x
  | _, _, .ty n => .ty n
  | _, _, .ref a => .ref a
  | _, _, .tup h r => .tup h r
  | _, _, .ro h r => .ro h r
  | _, _, .lst h r => .lst h r
  | _, _, .ob n h r => .ob n h (IsFs.frz1 r)
  | _, _, .dctK h r => .dctK h r
  | _, _, .dctT h r => .dctT h r
theorem IsFs.frz1 {G : Hp} : ∀ {vs : List (Str × V)} {ds : List (Str × D)}, IsFs K G vs ds → IsFs K G vs (ds.map fun p => (p.1, DL.frz1 p.2))
  | _, _, .nil => .nil
  | _, _, .cons h r => .cons (by
      cases h with
      | lst a b => exact .lst a b
      | non => exact .non
      | bl b => exact .bl b
      | int i => exact .int i
      | str x => exact .str x
      | ty n => exact .ty n
      | ref a => exact .ref a
      | tup a b => exact .tup a b
      | ro a b => exact .ro a b
      | ob n a b => exact .ob n a b
      | dctK a b => exact .dctK a b
      | dctT a b => exact .dctT a b) (IsFs.frz1 r)
end
theorem Own.frozen (hG : ∀ a, ω a ≠ none → G a = none) {v : V} {d : D} (h : Own K G H ω i v d) : Is K (melt ω i G H) v (DL.frz d) := by
  cases h with
  | one h =>
    cases h with
    | frz h => exact (h.mono (melt_same hG)).frz
    | lst h1 h2 h3 => exact .lst (Rd.of ((melt_at h1).trans h2)) (h3.mono (melt_same hG))
    | dctK h1 h2 h3 => exact .dctK (Rd.of ((melt_at h1).trans h2)) (h3.mono (melt_same hG))
    | dctT h1 h2 h3 => exact .dctT (Rd.of ((melt_at h1).trans h2)) (h3.mono (melt_same hG))
  | ob n h1 h2 h3 => exact .ob n ((melt_at h1).trans h2) (h3.frozen hG)
end

/-! ### what may be owned: things that change -/
def isMut : HO → Bool
  | .lst _ => true
  | .ins _ _ _ => true
  | .dK _ => true
  | .dT _ => true
  | _ => false
def Mu (H : Hp) (a : Addr) : Prop := ∃ o, H a = some o ∧ isMut o = true
theorem Mu.ne {H : Hp} {a : Addr} (h : Mu H a) : H a ≠ none := by
  obtain ⟨o, e, _⟩ := h
  rw [e]
  simp
theorem Mu.same {H H' : Hp} {a : Addr} (e : Same H H') (h : Mu H a) : Mu H' a := by
  obtain ⟨o, q, m⟩ := h
  exact ⟨o, e a o q, m⟩
theorem Mu.of_eq {H H' : Hp} {a : Addr} (h : Mu H a) (e : H' a = H a) : Mu H' a := by
  obtain ⟨o, q, m⟩ := h
  exact ⟨o, e.trans q, m⟩
theorem Mu.upd {H : Hp} {a p : Addr} {o : HO} (h : Mu H a) (m : isMut o = true) : Mu (L2.upd H p o) a := by
  by_cases c : a = p
  · subst c; exact ⟨o, upd_same, m⟩
  · exact h.of_eq (upd_ne c)
theorem Mu.not_xd {H : Hp} {a : Addr} {fs : List (Str × V)} (h : Mu H a) : H a ≠ some (.xd fs) := by
  obtain ⟨o, q, m⟩ := h
  rw [q]
  intro z
  cases z
  cases m
theorem Mu.not_tup {H : Hp} {a : Addr} {xs : List V} (h : Mu H a) : H a ≠ some (.tup xs) := by
  obtain ⟨o, q, m⟩ := h
  rw [q]
  intro z
  cases z
  cases m

/-! ### the state of a body: from where it began, what is frozen, what is owned, what the slots are worth -/
structure Bs where
  G : Hp
  H : Hp
  ω : Lb
  σ : L2.St
/-- an exception at a, in slot i, its dict at dd -/
structure Pin where
  i : Nat
  a : Addr
  dd : Option Addr
  fs : List (Str × V)
  ds : List (Str × D)
structure By where
  l : List Nat
  pin : List Pin
structure PinAt (K : PySem.W.Frag) (b : Bs) (B : By) (p : Pin) : Prop where
  mem : p.i ∈ B.l
  at' : b.σ[p.i]? = some (some (.ref p.a))
  fs : IsFs K b.G p.fs p.ds
  dd : (p.fs = [] ∧ p.dd = none) ∨ ∃ d, p.dd = some d ∧ b.H d = some (.xd p.fs) ∧ b.ω d = none
structure Rel (K : PySem.W.Frag) (b : Bs) (B : By) (G H : Hp) (ω : Lb) (σ : L2.St) (ρ : Env) : Prop where
  le : Same G H
  leG : Same b.G G
  old : ∀ a o, b.ω a = none → b.H a = some o → H a = some o
  dom : ∀ a, H a = none → b.H a = none
  fr : ∀ a, b.H a ≠ none → b.G a = none → G a = none
  own : ∀ a l, ω a = some l → G a = none ∧ Mu H a ∧ (b.H a = none ∨ ∃ p, b.ω a = some (l.1, p))
  bB : ∀ a l, b.ω a = some l → l.1 ∈ B.l
  len : σ.length = ρ.length
  slot : ∀ (i : Nat) (d : D), ρ[i]? = some (some d) → ∃ v, σ[i]? = some (some v) ∧ Own K G H ω i v d
  byr : ∀ i ∈ B.l, σ[i]? = b.σ[i]?
  pin : ∀ p ∈ B.pin, PinAt K b B p
/-- only new things, and what was hidden stays hidden -/
structure Step (G H G' H' : Hp) : Prop where
  g : Same G G'
  h : Same H H'
  hid : ∀ a, H a ≠ none → G a = none → G' a = none
theorem Step.refl (G H : Hp) : Step G H G H := ⟨Same.refl _, Same.refl _, fun _ _ h => h⟩
theorem some_of_ne {H : Hp} {a : Addr} (h : H a ≠ none) : ∃ o, H a = some o := by
  cases q : H a with
  | none => exact absurd q h
  | some o => exact ⟨o, rfl⟩
theorem Same.ne {H H' : Hp} (e : Same H H') {a : Addr} (h : H a ≠ none) : H' a ≠ none := by
  obtain ⟨o, q⟩ := some_of_ne h
  rw [e a o q]; simp
theorem Step.trans {G H G1 H1 G2 H2 : Hp} (a : Step G H G1 H1) (b : Step G1 H1 G2 H2) : Step G H G2 H2 :=
  ⟨a.g.trans b.g, a.h.trans b.h, fun x h g => b.hid x (Same.ne a.h h) (a.hid x h g)⟩
section
variable {K : PySem.W.Frag} {b : Bs} {B : By} {G H G' H' : Hp} {ω ω' : Lb} {σ σ' : L2.St} {ρ ρ' : Env}
theorem lab_of {a : Addr} (h : ω a ≠ none) : ∃ l, ω a = some l := by
  cases q : ω a with
  | none => exact absurd q h
  | some l => exact ⟨l, rfl⟩
theorem Rel.hG (R : Rel K b B G H ω σ ρ) : ∀ a, ω a ≠ none → G a = none := fun a h => by
  obtain ⟨l, q⟩ := lab_of h
  exact (R.own a l q).1
theorem Rel.hH (R : Rel K b B G H ω σ ρ) : ∀ a, ω a ≠ none → H a ≠ none := fun a h => by
  obtain ⟨l, q⟩ := lab_of h
  exact (R.own a l q).2.1.ne
theorem Rel.step (R : Rel K b B G H ω σ ρ) (s : Step G H G' H') (le : Same G' H') : Rel K b B G' H' ω σ ρ where
  le := le
  leG := R.leG.trans s.g
  old := fun a o h e => s.h a o (R.old a o h e)
  dom := fun a e => R.dom a (by
    cases q : H a with
    | none => rfl
    | some o => rw [s.h a o q] at e; cases e)
  fr := fun a h g => s.hid a (fun e => h (R.dom a e)) (R.fr a h g)
  own := fun a l h => ⟨s.hid a (R.own a l h).2.1.ne (R.own a l h).1, (R.own a l h).2.1.same s.h, (R.own a l h).2.2⟩
  bB := R.bB
  len := R.len
  slot := fun i d e => by
    obtain ⟨v, h1, h2⟩ := R.slot i d e
    refine ⟨v, h1, h2.go s.g fun a p q => ⟨q, ?_⟩⟩
    obtain ⟨o, z⟩ := some_of_ne (R.own a _ q).2.1.ne
    rw [z, s.h a o z]
  byr := R.byr
  pin := R.pin
/-- a slot is forgotten -/
theorem Rel.drop (R : Rel K b B G H ω σ ρ) (i : Nat) : Rel K b B G H ω σ (ρ.set i none) where
  le := R.le
  leG := R.leG
  old := R.old
  dom := R.dom
  fr := R.fr
  own := R.own
  bB := R.bB
  len := by rw [List.length_set]; exact R.len
  slot := fun j d e => by
    rw [List.getElem?_set] at e
    split at e
    · split at e <;> cases e
    · exact R.slot j d e
  byr := R.byr
  pin := R.pin
/-- the nodes of slot i are frozen -/
theorem Rel.melt (R : Rel K b B G H ω σ ρ) (i : Nat) (hi : i ∉ B.l) {d : D} (hd : ρ[i]? = some (some d)) :
    Rel K b B (DL.melt ω i G H) H (unlab ω i) σ (ρ.set i (some (frz d))) where
  le := melt_le R.le
  leG := R.leG.trans (melt_same R.hG)
  old := R.old
  dom := R.dom
  fr := fun a h g => by
    by_cases c : ∃ p, ω a = some (i, p)
    · obtain ⟨p, c⟩ := c
      rcases (R.own a _ c).2.2 with z | ⟨p', z⟩
      · exact absurd z h
      · exact absurd (R.bB a _ z) hi
    · rw [melt_ne (fun p z => c ⟨p, z⟩)]
      exact R.fr a h g
  own := fun a l q => by
    obtain ⟨q1, q2⟩ := unlab_some q
    obtain ⟨h1, h2, h3⟩ := R.own a l q1
    refine ⟨?_, h2, h3⟩
    rw [melt_ne (fun p z => by rw [q1] at z; injection z with z; subst z; exact q2 rfl)]
    exact h1
  bB := R.bB
  len := by rw [List.length_set]; exact R.len
  slot := fun j e hj => by
    rw [List.getElem?_set] at hj
    split at hj
    · rename_i c
      subst c
      split at hj
      · cases hj
        obtain ⟨v, h1, h2⟩ := R.slot i d hd
        exact ⟨v, h1, .frz (h2.frozen R.hG)⟩
      · cases hj
    · rename_i c
      obtain ⟨v, h1, h2⟩ := R.slot j e hj
      exact ⟨v, h1, h2.go (melt_same R.hG) fun a p q => ⟨unlab_keep q (fun z => c z.symm), rfl⟩⟩
  byr := R.byr
  pin := R.pin
end
end DL
set_option Elab.async false
set_option linter.all false
set_option maxRecDepth 100000
set_option maxHeartbeats 1000000
namespace DL
open PySem PySem.Spec PyProof.Rows L2

theorem same_upd {H : Hp} {p : Addr} {o : HO} (h : H p = none) : Same H (upd H p o) := fun a u e => by rw [upd_ne (ne_of_none e h)]; exact e
theorem same_none {G H : Hp} (e : Same G H) {p : Addr} (h : H p = none) : G p = none := e.free h
/-- what a piece of code may do: what is frozen stays, what no slot owns stays as it is and unowned, what is hidden stays hidden -/
structure Tr (G H : Hp) (ω : Lb) (G' H' : Hp) (ω' : Lb) : Prop where
  g : Same G G'
  keep : ∀ a o, ω a = none → H a = some o → H' a = some o ∧ ω' a = none
  hid : ∀ a, ω a = none → H a ≠ none → G a = none → G' a = none
  dom : ∀ a, H' a = none → H a = none
theorem Tr.refl {G H : Hp} {ω : Lb} : Tr G H ω G H ω := ⟨Same.refl _, fun _ _ h e => ⟨e, h⟩, fun _ _ _ h => h, fun _ h => h⟩
theorem Tr.trans {G H G1 H1 G2 H2 : Hp} {ω ω1 ω2 : Lb} (a : Tr G H ω G1 H1 ω1) (b : Tr G1 H1 ω1 G2 H2 ω2) : Tr G H ω G2 H2 ω2 where
  g := a.g.trans b.g
  keep := fun x o h e => b.keep x o (a.keep x o h e).2 (a.keep x o h e).1
  hid := fun x h e g => by
    obtain ⟨o, q⟩ := some_of_ne e
    obtain ⟨k1, k2⟩ := a.keep x o h q
    exact b.hid x k2 (by rw [k1]; simp) (a.hid x h e g)
  dom := fun x h => a.dom x (b.dom x h)
theorem Tr.step {G H G' H' : Hp} {ω : Lb} (s : Step G H G' H') : Tr G H ω G' H' ω := ⟨s.g, fun a o h e => ⟨s.h a o e, h⟩, fun a _ h g => s.hid a h g, fun a h => s.h.free h⟩

abbrev Rep (α β : Type) := Bs → Hp → Lb → Hp → Hp → Lb → β → α → Prop
/-- nodes of a value that stands in no slot as yet; Hs, ωs: the state ahead -/
structure Tmp (b : Bs) (Hs : Hp) (ωs : Lb) (G H : Hp) (ω ωt : Lb) : Prop where
  at' : ∀ a, ωt a ≠ none → ω a = none ∧ G a = none ∧ Mu H a ∧ b.H a = none ∧ (Hs a = none ∨ ωs a ≠ none)
abbrev IsR (K : PySem.W.Frag) : Rep D V := fun _ _ _ G _ _ v d => Is K G v d
abbrev IsAR (K : PySem.W.Frag) : Rep (List D) (List V) := fun _ _ _ G _ _ vs ds => IsAll K G vs ds
abbrev EqR (α : Type) : Rep α α := fun _ _ _ _ _ _ x a => x = a
abbrev OwnR (K : PySem.W.Frag) : Rep D V := fun b Hs ωs G H ω v d => ∃ ωt, Tmp b Hs ωs G H ω ωt ∧ Own K G H ωt 0 v d
/-- seen from further back it still holds -/
class Back {α β : Type} (R : Rep α β) : Prop where
  back : ∀ {b : Bs} {G H G1 H1 G' H' : Hp} {ω ω1 ω' : Lb} {x : β} {a : α}, Tr G H ω G1 H1 ω1 → R b H1 ω1 G' H' ω' x a → R b H ω G' H' ω' x a
instance {K : PySem.W.Frag} : Back (IsR K) := ⟨fun _ h => h⟩
instance {K : PySem.W.Frag} : Back (IsAR K) := ⟨fun _ h => h⟩
instance {α : Type} : Back (EqR α) := ⟨fun _ h => h⟩
theorem Tmp.back {b : Bs} {G H G1 H1 G' H' : Hp} {ω ω1 ω' ωt : Lb} (t : Tr G H ω G1 H1 ω1) (T : Tmp b H1 ω1 G' H' ω' ωt) : Tmp b H ω G' H' ω' ωt := ⟨fun a h => by
  obtain ⟨h1, h2, h3, h4, h5⟩ := T.at' a h
  refine ⟨h1, h2, h3, h4, ?_⟩
  cases q : ω a with
  | some l => exact .inr (by simp)
  | none =>
    cases q2 : H a with
    | none => exact .inl rfl
    | some o =>
      obtain ⟨k1, k2⟩ := t.keep a o q q2
      rcases h5 with h5 | h5
      · rw [k1] at h5; cases h5
      · exact absurd k2 h5⟩
instance {K : PySem.W.Frag} : Back (OwnR K) := ⟨fun t ⟨ωt, T, o⟩ => ⟨ωt, T.back t, o⟩⟩
def IsX (K : PySem.W.Frag) (G H : Hp) (c : Exn) (cls : Value) (dd : Option Addr) : Prop :=
  (∃ C : Addr, cls = .ref C ∧ PySem.W.nsIn K mainGlobals (c.cls : Str) = some (some (.ref C))) ∧ ((c.fs = [] ∧ dd = none) ∨ ∃ d fs, dd = some d ∧ H d = some (.xd fs) ∧ IsFs K G fs c.fs)

section
variable (K : PySem.W.Frag) (B : By) (W : WX)
def Post {α β : Type} (b : Bs) (G H : Hp) (ω : Lb) (σ : L2.St) (R : Rep α β) (Q : β → Hp → Prop) : Out α → Prop
  | .ok a ρ' q => ∀ x G' H' ω', Rel K b B G' H' ω' σ ρ' → Tr G H ω G' H' ω' → (q = true → ω' = ω ∧ Same H H') → R b H ω G' H' ω' x a → Q x H'
  | .ex c ρ' => ∀ cls dd G' H' ω', Rel K b B G' H' ω' σ ρ' → Tr G H ω G' H' ω' → IsX K G' H' c cls dd → W cls dd σ H'
  | .no => False
def Sat {α β : Type} (R : Rep α β) (t : L2.St → Hp → (β → Hp → Prop) → Prop) (F : Env → Out α) : Prop :=
  ∀ b G H ω σ ρ, Rel K b B G H ω σ ρ → ∀ Q, Post K B W b G H ω σ R Q (F ρ) → t σ H Q
end
section
variable {K : PySem.W.Frag} {B : By} {W : WX}
/-- an expression, then what leans on it -/
theorem Sat.at0 {α β γ δ : Type} {R : Rep α β} {R' : Rep γ δ} [Back R'] {t : L2.St → Hp → (β → Hp → Prop) → Prop} {F : Env → Out α} {Fu : α → Env → Out γ} {b : Bs} {G H : Hp} {ω : Lb} {σ : L2.St} {ρ : Env} {Q : δ → Hp → Prop} {Q' : β → Hp → Prop}
    (h : ∀ Q, Post K B W b G H ω σ R Q (F ρ) → t σ H Q) (post : Post K B W b G H ω σ R' Q ((F ρ).bind Fu))
    (hu : ∀ G1 H1 ω1 ρ1 x a, Rel K b B G1 H1 ω1 σ ρ1 → Tr G H ω G1 H1 ω1 → R b H ω G1 H1 ω1 x a → Post K B W b G1 H1 ω1 σ R' Q (Fu a ρ1) → Q' x H1) : t σ H Q' := by
  refine h _ ?_
  unfold Out.bind at post
  cases e : F ρ with
  | no => rw [e] at post; exact post
  | ex c ρ1 => rw [e] at post; exact post
  | ok a ρ1 q =>
    rw [e] at post
    intro x G1 H1 ω1 rel1 s1 q1 r1
    refine hu G1 H1 ω1 ρ1 x a rel1 s1 r1 ?_
    dsimp only at post
    cases e2 : Fu a ρ1 with
    | no => rw [e2] at post; exact post
    | ex c ρ2 => rw [e2] at post; exact fun cls dd G2 H2 ω2 r2 s2 i => post cls dd G2 H2 ω2 r2 (s1.trans s2) i
    | ok d ρ2 q' =>
      rw [e2] at post
      intro y G2 H2 ω2 rel2 s2 q2 r2
      refine post y G2 H2 ω2 rel2 (s1.trans s2) (fun hq => ?_) (Back.back s1 r2)
      rw [Bool.and_eq_true] at hq
      obtain ⟨w1, p1⟩ := q1 hq.1
      obtain ⟨w2, p2⟩ := q2 hq.2
      exact ⟨w2.trans w1, p1.trans p2⟩
theorem Sat.at {α β γ δ : Type} {R : Rep α β} {R' : Rep γ δ} [Back R'] {t : L2.St → Hp → (β → Hp → Prop) → Prop} {F : Env → Out α} {Fu : α → Env → Out γ} {b : Bs} {G H : Hp} {ω : Lb} {σ : L2.St} {ρ : Env} {Q : δ → Hp → Prop} {Q' : β → Hp → Prop}
    (h : Sat K B W R t F) (rel : Rel K b B G H ω σ ρ) (post : Post K B W b G H ω σ R' Q ((F ρ).bind Fu))
    (hu : ∀ G1 H1 ω1 ρ1 x a, Rel K b B G1 H1 ω1 σ ρ1 → Tr G H ω G1 H1 ω1 → R b H ω G1 H1 ω1 x a → Post K B W b G1 H1 ω1 σ R' Q (Fu a ρ1) → Q' x H1) : t σ H Q' := Sat.at0 (h b G H ω σ ρ rel) post hu
theorem Sat.bind {α β γ δ : Type} {R : Rep α β} {R' : Rep γ δ} [Back R'] {t : L2.St → Hp → (β → Hp → Prop) → Prop} {F : Env → Out α} {u : β → L2.St → Hp → (δ → Hp → Prop) → Prop} {Fu : α → Env → Out γ}
    (h : Sat K B W R t F) (hu : ∀ b Hs ωs G H ω σ ρ, Rel K b B G H ω σ ρ → ∀ x a, R b Hs ωs G H ω x a → ∀ Q, Post K B W b G H ω σ R' Q (Fu a ρ) → u x σ H Q) :
    Sat K B W R' (fun σ H Q => t σ H fun x H1 => u x σ H1 Q) (fun ρ => (F ρ).bind Fu) := fun b G H ω σ ρ rel Q post =>
  h.at rel post fun G1 H1 ω1 ρ1 x a rel1 _ r p => hu b H ω G1 H1 ω1 σ ρ1 rel1 x a r Q p
/-- nothing happens -/
theorem Post.now {α β : Type} {b : Bs} {G H : Hp} {ω : Lb} {σ : L2.St} {ρ : Env} {R : Rep α β} {Q : β → Hp → Prop} {a : α} {x : β} (rel : Rel K b B G H ω σ ρ) (h : Post K B W b G H ω σ R Q (.ok a ρ true)) (r : R b H ω G H ω x a) : Q x H :=
  h x G H ω rel .refl (fun _ => ⟨rfl, Same.refl _⟩) r
theorem Post.step {α β : Type} {b : Bs} {G H G' H' : Hp} {ω : Lb} {σ : L2.St} {ρ : Env} {R : Rep α β} {Q : β → Hp → Prop} {a : α} {x : β} (rel : Rel K b B G H ω σ ρ) (h : Post K B W b G H ω σ R Q (.ok a ρ true)) (s : Step G H G' H') (le : Same G' H') (r : R b H ω G' H' ω x a) : Q x H' :=
  h x G' H' ω (rel.step s le) (.step s) (fun _ => ⟨rfl, s.h⟩) r
end

/-! ### what an operation on values gives: a value, a new list, or nothing is told -/
inductive Res where
  | val (d : D) | new (ds : List D) | no
def PostR (K : PySem.W.Frag) (G H : Hp) (Q : VK) : Res → Prop
  | .val d => ∀ v G' H', Step G H G' H' → Same G' H' → Is K G' v d → Q v H'
  | .new ds => ∀ p xs, H p = none → IsAll K G xs ds → Q (.ref p) (upd H p (.lst xs))
  | .no => False
def resE (r : Res) (ρ : Env) : Out D := match r with
  | .val d => .ok d ρ true
  | .new ds => .ok (.lst false ds) ρ true
  | .no => .no
def resO (r : Res) (ρ : Env) : Out D := match r with
  | .val d => .ok d ρ true
  | .new ds => .ok (.lst true ds) ρ true
  | .no => .no
/-- a new object, frozen at once -/
theorem Step.new {G H : Hp} {p : Addr} {o : HO} (le : Same G H) (h : H p = none) : Step G H (upd G p o) (upd H p o) where
  g := same_upd (same_none le h)
  h := same_upd h
  hid := fun a ha g => by
    by_cases c : a = p
    · subst c; exact absurd h ha
    · rw [upd_ne c]; exact g
theorem same_both {G H : Hp} {p : Addr} {o : HO} (le : Same G H) : Same (upd G p o) (upd H p o) := fun a u e => by
  by_cases c : a = p
  · subst c; rw [upd_same] at e ⊢; exact e
  · rw [upd_ne c] at e ⊢; exact le a u e
/-- a new object that is not frozen -/
theorem Step.hidden {G H : Hp} {p : Addr} {o : HO} (h : H p = none) : Step G H G (upd H p o) := ⟨Same.refl _, same_upd h, fun _ _ g => g⟩
section
variable {K : PySem.W.Frag} {B : By} {W : WX} {b : Bs} {G H : Hp} {ω : Lb} {σ : L2.St} {ρ : Env} {Q : VK}
theorem res_e {r : Res} (rel : Rel K b B G H ω σ ρ) (h : Post K B W b G H ω σ (IsR K) Q (resE r ρ)) : PostR K G H Q r := by
  cases r with
  | val d => exact fun v G' H' s le i => Post.step rel h s le i
  | new ds => exact fun p xs hp i => Post.step rel h (Step.new rel.le hp) (same_both rel.le) (.lst (Rd.of upd_same) (i.mono (same_upd (same_none rel.le hp))))
  | no => exact h
theorem own_new {p : Addr} {xs : List V} {ds : List D} (rel : Rel K b B G H ω σ ρ) (hp : H p = none) (i : IsAll K G xs ds) : OwnR K b H ω G (upd H p (.lst xs)) ω (.ref p) (.lst true ds) := by
  refine ⟨fun a => if a = p then some (0, none) else none, ⟨fun a ha => ?_⟩, .one (.lst (by simp) upd_same i)⟩
  by_cases c : a = p
  · subst c
    refine ⟨?_, same_none rel.le hp, ⟨_, upd_same, rfl⟩, rel.dom _ hp, .inl hp⟩
    cases q : ω a with
    | none => rfl
    | some l => exact absurd hp (rel.own a l q).2.1.ne
  · simp [c] at ha
theorem own_frz {Hs : Hp} {ωs : Lb} {v : V} {d : D} (h : Is K G v d) : OwnR K b Hs ωs G H ω v d := ⟨fun _ => none, ⟨fun a ha => absurd rfl ha⟩, .frz h⟩
theorem res_o {r : Res} (rel : Rel K b B G H ω σ ρ) (h : Post K B W b G H ω σ (OwnR K) Q (resO r ρ)) : PostR K G H Q r := by
  cases r with
  | val d => exact fun v G' H' s le i => Post.step rel h s le (own_frz i)
  | new ds =>
    intro p xs hp i
    exact Post.step rel h (Step.hidden hp) (rel.le.trans (same_upd hp)) (own_new rel hp i)
  | no => exact h
end

/-! ### judgements -/
section
variable (X : Cx) (B : By) (W : WX)
structure DE (e : Expr) (t : TE) (F : Env → Out D) : Prop where
  pe : PE X e t
  sat : Sat X.K B W (IsR X.K) t F
/-- what may be a new list or object of its own -/
structure DO (e : Expr) (t : TE) (F : Env → Out D) : Prop where
  pe : PE X e t
  sat : Sat X.K B W (OwnR X.K) t F
structure DT (e : Expr) (t : TT) (F : Env → Out Bool) : Prop where
  pt : PT X e t
  sat : Sat X.K B W (EqR Bool) t F
structure DW (e : Expr) (t : TT) (F : Env → Out Bool) : Prop where
  pw : PW X e t
  sat : Sat X.K B W (EqR Bool) t F
structure DA (es : List Expr) (t : TA) (F : Env → Out (List D)) : Prop where
  pa : PA X es t
  sat : Sat X.K B W (IsAR X.K) t F
end

/-! ### from owned to frozen -/
def owned : D → Bool
  | .lst o _ => o
  | .ob o _ _ => o
  | .dct o _ _ => o
  | _ => false
def fFrz (F : Env → Out D) : Env → Out D := fun ρ => match F ρ with
  | .ok d ρ' q => .ok (frz d) ρ' (q && !owned d)
  | .ex c ρ' => .ex c ρ'
  | .no => .no
section
variable {K : PySem.W.Frag} {B : By} {W : WX}
theorem own_is {G H : Hp} {ω : Lb} {i : Nat} {v : V} {d : D} (h : Own K G H ω i v d) (c : owned d = false) : Is K G v d := by
  cases h with
  | one o =>
    cases o with
    | frz i => exact i
    | lst _ _ _ => exact absurd c (by simp [owned])
    | dctK _ _ _ => exact absurd c (by simp [owned])
    | dctT _ _ _ => exact absurd c (by simp [owned])
  | ob _ _ _ _ => exact absurd c (by simp [owned])
theorem own_un {b : Bs} {Hs : Hp} {ωs : Lb} {G H : Hp} {ω : Lb} {v : V} {d : D} (o : OwnR K b Hs ωs G H ω v d) (c : owned d = false) : Is K G v d := by
  obtain ⟨ωt, _, o⟩ := o
  exact own_is o c
theorem Rel.meltT {b : Bs} {Hs : Hp} {ωs : Lb} {G H : Hp} {ω ωt : Lb} {σ : L2.St} {ρ : Env} (R : Rel K b B G H ω σ ρ) (T : Tmp b Hs ωs G H ω ωt) : Rel K b B (DL.melt ωt 0 G H) H ω σ ρ where
  le := melt_le R.le
  leG := R.leG.trans (melt_same fun a h => (T.at' a h).2.1)
  old := R.old
  dom := R.dom
  fr := fun a h g => by
    by_cases c : ∃ p, ωt a = some (0, p)
    · obtain ⟨p, c⟩ := c
      exact absurd (T.at' a (by rw [c]; simp)).2.2.2.1 h
    · rw [melt_ne (fun p z => c ⟨p, z⟩)]
      exact R.fr a h g
  own := fun a l h => by
    obtain ⟨h1, h2, h3⟩ := R.own a l h
    refine ⟨?_, h2, h3⟩
    rw [melt_ne (fun p z => by
      have q := (T.at' a (by rw [z]; simp)).1
      rw [h] at q
      cases q)]
    exact h1
  bB := R.bB
  len := R.len
  slot := fun i d e => by
    obtain ⟨v, h1, h2⟩ := R.slot i d e
    exact ⟨v, h1, h2.go (melt_same fun a h => (T.at' a h).2.1) fun a p q => ⟨q, rfl⟩⟩
  byr := R.byr
  pin := R.pin
theorem Tr.meltT {b : Bs} {G H G1 H1 : Hp} {ω ω1 ωt : Lb} (s : Tr G H ω G1 H1 ω1) (T : Tmp b H ω G1 H1 ω1 ωt) : Tr G H ω (melt ωt 0 G1 H1) H1 ω1 where
  g := s.g.trans (melt_same fun a h => (T.at' a h).2.1)
  keep := s.keep
  hid := fun a h e g => by
    rw [melt_ne (fun p z => ?_)]
    · exact s.hid a h e g
    · rcases (T.at' a (by rw [z]; simp)).2.2.2.2 with y | y
      · exact e y
      · exact y h
  dom := s.dom
theorem sat_frz {t : TE} {F : Env → Out D} (h : Sat K B W (OwnR K) t F) : Sat K B W (IsR K) t (fFrz F) := by
  intro b G H ω σ ρ rel Q post
  refine h b G H ω σ ρ rel Q ?_
  unfold fFrz at post
  cases e : F ρ with
  | no => rw [e] at post; exact post
  | ex c ρ1 => rw [e] at post; exact post
  | ok d ρ1 q =>
    rw [e] at post
    rintro v G1 H1 ω1 rel1 s1 q1 ⟨ωt, T, o⟩
    have hG : ∀ a, ωt a ≠ none → G1 a = none := fun a h => (T.at' a h).2.1
    cases c : owned d with
    | true =>
      refine post v (melt ωt 0 G1 H1) H1 ω1 (rel1.meltT T) (s1.meltT T) (fun hq => ?_) (o.frozen hG)
      rw [c] at hq
      simp at hq
    | false =>
      refine post v G1 H1 ω1 rel1 s1 (fun hq => ?_) (own_is o c).frz
      rw [Bool.and_eq_true] at hq
      exact q1 hq.1
end
end DL
set_option Elab.async false
set_option linter.all false
set_option maxRecDepth 100000
set_option maxHeartbeats 1000000
namespace DL
open PySem PySem.Spec PyProof.Rows L2

/-! ### names and constants -/
def fVar (B : List Nat) (i : Nat) : Env → Out D := fun ρ => match ρ[i]? with
  | some (some d) => if owned d then (if i ∈ B then .no else .ok (frz d) (ρ.set i (some (frz d))) false) else .ok d ρ true
  | _ => .no
def fMov (B : List Nat) (i : Nat) : Env → Out D := fun ρ => match ρ[i]? with
  | some (some d) => if owned d then (if i ∈ B then .no else .ok d (ρ.set i none) false) else .ok d ρ true
  | _ => .no
def fC (d : D) : Env → Out D := fun ρ => .ok d ρ true
theorem tr_melt {G H : Hp} {ω : Lb} {i : Nat} (hG : ∀ a, ω a ≠ none → G a = none) : Tr G H ω (melt ω i G H) H (unlab ω i) where
  g := melt_same hG
  keep := fun a o h e => ⟨e, by
    cases q : unlab ω i a with
    | none => rfl
    | some l => rw [(unlab_some q).1] at h; cases h⟩
  hid := fun a h e g => by rw [melt_ne (fun p z => by rw [h] at z; cases z)]; exact g
  dom := fun _ h => h
theorem tr_unlab {G H : Hp} {ω : Lb} {i : Nat} : Tr G H ω G H (unlab ω i) where
  g := Same.refl _
  keep := fun a o h e => ⟨e, by
    cases q : unlab ω i a with
    | none => rfl
    | some l => rw [(unlab_some q).1] at h; cases h⟩
  hid := fun a h e g => g
  dom := fun _ h => h
section
variable {K : PySem.W.Frag} {B : By} {W : WX}
theorem sat_var {i : Nat} : Sat K B W (IsR K) (tVar i) (fVar B.l i) := by
  intro b G H ω σ ρ rel Q post
  unfold fVar at post
  cases e : ρ[i]? with
  | none => rw [e] at post; exact post.elim
  | some o =>
    cases o with
    | none => rw [e] at post; exact post.elim
    | some d =>
      rw [e] at post
      obtain ⟨v, h1, h2⟩ := rel.slot i d e
      refine ⟨v, h1, ?_⟩
      dsimp only at post
      cases c : owned d with
      | false =>
        rw [c] at post
        exact Post.now rel post (own_is h2 c)
      | true =>
        rw [c] at post
        by_cases m : i ∈ B.l
        · rw [if_pos rfl, if_pos m] at post; exact post.elim
        · rw [if_pos rfl, if_neg m] at post
          exact post v (melt ω i G H) H (unlab ω i) (rel.melt i m e) (tr_melt rel.hG) (fun q => by cases q) (h2.frozen rel.hG)
/-- slot i's nodes stand in no slot -/
theorem Rel.move {b : Bs} {G H : Hp} {ω : Lb} {σ : L2.St} {ρ : Env} (R : Rel K b B G H ω σ ρ) (i : Nat) : Rel K b B G H (unlab ω i) σ (ρ.set i none) where
  le := R.le
  leG := R.leG
  old := R.old
  dom := R.dom
  fr := R.fr
  own := fun a l q => by
    obtain ⟨q1, q2⟩ := unlab_some q
    exact R.own a l q1
  bB := R.bB
  len := by rw [List.length_set]; exact R.len
  slot := fun j d e => by
    rw [List.getElem?_set] at e
    split at e
    · split at e <;> cases e
    · rename_i c
      obtain ⟨v, h1, h2⟩ := R.slot j d e
      exact ⟨v, h1, h2.go (Same.refl _) fun a p q => ⟨unlab_keep q (fun z => c z.symm), rfl⟩⟩
  byr := R.byr
  pin := R.pin
def only (ω : Lb) (i j : Nat) : Lb := fun a => match ω a with
  | some (k, p) => if k = i then some (j, p) else none
  | none => none
theorem only_at {ω : Lb} {i j : Nat} {a : Addr} {p : Option Str} (h : ω a = some (i, p)) : only ω i j a = some (j, p) := by unfold only; rw [h]; simp
theorem only_some {ω : Lb} {i j : Nat} {a : Addr} {l : Nat × Option Str} (h : only ω i j a = some l) : ω a = some (i, l.2) ∧ l.1 = j := by
  unfold only at h
  cases q : ω a with
  | none => rw [q] at h; cases h
  | some m =>
    rw [q] at h
    obtain ⟨k, p⟩ := m
    by_cases c : k = i
    · simp [c] at h; subst h; exact ⟨by rw [c], rfl⟩
    · simp [c] at h
theorem sat_mov {i : Nat} : Sat K B W (OwnR K) (tVar i) (fMov B.l i) := by
  intro b G H ω σ ρ rel Q post
  unfold fMov at post
  cases e : ρ[i]? with
  | none => rw [e] at post; exact post.elim
  | some o =>
    cases o with
    | none => rw [e] at post; exact post.elim
    | some d =>
      rw [e] at post
      obtain ⟨v, h1, h2⟩ := rel.slot i d e
      refine ⟨v, h1, ?_⟩
      dsimp only at post
      cases c : owned d with
      | false =>
        rw [c] at post
        exact Post.now rel post (own_frz (own_is h2 c))
      | true =>
        rw [c] at post
        by_cases m : i ∈ B.l
        · rw [if_pos rfl, if_pos m] at post; exact post.elim
        · rw [if_pos rfl, if_neg m] at post
          refine post v G H (unlab ω i) (rel.move i) tr_unlab (fun q => by cases q) ⟨only ω i 0, ⟨fun a ha => ?_⟩, h2.go (Same.refl _) fun a p q => ⟨only_at q, rfl⟩⟩
          obtain ⟨l, q⟩ := lab_of ha
          obtain ⟨q1, q2⟩ := only_some q
          obtain ⟨z1, z2, z3⟩ := rel.own a _ q1
          refine ⟨unlab_at q1, z1, z2, ?_, .inr (by rw [q1]; simp)⟩
          rcases z3 with z | ⟨p', z⟩
          · exact z
          · exact absurd (rel.bB a _ z) m
theorem sat_c {v : V} {d : D} (h : ∀ G, Is K G v d) : Sat K B W (IsR K) (tC v) (fC d) := fun b G H ω σ ρ rel Q post => Post.now rel post (h G)
end
section
variable {X : Cx} {B : By} {W : WX}
theorem DE.o {e : Expr} {t : TE} {F : Env → Out D} (h : DE X B W e t F) : DO X B W e t F := ⟨h.pe, fun b G H ω σ ρ rel Q post => h.sat b G H ω σ ρ rel Q (by
  cases c : F ρ with
  | no => rw [c] at post; exact post
  | ex c' ρ' => rw [c] at post; exact post
  | ok d ρ' q => rw [c] at post; exact fun v G' H' ω' r s f i => post v G' H' ω' r s f (own_frz i))⟩
theorem DO.z {e : Expr} {t : TE} {F : Env → Out D} (h : DO X B W e t F) : DE X B W e t (fFrz F) := ⟨h.pe, sat_frz h.sat⟩
theorem dv (i : Nat) {x : Str} {pos : Pos} (hN : X.N[i]? = some x := by rfl) (hv : Vis X.env.scope x := by first | exact Or.inl rfl | exact Or.inr (Or.inl rfl) | exact Or.inr (Or.inr rfl)) (hd : (x == ("__debug__" : Str)) = false := by decide)
    (hcd : (x == ("__classdict__" : Str)) = false := by decide) : DE X B W (.Name x pos) (tVar i) (fVar B.l i) := ⟨pe_var hN hv hd hcd, sat_var⟩
theorem dm (i : Nat) {x : Str} {pos : Pos} (hN : X.N[i]? = some x := by rfl) (hv : Vis X.env.scope x := by first | exact Or.inl rfl | exact Or.inr (Or.inl rfl) | exact Or.inr (Or.inr rfl)) (hd : (x == ("__debug__" : Str)) = false := by decide)
    (hcd : (x == ("__classdict__" : Str)) = false := by decide) : DO X B W (.Name x pos) (tVar i) (fMov B.l i) := ⟨pe_var hN hv hd hcd, sat_mov⟩
theorem d_int {i j pos} : DE X B W (.Constant (.int i) j pos) (tC (.int i)) (fC (.int i)) := ⟨pe_int, sat_c fun _ => .int i⟩
theorem d_bl {i j pos} : DE X B W (.Constant (.bool i) j pos) (tC (.bl i)) (fC (.bl i)) := ⟨pe_bl, sat_c fun _ => .bl i⟩
theorem d_non {j pos} : DE X B W (.Constant .none j pos) (tC .non) (fC .non) := ⟨pe_non, sat_c fun _ => .non⟩
theorem d_str {x j pos} : DE X B W (.Constant (.str x) j pos) (tC (.str x)) (fC (.str x)) := ⟨pe_str, sat_c fun _ => .str x⟩
/-- a name of the module -/
theorem d_glob {x : Str} {v : V} {u : Value} {d : D} {pos : Pos} (hi : ∀ G, Is X.K G v d) (hg : Gl X x) (hm : X.mg x = some u) (r : RelV v u) (hd : (x == ("__debug__" : Str)) = false := by decide) : DE X B W (.Name x pos) (tC v) (fC d) := ⟨pe_glob hg hm r hd, sat_c hi⟩
theorem d_type {x : Str} {n : String} {pos : Pos} (hg : Gl X x) (hm : X.mg x = none) (hv : bootBuiltins x = some (.type n)) (hn : x ≠ "__name__" := by decide) (hd : (x == ("__debug__" : Str)) = false := by decide) : DE X B W (.Name x pos) (tC (.ty n)) (fC (.ty n)) :=
  ⟨pe_bltn hg hm hv rfl hn hd, sat_c fun _ => .ty n⟩
end

/-! ### operations on values -/
def OpV (K : PySem.W.Frag) (r : R2) (g : D → D → Res) : Prop := ∀ G H x y a c, Same G H → Is K G x a → Is K G y c → ∀ Q, PostR K G H Q (g a c) → r x y H Q
def UnV (K : PySem.W.Frag) (r : V → Hp → VK → Prop) (g : D → Res) : Prop := ∀ G H x a, Same G H → Is K G x a → ∀ Q, PostR K G H Q (g a) → r x H Q
def CallV (K : PySem.W.Frag) (r : List V → Hp → VK → Prop) (g : List D → Res) : Prop := ∀ G H xs as, Same G H → IsAll K G xs as → ∀ Q, PostR K G H Q (g as) → r xs H Q
theorem PostR.here {K : PySem.W.Frag} {G H : Hp} {Q : VK} {v : V} {d : D} (h : PostR K G H Q (.val d)) (le : Same G H) (i : Is K G v d) : Q v H := h v G H (Step.refl _ _) le i
def fOp (g : D → D → Res) (Fa Fb : Env → Out D) : Env → Out D := fun ρ => (Fa ρ).bind fun a ρ1 => (Fb ρ1).bind fun c ρ2 => resE (g a c) ρ2
def fOpO (g : D → D → Res) (Fa Fb : Env → Out D) : Env → Out D := fun ρ => (Fa ρ).bind fun a ρ1 => (Fb ρ1).bind fun c ρ2 => resO (g a c) ρ2
def fUn (g : D → Res) (Fa : Env → Out D) : Env → Out D := fun ρ => (Fa ρ).bind fun a ρ1 => resE (g a) ρ1
def fCl (g : List D → Res) (Fa : Env → Out (List D)) : Env → Out D := fun ρ => (Fa ρ).bind fun a ρ1 => resE (g a) ρ1
def fClO (g : List D → Res) (Fa : Env → Out (List D)) : Env → Out D := fun ρ => (Fa ρ).bind fun a ρ1 => resO (g a) ρ1
section
variable {K : PySem.W.Frag} {B : By} {W : WX} {ta tb : TE} {t : TA} {Fa Fb : Env → Out D} {F : Env → Out (List D)} {r : R2}
theorem sat_op {g : D → D → Res} (hr : OpV K r g) (ha : Sat K B W (IsR K) ta Fa) (hb : Sat K B W (IsR K) tb Fb) : Sat K B W (IsR K) (tOp r ta tb) (fOp g Fa Fb) :=
  Sat.bind (R' := IsR K) (Fu := fun a ρ1 => (Fb ρ1).bind fun c ρ2 => resE (g a c) ρ2) (t := ta) (u := fun x σ H Q => tb σ H fun y H2 => r x y H2 Q) ha fun b Hs ωs G H ω σ ρ rel x a i Q post => hb.at rel post fun G1 H1 ω1 ρ1 y c rel1 s j p => hr G1 H1 x y a c rel1.le (i.mono s.g) j Q (res_e rel1 p)
theorem sat_opO {g : D → D → Res} (hr : OpV K r g) (ha : Sat K B W (IsR K) ta Fa) (hb : Sat K B W (IsR K) tb Fb) : Sat K B W (OwnR K) (tOp r ta tb) (fOpO g Fa Fb) :=
  Sat.bind (R' := OwnR K) (Fu := fun a ρ1 => (Fb ρ1).bind fun c ρ2 => resO (g a c) ρ2) (t := ta) (u := fun x σ H Q => tb σ H fun y H2 => r x y H2 Q) ha fun b Hs ωs G H ω σ ρ rel x a i Q post => hb.at rel post fun G1 H1 ω1 ρ1 y c rel1 s j p => hr G1 H1 x y a c rel1.le (i.mono s.g) j Q (res_o rel1 p)
theorem sat_un {r : V → Hp → VK → Prop} {g : D → Res} (hr : UnV K r g) (ha : Sat K B W (IsR K) ta Fa) : Sat K B W (IsR K) (tUn r ta) (fUn g Fa) :=
  Sat.bind (R' := IsR K) (Fu := fun a ρ1 => resE (g a) ρ1) (t := ta) (u := fun x σ H Q => r x H Q) ha fun b Hs ωs G H ω σ ρ rel x a i Q post => hr G H x a rel.le i Q (res_e rel post)
theorem sat_cl {r : List V → Hp → VK → Prop} {g : List D → Res} (hr : CallV K r g) (ha : Sat K B W (IsAR K) t F) : Sat K B W (IsR K) (tCB r t) (fCl g F) :=
  Sat.bind (R' := IsR K) (Fu := fun a ρ1 => resE (g a) ρ1) (t := t) (u := fun x σ H Q => r x H Q) ha fun b Hs ωs G H ω σ ρ rel x a i Q post => hr G H x a rel.le i Q (res_e rel post)
theorem sat_clO {r : List V → Hp → VK → Prop} {g : List D → Res} (hr : CallV K r g) (ha : Sat K B W (IsAR K) t F) : Sat K B W (OwnR K) (tCB r t) (fClO g F) :=
  Sat.bind (R' := OwnR K) (Fu := fun a ρ1 => resO (g a) ρ1) (t := t) (u := fun x σ H Q => r x H Q) ha fun b Hs ωs G H ω σ ρ rel x a i Q post => hr G H x a rel.le i Q (res_o rel post)
end

/-! ### argument lists, displays -/
def fNil : Env → Out (List D) := fun ρ => .ok [] ρ true
def fCons (F : Env → Out D) (Fr : Env → Out (List D)) : Env → Out (List D) := fun ρ => (F ρ).bind fun a ρ1 => (Fr ρ1).bind fun as ρ2 => .ok (a :: as) ρ2 true
def tupD (ds : List D) : Res := if ds.length ≤ sizeLine then .val (.tup ds) else .no
def lstD (ds : List D) : Res := if ds.length ≤ sizeLine then .new ds else .no
section
variable {K : PySem.W.Frag} {B : By} {W : WX} {ta : TE} {t : TA} {Fa : Env → Out D} {F : Env → Out (List D)}
theorem sat_nil : Sat K B W (IsAR K) tNil fNil := fun b G H ω σ ρ rel Q post => Post.now rel post .nil
theorem sat_cons (ha : Sat K B W (IsR K) ta Fa) (hr : Sat K B W (IsAR K) t F) : Sat K B W (IsAR K) (tCons ta t) (fCons Fa F) :=
  Sat.bind (R' := IsAR K) (Fu := fun a ρ1 => (F ρ1).bind fun as ρ2 => .ok (a :: as) ρ2 true) (t := ta) (u := fun x σ H Q => t σ H fun xs H2 => Q (x :: xs) H2) ha fun b Hs ωs G H ω σ ρ rel x a i Q post => hr.at (R' := IsAR K) (Q := Q) (Fu := fun as ρ2 => .ok (a :: as) ρ2 true) rel post fun G1 H1 ω1 ρ1 xs as rel1 s j p => Post.now rel1 p (.cons (i.mono s.g) j)
theorem tup_v : CallV K (fun xs H Q => xs.length ≤ sizeLine ∧ ∀ p, H p = none → Q (.ref p) (upd H p (.tup xs))) tupD := by
  intro G H xs as le i Q post
  unfold tupD at post
  split at post
  · rename_i hz
    exact ⟨by rw [i.length]; exact hz, fun p hp => post _ (upd G p (.tup xs)) _ (Step.new le hp) (same_both le) (.tup (.inl upd_same) (i.mono (same_upd (same_none le hp))))⟩
  · exact post.elim
theorem lst_v : CallV K (fun xs H Q => xs.length ≤ sizeLine ∧ ∀ p, H p = none → Q (.ref p) (upd H p (.lst xs))) lstD := by
  intro G H xs as le i Q post
  unfold lstD at post
  split at post
  · rename_i hz
    exact ⟨by rw [i.length]; exact hz, fun p hp => post p xs hp i⟩
  · exact post.elim
end
section
variable {X : Cx} {B : By} {W : WX} {a c e : Expr} {es : List Expr} {ta tb te : TE} {t : TA} {Fa Fb Fe : Env → Out D} {F : Env → Out (List D)} {pos : Pos}
theorem da_nil : DA X B W [] tNil fNil := ⟨pa_nil, sat_nil⟩
theorem da_cons (h : DE X B W e te Fe) (hr : DA X B W es t F) (hs : starEach (e :: es) X.env = (false, eval e X.env) :: starEach es X.env := by rfl) : DA X B W (e :: es) (tCons te t) (fCons Fe F) := ⟨pa_cons h.pe hr.pa hs, sat_cons h.sat hr.sat⟩
theorem d_tup {x1} (h : DA X B W es t F) : DE X B W (.Tuple es x1 pos) (tTup t) (fCl tupD F) := ⟨pe_tup h.pa, sat_cl tup_v h.sat⟩
theorem d_lst (h : DA X B W es t F) : DE X B W (.List es pos) (tLst t) (fCl lstD F) := ⟨pe_lst h.pa, sat_cl lst_v h.sat⟩
theorem o_lst (h : DA X B W es t F) : DO X B W (.List es pos) (tLst t) (fClO lstD F) := ⟨pe_lst h.pa, sat_clO lst_v h.sat⟩
theorem d_op {op : Operator} {r : R2} {g : D → D → Res} (ho : OpR X (binaryOp op) r) (hv : OpV X.K r g) (ha : DE X B W a ta Fa) (hb : DE X B W c tb Fb) : DE X B W (.BinOp a op c pos) (tOp r ta tb) (fOp g Fa Fb) := ⟨pe_op ho ha.pe hb.pe, sat_op hv ha.sat hb.sat⟩
theorem o_op {op : Operator} {r : R2} {g : D → D → Res} (ho : OpR X (binaryOp op) r) (hv : OpV X.K r g) (ha : DE X B W a ta Fa) (hb : DE X B W c tb Fb) : DO X B W (.BinOp a op c pos) (tOp r ta tb) (fOpO g Fa Fb) := ⟨pe_op ho ha.pe hb.pe, sat_opO hv ha.sat hb.sat⟩
theorem d_un {op : UnaryOp} {r : V → Hp → VK → Prop} {g : D → Res} (ho : UnR X (unaryOp op) r) (hv : UnV X.K r g) (ha : DE X B W a ta Fa) : DE X B W (.UnaryOp op a pos) (tUn r ta) (fUn g Fa) := ⟨pe_un ho ha.pe, sat_un hv ha.sat⟩
theorem d_cmp {op : CmpOp} {r : R2} {g : D → D → Res} (ho : OpR X (compareOp op) r) (hv : OpV X.K r g) (ha : DE X B W a ta Fa) (hb : DE X B W c tb Fb) (hm : behindInMarks op c = false := by first | exact nomark _ (by decide) (by decide) | rfl) : DE X B W (.Compare a [op] [c] pos) (tOp r ta tb) (fOp g Fa Fb) := ⟨pe_cmpR ho ha.pe hb.pe hm, sat_op hv ha.sat hb.sat⟩
theorem d_ix {r : R2} {g : D → D → Res} (ho : IxR X r) (hv : OpV X.K r g) (ha : DE X B W a ta Fa) (hb : DE X B W c tb Fb) (hs : PlainIx c := by exact fun _ _ => rfl) : DE X B W (.Subscript a c pos) (tOp r ta tb) (fOp g Fa Fb) := ⟨pe_ix ho ha.pe hb.pe hs, sat_op hv ha.sat hb.sat⟩
theorem d_cb {id : String} {r : List V → Hp → VK → Prop} {g : List D → Res} {x : Str} {p : Pos} (hc : CallR X (.builtin id) r) (hw : CallV X.K r g) (hg : Gl X x) (hm : X.mg x = none) (hv : bootBuiltins x = some (.builtin id)) (ha : DA X B W (e :: es) t F) (hn : x ≠ "__name__" := by decide)
    (hdb : (x == ("__debug__" : Str)) = false := by decide) (he : starEach (e :: es) X.env = (false, eval e X.env) :: starEach es X.env := by rfl) (hpl : (backTo pos (starEach es X.env)).any (·.1) = false := by rfl) :
    DE X B W (.Call (.Name x p) (e :: es) [] pos) (tCB r t) (fCl g F) := ⟨pe_callB hc hg hm hv ha.pa hn hdb he hpl, sat_cl hw ha.sat⟩
theorem o_cb {id : String} {r : List V → Hp → VK → Prop} {g : List D → Res} {x : Str} {p : Pos} (hc : CallR X (.builtin id) r) (hw : CallV X.K r g) (hg : Gl X x) (hm : X.mg x = none) (hv : bootBuiltins x = some (.builtin id)) (ha : DA X B W (e :: es) t F) (hn : x ≠ "__name__" := by decide)
    (hdb : (x == ("__debug__" : Str)) = false := by decide) (he : starEach (e :: es) X.env = (false, eval e X.env) :: starEach es X.env := by rfl) (hpl : (backTo pos (starEach es X.env)).any (·.1) = false := by rfl) :
    DO X B W (.Call (.Name x p) (e :: es) [] pos) (tCB r t) (fClO g F) := ⟨pe_callB hc hg hm hv ha.pa hn hdb he hpl, sat_clO hw ha.sat⟩
end

/-! ### tests -/
def truD : D → Option Bool
  | .non => some false
  | .bl k => some k
  | .int i => some (i != 0)
  | .str x => if x.length ≤ sizeLine then some ((x.length : Int) != 0) else none
  | .tup xs => some (!xs.isEmpty)
  | .ro xs => some (!xs.isEmpty)
  | .lst _ xs => some (!xs.isEmpty)
  | _ => none
def liftB (o : Option Bool) (ρ : Env) : Out Bool := match o with
  | some k => .ok k ρ true
  | none => .no
def blD : D → Option Bool
  | .bl k => some k
  | _ => none
def fTru (F : Env → Out D) : Env → Out Bool := fun ρ => (F ρ).bind fun a ρ1 => liftB (truD a) ρ1
def fTst (F : Env → Out D) : Env → Out Bool := fun ρ => (F ρ).bind fun a ρ1 => liftB (blD a) ρ1
def fAnd (F G : Env → Out Bool) : Env → Out Bool := fun ρ => (F ρ).bind fun k ρ1 => if k = true then G ρ1 else .ok false ρ1 true
def fOr (F G : Env → Out Bool) : Env → Out Bool := fun ρ => (F ρ).bind fun k ρ1 => if k = true then .ok true ρ1 true else G ρ1
def fNot (F : Env → Out Bool) : Env → Out Bool := fun ρ => (F ρ).bind fun k ρ1 => .ok (!k) ρ1 true
def fAndV (F G : Env → Out D) : Env → Out D := fun ρ => (F ρ).bind fun a ρ1 => match blD a with
  | some k => if k = true then G ρ1 else .ok (.bl false) ρ1 true
  | none => .no
def fOrV (F G : Env → Out D) : Env → Out D := fun ρ => (F ρ).bind fun a ρ1 => match blD a with
  | some k => if k = true then .ok (.bl true) ρ1 true else G ρ1
  | none => .no
def fNotV (F : Env → Out D) : Env → Out D := fun ρ => (F ρ).bind fun a ρ1 => match blD a with
  | some k => .ok (.bl (!k)) ρ1 true
  | none => .no
def fIf {α : Type} (T : Env → Out Bool) (F G : Env → Out α) : Env → Out α := fun ρ => (T ρ).bind fun k ρ1 => if k = true then F ρ1 else G ρ1
section
variable {K : PySem.W.Frag} {B : By} {W : WX}
theorem is_empty {G : Hp} {xs : List V} {ds : List D} (h : IsAll K G xs ds) : (!xs.isEmpty) = !ds.isEmpty := by cases h <;> rfl
theorem tru_v {G H : Hp} {x : V} {d : D} {k : Bool} (le : Same G H) (i : Is K G x d) (h : truD d = some k) : TruV K x H k := by
  cases i with
  | non => cases h; exact rfl
  | bl b => cases h; exact rfl
  | int b => cases h; exact rfl
  | str b =>
    have h' : (if b.length ≤ sizeLine then some ((b.length : Int) != 0) else none) = some k := h
    split at h'
    · rename_i hz
      cases h'
      exact ⟨hz, rfl⟩
    · cases h'
  | tup hs ha => cases h; exact .inr (.inl ⟨_, sq_tup le hs, (is_empty ha).symm⟩)
  | ro hs ha => cases h; exact .inl ⟨_, le.seq hs, (is_empty ha).symm⟩
  | lst hs ha => cases h; exact .inl ⟨_, .inl (same_rd le hs), (is_empty ha).symm⟩
  | ty _ => cases h
  | ref _ => cases h
  | ob _ _ _ => cases h
  | dctK _ _ => cases h
  | dctT _ _ => cases h
theorem Post.b {b : Bs} {G H : Hp} {ω : Lb} {σ : L2.St} {ρ : Env} {o : Option Bool} {Q : Bool → Hp → Prop} (rel : Rel K b B G H ω σ ρ) (post : Post K B W b G H ω σ (EqR Bool) Q (liftB o ρ)) : ∃ k, o = some k ∧ Q k H := by
  cases o with
  | none => exact post.elim
  | some k => exact ⟨k, rfl, Post.now rel post rfl⟩
theorem sat_tru {t : TE} {F : Env → Out D} (h : Sat K B W (IsR K) t F) : Sat K B W (EqR Bool) (fun σ H Q => t σ H fun x H' => ∃ k, TruV K x H' k ∧ Q k H') (fTru F) :=
  Sat.bind (R' := EqR Bool) (Fu := fun a ρ1 => liftB (truD a) ρ1) (t := t) (u := fun x σ H Q => ∃ k, TruV K x H k ∧ Q k H) h fun b Hs ωs G H ω σ ρ rel x a i Q post => by
    obtain ⟨k, e, q⟩ := Post.b rel post
    exact ⟨k, tru_v rel.le i e, q⟩
theorem bl_v {G : Hp} {x : V} {d : D} {k : Bool} (i : Is K G x d) (h : blD d = some k) : x = .bl k := by
  cases i <;> first
    | (cases h; rfl)
    | cases h
theorem sat_tst {t : TE} {F : Env → Out D} (h : Sat K B W (IsR K) t F) : Sat K B W (EqR Bool) (tTest t) (fTst F) :=
  Sat.bind (R' := EqR Bool) (Fu := fun a ρ1 => liftB (blD a) ρ1) (t := t) (u := fun x σ H Q => ∃ k, x = .bl k ∧ Q k H) h fun b Hs ωs G H ω σ ρ rel x a i Q post => by
    obtain ⟨k, e, q⟩ := Post.b rel post
    exact ⟨k, bl_v i e, q⟩
theorem sat_and {t u : TT} {F G : Env → Out Bool} (h : Sat K B W (EqR Bool) t F) (h' : Sat K B W (EqR Bool) u G) : Sat K B W (EqR Bool) (tAnd t u) (fAnd F G) :=
  Sat.bind (R' := EqR Bool) (Fu := fun k ρ1 => if k = true then G ρ1 else .ok false ρ1 true) (t := t) (u := fun c σ H1 Q => if c = true then u σ H1 Q else Q false H1) h fun b Hs ωs G H ω σ ρ rel x a i Q post => by
    subst i
    cases x with
    | true => exact h' b G H ω σ ρ rel Q post
    | false => exact Post.now rel post rfl
theorem sat_or {t u : TT} {F G : Env → Out Bool} (h : Sat K B W (EqR Bool) t F) (h' : Sat K B W (EqR Bool) u G) : Sat K B W (EqR Bool) (tOr t u) (fOr F G) :=
  Sat.bind (R' := EqR Bool) (Fu := fun k ρ1 => if k = true then .ok true ρ1 true else G ρ1) (t := t) (u := fun c σ H1 Q => if c = true then Q true H1 else u σ H1 Q) h fun b Hs ωs G H ω σ ρ rel x a i Q post => by
    subst i
    cases x with
    | true => exact Post.now rel post rfl
    | false => exact h' b G H ω σ ρ rel Q post
theorem sat_not {t : TT} {F : Env → Out Bool} (h : Sat K B W (EqR Bool) t F) : Sat K B W (EqR Bool) (tNot t) (fNot F) :=
  Sat.bind (R' := EqR Bool) (Fu := fun k ρ1 => .ok (!k) ρ1 true) (t := t) (u := fun c σ H1 Q => Q (!c) H1) h fun b Hs ωs G H ω σ ρ rel x a i Q post => by
    subst i
    exact Post.now rel post rfl
theorem sat_andV {t u : TE} {F G : Env → Out D} (h : Sat K B W (IsR K) t F) (h' : Sat K B W (IsR K) u G) : Sat K B W (IsR K) (tAndV t u) (fAndV F G) :=
  Sat.bind (R' := IsR K) (Fu := fun a ρ1 => match blD a with | some k => if k = true then G ρ1 else .ok (.bl false) ρ1 true | none => .no) (t := t) (u := fun x σ H1 Q => ∃ c, x = .bl c ∧ if c = true then u σ H1 Q else Q (.bl false) H1) h fun b Hs ωs G H ω σ ρ rel x a i Q post => by
    cases e : blD a with
    | none => rw [e] at post; exact post.elim
    | some k =>
      rw [e] at post
      refine ⟨k, bl_v i e, ?_⟩
      cases k with
      | true => exact h' b G H ω σ ρ rel Q post
      | false => exact Post.now rel post (.bl false)
theorem sat_orV {t u : TE} {F G : Env → Out D} (h : Sat K B W (IsR K) t F) (h' : Sat K B W (IsR K) u G) : Sat K B W (IsR K) (tOrV t u) (fOrV F G) :=
  Sat.bind (R' := IsR K) (Fu := fun a ρ1 => match blD a with | some k => if k = true then .ok (.bl true) ρ1 true else G ρ1 | none => .no) (t := t) (u := fun x σ H1 Q => ∃ c, x = .bl c ∧ if c = true then Q (.bl true) H1 else u σ H1 Q) h fun b Hs ωs G H ω σ ρ rel x a i Q post => by
    cases e : blD a with
    | none => rw [e] at post; exact post.elim
    | some k =>
      rw [e] at post
      refine ⟨k, bl_v i e, ?_⟩
      cases k with
      | true => exact Post.now rel post (.bl true)
      | false => exact h' b G H ω σ ρ rel Q post
theorem sat_notV {t : TE} {F : Env → Out D} (h : Sat K B W (IsR K) t F) : Sat K B W (IsR K) (tNotV t) (fNotV F) :=
  Sat.bind (R' := IsR K) (Fu := fun a ρ1 => match blD a with | some k => .ok (.bl (!k)) ρ1 true | none => .no) (t := t) (u := fun x σ H1 Q => ∃ c, x = .bl c ∧ Q (.bl (!c)) H1) h fun b Hs ωs G H ω σ ρ rel x a i Q post => by
    cases e : blD a with
    | none => rw [e] at post; exact post.elim
    | some k =>
      rw [e] at post
      exact ⟨k, bl_v i e, Post.now rel post (.bl _)⟩
theorem sat_if {α β : Type} {R : Rep α β} [Back R] {c : TT} {t u : L2.St → Hp → (β → Hp → Prop) → Prop} {T : Env → Out Bool} {F G : Env → Out α} (hc : Sat K B W (EqR Bool) c T) (h : Sat K B W R t F) (h' : Sat K B W R u G) :
    Sat K B W R (fun σ H Q => c σ H fun k H1 => if k = true then t σ H1 Q else u σ H1 Q) (fIf T F G) :=
  Sat.bind (R' := R) (Fu := fun k ρ1 => if k = true then F ρ1 else G ρ1) (t := c) (u := fun k σ H1 Q => if k = true then t σ H1 Q else u σ H1 Q) hc fun b Hs ωs G H ω σ ρ rel x a i Q post => by
    subst i
    cases x with
    | true => exact h b G H ω σ ρ rel Q post
    | false => exact h' b G H ω σ ρ rel Q post
end
section
variable {X : Cx} {B : By} {W : WX} {a c e : Expr} {es rest : List Expr} {ta tb te : TE} {t u : TT} {Fa Fb Fe : Env → Out D} {F G : Env → Out Bool} {pos : Pos}
/-- an expression whose test is its value's truth -/
theorem t_tru (h : DE X B W a ta Fa) (he : ∀ whole, isTrue a X.env whole = (do let v ← whole; standAt a.pos; holding [v] (truthy v)) := by exact fun _ => rfl) : DT X B W a (fun σ H Q => ta σ H fun x H' => ∃ k, TruV X.K x H' k ∧ Q k H') (fTru Fa) := ⟨pt_truth h.pe he, sat_tru h.sat⟩
theorem t_cmp {op : CmpOp} {r : R2} {g : D → D → Res} (ho : OpR X (compareOp op) r) (hv : OpV X.K r g) (ha : DE X B W a ta Fa) (hb : DE X B W c tb Fb) (hm : behindInMarks op c = false := by first | exact nomark _ (by decide) (by decide) | rfl) : DT X B W (.Compare a [op] [c] pos) (tTest (tOp r ta tb)) (fTst (fOp g Fa Fb)) := ⟨pt_cmpR ho ha.pe hb.pe hm, sat_tst (sat_op hv ha.sat hb.sat)⟩
theorem t_not (h : DT X B W a t F) : DT X B W (.UnaryOp .Not a pos) (tNot t) (fNot F) := ⟨pt_not h.pt, sat_not h.sat⟩
theorem w_and1 (h : DT X B W a t F) : DW X B W (.BoolOp .And [a] pos) t F := ⟨pw_and1 h.pt, h.sat⟩
theorem w_or1 (h : DT X B W a t F) : DW X B W (.BoolOp .Or [a] pos) t F := ⟨pw_or1 h.pt, h.sat⟩
theorem w_and (h : DT X B W a t F) (h' : DW X B W (.BoolOp .And (c :: rest) pos) u G) : DW X B W (.BoolOp .And (a :: c :: rest) pos) (tAnd t u) (fAnd F G) := ⟨pw_and h.pt h'.pw, sat_and h.sat h'.sat⟩
theorem w_or (h : DT X B W a t F) (h' : DW X B W (.BoolOp .Or (c :: rest) pos) u G) : DW X B W (.BoolOp .Or (a :: c :: rest) pos) (tOr t u) (fOr F G) := ⟨pw_or h.pt h'.pw, sat_or h.sat h'.sat⟩
theorem t_w (h : DW X B W a t F) : DT X B W a t F := ⟨h.pw.pt, h.sat⟩
theorem d_one {op} (h : DE X B W a ta Fa) : DE X B W (.BoolOp op [a] pos) ta Fa := ⟨pe_one h.pe, h.sat⟩
theorem d_and (h : DE X B W a ta Fa) (h' : DE X B W (.BoolOp .And (c :: rest) pos) tb Fb) : DE X B W (.BoolOp .And (a :: c :: rest) pos) (tAndV ta tb) (fAndV Fa Fb) := ⟨pe_and h.pe h'.pe, sat_andV h.sat h'.sat⟩
theorem d_or (h : DE X B W a ta Fa) (h' : DE X B W (.BoolOp .Or (c :: rest) pos) tb Fb) : DE X B W (.BoolOp .Or (a :: c :: rest) pos) (tOrV ta tb) (fOrV Fa Fb) := ⟨pe_or h.pe h'.pe, sat_orV h.sat h'.sat⟩
theorem d_not (h : DE X B W a ta Fa) : DE X B W (.UnaryOp .Not a pos) (tNotV ta) (fNotV Fa) := ⟨pe_not h.pe, sat_notV h.sat⟩
theorem d_if (hc : DT X B W e t F) (h : DE X B W a ta Fa) (h' : DE X B W c tb Fb) : DE X B W (.IfExp e a c pos) (tIf t ta tb) (fIf F Fa Fb) := ⟨pe_ifExp hc.pt h.pe h'.pe, sat_if hc.sat h.sat h'.sat⟩
theorem o_if (hc : DT X B W e t F) (h : DO X B W a ta Fa) (h' : DO X B W c tb Fb) : DO X B W (.IfExp e a c pos) (tIf t ta tb) (fIf F Fa Fb) := ⟨pe_ifExp hc.pt h.pe h'.pe, sat_if hc.sat h.sat h'.sat⟩
end
end DL
set_option Elab.async false
set_option linter.all false
set_option maxRecDepth 100000
set_option maxHeartbeats 1000000
namespace DL
open PySem PySem.Spec PyProof.Rows L2

instance (a b : Int) : Decidable (IntMulOk a b) := by unfold IntMulOk; infer_instance
/-! ### what operators give -/
def addD : D → D → Res
  | .int a, .int b => .val (.int (a + b))
  | .str a, .str b => if a.length + b.length ≤ sizeLine then .val (.str (a ++ b)) else .no
  | .tup a, .tup b => if a.length + b.length ≤ sizeLine then .val (.tup (a ++ b)) else .no
  | .lst _ a, .lst _ b => if a.length + b.length ≤ sizeLine then .new (a ++ b) else .no
  | _, _ => .no
def subD : D → D → Res
  | .int a, .int b => .val (.int (a - b))
  | _, _ => .no
/-- a text k times -/
def repS (k : Int) (x : Str) : Str := ⟨(List.replicate k.toNat x.cps.toList).flatten.toArray⟩
def mulD : D → D → Res
  | .int a, .int b => if IntMulOk a b then .val (.int (a * b)) else .no
  | .str a, .int k => if 0 ≤ k ∧ k ≤ 16777216 ∧ a.length * k.toNat ≤ 16777216 then .val (.str (repS k a)) else .no
  | _, _ => .no
def fdivD : D → D → Res
  | .int a, .int b => if 0 < b ∧ b.natAbs.log2 < 9000 then .val (.int (a / b)) else .no
  | _, _ => .no
def modD : D → D → Res
  | .int a, .int b => if 0 < b then .val (.int (a % b)) else .no
  | _, _ => .no
def powD : D → D → Res
  | .int a, .int b => if 0 ≤ b ∧ b ≤ 1000000 ∧ a.natAbs < 2 ^ 64 then .val (.int (a ^ b.toNat)) else .no
  | _, _ => .no
def negD : D → Res
  | .int a => .val (.int (-a))
  | _ => .no
def ltD : D → D → Res
  | .int a, .int b => .val (.bl (decide (a < b)))
  | .str a, .str b => .val (.bl (decide (a.cps.toList < b.cps.toList)))
  | _, _ => .no
def leD : D → D → Res
  | .int a, .int b => .val (.bl (decide (a ≤ b)))
  | _, _ => .no
def gtD : D → D → Res
  | .int a, .int b => .val (.bl (decide (b < a)))
  | _, _ => .no
def geD : D → D → Res
  | .int a, .int b => .val (.bl (decide (b ≤ a)))
  | _, _ => .no
def isNonD : D → Bool
  | .non => true
  | _ => false
def isD : D → D → Res
  | d, .non => .val (.bl (isNonD d))
  | .bl a, .bl b => .val (.bl (decide (a = b)))
  | _, _ => .no
def isntD : D → D → Res
  | d, .non => .val (.bl (!isNonD d))
  | .bl a, .bl b => .val (.bl (!decide (a = b)))
  | _, _ => .no
mutual
def toPy : D → Option PyData
  | .non => some .none
  | .bl b => some (.bool b)
  | .int i => some (.int i)
  | .str x => some (.str x)
  | .tup ds => (toPys ds).map .tuple
  | .lst _ ds => (toPys ds).map .list
  | .ro ds => (toPys ds).map .list
  | .ty _ => none
  | .ref _ => none
  | .ob _ _ _ => none
  | .dct _ _ _ => none
def toPys : List D → Option (List PyData)
  | [] => some []
  | d :: ds => match toPy d, toPys ds with
    | some p, some ps => some (p :: ps)
    | _, _ => none
end
def eqP (a b : D) : Option Bool := match toPy a, toPy b with
  | some p, some q => if SeqAt.shaped p = true ∧ SeqAt.shaped q = true then some (PyData.eqv p q) else none
  | _, _ => none
def eqB : D → D → Option Bool
  | .str x, .str y => some (x == y)
  | a, b => eqP a b
def eqD (a b : D) : Res := match eqB a b with
  | some k => .val (.bl k)
  | none => .no
def neD (a b : D) : Res := match eqB a b with
  | some k => .val (.bl (!k))
  | none => .no
/-- == among what is flat; nothing is told of the rest -/
def flatD : D → Bool
  | .non => true
  | .bl _ => true
  | .int _ => true
  | .str _ => true
  | _ => false
def eqF : D → D → Bool
  | .non, .non => true
  | .bl a, .bl b => a == b
  | .bl a, .int b => (if a then 1 else 0) == b
  | .int a, .bl b => a == (if b then 1 else 0)
  | .int a, .int b => a == b
  | .str a, .str b => a == b
  | _, _ => false
/-- in a tuple of data of any depth -/
def inDp (x : D) (ds : List D) : Option Bool := match toPy x, toPys ds with
  | some p, some ps => if SeqAt.shaped p = true ∧ SeqAt.shaped (.tuple ps) = true then some (ps.any fun z => PyData.eqv z p) else none
  | _, _ => none
def inB (x : D) : D → Option Bool
  | .tup ds => if flatD x = true ∧ ds.all flatD = true then some (ds.any fun y => eqF y x) else inDp x ds
  | .lst _ ds => if flatD x = true ∧ ds.all flatD = true then some (ds.any fun y => eqF y x) else (match toPy x, toPys ds with
    | some p, some ps => if SeqAt.shaped p = true ∧ SeqAt.shaped (.list ps) = true then some (ps.any fun z => PyData.eqv z p) else none
    | _, _ => none)
  | .str b => (match x with
    | .str a => some (!(Builtin.Str.occurrences b a 0 b.length 1).isEmpty)
    | _ => none)
  | _ => none
def inD (x y : D) : Res := match inB x y with
  | some k => .val (.bl k)
  | none => .no
def ninD (x y : D) : Res := match inB x y with
  | some k => .val (.bl (!k))
  | none => .no
def ixD : D → D → Res
  | .tup ds, .int i => (match atI ds i with
    | some d => .val d
    | none => .no)
  | .lst _ ds, .int i => (match atI ds i with
    | some d => .val d
    | none => .no)
  | .ro ds, .int i => (match atI ds i with
    | some d => .val d
    | none => .no)
  | .str z, .int i => if z.length ≤ sizeLine then (match atI z.cps.toList i with
    | some c => .val (.str ⟨#[c]⟩)
    | none => .no) else .no
  | _, _ => .no
def cutD (xs : List D) (lo hi : Option Int) : List D := (xs.drop (HT.sIx xs.length 0 lo)).take (HT.sIx xs.length xs.length hi - HT.sIx xs.length 0 lo)

section
variable {X : Cx} {K : PySem.W.Frag} {G H : Hp}
theorem rd_list {pins : List (Addr × Obj)} {s : Shared} {σ : L2.St} {a : Addr} {xs : List V} (I : Inv X pins σ H s) (h : Rd H a (.lst xs)) :
    xs.length ≤ sizeLine ∧ ∃ (its : List Value) (n : Nat), Vals xs its ∧ s.heap.get? a = some { cls := .type "list", data := .seq its.toArray n } := h.ok I.hok
/-- xs + ys of two lists that may be read -/
def rCatL : R2 := fun x y H Q => ∃ l b xs zs, x = .ref l ∧ y = .ref b ∧ Rd H l (.lst xs) ∧ Rd H b (.lst zs) ∧ xs.length + zs.length ≤ sizeLine ∧ ∀ p, H p = none → Q (.ref p) (upd H p (.lst (xs ++ zs)))
theorem op_catL : OpR X (binaryOp .Add) rCatL := by
  intro pins s σ H x y v u Q I rx ry h
  obtain ⟨l, b, xs, zs, rfl, rfl, hx, hy, hz, q⟩ := h
  cases rx
  cases ry
  obtain ⟨z1, its, n, r, e⟩ := rd_list I hx
  obtain ⟨z2, its2, n2, r2, e2⟩ := rd_list I hy
  have l1 := r.length
  have l2 := r2.length
  refine PySem.P.add_list e e2 ?_ (by rw [List.size_toArray, List.size_toArray]; omega)
  have ea : its.toArray ++ its2.toArray = (its ++ its2).toArray := by simp
  rw [ea]
  exact ⟨.ref _, _, I.lnew (t' := s.toks) (r.append r2) (by rw [List.length_append]; omega), rfl, q _ I.fresh⟩
def rAddA (K : PySem.W.Frag) : R2 := fun x y H Q => rI0 (fun i j => .int (i + j)) x y H Q ∨ ((∃ i j, x = .str i ∧ y = .str j ∧ i.length + j.length ≤ sizeLine ∧ Q (.str (i ++ j)) H) ∨ (rCatA K x y H Q ∨ rCatL x y H Q))
theorem op_addA : OpR X (binaryOp .Add) (rAddA X.K) := op_add.or (op_add_str.or (op_catA.or op_catL))
theorem isAll_ne {xs : List V} {ds : List D} (h : IsAll K G xs ds) (e : ds.isEmpty = false) : xs ≠ [] := by
  cases h with
  | nil => cases e
  | cons _ _ => simp
theorem add_v : OpV K (rAddA K) addD := by
  intro G H x y a c le ia ic Q post
  cases ia <;> cases ic <;> first
    | exact post.elim
    | exact .inl ⟨_, _, rfl, rfl, post.here le (.int _)⟩
    | skip
  · have p : PostR K G H Q (if _ then _ else _) := post
    split at p
    · rename_i hz
      exact .inr (.inl ⟨_, _, rfl, rfl, hz, p.here le (.str _)⟩)
    · exact p.elim
  · rename_i p1 xs ds hs ha p2 ys es hs2 hb
    have p : PostR K G H Q (if ds.length + es.length ≤ sizeLine then .val (.tup (ds ++ es)) else .no) := post
    split at p
    · rename_i hz
      refine .inr (.inr (.inl ⟨_, _, _, _, rfl, rfl, sq_tup le hs, sq_tup le hs2, by rw [ha.length, hb.length]; exact hz, fun e => ?_, fun _ e => ?_, fun _ _ q hq => ?_⟩))
      · subst e
        cases ha
        rw [List.nil_append] at p
        exact p.here le (.tup hs2 hb)
      · subst e
        cases hb
        rw [List.append_nil] at p
        exact p.here le (.tup hs ha)
      exact p _ (upd G q (.tup (xs ++ ys))) _ (Step.new le hq) (same_both le) (.tup (.inl upd_same) ((ha.append hb).mono (same_upd (same_none le hq))))
    · exact p.elim
  · rename_i p1 xs ds hs ha p2 ys es hs2 hb
    have p : PostR K G H Q (if ds.length + es.length ≤ sizeLine then .new (ds ++ es) else .no) := post
    split at p
    · rename_i hz
      exact .inr (.inr (.inr ⟨_, _, _, _, rfl, rfl, same_rd le hs, same_rd le hs2, by rw [ha.length, hb.length]; exact hz, fun q hq => p q _ hq (ha.append hb)⟩))
    · exact p.elim
theorem sub_v : OpV K (rI0 fun i j => .int (i - j)) subD := by
  intro G H x y a c le ia ic Q post
  cases ia <;> cases ic <;> first
    | exact post.elim
    | exact ⟨_, _, rfl, rfl, post.here le (.int _)⟩
theorem op_mulI {X : Cx} : OpR X (binaryOp .Mult) (rI IntMulOk fun i j => .int (i * j)) := opI fun _ _ _ _ _ _ _ hc q => mul_int q hc
def rMulS : R2 := fun x y H Q => ∃ a k, x = .str a ∧ y = .int k ∧ 0 ≤ k ∧ k ≤ 16777216 ∧ a.length * k.toNat ≤ 16777216 ∧ Q (.str (repS k a)) H
theorem repS_one {x : Str} : repS 1 x = x := by
  unfold repS
  rw [show (1 : Int).toNat = 1 from rfl]
  simp
theorem repS_nil {x : Str} {k : Int} (h : x.length = 0) : repS k x = x := by
  obtain ⟨a⟩ := x
  have e : a = #[] := Array.eq_empty_of_size_eq_zero h
  subst e
  unfold repS
  simp
theorem repS_length {x : Str} {k : Int} : (repS k x).length = k.toNat * x.length := by
  show ((List.replicate k.toNat x.cps.toList).flatten.toArray).size = k.toNat * x.cps.size
  rw [List.size_toArray, List.length_flatten, List.map_replicate, List.sum_replicate_nat, Array.length_toList]
theorem fold_rep {α : Type} (a : Array α) : ∀ (m : Nat) (b : Array α), (List.replicate m a).foldl (· ++ ·) b = b ++ (List.replicate m a.toList).flatten.toArray
  | 0, b => by simp
  | m + 1, b => by
    rw [List.replicate_succ, List.foldl_cons, fold_rep a m, List.replicate_succ, List.flatten_cons]
    apply Array.toList_inj.mp
    simp
theorem op_mulS {X : Cx} : OpR X (binaryOp .Mult) rMulS := by
  intro pins s σ H x y v u Q I rx ry h
  obtain ⟨a, k, rfl, rfl, h0, h1, hz, q⟩ := h
  obtain ⟨t, rfl⟩ := rx
  obtain ⟨t2, rfl⟩ := ry
  have sz : sizeLine = 16777216 := sizeLine_eq
  have hm : (a.length : Int) * k ≤ 16777216 := by
    have e : ((a.length * k.toNat : Nat) : Int) = (a.length : Int) * k := by
      rw [Int.natCast_mul, Int.toNat_of_nonneg h0]
    omega
  refine PySem.P.mul_str ?_ (fun c1 _ => ?_) (fun c1 c2 => ?_) ?_
  · rw [decide_eq_false (by omega), decide_eq_false (by omega)]; rfl
  · have : (a.length : Int) ≤ (2 ^ 63 - 1) / k := (Int.le_ediv_iff_mul_le (by omega)).mpr (by omega)
    omega
  · exact decide_eq_false (by omega)
  · have done : ∀ (t' : Tok) (st : Shared), Inv X pins σ H st → ∃ x1 H1, Inv X pins σ H1 st ∧ RelV x1 (.str (repS k a) t') ∧ Q x1 H1 := fun t' st J => ⟨.str _, H, J, ⟨t', rfl⟩, q⟩
    by_cases c1 : k < 1
    · rw [if_pos c1]
      have e : k = 0 := by omega
      subst e
      exact ⟨by decide, done _ _ (I.tok _)⟩
    · rw [if_neg c1]
      by_cases c2 : (k == 1 || a.length == 0) = true
      · rw [if_pos c2]
        have e : repS k a = a := by
          rcases Bool.or_eq_true .. |>.mp c2 with z | z
          · rw [eq_of_beq z]; exact repS_one
          · exact repS_nil (eq_of_beq z)
        have d := done t s I
        rw [e] at d
        exact d
      · rw [if_neg c2, fold_rep]
        have e : (⟨#[] ++ (List.replicate k.toNat a.cps.toList).flatten.toArray⟩ : Str) = repS k a := by unfold repS; simp
        rw [e]
        refine ⟨?_, done _ _ (I.tok _)⟩
        show (repS k a).length ≤ sizeLine
        rw [repS_length, Nat.mul_comm]
        omega
theorem op_mulA {X : Cx} : OpR X (binaryOp .Mult) (fun x y H Q => rI IntMulOk (fun i j => .int (i * j)) x y H Q ∨ rMulS x y H Q) := op_mulI.or op_mulS
theorem mul_v : OpV K (fun x y H Q => rI IntMulOk (fun i j => .int (i * j)) x y H Q ∨ rMulS x y H Q) mulD := by
  intro G H x y a c le ia ic Q post
  cases ia <;> cases ic <;> first
    | exact post.elim
    | skip
  · have p : PostR K G H Q (if _ then _ else _) := post
    split at p
    · rename_i hz
      exact .inl ⟨_, _, rfl, rfl, hz, p.here le (.int _)⟩
    · exact p.elim
  · have p : PostR K G H Q (if _ then _ else _) := post
    split at p
    · rename_i hz
      exact .inr ⟨_, _, rfl, rfl, hz.1, hz.2.1, hz.2.2, p.here le (.str _)⟩
    · exact p.elim
theorem fdiv_v : OpV K (rI CDivW fun i j => .int (i / j)) fdivD := by
  intro G H x y a c le ia ic Q post
  cases ia <;> cases ic <;> first
    | exact post.elim
    | skip
  have p : PostR K G H Q (if _ then _ else _) := post
  split at p
  · rename_i hz
    exact ⟨_, _, rfl, rfl, hz, p.here le (.int _)⟩
  · exact p.elim
theorem mod_v : OpV K (rI (fun _ j => 0 < j) fun i j => .int (i % j)) modD := by
  intro G H x y a c le ia ic Q post
  cases ia <;> cases ic <;> first
    | exact post.elim
    | skip
  have p : PostR K G H Q (if _ then _ else _) := post
  split at p
  · rename_i hz
    exact ⟨_, _, rfl, rfl, hz, p.here le (.int _)⟩
  · exact p.elim
theorem pow_v : OpV K (rI CPow fun i j => .int (i ^ j.toNat)) powD := by
  intro G H x y a c le ia ic Q post
  cases ia <;> cases ic <;> first
    | exact post.elim
    | skip
  have p : PostR K G H Q (if _ then _ else _) := post
  split at p
  · rename_i hz
    exact ⟨_, _, rfl, rfl, hz, p.here le (.int _)⟩
  · exact p.elim
theorem neg_v : UnV K (rU fun i => .int (-i)) negD := by
  intro G H x a le ia Q post
  cases ia <;> first
    | exact post.elim
    | exact ⟨_, rfl, post.here le (.int _)⟩
def rLtA : R2 := fun x y H Q => rI0 (fun i j => .bl (decide (i < j))) x y H Q ∨ ∃ i j, x = .str i ∧ y = .str j ∧ Q (.bl (decide (i.cps.toList < j.cps.toList))) H
theorem op_ltA : OpR X (compareOp .Lt) rLtA := op_lt.or op_lt_str
theorem lt_v : OpV K rLtA ltD := by
  intro G H x y a c le ia ic Q post
  cases ia <;> cases ic <;> first
    | exact post.elim
    | exact .inl ⟨_, _, rfl, rfl, post.here le (.bl _)⟩
    | exact .inr ⟨_, _, rfl, rfl, post.here le (.bl _)⟩
theorem le_v : OpV K (rI0 fun i j => .bl (decide (i ≤ j))) leD := by
  intro G H x y a c le ia ic Q post
  cases ia <;> cases ic <;> first
    | exact post.elim
    | exact ⟨_, _, rfl, rfl, post.here le (.bl _)⟩
theorem gt_v : OpV K (rI0 fun i j => .bl (decide (j < i))) gtD := by
  intro G H x y a c le ia ic Q post
  cases ia <;> cases ic <;> first
    | exact post.elim
    | exact ⟨_, _, rfl, rfl, post.here le (.bl _)⟩
theorem ge_v : OpV K (rI0 fun i j => .bl (decide (j ≤ i))) geD := by
  intro G H x y a c le ia ic Q post
  cases ia <;> cases ic <;> first
    | exact post.elim
    | exact ⟨_, _, rfl, rfl, post.here le (.bl _)⟩
def rIsA : R2 := fun x y H Q => (y = .non ∧ Q (.bl (decide (x = .non))) H) ∨ rIsB x y H Q
theorem op_isA : OpR X (compareOp .Is) rIsA := op_isN.or op_isBl
def rIsntA : R2 := fun x y H Q => (y = .non ∧ Q (.bl (!decide (x = .non))) H) ∨ rNotB x y H Q
theorem op_isntA : OpR X (compareOp .IsNot) rIsntA := op_notN.or op_notBl
theorem is_non {x : V} {d : D} (i : Is K G x d) : decide (x = .non) = isNonD d := by
  cases i <;> first
    | exact decide_eq_true rfl
    | exact decide_eq_false (fun z => nomatch z)
theorem is_v : OpV K rIsA isD := by
  intro G H x y a c le ia ic Q post
  cases ic with
  | non => exact .inl ⟨rfl, by rw [is_non ia]; exact PostR.here (K := K) (G := G) (d := .bl (isNonD a)) (by cases a <;> exact post) le (.bl _)⟩
  | bl b => cases ia <;> first
    | exact post.elim
    | exact .inr ⟨_, _, rfl, rfl, post.here le (.bl _)⟩
  | _ => cases ia <;> exact post.elim
theorem isnt_v : OpV K rIsntA isntD := by
  intro G H x y a c le ia ic Q post
  cases ic with
  | non => exact .inl ⟨rfl, by rw [is_non ia]; exact PostR.here (K := K) (G := G) (d := .bl (!isNonD a)) (by cases a <;> exact post) le (.bl _)⟩
  | bl b => cases ia <;> first
    | exact post.elim
    | exact .inr ⟨_, _, rfl, rfl, post.here le (.bl _)⟩
  | _ => cases ia <;> exact post.elim
mutual
theorem dp_of (le : Same G H) : ∀ {v : V} {d : D} {p : PyData}, Is K G v d → toPy d = some p → Dp K H v p
  | _, _, _, .non, e => by simp only [toPy, Option.some.injEq] at e; subst e; exact .non
  | _, _, _, .bl b, e => by simp only [toPy, Option.some.injEq] at e; subst e; exact .bl b
  | _, _, _, .int b, e => by simp only [toPy, Option.some.injEq] at e; subst e; exact .int b
  | _, _, _, .str b, e => by simp only [toPy, Option.some.injEq] at e; subst e; exact .str b
  | _, _, _, .ty _, e => by simp [toPy] at e
  | _, _, _, .ref _, e => by simp [toPy] at e
  | _, _, _, .ob _ _ _, e => by simp [toPy] at e
  | _, _, _, .dctK _ _, e => by simp [toPy] at e
  | _, _, _, .dctT _ _, e => by simp [toPy] at e
  | _, _, _, .tup (ds := ds) h r, e => by
    simp only [toPy] at e
    cases q : toPys ds with
    | none => rw [q] at e; cases e
    | some ps => rw [q] at e; cases e; exact .tup (sq_tup le h) (dps_of le r q)
  | _, _, _, .lst (ds := ds) h r, e => by
    simp only [toPy] at e
    cases q : toPys ds with
    | none => rw [q] at e; cases e
    | some ps => rw [q] at e; cases e; exact .lst (.inl (same_rd le h)) (dps_of le r q)
  | _, _, _, .ro (ds := ds) h r, e => by
    simp only [toPy] at e
    cases q : toPys ds with
    | none => rw [q] at e; cases e
    | some ps => rw [q] at e; cases e; exact .lst (le.seq h) (dps_of le r q)
theorem dps_of (le : Same G H) : ∀ {vs : List V} {ds : List D} {ps : List PyData}, IsAll K G vs ds → toPys ds = some ps → DpAll K H vs ps
  | _, _, _, .nil, e => by simp only [toPys, Option.some.injEq] at e; subst e; exact .nil
  | _, _, _, .cons (d := d) (ds := ds) h r, e => by
    simp only [toPys] at e
    cases q : toPy d with
    | none => rw [q] at e; cases e
    | some p =>
      cases q2 : toPys ds with
      | none => rw [q, q2] at e; cases e
      | some ps => rw [q, q2] at e; cases e; exact .cons (dp_of le h q) (dps_of le r q2)
end
theorem eqP_some {a c : D} {k : Bool} (h : eqP a c = some k) : ∃ p q, toPy a = some p ∧ toPy c = some q ∧ SeqAt.shaped p = true ∧ SeqAt.shaped q = true ∧ k = PyData.eqv p q := by
  unfold eqP at h
  cases e : toPy a with
  | none => rw [e] at h; cases h
  | some p =>
    cases e2 : toPy c with
    | none => rw [e, e2] at h; cases h
    | some q =>
      rw [e, e2] at h
      dsimp only at h
      split at h
      · rename_i hz
        cases h
        exact ⟨p, q, rfl, rfl, hz.1, hz.2, rfl⟩
      · cases h
theorem eqB_cases {a c : D} {k : Bool} (h : eqB a c = some k) : (∃ x y, a = .str x ∧ c = .str y ∧ k = (x == y)) ∨ eqP a c = some k := by
  unfold eqB at h
  split at h
  · cases h; exact .inl ⟨_, _, rfl, rfl, rfl⟩
  · exact .inr h
def rEqA (K : PySem.W.Frag) : R2 := fun x y H Q => rEq x y H Q ∨ rEqD K x y H Q
def rNeA (K : PySem.W.Frag) : R2 := fun x y H Q => rNe x y H Q ∨ rNeD K x y H Q
theorem op_eqA {X : Cx} (hu : X.A.units + 64 < cLine) : OpR X (compareOp .Eq) (rEqA X.K) := op_eq.or (op_eqD hu)
theorem op_neA {X : Cx} (hu : X.A.units + 64 < cLine) : OpR X (compareOp .NotEq) (rNeA X.K) := op_ne.or (op_neD hu)
theorem str_dec {x y : Str} : decide (V.str x = V.str y) = (x == y) := by
  by_cases h : x = y
  · subst h; simp
  · have h' : ¬ V.str x = V.str y := fun z => h (by cases z; rfl)
    simp [h]
theorem eq_v : OpV K (rEqA K) eqD := by
  intro G H x y a c le ia ic Q post
  unfold eqD at post
  cases e : eqB a c with
  | none => rw [e] at post; exact post.elim
  | some k =>
    rw [e] at post
    rcases eqB_cases e with ⟨s, t, rfl, rfl, rfl⟩ | e
    · cases ia
      cases ic
      exact .inl ⟨rfl, by rw [str_dec]; exact post.here le (.bl _)⟩
    · obtain ⟨p, q, h1, h2, s1, s2, rfl⟩ := eqP_some e
      exact .inr ⟨p, q, dp_of le ia h1, dp_of le ic h2, s1, s2, post.here le (.bl _)⟩
theorem ne_v : OpV K (rNeA K) neD := by
  intro G H x y a c le ia ic Q post
  unfold neD at post
  cases e : eqB a c with
  | none => rw [e] at post; exact post.elim
  | some k =>
    rw [e] at post
    rcases eqB_cases e with ⟨s, t, rfl, rfl, rfl⟩ | e
    · cases ia
      cases ic
      exact .inl ⟨rfl, by rw [str_dec]; exact post.here le (.bl _)⟩
    · obtain ⟨p, q, h1, h2, s1, s2, rfl⟩ := eqP_some e
      exact .inr ⟨p, q, dp_of le ia h1, dp_of le ic h2, s1, s2, post.here le (.bl _)⟩
theorem flat_v {x : V} {d : D} (i : Is K G x d) (h : flatD d = true) : flatV x = true := by
  cases i <;> first
    | rfl
    | cases h
theorem flats_v : ∀ {xs : List V} {ds : List D}, IsAll K G xs ds → ds.all flatD = true → xs.all flatV = true
  | _, _, .nil, _ => rfl
  | _, _, .cons h r, e => by
    rw [List.all_cons, Bool.and_eq_true] at e ⊢
    exact ⟨flat_v h e.1, flats_v r e.2⟩
theorem eqF_v {x y : V} {d e : D} (i : Is K G x d) (j : Is K G y e) (h : flatD d = true) (h' : flatD e = true) : eqV x y = eqF d e := by
  cases i <;> cases j <;> first
    | rfl
    | cases h
    | cases h'
theorem anyF_v {x : V} {d : D} (i : Is K G x d) (h : flatD d = true) : ∀ {xs : List V} {ds : List D}, IsAll K G xs ds → ds.all flatD = true → inV x xs = ds.any fun y => eqF y d
  | _, _, .nil, _ => rfl
  | _, _, .cons j r, e => by
    rw [List.all_cons, Bool.and_eq_true] at e
    unfold inV
    rw [List.any_cons, List.any_cons, eqF_v j i e.1 h]
    exact congrArg _ (anyF_v i h r e.2)
/-- membership in a tuple of data of any depth -/
def rTupHas (K : PySem.W.Frag) (b : Bool) : R2 := fun x y H Q => ∃ p ps, Dp K H x p ∧ Dp K H y (.tuple ps) ∧ SeqAt.shaped p = true ∧ SeqAt.shaped (.tuple ps) = true ∧ Q (.bl (b != ps.any fun z => PyData.eqv z p)) H
theorem op_tupHas (room : X.A.units + 65 < cLine) : OpR X (compareOp .In) (rTupHas X.K false) := by
  intro _ st _ H' a b ua ub Q' inv ra rb ⟨p, ps, ha, hb, ka, kb, fin⟩
  have ⟨_, ta⟩ := Dp.reads inv p a ua ha ra
  have ⟨_, tb⟩ := Dp.reads inv (.tuple ps) b ub hb rb
  refine SeqAt.in_tuple_reads tb ta (SeqAt.canLay_of_shaped kb) (SeqAt.canLay_of_shaped ka) (room_in_shaped ka room) ⟨.bl _, H', inv, rfl, by simpa using fin⟩
theorem op_tupHasNot (room : X.A.units + 65 < cLine) : OpR X (compareOp .NotIn) (rTupHas X.K true) := by
  intro _ st _ H' a b ua ub Q' inv ra rb ⟨p, ps, ha, hb, ka, kb, fin⟩
  have ⟨_, ta⟩ := Dp.reads inv p a ua ha ra
  have ⟨_, tb⟩ := Dp.reads inv (.tuple ps) b ub hb rb
  refine SeqAt.notIn_tuple_reads tb ta (SeqAt.canLay_of_shaped kb) (SeqAt.canLay_of_shaped ka) (room_in_shaped ka room) ⟨.bl _, H', inv, rfl, by simpa using fin⟩
def rInA (K : PySem.W.Frag) : R2 := fun x y H Q => rIn K false x y H Q ∨ ((rInD K x y H Q ∨ rTupHas K false x y H Q) ∨ ∃ i j, x = .str i ∧ y = .str j ∧ Q (.bl (!(Builtin.Str.occurrences j i 0 j.length 1).isEmpty)) H)
theorem op_inA (hu : X.A.units + 65 < cLine) : OpR X (compareOp .In) (rInA X.K) := op_in_seq.or (((op_inD hu).or (op_tupHas hu)).or op_in_str)
def rNinA (K : PySem.W.Frag) : R2 := fun x y H Q => rIn K true x y H Q ∨ ((rNotInD K x y H Q ∨ rTupHas K true x y H Q) ∨ ∃ i j, x = .str i ∧ y = .str j ∧ Q (.bl (!(!(Builtin.Str.occurrences j i 0 j.length 1).isEmpty))) H)
theorem op_ninA (hu : X.A.units + 65 < cLine) : OpR X (compareOp .NotIn) (rNinA X.K) := op_notIn_seq.or (((op_notInD hu).or (op_tupHasNot hu)).or op_notin_str)
/-- what membership leans on -/
theorem in_cases {x y : V} {a c : D} {k : Bool} (le : Same G H) (ia : Is K G x a) (ic : Is K G y c) (h : inB a c = some k) :
    (∃ p xs, y = .ref p ∧ (SqL K H p xs ∨ SqT K H p xs) ∧ flatV x = true ∧ xs.all flatV = true ∧ k = inV x xs) ∨
    ((∃ d ds, Dp K H x d ∧ Dp K H y (.list ds) ∧ SeqAt.shaped d = true ∧ SeqAt.shaped (.list ds) = true ∧ k = ds.any fun z => PyData.eqv z d) ∨
      ∃ d ds, Dp K H x d ∧ Dp K H y (.tuple ds) ∧ SeqAt.shaped d = true ∧ SeqAt.shaped (.tuple ds) = true ∧ k = ds.any fun z => PyData.eqv z d) ∨
    (∃ i j, x = .str i ∧ y = .str j ∧ k = !(Builtin.Str.occurrences j i 0 j.length 1).isEmpty) := by
  cases ic with
  | tup hs ha =>
    unfold inB at h
    dsimp only at h
    split at h
    · rename_i hz
      cases h
      exact .inl ⟨_, _, rfl, .inr (sq_tup le hs), flat_v ia hz.1, flats_v ha hz.2, (anyF_v ia hz.1 ha hz.2).symm⟩
    · rename_i ds _
      unfold inDp at h
      cases e : toPy a with
      | none => rw [e] at h; cases h
      | some p =>
        cases e2 : toPys ds with
        | none => rw [e, e2] at h; cases h
        | some ps =>
          rw [e, e2] at h
          dsimp only at h
          split at h
          · rename_i hz
            cases h
            exact .inr (.inl (.inr ⟨p, ps, dp_of le ia e, dp_of le (.tup hs ha) (by
              show (toPys ds).map PyData.tuple = _
              rw [e2]; rfl), hz.1, hz.2, rfl⟩))
          · cases h
  | lst hs ha =>
    rename_i ds
    unfold inB at h
    dsimp only at h
    split at h
    · rename_i hz
      cases h
      exact .inl ⟨_, _, rfl, .inl (.inl (same_rd le hs)), flat_v ia hz.1, flats_v ha hz.2, (anyF_v ia hz.1 ha hz.2).symm⟩
    · cases e : toPy a with
      | none => rw [e] at h; cases h
      | some p =>
        cases e2 : toPys ds with
        | none => rw [e, e2] at h; cases h
        | some ps =>
          rw [e, e2] at h
          dsimp only at h
          split at h
          · rename_i hz
            cases h
            exact .inr (.inl (.inl ⟨p, ps, dp_of le ia e, .lst (.inl (same_rd le hs)) (dps_of le ha e2), hz.1, hz.2, rfl⟩))
          · cases h
  | str b =>
    cases ia <;> first
      | (cases h; exact .inr (.inr ⟨_, _, rfl, rfl, rfl⟩))
      | cases h
  | _ => cases h
theorem in_v : OpV K (rInA K) inD := by
  intro G H x y a c le ia ic Q post
  unfold inD at post
  cases e : inB a c with
  | none => rw [e] at post; exact post.elim
  | some k =>
    rw [e] at post
    have q := post.here le (.bl k)
    rcases in_cases le ia ic e with ⟨p, xs, h1, h2, h3, h4, rfl⟩ | (⟨d, ds, h1, h2, h3, h4, rfl⟩ | ⟨d, ds, h1, h2, h3, h4, rfl⟩) | ⟨i, j, h1, h2, rfl⟩
    · exact .inl ⟨p, xs, h1, h2, h3, h4, q⟩
    · exact .inr (.inl (.inl ⟨d, ds, h1, h2, h3, h4, q⟩))
    · exact .inr (.inl (.inr ⟨d, ds, h1, h2, h3, h4, by simpa using q⟩))
    · exact .inr (.inr ⟨i, j, h1, h2, q⟩)
theorem nin_v : OpV K (rNinA K) ninD := by
  intro G H x y a c le ia ic Q post
  unfold ninD at post
  cases e : inB a c with
  | none => rw [e] at post; exact post.elim
  | some k =>
    rw [e] at post
    have q := post.here le (.bl (!k))
    rcases in_cases le ia ic e with ⟨p, xs, h1, h2, h3, h4, rfl⟩ | (⟨d, ds, h1, h2, h3, h4, rfl⟩ | ⟨d, ds, h1, h2, h3, h4, rfl⟩) | ⟨i, j, h1, h2, rfl⟩
    · exact .inl ⟨p, xs, h1, h2, h3, h4, q⟩
    · exact .inr (.inl (.inl ⟨d, ds, h1, h2, h3, h4, q⟩))
    · exact .inr (.inl (.inr ⟨d, ds, h1, h2, h3, h4, by simpa using q⟩))
    · exact .inr (.inr ⟨i, j, h1, h2, q⟩)
theorem at_v {xs : List V} {ds : List D} {i : Int} {d : D} (h : IsAll K G xs ds) (e : atI ds i = some d) : ∃ v, atI xs i = some v ∧ Is K G v d := by
  unfold atI at e ⊢
  rw [h.length]
  cases q : ixN ds.length i with
  | none => rw [q] at e; cases e
  | some j =>
    rw [q] at e
    exact h.get' (i := j) e
theorem ix_v : OpV K (rIx K) ixD := by
  intro G H x y a c le ia ic Q post
  cases ia with
  | tup hs ha =>
    cases ic <;> first
      | exact post.elim
      | skip
    rename_i p xs ds i
    have p : PostR K G H Q (match atI ds i with | some d => .val d | none => .no) := post
    cases e : atI ds i with
    | none => rw [e] at p; exact p.elim
    | some d =>
      rw [e] at p
      obtain ⟨v, h1, h2⟩ := at_v ha e
      exact .inr (.inl ⟨_, _, _, v, rfl, rfl, sq_tup le hs, h1, p.here le h2⟩)
  | lst hs ha =>
    cases ic <;> first
      | exact post.elim
      | skip
    rename_i p xs ds i
    have p : PostR K G H Q (match atI ds i with | some d => .val d | none => .no) := post
    cases e : atI ds i with
    | none => rw [e] at p; exact p.elim
    | some d =>
      rw [e] at p
      obtain ⟨v, h1, h2⟩ := at_v ha e
      exact .inl ⟨_, _, _, v, rfl, rfl, .inl (same_rd le hs), h1, p.here le h2⟩
  | ro hs ha =>
    cases ic <;> first
      | exact post.elim
      | skip
    rename_i p xs ds i
    have p : PostR K G H Q (match atI ds i with | some d => .val d | none => .no) := post
    cases e : atI ds i with
    | none => rw [e] at p; exact p.elim
    | some d =>
      rw [e] at p
      obtain ⟨v, h1, h2⟩ := at_v ha e
      exact .inl ⟨_, _, _, v, rfl, rfl, le.seq hs, h1, p.here le h2⟩
  | str z =>
    cases ic <;> first
      | exact post.elim
      | skip
    rename_i i
    have p : PostR K G H Q (if z.length ≤ sizeLine then (match atI z.cps.toList i with | some c => .val (.str ⟨#[c]⟩) | none => .no) else .no) := post
    split at p
    · rename_i hz
      cases e : atI z.cps.toList i with
      | none => rw [e] at p; exact p.elim
      | some d =>
        rw [e] at p
        exact .inr (.inr ⟨z, i, d, rfl, rfl, hz, e, p.here le (.str _)⟩)
    · exact p.elim
  | _ => cases ic <;> exact post.elim
end
end DL
set_option Elab.async false
set_option linter.all false
set_option maxRecDepth 100000
set_option maxHeartbeats 1000000
namespace DL
open PySem PySem.Spec PyProof.Rows L2

/-! ### statements -/
section
variable (K : PySem.W.Frag) (B : By) (W : WX)
def PostS (b : Bs) (G H : Hp) (ω : Lb) (Dn : Ends) : SOut → Prop
  | .nx ρ => ∀ σ' G' H' ω', Rel K b B G' H' ω' σ' ρ → Tr G H ω G' H' ω' → Dn.nx σ' H'
  | .rt d ρ => ∀ v σ' G' H' ω', Rel K b B G' H' ω' σ' ρ → Tr G H ω G' H' ω' → OwnR K b H ω G' H' ω' v d → Dn.rt v H'
  | .bk ρ => ∀ σ' G' H' ω', Rel K b B G' H' ω' σ' ρ → Tr G H ω G' H' ω' → Dn.bk σ' H'
  | .ct ρ => ∀ σ' G' H' ω', Rel K b B G' H' ω' σ' ρ → Tr G H ω G' H' ω' → Dn.ct σ' H'
  | .ex c ρ => ∀ cls dd σ' G' H' ω', Rel K b B G' H' ω' σ' ρ → Tr G H ω G' H' ω' → IsX K G' H' c cls dd → W cls dd σ' H'
  | .no => False
def SatS (t : TS) (F : Env → SOut) : Prop := ∀ b G H ω σ ρ, Rel K b B G H ω σ ρ → ∀ Dn, PostS K B W b G H ω Dn (F ρ) → t Dn σ H
end
section
variable (X : Cx) (B : By) (W : WX)
structure DS (st : Stmt) (t : TS) (F : Env → SOut) : Prop where
  ps : PS X st t
  sat : SatS X.K B W t F
structure DSs (st : List Stmt) (t : TS) (F : Env → SOut) : Prop where
  ps : PSs X st t
  sat : SatS X.K B W t F
end
def Out.s {α : Type} (o : Out α) (f : α → Env → SOut) : SOut := match o with
  | .ok a ρ _ => f a ρ
  | .ex c ρ => .ex c ρ
  | .no => .no
def sNil : Env → SOut := fun ρ => .nx ρ
def sSeq (F G : Env → SOut) : Env → SOut := fun ρ => match F ρ with
  | .nx ρ' => G ρ'
  | o => o
def sRet (F : Env → Out D) : Env → SOut := fun ρ => (F ρ).s fun d ρ1 => .rt d ρ1
def sRetN : Env → SOut := fun ρ => .rt .non ρ
def sIf (T : Env → Out Bool) (F G : Env → SOut) : Env → SOut := fun ρ => (T ρ).s fun k ρ1 => if k = true then F ρ1 else G ρ1
def sDrop (F : Env → Out D) : Env → SOut := fun ρ => (F ρ).s fun _ ρ1 => .nx ρ1
def sNo : Env → SOut := fun _ => .no
def sBk : Env → SOut := fun ρ => .bk ρ
def sCt : Env → SOut := fun ρ => .ct ρ
section
variable {K : PySem.W.Frag} {B : By} {W : WX} {b : Bs} {G H : Hp} {ω : Lb} {σ : L2.St} {ρ : Env} {Dn : Ends}
/-- seen from further back -/
theorem PostS.from {G1 H1 : Hp} {ω1 : Lb} (s : Tr G H ω G1 H1 ω1) : ∀ {o : SOut}, PostS K B W b G H ω Dn o → PostS K B W b G1 H1 ω1 Dn o
  | .nx ρ, h => fun σ' G' H' ω' r t => h σ' G' H' ω' r (s.trans t)
  | .rt d ρ, h => fun v σ' G' H' ω' r t o => h v σ' G' H' ω' r (s.trans t) (Back.back s o)
  | .bk ρ, h => fun σ' G' H' ω' r t => h σ' G' H' ω' r (s.trans t)
  | .ct ρ, h => fun σ' G' H' ω' r t => h σ' G' H' ω' r (s.trans t)
  | .ex c ρ, h => fun cls dd σ' G' H' ω' r t i => h cls dd σ' G' H' ω' r (s.trans t) i
  | .no, h => h
/-- an expression within a statement -/
theorem Sat.s {α β : Type} {R : Rep α β} {t : L2.St → Hp → (β → Hp → Prop) → Prop} {F : Env → Out α} {f : α → Env → SOut} {Q : β → Hp → Prop} (h : Sat K B W R t F) (rel : Rel K b B G H ω σ ρ) (post : PostS K B W b G H ω Dn ((F ρ).s f))
    (hq : ∀ G' H' ω' ρ' x a, Rel K b B G' H' ω' σ ρ' → Tr G H ω G' H' ω' → R b H ω G' H' ω' x a → PostS K B W b G H ω Dn (f a ρ') → Q x H') : t σ H Q := by
  refine h b G H ω σ ρ rel Q ?_
  unfold Out.s at post
  cases e : F ρ with
  | no => rw [e] at post; exact post
  | ex c ρ1 => rw [e] at post; exact fun cls dd G' H' ω' r s i => post cls dd σ G' H' ω' r s i
  | ok a ρ1 q => rw [e] at post; exact fun x G' H' ω' r s _ i => hq G' H' ω' ρ1 x a r s i post
theorem ss_nil : SatS K B W tNext sNil := fun b G H ω σ ρ rel Dn post => post σ G H ω rel .refl
theorem ss_seq {t u : TS} {F F' : Env → SOut} (h : SatS K B W t F) (h' : SatS K B W u F') : SatS K B W (tSeq t u) (sSeq F F') := by
  intro b G H ω σ ρ rel Dn post
  refine h b G H ω σ ρ rel _ ?_
  unfold sSeq at post
  cases e : F ρ with
  | nx ρ1 => rw [e] at post; exact fun σ' G' H' ω' r s => h' b G' H' ω' σ' ρ1 r Dn (PostS.from s post)
  | rt d ρ1 => rw [e] at post; exact post
  | bk ρ1 => rw [e] at post; exact post
  | ct ρ1 => rw [e] at post; exact post
  | ex c ρ1 => rw [e] at post; exact post
  | no => rw [e] at post; exact post
theorem ss_ret {t : TE} {F : Env → Out D} (h : Sat K B W (OwnR K) t F) : SatS K B W (tRet t) (sRet F) := fun b G H ω σ ρ rel Dn post =>
  h.s rel post fun G' H' ω' ρ' x a r s i p => p x σ G' H' ω' r s i
theorem ss_retN : SatS K B W tRetN sRetN := fun b G H ω σ ρ rel Dn post => post .non σ G H ω rel .refl (own_frz .non)
theorem ss_if {c : TT} {t u : TS} {T : Env → Out Bool} {F F' : Env → SOut} (hc : Sat K B W (EqR Bool) c T) (h : SatS K B W t F) (h' : SatS K B W u F') : SatS K B W (tIfS c t u) (sIf T F F') := fun b G H ω σ ρ rel Dn post =>
  hc.s rel post fun G' H' ω' ρ' x a r s i p => by
    subst i
    cases x with
    | true => exact h b G' H' ω' σ ρ' r Dn (PostS.from s p)
    | false => exact h' b G' H' ω' σ ρ' r Dn (PostS.from s p)
theorem ss_drop {R : Rep D V} {t : TE} {F : Env → Out D} (h : Sat K B W R t F) : SatS K B W (tDrop t) (sDrop F) := fun b G H ω σ ρ rel Dn post =>
  h.s rel post fun G' H' ω' ρ' x a r s i p => p σ G' H' ω' r s
theorem ss_no {t : TS} : SatS K B W t sNo := fun _ _ _ _ _ _ _ _ post => post.elim
theorem ss_bk : SatS K B W tBreak sBk := fun b G H ω σ ρ rel Dn post => post σ G H ω rel .refl
theorem ss_ct : SatS K B W tCont sCt := fun b G H ω σ ρ rel Dn post => post σ G H ω rel .refl
end

/-! ### stores -/
section
variable (K : PySem.W.Frag) (B : By)
def PostG (b : Bs) (Gs Hs : Hp) (ωs : Lb) (Q : L2.St → Hp → Prop) : Option Env → Prop
  | some ρ => ∀ σ' G' H' ω', Rel K b B G' H' ω' σ' ρ → Tr Gs Hs ωs G' H' ω' → Q σ' H'
  | none => False
def SatG (g : TG) (F : D → Env → Option Env) : Prop := ∀ b Gs Hs ωs G H ω σ ρ, Rel K b B G H ω σ ρ → Tr Gs Hs ωs G H ω → ∀ v d, OwnR K b Hs ωs G H ω v d → ∀ Q, PostG K B b Gs Hs ωs Q (F d ρ) → g v σ H Q
def SatGs (g : TGs) (F : List D → Env → Option Env) : Prop := ∀ b Gs Hs ωs G H ω σ ρ, Rel K b B G H ω σ ρ → Tr Gs Hs ωs G H ω → ∀ vs ds, IsAll K G vs ds → ∀ Q, PostG K B b Gs Hs ωs Q (F ds ρ) → g vs σ H Q
end
structure DG (X : Cx) (B : By) (e : Expr) (g : TG) (F : D → Env → Option Env) : Prop where
  pg : PG X e g
  sat : SatG X.K B g F
structure DGs (X : Cx) (B : By) (es : List Expr) (g : TGs) (F : List D → Env → Option Env) : Prop where
  pgs : PGs X es g
  sat : SatGs X.K B g F
def gN (B : List Nat) (i : Nat) : D → Env → Option Env := fun d ρ => if i ∈ B then none else some (ρ.set i (some d))
def gT (n : Nat) (F : List D → Env → Option Env) : D → Env → Option Env := fun d ρ => match d with
  | .tup ds => if ds.length = n then F ds ρ else none
  | _ => none
def gsNil : List D → Env → Option Env := fun ds ρ => match ds with
  | [] => some ρ
  | _ => none
def gsCons (F : D → Env → Option Env) (Fr : List D → Env → Option Env) : List D → Env → Option Env := fun ds ρ => match ds with
  | d :: r => (match F d ρ with
    | some ρ1 => Fr r ρ1
    | none => none)
  | [] => none
def sOpt (o : Option Env) : SOut := match o with
  | some ρ => .nx ρ
  | none => .no
def sAsg (F : Env → Out D) (g : D → Env → Option Env) : Env → SOut := fun ρ => (F ρ).s fun d ρ1 => sOpt (g d ρ1)
section
variable {K : PySem.W.Frag} {B : By} {W : WX} {b : Bs} {G H Gs Hs : Hp} {ω ωs : Lb} {σ : L2.St} {ρ : Env}
/-- a value comes into slot i -/
theorem Rel.set (R : Rel K b B G H ω σ ρ) (t : Tr Gs Hs ωs G H ω) {i : Nat} (hi : i ∉ B.l) {v : V} {d : D} (o : OwnR K b Hs ωs G H ω v d) : ∃ ω', Rel K b B G H ω' (σ.set i (some v)) (ρ.set i (some d)) ∧ Tr Gs Hs ωs G H ω' := by
  obtain ⟨ωt, T, o⟩ := o
  refine ⟨fun a => match ωt a with | some (_, p) => some (i, p) | none => ω a, ?_, ?_⟩
  · have keep : ∀ {a : Addr} {l : Nat × Option Str}, ω a = some l → ωt a = none := fun {a l} q => by
      cases z : ωt a with
      | none => rfl
      | some m =>
        have y := (T.at' a (by rw [z]; simp)).1
        rw [q] at y; cases y
    refine ⟨R.le, R.leG, R.old, R.dom, R.fr, fun a l q => ?_, R.bB, by rw [List.length_set, List.length_set]; exact R.len, fun j e hj => ?_, fun j hj => ?_, R.pin⟩
    · cases z : ωt a with
      | none => simp only [z] at q; exact R.own a l q
      | some m =>
        obtain ⟨y1, y2, y3, y4, _⟩ := T.at' a (by rw [z]; simp)
        exact ⟨y2, y3, .inl y4⟩
    · rw [List.getElem?_set] at hj
      split at hj
      · rename_i c
        subst c
        split at hj
        · rename_i hl
          cases hj
          refine ⟨v, by rw [List.getElem?_set]; simp [R.len, hl], o.go (Same.refl _) fun a p q => ⟨by simp only [q], rfl⟩⟩
        · cases hj
      · rename_i c
        obtain ⟨u, h1, h2⟩ := R.slot j e hj
        exact ⟨u, by rw [List.getElem?_set_ne c]; exact h1, h2.go (Same.refl _) fun a p q => ⟨by simp only [keep q]; exact q, rfl⟩⟩
    · have c : i ≠ j := fun z => hi (by rw [z]; exact hj)
      rw [List.getElem?_set_ne c]
      exact R.byr j hj
  · refine ⟨t.g, fun a u h e => ?_, t.hid, t.dom⟩
    obtain ⟨k1, k2⟩ := t.keep a u h e
    refine ⟨k1, ?_⟩
    cases z : ωt a with
    | none => simp only [k2]
    | some m =>
      rcases (T.at' a (by rw [z]; simp)).2.2.2.2 with y | y
      · rw [e] at y; cases y
      · exact absurd h y
theorem sg_name {i : Nat} : SatG K B (gName i) (gN B.l i) := by
  intro b Gs Hs ωs G H ω σ ρ rel t v d o Q post
  unfold gN at post
  by_cases c : i ∈ B.l
  · rw [if_pos c] at post; exact post.elim
  · rw [if_neg c] at post
    obtain ⟨ω', r, t'⟩ := rel.set t c o
    exact post _ G H ω' r t'
theorem sg_tup {n : Nat} {g : TGs} {F : List D → Env → Option Env} (h : SatGs K B g F) : SatG K B (gTup K n g) (gT n F) := by
  intro b Gs Hs ωs G H ω σ ρ rel t v d o Q post
  cases d with
  | tup ds =>
    have p : PostG K B b Gs Hs ωs Q (if ds.length = n then F ds ρ else none) := post
    split at p
    · rename_i hz
      cases own_un o rfl with
      | tup hs ha => exact ⟨_, _, rfl, sq_tup rel.le hs, by rw [ha.length]; exact hz, h b Gs Hs ωs G H ω σ ρ rel t _ _ ha Q p⟩
    · exact p.elim
  | _ => exact post.elim
theorem sgs_nil : SatGs K B gNil gsNil := by
  intro b Gs Hs ωs G H ω σ ρ rel t vs ds i Q post
  cases i with
  | nil => exact ⟨rfl, post σ G H ω rel t⟩
  | cons _ _ => exact post.elim
theorem sgs_cons {g : TG} {gs : TGs} {F : D → Env → Option Env} {Fr : List D → Env → Option Env} (h : SatG K B g F) (h' : SatGs K B gs Fr) : SatGs K B (gCons g gs) (gsCons F Fr) := by
  intro b Gs Hs ωs G H ω σ ρ rel t vs ds i Q post
  cases i with
  | nil => exact post.elim
  | cons i r =>
    rename_i v vs d ds
    -- a store may freeze nothing: the rest's data are followed from here
    have p : PostG K B b Gs Hs ωs Q (match F d ρ with | some ρ1 => Fr ds ρ1 | none => none) := post
    cases e : F d ρ with
    | none => rw [e] at p; exact p.elim
    | some ρ1 =>
      rw [e] at p
      dsimp only at p
      refine ⟨v, vs, rfl, h b G H ω G H ω σ ρ rel .refl v d (own_frz i) _ ?_⟩
      rw [e]
      intro σ' G' H' ω' rel' s
      exact h' b Gs Hs ωs G' H' ω' σ' ρ1 rel' (t.trans s) vs ds (r.mono s.g) Q p
theorem ss_asg {t : TE} {F : Env → Out D} {g : TG} {Fg : D → Env → Option Env} (h : Sat K B W (OwnR K) t F) (hg : SatG K B g Fg) : SatS K B W (tAsg t g) (sAsg F Fg) := fun b G H ω σ ρ rel Dn post =>
  h.s rel post fun G' H' ω' ρ' x a r s i p => by
    refine hg b G H ω G' H' ω' σ ρ' r s x a i _ ?_
    cases e : Fg a ρ' with
    | none => rw [e] at p; exact p.elim
    | some ρ2 => rw [e] at p; exact fun σ2 G2 H2 ω2 r2 s2 => p σ2 G2 H2 ω2 r2 s2
/-- a node of slot j is changed -/
theorem Rel.upd (R : Rel K b B G H ω σ ρ) {j : Nat} {a : Addr} {p : Option Str} {o : HO} {v : V} {d : D} (ha : ω a = some (j, p)) (hv : σ[j]? = some (some v)) (h : Own K G (L2.upd H a o) ω j v d) (hm : isMut o = true := by rfl) :
    Rel K b B G (L2.upd H a o) ω σ (ρ.set j (some d)) := by
  obtain ⟨g1, g2, g3⟩ := R.own a _ ha
  refine ⟨fun x u e => ?_, R.leG, fun x u h1 h2 => ?_, fun x e => ?_, R.fr, fun x l q => ?_, R.bB, by rw [List.length_set]; exact R.len, fun i e hi => ?_, R.byr, R.pin⟩
  · rw [upd_ne (fun z => by rw [z, g1] at e; cases e)]
    exact R.le x u e
  · rw [upd_ne (fun z => ?_)]
    · exact R.old x u h1 h2
    · subst z
      rcases g3 with g3 | ⟨p', g3⟩
      · rw [g3] at h2; cases h2
      · rw [g3] at h1; cases h1
  · refine R.dom x ?_
    by_cases c : x = a
    · subst c; rw [upd_same] at e; cases e
    · rw [upd_ne c] at e; exact e
  · obtain ⟨y1, y2, y3⟩ := R.own x l q
    exact ⟨y1, y2.upd hm, y3⟩
  · rw [List.getElem?_set] at hi
    split at hi
    · rename_i c
      subst c
      split at hi
      · cases hi; exact ⟨v, hv, h⟩
      · cases hi
    · rename_i c
      obtain ⟨u, h1, h2⟩ := R.slot i e hi
      exact ⟨u, h1, h2.go (Same.refl _) fun x p' q => ⟨q, upd_ne (fun z => by rw [z, ha] at q; injection q with q; injection q with q1 q2; exact c q1)⟩⟩
theorem tr_upd {a : Addr} {l : Nat × Option Str} {o : HO} (h : ω a = some l) : Tr G H ω G (L2.upd H a o) ω where
  g := Same.refl _
  keep := fun x u q e => ⟨by rw [upd_ne (fun z => by rw [z, h] at q; cases q)]; exact e, q⟩
  hid := fun _ _ _ g => g
  dom := fun x e => by
    by_cases c : x = a
    · subst c; rw [upd_same] at e; cases e
    · rw [upd_ne c] at e; exact e
/-- an owned list in a slot -/
theorem Rel.lst (R : Rel K b B G H ω σ ρ) {j : Nat} {ds : List D} (h : ρ[j]? = some (some (.lst true ds))) : ∃ a xs, σ[j]? = some (some (.ref a)) ∧ ω a = some (j, none) ∧ H a = some (.lst xs) ∧ IsAll K G xs ds := by
  obtain ⟨v, h1, h2⟩ := R.slot j _ h
  cases h2 with
  | one h2 =>
    cases h2 with
    | frz i => cases i
    | lst y1 y2 y3 => exact ⟨_, _, h1, y1, y2, y3⟩
end

/-! ### xs[i] = e, xs.append(e), xs.pop() of an owned list in a slot -/
def isL (ρ : Env) (j : Nat) : Bool := match ρ[j]? with
  | some (some (.lst true _)) => true
  | _ => false
def sSetIx (j : Nat) (Fe Fi : Env → Out D) : Env → SOut := fun ρ => (Fe ρ).s fun d ρ1 => if isL ρ1 j = true then (Fi ρ1).s fun i ρ2 => (match ρ2[j]?, i with
  | some (some (.lst true ds)), .int k => (match ixN ds.length k with
    | some m => .nx (ρ2.set j (some (.lst true (ds.set m d))))
    | none => .no)
  | _, _ => .no) else .no
def fApp (j : Nat) (Fe : Env → Out D) : Env → Out D := fun ρ => if isL ρ j = true then (Fe ρ).bind fun d ρ1 => (match ρ1[j]? with
  | some (some (.lst true ds)) => if ds.length < sizeLine then .ok .non (ρ1.set j (some (.lst true (ds ++ [d])))) false else .no
  | _ => .no) else .no
def fPop (j : Nat) : Env → Out D := fun ρ => match ρ[j]? with
  | some (some (.lst true ds)) => (match ds.getLast? with
    | some d => .ok d (ρ.set j (some (.lst true ds.dropLast))) false
    | none => .no)
  | _ => .no
section
variable {K : PySem.W.Frag} {B : By} {W : WX}
theorem isL_of {b : Bs} {G H : Hp} {ω : Lb} {σ : L2.St} {ρ : Env} {j : Nat} (rel : Rel K b B G H ω σ ρ) (h : isL ρ j = true) : ∃ a xs, σ[j]? = some (some (.ref a)) ∧ H a = some (.lst xs) := by
  unfold isL at h
  split at h
  · rename_i ds e
    obtain ⟨a, xs, q1, q2, q3, q4⟩ := rel.lst e
    exact ⟨a, xs, q1, q3⟩
  · cases h
theorem ss_setix {j : Nat} {te ti : TE} {Fe Fi : Env → Out D} (he : Sat K B W (IsR K) te Fe) (hi : Sat K B W (IsR K) ti Fi) : SatS K B W (tAsg te (gSub (tVar j) ti rSetL)) (sSetIx j Fe Fi) := fun b G H ω σ ρ rel Dn post =>
  he.s rel post fun G1 H1 ω1 ρ1 x d r1 s1 i1 p1 => by
    split at p1
    · rename_i hl
      obtain ⟨a, xs, hv, _⟩ := isL_of r1 hl
      refine ⟨.ref a, hv, hi.s r1 (PostS.from s1 p1) fun G2 H2 ω2 ρ2 y i r2 s2 i2 p2 => ?_⟩
      split at p2
      · rename_i ds k e1
        obtain ⟨a', xs, q1, q2, q3, q4⟩ := r2.lst e1
        rw [hv] at q1
        cases q1
        cases i2
        cases e2 : ixN ds.length k with
        | none => rw [e2] at p2; exact p2.elim
        | some m =>
          rw [e2] at p2
          exact ⟨a, xs, k, m, rfl, rfl, q3, by rw [q4.length]; exact e2, p2 σ G2 _ ω2 (r2.upd q2 hv (.one (.lst q2 upd_same (q4.set (i1.mono s2.g) m)))) (s2.trans (tr_upd q2))⟩
      · exact p2.elim
    · exact p1.elim
theorem sat_app {j : Nat} {te : TE} {Fe : Env → Out D} (he : Sat K B W (IsR K) te Fe) : Sat K B W (IsR K) (tBM K "list" rAppend (tVar j) (tCons te tNil)) (fApp j Fe) := by
  intro b G H ω σ ρ rel Q post
  unfold fApp at post
  split at post
  · rename_i hl
    obtain ⟨a, xs, hv, hH⟩ := isL_of rel hl
    refine ⟨.ref a, hv, .inl ⟨rfl, xs, SqL.of hH⟩, ?_⟩
    refine he.at rel post fun G1 H1 ω1 ρ1 x d rel s i post => ?_
    split at post
    · rename_i ds e1
      obtain ⟨a', xs, q1, q2, q3, q4⟩ := rel.lst e1
      rw [hv] at q1
      cases q1
      split at post
      · rename_i hz
        exact ⟨a, xs, x, rfl, rfl, q3, by rw [q4.length]; exact hz, post _ G1 _ ω1 (rel.upd q2 hv (.one (.lst q2 upd_same (q4.append (.cons i .nil))))) (tr_upd q2) (fun z => by cases z) .non⟩
      · exact post.elim
    · exact post.elim
  · exact post.elim
theorem sat_pop {j : Nat} : Sat K B W (IsR K) (tBM0 K "list" rPop (tVar j)) (fPop j) := by
  intro b G H ω σ ρ rel Q post
  unfold fPop at post
  split at post
  · rename_i ds e1
    obtain ⟨a, xs, q1, q2, q3, q4⟩ := rel.lst e1
    cases e2 : ds.getLast? with
    | none => rw [e2] at post; exact post.elim
    | some d =>
      rw [e2] at post
      have h1 : ds[ds.length - 1]? = some d := by rw [← e2, List.getLast?_eq_getElem?]
      obtain ⟨y, h2, h3⟩ := q4.get' h1
      refine ⟨.ref a, q1, .inl ⟨rfl, xs, SqL.of q3⟩, a, xs, y, rfl, rfl, q3, by rw [q4.length]; exact h2, ?_⟩
      have hd : IsAll K G xs.dropLast ds.dropLast := by
        rw [List.dropLast_eq_take, List.dropLast_eq_take, q4.length]
        exact q4.take _
      exact post _ G _ ω (rel.upd q2 q1 (.one (.lst q2 upd_same hd))) (tr_upd q2) (fun z => by cases z) h3
  · exact post.elim
end

/-! ### a op= e at a name -/
def sAug (j : Nat) (B : List Nat) (g : D → D → Res) (Fe : Env → Out D) : Env → SOut := fun ρ => match ρ[j]? with
  | some (some a) => if owned a = true ∨ j ∈ B then .no else (Fe ρ).s fun c ρ1 => (match g a c with
    | .val d => .nx (ρ1.set j (some d))
    | .new ds => .nx (ρ1.set j (some (.lst true ds)))
    | .no => .no)
  | _ => .no
/-- an operator on values that a op= takes -/
def AugV (K : PySem.W.Frag) (r : TIp) (g : D → D → Res) : Prop := ∀ G H x y a c, Same G H → Is K G x a → Is K G y c → ∀ Q, PostR K G H Q (g a c) → r x y H Q
section
variable {K : PySem.W.Frag} {B : By} {W : WX}
theorem ss_aug {j : Nat} {r : TIp} {g : D → D → Res} {te : TE} {Fe : Env → Out D} (hr : AugV K r g) (he : Sat K B W (IsR K) te Fe) : SatS K B W (tAug j te r) (sAug j B.l g Fe) := by
  intro b G H ω σ ρ rel Dn post
  unfold sAug at post
  cases e : ρ[j]? with
  | none => rw [e] at post; exact post.elim
  | some o =>
    cases o with
    | none => rw [e] at post; exact post.elim
    | some a =>
      rw [e] at post
      dsimp only at post
      split at post
      · exact post.elim
      · rename_i hz
        have h1 : owned a = false := by
          cases q : owned a with
          | false => rfl
          | true => exact absurd (.inl q) hz
        have h2 : j ∉ B.l := fun z => hz (.inr z)
        obtain ⟨x, hx, ox⟩ := rel.slot j a e
        have ix := own_is ox h1
        refine ⟨x, hx, he.s rel post fun G1 H1 ω1 ρ1 y c r1 s1 i1 p1 => ?_⟩
        refine hr G1 H1 x y a c r1.le (ix.mono s1.g) i1 _ ?_
        cases e2 : g a c with
        | no => rw [e2] at p1; exact p1.elim
        | val d =>
          rw [e2] at p1
          intro v G2 H2 st le i2
          obtain ⟨ω2, r2, t2⟩ := (r1.step st le).set (s1.trans (.step st)) h2 (own_frz i2)
          exact p1 _ G2 H2 ω2 r2 t2
        | new ds =>
          rw [e2] at p1
          intro p xs hp i2
          have st : Step G1 H1 G1 (L2.upd H1 p (.lst xs)) := Step.hidden hp
          obtain ⟨ω2, r2, t2⟩ := (r1.step st (r1.le.trans (same_upd hp))).set (s1.trans (.step st)) h2 (Back.back s1 (own_new r1 hp i2))
          exact p1 _ G1 _ ω2 r2 t2
theorem aug_i {f : Int → Int → Int} {g : D → D → Res} (h : ∀ i j, g (.int i) (.int j) = .val (.int (f i j))) (hn : ∀ a c, (∀ i j, ¬ (a = .int i ∧ c = .int j)) → g a c = .no) : AugV K (ipI f) g := by
  intro G H x y a c le ia ic Q post
  by_cases z : ∃ i j, a = .int i ∧ c = .int j
  · obtain ⟨i, j, rfl, rfl⟩ := z
    rw [h] at post
    cases ia
    cases ic
    exact ⟨i, j, rfl, rfl, post.here le (.int _)⟩
  · rw [hn a c (fun i j q => z ⟨i, j, q⟩)] at post
    exact post.elim
def addI : D → D → Res
  | .int a, .int b => .val (.int (a + b))
  | _, _ => .no
theorem aug_add : AugV K (ipI fun i j => i + j) addI := by
  intro G H x y a c le ia ic Q post
  cases ia <;> cases ic <;> first
    | exact post.elim
    | exact ⟨_, _, rfl, rfl, post.here le (.int _)⟩
theorem aug_sub : AugV K (ipI fun i j => i - j) subD := by
  intro G H x y a c le ia ic Q post
  cases ia <;> cases ic <;> first
    | exact post.elim
    | exact ⟨_, _, rfl, rfl, post.here le (.int _)⟩
end

/-! ### the judgements of statements -/
section
variable {X : Cx} {B : By} {W : WX} {e c : Expr} {st : Stmt} {rest body orelse : List Stmt} {te : TE} {tc : TT} {t u : TS} {Fe : Env → Out D} {T : Env → Out Bool} {F F' : Env → SOut} {pos : Pos}
theorem dss_nil : DSs X B W [] tNext sNil := ⟨pss_nil, ss_nil⟩
theorem dss_cons (h : DS X B W st t F) (h' : DSs X B W rest u F') : DSs X B W (st :: rest) (tSeq t u) (sSeq F F') := ⟨pss_cons h.ps h'.ps, ss_seq h.sat h'.sat⟩
theorem dss_one (h : DS X B W st t F) : DSs X B W [st] t F := ⟨pss_one h.ps, h.sat⟩
theorem ds_pass : DS X B W (.Pass pos) tNext sNil := ⟨ps_pass, ss_nil⟩
theorem ds_break : DS X B W (.Break pos) tBreak sBk := ⟨ps_break, ss_bk⟩
theorem ds_continue : DS X B W (.Continue pos) tCont sCt := ⟨ps_continue, ss_ct⟩
theorem ds_never : DS X B W st tNever sNo := ⟨ps_never, ss_no⟩
theorem ds_ret (h : DO X B W e te Fe) : DS X B W (.Return (some e) pos) (tRet te) (sRet Fe) := ⟨ps_ret h.pe, ss_ret h.sat⟩
theorem ds_retN : DS X B W (.Return none pos) tRetN sRetN := ⟨ps_retN, ss_retN⟩
theorem ds_if (hc : DT X B W c tc T) (h : DSs X B W body t F) (h' : DSs X B W orelse u F') : DS X B W (.If c body orelse pos) (tIfS tc t u) (sIf T F F') := ⟨ps_if hc.pt h.ps h'.ps, ss_if hc.sat h.sat h'.sat⟩
theorem ds_expr (h : DO X B W e te Fe) (hs : swapsWith e none pos.line X.env = pure false := by rfl) : DS X B W (.Expr e pos) (tDrop te) (sDrop Fe) := ⟨ps_expr h.pe hs, ss_drop h.sat⟩
theorem ds_doc {x j pos'} : DS X B W (.Expr (.Constant (.str x) j pos') pos) tNext sNil := ⟨ps_doc, ss_nil⟩
theorem dg_name {i : Nat} {x : Str} {pos : Pos} (hN : X.N.Nodup) (hi : X.N[i]? = some x) (hx : Loc X.env.scope x := by first | exact Or.inl rfl | exact Or.inr rfl) (hf : X.fn x = true ∨ X.env.scope.names.lookup x = some .local := by first | exact .inl rfl | exact .inr rfl | (right; rfl)) : DG X B (.Name x pos) (gName i) (gN B.l i) := ⟨pg_name hN hi hx hf, sg_name⟩
theorem dgs_nil : DGs X B [] gNil gsNil := ⟨pgs_nil, sgs_nil⟩
theorem dgs_cons {es : List Expr} {g : TG} {gs : TGs} {Fg : D → Env → Option Env} {Fr : List D → Env → Option Env} (h : DG X B e g Fg) (h' : DGs X B es gs Fr)
    (hs : (assignEach (e :: es) X.env).map (·.2) = assign e X.env :: (assignEach es X.env).map (·.2) := by rfl) : DGs X B (e :: es) (gCons g gs) (gsCons Fg Fr) := ⟨pgs_cons h.pg h'.pgs hs, sgs_cons h.sat h'.sat⟩
theorem dg_tup {es : List Expr} {k n : Nat} {gs : TGs} {Fr : List D → Env → Option Env} (hc : X.calm = true) (h : DGs X B es gs Fr)
    (hn : (assignEach es X.env).length = n := by rfl) (hst : (assignEach es X.env).findIdx? (·.1) = none := by rfl) : DG X B (.Tuple es k pos) (gTup X.K n gs) (gT n Fr) := ⟨pg_tup hc h.pgs hn hst, sg_tup h.sat⟩
theorem ds_asg {tg : Expr} {g : TG} {Fg : D → Env → Option Env} (h : DO X B W e te Fe) (hg : DG X B tg g Fg) (hs : swapsWithSole [tg] e pos.line X.env = pure false := by rfl) (hw : swappedStores [tg] e X.env = pure none := by rfl)
    (h1 : (assignEach [tg] X.env).map (·.2) = [assign tg X.env] := by rfl) : DS X B W (.Assign [tg] e pos) (tAsg te g) (sAsg Fe Fg) := ⟨ps_asg h.pe hg.pg hs hw h1, ss_asg h.sat hg.sat⟩
theorem ds_set (i : Nat) {x : Str} {pos' : Pos} (hN : X.N.Nodup) (h : DO X B W e te Fe) (hi : X.N[i]? = some x := by rfl) (hx : Loc X.env.scope x := by first | exact Or.inl rfl | exact Or.inr rfl) (hs : swapsWith e (some (.Name x pos')) pos.line X.env = pure false := by rfl)
    (hf : X.fn x = true ∨ X.env.scope.names.lookup x = some .local := by first | exact .inl rfl | exact .inr rfl | assumption) : DS X B W (.Assign [.Name x pos'] e pos) (tAsg te (gName i)) (sAsg Fe (gN B.l i)) := ⟨ps_set hN hi hx h.pe hs hf, ss_asg h.sat sg_name⟩
theorem ds_aug (i : Nat) {x : Str} {pos' : Pos} {op : Operator} {r : TIp} {g : D → D → Res} (hN : X.N.Nodup) (ho : PIp X op r) (hr : AugV X.K r g) (h : DE X B W e te Fe) (hi : X.N[i]? = some x := by rfl) (hx : Loc X.env.scope x := by first | exact Or.inl rfl | exact Or.inr rfl)
    (hf : X.fn x = true ∨ X.env.scope.names.lookup x = some .local := by first | exact .inl rfl | exact .inr rfl | assumption) : DS X B W (.AugAssign (.Name x pos') op e pos) (tAug i te r) (sAug i B.l g Fe) := ⟨ps_aug hN hi hx h.pe ho hf, ss_aug hr h.sat⟩
/-- a, b = x, y -/
def sPar (B : List Nat) (i j : Nat) (F : Env → Out (List D)) : Env → SOut := fun ρ => (F ρ).s fun ds ρ1 => match ds with
  | [a, c] => if i ∈ B ∨ j ∈ B then .no else .nx ((ρ1.set i (some a)).set j (some c))
  | _ => .no
theorem ss_par {K : PySem.W.Frag} {i j : Nat} {ta : TA} {F : Env → Out (List D)} (h : Sat K B W (IsAR K) ta F) : SatS K B W (tPar i j ta) (sPar B.l i j F) := fun b G H ω σ ρ rel Dn post =>
  h.s rel post fun G1 H1 ω1 ρ1 xs ds r1 s1 i1 p1 => by
    cases i1 with
    | nil => exact p1.elim
    | cons a1 i1 =>
      cases i1 with
      | nil => exact p1.elim
      | cons a2 i1 =>
        cases i1 with
        | cons _ _ => exact p1.elim
        | nil =>
          dsimp only at p1
          split at p1
          · exact p1.elim
          · rename_i hz
            obtain ⟨ω2, r2, t2⟩ := r1.set s1 (fun z => hz (.inl z)) (own_frz a1)
            obtain ⟨ω3, r3, t3⟩ := r2.set t2 (fun z => hz (.inr z)) (own_frz a2)
            exact ⟨_, _, rfl, p1 _ G1 H1 ω3 r3 t3⟩
theorem ds_par (i j : Nat) {es : List Expr} {ta : TA} {F : Env → Out (List D)} (h : DA X B W es ta F) (mk : PA X es ta → PS X st (tPar i j ta)) : DS X B W st (tPar i j ta) (sPar B.l i j F) := ⟨mk h.pa, ss_par h.sat⟩
/-- xs[i] = e -/
theorem ds_setix (j : Nat) {x : Str} {px p2 : Pos} {o : Expr} {ti : TE} {Fi : Env → Out D} (he : DE X B W e te Fe) (hi : DE X B W o ti Fi) (hN : X.N[j]? = some x := by rfl) (hv : Vis X.env.scope x := by first | exact Or.inl rfl | exact Or.inr (Or.inl rfl) | exact Or.inr (Or.inr rfl))
    (hd : (x == ("__debug__" : Str)) = false := by decide) (hcd : (x == ("__classdict__" : Str)) = false := by decide)
    (ha : ∀ v, assign (.Subscript (.Name x px) o p2) X.env v = (do
      let ov ← holding [v] (eval (.Name x px) X.env)
      let iv ← holding [v, ov] (eval o X.env)
      standAt p2
      holding [v, ov, iv] (setItem ov iv v)
      release [v, ov, iv] []) := by intro _; rfl)
    (hs : swapsWithSole [.Subscript (.Name x px) o p2] e pos.line X.env = pure false := by rfl) (hw : swappedStores [.Subscript (.Name x px) o p2] e X.env = pure none := by rfl)
    (h1 : (assignEach [.Subscript (.Name x px) o p2] X.env).map (·.2) = [assign (.Subscript (.Name x px) o p2) X.env] := by rfl) :
    DS X B W (.Assign [.Subscript (.Name x px) o p2] e pos) (tAsg te (gSub (tVar j) ti rSetL)) (sSetIx j Fe Fi) := ⟨ps_asg he.pe (pg_sub (pe_var hN hv hd hcd) hi.pe set_list ha) hs hw h1, ss_setix he.sat hi.sat⟩
/-- xs.append(e), xs.pop() -/
theorem d_app (j : Nat) {a : Expr} (he : DE X B W a te Fe) (mk : PE X a te → PE X e (tBM X.K "list" rAppend (tVar j) (tCons te tNil))) : DE X B W e (tBM X.K "list" rAppend (tVar j) (tCons te tNil)) (fApp j Fe) := ⟨mk he.pe, sat_app he.sat⟩
theorem d_pop (j : Nat) (mk : PE X e (tBM0 X.K "list" rPop (tVar j))) : DE X B W e (tBM0 X.K "list" rPop (tVar j)) (fPop j) := ⟨mk, sat_pop⟩
end
end DL
set_option Elab.async false
set_option linter.all false
set_option maxRecDepth 100000
set_option maxHeartbeats 1000000
namespace DL
open PySem PySem.Spec PyProof.Rows L2

/-! ### what is walked -/
/-- J hands out the items ds, in order, from the frozen heap G on -/
structure Yld (K : PySem.W.Frag) (G : Hp) (J : It) (ds : List D) : Prop where
  go : ∀ i G' H, Same G G' → Same G' H → i < ds.length → J.go i H
  stop : ∀ i G' H, Same G G' → Same G' H → ds.length ≤ i → J.stop i H
  yld : ∀ i G' H x H', Same G G' → Same G' H → i < ds.length → J.yld i H x H' → ∃ d, ds[i]? = some d ∧ ∃ G2, Step G' H G2 H' ∧ Same G2 H' ∧ Is K G2 x d
abbrev YldR (K : PySem.W.Frag) : Rep (List D) It := fun _ _ _ G _ _ J ds => Yld K G J ds
instance {K : PySem.W.Frag} : Back (YldR K) := ⟨fun _ h => h⟩
structure DI (X : Cx) (B : By) (W : WX) (tg e : Expr) (wi : TI) (F : Env → Out (List D)) : Prop where
  pi : PI X tg e wi
  sat : Sat X.K B W (YldR X.K) wi F
section
variable {K : PySem.W.Frag} {G : Hp}
theorem yld_list {a : Addr} {xs : List V} {ds : List D} (h : Rd G a (.lst xs)) (i : IsAll K G xs ds) : Yld K G (Itl K a) ds where
  go := fun j G' H s le hj => by
    have hj' : j < xs.length := by rw [i.length]; exact hj
    exact ⟨xs, xs[j], .inl (same_rd (s.trans le) h), by simp [hj']⟩
  stop := fun j G' H s le hj => ⟨xs, .inl (same_rd (s.trans le) h), by rw [i.length]; exact hj⟩
  yld := fun j G' H x H' s le _ y => by
    obtain ⟨e, y⟩ := y
    subst e
    obtain ⟨d, h1, h2⟩ := i.get (y xs (.inl (same_rd (s.trans le) h)))
    exact ⟨d, h1, G', Step.refl _ _, le, h2.mono s⟩
theorem yld_tup {a : Addr} {xs : List V} {ds : List D} (h : TupAt K G a xs) (i : IsAll K G xs ds) : Yld K G (Itt K a) ds where
  go := fun j G' H s le hj => by
    have hj' : j < xs.length := by rw [i.length]; exact hj
    exact ⟨xs, xs[j], sq_tup (s.trans le) h, by simp [hj']⟩
  stop := fun j G' H s le hj => ⟨xs, sq_tup (s.trans le) h, by rw [i.length]; exact hj⟩
  yld := fun j G' H x H' s le _ y => by
    obtain ⟨e, y⟩ := y
    subst e
    obtain ⟨d, h1, h2⟩ := i.get (y xs (sq_tup (s.trans le) h))
    exact ⟨d, h1, G', Step.refl _ _, le, h2.mono s⟩
def rngD (lo : Int) (n : Nat) : List D := (List.range n).map fun (i : Nat) => D.int (lo + (i : Int))
theorem rngD_length {lo : Int} {n : Nat} : (rngD lo n).length = n := by unfold rngD; rw [List.length_map, List.length_range]
theorem yld_rng {lo : Int} {n : Nat} : Yld K G (Itr lo n) (rngD lo n) where
  go := fun j G' H s le hj => by rw [rngD_length] at hj; exact hj
  stop := fun j G' H s le hj => by rw [rngD_length] at hj; exact hj
  yld := fun j G' H x H' s le hj y => by
    obtain ⟨e, y⟩ := y
    subst e
    subst y
    rw [rngD_length] at hj
    refine ⟨.int (lo + (j : Int)), ?_, G', Step.refl _ _, le, .int _⟩
    unfold rngD
    rw [List.getElem?_map, List.getElem?_range hj]
    rfl
def sgnD (x : Str) : List D := x.cps.toList.map fun c => D.str ⟨#[c]⟩
theorem sgnD_length {x : Str} : (sgnD x).length = x.cps.size := by unfold sgnD; rw [List.length_map, Array.length_toList]
theorem yld_str {x : Str} : Yld K G (Its x) (sgnD x) where
  go := fun j G' H s le hj => by rw [sgnD_length] at hj; exact hj
  stop := fun j G' H s le hj => by rw [sgnD_length] at hj; exact hj
  yld := fun j G' H v H' s le _ y => by
    obtain ⟨e, c, hc, y⟩ := y
    subst e
    subst y
    refine ⟨.str ⟨#[c]⟩, ?_, G', Step.refl _ _, le, .str _⟩
    unfold sgnD
    rw [List.getElem?_map, Array.getElem?_toList, hc]
    rfl
end

/-! ### any sequence that a name, a call .. gives -/
def seqD : D → Option (List D)
  | .tup ds => some ds
  | .lst _ ds => some ds
  | .str x => some (sgnD x)
  | _ => none
def rAny (K : PySem.W.Frag) (x : V) (H1 : Hp) (R : It → Hp → Prop) : Prop := (∃ a, x = .ref a ∧ (∃ xs, SqL K H1 a xs) ∧ R (Itl K a) H1) ∨ (∃ a, x = .ref a ∧ (∃ xs, SqT K H1 a xs) ∧ R (Itt K a) H1) ∨ (∃ z, x = .str z ∧ R (Its z) H1)
def iAny (K : PySem.W.Frag) (tl : TE) : TI := fun σ H R => tl σ H fun x H1 => rAny K x H1 R
theorem pi_any {X : Cx} {tg l : Expr} {tl : TE} (hl : PE X l tl) : PI X tg l (iAny X.K tl) := by
  refine ⟨fun pins s σ H R I h => ?_⟩
  refine thn (hl.run pins s σ H _ I h) fun v s1 ⟨x, H1, I1, r1, q1⟩ => ?_
  rcases q1 with ⟨a, rfl, ⟨xs, hq⟩, q⟩ | ⟨a, rfl, ⟨xs, hq⟩, q⟩ | ⟨z, rfl, q⟩
  · cases r1
    obtain ⟨its, rv, p, hz⟩ := I1.list hq
    refine wpAny_pyIter_list p.isList ?_
    exact pi_one (tk := s1.toks) I1 _ (turn_list a _) ⟨_, Heap.get?_push_size _ rfl, rfl, rfl⟩ q
  · cases r1
    obtain ⟨its, rv, p, hz⟩ := I1.tuple hq
    refine wpAny_pyIter_tuple (show s1.heap.IsTuple a its.toArray from p) ?_
    exact pi_one (tk := s1.toks) I1 _ (turn_tuple a _) ⟨_, Heap.get?_push_size _ rfl, rfl, rfl⟩ q
  · obtain ⟨t, rfl⟩ := r1
    cases ha : z.cps.all (· < 128) with
    | false => exact wpAny_pyIter_wide ha (pi_one (tk := s1.toks) I1 _ (turn_str _ z t "str_iterator" (.inr rfl)) ⟨_, Heap.get?_push_size _ rfl, rfl, rfl⟩ q)
    | true => exact wpAny_pyIter_ascii ha (pi_one (tk := s1.toks) I1 _ (turn_str _ z t "str_ascii_iterator" (.inl rfl)) ⟨_, Heap.get?_push_size _ rfl, rfl, rfl⟩ q)
def liftL (o : Option (List D)) (ρ : Env) : Out (List D) := match o with
  | some ds => .ok ds ρ true
  | none => .no
/-! ### range of any bounds -/
theorem turn_longrange {P : Program} {w : World} {K : PySem.W.Frag} {tg : Expr} (it : Addr) (lo : Int) (n : Nat) : Turn P w K tg (Itr lo n) [it] it (fun i h => IsLongIter h it (lo + (i : Nat) * 1) ((n : Int) - (i : Nat)) 1) where
  mem := by simp
  obj := fun i h st b hb => by
    have e : b = it := by simpa using hb
    subst e
    exact ⟨_, st, fun v z => by
      have z' : Data.fields _ = Data.cell v := z
      cases z'⟩
  keep := fun i h h' st k => k it (by simp) _ st
  item := by
    intro X hP hw hK hc i pins s σ H E I hf st hg
    subst hP hw hK
    obtain ⟨f0, f1, f2, f3, f4, f5⟩ := hf it (by simp)
    have W := Walks.longrange (prog := X.prog) (w := X.w) (I.ok.hd hc) it lo 1 n
    refine W.item i s _ _ hg st fun v h' tk hv st' kk => ?_
    obtain ⟨t, rfl⟩ := hv
    have I1 : Inv X pins σ H { s with heap := h', toks := tk } := I.turned (fun b o hb e => kk b o (by simpa using hb) e) f0 f1 f3 f4 f5
    refine ⟨_, rfl, go_of (s := { s with heap := h', toks := tk }) (n := "longrange_iterator") st' rfl rfl (by decide) ⟨.int (lo + i), H, I1, ⟨t, ?_⟩, ⟨rfl, rfl⟩, st', fun b hb => (hf b hb).1⟩⟩
    rw [Int.mul_one]
  done := by
    intro X hP hw hK hc i pins s σ H E I hf st hg
    subst hP hw hK
    obtain ⟨f0, f1, f2, f3, f4, f5⟩ := hf it (by simp)
    exact wpAny_pyNext_long_end (I.ok.hd hc) st (by have : n ≤ i := hg; omega) fun h' eb => ⟨rfl, I.turned (t' := s.toks) (fun b o hb e => eb b o hb e) f0 f1 f3 f4 f5⟩
  self := fun _ _ _ _ _ st h => wpAny_pyIter_longiter st h
theorem range_itW {X : Cx} {tg : Expr} {pins : List (Addr × Obj)} {σ : L2.St} {H : Hp} {s : Shared} {R : It → Hp → Prop} {E : Value → Shared → Prop} {lo hi : Int} {t u v : Tok} {tk : Nat} (I : Inv X pins σ H s)
    (q : R (Itr lo (hi - lo).toNat) H) : wpAny (model X.prog X.w) X.A (pyIter (.ref s.heap.objs.size)) (PIE X pins σ tg R) E { s with heap := s.heap.push { cls := .type "range", data := .fields #[.int lo t, .int hi u, .int 1 v] }, toks := tk } := by
  have I1 : Inv X pins σ H { s with heap := s.heap.push { cls := .type "range", data := .fields #[.int lo t, .int hi u, .int 1 v] }, toks := tk } := I.kept fun b o e => Heap.get?_push_of_some _ e
  have e1 : lo + ((0 : Nat) : Int) * 1 = lo := by simp
  have e2 : (((hi - lo).toNat : Nat) : Int) - ((0 : Nat) : Int) = Builtin.Range.rangeSize lo hi 1 := by rw [rangeSize_one]; split <;> omega
  have f : ∀ b ∈ [(s.heap.push { cls := .type "range", data := .fields #[.int lo t, .int hi u, .int 1 v] }).objs.size], FpOk X pins H b := fun b hb => by
    have e : b = (s.heap.push { cls := .type "range", data := .fields #[.int lo t, .int hi u, .int 1 v] }).objs.size := by simpa using hb
    subst e
    exact I1.fpOk (Nat.le_refl _) (I1.hok.fresh (Nat.le_refl _))
  cases hs : Builtin.Range.small lo hi 1 with
  | true =>
    refine wpAny_pyIter_range (IsRange.new ..) hs ?_
    refine ⟨_, [(s.heap.push { cls := .type "range", data := .fields #[.int lo t, .int hi u, .int 1 v] }).objs.size], _, _, H, rfl,
      I1.kept (t' := tk) fun b o e => Heap.get?_push_of_some _ e, turn_range _ lo (hi - lo).toNat, ?_, f, q⟩
    show IsRangeIter _ _ (lo + ((0 : Nat) : Int) * 1) ((((hi - lo).toNat : Nat) : Int) - ((0 : Nat) : Int)) 1
    rw [e1, e2]
    exact Heap.get?_push_size _ rfl
  | false =>
    refine wpAny_pyIter_longrange (IsRange.new ..) hs ?_
    refine ⟨_, [(s.heap.push { cls := .type "range", data := .fields #[.int lo t, .int hi u, .int 1 v] }).objs.size], _, _, H, rfl,
      I1.kept (t' := tk) fun b o e => Heap.get?_push_of_some _ e, turn_longrange _ lo (hi - lo).toNat, ?_, f, q⟩
    show IsLongIter _ _ (lo + ((0 : Nat) : Int) * 1) ((((hi - lo).toNat : Nat) : Int) - ((0 : Nat) : Int)) 1
    rw [e1, e2]
    exact Heap.get?_push_size _ rfl
def iRng2W (ta : TA) : TI := fun σ H R => ta σ H fun vs H1 => ∃ i j : Int, vs = [.int i, .int j] ∧ R (Itr i (j - i).toNat) H1
theorem pi_range2W {X : Cx} {tg : Expr} {a b : Expr} {ta : TA} {p pos : Pos} (hg : Gl X "range") (hm : X.mg "range" = none) (ha : PA X [a, b] ta) (hs : starEach [a, b] X.env = [(false, eval a X.env), (false, eval b X.env)] := by rfl) (hs2 : starEach [b] X.env = [(false, eval b X.env)] := by rfl) :
    PI X tg (.Call (.Name "range" p) [a, b] [] pos) (iRng2W ta) := by
  refine ⟨fun pins s σ H R I h => ?_⟩
  refine Call_ (ld_blt I hg hm boot_range (PyProof.Rows.callWith_type1 (thn (ha.run pos pins s σ H _ I h) fun us s1 ⟨vs, H1, I1, r1, q1⟩ => ?_) (by rw [hs, hs2]) (by rw [hs2]; rfl)))
  obtain ⟨i, j, e, q⟩ := q1
  subst e
  cases r1 with
  | cons r rr =>
    cases rr with
    | cons r' rr =>
      cases rr
      obtain ⟨t, rfl⟩ := r
      obtain ⟨t', rfl⟩ := r'
      exact call_range_2 (range_itW I1 q)
def fAny (F : Env → Out D) : Env → Out (List D) := fun ρ => (F ρ).bind fun a ρ1 => liftL (seqD a) ρ1
def rng1 (as : List D) (ρ1 : Env) : Out (List D) := match as with
  | [.int j] => if -(2 ^ 62) ≤ j ∧ j < 2 ^ 62 then .ok (rngD 0 j.toNat) ρ1 true else .no
  | _ => .no
def rng2 (as : List D) (ρ1 : Env) : Out (List D) := match as with
  | [.int i, .int j] => .ok (rngD i (j - i).toNat) ρ1 true
  | _ => .no
def fRng1 (F : Env → Out (List D)) : Env → Out (List D) := fun ρ => (F ρ).bind rng1
def fRng2 (F : Env → Out (List D)) : Env → Out (List D) := fun ρ => (F ρ).bind rng2
section
variable {K : PySem.W.Frag} {B : By} {W : WX}
theorem si_any {t : TE} {F : Env → Out D} (h : Sat K B W (IsR K) t F) : Sat K B W (YldR K) (iAny K t) (fAny F) :=
  Sat.bind (R' := YldR K) (Fu := fun a ρ1 => liftL (seqD a) ρ1) (t := t) (u := fun x σ H R => rAny K x H R) h fun b Hs ωs G H ω σ ρ rel x a i Q post => by
    cases i with
    | tup hs ha => exact .inr (.inl ⟨_, rfl, ⟨_, sq_tup rel.le hs⟩, Post.now rel post (yld_tup hs ha)⟩)
    | lst hs ha => exact .inl ⟨_, rfl, ⟨_, .inl (same_rd rel.le hs)⟩, Post.now rel post (yld_list hs ha)⟩
    | str z => exact .inr (.inr ⟨z, rfl, Post.now rel post yld_str⟩)
    | _ => exact post.elim
theorem si_rng1 {t : TA} {F : Env → Out (List D)} (h : Sat K B W (IsAR K) t F) : Sat K B W (YldR K) (iRng1 t) (fRng1 F) :=
  Sat.bind (R' := YldR K) (Fu := rng1) (t := t) (u := fun vs σ H R => ∃ j : Int, vs = [.int j] ∧ -(2 ^ 62) ≤ j ∧ j < 2 ^ 62 ∧ R (Itr 0 j.toNat) H) h fun b Hs ωs G H ω σ ρ rel x a i Q post => by
    unfold rng1 at post
    split at post
    · cases i with
      | cons i1 i2 =>
        cases i2
        cases i1
        split at post
        · rename_i hz
          exact ⟨_, rfl, hz.1, hz.2, Post.now rel post yld_rng⟩
        · exact post.elim
    · exact post.elim
theorem si_rng2 {t : TA} {F : Env → Out (List D)} (h : Sat K B W (IsAR K) t F) : Sat K B W (YldR K) (iRng2W t) (fRng2 F) :=
  Sat.bind (R' := YldR K) (Fu := rng2) (t := t) (u := fun vs σ H R => ∃ i j : Int, vs = [.int i, .int j] ∧ R (Itr i (j - i).toNat) H) h fun b Hs ωs G H ω σ ρ rel x a i Q post => by
    unfold rng2 at post
    split at post
    · cases i with
      | cons i1 i2 =>
        cases i2 with
        | cons i2 i3 =>
          cases i3
          cases i1
          cases i2
          exact ⟨_, _, rfl, Post.now rel post yld_rng⟩
    · exact post.elim
end

/-! ### for -/
def forD (g : D → Env → Option Env) (body : Env → SOut) : List D → Env → SOut
  | [], ρ => .nx ρ
  | d :: ds, ρ => match g d ρ with
    | none => .no
    | some ρ1 => (match body ρ1 with
      | .nx ρ2 => forD g body ds ρ2
      | .ct ρ2 => forD g body ds ρ2
      | .bk ρ2 => .nx ρ2
      | .rt d ρ2 => .rt d ρ2
      | .ex c ρ2 => .ex c ρ2
      | .no => .no)
def sFor (F : Env → Out (List D)) (g : D → Env → Option Env) (body : Env → SOut) : Env → SOut := fun ρ => (F ρ).s fun ds ρ1 => forD g body ds ρ1
section
variable {K : PySem.W.Frag} {B : By} {W : WX}
theorem ss_for {wi : TI} {g : TG} {tb : TS} {F : Env → Out (List D)} {Fg : D → Env → Option Env} {Fb : Env → SOut} (hi : Sat K B W (YldR K) wi F) (hg : SatG K B g Fg) (hb : SatS K B W tb Fb) : SatS K B W (tFor wi g tb) (sFor F Fg Fb) := fun b G0 H0 ω0 σ0 ρ0 rel0 Dn post0 =>
  hi.s rel0 post0 fun G1 H1 ω1 ρ1 J ds rel1 s1 Y post1 => by
    refine ⟨fun i m σ H => m = ds.length - i ∧ i ≤ ds.length ∧ ∃ G ω ρ, Rel K b B G H ω σ ρ ∧ Same G1 G ∧ PostS K B W b G H ω Dn (forD Fg Fb (ds.drop i) ρ), ⟨_, rfl, Nat.zero_le _, G1, ω1, ρ1, rel1, Same.refl _, PostS.from s1 post1⟩, ?_⟩
    rintro i m σ H ⟨rfl, hi, G, ω, ρ, rel, sG, post⟩
    by_cases hl : i < ds.length
    · refine .inr ⟨Y.go i G H sG rel.le hl, fun σ' H' => ∃ G ω ρ, Rel K b B G H' ω σ' ρ ∧ Same G1 G ∧ PostS K B W b G H' ω Dn (forD Fg Fb (ds.drop (i + 1)) ρ), fun σ' H' h => ⟨ds.length - (i + 1), by omega, rfl, hl, h⟩, fun x H' y => ?_⟩
      obtain ⟨d, hd, G2, st, le2, ix⟩ := Y.yld i G H x H' sG rel.le hl y
      have e : ds.drop i = d :: ds.drop (i + 1) := by
        rw [List.drop_eq_getElem_cons hl]
        have q : ds[i] = d := by
          have z := hd
          rw [List.getElem?_eq_getElem hl] at z
          exact Option.some.inj z
        rw [q]
      rw [e] at post
      have t2 : Tr G H ω G2 H' ω := .step st
      have rel2 := rel.step st le2
      refine hg b G H ω G2 H' ω σ ρ rel2 t2 x d (own_frz ix) _ ?_
      cases eg : Fg d ρ with
      | none => rw [forD, eg] at post; exact post.elim
      | some ρ2 =>
        rw [forD, eg] at post
        dsimp only at post
        intro σ3 G3 H3 ω3 rel3 t3
        refine hb b G3 H3 ω3 σ3 ρ2 rel3 _ ?_
        cases eb : Fb ρ2 with
        | no => rw [eb] at post; exact post.elim
        | nx ρ4 => rw [eb] at post; exact fun σ4 G4 H4 ω4 rel4 t4 => ⟨G4, ω4, ρ4, rel4, (sG.trans t3.g).trans t4.g, PostS.from (t3.trans t4) post⟩
        | ct ρ4 => rw [eb] at post; exact fun σ4 G4 H4 ω4 rel4 t4 => ⟨G4, ω4, ρ4, rel4, (sG.trans t3.g).trans t4.g, PostS.from (t3.trans t4) post⟩
        | bk ρ4 => rw [eb] at post; exact fun σ4 G4 H4 ω4 rel4 t4 => post σ4 G4 H4 ω4 rel4 (t3.trans t4)
        | rt d ρ4 => rw [eb] at post; exact fun v σ4 G4 H4 ω4 rel4 t4 o => post v σ4 G4 H4 ω4 rel4 (t3.trans t4) (Back.back t3 o)
        | ex c ρ4 => rw [eb] at post; exact fun cls dd σ4 G4 H4 ω4 rel4 t4 i => post cls dd σ4 G4 H4 ω4 rel4 (t3.trans t4) i
    · have e : i = ds.length := by omega
      subst e
      rw [List.drop_length] at post
      exact .inl ⟨Y.stop _ G H sG rel.le (Nat.le_refl _), post σ G H ω rel .refl⟩
end

/-! ### while: n turns at most -/
def whileD (T : Env → Out Bool) (body : Env → SOut) : Nat → Env → SOut
  | 0, _ => .no
  | n + 1, ρ => (T ρ).s fun k ρ1 => if k = true then (match body ρ1 with
      | .nx ρ2 => whileD T body n ρ2
      | .ct ρ2 => whileD T body n ρ2
      | .bk ρ2 => .nx ρ2
      | .rt d ρ2 => .rt d ρ2
      | .ex c ρ2 => .ex c ρ2
      | .no => .no) else .nx ρ1
section
variable {K : PySem.W.Frag} {B : By} {W : WX}
theorem ss_while {c : TT} {tb : TS} {T : Env → Out Bool} {Fb : Env → SOut} (n : Nat) (hc : Sat K B W (EqR Bool) c T) (hb : SatS K B W tb Fb) : SatS K B W (tWhile c tb) (whileD T Fb n) := fun b G0 H0 ω0 σ0 ρ0 rel0 Dn post0 => by
  refine ⟨fun m σ H => ∃ G ω ρ, Rel K b B G H ω σ ρ ∧ PostS K B W b G H ω Dn (whileD T Fb m ρ), ⟨n, G0, ω0, ρ0, rel0, post0⟩, ?_⟩
  rintro m σ H ⟨G, ω, ρ, rel, post⟩
  cases m with
  | zero => exact post.elim
  | succ m =>
    refine hc.s rel (by rw [whileD] at post; exact post) fun G1 H1 ω1 ρ1 x k rel1 s1 e p => ?_
    subst e
    cases x with
    | false => exact p σ G1 H1 ω1 rel1 s1
    | true =>
      rw [if_pos rfl] at p
      refine ⟨fun σ' H' => ∃ G ω ρ, Rel K b B G H' ω σ' ρ ∧ PostS K B W b G H' ω Dn (whileD T Fb m ρ), fun σ' H' h => ⟨m, Nat.lt_succ_self _, h⟩, hb b G1 H1 ω1 σ ρ1 rel1 _ ?_⟩
      cases eb : Fb ρ1 with
      | no => rw [eb] at p; exact p.elim
      | nx ρ4 => rw [eb] at p; exact fun σ4 G4 H4 ω4 rel4 t4 => ⟨G4, ω4, ρ4, rel4, PostS.from (s1.trans t4) p⟩
      | ct ρ4 => rw [eb] at p; exact fun σ4 G4 H4 ω4 rel4 t4 => ⟨G4, ω4, ρ4, rel4, PostS.from (s1.trans t4) p⟩
      | bk ρ4 => rw [eb] at p; exact fun σ4 G4 H4 ω4 rel4 t4 => p σ4 G4 H4 ω4 rel4 (s1.trans t4)
      | rt d ρ4 => rw [eb] at p; exact fun v σ4 G4 H4 ω4 rel4 t4 o => p v σ4 G4 H4 ω4 rel4 (s1.trans t4) (Back.back s1 o)
      | ex c ρ4 => rw [eb] at p; exact fun cls dd σ4 G4 H4 ω4 rel4 t4 i => p cls dd σ4 G4 H4 ω4 rel4 (s1.trans t4) i
end
end DL
set_option Elab.async false
set_option linter.all false
set_option maxRecDepth 100000
set_option maxHeartbeats 1000000
namespace DL
open PySem PySem.Spec PyProof.Rows L2

/-! ### [e for x in it if t] -/
abbrev W0 : WX := fun _ _ _ _ => False
def wipeE (ρ : Env) : List Nat → Env
  | [] => ρ
  | v :: vs => (wipeE ρ vs).set v none
def lcD (vs : List Nat) (g : D → Env → Option Env) (T : Env → Out Bool) (Fe : Env → Out D) : List D → List D → Env → Out D
  | [], acc, ρ => .ok (.lst true acc) ρ false
  | d :: ds, acc, ρ => match g d ρ with
    | none => .no
    | some ρ1 => (match T ρ1 with
      | .ok k ρ2 _ => if k = true then (match Fe ρ2 with
        | .ok e ρ3 _ => if acc.length < sizeLine then lcD vs g T Fe ds (acc ++ [e]) (wipeE ρ3 vs) else .no
        | _ => .no) else lcD vs g T Fe ds acc (wipeE ρ2 vs)
      | _ => .no)
def fLc (vs : List Nat) (F : Env → Out (List D)) (g : D → Env → Option Env) (T : Env → Out Bool) (Fe : Env → Out D) : Env → Out D := fun ρ => (F ρ).bind fun ds ρ1 => lcD vs g T Fe ds [] (wipeE ρ1 vs)
def fYes : Env → Out Bool := fun ρ => .ok true ρ true
/-- a target stores within vs -/
def KeepG (vs : List Nat) (g : TG) : Prop := ∀ v σ H Q, g v σ H Q → g v σ H fun σ' H' => Q σ' H' ∧ wipe σ' vs = wipe σ vs
def KeepGs (vs : List Nat) (g : TGs) : Prop := ∀ us σ H Q, g us σ H Q → g us σ H fun σ' H' => Q σ' H' ∧ wipe σ' vs = wipe σ vs
theorem wipe_get {σ : L2.St} {j : Nat} : ∀ {vs : List Nat}, (wipe σ vs)[j]? = if j ∈ vs then (if j < σ.length then some none else none) else σ[j]?
  | [] => by simp [wipe]
  | v :: vs => by
    unfold wipe
    rw [List.getElem?_set, wipe_length, wipe_get (vs := vs)]
    by_cases hj : v = j
    · subst hj; simp
    · have hj' : ¬ j = v := fun e => hj e.symm
      simp [hj, hj']
theorem wipeE_get {σ : Env} {j : Nat} : ∀ {vs : List Nat}, (wipeE σ vs)[j]? = if j ∈ vs then (if j < σ.length then some none else none) else σ[j]?
  | [] => by simp [wipeE]
  | v :: vs => by
    have hl : ∀ ws : List Nat, (wipeE σ ws).length = σ.length := by
      intro ws
      induction ws with
      | nil => rfl
      | cons w ws ih => unfold wipeE; rw [List.length_set, ih]
    unfold wipeE
    rw [List.getElem?_set, hl, wipeE_get (vs := vs)]
    by_cases hj : v = j
    · subst hj; simp
    · have hj' : ¬ j = v := fun e => hj e.symm
      simp [hj, hj']
theorem wipeE_length (σ : Env) : ∀ ws : List Nat, (wipeE σ ws).length = σ.length
  | [] => rfl
  | w :: ws => by unfold wipeE; rw [List.length_set, wipeE_length σ ws]
theorem wipe_set {σ : L2.St} {i : Nat} {x : Option V} {vs : List Nat} (h : i ∈ vs) : wipe (σ.set i x) vs = wipe σ vs := by
  apply List.ext_getElem?
  intro j
  rw [wipe_get, wipe_get, List.length_set]
  by_cases hj : i = j
  · subst hj; simp [h]
  · rw [List.getElem?_set_ne hj]
theorem keep_name {vs : List Nat} {i : Nat} (h : i ∈ vs) : KeepG vs (gName i) := fun v σ H Q q => ⟨q, wipe_set h⟩
theorem keep_nil {vs : List Nat} : KeepGs vs gNil := fun us σ H Q ⟨e, q⟩ => ⟨e, q, rfl⟩
theorem keep_cons {vs : List Nat} {g : TG} {gs : TGs} (h : KeepG vs g) (h' : KeepGs vs gs) (m : ∀ v σ H Q Q', (∀ σ' H', Q σ' H' → Q' σ' H') → g v σ H Q → g v σ H Q') : KeepGs vs (gCons g gs) := fun us σ H Q ⟨v, r, e, q⟩ =>
  ⟨v, r, e, m _ _ _ _ _ (fun σ' H' z => (h' r σ' H' Q z.1) |> fun y => by
    have k := z.2
    exact (show gs r σ' H' (fun σ2 H2 => Q σ2 H2 ∧ wipe σ2 vs = wipe σ vs) from by rw [← k]; exact y)) (h v σ H _ q)⟩
theorem keep_tup {K : PySem.W.Frag} {n : Nat} {vs : List Nat} {gs : TGs} (h : KeepGs vs gs) : KeepG vs (gTup K n gs) := fun v σ H Q ⟨a, xs, e1, e2, e3, q⟩ => ⟨a, xs, e1, e2, e3, h xs σ H Q q⟩
theorem mono_name {i : Nat} : ∀ v σ H (Q Q' : L2.St → Hp → Prop), (∀ σ' H', Q σ' H' → Q' σ' H') → gName i v σ H Q → gName i v σ H Q' := fun v σ H Q Q' h q => h _ _ q
theorem mono_tup {K : PySem.W.Frag} {n : Nat} {gs : TGs} (m : ∀ us σ H (Q Q' : L2.St → Hp → Prop), (∀ σ' H', Q σ' H' → Q' σ' H') → gs us σ H Q → gs us σ H Q') : ∀ v σ H (Q Q' : L2.St → Hp → Prop), (∀ σ' H', Q σ' H' → Q' σ' H') → gTup K n gs v σ H Q → gTup K n gs v σ H Q' :=
  fun v σ H Q Q' h ⟨a, xs, e1, e2, e3, q⟩ => ⟨a, xs, e1, e2, e3, m xs σ H Q Q' h q⟩
theorem monos_nil : ∀ us σ H (Q Q' : L2.St → Hp → Prop), (∀ σ' H', Q σ' H' → Q' σ' H') → gNil us σ H Q → gNil us σ H Q' := fun us σ H Q Q' h ⟨e, q⟩ => ⟨e, h _ _ q⟩
theorem monos_cons {g : TG} {gs : TGs} (m : ∀ v σ H (Q Q' : L2.St → Hp → Prop), (∀ σ' H', Q σ' H' → Q' σ' H') → g v σ H Q → g v σ H Q') (ms : ∀ us σ H (Q Q' : L2.St → Hp → Prop), (∀ σ' H', Q σ' H' → Q' σ' H') → gs us σ H Q → gs us σ H Q') :
    ∀ us σ H (Q Q' : L2.St → Hp → Prop), (∀ σ' H', Q σ' H' → Q' σ' H') → gCons g gs us σ H Q → gCons g gs us σ H Q' := fun us σ H Q Q' h ⟨v, r, e, q⟩ => ⟨v, r, e, m _ _ _ _ _ (fun σ' H' z => ms _ _ _ _ _ h z) q⟩
section
variable {K : PySem.W.Frag} {B : By} {W : WX} {b : Bs} {G H : Hp} {ω : Lb} {σ : L2.St} {ρ : Env}
/-- the block's own names out of sight -/
theorem Rel.wipe (R : Rel K b B G H ω σ ρ) {σ' : L2.St} {vs : List Nat} (hv : ∀ i ∈ vs, i ∉ B.l) (hs : L2.wipe σ' vs = L2.wipe σ vs) : Rel K b B G H ω σ' (wipeE ρ vs) where
  le := R.le
  leG := R.leG
  old := R.old
  dom := R.dom
  fr := R.fr
  own := R.own
  bB := R.bB
  len := by
    have h := congrArg List.length hs
    rw [wipe_length, wipe_length] at h
    rw [wipeE_length, h, R.len]
  slot := fun i d e => by
    rw [wipeE_get] at e
    by_cases hi : i ∈ vs
    · rw [if_pos hi] at e
      split at e <;> cases e
    · rw [if_neg hi] at e
      obtain ⟨v, h1, h2⟩ := R.slot i d e
      have z := congrArg (·[i]?) hs
      simp only [wipe_out hi] at z
      exact ⟨v, by rw [z]; exact h1, h2⟩
  pin := R.pin
  byr := fun i hi => by
    have hn : i ∉ vs := fun z => hv i z hi
    have z := congrArg (·[i]?) hs
    simp only [wipe_out hn] at z
    rw [z]
    exact R.byr i hi
/-- an object that nobody owns and that is not frozen is made, or changed -/
theorem Rel.aside (R : Rel K b B G H ω σ ρ) {L : Addr} {o : HO} (h1 : ω L = none) (h2 : G L = none) (h3 : b.H L = none) : Rel K b B G (L2.upd H L o) ω σ ρ where
  le := fun a u e => by rw [upd_ne (fun z => by rw [z, h2] at e; cases e)]; exact R.le a u e
  leG := R.leG
  old := fun a u q e => by rw [upd_ne (fun z => by rw [z, h3] at e; cases e)]; exact R.old a u q e
  dom := fun a e => by
    by_cases c : a = L
    · rw [c]; exact h3
    · rw [upd_ne c] at e; exact R.dom a e
  fr := R.fr
  own := fun a l q => by
    obtain ⟨y1, y2, y3⟩ := R.own a l q
    exact ⟨y1, y2.of_eq (upd_ne (fun z => by rw [z, h1] at q; cases q)), y3⟩
  bB := R.bB
  len := R.len
  slot := fun i d e => by
    obtain ⟨v, z1, z2⟩ := R.slot i d e
    exact ⟨v, z1, z2.go (Same.refl _) fun a p q => ⟨q, upd_ne (fun z => by rw [z, h1] at q; cases q)⟩⟩
  byr := R.byr
  pin := R.pin
theorem Tr.aside {G0 H0 : Hp} {ω0 : Lb} (t : Tr G0 H0 ω0 G H ω) {L : Addr} {o : HO} (h : H0 L = none) : Tr G0 H0 ω0 G (L2.upd H L o) ω where
  g := t.g
  keep := fun a u q e => by
    obtain ⟨k1, k2⟩ := t.keep a u q e
    exact ⟨by rw [upd_ne (fun z => by rw [z, h] at e; cases e)]; exact k1, k2⟩
  hid := t.hid
  dom := fun a e => by
    by_cases c : a = L
    · rw [c]; exact h
    · rw [upd_ne c] at e; exact t.dom a e
theorem wipe_wipe {σ : L2.St} {vs : List Nat} : L2.wipe (L2.wipe σ vs) vs = L2.wipe σ vs := by
  apply List.ext_getElem?
  intro j
  rw [wipe_get, wipe_length, wipe_get]
  by_cases h : j ∈ vs <;> simp [h]
def Bare (vs : List Nat) (ρ : Env) : Prop := ∀ i ∈ vs, ∀ d, ρ[i]? ≠ some (some d)
theorem bare_wipe {vs : List Nat} {ρ : Env} : Bare vs (wipeE ρ vs) := fun i hi d e => by
  rw [wipeE_get, if_pos hi] at e
  split at e <;> cases e
theorem Rel.bare (R : Rel K b B G H ω σ ρ) {σ' : L2.St} {vs : List Nat} (hv : ∀ i ∈ vs, i ∉ B.l) (hs : L2.wipe σ' vs = L2.wipe σ vs) (hb : Bare vs ρ) : Rel K b B G H ω σ' ρ :=
  ⟨R.le, R.leG, R.old, R.dom, R.fr, R.own, R.bB, by rw [(R.wipe hv hs).len, wipeE_length], fun i d e => by
    have hi : i ∉ vs := fun z => hb i z d e
    refine (R.wipe hv hs).slot i d ?_
    rw [wipeE_get, if_neg hi]
    exact e, (R.wipe hv hs).byr, R.pin⟩
theorem sat_lc {wi : TI} {g : TG} {tt : TT} {te : TE} {F : Env → Out (List D)} {Fg : D → Env → Option Env} {T : Env → Out Bool} {Fe : Env → Out D} {vs : List Nat} (hi : Sat K B W (YldR K) wi F) (hg : SatG K B g Fg) (hk : KeepG vs g)
    (hm : ∀ v σ H (Q Q' : L2.St → Hp → Prop), (∀ σ' H', Q σ' H' → Q' σ' H') → g v σ H Q → g v σ H Q') (ht : Sat K B W0 (EqR Bool) tt T) (he : Sat K B W0 (IsR K) te Fe) (hv : ∀ i ∈ vs, i ∉ B.l) : Sat K B W (OwnR K) (tLc wi g tt te vs) (fLc vs F Fg T Fe) := by
  intro b G0 H0 ω0 σ ρ0 rel0 Q post0
  refine hi.at rel0 post0 fun G1 H1 ω1 ρ1 J ds rel1 s1 Y post1 => ?_
  intro L hL
  have oL : ω1 L = none := by
    cases q : ω1 L with
    | none => rfl
    | some l => exact absurd hL (rel1.own L l q).2.1.ne
  have gL : G1 L = none := same_none rel1.le hL
  have bL : b.H L = none := rel1.dom L hL
  refine ⟨fun i m H => m = ds.length - i ∧ i ≤ ds.length ∧ ∃ G ω ρ acc xs, Rel K b B G H ω σ ρ ∧ Bare vs ρ ∧ Tr G1 H1 ω1 G H ω ∧ ω L = none ∧ G L = none ∧ H L = some (.lst xs) ∧ IsAll K G xs acc ∧
    Post K B W b G1 H1 ω1 σ (OwnR K) Q (lcD vs Fg T Fe (ds.drop i) acc ρ), ⟨_, rfl, Nat.zero_le _, G1, ω1, wipeE ρ1 vs, [], [], (rel1.aside oL gL bL).wipe hv rfl, bare_wipe, Tr.aside .refl hL, oL, gL, upd_same, .nil, post1⟩, ?_⟩
  rintro i m H ⟨rfl, hle, G, ω, ρ, acc, xs, rel, hb, t, oLw, gLw, hH, ia, post⟩
  by_cases hl : i < ds.length
  · refine .inr ⟨Y.go i G H t.g rel.le hl, fun H' => ∃ G ω ρ acc xs, Rel K b B G H' ω σ ρ ∧ Bare vs ρ ∧ Tr G1 H1 ω1 G H' ω ∧ ω L = none ∧ G L = none ∧ H' L = some (.lst xs) ∧ IsAll K G xs acc ∧
      Post K B W b G1 H1 ω1 σ (OwnR K) Q (lcD vs Fg T Fe (ds.drop (i + 1)) acc ρ), fun H' h => ⟨ds.length - (i + 1), by omega, rfl, hl, h⟩, fun x H' y => ?_⟩
    obtain ⟨d, hd, G2, st, le2, ix⟩ := Y.yld i G H x H' t.g rel.le hl y
    have e : ds.drop i = d :: ds.drop (i + 1) := by
      rw [List.drop_eq_getElem_cons hl]
      have z := hd
      rw [List.getElem?_eq_getElem hl] at z
      rw [Option.some.inj z]
    rw [e, lcD] at post
    have h'L : H' L = some (.lst xs) := st.h _ _ hH
    have g2L : G2 L = none := st.hid L (by rw [hH]; simp) gLw
    have rel2 : Rel K b B G2 H' ω (L2.wipe σ vs) ρ := (rel.step st le2).bare hv wipe_wipe hb
    have t2 : Tr G1 H1 ω1 G2 H' ω := t.trans (.step st)
    have ia2 := ia.mono st.g
    cases eg : Fg d ρ with
    | none => rw [eg] at post; exact post.elim
    | some ρ2 =>
      rw [eg] at post
      dsimp only at post
      refine hm _ _ _ _ _ (fun σ3 H3 z => ⟨z.2.trans wipe_wipe, z.1 (z.2.trans wipe_wipe)⟩) (hk x (L2.wipe σ vs) H' (fun σ3 H3 => L2.wipe σ3 vs = L2.wipe σ vs → tt σ3 H3 _) ?_)
      refine hg b G2 H' ω G2 H' ω (L2.wipe σ vs) ρ rel2 .refl x d (own_frz ix) _ ?_
      rw [eg]
      intro σ3 G3 H3 ω3 rel3 t3 w3
      refine ht b G3 H3 ω3 σ3 ρ2 rel3 _ ?_
      cases eT : T ρ2 with
      | no => rw [eT] at post; exact post.elim
      | ex c ρ4 => rw [eT] at post; exact post.elim
      | ok k ρ4 q4 =>
        rw [eT] at post
        dsimp only at post
        intro k' G4 H4 ω4 rel4 t4 _ ek
        subst ek
        have t34 := t3.trans t4
        cases k' with
        | false =>
          rw [if_neg (by decide)] at post
          obtain ⟨k1, k2⟩ := t34.keep L _ oLw h'L
          exact ⟨G4, ω4, wipeE ρ4 vs, acc, xs, rel4.wipe hv w3.symm, bare_wipe, t2.trans t34, k2, t34.hid L oLw (by rw [h'L]; simp) g2L, k1, ia2.mono t34.g, post⟩
        | true =>
          rw [if_pos rfl] at post
          refine he b G4 H4 ω4 σ3 ρ4 rel4 _ ?_
          cases eF : Fe ρ4 with
          | no => rw [eF] at post; exact post.elim
          | ex c ρ5 => rw [eF] at post; exact post.elim
          | ok e5 ρ5 q5 =>
            rw [eF] at post
            dsimp only at post
            intro y5 G5 H5 ω5 rel5 t5 _ iy
            have t35 := t34.trans t5
            obtain ⟨k1, k2⟩ := t35.keep L _ oLw h'L
            have g5L : G5 L = none := t35.hid L oLw (by rw [h'L]; simp) g2L
            have ia5 := ia2.mono t35.g
            split at post
            · rename_i hz
              exact ⟨xs, k1, by rw [ia.length]; exact hz, G5, ω5, wipeE ρ5 vs, acc ++ [e5], xs ++ [y5], (rel5.aside k2 g5L bL).wipe hv w3.symm, bare_wipe, Tr.aside (t2.trans t35) hL, k2, g5L, upd_same, ia5.append (.cons iy .nil), post⟩
            · exact post.elim
  · have e : i = ds.length := by omega
    subst e
    rw [List.drop_length, lcD] at post
    refine .inl ⟨Y.stop _ G H t.g rel.le (Nat.le_refl _), ?_⟩
    refine post (.ref L) G H ω rel t (fun z => by cases z) ⟨fun a => if a = L then some (0, none) else none, ⟨fun a ha => ?_⟩, .one (.lst (by simp) hH ia)⟩
    by_cases c : a = L
    · subst c
      exact ⟨oLw, gLw, ⟨_, hH, rfl⟩, bL, .inl hL⟩
    · simp [c] at ha
end
section
variable {X : Cx} {B : By} {W : WX}
structure DTs (X : Cx) (B : By) (es : List Expr) (t : TT) (F : Env → Out Bool) : Prop where
  pts : PTs X es t
  sat : Sat X.K B W0 (EqR Bool) t F
theorem dts_nil : DTs X B [] tYes fYes := ⟨pts_nil, fun b G H ω σ ρ rel Q post => Post.now rel post rfl⟩
theorem dts_one {c : Expr} {t : TT} {F : Env → Out Bool} (h : DT X B W0 c t F) : DTs X B [c] t F := ⟨pts_one h.pt, h.sat⟩
/-- a target of a comprehension -/
structure DK (X : Cx) (B : By) (vs : List Nat) (e : Expr) (g : TG) (F : D → Env → Option Env) : Prop where
  dg : DG X B e g F
  k : KeepG vs g
  m : ∀ v σ H (Q Q' : L2.St → Hp → Prop), (∀ σ' H', Q σ' H' → Q' σ' H') → g v σ H Q → g v σ H Q'
structure DKs (X : Cx) (B : By) (vs : List Nat) (es : List Expr) (g : TGs) (F : List D → Env → Option Env) : Prop where
  dg : DGs X B es g F
  k : KeepGs vs g
  m : ∀ v σ H (Q Q' : L2.St → Hp → Prop), (∀ σ' H', Q σ' H' → Q' σ' H') → g v σ H Q → g v σ H Q'
theorem dk_name {vs : List Nat} {e : Expr} {i : Nat} (h : DG X B e (gName i) (gN B.l i)) (hi : i ∈ vs) : DK X B vs e (gName i) (gN B.l i) := ⟨h, keep_name hi, mono_name⟩
theorem dks_nil {vs : List Nat} : DKs X B vs [] gNil gsNil := ⟨dgs_nil, keep_nil, monos_nil⟩
theorem dks_cons {vs : List Nat} {e : Expr} {es : List Expr} {g : TG} {gs : TGs} {F : D → Env → Option Env} {Fr : List D → Env → Option Env} (h : DK X B vs e g F) (h' : DKs X B vs es gs Fr)
    (hs : (assignEach (e :: es) X.env).map (·.2) = assign e X.env :: (assignEach es X.env).map (·.2) := by rfl) : DKs X B vs (e :: es) (gCons g gs) (gsCons F Fr) := ⟨dgs_cons h.dg h'.dg hs, keep_cons h.k h'.k h.m, monos_cons h.m h'.m⟩
theorem dk_tup {vs : List Nat} {es : List Expr} {k n : Nat} {pos : Pos} {gs : TGs} {Fr : List D → Env → Option Env} (hc : X.calm = true) (h : DKs X B vs es gs Fr)
    (hn : (assignEach es X.env).length = n := by rfl) (hst : (assignEach es X.env).findIdx? (·.1) = none := by rfl) : DK X B vs (.Tuple es k pos) (gTup X.K n gs) (gT n Fr) := ⟨dg_tup hc h.dg hn hst, keep_tup h.k, mono_tup h.m⟩
end
section
variable {X : Cx} {B : By} {W : WX} {elt tg iter : Expr} {ifs : List Expr} {scope : Scope} {own : List (Str × Nat)} {pos : Pos} {wi : TI} {g : TG} {tt : TT} {te : TE} {F : Env → Out (List D)} {Fg : D → Env → Option Env} {T : Env → Out Bool} {Fe : Env → Out D}
/-- one comprehension: as a value, or to be stored -/
theorem o_lc (hc : X.calm = true) (hN : X.N.Nodup) (hi : DI X B W tg iter wi F) (ok : BlkOk X.N X.env.scope scope own)
    (hg : ∀ (s : Shared) (H : Hp) (C : Addr) (cl : List (Str × Addr)) (fp : List Addr), DK (X.blk s H scope (compEnvC scope cl C X.env) fp) B (own.map (·.2)) tg g Fg)
    (ht : ∀ (s : Shared) (H : Hp) (C : Addr) (cl : List (Str × Addr)) (fp : List Addr), DTs (X.blk s H scope (compEnvC scope cl C X.env) fp) B ifs tt T)
    (he : ∀ (s : Shared) (H : Hp) (C : Addr) (cl : List (Str × Addr)) (fp : List Addr), DE (X.blk s H scope (compEnvC scope cl C X.env) fp) B W0 elt te Fe)
    (hv : ∀ i ∈ own.map (·.2), i ∉ B.l := by decide) (hs : ∀ x, foldedSetIterable iter X.env x = pure x := by intro _; rfl) : DO X B W (.ListComp elt [⟨tg, iter, ifs, 0⟩] scope pos) (tLc wi g tt te (own.map (·.2))) (fLc (own.map (·.2)) F Fg T Fe) := by
  refine ⟨pe_lc hc hN hi.pi ok (fun s H C cl fp => (hg s H C cl fp).dg.pg) (fun s H C cl fp => (ht s H C cl fp).pts) (fun s H C cl fp => (he s H C cl fp).pe) hs, ?_⟩
  exact sat_lc hi.sat (hg X.s_0 X.H_0 0 [] []).dg.sat (hg X.s_0 X.H_0 0 [] []).k (hg X.s_0 X.H_0 0 [] []).m (ht X.s_0 X.H_0 0 [] []).sat (he X.s_0 X.H_0 0 [] []).sat hv
theorem ds_setLc (i : Nat) {y : Str} {py spos : Pos} (hc : X.calm = true) (hN : X.N.Nodup) (hi : DI X B W tg iter wi F) (ok : BlkOk X.N X.env.scope scope own)
    (hg : ∀ (s : Shared) (H : Hp) (C : Addr) (cl : List (Str × Addr)) (fp : List Addr), DK (X.blk s H scope (compEnvC scope cl C X.env) fp) B (own.map (·.2)) tg g Fg)
    (ht : ∀ (s : Shared) (H : Hp) (C : Addr) (cl : List (Str × Addr)) (fp : List Addr), DTs (X.blk s H scope (compEnvC scope cl C X.env) fp) B ifs tt T)
    (he : ∀ (s : Shared) (H : Hp) (C : Addr) (cl : List (Str × Addr)) (fp : List Addr), DE (X.blk s H scope (compEnvC scope cl C X.env) fp) B W0 elt te Fe)
    (hsw : swapsWith (.ListComp elt [⟨tg, iter, ifs, 0⟩] scope pos) (some (.Name y py)) spos.line X.env = pure true)
    (hv : ∀ i ∈ own.map (·.2), i ∉ B.l := by decide) (hy : X.N[i]? = some y := by rfl) (hyl : X.env.scope.names.lookup y = some .local := by rfl) (hs : ∀ x, foldedSetIterable iter X.env x = pure x := by intro _; rfl) :
    DS X B W (.Assign [.Name y py] (.ListComp elt [⟨tg, iter, ifs, 0⟩] scope pos) spos) (tAsg (tLc wi g tt te (own.map (·.2))) (gName i)) (sAsg (fLc (own.map (·.2)) F Fg T Fe) (gN B.l i)) :=
  ⟨ps_setLc hc hN hy hyl hsw hi.pi ok (fun s H C cl fp => (hg s H C cl fp).dg.pg) (fun s H C cl fp => (ht s H C cl fp).pts) (fun s H C cl fp => (he s H C cl fp).pe) hs,
    ss_asg (sat_lc hi.sat (hg X.s_0 X.H_0 0 [] []).dg.sat (hg X.s_0 X.H_0 0 [] []).k (hg X.s_0 X.H_0 0 [] []).m (ht X.s_0 X.H_0 0 [] []).sat (he X.s_0 X.H_0 0 [] []).sat hv) sg_name⟩
end
end DL
set_option Elab.async false
set_option linter.all false
set_option maxRecDepth 100000
set_option maxHeartbeats 1000000
namespace DL
open PySem PySem.Spec PyProof.Rows L2

/-! ### what a def does to data: its first nb arguments may be changed (they are handed back) -/
def allSome : List (Option D) → Option (List D)
  | [] => some []
  | some d :: r => (allSome r).map (d :: ·)
  | none :: _ => none
def start0 (n : Nat) (ds : List D) : Env := ds.map some ++ List.replicate (n - ds.length) none
def toF (nb : Nat) (o : SOut) : FOut := match o with
  | .nx ρ => (match allSome (ρ.take nb) with
    | some bs => .ok .non bs
    | none => .no)
  | .rt d ρ => (match allSome (ρ.take nb) with
    | some bs => .ok d bs
    | none => .no)
  | .ex c ρ => (match allSome (ρ.take nb) with
    | some bs => .ex c bs
    | none => .no)
  | _ => .no
def runF (nb n : Nat) (F : Env → SOut) (ds : List D) : FOut := toF nb (F (start0 n ds))
theorem allSome_get : ∀ {l : List (Option D)} {bs : List D}, allSome l = some bs → l = bs.map some
  | [], bs, h => by simp only [allSome, Option.some.injEq] at h; subst h; rfl
  | some d :: r, bs, h => by
    simp only [allSome] at h
    cases e : allSome r with
    | none => rw [e] at h; cases h
    | some cs => rw [e] at h; cases h; rw [allSome_get e]; rfl
  | none :: r, bs, h => by simp [allSome] at h
structure FEnd (K : PySem.W.Frag) (nb : Nat) (G H : Hp) (ω : Lb) (vs : List V) (bs : List D) (G' H' : Hp) (ω' : Lb) : Prop where
  le : Same G' H'
  g : Same G G'
  keep : ∀ a o, ω a = none → H a = some o → H' a = some o
  dom : ∀ a, H' a = none → H a = none
  hid : ∀ a, H a ≠ none → G a = none → G' a = none
  own : ∀ a l, ω' a = some l → l.1 < nb ∧ G' a = none ∧ Mu H' a ∧ (H a = none ∨ ∃ p, ω a = some (l.1, p))
  len : bs.length = nb
  arg : ∀ (i : Nat) (e : D), bs[i]? = some e → ∃ u, vs[i]? = some u ∧ Own K G' H' ω' i u e
def PostF (K : PySem.W.Frag) (nb : Nat) (G H : Hp) (ω : Lb) (vs : List V) (Q : VK) (E : XK) : FOut → Prop
  | .ok d bs => ∀ v G' H' ω' ωt, FEnd K nb G H ω vs bs G' H' ω' → (∀ a, ωt a ≠ none → ω' a = none ∧ G' a = none ∧ Mu H' a ∧ H a = none) → Own K G' H' ωt 0 v d → Q v H'
  | .ex c bs => ∀ cls dd G' H' ω', FEnd K nb G H ω vs bs G' H' ω' → IsX K G' H' c cls dd → E cls dd H'
  | .no => False
def spOf (K : PySem.W.Frag) (nb np : Nat) (m : List D → FOut) : Sp := fun vs H Q E => ∃ (ds : List D) (G : Hp) (ω : Lb), vs.length = np ∧ vs.length = ds.length ∧ nb ≤ np ∧ Same G H ∧ (∀ a l, ω a = some l → l.1 < nb ∧ G a = none ∧ Mu H a) ∧
  (∀ (i : Nat) (d : D), ds[i]? = some d → ∃ v, vs[i]? = some v ∧ Own K G H ω i v d) ∧ PostF K nb G H ω vs Q E (m ds)

section
variable {K : PySem.W.Frag} {nb : Nat} {N : List Str}
theorem start_get {vs : List V} {i : Nat} {v : V} (h : vs[i]? = some v) : (L2.start N vs)[i]? = some (some v) := by
  have hl : i < vs.length := (List.getElem?_eq_some_iff.mp h).1
  unfold L2.start
  rw [List.getElem?_append_left (by rw [List.length_map]; exact hl), List.getElem?_map, h]
  rfl
theorem start0_get {n : Nat} {ds : List D} {i : Nat} {d : D} (h : (start0 n ds)[i]? = some (some d)) : ds[i]? = some d := by
  unfold start0 at h
  by_cases hl : i < ds.length
  · rw [List.getElem?_append_left (by rw [List.length_map]; exact hl), List.getElem?_map] at h
    cases e : ds[i]? with
    | none => rw [e] at h; cases h
    | some x => rw [e] at h; cases h; rfl
  · rw [List.getElem?_append_right (by rw [List.length_map]; omega), List.getElem?_replicate] at h
    split at h <;> cases h
/-- a body does what its data say -/
theorem body_ok {t : TS} {F : Env → SOut} {vs : List V} {H : Hp} {Q : VK} {E : XK} {np : Nat} (hb : SatS K ⟨List.range nb, []⟩ (fun cls d _ H => E cls d H) t F) (hn : np ≤ N.length) (h : spOf K nb np (runF nb N.length F) vs H Q E) :
    t { nx := fun _ H' => Q .non H', rt := Q } (L2.start N vs) H := by
  obtain ⟨ds, G, ω, l1, l2, l3, le, own, arg, post⟩ := h
  have rel : Rel K ⟨G, H, ω, L2.start N vs⟩ ⟨List.range nb, []⟩ G H ω (L2.start N vs) (start0 N.length ds) := by
    refine ⟨le, Same.refl _, fun a o _ e => e, fun a e => e, fun a _ g => g, fun a l q => ⟨(own a l q).2.1, (own a l q).2.2, .inr ⟨l.2, q⟩⟩, fun a l q => List.mem_range.mpr (own a l q).1, ?_, fun i d e => ?_, fun i hi => rfl, fun p hp => by cases hp⟩
    · unfold L2.start start0
      rw [List.length_append, List.length_append, List.length_map, List.length_map, List.length_replicate, List.length_replicate, l2]
    · obtain ⟨v, h1, h2⟩ := arg i d (start0_get e)
      exact ⟨v, start_get h1, h2⟩
  refine hb _ G H ω _ _ rel _ ?_
  -- the end of a run as its caller sees it
  have fin : ∀ {σ' : L2.St} {ρ' : Env} {G' H' : Hp} {ω' : Lb} {bs : List D}, Rel K ⟨G, H, ω, L2.start N vs⟩ ⟨List.range nb, []⟩ G' H' ω' σ' ρ' → allSome (ρ'.take nb) = some bs →
      FEnd K nb G H ω vs bs G' H' (fun a => match ω' a with | some (i, p) => if i < nb then some (i, p) else none | none => none) := by
    intro σ' ρ' G' H' ω' bs r e
    have eb := allSome_get e
    have lb : bs.length = nb := by
      have z := congrArg List.length eb
      rw [List.length_map, List.length_take, ← r.len] at z
      have hσ : σ'.length = N.length ∨ True := .inr trivial
      by_cases hk : nb ≤ σ'.length
      · omega
      · -- every by-ref slot stands as at the entry
        have q := r.byr (nb - 1) (List.mem_range.mpr (by omega))
        have q2 : (L2.start N vs)[nb - 1]? ≠ none := by
          have hv : nb - 1 < vs.length := by omega
          rw [start_get (v := vs[nb - 1]) (by simp [hv])]
          simp
        rw [← q] at q2
        exact absurd (List.getElem?_eq_none (by omega)) q2
    refine ⟨r.le, r.leG, r.old, r.dom, r.fr, fun a l q => ?_, lb, fun i e' h => ?_⟩
    · cases z : ω' a with
      | none => simp only [z] at q; cases q
      | some m =>
        obtain ⟨i, p⟩ := m
        simp only [z] at q
        by_cases hi : i < nb
        · rw [if_pos hi] at q
          cases q
          obtain ⟨y1, y2, y3⟩ := r.own a (i, p) z
          exact ⟨hi, y1, y2, y3⟩
        · rw [if_neg hi] at q; cases q
    · have hi : i < nb := by rw [← lb]; exact (List.getElem?_eq_some_iff.mp h).1
      have hρ : ρ'[i]? = some (some e') := by
        have z : (ρ'.take nb)[i]? = (bs.map some)[i]? := by rw [eb]
        rw [List.getElem?_take_of_lt hi, List.getElem?_map, h] at z
        exact z
      obtain ⟨u, h1, h2⟩ := r.slot i e' hρ
      have q := r.byr i (List.mem_range.mpr hi)
      have hv : i < vs.length := by omega
      rw [start_get (v := vs[i]) (by simp [hv]), h1] at q
      cases q
      exact ⟨vs[i], by simp [hv], h2.go (Same.refl _) fun a p q => ⟨by simp only [q]; rw [if_pos hi], rfl⟩⟩
  unfold runF toF at post
  cases e : F (start0 N.length ds) with
  | no => rw [e] at post; exact post.elim
  | bk ρ1 => rw [e] at post; exact post.elim
  | ct ρ1 => rw [e] at post; exact post.elim
  | nx ρ1 =>
    rw [e] at post
    dsimp only at post
    cases e2 : allSome (ρ1.take nb) with
    | none => rw [e2] at post; exact post.elim
    | some bs =>
      rw [e2] at post
      exact fun σ' G' H' ω' r _ => post .non G' H' _ (fun _ => none) (fin r e2) (fun a z => absurd rfl z) (.frz .non)
  | rt d ρ1 =>
    rw [e] at post
    dsimp only at post
    cases e2 : allSome (ρ1.take nb) with
    | none => rw [e2] at post; exact post.elim
    | some bs =>
      rw [e2] at post
      rintro v σ' G' H' ω' r _ ⟨ωt, T, o⟩
      refine post v G' H' _ ωt (fin r e2) (fun a z => ?_) o
      obtain ⟨y1, y2, y3, y4, _⟩ := T.at' a z
      exact ⟨by simp only [y1], y2, y3, y4⟩
  | ex c ρ1 =>
    rw [e] at post
    dsimp only at post
    cases e2 : allSome (ρ1.take nb) with
    | none => rw [e2] at post; exact post.elim
    | some bs =>
      rw [e2] at post
      exact fun cls dd σ' G' H' ω' r _ i => post cls dd G' H' _ (fin r e2) i
theorem sp_len {np : Nat} {m : List D → FOut} {ps : List Str} (h : ps.length = np) : ∀ vs H Q E, spOf K nb np m vs H Q E → vs.length = ps.length := fun vs H Q E ⟨_, _, _, l1, _⟩ => l1.trans h.symm
end
section
variable {P : Program} {w : World} {K : PySem.W.Frag} {mg : Str → Option Value} {base : Heap} {nb : Nat}
/-- THE RULE for a def: its body's judgement -/
theorem fnD {x qual : Str} {params : Arguments} {body : List Stmt} {scope : Scope} {dvs : List V} {kws : List (Str × V)} {f : Addr} {fd : FuncData} {k np n : Nat} {m : List D → FOut} (N ps : List Str) (Fb : Env → SOut) (F : FunD K x qual params body scope dvs kws f fd) (S : FnScope N ps scope)
    (hm : m = runF nb n Fb) (hp : ps.length = np) (hn : N.length = n) (hpn : ps.length ≤ N.length)
    (hbody : ∀ (cdv : Value) (A : Around) (outer : List PySem.Env) (s : Shared) (H : Hp) (E : XK), RmG k (A.deeper (envOfC qual scope s.heap.objs.size f cdv)) →
      ∃ t, DSs (cxOf (L2.CX P w) P w K mg base N qual scope f cdv A outer s H E) ⟨List.range nb, []⟩ (fun cls d _ H => E cls d H) body t Fb) :
    FnG P w K mg base (k + 1) f fd ps (spOf K nb np m) := by
  subst hm hp hn
  obtain ⟨oc, od, dV, kV, doc, pm, an, cdv, ct, osl, rfl, lk, hcd, _, _⟩ := F.ex
  refine fnG_of lk hcd S (sp_len rfl) fun A outer s H vs Q E hr h => ?_
  obtain ⟨t, d⟩ := hbody cdv A outer s H E hr
  exact ⟨t, d.ps, body_ok d.sat hpn h⟩
end

/-! ### calls -/
def getAll (ρ : Env) : List Nat → Option (List D)
  | [] => some []
  | j :: js => match ρ[j]?, getAll ρ js with
    | some (some d), some ds => some (d :: ds)
    | _, _ => none
def putAll (ρ : Env) : List Nat → List D → Env
  | j :: js, d :: ds => putAll (ρ.set j (some d)) js ds
  | _, _ => ρ
def callO (js : List Nat) (o : FOut) (ρ : Env) : Out D := match o with
  | .ok d bs => .ok d (putAll ρ js bs) js.isEmpty
  | .ex c bs => .ex c (putAll ρ js bs)
  | .no => .no
def fCall (js : List Nat) (m : List D → FOut) (F : Env → Out (List D)) : Env → Out D := fun ρ => (F ρ).bind fun as ρ1 => match getAll ρ1 js with
  | some ds => callO js (m (ds ++ as)) ρ1
  | none => .no
/-- the slots' values -/
abbrev Looked (σ : L2.St) : List Nat → List V → Prop := Paired fun (j : Nat) (v : V) => σ[j]? = some (some v)
abbrev ArgR (K : PySem.W.Frag) (σ : L2.St) (js : List Nat) : Rep (List D) (List V) := fun _ _ _ G _ _ vs ds => ∃ vb vv, vs = vb ++ vv ∧ Looked σ js vb ∧ IsAll K G vv ds
instance {K : PySem.W.Frag} {σ : L2.St} {js : List Nat} : Back (ArgR K σ js) := ⟨fun _ h => h⟩
def SatB (K : PySem.W.Frag) (B : By) (W : WX) (js : List Nat) (t : TA) (F : Env → Out (List D)) : Prop := ∀ b G H ω σ ρ, Rel K b B G H ω σ ρ → ∀ Q, Post K B W b G H ω σ (ArgR K σ js) Q (F ρ) → t σ H Q
structure DB (X : Cx) (B : By) (W : WX) (js : List Nat) (es : List Expr) (t : TA) (F : Env → Out (List D)) : Prop where
  pa : PA X es t
  sat : SatB X.K B W js t F
def fRef (j : Nat) (F : Env → Out (List D)) : Env → Out (List D) := fun ρ => match ρ[j]? with
  | some (some _) => F ρ
  | _ => .no
/-- defaults behind the written values -/
def fDfl (ds : List D) (F : Env → Out (List D)) : Env → Out (List D) := fun ρ => (F ρ).bind fun as ρ1 => .ok (as ++ ds) ρ1 true
section
variable {X : Cx} {B : By} {W : WX} {e : Expr} {es : List Expr} {te : TE} {t : TA} {Fe : Env → Out D} {F : Env → Out (List D)} {js : List Nat}
theorem db_of (h : DA X B W es t F) : DB X B W [] es t F := ⟨h.pa, fun b G H ω σ ρ rel Q post => h.sat b G H ω σ ρ rel Q (by
  cases c : F ρ with
  | no => rw [c] at post; exact post
  | ex c' ρ' => rw [c] at post; exact post
  | ok d ρ' q => rw [c] at post; exact fun v G' H' ω' r s f i => post v G' H' ω' r s f ⟨[], v, rfl, .nil, i⟩)⟩
theorem db_cons (j : Nat) {x : Str} {pos : Pos} (h : DB X B W js es t F) (hN : X.N[j]? = some x := by rfl) (hv : Vis X.env.scope x := by first | exact Or.inl rfl | exact Or.inr (Or.inl rfl) | exact Or.inr (Or.inr rfl)) (hd : (x == ("__debug__" : Str)) = false := by decide)
    (hcd : (x == ("__classdict__" : Str)) = false := by decide) (hs : starEach (.Name x pos :: es) X.env = (false, eval (.Name x pos) X.env) :: starEach es X.env := by rfl) : DB X B W (j :: js) (.Name x pos :: es) (tCons (tVar j) t) (fRef j F) := by
  refine ⟨pa_cons (pe_var hN hv hd hcd) h.pa hs, fun b G H ω σ ρ rel Q post => ?_⟩
  unfold fRef at post
  split at post
  · rename_i d e
    obtain ⟨v, h1, _⟩ := rel.slot j d e
    refine ⟨v, h1, h.sat b G H ω σ ρ rel _ ?_⟩
    cases c : F ρ with
    | no => rw [c] at post; exact post
    | ex c' ρ' => rw [c] at post; exact post
    | ok d ρ' q =>
      rw [c] at post
      rintro vs G' H' ω' r s f ⟨vb, vv, rfl, l, i⟩
      exact post _ G' H' ω' r s f ⟨v :: vb, vv, rfl, .cons h1 l, i⟩
  · exact post.elim
end
section
variable {K : PySem.W.Frag} {B : By} {W : WX} {b : Bs} {G H : Hp} {ω : Lb} {σ : L2.St} {ρ : Env}
theorem getAll_get : ∀ {js : List Nat} {ds : List D} {i j : Nat}, getAll ρ js = some ds → js[i]? = some j → ∃ d, ds[i]? = some d ∧ ρ[j]? = some (some d)
  | [], ds, i, j, h, e => by simp at e
  | k :: js, ds, i, j, h, e => by
    unfold getAll at h
    split at h
    · rename_i d es h1 h2
      cases h
      cases i with
      | zero => simp at e; subst e; exact ⟨d, rfl, h1⟩
      | succ i => exact getAll_get (i := i) h2 (by simpa using e)
    · cases h
theorem getAll_len : ∀ {js : List Nat} {ds : List D}, getAll ρ js = some ds → ds.length = js.length
  | [], ds, h => by simp only [getAll, Option.some.injEq] at h; subst h; rfl
  | k :: js, ds, h => by
    unfold getAll at h
    split at h
    · rename_i d es h1 h2
      cases h
      rw [List.length_cons, List.length_cons, getAll_len h2]
    · cases h
theorem putAll_len : ∀ {js : List Nat} {ds : List D} {ρ : Env}, (putAll ρ js ds).length = ρ.length
  | [], _, _ => rfl
  | _ :: _, [], _ => rfl
  | j :: js, d :: ds, ρ => by unfold putAll; rw [putAll_len, List.length_set]
theorem putAll_get : ∀ {js : List Nat} {bs : List D} {ρ : Env} {k : Nat} {d : D}, js.Nodup → bs.length = js.length → (putAll ρ js bs)[k]? = some (some d) → (∃ i : Nat, js[i]? = some k ∧ bs[i]? = some d) ∨ (k ∉ js ∧ ρ[k]? = some (some d))
  | [], [], ρ, k, d, _, _, h => .inr ⟨by simp, h⟩
  | j :: js, c :: bs, ρ, k, d, nd, hl, h => by
    unfold putAll at h
    have nd' := List.nodup_cons.mp nd
    rcases putAll_get nd'.2 (by simpa using hl) h with ⟨i, h1, h2⟩ | ⟨h1, h2⟩
    · exact .inl ⟨i + 1, by simpa using h1, by simpa using h2⟩
    · rw [List.getElem?_set] at h2
      split at h2
      · rename_i e
        subst e
        split at h2
        · cases h2; exact .inl ⟨0, rfl, rfl⟩
        · cases h2
      · rename_i e
        exact .inr ⟨by simp only [List.mem_cons, not_or]; exact ⟨fun z => e z.symm, h1⟩, h2⟩
  | [], _ :: _, ρ, k, d, _, hl, h => by simp at hl
  | _ :: _, [], ρ, k, d, _, hl, h => by simp at hl
theorem looked_get : ∀ {js : List Nat} {vs : List V} {i j : Nat}, Looked σ js vs → js[i]? = some j → ∃ v, vs[i]? = some v ∧ σ[j]? = some (some v)
  | _, _, i, j, .nil, e => by simp at e
  | _, _, 0, j, .cons h r, e => by simp at e; subst e; exact ⟨_, rfl, h⟩
  | _, _, i + 1, j, .cons h r, e => by
    obtain ⟨v, h1, h2⟩ := looked_get (i := i) r (by simpa using e)
    exact ⟨v, by simpa using h1, h2⟩
theorem looked_len {js : List Nat} {vs : List V} (h : Looked σ js vs) : vs.length = js.length := (Paired.length h).symm
/-- the labels as the callee sees them -/
def toCallee (js : List Nat) (ω : Lb) : Lb := fun a => match ω a with
  | some (j, p) => if j ∈ js then some (js.idxOf j, p) else none
  | none => none
/-- and back -/
def toCaller (js : List Nat) (ω ω' : Lb) : Lb := fun a => match ω' a with
  | some (i, p) => (js[i]?).map fun j => (j, p)
  | none => if (toCallee js ω a).isSome then none else ω a
theorem callee_some {js : List Nat} {a : Addr} {i : Nat} {p : Option Str} (h : toCallee js ω a = some (i, p)) : ∃ j, js[i]? = some j ∧ ω a = some (j, p) := by
  unfold toCallee at h
  cases q : ω a with
  | none => rw [q] at h; cases h
  | some l =>
    rw [q] at h
    obtain ⟨j, p'⟩ := l
    by_cases c : j ∈ js
    · simp only [c, if_true] at h
      cases h
      exact ⟨j, by rw [List.getElem?_eq_getElem (List.idxOf_lt_length_of_mem c), List.getElem_idxOf], rfl⟩
    · simp [c] at h
theorem callee_of {js : List Nat} {a : Addr} {i j : Nat} {p : Option Str} (nd : js.Nodup) (h : ω a = some (j, p)) (e : js[i]? = some j) : toCallee js ω a = some (i, p) := by
  unfold toCallee
  rw [h]
  have c : j ∈ js := List.mem_of_getElem? e
  simp only [c, if_true]
  have hi : i < js.length := (List.getElem?_eq_some_iff.mp e).1
  have e1 : js[js.idxOf j]? = js[i]? := by rw [e, List.getElem?_eq_getElem (List.idxOf_lt_length_of_mem c), List.getElem_idxOf]
  have e2 : js.idxOf j = i := (List.getElem?_inj (List.idxOf_lt_length_of_mem c) nd).mp e1
  rw [e2]
theorem callee_none {js : List Nat} {a : Addr} (h : ω a = none) : toCallee js ω a = none := by unfold toCallee; rw [h]
/-- behind a call -/
theorem Rel.called (R : Rel K b B G H ω σ ρ) {js : List Nat} {vb vv : List V} {bs : List D} {G' H' : Hp} {ω' : Lb} (nd : js.Nodup) (hl : Looked σ js vb) (E : FEnd K js.length G H (toCallee js ω) (vb ++ vv) bs G' H' ω') :
    Rel K b B G' H' (toCaller js ω ω') σ (putAll ρ js bs) ∧ Tr G H ω G' H' (toCaller js ω ω') := by
  have kk : ∀ {a : Addr}, ω a = none → H a ≠ none → ω' a = none := fun {a} h1 h2 => by
    cases q : ω' a with
    | none => rfl
    | some l =>
      rcases (E.own a l q).2.2.2 with z | ⟨p, z⟩
      · exact absurd z h2
      · obtain ⟨j, _, y⟩ := callee_some z
        rw [h1] at y; cases y
  refine ⟨⟨E.le, R.leG.trans E.g, fun a o h1 h2 => ?_, fun a h => R.dom a (E.dom a h), fun a h g => E.hid a (fun z => h (R.dom a z)) (R.fr a h g), fun a l q => ?_, R.bB, by rw [putAll_len]; exact R.len, fun k d h => ?_, R.byr, R.pin⟩,
    ⟨E.g, fun a o h e => ⟨E.keep a o (callee_none h) e, ?_⟩, fun a h e g => E.hid a e g, E.dom⟩⟩
  · have h3 := R.old a o h1 h2
    refine E.keep a o (callee_none ?_) h3
    cases q : ω a with
    | none => rfl
    | some l =>
      rcases (R.own a l q).2.2 with z | ⟨p, z⟩
      · rw [z] at h2; cases h2
      · rw [z] at h1; cases h1
  · unfold toCaller at q
    cases z : ω' a with
    | some m =>
      obtain ⟨i, p⟩ := m
      simp only [z] at q
      obtain ⟨y1, y2, y3, y4⟩ := E.own a (i, p) z
      cases w : js[i]? with
      | none => rw [w] at q; cases q
      | some j =>
        rw [w] at q
        cases q
        refine ⟨y2, y3, ?_⟩
        rcases y4 with y4 | ⟨p', y4⟩
        · exact .inl (R.dom a y4)
        · obtain ⟨j', x1, x2⟩ := callee_some y4
          rw [w] at x1
          cases x1
          exact (R.own a (j, p') x2).2.2
    | none =>
      simp only [z] at q
      cases w : toCallee js ω a with
      | some m => rw [w] at q; simp at q
      | none =>
        rw [w] at q
        have q' : ω a = some l := by simpa using q
        obtain ⟨y1, y2, y3⟩ := R.own a l q'
        obtain ⟨o, y4, y5⟩ := y2
        exact ⟨E.hid a (by rw [y4]; simp) y1, ⟨o, E.keep a o w y4, y5⟩, y3⟩
  · rcases putAll_get nd E.len h with ⟨i, h1, h2⟩ | ⟨h1, h2⟩
    · obtain ⟨u, h3, h4⟩ := E.arg i d h2
      obtain ⟨v, h5, h6⟩ := looked_get hl h1
      have hi : i < vb.length := (List.getElem?_eq_some_iff.mp h5).1
      rw [List.getElem?_append_left hi, h5] at h3
      cases h3
      refine ⟨_, h6, h4.go (Same.refl _) fun a p q => ⟨?_, rfl⟩⟩
      unfold toCaller
      simp only [q, h1]
      rfl
    · obtain ⟨v, h3, h4⟩ := R.slot k d h2
      refine ⟨v, h3, h4.go E.g fun a p q => ?_⟩
      have c1 : toCallee js ω a = none := by
        unfold toCallee
        rw [q]
        simp only [h1, if_false]
      obtain ⟨o, y4⟩ := some_of_ne (R.own a _ q).2.1.ne
      have c2 : ω' a = none := by
        cases z : ω' a with
        | none => rfl
        | some l =>
          rcases (E.own a l z).2.2.2 with x | ⟨p', x⟩
          · rw [y4] at x; cases x
          · rw [c1] at x; cases x
      refine ⟨?_, by rw [E.keep a o c1 y4, y4]⟩
      unfold toCaller
      simp only [c2, c1]
      simpa using q
  · unfold toCaller
    simp only [kk h (by rw [e]; simp), callee_none h]
    simpa using h
/-- a call with the slots js handed on -/
theorem call_core {np : Nat} {m : List D → FOut} {js : List Nat} {vb vv : List V} {db dv : List D} {Q : VK} (R : Rel K b B G H ω σ ρ) (nd : js.Nodup) (hl : Looked σ js vb) (iv : IsAll K G vv dv) (hg : getAll ρ js = some db) (hn : vb.length + vv.length = np) (h0 : js.length ≤ np)
    (post : Post K B W b G H ω σ (OwnR K) Q (callO js (m (db ++ dv)) ρ)) : spOf K js.length np m (vb ++ vv) H Q (fun cls d H' => W cls d σ H') := by
  have lb := looked_len hl
  have ld := getAll_len hg
  refine ⟨db ++ dv, G, toCallee js ω, by rw [List.length_append]; exact hn, by rw [List.length_append, List.length_append, lb, ld, iv.length], h0, R.le, fun a l q => ?_, fun i d h => ?_, ?_⟩
  · obtain ⟨i, p⟩ := l
    obtain ⟨j, h1, h2⟩ := callee_some q
    obtain ⟨y1, y2, _⟩ := R.own a _ h2
    exact ⟨(List.getElem?_eq_some_iff.mp h1).1, y1, y2⟩
  · by_cases hi : i < db.length
    · rw [List.getElem?_append_left hi] at h
      have hj : i < js.length := by rw [← ld]; exact hi
      obtain ⟨d', h1, h2⟩ := getAll_get hg (i := i) (j := js[i]) (by simp [hj])
      rw [h] at h1
      cases h1
      obtain ⟨v, h3, h4⟩ := looked_get hl (i := i) (j := js[i]) (by simp [hj])
      obtain ⟨u, h5, h6⟩ := R.slot _ d h2
      rw [h4] at h5
      cases h5
      have hi' : i < vb.length := by rw [lb]; exact hj
      exact ⟨v, by rw [List.getElem?_append_left hi']; exact h3, h6.go (Same.refl _) fun a p q => ⟨callee_of nd q (by simp [hj]), rfl⟩⟩
    · rw [List.getElem?_append_right (by omega)] at h
      obtain ⟨v, h1, h2⟩ := iv.get' h
      exact ⟨v, by rw [List.getElem?_append_right (by omega), lb, ← ld]; exact h1, .frz h2⟩
  · cases e : m (db ++ dv) with
    | no => rw [e] at post; exact post.elim
    | ex c bs =>
      rw [e] at post
      intro cls dd G' H' ω' E i
      obtain ⟨r, t⟩ := R.called nd hl E
      exact post cls dd G' H' _ r t i
    | ok d bs =>
      rw [e] at post
      intro v G' H' ω' ωt E T o
      obtain ⟨r, t⟩ := R.called nd hl E
      refine post v G' H' _ r t (fun hq => ?_) ⟨ωt, ⟨fun a z => ?_⟩, o⟩
      · have ej : js = [] := by simpa using hq
        subst ej
        have h1 : ∀ a, toCallee [] ω a = none := fun a => by
          unfold toCallee
          cases ω a with
          | none => rfl
          | some l => rfl
        have h2 : ∀ a, ω' a = none := fun a => by
          cases z : ω' a with
          | none => rfl
          | some l => exact absurd (E.own a l z).1 (by simp)
        refine ⟨?_, fun a o h => E.keep a o (h1 a) h⟩
        funext a
        unfold toCaller
        simp only [h2 a, h1 a]
        rfl
      · obtain ⟨y1, y2, y3, y4⟩ := T a z
        refine ⟨?_, y2, y3, R.dom a y4, .inl y4⟩
        unfold toCaller
        simp only [y1]
        cases q : ω a with
        | none => simp
        | some l => exact absurd y4 (R.own a l q).2.1.ne
end
end DL
set_option Elab.async false
set_option linter.all false
set_option maxRecDepth 100000
set_option maxHeartbeats 1000000
namespace DL
open PySem PySem.Spec PyProof.Rows L2

/-! ### built-in functions -/
def unInts : List D → Option (List Int)
  | [] => some []
  | .int i :: r => (unInts r).map (i :: ·)
  | _ :: _ => none
def unBls : List D → Option (List Bool)
  | [] => some []
  | .bl i :: r => (unBls r).map (i :: ·)
  | _ :: _ => none
def unStrs : List D → Option (List Str)
  | [] => some []
  | .str i :: r => (unStrs r).map (i :: ·)
  | _ :: _ => none
def lenD : List D → Res
  | [.str x] => if x.length ≤ sizeLine then .val (.int (x.length : Nat)) else .no
  | [.tup ds] => .val (.int (ds.length : Nat))
  | [.ro ds] => .val (.int (ds.length : Nat))
  | [.lst _ ds] => .val (.int (ds.length : Nat))
  | _ => .no
def absD : List D → Res
  | [.int i] => .val (.int (if i < 0 then -i else i))
  | _ => .no
def maxD : List D → Res
  | [.int i, .int j] => .val (.int (if j > i then j else i))
  | _ => .no
def minD : List D → Res
  | [.int i, .int j] => .val (.int (if j < i then j else i))
  | _ => .no
def intD : List D → Res
  | [.int i] => .val (.int i)
  | [.bl k] => .val (.int (if k then 1 else 0))
  | _ => .no
def strD : List D → Res
  | [.int i] => if i.natAbs.log2 < 1920 then .val (.str (toString i)) else .no
  | [.str a] => .val (.str a)
  | _ => .no
def sumD : List D → Res
  | [.lst _ ds] => (match unInts ds with
    | some ns => .val (.int ns.sum)
    | none => .no)
  | _ => .no
def allD : List D → Res
  | [.lst _ ds] => (match unBls ds with
    | some bs => .val (.bl (bs.all id))
    | none => .no)
  | _ => .no
def anyD : List D → Res
  | [.lst _ ds] => (match unBls ds with
    | some bs => .val (.bl (bs.any id))
    | none => .no)
  | _ => .no
def tupleD : List D → Res
  | [.lst _ ds] => .val (.tup ds)
  | [.tup ds] => .val (.tup ds)
  | _ => .no
def listD : List D → Res
  | [.lst _ ds] => .new ds
  | [.tup ds] => .new ds
  | _ => .no
def divmodD : List D → Res
  | [.int i, .int j] => if 0 < j ∧ j < 1073741824 then .val (.tup [.int (i / j), .int (i % j)]) else .no
  | _ => .no
section
variable {K : PySem.W.Frag} {G H : Hp}
theorem ints_v : ∀ {xs : List V} {ds : List D} {ns : List Int}, IsAll K G xs ds → unInts ds = some ns → xs = ns.map V.int
  | _, _, _, .nil, e => by simp only [unInts, Option.some.injEq] at e; subst e; rfl
  | _, _, _, .cons (d := d) h r, e => by
    cases h <;> first
      | (simp only [unInts] at e
         obtain ⟨ns, e1, e2⟩ := Option.map_eq_some_iff.mp e
         subst e2
         rw [List.map_cons, ← ints_v r e1])
      | cases e
theorem bls_v : ∀ {xs : List V} {ds : List D} {ns : List Bool}, IsAll K G xs ds → unBls ds = some ns → xs = ns.map V.bl
  | _, _, _, .nil, e => by simp only [unBls, Option.some.injEq] at e; subst e; rfl
  | _, _, _, .cons (d := d) h r, e => by
    cases h <;> first
      | (simp only [unBls] at e
         obtain ⟨ns, e1, e2⟩ := Option.map_eq_some_iff.mp e
         subst e2
         rw [List.map_cons, ← bls_v r e1])
      | cases e
theorem strs_v : ∀ {xs : List V} {ds : List D} {ns : List Str}, IsAll K G xs ds → unStrs ds = some ns → xs = ns.map V.str
  | _, _, _, .nil, e => by simp only [unStrs, Option.some.injEq] at e; subst e; rfl
  | _, _, _, .cons (d := d) h r, e => by
    cases h <;> first
      | (simp only [unStrs] at e
         obtain ⟨ns, e1, e2⟩ := Option.map_eq_some_iff.mp e
         subst e2
         rw [List.map_cons, ← strs_v r e1])
      | cases e
theorem len_v : CallV K (fun xs H Q => ∃ x n, xs = [x] ∧ LenV K x H n ∧ Q (.int n) H) lenD := by
  intro G H xs as le i Q post
  cases i with
  | nil => exact post.elim
  | cons i r =>
    cases r with
    | cons _ _ => cases i <;> exact post.elim
    | nil =>
      cases i <;> first
        | exact post.elim
        | skip
      · rename_i x
        have p : PostR K G H Q (if x.length ≤ sizeLine then .val (.int (x.length : Nat)) else .no) := post
        split at p
        · rename_i hz
          exact ⟨_, _, rfl, ⟨hz, rfl⟩, p.here le (.int _)⟩
        · exact p.elim
      · rename_i hs ha
        exact ⟨_, _, rfl, .inr ⟨_, sq_tup le hs, rfl⟩, by rw [ha.length]; exact PostR.here (K := K) (G := G) post le (.int _)⟩
      · rename_i hs ha
        exact ⟨_, _, rfl, .inl ⟨_, le.seq hs, rfl⟩, by rw [ha.length]; exact PostR.here (K := K) (G := G) post le (.int _)⟩
      · rename_i hs ha
        exact ⟨_, _, rfl, .inl ⟨_, .inl (same_rd le hs), rfl⟩, by rw [ha.length]; exact PostR.here (K := K) (G := G) post le (.int _)⟩
/-- a call of one argument, by the kind of its datum -/
theorem call1 {r : List V → Hp → VK → Prop} {g : List D → Res} (h0 : g [] = .no) (h2 : ∀ a c l, g (a :: c :: l) = .no)
    (h : ∀ (G H : Hp) (x : V) (d : D), Same G H → Is K G x d → ∀ Q, PostR K G H Q (g [d]) → r [x] H Q) : CallV K r g := by
  intro G H xs as le i Q post
  cases i with
  | nil => rw [h0] at post; exact post.elim
  | cons i j =>
    cases j with
    | nil => exact h G H _ _ le i Q post
    | cons _ _ => rw [h2] at post; exact post.elim
theorem abs_v : CallV K (fun xs H Q => ∃ i, xs = [.int i] ∧ Q (.int (if i < 0 then -i else i)) H) absD := call1 rfl (fun a c l => by cases a <;> rfl) fun G H x d le i Q post => by
  cases i <;> first
    | exact post.elim
    | exact ⟨_, rfl, post.here le (.int _)⟩
theorem int_v : CallV K (fun xs H Q => (∃ i, xs = [.int i] ∧ Q (.int i) H) ∨ ∃ k, xs = [.bl k] ∧ Q (.int (if k then 1 else 0)) H) intD := call1 rfl (fun a c l => by cases a <;> rfl) fun G H x d le i Q post => by
  cases i <;> first
    | exact post.elim
    | exact .inl ⟨_, rfl, post.here le (.int _)⟩
    | exact .inr ⟨_, rfl, post.here le (.int _)⟩
theorem str_v : CallV K (fun xs H Q => (∃ i, xs = [.int i] ∧ i.natAbs.log2 < 1920 ∧ Q (.str (toString i)) H) ∨ ∃ a, xs = [.str a] ∧ Q (.str a) H) strD := call1 rfl (fun a c l => by cases a <;> rfl) fun G H x d le i Q post => by
  cases i <;> first
    | exact post.elim
    | exact .inr ⟨_, rfl, post.here le (.str _)⟩
    | skip
  have p : PostR K G H Q (if _ then _ else _) := post
  split at p
  · rename_i hz
    exact .inl ⟨_, rfl, hz, p.here le (.str _)⟩
  · exact p.elim
theorem sum_v : CallV K (rSum K) sumD := call1 rfl (fun a c l => by cases a <;> rfl) fun G H x d le i Q post => by
  cases i <;> first
    | exact post.elim
    | skip
  rename_i a xs ds hs ha
  have p : PostR K G H Q (match unInts ds with | some ns => .val (.int ns.sum) | none => .no) := post
  cases e : unInts ds with
  | none => rw [e] at p; exact p.elim
  | some ns =>
    rw [e] at p
    have ex := ints_v ha e
    subst ex
    exact ⟨_, ns, rfl, .inl (same_rd le hs), p.here le (.int _)⟩
theorem all_v : CallV K (rAll K) allD := call1 rfl (fun a c l => by cases a <;> rfl) fun G H x d le i Q post => by
  cases i <;> first
    | exact post.elim
    | skip
  rename_i a xs ds hs ha
  have p : PostR K G H Q (match unBls ds with | some bs => .val (.bl (bs.all id)) | none => .no) := post
  cases e : unBls ds with
  | none => rw [e] at p; exact p.elim
  | some ns =>
    rw [e] at p
    have ex := bls_v ha e
    subst ex
    exact ⟨_, ns, rfl, .inl (same_rd le hs), p.here le (.bl _)⟩
theorem any_v : CallV K (L2.rAny K) anyD := call1 rfl (fun a c l => by cases a <;> rfl) fun G H x d le i Q post => by
  cases i <;> first
    | exact post.elim
    | skip
  rename_i a xs ds hs ha
  have p : PostR K G H Q (match unBls ds with | some bs => .val (.bl (bs.any id)) | none => .no) := post
  cases e : unBls ds with
  | none => rw [e] at p; exact p.elim
  | some ns =>
    rw [e] at p
    have ex := bls_v ha e
    subst ex
    exact ⟨_, ns, rfl, .inl (same_rd le hs), p.here le (.bl _)⟩
theorem list_v : CallV K (fun xs H Q => ∃ p ys, xs = [.ref p] ∧ (SqL K H p ys ∨ SqT K H p ys) ∧ ∀ l, H l = none → Q (.ref l) (upd H l (.lst ys))) listD := call1 rfl (fun a c l => by cases a <;> rfl) fun G H x d le i Q post => by
  cases i <;> first
    | exact post.elim
    | skip
  · rename_i hs ha
    exact ⟨_, _, rfl, .inr (sq_tup le hs), fun l hl => post l _ hl ha⟩
  · rename_i hs ha
    exact ⟨_, _, rfl, .inl (.inl (same_rd le hs)), fun l hl => post l _ hl ha⟩
theorem tuple_v : CallV K (fun xs H Q => ∃ p ys, xs = [.ref p] ∧ ((SqL K H p ys ∧ ∀ l, H l = none → Q (.ref l) (upd H l (.tup ys))) ∨ (SqT K H p ys ∧ Q (.ref p) H))) tupleD := call1 rfl (fun a c l => by cases a <;> rfl) fun G H x d le i Q post => by
  cases i <;> first
    | exact post.elim
    | skip
  · rename_i hs ha
    exact ⟨_, _, rfl, .inr ⟨sq_tup le hs, PostR.here (K := K) (G := G) post le (.tup hs ha)⟩⟩
  · rename_i a xs ds hs ha
    exact ⟨_, _, rfl, .inl ⟨.inl (same_rd le hs), fun l hl => post _ (upd G l (.tup xs)) _ (Step.new le hl) (same_both le) (.tup (.inl upd_same) (ha.mono (same_upd (same_none le hl))))⟩⟩
/-- a call of two ints -/
theorem call2i {r : List V → Hp → VK → Prop} {g : List D → Res} (h : ∀ (G H : Hp) (i j : Int), Same G H → ∀ Q, PostR K G H Q (g [.int i, .int j]) → r [.int i, .int j] H Q) (hn : ∀ as, (∀ i j, as ≠ [.int i, .int j]) → g as = .no) : CallV K r g := by
  intro G H xs as le i Q post
  by_cases z : ∃ a b, as = [.int a, .int b]
  · obtain ⟨a, b, rfl⟩ := z
    cases i with
    | cons i1 i2 =>
      cases i2 with
      | cons i2 i3 =>
        cases i3
        cases i1
        cases i2
        exact h G H a b le Q post
  · rw [hn as (fun a b e => z ⟨a, b, e⟩)] at post
    exact post.elim
theorem max_v : CallV K (fun xs H Q => ∃ i j, xs = [.int i, .int j] ∧ Q (.int (if j > i then j else i)) H) maxD := call2i (fun G H i j le Q post => ⟨i, j, rfl, PostR.here (K := K) (G := G) post le (.int _)⟩) fun as h => by
  unfold maxD
  split
  · rename_i i j; exact absurd rfl (h i j)
  · rfl
theorem min_v : CallV K (fun xs H Q => ∃ i j, xs = [.int i, .int j] ∧ Q (.int (if j < i then j else i)) H) minD := call2i (fun G H i j le Q post => ⟨i, j, rfl, PostR.here (K := K) (G := G) post le (.int _)⟩) fun as h => by
  unfold minD
  split
  · rename_i i j; exact absurd rfl (h i j)
  · rfl
theorem divmod_v : CallV K (fun xs H Q => ∃ i j, xs = [.int i, .int j] ∧ CDiv i j ∧ ∀ p, H p = none → Q (.ref p) (upd H p (.tup [.int (i / j), .int (i % j)]))) divmodD := call2i (fun G H i j le Q post => by
    have p : PostR K G H Q (if 0 < j ∧ j < 1073741824 then .val (.tup [.int (i / j), .int (i % j)]) else .no) := post
    split at p
    · rename_i hz
      exact ⟨i, j, rfl, hz, fun l hl => p _ (upd G l (.tup [.int (i / j), .int (i % j)])) _ (Step.new le hl) (same_both le) (.tup (.inl upd_same) (.cons (.int _) (.cons (.int _) .nil)))⟩
    · exact p.elim) fun as h => by
  unfold divmodD
  split
  · rename_i i j; exact absurd rfl (h i j)
  · rfl
end

/-! ### isinstance against built-in types -/
def tyName : D → Option String
  | .non => some "NoneType"
  | .bl _ => some "bool"
  | .int _ => some "int"
  | .str _ => some "str"
  | .tup _ => some "tuple"
  | .lst _ _ => some "list"
  | .dct _ false _ => some "dict"
  | _ => none
def tyKnown (n : String) : Bool := n == "int" || n == "bool" || n == "str" || n == "tuple" || n == "list" || n == "dict"
def isTy (m n : String) : Bool := m == n || (m == "bool" && n == "int")
def isTys (m : String) : List D → Option Bool
  | [] => some false
  | .ty n :: r => if tyKnown n = true then (isTys m r).map (isTy m n || ·) else none
  | _ :: _ => none
def isiD : List D → Res
  | [d, .ty n] => (match tyName d with
    | some m => if tyKnown n = true then .val (.bl (isTy m n)) else .no
    | none => .no)
  | [d, .tup ts] => (match tyName d with
    | some m => (match isTys m ts with
      | some k => .val (.bl k)
      | none => .no)
    | none => .no)
  | _ => .no
section
variable {K : PySem.W.Frag} {G H : Hp}
theorem kit_tab : ∀ m ∈ ["NoneType", "bool", "int", "str", "tuple", "list", "dict"], ∀ n ∈ ["int", "bool", "str", "tuple", "list", "dict"], kitB m n = some (isTy m n) := by decide +kernel
theorem known_mem {n : String} (h : tyKnown n = true) : n ∈ ["int", "bool", "str", "tuple", "list", "dict"] := by
  unfold tyKnown at h
  simp only [Bool.or_eq_true, beq_iff_eq] at h
  simp only [List.mem_cons, List.not_mem_nil, or_false]
  rcases h with ((((h | h) | h) | h) | h) | h <;> simp [h]
theorem ty_mem {d : D} {m : String} (h : tyName d = some m) : m ∈ ["NoneType", "bool", "int", "str", "tuple", "list", "dict"] := by
  cases d <;> first
    | (simp only [tyName, Option.some.injEq] at h; subst h; decide)
    | cases h
    | skip
  rename_i o t k
  cases t
  · simp only [tyName, Option.some.injEq] at h; subst h; decide
  · cases h
theorem kit_one {m n : String} {d : D} (hd : tyName d = some m) (hn : tyKnown n = true) : PySem.W.kitOne K (.type m) (.type n) = some (isTy m n) := kit_ty (kit_tab m (ty_mem hd) n (known_mem hn))
theorem tyx_v {x : V} {d : D} {m : String} (le : Same G H) (i : Is K G x d) (h : tyName d = some m) : TyX K H x (.type m) := by
  cases i with
  | non => cases h; exact .base .non
  | bl b => cases h; exact .base (.bl b)
  | int b => cases h; exact .base (.int b)
  | str b => cases h; exact .base (.str b)
  | tup hs ha =>
    cases h
    rcases hs with hs | ⟨o, its, n, _, hl, hc, _⟩
    · exact .base (.tup (le _ _ hs))
    · exact .kTuple hl hc
  | ro hs ha => cases h
  | lst hs ha =>
    cases h
    rcases hs with hs | ⟨o, hs⟩
    · exact .base (.lst (le _ _ hs))
    · exact .base (.frz (le _ _ hs))
  | ty _ => cases h
  | ref _ => cases h
  | ob _ _ _ => cases h
  | dctK hs _ =>
    cases h
    rcases hs with hs | ⟨o, hs⟩
    · exact .base (.dK (le _ _ hs))
    · exact .fDict (le _ _ hs)
  | dctT _ _ => cases h
theorem tys_v {d : D} {m : String} (hd : tyName d = some m) : ∀ {cs : List V} {ts : List D} {k : Bool}, IsAll K G cs ts → isTys m ts = some k → ∃ us, Paired ClsV cs us ∧ PySem.W.kitAny K (.type m) us = some k
  | _, _, k, .nil, e => by simp only [isTys, Option.some.injEq] at e; subst e; exact ⟨[], .nil, rfl⟩
  | _, _, k, .cons h r, e => by
    cases h <;> first
      | cases e
      | skip
    rename_i n
    simp only [isTys] at e
    split at e
    · rename_i hn
      obtain ⟨k', e1, e2⟩ := Option.map_eq_some_iff.mp e
      obtain ⟨us, h1, h2⟩ := tys_v hd r e1
      refine ⟨.type n :: us, .cons (.ty n) h1, kitAny_cons (kit_one hd hn) (fun z => ?_) (fun z => ?_)⟩
      · rw [z] at e2
        rw [h2, ← e2]
        rfl
      · rw [z] at e2
        exact e2.symm
    · cases e
def rIsiA (K : PySem.W.Frag) : List V → Hp → VK → Prop := fun xs H Q => rIsi K xs H Q ∨ (rIsiT K xs H Q ∨ rIsiK K xs H Q)
theorem cr_isiA {X : Cx} : CallR X (.builtin "isinstance") (rIsiA X.K) := call_isi.or (call_isiT.or call_isiK)
theorem vals_cls : ∀ {cs : List V} {us ws : List Value}, Paired ClsV cs us → Vals cs ws → ws = us := ClsV.all
theorem isi_v : CallV K (rIsiA K) isiD := by
  intro G H xs as le i Q post
  unfold isiD at post
  split at post
  · rename_i d n
    cases i with
    | cons i1 i2 =>
      cases i2 with
      | cons i2 i3 =>
        cases i3
        cases i2
        split at post
        · rename_i m hm
          split at post
          · rename_i hn
            exact .inl ⟨_, _, _, _, _, rfl, .ty n, tyx_v le i1 hm, kit_one hm hn, post.here le (.bl _)⟩
          · exact post.elim
        · exact post.elim
  · rename_i d ts
    cases i with
    | cons i1 i2 =>
      cases i2 with
      | cons i2 i3 =>
        cases i3
        cases i2 with
        | tup hs ha =>
          split at post
          · rename_i m hm
            split at post
            · rename_i k hk
              obtain ⟨us, h1, h2⟩ := tys_v hm ha hk
              rcases hs with hs | ⟨o, its, n, _, hl, hc, hd, hz, hv⟩
              · exact .inr (.inl ⟨_, _, _, _, us, _, rfl, le _ _ hs, h1, tyx_v le i1 hm, h2, post.here le (.bl _)⟩)
              · have e := vals_cls h1 hv
                obtain ⟨oc, od, dt, sl⟩ := o
                simp only at hc hd
                subst hc hd
                refine .inr (.inr ⟨_, _, od, us, n, sl, _, _, rfl, ?_, tyx_v le i1 hm, h2, post.here le (.bl _)⟩)
                rw [hl, ← e]
            · exact post.elim
          · exact post.elim
  · exact post.elim
end

/-! ### slices -/
abbrev Opt := Env → Out (Option Int)
def fNoP : Opt := fun ρ => .ok none ρ true
def fPart (F : Env → Out D) : Opt := fun ρ => (F ρ).bind fun a ρ1 => match a with
  | .int i => .ok (some i) ρ1 true
  | _ => .no
structure DP (X : Cx) (B : By) (W : WX) (e : Option Expr) (t : TO) (F : Opt) : Prop where
  po : PO X e t
  sat : Sat X.K B W (EqR (Option Int)) t F
def slD (a : D) (lo hi : Option Int) : Res := match a with
  | .tup ds => .val (.tup (cutD ds lo hi))
  | .lst _ ds => .new (cutD ds lo hi)
  | .str z => if z.length ≤ sizeLine then .val (.str (cutS z lo hi)) else .no
  | _ => .no
def fSl (g : D → Option Int → Option Int → Res) (F : Env → Out D) (L U : Opt) (k : Res → Env → Out D) : Env → Out D := fun ρ => (F ρ).bind fun a ρ1 => (L ρ1).bind fun lo ρ2 => (U ρ2).bind fun hi ρ3 => k (g a lo hi) ρ3
section
variable {K : PySem.W.Frag} {B : By} {W : WX} {G H : Hp}
theorem sp_none : Sat K B W (EqR (Option Int)) tNoPart fNoP := fun b G H ω σ ρ rel Q post => Post.now rel post rfl
def partF (a : D) (ρ1 : Env) : Out (Option Int) := match a with
  | .int i => .ok (some i) ρ1 true
  | _ => .no
theorem sp_some {t : TE} {F : Env → Out D} (h : Sat K B W (IsR K) t F) : Sat K B W (EqR (Option Int)) (tPart t) (fPart F) :=
  Sat.bind (R' := EqR (Option Int)) (Fu := partF) (t := t) (u := fun x σ H Q => ∃ i, x = .int i ∧ Q (some i) H) h fun b Hs ωs G H ω σ ρ rel x a i Q post => by
    cases i <;> first
      | exact post.elim
      | exact ⟨_, rfl, Post.now rel post rfl⟩
def rSlA (K : PySem.W.Frag) : V → Option Int → Option Int → Hp → VK → Prop := fun x lo hi H Q => rSlL K x lo hi H Q ∨ (L2.rSlA K x lo hi H Q ∨ rSlS x lo hi H Q)
theorem sl_all {X : Cx} : SlR X (rSlA X.K) := sl_list.or (sl_tupA.or sl_str)
theorem cut_v {xs : List V} {ds : List D} {lo hi : Option Int} (h : IsAll K G xs ds) : IsAll K G (cutV xs lo hi) (cutD ds lo hi) := by
  unfold cutV cutD
  rw [h.length]
  exact (h.drop _).take _
theorem sl_v {x : V} {a : D} {lo hi : Option Int} {Q : VK} (le : Same G H) (i : Is K G x a) (post : PostR K G H Q (slD a lo hi)) : rSlA K x lo hi H Q := by
  cases i <;> first
    | exact post.elim
    | skip
  · rename_i z
    have p : PostR K G H Q (if z.length ≤ sizeLine then .val (.str (cutS z lo hi)) else .no) := post
    split at p
    · rename_i hz
      exact .inr (.inr ⟨z, rfl, hz, p.here le (.str _)⟩)
    · exact p.elim
  · rename_i a xs ds hs ha
    have p : PostR K G H Q (.val (.tup (cutD ds lo hi))) := post
    refine .inr (.inl ⟨_, xs, rfl, sq_tup le hs, fun hw => ?_, fun hw l hl => ?_⟩)
    · rw [ha.length] at hw
      have e : cutD ds lo hi = ds := by
        unfold cutD
        rw [hw.1, hw.2]
        simp
      rw [e] at p
      exact p.here le (.tup hs ha)
    · exact p _ (upd G l (.tup (cutV xs lo hi))) _ (Step.new le hl) (same_both le) (.tup (.inl upd_same) ((cut_v ha).mono (same_upd (same_none le hl))))
  · rename_i a xs ds hs ha
    exact .inl ⟨_, xs, rfl, .inl (same_rd le hs), fun l hl => post l _ hl (cut_v ha)⟩
theorem sat_sl {R : Rep D V} [Back R] {k : Res → Env → Out D} {te : TE} {tl th : TO} {F : Env → Out D} {L U : Opt} (hk : ∀ {b : Bs} {G H : Hp} {ω : Lb} {σ : L2.St} {ρ : Env} {Q : VK} {r : Res}, Rel K b B G H ω σ ρ → Post K B W b G H ω σ R Q (k r ρ) → PostR K G H Q r)
    (he : Sat K B W (IsR K) te F) (hl : Sat K B W (EqR (Option Int)) tl L) (hu : Sat K B W (EqR (Option Int)) th U) : Sat K B W R (tSl (rSlA K) te tl th) (fSl slD F L U k) := by
  intro b G H ω σ ρ rel Q post
  refine he.at (R' := R) (Q := Q) rel post fun G1 H1 ω1 ρ1 x a rel1 s1 i post => ?_
  refine hl.at (R' := R) (Q := Q) rel1 post fun G2 H2 ω2 ρ2 lo lo' rel2 s2 e post => ?_
  subst e
  refine hu.at (R' := R) (Q := Q) rel2 post fun G3 H3 ω3 ρ3 hi hi' rel3 s3 e post => ?_
  subst e
  exact sl_v rel3.le (i.mono (s2.g.trans s3.g)) (hk rel3 post)
end
section
variable {X : Cx} {B : By} {W : WX} {e : Expr} {es : List Expr} {te : TE} {t : TA} {Fe : Env → Out D} {F : Env → Out (List D)} {lo hi : Option Expr} {tl th : TO} {L U : Opt} {pos p2 : Pos}
theorem dp_none : DP X B W none tNoPart fNoP := ⟨po_none, sp_none⟩
theorem dp_some (h : DE X B W e te Fe) : DP X B W (some e) (tPart te) (fPart Fe) := ⟨po_some h.pe, sp_some h.sat⟩
theorem d_sl (he : DE X B W e te Fe) (hl : DP X B W lo tl L) (hu : DP X B W hi th U) : DE X B W (.Subscript e (.Slice lo hi none p2) pos) (tSl (rSlA X.K) te tl th) (fSl slD Fe L U resE) := ⟨pe_slice sl_all he.pe hl.po hu.po, sat_sl res_e he.sat hl.sat hu.sat⟩
theorem o_sl (he : DE X B W e te Fe) (hl : DP X B W lo tl L) (hu : DP X B W hi th U) : DO X B W (.Subscript e (.Slice lo hi none p2) pos) (tSl (rSlA X.K) te tl th) (fSl slD Fe L U resO) := ⟨pe_slice sl_all he.pe hl.po hu.po, sat_sl res_o he.sat hl.sat hu.sat⟩
/-- T(e, ..), T a built-in type -/
theorem d_ct {T : String} {r : List V → Hp → VK → Prop} {g : List D → Res} {x : Str} {p : Pos} (hc : CallR X (.type T) r) (hw : CallV X.K r g) (hg : Gl X x) (hm : X.mg x = none) (hv : bootBuiltins x = some (.type T)) (ha : DA X B W (e :: es) t F) (hn : x ≠ "__name__" := by decide)
    (hdb : (x == ("__debug__" : Str)) = false := by decide) (he : starEach (e :: es) X.env = (false, eval e X.env) :: starEach es X.env := by rfl) (hpl : (backTo pos (starEach es X.env)).any (·.1) = false := by rfl) :
    DE X B W (.Call (.Name x p) (e :: es) [] pos) (tCB r t) (fCl g F) := ⟨pe_callTy hc hg hm hv ha.pa hn hdb he hpl, sat_cl hw ha.sat⟩
theorem o_ct {T : String} {r : List V → Hp → VK → Prop} {g : List D → Res} {x : Str} {p : Pos} (hc : CallR X (.type T) r) (hw : CallV X.K r g) (hg : Gl X x) (hm : X.mg x = none) (hv : bootBuiltins x = some (.type T)) (ha : DA X B W (e :: es) t F) (hn : x ≠ "__name__" := by decide)
    (hdb : (x == ("__debug__" : Str)) = false := by decide) (he : starEach (e :: es) X.env = (false, eval e X.env) :: starEach es X.env := by rfl) (hpl : (backTo pos (starEach es X.env)).any (·.1) = false := by rfl) :
    DO X B W (.Call (.Name x p) (e :: es) [] pos) (tCB r t) (fClO g F) := ⟨pe_callTy hc hg hm hv ha.pa hn hdb he hpl, sat_clO hw ha.sat⟩
end
end DL
set_option Elab.async false
set_option linter.all false
set_option maxRecDepth 100000
set_option maxHeartbeats 1000000
namespace DL
open PySem PySem.Spec PyProof.Rows L2

/-! ### wishes by data alone -/
def tOfE {α β : Type} (K : PySem.W.Frag) (B : By) (W : WX) (R : Rep α β) (F : DL.Env → Out α) : L2.St → Hp → (β → Hp → Prop) → Prop := fun σ H Q => ∃ b G ω ρ, Rel K b B G H ω σ ρ ∧ Post K B W b G H ω σ R Q (F ρ)
theorem sat_of {α β : Type} {K : PySem.W.Frag} {B : By} {W : WX} {R : Rep α β} {F : DL.Env → Out α} : Sat K B W R (tOfE K B W R F) F := fun b G H ω σ ρ rel Q post => ⟨b, G, ω, ρ, rel, post⟩
/-- an expression's judgement from its run at every state -/
theorem do_of {X : Cx} {B : By} {W : WX} {e : Expr} {F : DL.Env → Out D}
    (h : ∀ (pins : List (Addr × Obj)) (s : Shared) (b : Bs) (G H : Hp) (ω : Lb) (σ : L2.St) (ρ : DL.Env) (Q : VK), Inv X pins σ H s → Rel X.K b B G H ω σ ρ → Post X.K B W b G H ω σ (OwnR X.K) Q (F ρ) → wpAny (model X.prog X.w) X.A (eval e X.env) (EP X pins σ Q) X.xe s) :
    DO X B W e (tOfE X.K B W (OwnR X.K) F) F := ⟨⟨fun pins s σ H Q I ⟨b, G, ω, ρ, rel, post⟩ => h pins s b G H ω σ ρ Q I rel post⟩, sat_of⟩

/-! ### how a call's values come to the parameters -/
inductive Src where
  | pos (i : Nat) | kw (i : Nat) | dfl (i : Nat)
def arr {α : Type} (d0 : α) (plan : List Src) (dfs as zs : List α) : List α := plan.map fun s => match s with
  | .pos i => as.getD i d0
  | .kw i => zs.getD i d0
  | .dfl i => dfs.getD i d0
theorem vals_getD {vs : List V} {us : List Value} (r : Vals vs us) (i : Nat) : RelV (vs.getD i .non) (us.getD i .none) := by
  induction r generalizing i with
  | nil => exact (by cases i <;> rfl)
  | cons h _ ih =>
    cases i with
    | zero => simpa using h
    | succ i => simpa using ih i
theorem vals_arr {plan : List Src} {fv vs zs : List V} {fu us ws : List Value} (r0 : Vals fv fu) (r1 : Vals vs us) (r2 : Vals zs ws) : Vals (arr .non plan fv vs zs) (arr .none plan fu us ws) := by
  induction plan with
  | nil => exact .nil
  | cons s plan ih =>
    refine .cons ?_ ih
    cases s with
    | pos i => exact vals_getD r1 i
    | kw i => exact vals_getD r2 i
    | dfl i => exact vals_getD r0 i
theorem isAll_getD {K : PySem.W.Frag} {G : Hp} {vs : List V} {ds : List D} (r : IsAll K G vs ds) (i : Nat) : Is K G (vs.getD i .non) (ds.getD i .non) := by
  induction vs generalizing ds i with
  | nil => cases r; simpa using Is.non
  | cons v vs ih =>
    cases r with
    | cons h r =>
      cases i with
      | zero => simpa using h
      | succ i => simpa using ih r i
theorem isAll_arr {K : PySem.W.Frag} {G : Hp} {plan : List Src} {fv vs zs : List V} {fd as ys : List D} (r0 : IsAll K G fv fd) (r1 : IsAll K G vs as) (r2 : IsAll K G zs ys) : IsAll K G (arr .non plan fv vs zs) (arr .non plan fd as ys) := by
  induction plan with
  | nil => exact .nil
  | cons s plan ih =>
    refine .cons ?_ ih
    cases s with
    | pos i => exact isAll_getD r1 i
    | kw i => exact isAll_getD r2 i
    | dfl i => exact isAll_getD r0 i
/-- what a call of this shape binds: nb values handed on by reference, n further ones, keywords ks -/
def BP (K : PySem.W.Frag) (fd : FuncData) (ps : List Str) (nb n : Nat) (ks : List Str) (ga : List D → List D → List D) : Prop := ∀ (s : Shared) (ub uv ws : List Value) (vv zv : List V), K.In s.heap → ub.length = nb → uv.length = n → ws.length = ks.length → Vals vv uv → Vals zv ws →
  ∃ us' vs', BindsTo s fd ⟨ub ++ uv, ks.zip ws⟩ (ps.zip (ub ++ us')) ∧ Vals vs' us' ∧ ∀ G as zs, IsAll K G vv as → IsAll K G zv zs → IsAll K G vs' (ga as zs)
abbrev Const (K : PySem.W.Frag) : List V → List D → Prop := Paired fun v d => ∀ G, Is K G v d
theorem isAll_of {K : PySem.W.Frag} {dvs : List V} {dds : List D} (h : Const K dvs dds) (G : Hp) : IsAll K G dvs dds := by
  induction h with
  | nil => exact .nil
  | cons h _ ih => exact .cons (h G) ih
theorem bp_id {K : PySem.W.Frag} {fd : FuncData} {ps : List Str} {nb n : Nat} (h : ∀ (s : Shared) (us : List Value), us.length = nb + n → BindsTo s fd ⟨us, []⟩ (ps.zip us)) : BP K fd ps nb n [] fun as _ => as := by
  intro s ub uv ws vv zv _ l1 l2 l3 r1 r2
  refine ⟨uv, vv, ?_, r1, fun G as zs i _ => i⟩
  have e : ws = [] := by simpa using l3
  subst e
  exact h s (ub ++ uv) (by rw [List.length_append, l1, l2])
/-- with defaults fu (worth dd) and keywords -/
theorem bp_plan {K : PySem.W.Frag} {fd : FuncData} {ps ks : List Str} {nb n : Nat} {plan : List Src} {fu : List Value} {fv : List V} {dd : List D} (r : Vals fv fu) (c : Const K fv dd)
    (h : ∀ (s : Shared) (us ws : List Value), K.In s.heap → us.length = nb + n → ws.length = ks.length → BindsTo s fd ⟨us, ks.zip ws⟩ (ps.zip (us.take nb ++ arr .none plan fu (us.drop nb) ws))) : BP K fd ps nb n ks (arr .non plan dd) := by
  intro s ub uv ws vv zv kin l1 l2 l3 r1 r2
  refine ⟨arr .none plan fu uv ws, arr .non plan fv vv zv, ?_, vals_arr r r1 r2, fun G as zs i1 i2 => isAll_arr (isAll_of c G) i1 i2⟩
  have q := h s (ub ++ uv) ws kin (by rw [List.length_append, l1, l2]) l3
  rw [← l1, List.take_left, List.drop_left] at q
  exact q

/-! ### the arguments' run -/
def StarOk (es : List Expr) (env : PySem.Env) : Prop := match es with
  | [] => True
  | e :: r => starEach (e :: r) env = (false, eval e env) :: starEach r env
structure CallOk (X : Cx) (pos : Pos) (es : List Expr) (kws : List Keyword) (ks : List Str) : Prop where
  st : StarOk es X.env
  pl : ((backTo pos (starEach es X.env)).any (·.1) || (backToKw pos (keywordEach kws X.env)).any (·.1.isNone)) = false
  all : (backToKw pos (keywordEach kws X.env)).all (·.1.isSome) = true
  ks : (backToKw pos (keywordEach kws X.env)).filterMap (·.1) = ks
section
variable {X : Cx} {pins : List (Addr × Obj)} {σ : L2.St} {H : Hp} {s : Shared} {pos : Pos} {es : List Expr} {kws : List Keyword} {ks : List Str} {t tk : TA}
theorem call_args {f : Value} {first : List Value} {R : List V → List V → Hp → Prop} {Q : Value → Shared → Prop} (C : CallOk X pos es kws ks) (hk : PySem.W.keepIn X.K f = true) (ha : PA X es t) (hn : es = [] → t = tNil) (hw : PK X kws tk) (I : Inv X pins σ H s)
    (h : t σ H fun vs H1 => tk σ H1 fun zs H2 => R vs zs H2)
    (cont : ∀ (us ws : List Value) (s2 : Shared) (vs zs : List V) (H2 : Hp), Inv X pins σ H2 s2 → Vals vs us → Vals zs ws → R vs zs H2 → wpAny (model X.prog X.w) X.A (call f (first ++ us) (ks.zip ws)) Q X.xe s2) :
    wpAny (model X.prog X.w) X.A (callWith pos f first (backTo pos (starEach es X.env)) (backToKw pos (keywordEach kws X.env))) Q X.xe s := by
  cases es with
  | nil =>
    rw [hn rfl] at h
    refine PySem.W.callWith_KW0 (h₀ := X.base) I.ok.mod.kin hk C.all (thn (hw.run pos pins s σ H _ I h) ?_) C.pl
    rintro ws s2 ⟨zs, H2, I2, rz, q2⟩
    refine ⟨I2.kIn, ?_⟩
    rw [C.ks]
    exact cont [] ws s2 [] zs H2 I2 .nil rz q2
  | cons e es =>
    refine PySem.W.callWith_KW (h₀ := X.base) I.ok.mod.kin hk C.all (thn (ha.run pos pins s σ H _ I h) ?_) C.pl C.st
    rintro us s1 ⟨vs, H1, I1, r, q⟩
    refine thn (hw.run pos pins s1 σ H1 _ I1 q) ?_
    rintro ws s2 ⟨zs, H2, I2, rz, q2⟩
    refine ⟨I2.kIn, ?_⟩
    rw [C.ks]
    exact cont us ws s2 vs zs H2 I2 r rz q2
/-- the callee runs; what it lets out goes where W says -/
theorem run_w {k : Nat} {f : Addr} {fd : FuncData} {ps : List Str} {sp : Sp} {W : WX} {Q : VK} {us zs : List Value} {kw : List (Str × Value)} {vs : List V} (F : FnG X.prog X.w X.K X.mg X.base k f fd ps sp) (hr : RmG k X.A) (tk : Takes X W)
    (I : Inv X pins σ H s) (hb : BindsTo s fd ⟨us, kw⟩ (ps.zip zs)) (r : Vals vs zs) (h : sp vs H Q (WE W σ)) : wpAny (model X.prog X.w) X.A (call (.ref f) us kw) (EP X pins σ Q) X.xe s := by
  refine wpAny_call (codeAny_mono (F.run X.A X.stack s H ⟨us, kw⟩ zs vs Q (WE W σ) hr I.env0 hb r h) fun res s' hq => ?_)
  match res, hq with
  | .error e, hq => exact passAt tk σ pins H s e s' I hq
  | .ok (.ret u), hq => exact I.after hq
  | .ok .next, hq => exact False.elim hq
  | .ok .brk, hq => exact False.elim hq
  | .ok .cont, hq => exact False.elim hq
end
theorem vals_split {va vb : List V} {us : List Value} (r : Vals (va ++ vb) us) : ∃ ua ub, us = ua ++ ub ∧ Vals va ua ∧ Vals vb ub := by
  induction va generalizing us with
  | nil => exact ⟨[], us, rfl, .nil, r⟩
  | cons v va ih =>
    cases r with
    | cons h r =>
      obtain ⟨ua, ub, e, r1, r2⟩ := ih r
      subst e
      exact ⟨_ :: ua, ub, rfl, .cons h r1, r2⟩

/-! ### data of a call -/
/-- n values, nk keywords, np parameters; the slots js are handed on -/
def callF (n nk np : Nat) (js : List Nat) (ga : List D → List D → List D) (m : List D → FOut) (as zs : List D) (ρ : DL.Env) : Out D :=
  if as.length = n ∧ zs.length = nk ∧ js.length + (ga as zs).length = np then (match getAll ρ js with
    | some ds => callO js (m (ds ++ ga as zs)) ρ
    | none => .no) else .no
def fCallG (n nk np : Nat) (js : List Nat) (ga : List D → List D → List D) (m : List D → FOut) (F Fk : DL.Env → Out (List D)) : DL.Env → Out D := fun ρ => (F ρ).bind fun as ρ1 => (Fk ρ1).bind fun zs ρ2 => callF n nk np js ga m as zs ρ2
structure DKw (X : Cx) (B : By) (W : WX) (kws : List Keyword) (t : TA) (F : DL.Env → Out (List D)) : Prop where
  pk : PK X kws t
  sat : Sat X.K B W (IsAR X.K) t F
section
variable {X : Cx} {B : By} {W : WX} {k n np : Nat} {f C : Addr} {fd : FuncData} {ps ks : List Str} {ga : List D → List D → List D} {m : List D → FOut} {js : List Nat} {x : Str} {p pos apos : Pos} {e o : Expr} {es : List Expr} {kws : List Keyword} {t tk tw : TA} {te : TE} {Fo : DL.Env → Out D} {F Fk : DL.Env → Out (List D)} {nm : Option Str} {kp : Pos}
theorem dk_nil : DKw X B W [] tNil fNil := ⟨pk_nil, sat_nil⟩
theorem dk_cons (h : DE X B W e te Fo) (h' : DKw X B W kws tk Fk) : DKw X B W (⟨nm, e, kp⟩ :: kws) (tCons te tk) (fCons Fo Fk) := ⟨pk_cons h.pe h'.pk, sat_cons h.sat h'.sat⟩
/-- what the arguments leave, as the callee's run wants it -/
def Left (K : PySem.W.Frag) (B : By) (W : WX) (b : Bs) (σ : L2.St) (js : List Nat) (Q : VK) (G1 : DL.Env → List D → List D → Out D) (vs zs : List V) (H2 : Hp) : Prop :=
  ∃ G2 ω2 ρ2 as ys vb vv, Rel K b B G2 H2 ω2 σ ρ2 ∧ vs = vb ++ vv ∧ Looked σ js vb ∧ IsAll K G2 vv as ∧ IsAll K G2 zs ys ∧ Post K B W b G2 H2 ω2 σ (OwnR K) Q (G1 ρ2 as ys)
theorem left_of {b : Bs} {G H : Hp} {ω : Lb} {σ : L2.St} {ρ : DL.Env} {Q : VK} {G1 : DL.Env → List D → List D → Out D} (rel : Rel X.K b B G H ω σ ρ) (ha : SatB X.K B W js t F) (hw : Sat X.K B W (IsAR X.K) tk Fk)
    (post : Post X.K B W b G H ω σ (OwnR X.K) Q ((F ρ).bind fun as ρ1 => (Fk ρ1).bind fun zs ρ2 => G1 ρ2 as zs)) : t σ H fun vs H1 => tk σ H1 fun zs H2 => Left X.K B W b σ js Q G1 vs zs H2 := by
  refine Sat.at0 (R := ArgR X.K σ js) (R' := OwnR X.K) (F := F) (t := t) (Q := Q) (ha b G H ω σ ρ rel) post fun G1' H1 ω1 ρ1 vs as rel1 s1 ⟨vb, vv, ev, hl, iv⟩ p => ?_
  refine hw.at (R' := OwnR X.K) (Q := Q) rel1 p fun G2 H2 ω2 ρ2 zs ys rel2 s2 iz p2 => ?_
  exact ⟨G2, ω2, ρ2, as, ys, vb, vv, rel2, ev, hl, iv.mono s2.g, iz, p2⟩
/-- the callee, its arguments worked out -/
theorem run_left {b : Bs} {σ : L2.St} {pins : List (Addr × Obj)} {s2 : Shared} {H2 : Hp} {vs zs : List V} {us ws : List Value} {Q : VK} (Fn : FnG X.prog X.w X.K X.mg X.base k f fd ps (spOf X.K js.length np m)) (hr : RmG k X.A) (tk : Takes X W) (hb : BP X.K fd ps js.length n ks ga) (nd : js.Nodup) (hnp : js.length ≤ np)
    (I : Inv X pins σ H2 s2) (r : Vals vs us) (rz : Vals zs ws) (h : Left X.K B W b σ js Q (fun ρ as zs => callF n ks.length np js ga m as zs ρ) vs zs H2) :
    wpAny (model X.prog X.w) X.A (call (.ref f) us (ks.zip ws)) (EP X pins σ Q) X.xe s2 := by
  obtain ⟨G2, ω2, ρ2, as, ys, vb, vv, rel2, ev, hl, iv, iz, p⟩ := h
  subst ev
  dsimp only at p
  unfold callF at p
  split at p
  · rename_i hc
    obtain ⟨c1, c2, c3⟩ := hc
    cases eg : getAll ρ2 js with
    | none => rw [eg] at p; exact p.elim
    | some db =>
      rw [eg] at p
      obtain ⟨ub, uv, eu, r1, r2⟩ := vals_split r
      subst eu
      have lb := looked_len hl
      obtain ⟨us', vs', hbi, rv, hi⟩ := hb s2 ub uv ws vv zs I.kIn (by rw [← r1.length, lb]) (by rw [← r2.length, iv.length]; exact c1) (by rw [← rz.length, iz.length]; exact c2) r2 rz
      have i' := hi G2 as ys iv iz
      exact run_w Fn hr tk I hbi (r1.append rv) (call_core rel2 nd hl i' eg (by rw [lb, i'.length]; exact c3) hnp p)
  · exact p.elim
/-- f(e, .., k = v, ..), f a def of the text -/
theorem o_callG (Fn : FnG X.prog X.w X.K X.mg X.base k f fd ps (spOf X.K js.length np m)) (hr : RmG k X.A) (tk : Takes X W) (hm : X.mg x = some (.ref f)) (hk : PySem.W.keepIn X.K (.ref f) = true) (hb : BP X.K fd ps js.length n ks ga)
    (ha : DB X B W js es t F) (hw : DKw X B W kws tw Fk) (C : CallOk X pos es kws ks := by exact ⟨by first | exact trivial | rfl, by rfl, by rfl, by rfl⟩) (hn : es = [] → t = tNil := by first | exact fun _ => rfl | exact fun h => by cases h) (nd : js.Nodup := by decide) (hnp : js.length ≤ np := by decide) (hg : Gl X x := by rfl)
    (hdb : (x == ("__debug__" : Str)) = false := by decide) : DO X B W (.Call (.Name x p) es kws pos) (tOfE X.K B W (OwnR X.K) (fCallG n ks.length np js ga m F Fk)) (fCallG n ks.length np js ga m F Fk) :=
  do_of fun pins s b G H ω σ ρ Q I rel post => by
    apply wpAny_Call_Name_kw
    refine ld_glob I hg hm ?_ hdb
    exact call_args C hk ha.pa hn hw.pk I (left_of rel ha.sat hw.sat post) fun us ws s2 vs zs H2 I2 r rz q => run_left Fn hr tk hb nd hnp I2 r rz q
/-- o.m(e, .., k = v, ..), o a frozen object of the class cls -/
def methF (n nk np : Nat) (cls : String) (mn : Str) (ga : List D → List D → List D) (m : List D → FOut) (F Fk : DL.Env → Out (List D)) (a : D) (ρ1 : DL.Env) : Out D := match a with
  | .ob false c fs => if c = cls ∧ fs.lookup mn = none then (F ρ1).bind fun as ρ2 => (Fk ρ2).bind fun zs ρ3 => callF (n + 1) nk np [] ga m (.ob false c fs :: as) zs ρ3 else .no
  | _ => .no
def fMethG (n nk np : Nat) (cls : String) (mn : Str) (ga : List D → List D → List D) (m : List D → FOut) (Fo : DL.Env → Out D) (F Fk : DL.Env → Out (List D)) : DL.Env → Out D := fun ρ => (Fo ρ).bind (methF n nk np cls mn ga m F Fk)
theorem o_methG {cls : String} {mn : Str} {pl : Sem Bool} (ho : DE X B W o te Fo) (hc : L2.Cls X.K C) (hm : Meth X.K C mn f) (ns : PySem.W.nsIn X.K mainGlobals (cls : Str) = some (some (.ref C))) (Fn : FnG X.prog X.w X.K X.mg X.base k f fd ps (spOf X.K 0 np m)) (hr : RmG k X.A) (tk : Takes X W)
    (hb : BP X.K fd ps 0 (n + 1) ks ga) (ha : DA X B W es t F) (hw : DKw X B W kws tw Fk) (Ck : CallOk X pos es kws ks := by exact ⟨by first | exact trivial | rfl, by rfl, by rfl, by rfl⟩) (hn : es = [] → t = tNil := by first | exact fun _ => rfl | exact fun h => by cases h)
    (ht : eval (.Call (.Attribute o mn apos) es kws pos) X.env = (do
      let ov ← eval o X.env
      standAt apos.atName
      let (f, first) ← holding [ov] (getMethod ov mn pl)
      callWith pos f first (backTo pos (starEach es X.env)) (backToKw pos (keywordEach kws X.env))) := by rfl) :
    DO X B W (.Call (.Attribute o mn apos) es kws pos) (tOfE X.K B W (OwnR X.K) (fMethG n ks.length np cls mn ga m Fo F Fk)) (fMethG n ks.length np cls mn ga m Fo F Fk) :=
  do_of fun pins s b G H ω σ ρ Q I rel post => by
    refine PySem.W.methodCall_KW (pl := pl) (thn (ho.pe.run pins s σ H (fun y H1 => ∃ G1 ω1 ρ1 a, Rel X.K b B G1 H1 ω1 σ ρ1 ∧ Is X.K G1 y a ∧ Post X.K B W b G1 H1 ω1 σ (OwnR X.K) Q (methF n ks.length np cls mn ga m F Fk a ρ1)) I ?_) ?_) ht
    · exact ho.sat.at (R' := OwnR X.K) (Q := Q) rel post fun G1 H1 ω1 ρ1 y a rel1 s1 i p => ⟨G1, ω1, ρ1, a, rel1, i, p⟩
    · rintro u s1 ⟨y, H1, I1, ry, G1, ω1, ρ1, a, rel1, i, p⟩
      unfold methF at p
      split at p
      · rename_i c fs
        split at p
        · rename_i hc'
          obtain ⟨hc1, hc2⟩ := hc'
          subst hc1
          cases i with
          | @ob l C' dx c' fv fe ns' hg hfs =>
            rw [ns] at ns'
            cases ns'
            cases (show u = Value.ref l from ry)
            refine getmeth_ok I1 (rel1.le _ _ hg) hc hm (hfs.lookup_none hc2) ?_
            refine call_args (first := [.ref l]) (R := fun vs zs H2 => Left X.K B W b σ [] Q (fun ρ as zs => callF (n + 1) ks.length np [] ga m as zs ρ) (.ref l :: vs) zs H2) Ck hm.kp ha.pa hn hw.pk I1 ?_ fun us ws s2 vs zs H2 I2 r rz q => run_left (js := []) Fn hr tk hb .nil (Nat.zero_le _) I2 (.cons (show RelV (.ref l) (Value.ref l) from rfl) r) rz q
            refine ha.sat.at (R' := OwnR X.K) (Q := Q) rel1 p fun G2 H2 ω2 ρ2 vs as rel2 s2 i2 p2 => ?_
            refine hw.sat.at (R' := OwnR X.K) (Q := Q) rel2 p2 fun G3 H3 ω3 ρ3 zs ys rel3 s3 i3 p3 => ?_
            exact ⟨G3, ω3, ρ3, _, ys, [], _, rel3, rfl, .nil, .cons (.ob ns (s3.g _ _ (s2.g _ _ hg)) ((hfs.mono s2.g).mono s3.g)) (i2.mono s3.g), i3, p3⟩
        · exact p.elim
      · exact p.elim
/-- o.m(e, ..), o an owned object in the slot j, which m may change -/
def isOb (ρ : DL.Env) (j : Nat) (cls : String) (mn : Str) : Bool := match ρ[j]? with
  | some (some (.ob true c fs)) => decide (c = cls ∧ fs.lookup mn = none)
  | _ => false
def fMethR (j n nk np : Nat) (cls : String) (mn : Str) (ga : List D → List D → List D) (m : List D → FOut) (F Fk : DL.Env → Out (List D)) : DL.Env → Out D := fun ρ => if isOb ρ j cls mn = true then (F ρ).bind fun as ρ1 => (Fk ρ1).bind fun zs ρ2 => callF n nk np [j] ga m as zs ρ2 else .no
theorem o_methR (j : Nat) {cls : String} {mn y : Str} {py : Pos} {pl : Sem Bool} (hc : L2.Cls X.K C) (hm : Meth X.K C mn f) (ns : PySem.W.nsIn X.K mainGlobals (cls : Str) = some (some (.ref C))) (Fn : FnG X.prog X.w X.K X.mg X.base k f fd ps (spOf X.K 1 np m)) (hr : RmG k X.A) (tk : Takes X W)
    (hb : BP X.K fd ps 1 n ks ga) (ha : DA X B W es t F) (hw : DKw X B W kws tw Fk) (Ck : CallOk X pos es kws ks := by exact ⟨by first | exact trivial | rfl, by rfl, by rfl, by rfl⟩) (hn : es = [] → t = tNil := by first | exact fun _ => rfl | exact fun h => by cases h) (hnp : 1 ≤ np := by decide)
    (hN : X.N[j]? = some y := by rfl) (hv : Vis X.env.scope y := by first | exact Or.inl rfl | exact Or.inr (Or.inl rfl) | exact Or.inr (Or.inr rfl)) (hd : (y == ("__debug__" : Str)) = false := by decide) (hcd : (y == ("__classdict__" : Str)) = false := by decide)
    (ht : eval (.Call (.Attribute (.Name y py) mn apos) es kws pos) X.env = (do
      let ov ← eval (.Name y py) X.env
      standAt apos.atName
      let (f, first) ← holding [ov] (getMethod ov mn pl)
      callWith pos f first (backTo pos (starEach es X.env)) (backToKw pos (keywordEach kws X.env))) := by rfl) :
    DO X B W (.Call (.Attribute (.Name y py) mn apos) es kws pos) (tOfE X.K B W (OwnR X.K) (fMethR j n ks.length np cls mn ga m F Fk)) (fMethR j n ks.length np cls mn ga m F Fk) :=
  do_of fun pins s b G H ω σ ρ Q I rel post => by
    unfold fMethR at post
    split at post
    · rename_i ho
      unfold isOb at ho
      split at ho
      · rename_i c fs eo
        obtain ⟨hc1, hc2⟩ := of_decide_eq_true ho
        subst hc1
        obtain ⟨v, h1, h2⟩ := rel.slot j _ eo
        cases h2 with
        | one h2 => cases h2 with | frz i => cases i
        | @ob l C' dx c' fv fe ns' hw' hh hfs =>
          rw [ns] at ns'
          cases ns'
          have lk : ∀ {vs : List (Str × V)} {ds : List (Str × D)}, OwnFs X.K G H ω j vs ds → ds.lookup mn = none → vs.lookup mn = none := by
            intro vs ds h
            induction h with
            | nil => intro _; rfl
            | @cons n v vs d ds h1 _ ih =>
              intro e
              by_cases cc : (mn == n) = true
              · simp only [List.lookup, cc] at e
                cases e
              · have cc' : (mn == n) = false := by simpa using cc
                simp only [List.lookup, cc'] at e ⊢
                exact ih e
          refine PySem.W.methodCall_KW (pl := pl) (thn ((pe_var hN hv hd hcd).run pins s σ H (fun z H1 => z = .ref l ∧ H1 = H) I ⟨_, h1, rfl, rfl⟩) ?_) ht
          rintro u s1 ⟨z, H1, I1, rz, ez, eh⟩
          subst ez eh
          cases (show u = Value.ref l from rz)
          refine getmeth_ok I1 hh hc hm (lk hfs hc2) ?_
          refine call_args (first := [.ref l]) (R := fun vs zs H2 => Left X.K B W b σ [j] Q (fun ρ as zs => callF n ks.length np [j] ga m as zs ρ) (.ref l :: vs) zs H2) Ck hm.kp ha.pa hn hw.pk I1 ?_ fun us ws s2 vs zs H2 I2 r rz q => run_left (js := [j]) Fn hr tk hb (by simp) hnp I2 (.cons (show RelV (.ref l) (Value.ref l) from rfl) r) rz q
          refine ha.sat.at (R' := OwnR X.K) (Q := Q) rel post fun G2 H2 ω2 ρ2 vs as rel2 s2 i2 p2 => ?_
          refine hw.sat.at (R' := OwnR X.K) (Q := Q) rel2 p2 fun G3 H3 ω3 ρ3 zs ys rel3 s3 i3 p3 => ?_
          exact ⟨G3, ω3, ρ3, _, ys, [.ref l], _, rel3, rfl, .cons h1 .nil, i2.mono s3.g, i3, p3⟩
      · cases ho
    · exact post.elim
end
/-- a wish about exceptions within a def, as its body's rules ask for it -/
abbrev WOf (E : XK) : WX := fun cls d _ H => E cls d H

/-! ### the end of a law -/
theorem isAll_ints {K : PySem.W.Frag} {G : Hp} : ∀ ns : List Int, IsAll K G (ns.map V.int) (ns.map D.int)
  | [] => .nil
  | n :: ns => .cons (.int n) (isAll_ints ns)
/-- the law says True of every script -/
def Wins (m : List D → FOut) : Prop := ∀ ns : List Int, ns.length ≤ 63 → (∀ z ∈ ns, Builtin.Int.intBits z ≤ 1048576) → m [.ro (ns.map D.int)] = .ok (.bl true) []
theorem law_sp {m : List D → FOut} (h : Wins m) (K : PySem.W.Frag) (H : Hp) (a : Addr) (ns : List Int) (hn : ns.length ≤ 63) (hb : ∀ z ∈ ns, Builtin.Int.intBits z ≤ 1048576) (hs : SqL K H a (ns.map V.int)) : spOf K 0 1 m [.ref a] H (fun v _ => v = .bl true) fun _ _ _ => False := by
  refine ⟨[.ro (ns.map D.int)], H, fun _ => none, rfl, rfl, Nat.zero_le _, Same.refl _, fun a l q => (by cases q), fun i d e => ?_, ?_⟩
  · match i, e with
    | 0, e => cases e; exact ⟨_, rfl, .frz (.ro hs (isAll_ints ns))⟩
    | i + 1, e => simp at e
  · rw [h ns hn hb]
    intro v G' H' ω' ωt _ _ o
    cases own_is o rfl
    rfl
theorem cx_no {P : Program} {w : World} {H : Hp} {s s' : Shared} {e : Value} (h : L2.CX P w [] H s (fun _ _ _ => False) e s') : False := by
  obtain ⟨_, _, _, _, _, _, _, _, _, _, _, _, z⟩ := h
  exact z
end DL
set_option Elab.async false
set_option linter.all false
set_option maxRecDepth 100000
set_option maxHeartbeats 1000000
namespace DL
open PySem PySem.Spec PyProof.Rows L2

/-! ### an owned list or object, looked at -/
def fBor0 {α : Type} (j : Nat) (fl : α → Bool) (F : Env → Out α) : Env → Out α := fun ρ => match ρ[j]? with
  | some (some d) => if owned d = true then (match F (ρ.set j (some (frz d))) with
    | .ok r _ true => if fl r = true then .ok r ρ true else .no
    | _ => .no) else F ρ
  | _ => .no
abbrev fBor (j : Nat) (F : Env → Out D) : Env → Out D := fBor0 j flatD F
abbrev fBorT (j : Nat) (F : Env → Out Bool) : Env → Out Bool := fBor0 j (fun _ => true) F
def isLst (ρ : Env) (j : Nat) : Bool := match ρ[j]? with
  | some (some (.lst _ _)) => true
  | _ => false
def fIxL (j : Nat) (Fi : Env → Out D) : Env → Out D := fun ρ => if isLst ρ j = true then (Fi ρ).bind fun i ρ1 => (match ρ1[j]?, i with
  | some (some (.lst _ ds)), .int k => (match atI ds k with
    | some d => .ok d ρ1 true
    | none => .no)
  | _, _ => .no) else .no
section
variable {K : PySem.W.Frag} {B : By} {W : WX}
theorem is_flat {G G' : Hp} {v : V} {d : D} (i : Is K G v d) (h : flatD d = true) : Is K G' v d := by
  cases i <;> first
    | exact .non
    | exact .bl _
    | exact .int _
    | exact .str _
    | cases h
def bG (j : Nat) (ω : Lb) (G1 : Hp) : Hp := fun a => match ω a with
  | some l => if l.1 = j then none else G1 a
  | none => G1 a
theorem bG_none {j : Nat} {ω : Lb} {G1 : Hp} {a : Addr} (h : G1 a = none) : bG j ω G1 a = none := by
  unfold bG
  split
  · split
    · rfl
    · exact h
  · exact h
theorem bG_some {j : Nat} {ω : Lb} {G1 : Hp} {a : Addr} {o} (h : bG j ω G1 a = some o) : G1 a = some o := by
  unfold bG at h
  split at h
  · split at h
    · cases h
    · exact h
  · exact h
theorem PinAt.move {b b' : Bs} {G H : Hp} {ω : Lb} {σ : L2.St} {ρ : Env} {p : Pin} (P : PinAt K b B p) (R : Rel K b B G H ω σ ρ) (hσ : b'.σ = σ) (hG : Same G b'.G) (hH : ∀ d, ω d = none → b'.H d = H d ∧ b'.ω d = none) : PinAt K b' B p where
  mem := P.mem
  at' := by rw [hσ, R.byr _ P.mem]; exact P.at'
  fs := (P.fs.mono R.leG).mono hG
  dd := by
    rcases P.dd with h | ⟨d, h1, h2, h3⟩
    · exact .inl h
    · have z : ω d = none := by
        cases q : ω d with
        | none => rfl
        | some l =>
          rcases (R.own d l q).2.2 with y | ⟨w, y⟩
          · rw [h2] at y; cases y
          · rw [h3] at y; cases y
      exact .inr ⟨d, h1, by rw [(hH d z).1]; exact R.old d _ h3 h2, (hH d z).2⟩
/-- a look at the owned slot j: any expression whose data stay true when the look ends -/
theorem bor_at {α β : Type} {R : Rep α β} {j : Nat} {t : L2.St → Hp → (β → Hp → Prop) → Prop} {fl : α → Bool} {F : Env → Out α}
    {b : Bs} {G H : Hp} {ω : Lb} {σ : L2.St} {ρ : Env} (hR : ∀ {b' G1 H1 x a}, (∀ t xs, G1 t = some (.tup xs) → bG j ω G1 t = some (.tup xs)) → Same H H1 → R b' H (unlab ω j) G1 H1 (unlab ω j) x a → fl a = true → R b H ω (bG j ω G1) H1 ω x a) (rel : Rel K b B G H ω σ ρ) {Q : β → Hp → Prop} (post : Post K B W b G H ω σ R Q (fBor0 j fl F ρ))
    (h : ∀ (b' : Bs) (G' : Hp) (ω' : Lb) (ρ' : Env), Same G G' → Rel K b' B G' H ω' σ ρ' → ∀ Q', Post K B W b' G' H ω' σ R Q' (F ρ') → t σ H Q') : t σ H Q := by
  unfold fBor0 at post
  cases e : ρ[j]? with
  | none => rw [e] at post; exact post.elim
  | some o =>
    cases o with
    | none => rw [e] at post; exact post.elim
    | some d =>
      rw [e] at post
      dsimp only at post
      by_cases c : owned d = true
      · rw [if_pos c] at post
        -- the state as it looks with slot j frozen, from a beginning of its own
        have lab : ∀ {a : Addr} {l : Nat × Option Str}, unlab ω j a = some l → melt ω j G H a = G a := fun {a l} q => melt_ne fun p z => by
          obtain ⟨q1, q2⟩ := unlab_some q
          rw [q1] at z
          injection z with z
          subst z
          exact q2 rfl
        have rel2 : Rel K ⟨melt ω j G H, fun a => match unlab ω j a with | some l => if l.1 ∈ B.l then H a else none | none => H a, fun a => match unlab ω j a with | some l => if l.1 ∈ B.l then some l else none | none => none, σ⟩ B
            (melt ω j G H) H (unlab ω j) σ (ρ.set j (some (frz d))) := by
          refine ⟨melt_le rel.le, Same.refl _, fun a o _ h2 => ?_, fun a h1 => ?_, fun a _ g => g, fun a l q => ?_, fun a l q => ?_, by rw [List.length_set]; exact rel.len, fun i e' hi => ?_, fun i _ => rfl, fun p hp => (rel.pin p hp).move rel rfl (melt_same rel.hG) fun d hd => by
            have z : unlab ω j d = none := by unfold unlab; rw [hd]
            dsimp only
            rw [z]
            exact ⟨rfl, rfl⟩⟩
          · dsimp only at h2
            cases q : unlab ω j a with
            | none => rw [q] at h2; exact h2
            | some l =>
              rw [q] at h2
              dsimp only at h2
              split at h2
              · exact h2
              · cases h2
          · dsimp only
            cases q : unlab ω j a with
            | none => exact h1
            | some l => dsimp only; split <;> first | exact h1 | rfl
          · obtain ⟨q1, q2⟩ := unlab_some q
            obtain ⟨y1, y2, _⟩ := rel.own a l q1
            refine ⟨by rw [lab q]; exact y1, y2, ?_⟩
            dsimp only
            rw [q]
            dsimp only
            by_cases hb : l.1 ∈ B.l
            · rw [if_pos hb, if_pos hb]; exact .inr ⟨l.2, rfl⟩
            · rw [if_neg hb]; exact .inl rfl
          · dsimp only at q
            cases z : unlab ω j a with
            | none => rw [z] at q; cases q
            | some m =>
              rw [z] at q
              dsimp only at q
              split at q
              · cases q; assumption
              · cases q
          · rw [List.getElem?_set] at hi
            split at hi
            · rename_i c'
              subst c'
              split at hi
              · cases hi
                obtain ⟨v, h1, h2⟩ := rel.slot j d e
                exact ⟨v, h1, .frz (h2.frozen rel.hG)⟩
              · cases hi
            · rename_i c'
              obtain ⟨v, h1, h2⟩ := rel.slot i e' hi
              exact ⟨v, h1, h2.go (melt_same rel.hG) fun a p q => ⟨unlab_keep q (fun z => c' z.symm), rfl⟩⟩
        refine h _ _ _ _ (melt_same rel.hG) rel2 Q ?_
        cases eF : F (ρ.set j (some (frz d))) with
        | no => rw [eF] at post; exact post.elim
        | ex c' ρ' => rw [eF] at post; exact post.elim
        | ok r ρ' q =>
          rw [eF] at post
          cases q with
          | false => exact post.elim
          | true =>
            dsimp only at post
            split at post
            · rename_i hf
              intro v G1 H1 ω1 rel1 t1 q1 i
              obtain ⟨w1, p1⟩ := q1 rfl
              subst w1
              have st : Step G H (bG j ω G1) H1 := by
                refine ⟨fun a o g => ?_, p1, fun a ha g => ?_⟩
                · have nl : ω a = none := by
                    cases z : ω a with
                    | none => rfl
                    | some l => rw [(rel.own a l z).1] at g; cases g
                  unfold bG
                  rw [nl]
                  exact t1.g a o (by rw [melt_ne (fun p z => by rw [nl] at z; cases z)]; exact g)
                · by_cases hj : ∃ p, ω a = some (j, p)
                  · obtain ⟨p, hj⟩ := hj
                    unfold bG
                    rw [hj]
                    dsimp only
                    rw [if_pos rfl]
                  · have g2 : melt ω j G H a = none := by rw [melt_ne (fun p z => hj ⟨p, z⟩)]; exact g
                    have g3 : G1 a = none := by
                      cases z : unlab ω j a with
                      | none => exact t1.hid a z ha g2
                      | some l => exact (rel1.own a l z).1
                    exact bG_none g3
              refine Post.step rel post st (fun a o g => rel1.le a o (bG_some g)) (hR (fun t xs z => ?_) p1 i hf)
              unfold bG
              cases y : ω t with
              | none => exact z
              | some l =>
                obtain ⟨o, y1, y2⟩ := (rel.own t l y).2.1
                have y3 := p1 t o y1
                rw [rel1.le t _ z] at y3
                cases y3
                cases y2
            · exact post.elim
      · rw [if_neg c] at post
        exact h b G ω ρ (Same.refl _) rel Q post
theorem sat_bor0 {α β : Type} {R : Rep α β} {j : Nat} {t : L2.St → Hp → (β → Hp → Prop) → Prop} {fl : α → Bool} {F : Env → Out α} (hR : ∀ {b Hs ωs G H ω b' Hs' ωs' G' H' ω' x a}, R b Hs ωs G H ω x a → fl a = true → R b' Hs' ωs' G' H' ω' x a) (h : Sat K B W R t F) : Sat K B W R t (fBor0 j fl F) :=
  fun b G H ω σ ρ rel Q post => bor_at (R := R) (fl := fl) (F := F) (fun _ _ i hf => hR i hf) rel post fun b' G' ω' ρ' _ rel' Q' post' => h b' G' H ω' σ ρ' rel' Q' post'
theorem sat_bor {j : Nat} {t : TE} {F : Env → Out D} (h : Sat K B W (IsR K) t F) : Sat K B W (IsR K) t (fBor j F) := sat_bor0 (fun i hf => is_flat i hf) h
theorem sat_borT {j : Nat} {t : TT} {F : Env → Out Bool} (h : Sat K B W (EqR Bool) t F) : Sat K B W (EqR Bool) t (fBorT j F) := sat_bor0 (fun i _ => i) h
theorem slot_list {b : Bs} {G H : Hp} {ω : Lb} {σ : L2.St} {ρ : Env} (rel : Rel K b B G H ω σ ρ) {j : Nat} {o : Bool} {ds : List D} (h : ρ[j]? = some (some (.lst o ds))) : ∃ a xs, σ[j]? = some (some (.ref a)) ∧ Rd H a (.lst xs) ∧ IsAll K G xs ds := by
  obtain ⟨v, h1, h2⟩ := rel.slot j _ h
  cases h2 with
  | one h2 =>
    cases h2 with
    | frz i => cases i with
      | lst y1 y2 => exact ⟨_, _, h1, same_rd rel.le y1, y2⟩
    | lst y1 y2 y3 => exact ⟨_, _, h1, Rd.of y2, y3⟩
theorem sat_ixL {j : Nat} {t : TE} {Fi : Env → Out D} (h : Sat K B W (IsR K) t Fi) : Sat K B W (IsR K) (tOp (rIx K) (tVar j) t) (fIxL j Fi) := by
  intro b G H ω σ ρ rel Q post
  unfold fIxL at post
  split at post
  · rename_i hl
    unfold isLst at hl
    split at hl
    · rename_i o ds e
      obtain ⟨a, xs, h1, _, _⟩ := slot_list rel e
      refine ⟨.ref a, h1, h.at (R' := IsR K) (Q := Q) rel post fun G1 H1 ω1 ρ1 y i rel1 s1 iy p => ?_⟩
      split at p
      · rename_i o' ds' k e2
        obtain ⟨a', xs', q1, q2, q3⟩ := slot_list rel1 e2
        rw [h1] at q1
        cases q1
        cases iy
        cases e3 : atI ds' k with
        | none => rw [e3] at p; exact p.elim
        | some d =>
          rw [e3] at p
          obtain ⟨v, z1, z2⟩ := at_v q3 e3
          exact .inl ⟨a, xs', k, v, rfl, rfl, .inl q2, z1, Post.now rel1 p z2⟩
      · exact p.elim
    · cases hl
  · exact post.elim
/-- x op e, x an owned list in the slot j: e first, then a look -/
def lookV (j : Nat) (g : D → D → Res) (c : D) : Env → Out D := fun ρ => match ρ[j]? with
  | some (some d) => if owned d = true then .no else resE (g d c) ρ
  | _ => .no
def isSome2 (ρ : Env) (j : Nat) : Bool := match ρ[j]? with
  | some (some _) => true
  | _ => false
def fCmpL (j : Nat) (g : D → D → Res) (Fe : Env → Out D) : Env → Out D := fun ρ => if isSome2 ρ j = true then (Fe ρ).bind fun c ρ1 => fBor0 j flatD (lookV j g c) ρ1 else .no
theorem sat_cmpL {j : Nat} {r : R2} {g : D → D → Res} {t : TE} {Fe : Env → Out D} (hr : OpV K r g) (h : Sat K B W (IsR K) t Fe) : Sat K B W (IsR K) (tOp r (tVar j) t) (fCmpL j g Fe) := by
  intro b G H ω σ ρ rel Q post
  unfold fCmpL at post
  split at post
  · rename_i hs
    unfold isSome2 at hs
    split at hs
    · rename_i d0 e0
      obtain ⟨x, h1, _⟩ := rel.slot j d0 e0
      refine ⟨x, h1, h.at (R' := IsR K) (Q := Q) rel post fun G1 H1 ω1 ρ1 y c rel1 s1 iy p => ?_⟩
      refine bor_at (R := IsR K) (fl := flatD) (F := lookV j g c) (t := fun σ H Q => r x y H Q) (fun _ _ i hf => is_flat i hf) rel1 p fun b' G' ω' ρ' sm rel' Q' post' => ?_
      unfold lookV at post'
      split at post'
      · rename_i d e2
        obtain ⟨x', q1, q2⟩ := rel'.slot j d e2
        rw [h1] at q1
        cases q1
        split at post'
        · exact post'.elim
        · rename_i od
          exact hr G' H1 x y d c rel'.le (own_is q2 (by simpa using od)) (iy.mono sm) Q' (res_e rel' post')
      · exact post'.elim
    · cases hs
  · exact post.elim
end
section
variable {X : Cx} {B : By} {W : WX} {e c : Expr} {te ti : TE} {Fe Fi : Env → Out D} {pos : Pos}
theorem d_cmpL (j : Nat) {x : Str} {py : Pos} {op : CmpOp} {r : R2} {g : D → D → Res} (ho : OpR X (compareOp op) r) (hv : OpV X.K r g) (h : DE X B W e te Fe) (hm : behindInMarks op e = false := by first | exact nomark _ (by decide) (by decide) | rfl) (hN : X.N[j]? = some x := by rfl)
    (hvi : Vis X.env.scope x := by first | exact Or.inl rfl | exact Or.inr (Or.inl rfl) | exact Or.inr (Or.inr rfl)) (hd : (x == ("__debug__" : Str)) = false := by decide) (hcd : (x == ("__classdict__" : Str)) = false := by decide) :
    DE X B W (.Compare (.Name x py) [op] [e] pos) (tOp r (tVar j) te) (fCmpL j g Fe) := ⟨pe_cmpR ho (pe_var hN hvi hd hcd) h.pe hm, sat_cmpL hv h.sat⟩
theorem t_cmpL (j : Nat) {x : Str} {py : Pos} {op : CmpOp} {r : R2} {g : D → D → Res} (ho : OpR X (compareOp op) r) (hv : OpV X.K r g) (h : DE X B W e te Fe) (hm : behindInMarks op e = false := by first | exact nomark _ (by decide) (by decide) | rfl) (hN : X.N[j]? = some x := by rfl)
    (hvi : Vis X.env.scope x := by first | exact Or.inl rfl | exact Or.inr (Or.inl rfl) | exact Or.inr (Or.inr rfl)) (hd : (x == ("__debug__" : Str)) = false := by decide) (hcd : (x == ("__classdict__" : Str)) = false := by decide) :
    DT X B W (.Compare (.Name x py) [op] [e] pos) (tTest (tOp r (tVar j) te)) (fTst (fCmpL j g Fe)) := ⟨pt_cmpR ho (pe_var hN hvi hd hcd) h.pe hm, sat_tst (sat_cmpL hv h.sat)⟩
theorem d_bor (j : Nat) (h : DE X B W e te Fe) : DE X B W e te (fBor j Fe) := ⟨h.pe, sat_bor h.sat⟩
theorem t_bor (j : Nat) {tt : TT} {T : Env → Out Bool} (h : DT X B W e tt T) : DT X B W e tt (fBorT j T) := ⟨h.pt, sat_borT h.sat⟩
theorem d_ixL (j : Nat) {x : Str} {px : Pos} (hi : DE X B W c ti Fi) (hs : PlainIx c := by exact fun _ _ => rfl) (hN : X.N[j]? = some x := by rfl) (hv : Vis X.env.scope x := by first | exact Or.inl rfl | exact Or.inr (Or.inl rfl) | exact Or.inr (Or.inr rfl)) (hd : (x == ("__debug__" : Str)) = false := by decide)
    (hcd : (x == ("__classdict__" : Str)) = false := by decide) : DE X B W (.Subscript (.Name x px) c pos) (tOp (rIx X.K) (tVar j) ti) (fIxL j Fi) := ⟨pe_ix ix_seq (pe_var hN hv hd hcd) hi.pe hs, sat_ixL hi.sat⟩
theorem hu65 {k : Nat} {A : Around} (r : RmG k A) : A.units + 65 < cLine := by have := r.rm.un; omega
end

end DL
set_option Elab.async false
set_option linter.all false
set_option maxRecDepth 100000
set_option maxHeartbeats 1000000
namespace DL
open PySem PySem.Spec PyProof.Rows L2

/-- the weakest wish of a suite -/
def tOf (K : PySem.W.Frag) (B : By) (W : WX) (F : Env → SOut) : TS := fun Dn σ H => ∃ b G ω ρ, Rel K b B G H ω σ ρ ∧ PostS K B W b G H ω Dn (F ρ)
theorem pss_of {X : Cx} {B : By} {W : WX} {st : List Stmt} {F : Env → SOut} (h : ∃ t, DSs X B W st t F) : PSs X st (tOf X.K B W F) := by
  obtain ⟨t, h⟩ := h
  exact ⟨fun pins s σ H D I ⟨b, G, ω, ρ, rel, post⟩ => h.ps.run pins s σ H D I (h.sat b G H ω σ ρ rel D post)⟩

/-! ### raise -/
/-- an own exception class, by its name -/
structure Cls (K : PySem.W.Frag) (mg : Str → Option Value) (n : String) (C : Addr) : Prop where
  ns : PySem.W.nsIn K mainGlobals (n : Str) = some (some (.ref C))
  at' : mg (n : Str) = some (.ref C)
  keep : PySem.W.keepIn K (.ref C) = true
  sub : PySem.W.subIn K (.ref C) (.type "BaseException") = some true
  ty : PySem.W.typeIn K (.ref C) = some (.type "type")
  isC : PySem.W.isClsIn K C = true
theorem exm_of {K : PySem.W.Frag} {C S : Addr} {b : Bool} (h1 : PySem.W.subIn K (.ref S) (.type "BaseException") = some true) (h2 : PySem.W.isClsIn K S = true) (h3 : PySem.W.typeIn K (.ref S) = some (.type "type"))
    (h4 : PySem.W.subIn K (.ref C) (.ref S) = some b) : PySem.W.exmOne K (.ref C) (.ref S) = some b := by
  have h2' : (PySem.W.clsIn K S).isSome = true := h2
  unfold PySem.W.exmOne
  rw [h1, if_pos (by decide)]
  show (if ((PySem.W.clsIn K S).isSome && PySem.W.typeIn K (.ref S) == some (.type "type")) = true then PySem.W.subIn K (.ref C) (.ref S) else none) = some b
  rw [h2', h3, if_pos (by decide), h4]
def sRaise (n : String) : Env → SOut := fun ρ => .ex ⟨n, []⟩ ρ
section
variable {X : Cx} {B : By} {W : WX} {C : Addr} {bmB : List Value} {Bn newId initId : String}
theorem ds_raise {n : String} {m : Str} {j : Nat} {p p2 pos pos' : Pos} (hc : X.calm = true) (tk : Takes X W) (F : ExcBaseFacts Bn newId initId bmB) (T : Cls X.K X.mg n C) (q : PySem.W.excIn X.K C bmB newId = true)
    (hg : Gl X (n : Str)) (hdb : ((n : Str) == ("__debug__" : Str)) = false := by decide) :
    DS X B W (.Raise (some (.Call (.Name (n : Str) p) [.Constant (.str m) j p2] [] pos)) none pos') (fun _ σ H => W (.ref C) none σ H) (sRaise n) :=
  ⟨ps_raise hc tk (pmk_own F q T.at' T.keep (raises_own T.sub T.ty) hg hdb), fun b G H ω σ ρ rel Dn post => post (.ref C) none σ G H ω rel .refl ⟨⟨C, rfl, T.ns⟩, .inl ⟨rfl, rfl⟩⟩⟩
end
end DL
set_option Elab.async false
set_option linter.all false
set_option maxRecDepth 100000
set_option maxHeartbeats 1000000
namespace DL
open PySem PySem.Spec PyProof.Rows L2
abbrev Own' (X : Cx) : Prop := PassesOwn (model X.prog X.w) X.A X.env X.xe
section
variable {X : Cx} {B : By} {W : WX} {tg e iter : Expr} {es : List Expr} {body : List Stmt} {te : TE} {ta : TA} {tc : TT} {wi : TI} {g : TG} {tb : TS} {Fe : Env → Out D} {Fa F : Env → Out (List D)} {Fg : D → Env → Option Env} {T : Env → Out Bool} {Fb : Env → SOut} {p pos : Pos}
theorem di_any (h : DE X B W e te Fe) : DI X B W tg e (iAny X.K te) (fAny Fe) := ⟨pi_any h.pe, si_any h.sat⟩
theorem di_rng1 {a : Expr} (hg : Gl X "range") (hm : X.mg "range" = none) (ha : DA X B W [a] ta Fa) (hs : starEach [a] X.env = [(false, eval a X.env)] := by rfl) : DI X B W tg (.Call (.Name "range" p) [a] [] pos) (iRng1 ta) (fRng1 Fa) :=
  ⟨pi_range1 hg hm ha.pa hs, si_rng1 ha.sat⟩
theorem di_rng2 {a c : Expr} (hg : Gl X "range") (hm : X.mg "range" = none) (ha : DA X B W [a, c] ta Fa) (hs : starEach [a, c] X.env = [(false, eval a X.env), (false, eval c X.env)] := by rfl) (hs2 : starEach [c] X.env = [(false, eval c X.env)] := by rfl) :
    DI X B W tg (.Call (.Name "range" p) [a, c] [] pos) (iRng2W ta) (fRng2 Fa) := ⟨pi_range2W hg hm ha.pa hs hs2, si_rng2 ha.sat⟩
theorem ds_for (hp : Own' X) (hc : X.calm = true) (hi : DI X B W tg iter wi F) (hg : DG X B tg g Fg) (hb : DSs X B W body tb Fb) (hs : ∀ x, foldedSetIterable iter X.env x = pure x := by intro _; rfl) :
    DS X B W (.For tg iter body [] pos) (tFor wi g tb) (sFor F Fg Fb) := ⟨ps_for hp hc hi.pi hg.pg hb.ps hs, ss_for hi.sat hg.sat hb.sat⟩
theorem ds_while (n : Nat) (hp : Own' X) (hc : DT X B W e tc T) (hb : DSs X B W body tb Fb) : DS X B W (.While e body [] pos) (tWhile tc tb) (whileD T Fb n) := ⟨ps_while hp hc.pt hb.ps, ss_while n hc.sat hb.sat⟩
end
/-! ### what the built-in names stand for -/
theorem bt_int : bootBuiltins "int" = some (.type "int") := by decide +kernel
theorem bt_str : bootBuiltins "str" = some (.type "str") := by decide +kernel
theorem bt_bool : bootBuiltins "bool" = some (.type "bool") := by decide +kernel
theorem bt_list : bootBuiltins "list" = some (.type "list") := by decide +kernel
theorem bt_tuple : bootBuiltins "tuple" = some (.type "tuple") := by decide +kernel
theorem bt_dict : bootBuiltins "dict" = some (.type "dict") := by decide +kernel
theorem bt_set : bootBuiltins "set" = some (.type "set") := by decide +kernel
theorem bt_type : bootBuiltins "type" = some (.type "type") := by decide +kernel
theorem bt_zip : bootBuiltins "zip" = some (.type "zip") := by decide +kernel
theorem bt_enumerate : bootBuiltins "enumerate" = some (.type "enumerate") := by decide +kernel
theorem bt_range : bootBuiltins "range" = some (.type "range") := by decide +kernel
theorem bt_object : bootBuiltins "object" = some (.type "object") := by decide +kernel
theorem bt_len : bootBuiltins "len" = some (.builtin "len") := by decide +kernel
theorem bt_abs : bootBuiltins "abs" = some (.builtin "abs") := by decide +kernel
theorem bt_max : bootBuiltins "max" = some (.builtin "max") := by decide +kernel
theorem bt_min : bootBuiltins "min" = some (.builtin "min") := by decide +kernel
theorem bt_sum : bootBuiltins "sum" = some (.builtin "sum") := by decide +kernel
theorem bt_all : bootBuiltins "all" = some (.builtin "all") := by decide +kernel
theorem bt_any : bootBuiltins "any" = some (.builtin "any") := by decide +kernel
theorem bt_isinstance : bootBuiltins "isinstance" = some (.builtin "isinstance") := by decide +kernel
theorem bt_divmod : bootBuiltins "divmod" = some (.builtin "divmod") := by decide +kernel
theorem bt_sorted : bootBuiltins "sorted" = some (.builtin "sorted") := by decide +kernel
theorem bt_repr : bootBuiltins "repr" = some (.builtin "repr") := by decide +kernel
/-! ### comprehensions: the element's wish is the weakest one -/
section
variable {X : Cx} {B : By} {W : WX} {elt tg iter : Expr} {ifs : List Expr} {scope : Scope} {own : List (Str × Nat)} {pos : Pos} {wi : TI} {F : DL.Env → Out (List D)} {Fg : D → DL.Env → Option DL.Env} {T : DL.Env → Out Bool} {Fe : DL.Env → Out D}
theorem DE.can {e : Expr} (h : ∃ t, DE X B W e t Fe) : DE X B W e (tOfE X.K B W (IsR X.K) Fe) Fe := by
  obtain ⟨t, h⟩ := h
  exact ⟨⟨fun pins s σ H Q I ⟨b, G, ω, ρ, rel, post⟩ => h.pe.run pins s σ H Q I (h.sat b G H ω σ ρ rel Q post)⟩, sat_of⟩
theorem DTs.can {es : List Expr} (h : ∃ t, DTs X B es t T) : DTs X B es (tOfE X.K B W0 (EqR Bool) T) T := by
  obtain ⟨t, h⟩ := h
  exact ⟨⟨fun pins s σ H Q I ⟨b, G, ω, ρ, rel, post⟩ => h.pts.run pins s σ H Q I (h.sat b G H ω σ ρ rel Q post)⟩, sat_of⟩
theorem o_lcx (g : TG) (hc : X.calm = true) (hN : X.N.Nodup) (hi : DI X B W tg iter wi F) (ok : BlkOk X.N X.env.scope scope own)
    (hg : ∀ (s : Shared) (H : Hp) (C : Addr) (cl : List (Str × Addr)) (fp : List Addr), DK (X.blk s H scope (compEnvC scope cl C X.env) fp) B (own.map (·.2)) tg g Fg)
    (ht : ∀ (s : Shared) (H : Hp) (C : Addr) (cl : List (Str × Addr)) (fp : List Addr), ∃ tt, DTs (X.blk s H scope (compEnvC scope cl C X.env) fp) B ifs tt T)
    (he : ∀ (s : Shared) (H : Hp) (C : Addr) (cl : List (Str × Addr)) (fp : List Addr), ∃ te, DE (X.blk s H scope (compEnvC scope cl C X.env) fp) B W0 elt te Fe)
    (hv : ∀ i ∈ own.map (·.2), i ∉ B.l := by decide) (hs : ∀ x, foldedSetIterable iter X.env x = pure x := by intro _; rfl) :
    DO X B W (.ListComp elt [⟨tg, iter, ifs, 0⟩] scope pos) (tLc wi g (tOfE X.K B W0 (EqR Bool) T) (tOfE X.K B W0 (IsR X.K) Fe) (own.map (·.2))) (fLc (own.map (·.2)) F Fg T Fe) :=
  o_lc hc hN hi ok hg (fun s H C cl fp => DTs.can (ht s H C cl fp)) (fun s H C cl fp => DE.can (he s H C cl fp)) hv hs
theorem ds_setLcx (i : Nat) (g : TG) {y : Str} {py spos : Pos} (hc : X.calm = true) (hN : X.N.Nodup) (hi : DI X B W tg iter wi F) (ok : BlkOk X.N X.env.scope scope own)
    (hg : ∀ (s : Shared) (H : Hp) (C : Addr) (cl : List (Str × Addr)) (fp : List Addr), DK (X.blk s H scope (compEnvC scope cl C X.env) fp) B (own.map (·.2)) tg g Fg)
    (ht : ∀ (s : Shared) (H : Hp) (C : Addr) (cl : List (Str × Addr)) (fp : List Addr), ∃ tt, DTs (X.blk s H scope (compEnvC scope cl C X.env) fp) B ifs tt T)
    (he : ∀ (s : Shared) (H : Hp) (C : Addr) (cl : List (Str × Addr)) (fp : List Addr), ∃ te, DE (X.blk s H scope (compEnvC scope cl C X.env) fp) B W0 elt te Fe)
    (hsw : swapsWith (.ListComp elt [⟨tg, iter, ifs, 0⟩] scope pos) (some (.Name y py)) spos.line X.env = pure true)
    (hv : ∀ i ∈ own.map (·.2), i ∉ B.l := by decide) (hy : X.N[i]? = some y := by rfl) (hyl : X.env.scope.names.lookup y = some .local := by rfl) (hs : ∀ x, foldedSetIterable iter X.env x = pure x := by intro _; rfl) :
    DS X B W (.Assign [.Name y py] (.ListComp elt [⟨tg, iter, ifs, 0⟩] scope pos) spos) (tAsg (tLc wi g (tOfE X.K B W0 (EqR Bool) T) (tOfE X.K B W0 (IsR X.K) Fe) (own.map (·.2))) (gName i)) (sAsg (fLc (own.map (·.2)) F Fg T Fe) (gN B.l i)) :=
  ds_setLc i hc hN hi ok hg (fun s H C cl fp => DTs.can (ht s H C cl fp)) (fun s H C cl fp => DE.can (he s H C cl fp)) hsw hv hy hyl hs
end
end DL
set_option Elab.async false
set_option linter.all false
set_option maxRecDepth 100000
set_option maxHeartbeats 1000000
namespace DL
open PySem PySem.Spec PyProof.Rows L2

/-! ### constants of the module -/
def GC (K : PySem.W.Frag) (mg : Str → Option Value) (x : Str) (d : D) : Prop := ∃ (v : V) (u : Value), mg x = some u ∧ RelV v u ∧ ∀ G, Is K G v d
section
variable {X : Cx} {B : By} {W : WX}
theorem DE.canO {e : Expr} {Fe : DL.Env → Out D} (h : ∃ t, DO X B W e t Fe) : DO X B W e (tOfE X.K B W (OwnR X.K) Fe) Fe := by
  obtain ⟨t, h⟩ := h
  exact ⟨⟨fun pins s σ H Q I ⟨b, G, ω, ρ, rel, post⟩ => h.pe.run pins s σ H Q I (h.sat b G H ω σ ρ rel Q post)⟩, sat_of⟩
theorem d_gc {x : Str} {d : D} {pos : Pos} (h : GC X.K X.mg x d) (hg : Gl X x) (hd : (x == ("__debug__" : Str)) = false := by decide) : DE X B W (.Name x pos) (tOfE X.K B W (IsR X.K) (fC d)) (fC d) := by
  obtain ⟨v, u, h1, h2, h3⟩ := h
  exact DE.can ⟨_, d_glob h3 hg h1 h2 hd⟩
end
section
variable {K : PySem.W.Frag} {mg : Str → Option Value} {x : Str}
theorem gc_int {n : Int} {t : Tok} (h : mg x = some (.int n t)) : GC K mg x (.int n) := ⟨.int n, _, h, ⟨t, rfl⟩, fun _ => .int n⟩
theorem gc_str {n : Str} {t : Tok} (h : mg x = some (.str n t)) : GC K mg x (.str n) := ⟨.str n, _, h, ⟨t, rfl⟩, fun _ => .str n⟩
/-- a tuple that the module's text has laid -/
theorem is_mtup {a : Addr} {vs : List V} {ds : List D} {o : Obj} {its : List Value} {n : Nat} {nm : Str} (hn : nm ∈ CN) (hg : PySem.W.nsIn K mainGlobals nm = some (some (.ref a))) (h : K.lookup a = some o) (hc : o.cls = .type "tuple") (hd : o.data = .seq its.toArray n) (hz : its.length ≤ sizeLine) (r : Vals vs its) (i : ∀ G, IsAll K G vs ds) : ∀ G, Is K G (.ref a) (.tup ds) :=
  fun G => .tup (.inr ⟨o, its.toArray, n, .inl ⟨nm, hn, hg⟩, h, hc, hd, by rw [List.size_toArray]; exact hz, by simpa using r⟩) (i G)
/-- a tuple that stands as a default -/
theorem is_dtup {a : Addr} {x : Str} {vs : List V} {ds : List D} {o : Obj} {its : List Value} {n : Nat} (h : K.lookup a = some o) (hc : o.cls = .type "tuple") (hd : o.data = .seq its.toArray n) (hz : its.length ≤ sizeLine) (r : Vals (.str x :: vs) its) (i : ∀ G, IsAll K G (.str x :: vs) ds) : ∀ G, Is K G (.ref a) (.tup ds) :=
  fun G => .tup (.inr ⟨o, its.toArray, n, .inr ⟨_, _, rfl⟩, h, hc, hd, by rw [List.size_toArray]; exact hz, by simpa using r⟩) (i G)
theorem gc_ref {a : Addr} {d : D} (h : mg x = some (.ref a)) (i : ∀ G, Is K G (.ref a) d) : GC K mg x d := ⟨.ref a, _, h, rfl, i⟩
end

def rRepL : R2 := fun x y H Q => ∃ l k xs, x = .ref l ∧ y = .int k ∧ Rd H l (.lst xs) ∧ (-(2 ^ 63) ≤ k ∧ k < 2 ^ 63) ∧ xs.length * k.toNat ≤ sizeLine ∧ ∀ p, H p = none → Q (.ref p) (upd H p (.lst (List.replicate k.toNat xs).flatten))
theorem op_repL {X : Cx} : OpR X (binaryOp .Mult) rRepL := by
  intro pins s σ H x y v u Q I rx ry h
  obtain ⟨l, k, xs, rfl, rfl, hR, hk, hz, q⟩ := h
  cases rx
  obtain ⟨t, rfl⟩ := ry
  obtain ⟨_, its, n, r, e⟩ := rd_list I hR
  have hl := r.length
  have z1 : its.toArray.size * k.toNat ≤ sizeLine := by
    rw [List.size_toArray, ← hl]
    exact hz
  have z2 : ¬ its.toArray.size * k.toNat > (2 ^ 63 - 1) / 8 := by
    have z : (sizeLine : Nat) ≤ (2 ^ 63 - 1) / 8 := by decide
    omega
  have z3 : ¬ (!Builtin.List.listFitsIndex k) = true := by rw [fitsIndex_both hk.1 hk.2]; decide
  have z4 : ¬ Builtin.List.listTooLong (its.toArray.size * k.toNat) = true := by rw [notLongL z1]; decide
  have z5 : List.foldl (fun x1 x2 => x1 ++ x2) #[] (List.replicate (if its.toArray.isEmpty = true then 0 else k.toNat) its.toArray) = (List.replicate k.toNat its).flatten.toArray := by
    have f0 : ∀ m : Nat, List.foldl (fun x1 x2 => x1 ++ x2) #[] (List.replicate m its.toArray) = (List.replicate m its).flatten.toArray := fun m => by
      have z := foldl_rep its m []
      rw [List.nil_append] at z
      exact z
    rw [f0]
    cases its with
    | nil => simp
    | cons a r' => rw [if_neg (by simp)]
  have last := I.lnew (t' := s.toks) (r.rep k.toNat) (by rw [PyProof.Rows.lm_len_rep_flat, Nat.mul_comm]; exact hz)
  refine wpAny_binaryOp_repeat_ref (T := "list") (U := "int") (by decide) ⟨_, e, rfl⟩ (fun s' => typeIs_int s' k t) noFill_list_mul F.fills_int_mul F.slot_int_rmul repeat_list F.slot_int_index.lookup ?_
  refine call_meets F.slot_int_rmul (typeIs_int s k t) F.entry_int_rmul (F.args_int_rmul_2 _ _) (int___rmul___int_list k t l its.toArray n) ⟨e, rfl, ⟨_, e, rfl⟩, ?_⟩
  refine call_meets F.slot_list_mul ⟨_, e, rfl⟩ F.entry_list_mul (F.args_list_mul_2 _ _) (AutoListH.list___mul___list_int_3 l its.toArray n k t z3 z2 z4) ⟨e, ?_⟩
  rw [z5]
  exact ⟨.ref _, _, last, rfl, q _ I.fresh⟩
def repD (k : Nat) (ds : List D) : List D := (List.replicate k ds).flatten
def mulL : D → D → Res
  | .int a, .int b => if IntMulOk a b then .val (.int (a * b)) else .no
  | .lst _ ds, .int k => if 0 ≤ k ∧ k ≤ 4096 ∧ ds.length ≤ 4096 then .new (repD k.toNat ds) else .no
  | _, _ => .no
theorem op_mulL {X : Cx} : OpR X (binaryOp .Mult) (fun x y H Q => rI IntMulOk (fun i j => .int (i * j)) x y H Q ∨ rRepL x y H Q) := op_mulI.or op_repL
theorem isAll_rep {K : PySem.W.Frag} {G : Hp} {xs : List V} {ds : List D} (h : IsAll K G xs ds) : ∀ k : Nat, IsAll K G (List.replicate k xs).flatten (repD k ds)
  | 0 => .nil
  | k + 1 => by
    unfold repD
    rw [List.replicate_succ, List.replicate_succ, List.flatten_cons, List.flatten_cons]
    exact h.append (isAll_rep h k)
theorem mulL_v {K : PySem.W.Frag} : OpV K (fun x y H Q => rI IntMulOk (fun i j => .int (i * j)) x y H Q ∨ rRepL x y H Q) mulL := by
  intro G H x y a c le ia ic Q post
  cases ia <;> cases ic <;> first
    | exact post.elim
    | skip
  · have p : PostR K G H Q (if _ then _ else _) := post
    split at p
    · rename_i hz
      exact .inl ⟨_, _, rfl, rfl, hz, p.here le (.int _)⟩
    · exact p.elim
  · rename_i a xs ds hr hi k
    have p : PostR K G H Q (if _ then _ else _) := post
    split at p
    · rename_i hz
      have hl := hi.length
      refine .inr ⟨a, k, xs, rfl, rfl, same_rd le hr, ⟨by omega, by omega⟩, ?_, fun q hq => p q _ hq (isAll_rep hi _)⟩
      rw [sizeLine_eq, hl]
      exact Nat.le_trans (Nat.mul_le_mul hz.2.2 (by omega : k.toNat ≤ 4096)) (by decide)
    · exact p.elim

/-! ### repr of what is flat -/
def reprD : List D → Res
  | [.int i] => if i.natAbs.log2 < 1920 then .val (.str (toString i)) else .no
  | [.bl k] => .val (.str (if k = true then "True" else "False"))
  | [.non] => .val (.str "None")
  | [.str x] => if (reprText x).length ≤ sizeLine then .val (.str (reprText x)) else .no
  | _ => .no
def rReprF : List V → Hp → VK → Prop := fun xs H Q => (∃ i : Int, xs = [.int i] ∧ i.natAbs.log2 < 1920 ∧ Q (.str (toString i)) H) ∨ ((∃ k, xs = [.bl k] ∧ Q (.str (if k = true then "True" else "False")) H) ∨ ((xs = [.non] ∧ Q (.str "None") H) ∨ ∃ y, xs = [.str y] ∧ (reprText y).length ≤ sizeLine ∧ Q (.str (reprText y)) H))
theorem call_reprF {X : Cx} : CallR X (.builtin "repr") rReprF := by
  intro pins s σ H xs us Q I r h
  rcases h with ⟨i, rfl, hz, q⟩ | ⟨k, rfl, q⟩ | ⟨rfl, q⟩ | ⟨y, rfl, hz, q⟩
  · obtain ⟨u, rfl, t, rfl⟩ := vals1 r
    exact PySem.P.repr_of_int hz ⟨.str _, H, I.tok _, ⟨_, rfl⟩, q⟩
  · obtain ⟨u, rfl, rfl⟩ := vals1 r
    exact PySem.P.repr_of_bool ⟨.str (if k = true then "True" else "False"), H, I.tok _, ⟨_, rfl⟩, q⟩
  · obtain ⟨u, rfl, rfl⟩ := vals1 r
    exact PySem.P.repr_of_none ⟨.str "None", H, I.tok _, ⟨_, rfl⟩, q⟩
  · obtain ⟨u, rfl, t, rfl⟩ := vals1 r
    exact PySem.P.repr_of_str ⟨.str _, H, I.tok _, ⟨_, rfl⟩, q⟩ hz
theorem repr_v {K : PySem.W.Frag} : CallV K rReprF reprD := by
  intro G H xs as le h Q post
  cases h with
  | nil => exact post.elim
  | cons i r =>
    cases r with
    | cons _ _ => cases i <;> exact post.elim
    | nil =>
      cases i <;> first
        | exact post.elim
        | skip
      · exact .inr (.inr (.inl ⟨rfl, PostR.here post le (.str _)⟩))
      · exact .inr (.inl ⟨_, rfl, PostR.here post le (.str _)⟩)
      · have p : PostR K G H Q (if _ then _ else _) := post
        split at p
        · rename_i hz
          exact .inl ⟨_, rfl, hz, p.here le (.str _)⟩
        · exact p.elim
      · have p : PostR K G H Q (if _ then _ else _) := post
        split at p
        · rename_i hz
          exact .inr (.inr (.inr ⟨_, rfl, hz, p.here le (.str _)⟩))
        · exact p.elim

/-! ### xs[::-1] -/
/-- a text read from its end -/
def revS (x : Str) : Str := ⟨x.cps.toList.reverse.toArray⟩
def revD : D → Res
  | .lst _ ds => .new ds.reverse
  | .tup ds => .val (.tup ds.reverse)
  | .str x => if x.length ≤ sizeLine then .val (.str (revS x)) else .no
  | _ => .no
theorem isAll_rev {K : PySem.W.Frag} {G : Hp} : ∀ {xs : List V} {ds : List D}, IsAll K G xs ds → IsAll K G xs.reverse ds.reverse
  | _, _, .nil => .nil
  | _, _, .cons h r => by
    rw [List.reverse_cons, List.reverse_cons]
    exact (isAll_rev r).append (.cons h .nil)
section
variable {prog : Program} {w : World} {A : Around} {E : Value → Shared → Prop} {s : Shared}
theorem adjust_rev (n : Nat) : Builtin.Slice.sliceAdjust none none (-1) (n : Int) = ((n : Int) - 1, -1) := by
  unfold Builtin.Slice.sliceAdjust
  simp
theorem places_rev (n : Nat) : Builtin.Slice.slicePlaces ((n : Int) - 1) (-1) (-1) = n := by
  unfold Builtin.Slice.slicePlaces
  have h1 : ¬ (-1 : Int) > 0 := by omega
  rw [if_neg h1, show (- -1 : Int) = 1 by decide, Int.ediv_one]
  split <;> omega
theorem sliceApplied_rev {sl : Addr} {vl vu vs : Value} {n : Nat} {Q : Int × Int × Nat → Shared → Prop} (hs : s.heap.IsSliceOf sl vl vu vs) (pl : IsPart vl none) (pu : IsPart vu none) (ps : IsPart vs (some (-1)))
    (h : Q ((n : Int) - 1, -1, n) s) : wpAny (model prog w) A (Builtin.Slice.sliceApplied (.ref sl) (pure (n : Int))) Q E s := by
  obtain ⟨os, hos, hcs, hds⟩ := id hs
  unfold Builtin.Slice.sliceApplied Builtin.Slice.sliceFields
  refine wpAny_bind (wpAny_bind (wpAny_field hos hds (x := vl) rfl (wpAny_bind (wpAny_field hos hds (x := vu) rfl (wpAny_bind (wpAny_field hos hds (x := vs) rfl (wpAny_pure ?_)))))))
  refine wpAny_bind (HT.slicePart_ ps ?_)
  show wpAny _ _ (if ((-1 : Int) == 0) = true then _ else _) _ _ s
  rw [if_neg (by decide)]
  refine wpAny_bind (HT.slicePart_ pl (wpAny_bind (HT.slicePart_ pu (wpAny_bind (wpAny_pure ?_)))))
  show wpAny _ _ (match Builtin.Slice.sliceAdjust none none (-1) (n : Int) with | (lo, hi) => pure (lo, (-1 : Int), Builtin.Slice.slicePlaces lo hi (-1))) _ _ s
  rw [adjust_rev n]
  show wpAny _ _ (pure ((n : Int) - 1, (-1 : Int), Builtin.Slice.slicePlaces ((n : Int) - 1) (-1) (-1))) _ _ s
  rw [places_rev]
  exact wpAny_pure h
theorem pick_rev (xs : Array Value) : ((List.range xs.size).filterMap fun (m : Nat) => xs[(((xs.size : Int) - 1) + (m : Int) * (-1)).toNat]?).toArray = xs.toList.reverse.toArray := by
  have e : (List.range xs.size).filterMap (fun (m : Nat) => xs[(((xs.size : Int) - 1) + (m : Int) * (-1)).toNat]?) = ((List.range xs.size).map fun k => xs.size - 1 - k).filterMap (xs[·]?) := by
    rw [List.filterMap_map]
    have fc : ∀ (l : List Nat) (f g : Nat → Option Value), (∀ m ∈ l, f m = g m) → l.filterMap f = l.filterMap g := fun l f g hh => by
      induction l with
      | nil => rfl
      | cons m l ih => rw [List.filterMap_cons, List.filterMap_cons, hh m (List.mem_cons_self ..), ih fun k hk => hh k (List.mem_cons_of_mem _ hk)]
    refine fc _ _ _ fun m hm => ?_
    have := List.mem_range.mp hm
    have e : (((xs.size : Int) - 1) + (m : Int) * (-1)).toNat = xs.size - 1 - m := by omega
    rw [e]
    rfl
  rw [e, PySem.W.krv_range, List.filterMap_reverse, PySem.W.krv_all]
theorem getItem_tuple_rev {t sl : Addr} {items : Array Value} {vl vu vs : Value} {Q : Value → Shared → Prop} (ht : IsTup s.heap t items) (hs : s.heap.IsSliceOf sl vl vu vs) (pl : IsPart vl none) (pu : IsPart vu none) (ps : IsPart vs (some (-1)))
    (h : Q (.ref s.heap.objs.size) { s with heap := s.heap.push { cls := .type "tuple", data := .seq items.toList.reverse.toArray } })
    (hsz : items.size ≤ sizeLine) : wpAny (model prog w) A (getItem (.ref t) (.ref sl)) Q E s := by
  have htake : sizeOk (.seq items.toList.reverse.toArray) := by
    show items.toList.reverse.toArray.size ≤ sizeLine
    rw [List.size_toArray, List.length_reverse, Array.length_toList]
    exact hsz
  obtain ⟨os, hos, hcs, hds⟩ := id hs
  have hTs : s.TypeIs (.ref sl) "slice" := ⟨os, hos, hcs⟩
  unfold getItem
  try with_reducible refine wpAny_holding ?_
  first | refine wpAny_bind (wpAny_pure ?_) | skip
  refine wpAny_bind (wpAny_sequenceKey ht.typeIs (by decide) ?_)
  refine wpAny_bind (wpAny_callSpecial?_slot (name := Str.ofString "__getitem__") ht.typeIs PyProof.Rows.slot_tuple_getitem
    (wpAny_call_entry PyProof.Rows.slot_tuple_getitem ht.typeIs entry_tuple_getitem ?_ (args_tuple_getitem _ _)))
  show wpAny _ _ (Builtin.Tuple.tupleItemsOf (.ref t) >>= _) _ _ s
  refine wpAny_bind (tupleItemsOf_ ht ?_)
  refine wpAny_bind (wpAny_typeOf hTs ?_)
  rw [if_pos (by decide)]
  refine wpAny_bind (sliceApplied_rev hs pl pu ps ?_)
  have hno : ¬ ((((items.size : Int) - 1) == 0 && (-1 : Int) == 1 && items.size == items.size) = true) := by
    intro q
    rw [Bool.and_eq_true, Bool.and_eq_true] at q
    exact absurd q.1.2 (by decide)
  show wpAny _ _ (if (((items.size : Int) - 1) == 0 && (-1 : Int) == 1 && items.size == items.size) = true then _ else _) _ _ s
  rw [if_neg hno, pick_rev]
  first
    | exact wpAny_bind (m := Builtin.Tuple.tupleExact _) (wpAny_newObj_type (wpAny_pure ⟨_, rfl, wpAny_pure h⟩) htake)
    | exact wpAny_bind (m := Builtin.Tuple.tupleExact _) (wpAny_newObj_type (wpAny_bind (wpAny_pure (wpAny_pure ⟨_, rfl, wpAny_pure h⟩))) htake)
    | exact wpAny_bind (wpAny_bind (m := Builtin.Tuple.tupleExact _) (wpAny_newObj_type (wpAny_pure (wpAny_pure ⟨_, rfl, wpAny_pure h⟩)) htake))
    | exact wpAny_bind (wpAny_bind (m := Builtin.Tuple.tupleExact _) (wpAny_newObj_type (wpAny_pure ⟨_, rfl, wpAny_pure h⟩) htake))
end
theorem str_picks (n : Nat) : Builtin.Str.strSliceIndices none none (-1) n = (List.range n).reverse := by
  rw [← PySem.W.krv_range, ← PySem.W.krv_sliceRange]
  rfl
theorem revS_length {x : Str} : (revS x).length = x.length := by
  show (x.cps.toList.reverse.toArray).size = x.cps.size
  rw [List.size_toArray, List.length_reverse, Array.length_toList]
def tRevA (K : PySem.W.Frag) (te : TE) : TE := fun σ H Q => te σ H fun x H1 => (∃ a xs, x = .ref a ∧ SqL K H1 a xs ∧ ∀ p, H1 p = none → Q (.ref p) (upd H1 p (.lst xs.reverse)))
  ∨ ((∃ a xs, x = .ref a ∧ SqT K H1 a xs ∧ ∀ p, H1 p = none → Q (.ref p) (upd H1 p (.tup xs.reverse))) ∨ ∃ z, x = .str z ∧ z.length ≤ sizeLine ∧ Q (.str (revS z)) H1)
section
variable {X : Cx}
theorem pe_revA {e : Expr} {te : TE} {k : Nat} {p1 p2 p3 pos : Pos} (he : PE X e te) : PE X (.Subscript e (.Slice none none (some (.UnaryOp .USub (.Constant (.int 1) k p1) p2)) p3) pos) (tRevA X.K te) := by
  refine ⟨fun pins s σ H Q I h => ?_⟩
  refine Subscript_ (thn (he.run pins s σ H _ I h) fun v s1 ⟨x, H1, I1, r1, q1⟩ => ?_)
  have hst : PO X (some (.UnaryOp .USub (.Constant (.int 1) k p1) p2)) (tPart (tUn (rU fun i => .int (-i)) (tC (.int 1)))) := po_some (pe_un un_neg pe_int)
  refine wpAny_Slice (thn (po_none.run pins s1 σ H1 (fun o H2 => o = none ∧ H2 = H1) I1 ⟨rfl, rfl⟩) fun vl s2 ⟨l, H2, I2, pl, el, e2⟩ => ?_)
  subst el e2
  refine thn (po_none.run pins s2 σ H2 (fun o H3 => o = none ∧ H3 = H2) I2 ⟨rfl, rfl⟩) fun vu s3 ⟨u, H3, I3, pu, eu, e3⟩ => ?_
  subst eu e3
  refine thn (hst.run pins s3 σ H3 (fun o H4 => o = some (-1) ∧ H4 = H3) I3 ⟨1, rfl, -1, rfl, rfl, rfl⟩) fun vs s4 ⟨o, H4, I4, ps, eo, e4⟩ => ?_
  subst eo e4
  have I5 : Inv X pins σ H4 { s4 with heap := s4.heap.push { cls := .type "slice", data := .fields #[vl, vu, vs] } } := I4.kept (t' := s4.toks) fun b ob q => Heap.get?_push_of_some _ q
  show wpAny (model X.prog X.w) X.A (subscriptTail e (.Slice none none (some (.UnaryOp .USub (.Constant (.int 1) k p1) p2)) p3) v (.ref s4.heap.objs.size)) (EP X pins σ Q) X.xe { s4 with heap := s4.heap.push { cls := .type "slice", data := .fields #[vl, vu, vs] } }
  rcases q1 with ⟨a, xs, ex, hx, q⟩ | ⟨a, xs, ex, hx, q⟩ | ⟨z, ex, hz, q⟩
  · subst ex
    cases r1
    obtain ⟨its, r, ht, hz⟩ := I5.list hx
    have hlen := r.length
    refine tail_any (ops := [.ref a, .ref s4.heap.objs.size]) ht.isList.typeIs (PySem.slot_list_getitem.lookup) ?_ (by with_unfolding_all rfl)
    refine wpAny_getItem_list_slice ht.isList (Heap.IsSliceOf.new _ vl vu vs) pl pu ps (by decide) ?_ (by rw [List.size_toArray]; omega)
    rw [PySem.W.krv_pick]
    refine ⟨.ref _, _, I5.laid (t' := s4.toks) (o := .lst xs.reverse) (fun b ob q => Heap.get?_push_of_some _ q) (Nat.le_refl _) ?_, rfl, q _ (I5.hok.fresh (Nat.le_refl _))⟩
    exact ⟨by rw [List.length_reverse]; exact hz, _, 0, r.reverse, Heap.get?_push_size _ rfl⟩
  · subst ex
    cases r1
    obtain ⟨its, r, ht, hz⟩ := I5.tuple hx
    have hlen := r.length
    refine tail_any (ops := [.ref a, .ref s4.heap.objs.size]) ht.typeIs PyProof.Rows.slot_tuple_getitem.lookup ?_ (by with_unfolding_all rfl)
    refine getItem_tuple_rev ht (Heap.IsSliceOf.new _ vl vu vs) pl pu ps ?_ (by rw [List.size_toArray]; omega)
    refine ⟨.ref _, _, I5.laid (t' := s4.toks) (o := .tup xs.reverse) (fun b ob q => Heap.get?_push_of_some _ q) (Nat.le_refl _) ?_, rfl, q _ (I5.hok.fresh (Nat.le_refl _))⟩
    exact ⟨by rw [List.length_reverse]; exact hz, _, r.reverse, IsTup.new _ _⟩
  · subst ex
    obtain ⟨t, rfl⟩ := r1
    refine tail_any (ops := [.str z t, .ref s4.heap.objs.size]) (typeIs_str _ _ _) F.slot_str_getitem.lookup ?_ (by with_unfolding_all rfl)
    cases ps with
    | int _ ti =>
      cases pl
      cases pu
      refine wpAny_getItem_str_slice (l := none) (u := none) (st := some (-1, ti)) ⟨_, Heap.get?_push_size _ rfl, rfl, rfl⟩ rfl ?_
      show Made.post (if ((-1 : Int) == 1 && (Builtin.Str.strSliceIndices none none (-1) z.length).length == z.length) = true then Made.val (.str z t)
        else Made.str ⟨((Builtin.Str.strSliceIndices none none (-1) z.length).filterMap (z.cps[·]?)).toArray⟩) (EP X pins σ Q) _
      have ne : ¬ ((-1 : Int) == 1 && (Builtin.Str.strSliceIndices none none (-1) z.length).length == z.length) = true := by
        rw [show ((-1 : Int) == 1) = false from rfl, Bool.false_and]
        exact Bool.false_ne_true
      have e : (⟨((Builtin.Str.strSliceIndices none none (-1) z.length).filterMap (z.cps[·]?)).toArray⟩ : Str) = revS z := by
        rw [str_picks, List.filterMap_reverse]
        have := PySem.W.krv_all z.cps
        unfold revS
        rw [← this]
        rfl
      rw [if_neg ne, e]
      exact ⟨by rw [revS_length]; exact hz, .str _, H4, I5.tok _, ⟨_, rfl⟩, q⟩
variable {B : By} {W : WX} {e : Expr} {te : TE} {Fe : DL.Env → Out D} {k : Nat} {p1 p2 p3 pos : Pos}
theorem sat_rev {K : PySem.W.Frag} {R : Rep D V} [Back R] {kk : Res → DL.Env → Out D} {t : TE} {F : DL.Env → Out D} (hk : ∀ {b : Bs} {G H : Hp} {ω : Lb} {σ : L2.St} {ρ : DL.Env} {Q : VK} {r : Res}, Rel K b B G H ω σ ρ → Post K B W b G H ω σ R Q (kk r ρ) → PostR K G H Q r)
    (h : Sat K B W (IsR K) t F) : Sat K B W R (tRevA K t) (fun ρ => (F ρ).bind fun a ρ1 => kk (revD a) ρ1) :=
  Sat.bind (R' := R) (Fu := fun a ρ1 => kk (revD a) ρ1) (t := t) (u := fun x σ H Q => (∃ a xs, x = .ref a ∧ SqL K H a xs ∧ ∀ p, H p = none → Q (.ref p) (upd H p (.lst xs.reverse)))
    ∨ ((∃ a xs, x = .ref a ∧ SqT K H a xs ∧ ∀ p, H p = none → Q (.ref p) (upd H p (.tup xs.reverse))) ∨ ∃ z, x = .str z ∧ z.length ≤ sizeLine ∧ Q (.str (revS z)) H)) h fun b Hs ωs G H ω σ ρ rel x a i Q post => by
    have p := hk rel post
    cases i <;> first
      | exact p.elim
      | skip
    · rename_i z
      have p : PostR K G H Q (if z.length ≤ sizeLine then .val (.str (revS z)) else .no) := p
      split at p
      · rename_i hz
        exact .inr (.inr ⟨z, rfl, hz, p.here rel.le (.str _)⟩)
      · exact p.elim
    · rename_i l xs ds hs ha
      have p : PostR K G H Q (.val (.tup ds.reverse)) := p
      exact .inr (.inl ⟨_, xs, rfl, sq_tup rel.le hs, fun q hq => p _ (upd G q (.tup xs.reverse)) _ (Step.new rel.le hq) (same_both rel.le) (.tup (.inl upd_same) ((isAll_rev ha).mono (same_upd (same_none rel.le hq))))⟩)
    · rename_i l xs ds hr hi
      exact .inl ⟨l, xs, rfl, .inl (same_rd rel.le hr), fun q hq => p q _ hq (isAll_rev hi)⟩
def fRev (k : Res → DL.Env → Out D) (F : DL.Env → Out D) : DL.Env → Out D := fun ρ => (F ρ).bind fun a ρ1 => k (revD a) ρ1
theorem d_revL (h : DE X B W e te Fe) : DE X B W (.Subscript e (.Slice none none (some (.UnaryOp .USub (.Constant (.int 1) k p1) p2)) p3) pos) (tRevA X.K te) (fRev resE Fe) := ⟨pe_revA h.pe, sat_rev res_e h.sat⟩
theorem o_revL (h : DE X B W e te Fe) : DO X B W (.Subscript e (.Slice none none (some (.UnaryOp .USub (.Constant (.int 1) k p1) p2)) p3) pos) (tRevA X.K te) (fRev resO Fe) := ⟨pe_revA h.pe, sat_rev res_o h.sat⟩
end
end DL
set_option Elab.async false
set_option linter.all false
set_option maxRecDepth 100000
set_option maxHeartbeats 1000000
namespace DL
open PySem PySem.Spec PyProof.Rows L2 RZ

/-! ### zip -/
def zipD (ds es : List D) : List D := (ds.zip es).map fun p => D.tup [p.1, p.2]
theorem zipD_length {ds es : List D} : (zipD ds es).length = min ds.length es.length := by unfold zipD; rw [List.length_map, List.length_zip]
theorem zipD_get {ds es : List D} {i : Nat} {d e : D} (h1 : ds[i]? = some d) (h2 : es[i]? = some e) : (zipD ds es)[i]? = some (.tup [d, e]) := by
  unfold zipD
  have z : (ds.zip es)[i]? = some (d, e) := List.getElem?_zip_eq_some.mpr ⟨h1, h2⟩
  rw [List.getElem?_map, z]
  rfl
section
variable {K : PySem.W.Frag} {G : Hp}
theorem yld_pair {H' : Hp} {G' H : Hp} {T : Addr} {x y : V} {d e : D} (le : Same G' H) (hT : H T = none) (i1 : Is K G' x d) (i2 : Is K G' y e) :
    ∃ G2, Step G' H G2 (upd H T (.tup [x, y])) ∧ Same G2 (upd H T (.tup [x, y])) ∧ Is K G2 (.ref T) (.tup [d, e]) := by
  have st := Step.new (o := .tup [x, y]) le hT
  exact ⟨_, st, same_both le, .tup (.inl upd_same) (.cons (i1.mono st.g) (.cons (i2.mono st.g) .nil))⟩
theorem yld_zipL {a b : Addr} {xs ys : List V} {ds es : List D} (h1 : Rd G a (.lst xs)) (h2 : Rd G b (.lst ys)) (i1 : IsAll K G xs ds) (i2 : IsAll K G ys es) : Yld K G (Itz K a b) (zipD ds es) where
  go := fun i G' H s le hi => by
    rw [zipD_length] at hi
    have l1 := i1.length
    have l2 := i2.length
    exact ⟨xs, ys, xs[i], ys[i], .inl (same_rd (s.trans le) h1), .inl (same_rd (s.trans le) h2), by simp [show i < xs.length by omega], by simp [show i < ys.length by omega]⟩
  stop := fun i G' H s le hi => by
    rw [zipD_length] at hi
    have l1 := i1.length
    have l2 := i2.length
    exact ⟨xs, ys, .inl (same_rd (s.trans le) h1), .inl (same_rd (s.trans le) h2), by omega⟩
  yld := fun i G' H x H' s le hi y => by
    obtain ⟨T, u, v, rfl, hT, rfl, f1, f2⟩ := y
    obtain ⟨d, d1, d2⟩ := i1.get (f1 xs (.inl (same_rd (s.trans le) h1)))
    obtain ⟨e, e1, e2⟩ := i2.get (f2 ys (.inl (same_rd (s.trans le) h2)))
    obtain ⟨G2, g1, g2, g3⟩ := yld_pair (K := K) (H' := H) le hT (d2.mono s) (e2.mono s)
    exact ⟨_, zipD_get d1 e1, G2, g1, g2, g3⟩
theorem yld_zipT {a b : Addr} {xs ys : List V} {ds es : List D} (h1 : TupAt K G a xs) (h2 : TupAt K G b ys) (i1 : IsAll K G xs ds) (i2 : IsAll K G ys es) : Yld K G (ItzT K a b) (zipD ds es) where
  go := fun i G' H s le hi => by
    rw [zipD_length] at hi
    have l1 := i1.length
    have l2 := i2.length
    exact ⟨xs, ys, xs[i], ys[i], sq_tup (s.trans le) h1, sq_tup (s.trans le) h2, by simp [show i < xs.length by omega], by simp [show i < ys.length by omega]⟩
  stop := fun i G' H s le hi => by
    rw [zipD_length] at hi
    have l1 := i1.length
    have l2 := i2.length
    exact ⟨xs, ys, sq_tup (s.trans le) h1, sq_tup (s.trans le) h2, by omega⟩
  yld := fun i G' H x H' s le hi y => by
    obtain ⟨T, u, v, rfl, hT, rfl, f1, f2⟩ := y
    obtain ⟨d, d1, d2⟩ := i1.get (f1 xs (sq_tup (s.trans le) h1))
    obtain ⟨e, e1, e2⟩ := i2.get (f2 ys (sq_tup (s.trans le) h2))
    obtain ⟨G2, g1, g2, g3⟩ := yld_pair (K := K) (H' := H) le hT (d2.mono s) (e2.mono s)
    exact ⟨_, zipD_get d1 e1, G2, g1, g2, g3⟩
end
def zip2 (as : List D) (ρ1 : DL.Env) : Out (List D) := match as with
  | [.lst _ ds, .lst _ es] => .ok (zipD ds es) ρ1 true
  | [.tup ds, .tup es] => .ok (zipD ds es) ρ1 true
  | _ => .no
def fZip (F : DL.Env → Out (List D)) : DL.Env → Out (List D) := fun ρ => (F ρ).bind zip2
theorem si_zip {K : PySem.W.Frag} {B : By} {W : WX} {t : TA} {F : DL.Env → Out (List D)} (h : Sat K B W (IsAR K) t F) : Sat K B W (YldR K) (iZipA K t) (fZip F) :=
  Sat.bind (R' := YldR K) (Fu := zip2) (t := t) (u := fun vs σ H R => ∃ a b xs ys, vs = [.ref a, .ref b] ∧ ((SqL K H a xs ∧ SqL K H b ys ∧ R (Itz K a b) H) ∨ (SqT K H a xs ∧ SqT K H b ys ∧ R (ItzT K a b) H))) h fun b Hs ωs G H ω σ ρ rel x a i Q post => by
    unfold zip2 at post
    split at post
    · cases i with
      | cons i1 i =>
        cases i with
        | cons i2 i =>
          cases i
          cases i1 with
          | lst r1 a1 =>
            cases i2 with
            | lst r2 a2 => exact ⟨_, _, _, _, rfl, .inl ⟨.inl (same_rd rel.le r1), .inl (same_rd rel.le r2), Post.now rel post (yld_zipL r1 r2 a1 a2)⟩⟩
    · cases i with
      | cons i1 i =>
        cases i with
        | cons i2 i =>
          cases i
          cases i1 with
          | tup r1 a1 =>
            cases i2 with
            | tup r2 a2 => exact ⟨_, _, _, _, rfl, .inr ⟨sq_tup rel.le r1, sq_tup rel.le r2, Post.now rel post (yld_zipT r1 r2 a1 a2)⟩⟩
    · exact post.elim
theorem di_zip {X : Cx} {B : By} {W : WX} {e e2 : Expr} {ta : TA} {F : DL.Env → Out (List D)} {p pos tpos : Pos} {elts : List Expr} {kk : Nat} (hg : Gl X "zip") (hm : X.mg "zip" = none) (ha : DA X B W [e, e2] ta F)
    (hs : starEach [e, e2] X.env = (false, eval e X.env) :: starEach [e2] X.env := by rfl) (hpl : (backTo pos (starEach [e2] X.env)).any (·.1) = false := by rfl) :
    DI X B W (.Tuple elts kk tpos) (.Call (.Name "zip" p) [e, e2] [] pos) (iZipA X.K ta) (fZip F) := ⟨pi_zipA hg hm ha.pa hs hpl, si_zip ha.sat⟩
end DL
namespace DL
open PySem PySem.Spec PyProof.Rows L2 RZ
/-! ### divmod by a larger number -/
def divmodW : List D → Res
  | [.int i, .int j] => if 0 < j ∧ j.natAbs.log2 < 9000 then .val (.tup [.int (i / j), .int (i % j)]) else .no
  | _ => .no
theorem divmodW_v {K : PySem.W.Frag} : CallV K (fun xs H Q => ∃ i j, xs = [.int i, .int j] ∧ CDivP i j ∧ ∀ p, H p = none → Q (.ref p) (upd H p (.tup [.int (i / j), .int (i % j)]))) divmodW := by
  refine call2i (fun G H i j le Q post => ?_) fun as h => ?_
  · have p : PostR K G H Q (if 0 < j ∧ j.natAbs.log2 < 9000 then .val (.tup [.int (i / j), .int (i % j)]) else .no) := post
    split at p
    · rename_i hz
      refine ⟨i, j, rfl, ⟨hz.1, PyProof.noPylong_of_log2 hz.2⟩, fun l hl => p _ (upd G l (.tup [.int (i / j), .int (i % j)])) _ (Step.new le hl) (same_both le) ?_⟩
      exact .tup (.inl upd_same) (.cons (.int _) (.cons (.int _) .nil))
    · exact p.elim
  · unfold divmodW
    split
    · rename_i i j
      exact absurd rfl (h i j)
    · rfl
end DL
set_option Elab.async false
set_option linter.all false
set_option maxRecDepth 100000
set_option maxHeartbeats 1000000
/-! enumerate over a tuple, as over a list. -/
namespace DL
open PySem PySem.Spec PyProof.Rows L2
open PySem.Sem (wp)
def enumT (l : Addr) : Obj := { cls := .type "tuple_iterator", data := .fields #[.ref l, .int 0 0] }
def enumE (it : Addr) : Obj := { cls := .type "enumerate", data := .fields #[.none, .bool false, .ref it, rawInt 0, .none, .none] }
theorem meets_enumT (l : Addr) (items : Array Value) (n : Nat) (dct : Option Addr) (sl : Array (Option Value)) :
    Meets (Builtin.«enumerate.__new__» ⟨[.type "enumerate", .ref l], []⟩) (fun _ R s => s.heap.get? l = some { cls := .type "tuple", dict := dct, data := .seq items n, slots := sl } ∧
      R (.ok (.ret (.ref (s.heap.push (enumT l)).objs.size))) { s with heap := (s.heap.push (enumT l)).push (enumE s.heap.objs.size) }) := by
  refine .of_wp fun prog w A R s h => ?_
  obtain ⟨hp, g, d, tk, os⟩ := s
  obtain ⟨hl, h⟩ := h
  have sub := sub_enumerate
  have hT : Heap.IsTuple (Shared.heap ⟨hp, g, d, tk, os⟩) l items := ⟨_, hl, rfl, n, rfl⟩
  have h' := h
  unfold enumT enumE at h'
  wp_walk using AutoSeq1.wpAny_loadPart' hl
  refine wpAny_stack_any fun st => wpAny_pure ?_
  split
  · rename_i c _ _ _ _ _
    cases (c == Value.type "enumerate") <;>
    · wp_walk using AutoSeq1.wpAny_loadPart' hl, wpAny_pyIter_tuple hT
      exact ⟨_, rfl, h'⟩
  · wp_walk using AutoSeq1.wpAny_loadPart' hl, wpAny_pyIter_tuple hT
    exact ⟨_, rfl, h'⟩
theorem call_enumT {prog : Program} {w : World} {A : Around} {E : Value → Shared → Prop} {s : Shared} {l : Addr} {items : Array Value} {Q : Value → Shared → Prop} (hT : s.heap.IsTuple l items)
    (h : ∀ h', IsEnum h' (s.heap.objs.size + 1) s.heap.objs.size 0 .none → h'.IsTupleIter s.heap.objs.size l 0 → (∀ b o, s.heap.get? b = some o → h'.get? b = some o) → Q (.ref (s.heap.objs.size + 1)) { s with heap := h' }) :
    wpAny (model prog w) A (call (.type "enumerate") [.ref l]) Q E s := by
  obtain ⟨⟨c, dct, dt, sl⟩, hl, hc, n, hd⟩ := hT
  obtain rfl : c = .type "tuple" := hc
  obtain rfl : dt = .seq items n := hd
  apply callType_new F.called_enumerate (by decide) (F.typeCall_enumerate_1 _) (F.newCall_enumerate_1 _) (fun obj => F.args_object_init_2 obj _) F.entry_enumerate_new (meets_enumT l items n dct sl)
  refine ⟨hl, ?_⟩
  have hz : (s.heap.push (enumT l)).objs.size = s.heap.objs.size + 1 := Heap.size_push ..
  have he : IsEnum ((s.heap.push (enumT l)).push (enumE s.heap.objs.size)) (s.heap.objs.size + 1) s.heap.objs.size 0 .none := by
    have q := Heap.get?_push_size (s.heap.push (enumT l)) (o := enumE s.heap.objs.size) rfl
    rw [hz] at q
    exact q
  show _ ∧ _
  rw [hz]
  exact ⟨⟨_, he, rfl⟩, h _ he ⟨_, Heap.get?_push_of_some _ (Heap.get?_push_size _ rfl), rfl, rfl⟩ fun b o x => Heap.get?_push_of_some _ (Heap.get?_push_of_some _ x)⟩
theorem draws_tuple {prog : Program} {w : World} {A : Around} (hh : A.handled = none) (it l : Addr) (hne : l ≠ it) (items : Array Value) :
    Draws prog w A it [it, l] items.size (fun i v => items[i]? = some v) (fun i h => h.IsTupleIter it l i ∧ h.IsTuple l items) where
  live := by
    rintro i h ⟨⟨o, ho, _⟩, _⟩
    exact ⟨o, ho⟩
  frame := by
    rintro i h h' ⟨a, o, b1, b2⟩ hk
    exact ⟨a.at fun o e => hk it (by simp) o e, o, hk l (by simp) _ b1, b2⟩
  item := by
    intro i s Q E hi st hQ
    refine RZ.nextOf_tuple_item st.1 st.2 (x := items[i]) (by simp [hi]) fun h' hit' hs' => ?_
    obtain ⟨o, b1, b2⟩ := st.2
    exact hQ _ h' s.toks (by simp [hi]) ⟨hit', o, hs'.extBut l o hne b1, b2⟩ hs'
  done := fun s Q E st hE => RZ.nextOf_tuple_end hh st.1 st.2 (by simp) hE
def IteT (K : PySem.W.Frag) (a : Addr) : It :=
  ⟨fun i H => ∃ (xs : List V) (x : V), SqT K H a xs ∧ xs[i]? = some x, fun i H v H' => ∃ T x, v = .ref T ∧ H T = none ∧ H' = L2.upd H T (.tup [.int (i : Nat), x]) ∧ ∀ xs, SqT K H a xs → xs[i]? = some x, fun i H => ∃ xs : List V, SqT K H a xs ∧ xs.length ≤ i⟩

theorem enumT_end {prog : Program} {w : World} {A : Around} {E : Value → Shared → Prop} {s : Shared} {e it l : Addr} {i : Nat} {k : Int} {items : Array Value} {old : Value} {Q : Option Value → Shared → Prop} (hh : A.handled = none) (he : IsEnum s.heap e it k old) (hit : s.heap.IsTupleIter it l i) (hl : s.heap.IsTuple l items) (hx : items[i]? = none)
    (hQ : ∀ h', Heap.ExtBut it s.heap h' → Q none { s with heap := h' }) : wpAny (model prog w) A (pyNext (.ref e)) Q E s := by
  have D : Draws prog w A.in1 it [it, l] i (fun _ _ => True) (fun j h => j = i ∧ h.IsTupleIter it l i ∧ h.IsTuple l items) := by
    refine ⟨?_, ?_, ?_, ?_⟩
    · rintro j h ⟨_, ⟨o, ho, _⟩, _⟩
      exact ⟨o, ho⟩
    · rintro j h h' ⟨ej, a, o, b1, b2⟩ hk
      exact ⟨ej, a.at fun o e => hk it (by simp) o e, o, hk l (by simp) _ b1, b2⟩
    · rintro j s Q E hj ⟨ej, _⟩ _
      omega
    · rintro s Q E ⟨_, a, b⟩ hE
      exact RZ.nextOf_tuple_end (A := A.in1) hh a b hx hE
  exact wpAny_pyNext_enum_endD D he ⟨rfl, hit, hl⟩ hQ
theorem turn_enumT {P : Program} {w : World} {K : PySem.W.Frag} {elts : List Expr} {kk : Nat} {tpos : Pos} (a e it : Addr) :
    Turn P w K (.Tuple elts kk tpos) (IteT K a) [e, it] e (fun i h => (∃ old, IsEnum h e it ((i : Nat) : Int) old) ∧ h.IsTupleIter it a i ∧ e ≠ it ∧ a ≠ it ∧ a ≠ e) where
  mem := by simp
  obj := by
    rintro i h ⟨⟨old, he⟩, ⟨o, ho, hc, hd⟩, _⟩ b hb
    rcases (show b = e ∨ b = it by simpa using hb) with z | z
    · subst z; exact ⟨_, he, fun v q => nomatch q⟩
    · subst z; exact ⟨o, ho, fun v q => by rw [hd] at q; cases q⟩
  keep := by
    rintro i h h' ⟨⟨old, he⟩, hi, hne⟩ k
    exact ⟨⟨old, k e (by simp) _ he⟩, hi.at fun o q => k it (by simp) o q, hne⟩
  item := by
    intro X hP hw hK hc i pins s σ H E I hf st hg
    subst hP hw hK
    obtain ⟨⟨old, he⟩, hit, hne, hai, hae⟩ := st
    obtain ⟨xs, x, hq, hx⟩ := hg
    obtain ⟨its, rv, p, hz⟩ := I.tuple hq
    obtain ⟨u, hu, ru⟩ := rv.get hx
    have hel : e < s.heap.objs.size := Heap.lt_size he
    have hil : it < s.heap.objs.size := by obtain ⟨_, q, _⟩ := hit; exact Heap.lt_size q
    have D := draws_tuple (prog := X.prog) (w := X.w) (A := X.A.in1) (I.ok.hd hc) it a hai its.toArray
    have hi : i < its.toArray.size := by
      have := (List.getElem?_eq_some_iff.mp hu).1
      simpa using this
    refine wpAny_pyNext_enum_itemD D he ⟨hit, p⟩ hi hne (by simp [hne, Ne.symm hae]) fun y h' tk hy ho hst hT hsz hk => ?_
    obtain rfl : y = u := by
      have : its.toArray[i]? = some u := by simpa using hu
      rw [this] at hy
      exact (Option.some.inj hy).symm
    refine ⟨_, rfl, wpAny_letOwnedTupleGo_enum (s := { s with heap := h', toks := tk + 1 }) ho fun h2 he' sb => ?_⟩
    have hT2 : h2.get? s.heap.objs.size = some { cls := .type "tuple", data := .seq #[.int i tk, y] } := (sb.2 _ (Nat.ne_of_gt hel)).trans hT
    have new : ObjOk X.prog X.w (L2.upd H s.heap.objs.size (.tup [.int (i : Nat), x])) h2 s.heap.objs.size (.tup [.int (i : Nat), x]) :=
      ⟨by show 2 ≤ sizeLine; decide, [.int i tk, y], .cons ⟨_, rfl⟩ (.cons ru .nil), ⟨_, hT2, rfl, _, rfl⟩⟩
    have I1 : Inv X pins σ (L2.upd H s.heap.objs.size (.tup [.int (i : Nat), x])) { s with heap := h2, toks := tk + 1 } :=
      I.turnedNew (ch := [e, it]) (fun b ob hb q => (sb.2 b (fun z => hb (by simp [z]))).trans (hk b ob (fun z => hb (by simp [z])) (fun z => hb (by simp [z])) q)) hf (Nat.le_refl _) new
    refine ⟨.ref s.heap.objs.size, _, I1, rfl, ⟨_, x, rfl, I.hok.fresh (Nat.le_refl _), rfl, fun ys hy => by rw [I.tuple_inj hy hq]; exact hx⟩, ⟨⟨y, ?_⟩, hst.1.at fun o q => (sb.2 it (Ne.symm hne)).trans q, hne, hai, hae⟩, fun b hb => ?_⟩
    · rw [show ((i + 1 : Nat) : Int) = (i : Int) + 1 by omega]
      exact he'
    · have hb' : b < s.heap.objs.size := by
        rcases (show b = e ∨ b = it by simpa using hb) with z | z
        · rw [z]; exact hel
        · rw [z]; exact hil
      rw [upd_ne (Nat.ne_of_lt hb')]
      exact (hf b hb).1
  done := by
    intro X hP hw hK hc i pins s σ H E I hf st hg
    subst hP hw hK
    obtain ⟨⟨old, he⟩, hit, hne, hai, hae⟩ := st
    obtain ⟨xs, hq, hx⟩ := hg
    obtain ⟨its, rv, p, hz⟩ := I.tuple hq
    obtain ⟨f0, f1, f2, f3, f4, f5⟩ := hf it (by simp)
    have hl := rv.length
    exact enumT_end (I.ok.hd hc) he hit p (by simp; omega) fun h' eb => ⟨rfl, I.turned (t' := s.toks) (fun b o hb q => eb b o hb q) f0 f1 f3 f4 f5⟩
  self := fun A i s Q E st h => let ⟨⟨_, he⟩, _⟩ := st; wpAny_pyIter_enum he h

def iEnumA (K : PySem.W.Frag) (ta : TA) : TI := fun σ H R => ta σ H fun vs H1 => ∃ a xs, vs = [.ref a] ∧ ((SqL K H1 a xs ∧ R (Ite K a) H1) ∨ (SqT K H1 a xs ∧ R (IteT K a) H1))
theorem pi_enumA {X : Cx} {e : Expr} {ta : TA} {p pos tpos : Pos} {elts : List Expr} {kk : Nat} (hg : Gl X "enumerate") (hm : X.mg "enumerate" = none) (ha : PA X [e] ta) (hs : starEach [e] X.env = [(false, eval e X.env)] := by rfl) :
    PI X (.Tuple elts kk tpos) (.Call (.Name "enumerate" p) [e] [] pos) (iEnumA X.K ta) := by
  refine ⟨fun pins s σ H R I h => ?_⟩
  refine Call_ (ld_blt I hg hm boot_enumerate (PyProof.Rows.callWith_type1 (thn (ha.run pos pins s σ H _ I h) ?_) hs rfl))
  rintro us s1 ⟨vs, H1, I1, r1, a, xs, ex, q⟩
  subst ex
  cases r1 with
  | cons r rr =>
    cases rr
    cases r
    have fresh : ∀ b ∈ [s1.heap.objs.size + 1, s1.heap.objs.size], s1.heap.objs.size ≤ b := fun b hb => by
      rcases (show b = s1.heap.objs.size + 1 ∨ b = s1.heap.objs.size by simpa using hb) with z | z <;> omega
    rcases q with ⟨hq, q⟩ | ⟨hq, q⟩
    · obtain ⟨its, rv, p', hz⟩ := I1.list hq
      refine call_enumerate_list p'.isList fun h' he hit hsz hk => wpAny_pyIter_enum he ?_
      have I2 : Inv X pins σ H1 { s1 with heap := h' } := I1.kept (t' := s1.toks) hk
      exact ⟨s1.heap.objs.size + 1, [s1.heap.objs.size + 1, s1.heap.objs.size], _, _, H1, rfl, I2, turn_enum a (s1.heap.objs.size + 1) s1.heap.objs.size, ⟨⟨.none, he⟩, hit, Nat.succ_ne_self _⟩, fun b hb => I1.fpOk (fresh b hb) (I1.hok.fresh (fresh b hb)), q⟩
    · obtain ⟨its, rv, p', hz⟩ := I1.tuple hq
      have hal : a < s1.heap.objs.size := by
        obtain ⟨o, ho, _⟩ := p'
        exact Heap.lt_size ho
      refine call_enumT p' fun h' he hit hk => wpAny_pyIter_enum he ?_
      have I2 : Inv X pins σ H1 { s1 with heap := h' } := I1.kept (t' := s1.toks) hk
      exact ⟨s1.heap.objs.size + 1, [s1.heap.objs.size + 1, s1.heap.objs.size], _, _, H1, rfl, I2, turn_enumT a (s1.heap.objs.size + 1) s1.heap.objs.size, ⟨⟨.none, he⟩, hit, Nat.succ_ne_self _, Nat.ne_of_lt hal, Nat.ne_of_lt (Nat.lt_succ_of_lt hal)⟩, fun b hb => I1.fpOk (fresh b hb) (I1.hok.fresh (fresh b hb)), q⟩
/-! ### enumerate, by data -/
def enumD (ds : List D) : List D := (ds.zipIdx).map fun p => D.tup [.int (p.2 : Nat), p.1]
theorem enumD_length {ds : List D} : (enumD ds).length = ds.length := by unfold enumD; rw [List.length_map, List.length_zipIdx]
theorem enumD_get {ds : List D} {i : Nat} {d : D} (h : ds[i]? = some d) : (enumD ds)[i]? = some (.tup [.int (i : Nat), d]) := by
  unfold enumD
  rw [List.getElem?_map, List.getElem?_zipIdx, h]
  simp
section
variable {K : PySem.W.Frag} {G : Hp}
theorem yld_enumL {a : Addr} {xs : List V} {ds : List D} (h1 : Rd G a (.lst xs)) (i1 : IsAll K G xs ds) : Yld K G (Ite K a) (enumD ds) where
  go := fun i G' H s le hi => by
    rw [enumD_length] at hi
    have l1 := i1.length
    exact ⟨xs, xs[i], .inl (same_rd (s.trans le) h1), by simp [show i < xs.length by omega]⟩
  stop := fun i G' H s le hi => by
    rw [enumD_length] at hi
    have l1 := i1.length
    exact ⟨xs, .inl (same_rd (s.trans le) h1), by omega⟩
  yld := fun i G' H x H' s le hi y => by
    obtain ⟨T, u, rfl, hT, rfl, f1⟩ := y
    obtain ⟨d, d1, d2⟩ := i1.get (f1 xs (.inl (same_rd (s.trans le) h1)))
    obtain ⟨G2, g1, g2, g3⟩ := yld_pair (K := K) (H' := H) le hT (.int (i : Nat)) (d2.mono s)
    exact ⟨_, enumD_get d1, G2, g1, g2, g3⟩
theorem yld_enumT {a : Addr} {xs : List V} {ds : List D} (h1 : TupAt K G a xs) (i1 : IsAll K G xs ds) : Yld K G (IteT K a) (enumD ds) where
  go := fun i G' H s le hi => by
    rw [enumD_length] at hi
    have l1 := i1.length
    exact ⟨xs, xs[i], sq_tup (s.trans le) h1, by simp [show i < xs.length by omega]⟩
  stop := fun i G' H s le hi => by
    rw [enumD_length] at hi
    have l1 := i1.length
    exact ⟨xs, sq_tup (s.trans le) h1, by omega⟩
  yld := fun i G' H x H' s le hi y => by
    obtain ⟨T, u, rfl, hT, rfl, f1⟩ := y
    obtain ⟨d, d1, d2⟩ := i1.get (f1 xs (sq_tup (s.trans le) h1))
    obtain ⟨G2, g1, g2, g3⟩ := yld_pair (K := K) (H' := H) le hT (.int (i : Nat)) (d2.mono s)
    exact ⟨_, enumD_get d1, G2, g1, g2, g3⟩
end
def enum1 (as : List D) (ρ1 : DL.Env) : Out (List D) := match as with
  | [.lst _ ds] => .ok (enumD ds) ρ1 true
  | [.tup ds] => .ok (enumD ds) ρ1 true
  | _ => .no
def fEnum (F : DL.Env → Out (List D)) : DL.Env → Out (List D) := fun ρ => (F ρ).bind enum1
theorem si_enum {K : PySem.W.Frag} {B : By} {W : WX} {t : TA} {F : DL.Env → Out (List D)} (h : Sat K B W (IsAR K) t F) : Sat K B W (YldR K) (iEnumA K t) (fEnum F) :=
  Sat.bind (R' := YldR K) (Fu := enum1) (t := t) (u := fun vs σ H R => ∃ a xs, vs = [.ref a] ∧ ((SqL K H a xs ∧ R (Ite K a) H) ∨ (SqT K H a xs ∧ R (IteT K a) H))) h fun b Hs ωs G H ω σ ρ rel x a i Q post => by
    unfold enum1 at post
    split at post
    · cases i with
      | cons i1 i =>
        cases i
        cases i1 with
        | lst r1 a1 => exact ⟨_, _, rfl, .inl ⟨.inl (same_rd rel.le r1), Post.now rel post (yld_enumL r1 a1)⟩⟩
    · cases i with
      | cons i1 i =>
        cases i
        cases i1 with
        | tup r1 a1 => exact ⟨_, _, rfl, .inr ⟨sq_tup rel.le r1, Post.now rel post (yld_enumT r1 a1)⟩⟩
    · exact post.elim
theorem di_enum {X : Cx} {B : By} {W : WX} {e : Expr} {ta : TA} {F : DL.Env → Out (List D)} {p pos tpos : Pos} {elts : List Expr} {kk : Nat} (hg : Gl X "enumerate") (hm : X.mg "enumerate" = none) (ha : DA X B W [e] ta F)
    (hs : starEach [e] X.env = [(false, eval e X.env)] := by rfl) : DI X B W (.Tuple elts kk tpos) (.Call (.Name "enumerate" p) [e] [] pos) (iEnumA X.K ta) (fEnum F) := ⟨pi_enumA hg hm ha.pa hs, si_enum ha.sat⟩
end DL
set_option Elab.async false
set_option linter.all false
set_option maxRecDepth 100000
set_option maxHeartbeats 2000000
/-! Own exceptions over any of the built-in bases, with an __init__ that keeps its one argument in a field. -/
namespace DL
open PySem PySem.W PySem.Calls PyProof.Rows PySem.HandSPX
/-- the classes behind the own ones -/
def stripR : List Value → List Value
  | .ref _ :: r => stripR r
  | l => l
structure TailOk (tl : List Value) (B newId initId : String) (bmB : List Value) : Prop where
  F : ExcBaseFacts B newId initId bmB
  hB : tl.contains (.type B) = true
  hA : tl.contains (.type "AttributeError") = false
  hN : tl.contains (.type "NameError") = false
  hO : tl.contains (.type "object") = true
  ps : ∀ self, refuseLoop self "__setattr__" tl = pure ()
abbrev tlV : List Value := [.type "ValueError", .type "Exception", .type "BaseException", .type "object"]
abbrev tlK : List Value := [.type "KeyError", .type "LookupError", .type "Exception", .type "BaseException", .type "object"]
abbrev tlI : List Value := [.type "IndexError", .type "LookupError", .type "Exception", .type "BaseException", .type "object"]
abbrev tlL : List Value := [.type "LookupError", .type "Exception", .type "BaseException", .type "object"]
abbrev tlO : List Value := [.type "OverflowError", .type "ArithmeticError", .type "Exception", .type "BaseException", .type "object"]
abbrev tlR : List Value := [.type "RuntimeError", .type "Exception", .type "BaseException", .type "object"]
theorem tail_V : TailOk tlV "ValueError" "ValueError.__new__" "ValueError.__init__" tlV := ⟨F.excBase_ValueError, by decide +kernel, by decide +kernel, by decide +kernel, by decide +kernel, fun _ => by kernel_rfl⟩
theorem tail_I : TailOk tlI "IndexError" "IndexError.__new__" "IndexError.__init__" tlI := ⟨F.excBase_IndexError, by decide +kernel, by decide +kernel, by decide +kernel, by decide +kernel, fun _ => by kernel_rfl⟩
theorem tail_L : TailOk tlL "LookupError" "LookupError.__new__" "LookupError.__init__" tlL := ⟨F.excBase_LookupError, by decide +kernel, by decide +kernel, by decide +kernel, by decide +kernel, fun _ => by kernel_rfl⟩
theorem tail_K : TailOk tlK "LookupError" "LookupError.__new__" "LookupError.__init__" tlL := ⟨F.excBase_LookupError, by decide +kernel, by decide +kernel, by decide +kernel, by decide +kernel, fun _ => by kernel_rfl⟩
theorem tail_O : TailOk tlO "OverflowError" "OverflowError.__new__" "OverflowError.__init__" tlO := ⟨F.excBase_OverflowError, by decide +kernel, by decide +kernel, by decide +kernel, by decide +kernel, fun _ => by kernel_rfl⟩
theorem tail_R : TailOk tlR "RuntimeError" "RuntimeError.__new__" "RuntimeError.__init__" tlR := ⟨F.excBase_RuntimeError, by decide +kernel, by decide +kernel, by decide +kernel, by decide +kernel, fun _ => by kernel_rfl⟩
theorem strip_contains (x : String) : ∀ l : List Value, l.contains (.type x) = (stripR l).contains (.type x)
  | .ref c :: r => by
    rw [List.contains_cons, strip_contains x r]
    rfl
  | [] => rfl
  | .none :: _ => rfl
  | .ellipsis :: _ => rfl
  | .notImplemented :: _ => rfl
  | .bool _ :: _ => rfl
  | .int _ _ :: _ => rfl
  | .float _ _ :: _ => rfl
  | .str _ _ :: _ => rfl
  | .bytes _ _ :: _ => rfl
  | .type _ :: _ => rfl
  | .builtin _ :: _ => rfl
theorem strip_pass (self : Value) : ∀ l : List Value, refuseLoop self "__setattr__" (stripR l) = pure () → refuseLoop self "__setattr__" l = pure ()
  | .ref c :: r, h => by
    rw [refuseLoop_ref]
    exact strip_pass self r h
  | [], h => h
  | .none :: _, h => h
  | .ellipsis :: _, h => h
  | .notImplemented :: _, h => h
  | .bool _ :: _, h => h
  | .int _ _ :: _, h => h
  | .float _ _ :: _, h => h
  | .str _ _ :: _, h => h
  | .bytes _ _ :: _, h => h
  | .type _ :: _, h => h
  | .builtin _ :: _, h => h

section
variable {M : Model} {A : Around} {E : Value → Shared → Prop} {h : Heap} {g : Array GenState} {d : Drawn} {t : Nat} {os : OsState}
variable {nm q : Str} {C N : Addr} {bs bm bmB : List Value} {hdct : Bool} {sn : List Str} {sub : List Value} {ab : Bool} {col : Option Bool} {dd : Option Addr} {k0 k1 k2 k3 k5 : Option Value} {B newId initId : String}
theorem tail_has {x : String} {b : Bool} (hx : (stripR bm).contains (.type x) = b) : (Value.ref C :: bm).contains (.type x) = b := by
  rw [List.contains_cons, strip_contains x bm, hx]
  rfl
theorem new_check (T : TailOk (stripR bm) B newId initId bmB) {rest : List Value} {Q : Unit → Shared → Prop} (hC : h.get? C = some (excClassObj nm q C N bs bm hdct sn sub ab col dd k0 k1 k2 k3 k5 newId)) (hq : Q () ⟨h, g, d, t, os⟩) :
    wpAny M A (checkBuiltinCall newId ⟨.ref C :: rest, []⟩) Q E ⟨h, g, d, t, os⟩ := by
  have hb : (Value.ref C :: bm).contains (.type B) = true := tail_has T.hB
  have star := T.F.noStar
  simp only [checkBuiltinCall, T.F.newKind, T.F.newSplit, T.F.newRow]
  repeat (first | refine wpAny_loadPart_at hC ?_ | (refine wpAny_isSubtype_exc hC ?_; rw [hb]) | refine wpAny_staticBase_exc hC ?_ | refine wpAny_madeBy_exc hC ?_ | simp only [bne_self_eq_false, Bool.false_eq_true, if_false] | wp_step)
  exact hq
end
section
variable {prog : Program} {w : World} {A : Around} {E : Value → Shared → Prop} {R : Result → Shared → Prop} {h : Heap} {g : Array GenState} {d : Drawn} {t : Nat} {os : OsState}
variable {nm q : Str} {C N : Addr} {bs bm bmB : List Value} {hdct : Bool} {sn : List Str} {sub : List Value} {ab : Bool} {col : Option Bool} {dd : Option Addr} {k0 k1 k2 k3 k5 : Option Value} {B newId initId : String}
theorem new_run (T : TailOk (stripR bm) B newId initId bmB) {rest : List Value} (hC : h.get? C = some (excClassObj nm q C N bs bm hdct sn sub ab col dd k0 k1 k2 k3 k5 newId))
    (hq : R (.ok (.ret (.ref (h.objs.size + 1)))) ⟨(h.push (kdv_tup rest)).push (excO C h.objs.size), g, d, t, os⟩) (hrest : rest.length ≤ sizeLine) :
    codeAny (model prog w) A (.builtin newId ⟨.ref C :: rest, []⟩) R ⟨h, g, d, t, os⟩ := by
  have ends := T.F.ends
  have h1 : (Value.ref C :: bm).contains (.type B) = true := tail_has T.hB
  have h2 : (Value.ref C :: bm).contains (.type "AttributeError") = false := tail_has T.hA
  have h3 : (Value.ref C :: bm).contains (.type "NameError") = false := tail_has T.hN
  apply codeAny_builtinAt T.F.entry
  unfold Builtin.«BaseException.__new__»
  refine PySem.wpAt_bind ?_
  show PySem.wpAt _ _ _ (stack >>= _) _ _ _
  refine PySem.wpAt_bind (PySem.wpAt_stack fun p below => wpAt_of_wpAny ?_)
  wp_walk
  apply wpAt_of_wpAny
  rw [T.F.owner]
  repeat (first | with_reducible refine wpAny_madeHere_exc T.F.canon hC ?_ | with_reducible refine wpAny_loadPart_at hC ?_ | (with_reducible refine wpAny_isSubtype_exc hC ?_; first | rw [h1] | rw [h2] | rw [h3]) | wp_step)
  show R _ _
  rw [Heap.size_push]
  exact hq
theorem type_run (T : TailOk (stripR bm) B newId initId bmB) {rest : List Value} {fI : Addr} {Q : Fin → Shared → Prop} (hC : h.get? C = some (excClassObj nm q C N bs bm hdct sn sub ab col dd k0 k1 k2 k3 k5 newId))
    (hi : W.Looks (model prog w) h (typeLookup (.ref C) "__init__") (some (.ref fI))) (hb : ∀ self, W.Looks (model prog w) h (bindSpecial (.ref fI) self) (.ref fI, [self])) (hrest : rest.length ≤ sizeLine)
    (hq : codeAny (model prog w) A (.call (.ref fI) ⟨.ref (h.objs.size + 1) :: rest, []⟩)
      (fun r s' => match r with | .ok (.ret v) => v = .none ∧ Q (.done (.ret (.ref (h.objs.size + 1)))) s' | .ok _ => False | .error e => E e s') ⟨(h.push (kdv_tup rest)).push (excO C h.objs.size), g, d, t, os⟩) :
    wpAny (model prog w) A (Builtin.«type.__call__» ⟨.ref C :: rest, []⟩) Q E ⟨h, g, d, t, os⟩ := by
  repeat (first | with_reducible refine wpAny_loadPart_at hC ?_ | with_reducible refine wpAny_madeBy_exc hC ?_ | wp_step)
  apply codeAny_call_builtin_code (Code.quiet_builtin _ T.F.quiet) (new_check T hC ?_)
  refine new_run T hC ?_ hrest
  show wpAny _ _ _ _ _ _
  have kk : ∀ b o, h.get? b = some o → ((h.push (kdv_tup rest)).push (excO C h.objs.size)).get? b = some o := fun b o e => Heap.get?_push_of_some _ (Heap.get?_push_of_some _ e)
  have hCk := kk _ _ hC
  have here : ((h.push (kdv_tup rest)).push (excO C h.objs.size)).get? (h.objs.size + 1) = some (excO C h.objs.size) := by heap_get
  have self : (Value.ref C :: bm).contains (.ref C) = true := by simp
  have li := hi.keeps kk
  have lb := (hb (.ref (h.objs.size + 1))).keeps kk
  unfold isInstance
  repeat (first | with_reducible refine wpAny_loadPart_at here ?_ | (with_reducible refine wpAny_isSubtype_exc hCk ?_; rw [self]) | wp_step)
  show wpAny _ _ (typeLookup (.ref C) _) _ _ _
  refine li.at (wpAny_holding (wpAny_bind (lb.at ?_)))
  refine wpAny_bind (wpAny_call (codeAny_mono hq fun r s' z => ?_))
  rcases r with e | (v | _ | _ | _) <;> first | exact z | exact z.elim | skip
  obtain ⟨rfl, z⟩ := z
  first
    | exact wpAny_pure (wpAny_pure z)
    | (wp_walk; exact z)
theorem exc_call (T : TailOk (stripR bm) B newId initId bmB) {rest : List Value} {fI : Addr} (hC : h.get? C = some (excClassObj nm q C N bs bm hdct sn sub ab col dd k0 k1 k2 k3 k5 newId))
    (hi : W.Looks (model prog w) h (typeLookup (.ref C) "__init__") (some (.ref fI))) (hb : ∀ self, W.Looks (model prog w) h (bindSpecial (.ref fI) self) (.ref fI, [self])) (hrest : rest.length ≤ sizeLine)
    (hq : codeAny (model prog w) (A.under (.builtin "type.__call__" ⟨.ref C :: rest, []⟩)) (.call (.ref fI) ⟨.ref (h.objs.size + 1) :: rest, []⟩) (InitBack (h.objs.size + 1) R) ⟨(h.push (kdv_tup rest)).push (excO C h.objs.size), g, d, t, os⟩) :
    codeAny (model prog w) A (.call (.ref C) ⟨rest, []⟩) R ⟨h, g, d, t, os⟩ := by
  have f1 := tc_lookup
  have f2 := tc_bind (.ref C)
  have ty : (⟨h, g, d, t, os⟩ : Shared).TypeIs (.ref C) "type" := ⟨_, hC, rfl⟩
  apply codeAny_of_tree
  show wpAny _ _ (callAny (.ref C) _) _ _ _
  repeat (any_goals (first | assumption | with_reducible refine wpAny_loadPart_at hC ?_ | wp_step))
  refine ⟨rfl, codeAny_call_builtin_at (Code.quiet_builtin _ (by decide +kernel)) entry_typeCall (wpAny_check_type_call_sub hC (type_run T hC hi hb hrest ?_))⟩
  refine codeAny_mono hq fun r s' z => ?_
  rcases r with e | (v | _ | _ | _) <;> exact z
end
section
open Builtin Builtin.ObjectAttr
variable {prog : Program} {w : World} {A : Around} {E : Value → Shared → Prop} {R : Result → Shared → Prop} {hp : Heap} {g : Array GenState} {d : Drawn} {t : Nat} {os : OsState} {B newId initId : String} {bmB : List Value}
/-- self.name = v of an exception that has no dict yet -/
theorem exc_store {K : Frag} {name : Str} {tk : Tok} {v : Value} {x C : Addr} {fv : Array Value} {cd : ClassData} (T : TailOk (stripR cd.mro) B newId initId bmB)
    (X : K.In hp) (hx : hp.get? x = some { cls := .ref C, data := .fields fv }) (hcd : clsIn K C = some cd) (hh : cd.hasDict = true) (ha : findIn K (.ref C) name = some none)
    (hq : ∀ h' tk' dx, (∀ b o, b ≠ x → hp.get? b = some o → h'.get? b = some o) → hp.objs.size ≤ dx → dx ≠ x → h'.get? x = some { cls := .ref C, dict := some dx, data := .fields fv } →
      h'.Ns1 dx (fun y => if y = name then some v else none) → R (.ok (.ret .none)) ⟨h', g, d, tk', os⟩) :
    codeAny (model prog w) A (.call (.builtin "object.__setattr__") ⟨[.ref x, .str name tk, v], []⟩) R ⟨hp, g, d, t, os⟩ := by
  have I : InstAt hp x { cls := .ref C, data := .fields fv } C none := ⟨hx, rfl, rfl, trivial⟩
  have SF := F.store_object
  have ob : cd.mro.contains (.type "object") = true := (strip_contains "object" cd.mro).trans T.hO
  have ne : cd.mro.isEmpty = false := by
    cases e : cd.mro with
    | nil => rw [e] at ob; cases ob
    | cons _ _ => rfl
  have apart : x ≠ hp.objs.size := Nat.ne_of_lt (Heap.lt_size hx)
  have sub : W.Looks (model prog w) hp (isInstance (.ref x) (.type "object")) true := by
    refine I.type.andThen (looks_mroIn X ?_)
    unfold mroIn
    rw [hcd, Option.bind_some, if_neg (by rw [ne]; decide), ob]
  apply codeAny_call_builtin SF.slot.plain SF.entry
  apply @check_slot (model prog w) _ _ ⟨hp, g, d, t, os⟩ "object.__setattr__" "object" "__setattr__" (.ref x) [.str name tk, v] [] _ SF.kind SF.split sub (SF.args (.ref x) (.str name tk) v)
  have lm : W.Looks (model prog w) hp (mroOf (.ref C)) cd.mro := (looks_clsIn X hcd).andThen .now
  have ln : W.Looks (model prog w) hp (storeTaker? none) none := .now
  have lc : W.Looks (model prog w) hp (classData C) cd := looks_clsIn X hcd
  rw [osa_eq, refuse_eq]
  refine wpAny_bind (wpAny_bind (I.type.at (wpAny_bind (lm.at ?_))))
  rw [strip_pass _ _ (T.ps _)]
  refine wpAny_pure (wpAny_bind (I.type.at (wpAny_bind ((looks_findIn X ha).at (wpAny_bind (ln.at ?_))))))
  show wpAny _ _ (storeInOwnDict (.ref x) (.ref C) (.str name tk) name v false) _ _ _
  obtain ⟨nm, bs, mro, ns, qn, hd, sn, sb, ab, col, del⟩ := cd
  obtain rfl : hd = true := hh
  unfold storeInOwnDict ownDictForStores
  repeat (first | with_reducible refine store_in_new ?_ ?_ | with_reducible refine wpAny_loadPart_at hx ?_ | with_reducible refine lc.at ?_ | wp_step)
  · exact ⟨_, #[], _, (Heap.get?_update_ne _ _ _ _ apart.symm).trans (Heap.get?_push_at rfl rfl), rfl, fun e he => absurd he (by simp), fun _ => rfl⟩
  · intro h' tk' hn' hs
    have hxp : (hp.push { cls := .type "dict", data := .dict #[] }).get? x = some { cls := .ref C, data := .fields fv } := Heap.get?_push_of_some _ hx
    refine hq h' tk' hp.objs.size (fun b o hb ho => ?_) (Nat.le_refl _) apart.symm ?_ hn'
    · exact (hs.2 b (Nat.ne_of_lt (Heap.lt_size ho))).trans ((Heap.get?_update_ne _ _ _ _ hb).trans (Heap.get?_push_of_some _ ho))
    · exact (hs.2 x apart).trans (Heap.get?_update_self _ hxp rfl)
end
end DL
set_option Elab.async false
set_option linter.all false
set_option maxRecDepth 100000
set_option maxHeartbeats 2000000
/-! try with several except clauses, with and without a name. -/
namespace DL
open PySem PySem.Spec PyProof.Rows L2
abbrev HdTs := List (Value × Option Nat × (Addr → Value → Option Addr → TS))
/-- the ends of a suite whose name, in slot i, goes behind it -/
def endsN (D : Ends) : Option Nat → Ends
  | none => D
  | some i => { nx := fun σ H => D.nx (σ.set i none) H, rt := D.rt, bk := fun σ H => D.bk (σ.set i none) H, ct := fun σ H => D.ct (σ.set i none) H }
def setN (σ : L2.St) (a : Addr) : Option Nat → L2.St
  | none => σ
  | some i => σ.set i (some (.ref a))
def wClauses (K : PySem.W.Frag) (Wout : WX) (D : Ends) : HdTs → WX
  | [] => Wout
  | (c, o, ts) :: r => fun cls d σ H => ∃ b, PySem.W.exmOne K cls c = some b ∧ (b = true → ∀ a, H a = none → ts a cls d (endsN D o) (setN σ a o) H) ∧ (b = false → wClauses K Wout D r cls d σ H)
/-- the name of a clause -/
def NmOk (X : Cx) : Option Str → Option Nat → Prop
  | none, none => True
  | some n, some i => X.N.Nodup ∧ X.N[i]? = some n ∧ X.env.kindOf n = some .local
  | _, _ => False
inductive ClsOk (X : Cx) : List ExceptHandler → HdTs → Prop
  | nil : ClsOk X [] []
  | cons {x : Str} {nm : Option Str} {o : Option Nat} {c : Value} {ts : Addr → Value → Option Addr → TS} {b0 : Stmt} {suite : List Stmt} {np hp : Pos} {hds : List ExceptHandler} {l : HdTs} (hc : Names X x c) (hn : NmOk X nm o)
      (hs : ∀ (a : Addr) (oe : Obj) (cls : Value) (d : Option Addr) (pn : List (Addr × Obj)), Zc cls d oe → (∃ vs, oe.data = .fields vs) → PSs (X.suite a ((a, oe) :: pn)) (b0 :: suite) (ts a cls d)) (r : ClsOk X hds l) :
      ClsOk X (.ExceptHandler (some (.Name x np)) nm (b0 :: suite) hp :: hds) ((c, o, ts) :: l)
section
variable {X : Cx} {pins : List (Addr × Obj)}
/-- behind a suite: its name goes, the rest is as before -/
theorem suite_end {a : Addr} {q : Addr × Obj} {nm : Option Str} {o : Option Nat} {D : Ends} {f : Flow} {s6 : Shared} {pos : Pos} (ok : X.Ok) (hn : NmOk X nm o)
    (h : SP (X.suite a (q :: (X.pn ++ pins))) [] (endsN D o) f s6) :
    match nm with
    | none => SP X pins D f s6
    | some n => wpAny (model X.prog X.w) X.A (do bindName X.env n .none; unbindBehindTheSuite X.env n pos) (fun _ s7 => SP X pins D f s7) X.xe s6 := by
  match nm, o, hn with
  | none, none, _ =>
    match f, h with
    | .next, ⟨σ, H, S, z⟩ => exact ⟨σ, H, S.unsuite ok, z⟩
    | .brk, ⟨σ, H, S, z⟩ => exact ⟨σ, H, S.unsuite ok, z⟩
    | .cont, ⟨σ, H, S, z⟩ => exact ⟨σ, H, S.unsuite ok, z⟩
    | .ret u, ⟨v, σ, H, S, r, z⟩ => exact ⟨v, σ, H, S.unsuite ok, r, z⟩
  | some n, some i, ⟨nd, hi, hl⟩ =>
    match f, h with
    | .next, ⟨σ, H, S, z⟩ => exact gone_ok (S.unsuite ok) nd hi hl fun s7 J => ⟨_, _, J, z⟩
    | .brk, ⟨σ, H, S, z⟩ => exact gone_ok (S.unsuite ok) nd hi hl fun s7 J => ⟨_, _, J, z⟩
    | .cont, ⟨σ, H, S, z⟩ => exact gone_ok (S.unsuite ok) nd hi hl fun s7 J => ⟨_, _, J, z⟩
    | .ret u, ⟨v, σ, H, S, r, z⟩ => exact gone_ok (S.unsuite ok) nd hi hl fun s7 J => ⟨v, _, _, J, r, z⟩
theorem ps_clauses {body : List Stmt} {h0 : ExceptHandler} {hds : List ExceptHandler} {l : HdTs} {pos : Pos} {tb : WX → TS} {Wout : WX} (hs : X.stack = X.env :: X.outer) (hf : X.env.frame = some X.env.locals) (tk : Takes X Wout)
    (hb : ∀ (W : WX) (pn : List (Addr × Obj)) (xe : Value → Shared → Prop), Takes (X.tr pn xe) W → PassesOwn (model X.prog X.w) X.A X.env xe → PSs (X.tr pn xe) body (tb W)) (hh : ClsOk X (h0 :: hds) l) :
    PS X (.Try body (h0 :: hds) [] [] pos) (fun D σ H => tb (wClauses X.K Wout D l) D σ H) := by
  constructor
  intro pins s σ H D I h
  have ok := I.ok
  have frs' : X.A.frames = some (X.env :: X.outer) := by rw [ok.frames, hs]
  apply wpAny_Try_except
  let xe : Value → Shared → Prop := fun e s1 => wpAny (model X.prog X.w) X.A (noteFrame e X.env) (fun _ s2 => wpAny (model X.prog X.w) X.A (setFlight e none) (fun _ s3 => wpAny (model X.prog X.w) X.A (handleBy e X.env (h0 :: hds)) (SP X pins D) X.xe s3) X.xe s2) X.xe s1
  have caught : Takes (X.tr (X.pn ++ pins) xe) (wClauses X.K Wout D l) := by
    intro u s' xx
    obtain ⟨a, B, sI, pins', σ', H', cls, d, rfl, J', nb, up, sky, na, os, ag, w⟩ := xx
    have J : Inv X pins σ' H' sI := J'.ofTry ok
    have skyX : Sky B (X.env :: X.outer) a (Zc cls d) X.env.locals s'.heap := by rw [← hs]; exact sky
    show wpAny (model X.prog X.w) X.A (noteFrame (.ref a) X.env) _ _ _
    refine Sky.land Zc.steady frs' hf skyX fun h3 fl3 up3 => ?_
    have J3 : Inv X pins σ' H' { s' with heap := h3 } := J.landed nb fl3.1 (up.trans up3) os ag
    obtain ⟨oe3, vs3, he3, hz3, hd3⟩ := fl3.there
    have nofr : a ∉ L2.frs (X.env :: X.outer) := by
      intro hm
      obtain ⟨_, o', e', hnf⟩ := fl3.2.2.1.mem hm
      rw [he3] at e'
      cases e'
      exact hnf _ hd3
    have nL : a ≠ X.env.locals := fun z => nofr (List.mem_filterMap.mpr ⟨X.env, List.mem_cons_self, by rw [hf, z]⟩)
    have nF : a ∉ X.fs := by
      intro hm
      obtain ⟨e, he, q⟩ := List.mem_filterMap.mp hm
      exact nofr (List.mem_filterMap.mpr ⟨e, List.mem_cons_of_mem _ he, q⟩)
    have S3 := J3.suite he3 hd3 na nL nF
    have all : ∀ {hds' : List ExceptHandler} {l' : HdTs}, ClsOk X hds' l' → wClauses X.K Wout D l' cls d σ' H' → wpAny (model X.prog X.w) X.A (handleBy (.ref a) X.env hds') (SP X pins D) X.xe { s' with heap := h3 } := by
      intro hds' l' hk
      induction hk with
      | nil =>
        intro w
        apply wpAny_handleBy_nil
        obtain ⟨k1, k2, k3, oe, vs, T, oT, ts', he, hz, hd, h1, hr⟩ := id fl3
        unfold PySem.passOn
        refine wpAny_bind (wpAny_field he hd h1 ?_)
        rw [if_neg (show ¬ ((Value.ref T == Value.none) = true) by simp)]
        have fin : wpAny (model X.prog X.w) X.A (setFlight (.ref a) X.env.frame) (fun _ s4 => wpAny (model X.prog X.w) X.A (throw (.ref a) : Sem Flow) (SP X pins D) X.xe s4) X.xe { s' with heap := h3 } := by
          rw [hf]
          refine HandSPX.setFlight_upZ fl3 fun h4 hh4 up4 => wpAny_throw (tk _ _ ?_)
          exact ⟨a, B, sI, pins, σ', H', cls, d, rfl, J, nb, (up.trans up3).trans up4, .inr (.inr (by rw [hs]; exact hh4)), na, os, ag, w⟩
        first | exact wpAny_bind (wpAny_pure (wpAny_bind fin)) | exact wpAny_bind fin
      | @cons x nm o c ts b0 suite np hp hds2 l2 hc hn hsu r ih =>
        rintro ⟨b, hb1, hyes, hno⟩
        refine wpAny_handleBy_cons (codeAny_handlers_test ?_) (by intro q; cases q)
        have lt : PySem.W.Looks (model X.prog X.w) h3 (typeOf (.ref a)) cls := fun A Q E s k q => wpAny_typeOf_ref (k _ _ he3) (by rw [hz3.1]; exact q)
        have lm := PySem.W.exm_one (M := model X.prog X.w) J3.kIn lt hb1
        have test : ∀ {Q : Value → Shared → Prop} {E : Value → Shared → Prop}, Q c { s' with heap := h3 } → wpAny (model X.prog X.w) (X.A.mark (some (.ref a))) (eval (.Name x np) X.env) Q E { s' with heap := h3 } := by
          intro Q E q
          obtain ⟨hg, hdbg, hm | ⟨hm, hv, hnn⟩⟩ := hc
          · exact ld_glob (X := X.suite a ((a, oe3) :: (X.pn ++ pins))) S3 hg hm q hdbg
          · exact ld_blt (X := X.suite a ((a, oe3) :: (X.pn ++ pins))) S3 hg hm hv q hnn hdbg
        refine test (lm.here ?_)
        cases b with
        | false =>
          show wpAny _ X.A (handleBy (.ref a) X.env hds2) _ _ _
          exact ih (hno rfl)
        | true =>
          match nm, o, hn with
          | none, none, hn =>
            refine codeAny_handlers_suite (HandSPX.lands_againZ fl3 fun h4 fl4 up4 => ?_)
            have J4 : Inv X pins σ' H' { s' with heap := h4 } := J.landed nb fl4.1 ((up.trans up3).trans up4) os ag
            obtain ⟨oe4, vs4, he4, hz4, hd4⟩ := fl4.there
            have S4 := J4.suite he4 hd4 na nL nF
            refine wpAny_mono ((hsu a oe4 cls d (X.pn ++ pins) hz4 ⟨_, hd4⟩).run [] _ _ H' _ S4 (hyes rfl a na)) (fun f s6 hsp => ?_) (fun _ _ z => False.elim z)
            have e := suite_end (nm := none) (o := none) (D := D) (pos := hp) ok hn hsp
            cases f <;> exact e
          | some n, some i, hn =>
            obtain ⟨nd, hi, hl⟩ := id hn
            refine codeAny_handlers_suite_as (HandSPX.lands_againZ fl3 fun h4 fl4 up4 => ?_)
            have J4 : Inv X pins σ' H' { s' with heap := h4 } := J.landed nb fl4.1 ((up.trans up3).trans up4) os ag
            obtain ⟨oe4, vs4, he4, hz4, hd4⟩ := fl4.there
            have S4 := J4.suite he4 hd4 na nL nF
            refine store_ok (X := X.suite a ((a, oe4) :: (X.pn ++ pins))) (v := .ref a) S4 nd hi (.inl hl) rfl (fun s5 S5 => ?_) (.inr hl)
            refine wpAny_mono ((hsu a oe4 cls d (X.pn ++ pins) hz4 ⟨_, hd4⟩).run [] s5 _ H' _ S5 (hyes rfl a na)) (fun f s6 hsp => ?_) (fun _ _ z => False.elim z)
            have e := suite_end (nm := some n) (o := some i) (D := D) (pos := hp) ok hn hsp
            cases f <;> exact e
    exact all hh w
  refine wpAny_mono ((hb (wClauses X.K Wout D l) (X.pn ++ pins) xe caught PassesOwn.looking).run [] s σ H D (I.toTry _) h) (fun f s1 hsp => ?_) (fun e s1 he => he)
  match f, hsp with
  | .next, ⟨σ', H', J', q⟩ => exact wpAny_execs_nil ⟨σ', H', J'.ofTry ok, q⟩
  | .brk, ⟨σ', H', J', q⟩ => exact ⟨σ', H', J'.ofTry ok, q⟩
  | .cont, ⟨σ', H', J', q⟩ => exact ⟨σ', H', J'.ofTry ok, q⟩
  | .ret u, ⟨v, σ', H', J', r, q⟩ => exact ⟨v, σ', H', J'.ofTry ok, r, q⟩
end
end DL
set_option Elab.async false
set_option linter.all false
set_option maxRecDepth 100000
set_option maxHeartbeats 2000000
/-! Own exceptions with one field: their text, raise X(e), and e.field in a suite. -/
namespace DL
open PySem PySem.W PySem.Calls PyProof.Rows PySem.HandSPX
open L2 (defArgs defBody defScope)
/-- the text of __init__: self.fl = fl -/
structure LowSt (fl : Str) (st : Stmt) : Prop where
  bind : ∀ (qual : Str) (kV doc pm : Value) (an : Option Addr) (cdv ct x v : Value), bindArgs (fnOf "__init__" qual (defArgs st) (defBody st) (defScope st) .none kV doc pm an cdv ct) ⟨[x, v], []⟩ = pure [(("self" : Str), x), (fl, v)]
  body : ∃ q1 q2 q3 q4, defBody st = [.Assign [.Attribute (.Name ("self" : Str) q1) fl q2] (.Name fl q3) q4]
  k1 : (defScope st).names.lookup ("self" : Str) = some .local
  k2 : (defScope st).names.lookup fl = some .local
  ne : fl ≠ ("self" : Str)
  nd : (fl == ("__debug__" : Str)) = false
  co : (defScope st).isCoroutine = false
  gen : (defScope st).isGenerator = false
  kind : (defScope st).kind = .function
/-- what the written part says of the class cn, at C, and of its __init__, at fI -/
structure LowTxt (K : Frag) (mg : Str → Option Value) (cn : String) (fl qual : Str) (st : Stmt) (C fI : Addr) (B newId initId : String) (bmB : List Value) : Prop where
  gC : mg (cn : Str) = some (.ref C)
  ns : nsIn K mainGlobals (cn : Str) = some (some (.ref C))
  cls : ∃ nm q N bs bm sn sub ab col dd k0 k1 k2 k3 k5, K.lookup C = some (excClassObj nm q C N bs bm true sn sub ab col dd k0 k1 k2 k3 k5 newId) ∧ TailOk (stripR bm) B newId initId bmB
  sa : findIn K (.ref C) "__setattr__" = some (some (.builtin "object.__setattr__"))
  no : findIn K (.ref C) fl = some none
  iC : findIn K (.ref C) "__init__" = some (some (.ref fI))
  tC : typeIn K (.ref fI) = some (.type "function")
  kC : keepIn K (.ref C) = true
  exC : subIn K (.ref C) (.type "BaseException") = some true
  tyC : typeIn K (.ref C) = some (.type "type")
  fn : ∃ (oc : Value) (od : Option Addr) (kV doc pm : Value) (an : Option Addr) (cdv ct : Value) (osl : Array (Option Value)),
    K.lookup fI = some ⟨oc, od, .func (fnOf "__init__" qual (defArgs st) (defBody st) (defScope st) .none kV doc pm an cdv ct), osl⟩ ∧ codeIn K cdv qual = true
theorem one_fits (v : Value) : [v].length ≤ sizeLine := by
  rw [sizeLine_eq]
  exact (by decide : 1 ≤ 16777216)
theorem ld_loc {M : Model} {s : Shared} {name : Str} {scope : Scope} {L a : Addr} {cd : Value} {m : Str → Option Value} {x : Str} {pos : Pos} {v : Value} {Q : Value → Shared → Prop} {A : Around} {E : Value → Shared → Prop} (hn : s.heap.Ns L m) (hv : m x = some v)
    (hk : scope.kind = .function) (hl : scope.names.lookup x = some .local) (hd : (x == ("__debug__" : Str)) = false) (h : Q v s) : wpAny M A (eval (.Name x pos) (envOfC name scope L a cd)) Q E s := wpAny_Name (wpAny_loadName_local hk hl hn hv h) hd
/-- what __init__ leaves of a fresh exception at x -/
structure InitLeft (h h' : Heap) (x C dx t1 : Addr) (fl : Str) (v : Value) : Prop where
  keep : ∀ b o, b ≠ x → h.get? b = some o → h'.get? b = some o
  obj : h'.get? x = some { cls := .ref C, dict := some dx, data := .fields #[.ref t1, .none, .none, .none, .bool false, .none] }
  dbig : h.objs.size ≤ dx
  dne : dx ≠ x
  ns : h'.Ns1 dx (fun y => if y = fl then some v else none)
/-- a made one -/
structure LowMade (h h' : Heap) (e C d : Addr) (fl : Str) (v : Value) : Prop where
  keep : ∀ b o, h.get? b = some o → h'.get? b = some o
  new : h.objs.size ≤ e
  obj : ∃ oe vs, h'.get? e = some oe ∧ oe.cls = .ref C ∧ oe.dict = some d ∧ oe.data = .fields vs ∧ vs[1]? = some .none
  dbig : h.objs.size ≤ d
  dne : d ≠ e
  ns : h'.Ns1 d (fun y => if y = fl then some v else none)
section
variable {prog : Program} {w : World} {A : Around} {E : Value → Shared → Prop} {R : Result → Shared → Prop} {s : Shared} {K : Frag} {mg : Str → Option Value} {cn B newId initId : String} {fl qual : Str} {st : Stmt} {C fI : Addr} {bmB : List Value}
theorem low_init (S : LowSt fl st) (T : LowTxt K mg cn fl qual st C fI B newId initId bmB) {x t0 : Addr} {v : Value} (X : K.In s.heap) (hlim : s.heap.NoLimit) (hx : s.heap.get? x = some (excO C t0)) (hroom : A.depth < recursionLimit)
    (hq : ∀ h' tk dx, InitLeft s.heap h' x C dx t0 fl v → R (.ok (.ret .none)) { s with heap := h', toks := tk }) :
    codeAny (model prog w) A (.call (.ref fI) ⟨[.ref x, v], []⟩) R s := by
  obtain ⟨oc, od, kV, doc, pm, an, cdv, ct, osl, ho, hcd⟩ := T.fn
  obtain ⟨nm, q, N, bs, bm, sn, sub, ab, col, dd, k0, k1, k2, k3, k5, hC, tl⟩ := T.cls
  obtain ⟨q1, q2, q3, q4, eb⟩ := S.body
  have hcl : clsIn K C = some { name := nm, bases := bs, mro := .ref C :: bm, ns := N, qualname := q, hasDict := true, slotNames := sn, subclasses := sub, abstract := ab, collection := col, hasDel := false } := by
    unfold clsIn
    rw [hC] <;> rfl
  have e1 : ((defScope st).names.lookup ("self" : Str) == some NameKind.local) = true := by rw [S.k1]; rfl
  have e2 : ((defScope st).names.lookup fl == some NameKind.local) = true := by rw [S.k2]; rfl
  refine Att.call_fn (binds := [(("self" : Str), .ref x), (fl, v)]) X hlim ho hcd hroom (BindsTo.of_eq (S.bind _ _ _ _ _ _ _ _ _)) (by simp only [List.all_cons, List.all_nil, e1, e2]; rfl) (fun s1 IC => ?_) S.co S.gen S.kind
  obtain ⟨h1, tk1, rfl⟩ := IC.toInCall.same
  have k : ∀ b o, s.heap.get? b = some o → h1.get? b = some o := IC.toInCall.keep
  have hn := IC.toInCall.ns
  have X1 : K.In h1 := X.keeps k
  have hx1 := k _ _ hx
  have c1 : (envOfC qual (defScope st) s.heap.objs.size fI cdv).kindOf ("self" : Str) = some .local := S.k1
  have c2 : (envOfC qual (defScope st) s.heap.objs.size fI cdv).kindOf fl = some .local := S.k2
  have g1 : bindL (envOfC qual (defScope st) s.heap.objs.size fI cdv).kindOf [(("self" : Str), .ref x), (fl, v)] (fun _ => none) ("self" : Str) = some (.ref x) := by
    unfold bindL
    rw [if_pos c1]
    unfold bindL
    rw [if_pos c2]
    show (if ("self" : Str) = fl then some v else if ("self" : Str) = ("self" : Str) then some (Value.ref x) else none) = _
    rw [if_neg (Ne.symm S.ne), if_pos rfl]
  have g2 : bindL (envOfC qual (defScope st) s.heap.objs.size fI cdv).kindOf [(("self" : Str), .ref x), (fl, v)] (fun _ => none) fl = some v := by
    unfold bindL
    rw [if_pos c1]
    unfold bindL
    rw [if_pos c2]
    show (if fl = fl then some v else if fl = ("self" : Str) then some (Value.ref x) else none) = _
    rw [if_pos rfl]
  rw [eb]
  show wpAny _ _ (execs _ _) _ _ _
  refine wpAny_execs_cons (plainObj_wpAny_Assign_Attribute ?_)
  refine ld_loc (v := v) hn g2 S.kind S.k2 S.nd (ld_loc (v := .ref x) hn g1 S.kind S.k1 (by decide) ?_)
  refine set_plain X1 (ox := excO C t0) (od := none) ⟨hx1, rfl, rfl, trivial⟩ T.sa ?_
  have tl' : TailOk (stripR (.ref C :: bm)) B newId initId bmB := tl
  refine exc_store tl' X1 hx1 hcl rfl T.no (fun h3 tk3 dx k3 dn dne hx3 hn3 => ?_)
  show wpAny _ _ (execs _ _) _ _ _
  have z : s.heap.objs.size < h1.objs.size := hn.lt
  exact wpAny_execs_nil (hq h3 tk3 dx ⟨fun b o hb e => k3 b o hb (k b o e), hx3, Nat.le_of_lt (Nat.lt_of_lt_of_le z dn), dne, hn3⟩)
theorem low_made (S : LowSt fl st) (T : LowTxt K mg cn fl qual st C fI B newId initId bmB) {v : Value} (X : K.In s.heap) (hlim : s.heap.NoLimit) (hroom : A.depth + 1 < recursionLimit)
    (hq : ∀ h' tk e d, LowMade s.heap h' e C d fl v → R (.ok (.ret (.ref e))) { s with heap := h', toks := tk }) :
    codeAny (model prog w) A (.call (.ref C) ⟨[v], []⟩) R s := by
  obtain ⟨nm, q, N, bs, bm, sn, sub, ab, col, dd, k0, k1, k2, k3, k5, hC, tl⟩ := T.cls
  obtain ⟨hp, g, dr, tk, os⟩ := s
  have k : ∀ b o, hp.get? b = some o → ((hp.push (kdv_tup [v])).push (excO C hp.objs.size)).get? b = some o := fun b o e => Heap.get?_push_of_some _ (Heap.get?_push_of_some _ e)
  have hget : ((hp.push (kdv_tup [v])).push (excO C hp.objs.size)).get? (hp.objs.size + 1) = some (excO C hp.objs.size) := by heap_get
  refine exc_call tl (X _ _ hC) (looks_findIn X T.iC) (fun self => bind_fn X self T.tC) (one_fits v) ?_
  refine low_init (s := ⟨(hp.push (kdv_tup [v])).push (excO C hp.objs.size), g, dr, tk, os⟩) S T (X.keeps k) (hlim.keeps k) hget ?_ fun h' tk' dx ⟨k', hx, dn, dne, hns⟩ => ?_
  · show A.depth + 1 < recursionLimit
    exact hroom
  · have old : ∀ b o, hp.get? b = some o → h'.get? b = some o := fun b o e => k' b o (Nat.ne_of_lt (Nat.lt_succ_of_lt (Heap.lt_size e))) (k b o e)
    have z : hp.objs.size + 1 + 1 ≤ dx := by
      first
        | (simpa only [Heap.size_push] using dn)
        | exact dn
        | (have q := dn; rw [Heap.size_push, Heap.size_push] at q; exact q)
    exact ⟨rfl, hq h' tk' (hp.objs.size + 1) dx ⟨old, Nat.le_succ _, ⟨_, _, hx, rfl, rfl, rfl, rfl⟩, Nat.le_trans (Nat.le_trans (Nat.le_succ _) (Nat.le_succ _)) z, dne, hns⟩⟩
end
end DL
namespace DL
open PySem PySem.Spec PyProof.Rows L2
theorem relO_low {v : V} {v' : Value} {fl : Str} (r : RelV v v') (f : Str) : RelO (List.lookup f [(fl, v)]) (if f = fl then some v' else none) := by
  by_cases hw : f = fl
  · subst hw
    rw [if_pos rfl]
    have q : List.lookup f [(f, v)] = some v := by simp [List.lookup]
    rw [q]
    exact r
  · rw [if_neg hw]
    have qw : (f == fl) = false := by simpa using hw
    have q2 : List.lookup f [(fl, v)] = none := by simp [List.lookup, qw]
    rw [q2]
    trivial
def tMkLow (C : Addr) (fl : Str) (te : TE) : L2.St → Hp → XK → Prop := fun σ H Q => tCons te tNil σ H fun vs H1 => ∃ v, vs = [v] ∧ ∀ d, H1 d = none → Q (.ref C) (some d) (L2.upd H1 d (.xd [(fl, v)]))
section
variable {X : Cx} {C fI : Addr} {cn B newId initId : String} {fl qual : Str} {st : Stmt} {bmB : List Value}
theorem pmk_low {a : Expr} {te : TE} {p pos : Pos} (S : LowSt fl st) (T : LowTxt X.K X.mg cn fl qual st C fI B newId initId bmB) (hr : X.A.depth + 1 < recursionLimit) (he : PE X a te) (hg : Gl X (cn : Str)) (hdb : ((cn : Str) == ("__debug__" : Str)) = false)
    (hst : starEach (a :: []) X.env = (false, eval a X.env) :: starEach [] X.env) (hpl : (backTo pos (starEach [] X.env)).any (·.1) = false) :
    PMk X (.Call (.Name (cn : Str) p) [a] [] pos) (tMkLow C fl te) := by
  intro pins s σ H Q I h
  refine wpAny_Call_Name_kw (ld_glob I hg T.gC ?_ hdb)
  have ha : PA X [a] (tCons te tNil) := pa_cons he pa_nil hst
  refine PySem.W.callWith_K (h₀ := X.base) I.ok.mod.kin T.kC (thn (ha.run pos pins s σ H _ I h) ?_) hst hpl
  rintro us s1 ⟨vs, H1, I1, r1, v, ev, q1⟩
  subst ev
  refine ⟨I1.kIn, ?_⟩
  cases r1 with
  | cons rv rn =>
    rename_i v' us'
    cases rn
    show wpAny _ _ (call (.ref C) [v']) _ _ _
    have hlim := I1.nolimit
    obtain ⟨hp, g, dr, tk, os⟩ := s1
    refine wpAny_call (low_made S T I1.kIn hlim hr fun h' tk' e d M => ?_)
    show MkP X pins σ Q (.ref e) ⟨h', g, dr, tk', os⟩
    obtain ⟨oe, fv, hoe, hc, hd, hdat, h1⟩ := M.obj
    have hns := M.ns
    obtain ⟨G', g1, g2⟩ := restrict h' fun b => decide (b ≠ e)
    have gk : ∀ b, b ≠ e → G'.get? b = h'.get? b := fun b hb => g1 b (decide_eq_true hb)
    have ge : G'.get? e = none := g2 e (by simp)
    have old : ∀ b o, hp.get? b = some o → G'.get? b = some o := fun b o q => (gk b (Nat.ne_of_lt (Nat.lt_of_lt_of_le (Heap.lt_size q) M.new))).trans (M.keep b o q)
    have ob : ObjOk X.prog X.w (L2.upd H1 d (.xd [(fl, v)])) G' d (.xd [(fl, v)]) := ⟨_, hns.at (fun o q => (gk d M.dne).trans q), fun f => relO_low rv f⟩
    have J : Inv X pins σ (L2.upd H1 d (.xd [(fl, v)])) ⟨G', g, dr, tk', os⟩ := I1.laid (t' := tk') old M.dbig ob
    refine ⟨e, oe, fv, ⟨G', g, dr, tk', os⟩, _, .ref C, some d, rfl, J, fun b o q => ?_, ge, hoe, ⟨hc, hd⟩, hdat, h1, ?_, rfl, I1.bare, raises_own T.exC T.tyC, q1 d (I1.hok.fresh M.dbig)⟩
    · by_cases hb : b = e
      · have q' : G'.get? b = some o := q
        rw [hb, ge] at q'
        cases q'
      · exact (gk b hb).symm.trans q
    · rw [upd_ne (Ne.symm M.dne)]
      exact I1.hok.fresh M.new
end

/-! ### raise, by data -/
def sRaise1 (n : String) (f : Str) (F : DL.Env → Out D) : DL.Env → SOut := fun ρ => (F ρ).s fun d ρ1 => .ex ⟨n, [(f, d)]⟩ ρ1
section
variable {X : Cx} {B : By} {W : WX} {C fI : Addr} {cn Bn newId initId : String} {fl qual : Str} {st : Stmt} {bmB : List Value}
theorem ds_raise1 {a : Expr} {te : TE} {Fe : DL.Env → Out D} {p pos pos' : Pos} {k : Nat} (hc : X.calm = true) (tk : Takes X W) (S : LowSt fl st) (T : LowTxt X.K X.mg cn fl qual st C fI Bn newId initId bmB) (hr : RmG k X.A) (h : DE X B W a te Fe) (hg : Gl X (cn : Str) := by rfl)
    (hdb : ((cn : Str) == ("__debug__" : Str)) = false := by decide) (hst : starEach (a :: []) X.env = (false, eval a X.env) :: starEach [] X.env := by rfl) (hpl : (backTo pos (starEach [] X.env)).any (·.1) = false := by rfl) :
    DS X B W (.Raise (some (.Call (.Name (cn : Str) p) [a] [] pos)) none pos') (fun _ σ H => tMkLow C fl te σ H fun cls d H' => W cls d σ H') (sRaise1 cn fl Fe) where
  ps := ps_raise hc tk (pmk_low S T (by have := hr.rm.dp; omega) h.pe hg hdb hst hpl)
  sat := fun b G H ω σ ρ rel Dn post => h.sat.s rel post fun G1 H1 ω1 ρ1 v d rel1 s1 i p => by
    refine ⟨v, rfl, fun dd hd => ?_⟩
    have st := Step.hidden (G := G1) (o := .xd [(fl, v)]) hd
    have rel2 := rel1.step st (rel1.le.trans (same_upd hd))
    exact p (.ref C) (some dd) σ G1 _ ω1 rel2 (s1.trans (.step st)) ⟨⟨C, rfl, T.ns⟩, .inr ⟨dd, _, rfl, upd_same, .cons i .nil⟩⟩
end

/-! ### try, by data -/
structure Hd where
  yes : List String
  no : List String
  nm : Option Nat
  F : Exn → DL.Env → SOut
/-- what a suite may end by; its name's slot goes -/
def endH (o : Option Nat) : SOut → SOut
  | .ex _ _ => .no
  | .rt d ρ => .rt d (wipeO o ρ)
  | .nx ρ => .nx (wipeO o ρ)
  | .bk ρ => .bk (wipeO o ρ)
  | .ct ρ => .ct (wipeO o ρ)
  | .no => .no
where wipeO : Option Nat → DL.Env → DL.Env
  | none, ρ => ρ
  | some i, ρ => ρ.set i none
def hdsD : List Hd → Exn → DL.Env → SOut
  | [], c, ρ => .ex c ρ
  | h :: r, c, ρ => if c.cls ∈ h.yes then (if inO h.nm ρ = true then endH h.nm (h.F c (endH.wipeO h.nm ρ)) else .no) else if c.cls ∈ h.no then hdsD r c ρ else .no
where inO : Option Nat → DL.Env → Bool
  | none, _ => true
  | some i, ρ => decide (i < ρ.length)
def sTry (Fb : DL.Env → SOut) (hds : List Hd) : DL.Env → SOut := fun ρ => match Fb ρ with
  | .ex c ρ1 => hdsD hds c ρ1
  | .nx ρ1 => .nx ρ1
  | .rt d ρ1 => .rt d ρ1
  | .bk ρ1 => .bk ρ1
  | .ct ρ1 => .ct ρ1
  | .no => .no
/-- the handler for c (does not) catch an error of the class of this name -/
def Exm (K : PySem.W.Frag) (c : Value) (b : Bool) (n : String) : Prop := ∀ C : Addr, PySem.W.nsIn K mainGlobals (n : Str) = some (some (.ref C)) → PySem.W.exmOne K (.ref C) c = some b
theorem Cls.exm {K : PySem.W.Frag} {mg : Str → Option Value} {n n' : String} {C S : Addr} {b : Bool} (T : Cls K mg n C) (T' : Cls K mg n' S) (h : PySem.W.subIn K (.ref C) (.ref S) = some b) : Exm K (.ref S) b n := fun C' e => by
  rw [T.ns] at e
  cases e
  exact exm_of T'.sub T'.isC T'.ty h
theorem exm_nil {K : PySem.W.Frag} {c : Value} {b : Bool} : ∀ n ∈ ([] : List String), Exm K c b n := fun n h => by cases h
theorem exm_cons {K : PySem.W.Frag} {c : Value} {b : Bool} {n : String} {l : List String} (h : Exm K c b n) (r : ∀ n ∈ l, Exm K c b n) : ∀ n' ∈ n :: l, Exm K c b n' := fun n' m => by
  rcases List.mem_cons.mp m with e | e
  · rw [e]; exact h
  · exact r n' e
/-- what stands by-ref in a suite, the error at a, of the class cls, its dict dd, in the slot o -/
def withP (B : By) (o : Option Nat) (a : Addr) (dd : Option Addr) (fs : List (Str × V)) (ds : List (Str × D)) : By := match o with
  | none => B
  | some i => ⟨i :: B.l, [⟨i, a, dd, fs, ds⟩]⟩
def tSuite (K : PySem.W.Frag) (B : By) (yes : List String) (o : Option Nat) (F : Exn → DL.Env → SOut) : Addr → Value → Option Addr → TS := fun a cls dd Dn σ H =>
  ∃ b G ω ρ c fs, Rel K b (withP B o a dd fs c.fs) G H ω σ ρ ∧ c.cls ∈ yes ∧ (∃ C : Addr, cls = .ref C ∧ PySem.W.nsIn K mainGlobals (c.cls : Str) = some (some (.ref C))) ∧ PostS K (withP B o a dd fs c.fs) W0 b G H ω Dn (F c ρ)
/-- a suite, whatever the caught error is -/
def DSu (X : Cx) (B : By) (yes : List String) (o : Option Nat) (suite : List Stmt) (F : Exn → DL.Env → SOut) : Prop :=
  ∀ (a : Addr) (oe : Obj) (cls : Value) (dd : Option Addr) (pn : List (Addr × Obj)) (c : Exn) (fs : List (Str × V)), Zc cls dd oe → (∃ vs, oe.data = .fields vs) → c.cls ∈ yes → (∃ C : Addr, cls = .ref C ∧ PySem.W.nsIn X.K mainGlobals (c.cls : Str) = some (some (.ref C))) →
    ∃ t, DSs (X.suite a ((a, oe) :: pn)) (withP B o a dd fs c.fs) W0 suite t (F c)
inductive DHs (X : Cx) (B : By) : List ExceptHandler → List Hd → HdTs → Prop
  | nil : DHs X B [] [] []
  | cons {x : Str} {nm : Option Str} {o : Option Nat} {c : Value} {b0 : Stmt} {suite : List Stmt} {np hp : Pos} {hds : List ExceptHandler} {l : List Hd} {ts : HdTs} {yes no : List String} {F : Exn → DL.Env → SOut} (hc : Names X x c) (hn : NmOk X nm o)
      (hy : ∀ n ∈ yes, Exm X.K c true n) (hno : ∀ n ∈ no, Exm X.K c false n) (hb : ∀ i, o = some i → i ∉ B.l) (hs : DSu X B yes o (b0 :: suite) F) (r : DHs X B hds l ts) :
      DHs X B (.ExceptHandler (some (.Name x np)) nm (b0 :: suite) hp :: hds) (⟨yes, no, o, F⟩ :: l) ((c, o, tSuite X.K B yes o F) :: ts)
section
variable {K : PySem.W.Frag} {B : By} {b : Bs} {G H G' H' : Hp} {ω ω' : Lb} {σ σ' : L2.St} {ρ ρ1 : DL.Env} {i : Nat} {a : Addr} {dd : Option Addr} {fs : List (Str × V)} {ds : List (Str × D)}
def maskH (B : By) (ω : Lb) (H : Hp) : Hp := fun x => match ω x with
  | some l => if l.1 ∈ B.l then H x else none
  | none => H x
def maskL (B : By) (ω : Lb) : Lb := fun x => match ω x with
  | some l => if l.1 ∈ B.l then some l else none
  | none => none
theorem maskH_none {x : Addr} (h : ω x = none) : maskH B ω H x = H x := by unfold maskH; rw [h]
theorem maskH_in {x : Addr} {l : Nat × Option Str} (h : ω x = some l) (m : l.1 ∈ B.l) : maskH B ω H x = H x := by unfold maskH; rw [h]; exact if_pos m
theorem maskH_out {x : Addr} {l : Nat × Option Str} (h : ω x = some l) (m : l.1 ∉ B.l) : maskH B ω H x = none := by unfold maskH; rw [h]; exact if_neg m
theorem maskL_in {x : Addr} {l : Nat × Option Str} (h : ω x = some l) (m : l.1 ∈ B.l) : maskL B ω x = some l := by unfold maskL; rw [h]; exact if_pos m
theorem maskL_some {x : Addr} {l : Nat × Option Str} (h : maskL B ω x = some l) : ω x = some l ∧ l.1 ∈ B.l := by
  unfold maskL at h
  split at h
  · rename_i m e
    split at h
    · cases h; exact ⟨e, by assumption⟩
    · cases h
  · cases h
theorem maskH_le {x : Addr} {o : HO} (h : maskH B ω H x = some o) : H x = some o := by
  unfold maskH at h
  split at h
  · split at h
    · exact h
    · cases h
  · exact h
/-- the state as a suite with a name begins -/
theorem Rel.suiteIn (R : Rel K b B G H ω σ ρ) (hi : i ∉ B.l) (hl : i < ρ.length) (hf : IsFs K G fs ds) (hd : (fs = [] ∧ dd = none) ∨ ∃ d, dd = some d ∧ H d = some (.xd fs)) :
    Rel K ⟨G, maskH B ω H, maskL B ω, σ.set i (some (.ref a))⟩ (withP B (some i) a dd fs ds) G H ω (σ.set i (some (.ref a))) (ρ.set i none) where
  le := R.le
  leG := Same.refl _
  old := fun x o _ h => maskH_le h
  dom := fun x h => by
    show maskH B ω H x = none
    cases q : maskH B ω H x with
    | none => rfl
    | some o => rw [maskH_le q] at h; cases h
  fr := fun x _ h => h
  own := fun x l h => by
    obtain ⟨y1, y2, _⟩ := R.own x l h
    refine ⟨y1, y2, ?_⟩
    by_cases m : l.1 ∈ B.l
    · exact .inr ⟨l.2, maskL_in h m⟩
    · exact .inl (maskH_out h m)
  bB := fun x l h => List.mem_cons_of_mem _ (maskL_some h).2
  len := by rw [List.length_set, List.length_set]; exact R.len
  slot := fun j d h => by
    rw [List.getElem?_set] at h
    split at h
    · first | (split at h <;> cases h) | cases h
    · rename_i c
      obtain ⟨v, h1, h2⟩ := R.slot j d h
      exact ⟨v, by rw [List.getElem?_set_ne c]; exact h1, h2⟩
  byr := fun j _ => rfl
  pin := fun p hp => by
    have e : p = ⟨i, a, dd, fs, ds⟩ := by simpa [withP] using hp
    subst e
    have hl' : i < σ.length := by rw [R.len]; exact hl
    refine ⟨List.mem_cons_self .., by simp [hl'], hf, ?_⟩
    rcases hd with h | ⟨d, h1, h2⟩
    · exact .inl h
    · have w : ω d = none := by
        cases q : ω d with
        | none => rfl
        | some l => exact absurd h2 (R.own d l q).2.1.not_xd
      refine .inr ⟨d, h1, ?_, ?_⟩
      · show maskH B ω H d = _
        rw [maskH_none w]
        exact h2
      · show maskL B ω d = none
        unfold maskL
        rw [w]
/-- behind a suite with a name -/
theorem Rel.suiteOut (R : Rel K b B G H ω σ ρ) (hi : i ∉ B.l) (hp : B.pin = []) (R' : Rel K ⟨G, maskH B ω H, maskL B ω, σ.set i (some (.ref a))⟩ (withP B (some i) a dd fs ds) G' H' ω' σ' ρ1) (t : Tr G H ω G' H' ω') :
    Rel K b B G' H' ω' (σ'.set i none) (ρ1.set i none) where
  le := R'.le
  leG := R.leG.trans t.g
  old := fun x o h1 h2 => by
    have w : ω x = none := by
      cases q : ω x with
      | none => rfl
      | some l =>
        rcases (R.own x l q).2.2 with y | ⟨p, y⟩
        · rw [h2] at y; cases y
        · rw [h1] at y; cases y
    exact (t.keep x o w (R.old x o h1 h2)).1
  dom := fun x h => R.dom x (t.dom x h)
  fr := fun x h1 h2 => by
    have g := R.fr x h1 h2
    have hx : H x ≠ none := fun z => h1 (R.dom x z)
    cases q : ω x with
    | none => exact t.hid x q hx g
    | some l =>
      have m : l.1 ∈ B.l := by
        rcases (R.own x l q).2.2 with y | ⟨p, y⟩
        · exact absurd y h1
        · exact R.bB x (l.1, p) y
      exact R'.fr x (by show maskH B ω H x ≠ none; rw [maskH_in q m]; exact hx) g
  own := fun x l h => by
    obtain ⟨y1, y2, y3⟩ := R'.own x l h
    refine ⟨y1, y2, ?_⟩
    rcases y3 with y3 | ⟨p, y3⟩
    · have y3' : maskH B ω H x = none := y3
      cases q : ω x with
      | none =>
        rw [maskH_none q] at y3'
        exact .inl (R.dom x y3')
      | some l0 =>
        rcases (R.own x l0 q).2.2 with z | ⟨p', z⟩
        · exact .inl z
        · have m := R.bB x _ z
          rw [maskH_in q m] at y3'
          exact .inl (R.dom x y3')
    · obtain ⟨z1, z2⟩ := maskL_some (show maskL B ω x = some (l.1, p) from y3)
      exact (R.own x _ z1).2.2
  bB := R.bB
  len := by rw [List.length_set, List.length_set]; exact R'.len
  slot := fun j d h => by
    rw [List.getElem?_set] at h
    split at h
    · split at h <;> cases h
    · rename_i c
      obtain ⟨v, h1, h2⟩ := R'.slot j d h
      exact ⟨v, by rw [List.getElem?_set_ne c]; exact h1, h2⟩
  byr := fun j hj => by
    have ne : i ≠ j := fun z => hi (z ▸ hj)
    rw [List.getElem?_set_ne ne, R'.byr j (List.mem_cons_of_mem _ hj)]
    show (σ.set i (some (.ref a)))[j]? = _
    rw [List.getElem?_set_ne ne]
    exact R.byr j hj
  pin := fun p h => by rw [hp] at h; cases h
theorem tmp_out {ωt : Lb} {s0 : L2.St} (R : Rel K b B G H ω σ ρ) (T : Tmp ⟨G, maskH B ω H, maskL B ω, s0⟩ H ω G' H' ω' ωt) : Tmp b H ω G' H' ω' ωt := ⟨fun x h => by
  obtain ⟨h1, h2, h3, h4, h5⟩ := T.at' x h
  refine ⟨h1, h2, h3, ?_, h5⟩
  have h4' : maskH B ω H x = none := h4
  cases q : ω x with
  | none => rw [maskH_none q] at h4'; exact R.dom x h4'
  | some l =>
    rcases (R.own x l q).2.2 with z | ⟨p, z⟩
    · exact z
    · rw [maskH_in q (R.bB x (l.1, p) z)] at h4'
      exact R.dom x h4'⟩
end

section
variable {X : Cx} {B : By} {W : WX}
theorem DHs.ok : ∀ {hds : List ExceptHandler} {l : List Hd} {ts : HdTs}, DHs X B hds l ts → ClsOk X hds ts
  | _, _, _, .nil => .nil
  | _, _, _, .cons hc hn hy hno hb hs r => .cons hc hn (fun a oe cls d pn hz hf => ⟨fun pins s σ H D I h => by
      obtain ⟨b, G, ω, ρ, c, fs, rel, hm, hcl, post⟩ := h
      obtain ⟨t, ds⟩ := hs a oe cls d pn c fs hz hf hm hcl
      exact ds.ps.run pins s σ H D I (ds.sat b G H ω σ ρ rel D post)⟩) r.ok
theorem post_suite {Dn : Ends} {b : Bs} {G H : Hp} {ω : Lb} {σ : L2.St} {ρ : DL.Env} {o : SOut} {i : Nat} {a : Addr} {dd : Option Addr} {fs : List (Str × V)} {ds : List (Str × D)} (rel : Rel X.K b B G H ω σ ρ) (hi : i ∉ B.l) (hp : B.pin = [])
    (post : PostS X.K B W b G H ω Dn (endH (some i) o)) : PostS X.K (withP B (some i) a dd fs ds) W0 ⟨G, maskH B ω H, maskL B ω, σ.set i (some (.ref a))⟩ G H ω (endsN Dn (some i)) o := by
  cases o with
  | no => exact post.elim
  | ex c ρ1 => exact post.elim
  | nx ρ1 => exact fun σ' G' H' ω' r t => post _ G' H' ω' (rel.suiteOut hi hp r t) t
  | bk ρ1 => exact fun σ' G' H' ω' r t => post _ G' H' ω' (rel.suiteOut hi hp r t) t
  | ct ρ1 => exact fun σ' G' H' ω' r t => post _ G' H' ω' (rel.suiteOut hi hp r t) t
  | rt d ρ1 => exact fun v σ' G' H' ω' r t ⟨ωt, T, ow⟩ => post v _ G' H' ω' (rel.suiteOut hi hp r t) t ⟨ωt, tmp_out rel T, ow⟩
theorem post_suite0 {Dn : Ends} {b : Bs} {G H : Hp} {ω : Lb} {o : SOut} (post : PostS X.K B W b G H ω Dn (endH none o)) : PostS X.K B W0 b G H ω Dn o := by
  cases o with
  | no => exact post.elim
  | ex c ρ1 => exact post.elim
  | nx ρ1 => exact post
  | bk ρ1 => exact post
  | ct ρ1 => exact post
  | rt d ρ1 => exact post
theorem DHs.wish (hp : B.pin = []) {Dn : Ends} {b : Bs} {G H : Hp} {ω : Lb} {σ : L2.St} {ρ : DL.Env} {c : Exn} {cls : Value} {dd : Option Addr} (rel : Rel X.K b B G H ω σ ρ) (ix : IsX X.K G H c cls dd) :
    ∀ {hds : List ExceptHandler} {l : List Hd} {ts : HdTs}, DHs X B hds l ts → PostS X.K B W b G H ω Dn (hdsD l c ρ) → wClauses X.K W Dn ts cls dd σ H
  | _, _, _, .nil, post => post cls dd σ G H ω rel .refl ix
  | _, _, _, .cons (yes := yes) (no := no) (o := o) (F := F) hc hnm hy hn hb hs r, post => by
    unfold hdsD at post
    dsimp only at post
    obtain ⟨C, ec, en⟩ := ix.1
    split at post
    · rename_i m
      refine ⟨true, by rw [ec]; exact hy _ m C en, fun _ a ha => ?_, (fun z => by cases z)⟩
      split at post
      · rename_i hin
        have hfs : ∃ fs, IsFs X.K G fs c.fs ∧ ((fs = [] ∧ dd = none) ∨ ∃ d, dd = some d ∧ H d = some (.xd fs)) := by
          rcases ix.2 with ⟨h1, h2⟩ | ⟨d, fs, h1, h2, h3⟩
          · exact ⟨[], by rw [h1]; exact .nil, .inl ⟨rfl, h2⟩⟩
          · exact ⟨fs, h3, .inr ⟨d, h1, h2⟩⟩
        obtain ⟨fs, f1, f2⟩ := hfs
        cases o with
        | none => exact ⟨b, G, ω, ρ, c, fs, rel, m, ⟨C, ec, en⟩, post_suite0 post⟩
        | some i =>
          have hl : i < ρ.length := of_decide_eq_true hin
          exact ⟨_, G, ω, _, c, fs, rel.suiteIn (hb i rfl) hl f1 f2, m, ⟨C, ec, en⟩, post_suite rel (hb i rfl) hp post⟩
      · exact post.elim
    · split at post
      · rename_i m
        exact ⟨false, by rw [ec]; exact hn _ m C en, (fun z => by cases z), fun _ => DHs.wish hp rel ix r post⟩
      · exact post.elim
theorem ds_try {body : List Stmt} {h0 : ExceptHandler} {hds : List ExceptHandler} {l : List Hd} {ts : HdTs} {pos : Pos} {Fb : DL.Env → SOut} (hs : X.stack = X.env :: X.outer) (hf : X.env.frame = some X.env.locals) (hp : B.pin = []) (tk : Takes X W)
    (hb : ∀ (W' : WX) (pn : List (Addr × Obj)) (xe : Value → Shared → Prop), Takes (X.tr pn xe) W' → PassesOwn (model X.prog X.w) X.A X.env xe → ∃ t, DSs (X.tr pn xe) B W' body t Fb) (hh : DHs X B (h0 :: hds) l ts) :
    DS X B W (.Try body (h0 :: hds) [] [] pos) (fun Dn σ H => tOf X.K B (wClauses X.K W Dn ts) Fb Dn σ H) (sTry Fb l) := by
  refine ⟨ps_clauses (tb := fun W' => tOf X.K B W' Fb) hs hf tk (fun W' pn xe tk' po => pss_of (hb W' pn xe tk' po)) hh.ok, fun b G H ω σ ρ rel Dn post => ⟨b, G, ω, ρ, rel, ?_⟩⟩
  unfold sTry at post
  cases e : Fb ρ with
  | ex c ρ1 =>
    rw [e] at post
    intro cls dd σ' G' H' ω' r1 t1 ix
    exact hh.wish hp r1 ix (PostS.from t1 post)
  | nx ρ' => rw [e] at post; exact post
  | rt d ρ' => rw [e] at post; exact post
  | bk ρ' => rw [e] at post; exact post
  | ct ρ' => rw [e] at post; exact post
  | no => rw [e] at post; exact post
end

/-! ### e.f, e the error that the suite holds -/
def fXf (ds : List (Str × D)) (f : Str) : DL.Env → Out D := fun ρ => match ds.lookup f with
  | some d => .ok d ρ true
  | none => .no
/-- f may be read off errors of these classes -/
def XFl (K : PySem.W.Frag) (f : Str) (yes : List String) : Prop := ∀ n ∈ yes, ∀ C : Addr, PySem.W.nsIn K mainGlobals (n : Str) = some (some (.ref C)) → XfC K C ∧ PySem.W.findIn K (.ref C) f = some none
section
variable {X : Cx} {B : By} {a : Addr} {oe : Obj} {cls : Value} {dd : Option Addr} {pn : List (Addr × Obj)} {c : Exn} {fs : List (Str × V)} {yes : List String} {n f : Str} {pos px : Pos} {i : Nat}
theorem d_xf (hx : XFl X.K f yes) (hz : Zc cls dd oe) (hf : ∃ vs, oe.data = .fields vs) (hm : c.cls ∈ yes) (hc : ∃ C : Addr, cls = .ref C ∧ PySem.W.nsIn X.K mainGlobals (c.cls : Str) = some (some (.ref C))) (hN : X.N[i]? = some n := by rfl)
    (hv : Vis X.env.scope n := by first | exact Or.inl rfl | exact Or.inr (Or.inl rfl) | exact Or.inr (Or.inr rfl)) (hd : (n == ("__debug__" : Str)) = false := by decide) (hcd : (n == ("__classdict__" : Str)) = false := by decide)
    (hb : attributeBase (.Name n px) f X.env (eval (.Name n px) X.env) = eval (.Name n px) X.env := by rfl) :
    DE (X.suite a ((a, oe) :: pn)) (withP B (some i) a dd fs c.fs) W0 (.Attribute (.Name n px) f pos) (tOfE X.K (withP B (some i) a dd fs c.fs) W0 (IsR X.K) (fXf c.fs f)) (fXf c.fs f) := by
  refine DE.can ?_
  obtain ⟨C, ec, en⟩ := hc
  obtain ⟨x1, x2⟩ := hx _ hm C en
  refine ⟨_, pe_xf x1 x2 hz hf (pe_var (X := X.suite a ((a, oe) :: pn)) hN hv hd hcd) hb, fun b G H ω σ ρ rel Q post => ?_⟩
  have P := rel.pin ⟨i, a, dd, fs, c.fs⟩ (List.mem_cons_self ..)
  unfold fXf at post
  split at post
  · rename_i d e
    obtain ⟨v, l1, l2⟩ := P.fs.lookup e
    refine ⟨.ref a, by rw [rel.byr _ P.mem]; exact P.at', rfl, ec, ?_⟩
    rcases P.dd with ⟨h1, _⟩ | ⟨d0, h1, h2, h3⟩
    · have h1' : fs = [] := h1
      have l1' : fs.lookup f = some v := l1
      rw [h1'] at l1'
      cases l1'
    · exact ⟨d0, fs, v, h1, rel.old _ _ h3 h2, l1, Post.now rel post (l2.mono rel.leG)⟩
  · exact post.elim
end
end DL
set_option Elab.async false
set_option linter.all false
set_option maxRecDepth 100000
set_option maxHeartbeats 1000000
namespace DL
open PySem PySem.Spec PyProof.Rows L2

/-! ### C(..): a new object of an own class -/
section
variable {X : Cx} {B : By} {W : WX} {k : Nat} {f C : Addr} {fd : FuncData} {ps : List Str} {sp : Sp}
/-- a new object and its dict, then __init__ -/
theorem make_w2 {pins : List (Addr × Obj)} {σ : L2.St} {H G : Hp} {s : Shared} {Q : VK} {us : List Value} {kw : List (Str × Value)} {ga : List D → List D → List D} {vv zs : List V} {as ys : List D} (M : Mk X.K C f) (F : FnG X.prog X.w X.K X.mg X.base k f fd ps sp) (hr : RmG (k + 1) X.A) (tk : Takes X W)
    (I : Inv X pins σ H s) (hb : ∀ (s' : Shared) (x : Addr), X.K.In s'.heap → ∃ us' vs', BindsTo s' fd ⟨[.ref x] ++ us, kw⟩ (ps.zip ([.ref x] ++ us')) ∧ Vals vs' us' ∧ ∀ G as zs', IsAll X.K G vv as → IsAll X.K G zs zs' → IsAll X.K G vs' (ga as zs')) (iv : IsAll X.K G vv as) (iz : IsAll X.K G zs ys)
    (h : ∀ vs, IsAll X.K G vs (ga as ys) → ∀ x dx, H x = none → H dx = none → dx ≠ x → sp (.ref x :: vs) (L2.upd (L2.upd H dx (.own x)) x (.ins C dx [])) (fun v H2 => v = .non ∧ Q (.ref x) H2) (WE W σ)) :
    wpAny (model X.prog X.w) X.A (call (.ref C) us kw) (EP X pins σ Q) X.xe s := by
  have J := Inv.made (C := C) I
  obtain ⟨us', vs', hbi, rv, hi⟩ := hb _ (s.heap.objs.size + 1) J.kIn
  have q := h vs' (hi G as ys iv iz) (s.heap.objs.size + 1) s.heap.objs.size (I.hok.fresh (Nat.le_succ _)) (I.hok.fresh (Nat.le_refl _)) (Nat.ne_of_lt (Nat.lt_succ_self _))
  have rr : Vals (V.ref (s.heap.objs.size + 1) :: vs') (Value.ref (s.heap.objs.size + 1) :: us') := .cons rfl rv
  have run := F.run _ X.stack _ _ ⟨Value.ref (s.heap.objs.size + 1) :: us, kw⟩ (Value.ref (s.heap.objs.size + 1) :: us') _ _ (WE W σ) (hr.make C us kw) (J.env0.make C us kw) hbi rr q
  refine wpAny_call (make_map (f := f) I.kIn M.makes M.init (beq_iff_eq.mp M.fn) (codeAny_mono run fun res s' z => ?_))
  match res, z with
  | .error e, z => exact passAt tk σ pins _ _ e s' J z
  | .ok (.ret u), z =>
    obtain ⟨v, H', I3, rv, ev, q3⟩ := J.after z
    subst ev
    exact ⟨rv, ⟨V.ref (s.heap.objs.size + 1), H', I3, rfl, q3⟩⟩
  | .ok .next, z => exact False.elim z
  | .ok .brk, z => exact False.elim z
  | .ok .cont, z => exact False.elim z
end
def makeO (o : FOut) (ρ : DL.Env) : Out D := match o with
  | .ok .non [d] => .ok d ρ true
  | .ex c [_] => .ex c ρ
  | _ => .no
def makeF (n nk np : Nat) (cls : String) (ga : List D → List D → List D) (m : List D → FOut) (as zs : List D) (ρ : DL.Env) : Out D := if as.length = n ∧ zs.length = nk ∧ 1 + (ga as zs).length = np then makeO (m (.ob true cls [] :: ga as zs)) ρ else .no
def fMakeG (n nk np : Nat) (cls : String) (ga : List D → List D → List D) (m : List D → FOut) (F Fk : DL.Env → Out (List D)) : DL.Env → Out D := fun ρ => (F ρ).bind fun as ρ1 => (Fk ρ1).bind fun zs ρ2 => makeF n nk np cls ga m as zs ρ2
section
variable {K : PySem.W.Frag} {B : By} {W : WX} {b : Bs} {G H : Hp} {ω : Lb} {σ : L2.St} {ρ : DL.Env} {Q : VK}
theorem make_core {np : Nat} {m : List D → FOut} {cls : String} {C x dx : Addr} {vv : List V} {dv : List D} (R : Rel K b B G H ω σ ρ) (ns : PySem.W.nsIn K mainGlobals (cls : Str) = some (some (.ref C))) (hx : H x = none) (hdx : H dx = none) (hne : dx ≠ x)
    (iv : IsAll K G vv dv) (hn : 1 + vv.length = np) (post : Post K B W b G H ω σ (OwnR K) Q (makeO (m (.ob true cls [] :: dv)) ρ)) :
    spOf K 1 np m (.ref x :: vv) (upd (upd H dx (.own x)) x (.ins C dx [])) (fun v H2 => v = .non ∧ Q (.ref x) H2) (fun cls d H' => W cls d σ H') := by
  have Hs : Same H (upd (upd H dx (.own x)) x (.ins C dx [])) := (same_upd hdx).trans (same_upd (by rw [upd_ne hne.symm]; exact hx))
  have Gx : G x = none := same_none R.le hx
  have hw : ∀ a l, (fun a => if a = x then some ((0 : Nat), (none : Option Str)) else none) a = some l → a = x ∧ l = (0, none) := fun a l q => by
    dsimp only at q
    split at q
    · cases q; exact ⟨by assumption, rfl⟩
    · cases q
  refine ⟨.ob true cls [] :: dv, G, fun a => if a = x then some (0, none) else none, by rw [List.length_cons]; omega, by rw [List.length_cons, List.length_cons, iv.length], by omega, R.le.trans Hs, fun a l q => ?_, fun i d h => ?_, ?_⟩
  · obtain ⟨e1, e2⟩ := hw a l q
    subst e1 e2
    exact ⟨by decide, Gx, _, upd_same, rfl⟩
  · cases i with
    | zero =>
      cases h
      exact ⟨.ref x, rfl, .ob ns (by simp) upd_same .nil⟩
    | succ i =>
      obtain ⟨v, h1, h2⟩ := iv.get' (i := i) (by simpa using h)
      exact ⟨v, by simpa using h1, .frz h2⟩
  · have step : ∀ {bs : List D} {G' H' : Hp} {ω' : Lb}, FEnd K 1 G (upd (upd H dx (.own x)) x (.ins C dx [])) (fun a => if a = x then some (0, none) else none) (.ref x :: vv) bs G' H' ω' → Step G H G' H' := fun E => by
      refine ⟨E.g, fun a o h => ?_, fun a h g => E.hid a (Same.ne Hs h) g⟩
      have ax : a ≠ x := fun z => by rw [z, hx] at h; cases h
      exact E.keep a o (if_neg ax) (Hs a o h)
    cases e : m (.ob true cls [] :: dv) with
    | no => rw [e] at post; exact post.elim
    | ex c bs =>
      rw [e] at post
      intro cl dd G' H' ω' E i
      have lb := E.len
      match bs, lb with
      | [d0], _ => exact post cl dd G' H' ω (R.step (step E) E.le) (.step (step E)) i
    | ok d bs =>
      rw [e] at post
      intro v G' H' ω' ωt E ht o
      have lb := E.len
      match bs, lb with
      | [d0], _ =>
        cases d with
        | non =>
          have ev : v = .non := by
            have i := own_is o rfl
            cases i
            rfl
          refine ⟨ev, ?_⟩
          have st := step E
          obtain ⟨u, h1, h2⟩ := E.arg 0 d0 rfl
          cases h1
          refine post (.ref x) G' H' ω (R.step st E.le) (.step st) (fun _ => ⟨rfl, st.h⟩) ⟨ω', ⟨fun a ha => ?_⟩, h2⟩
          obtain ⟨l, hl⟩ := lab_of ha
          obtain ⟨y1, y2, y3, y4⟩ := E.own a l hl
          have Ha : H a = none := by
            rcases y4 with y4 | ⟨pp, y4⟩
            · cases q : H a with
              | none => rfl
              | some o => rw [Hs a o q] at y4; cases y4
            · rw [(hw a _ y4).1]; exact hx
          refine ⟨?_, y2, y3, R.dom a Ha, .inl Ha⟩
          cases q : ω a with
          | none => rfl
          | some l' => exact absurd Ha (R.own a l' q).2.1.ne
        | _ => exact post.elim
end
section
variable {X : Cx} {B : By} {W : WX} {k n np : Nat} {f C : Addr} {fd : FuncData} {ps ks : List Str} {ga : List D → List D → List D} {m : List D → FOut} {cls : String} {p pos : Pos} {es : List Expr} {kws : List Keyword} {t tw : TA} {F Fk : DL.Env → Out (List D)}
/-- C(e, .., k = v, ..) -/
theorem o_makeG (M : Mk X.K C f) (Fn : FnG X.prog X.w X.K X.mg X.base k f fd ps (spOf X.K 1 np m)) (hr : RmG (k + 1) X.A) (tk : Takes X W) (hm : X.mg (cls : Str) = some (.ref C)) (ns : PySem.W.nsIn X.K mainGlobals (cls : Str) = some (some (.ref C))) (hb : BP X.K fd ps 1 n ks ga)
    (ha : DA X B W es t F) (hw : DKw X B W kws tw Fk) (Ck : CallOk X pos es kws ks := by exact ⟨by first | exact trivial | rfl, by rfl, by rfl, by rfl⟩) (hn : es = [] → t = tNil := by first | exact fun _ => rfl | exact fun h => by cases h) (hg : Gl X (cls : Str) := by rfl)
    (hdb : ((cls : Str) == ("__debug__" : Str)) = false := by decide) : DO X B W (.Call (.Name (cls : Str) p) es kws pos) (tOfE X.K B W (OwnR X.K) (fMakeG n ks.length np cls ga m F Fk)) (fMakeG n ks.length np cls ga m F Fk) :=
  do_of fun pins s b G H ω σ ρ Q I rel post => by
    apply wpAny_Call_Name_kw
    refine ld_glob I hg hm ?_ hdb
    refine call_args Ck M.kp ha.pa hn hw.pk I (left_of (js := []) (G1 := fun ρ as zs => makeF n ks.length np cls ga m as zs ρ) rel (db_of ha).sat hw.sat post) fun us ws s2 vs zs H2 I2 r rz q => ?_
    obtain ⟨G2, ω2, ρ2, as, ys, vb, vv, rel2, ev, hl, iv, iz, p⟩ := q
    cases hl
    subst ev
    dsimp only at p
    unfold makeF at p
    split at p
    · rename_i hc
      obtain ⟨c1, c2, c3⟩ := hc
      have l1 : us.length = n := by rw [← r.length]; exact iv.length.trans c1
      have l2 : ws.length = ks.length := by rw [← rz.length, iz.length]; exact c2
      have hb' : ∀ (s' : Shared) (x : Addr), X.K.In s'.heap → ∃ us' vs', BindsTo s' fd ⟨[.ref x] ++ us, ks.zip ws⟩ (ps.zip ([.ref x] ++ us')) ∧ Vals vs' us' ∧ ∀ G as zs', IsAll X.K G vs as → IsAll X.K G zs zs' → IsAll X.K G vs' (ga as zs') := fun s' x kin => hb s' [.ref x] us ws _ zs kin rfl l1 l2 r rz
      exact make_w2 M Fn hr tk I2 hb' iv iz fun vs' i' x dx hx hdx hne => make_core rel2 ns hx hdx hne i' (by rw [i'.length]; exact c3) p
    · exact p.elim
end
end DL
set_option Elab.async false
set_option linter.all false
set_option maxRecDepth 100000
set_option maxHeartbeats 1000000
namespace DL
open PySem PySem.Spec PyProof.Rows L2

/-! ### fields of objects -/
/-- f is a field, no more, in the classes of these names -/
def Fl (K : PySem.W.Frag) (f : Str) (cs : List String) : Prop := ∀ c ∈ cs, ∀ C : Addr, PySem.W.nsIn K mainGlobals (c : Str) = some (some (.ref C)) → L2.Cls K C ∧ NoAttr K C f
def fldO (f : Str) (cs : List String) (a : D) (ρ : DL.Env) : Out D := match a with
  | .ob _ c fs => if c ∈ cs then (match fs.lookup f with
    | some d => if owned d = true then .no else .ok d ρ true
    | none => .no) else .no
  | _ => .no
def fFld (f : Str) (cs : List String) (F : DL.Env → Out D) : DL.Env → Out D := fun ρ => (F ρ).bind fun a ρ1 => fldO f cs a ρ1
/-- of an object in a slot, owned or not -/
def fFldS (j : Nat) (f : Str) (cs : List String) : DL.Env → Out D := fun ρ => match ρ[j]? with
  | some (some a) => fldO f cs a ρ
  | _ => .no
def putD (f : Str) (d : D) : List (Str × D) → List (Str × D)
  | [] => [(f, d)]
  | (g, x) :: r => if g = f then (g, d) :: r else (g, x) :: putD f d r
section
variable {K : PySem.W.Frag} {B : By} {W : WX} {f : Str} {cs : List String}
theorem sat_fld {t : TE} {F : DL.Env → Out D} (hf : Fl K f cs) (h : Sat K B W (IsR K) t F) : Sat K B W (IsR K) (tFld K t f) (fFld f cs F) :=
  Sat.bind (R' := IsR K) (Fu := fun a ρ1 => fldO f cs a ρ1) (t := t) (u := fun x σ H Q => ∃ a C dx fs v, x = .ref a ∧ H a = some (.ins C dx fs) ∧ L2.Cls K C ∧ NoAttr K C f ∧ fs.lookup f = some v ∧ Q v H) h fun b Hs ωs G H ω σ ρ rel x a i Q post => by
    cases i <;> first
      | exact post.elim
      | skip
    rename_i l C dx c fs ds ns hg hfs
    unfold fldO at post
    dsimp only at post
    split at post
    · rename_i hc
      obtain ⟨k1, k2⟩ := hf c hc C ns
      split at post
      · rename_i d e
        split at post
        · exact post.elim
        · obtain ⟨v, h1, h2⟩ := hfs.lookup e
          exact ⟨l, C, dx, fs, v, rfl, rel.le _ _ hg, k1, k2, h1, Post.now rel post h2⟩
      · exact post.elim
    · exact post.elim
theorem OwnFs.get {G H : Hp} {ω : Lb} {i : Nat} : ∀ {fs : List (Str × V)} {ds : List (Str × D)} {d : D}, OwnFs K G H ω i fs ds → ds.lookup f = some d → ∃ v, fs.lookup f = some v ∧ Own1 K G H ω (i, some f) v d
  | _, _, _, .nil, h => by simp at h
  | _, _, d, .cons (n := n) h r, e => by
    by_cases c : f = n
    · subst c
      simp [List.lookup] at e ⊢
      subst e
      exact h
    · have c' : (f == n) = false := by simpa using c
      simp only [List.lookup, c'] at e ⊢
      exact OwnFs.get r e
theorem sat_fldS {j : Nat} (hf : Fl K f cs) : Sat K B W (IsR K) (tFld K (tVar j) f) (fFldS j f cs) := by
  intro b G H ω σ ρ rel Q post
  unfold fFldS at post
  split at post
  · rename_i a e
    obtain ⟨x, h1, h2⟩ := rel.slot j a e
    refine ⟨x, h1, ?_⟩
    unfold fldO at post
    split at post
    · rename_i o c ds
      split at post
      · rename_i hc
        split at post
        · rename_i d e2
          split at post
          · exact post.elim
          · rename_i od
            have od' : owned d = false := by simpa using od
            cases h2 with
            | one h2 =>
              cases h2 with
              | frz i =>
                cases i with
                | ob ns hg hfs =>
                  obtain ⟨k1, k2⟩ := hf c hc _ ns
                  obtain ⟨v, y1, y2⟩ := hfs.lookup e2
                  exact ⟨_, _, _, _, v, rfl, rel.le _ _ hg, k1, k2, y1, Post.now rel post y2⟩
            | ob ns hw hh hfs =>
              obtain ⟨k1, k2⟩ := hf c hc _ ns
              obtain ⟨v, y1, y2⟩ := hfs.get e2
              have y3 : Is K G v d := by
                cases y2 with
                | frz i => exact i
                | lst _ _ _ => exact absurd od' (by simp [owned])
                | dctK _ _ _ => exact absurd od' (by simp [owned])
                | dctT _ _ _ => exact absurd od' (by simp [owned])
              exact ⟨_, _, _, _, v, rfl, hh, k1, k2, y1, Post.now rel post y3⟩
        · exact post.elim
      · exact post.elim
    · exact post.elim
  · exact post.elim
end
section
variable {X : Cx} {B : By} {W : WX} {e : Expr} {te : TE} {Fe : DL.Env → Out D} {f : Str} {cs : List String} {pos px : Pos} {x : Str}
theorem d_fld (hf : Fl X.K f cs) (h : DE X B W e te Fe) (hb : attributeBase e f X.env (eval e X.env) = eval e X.env := by rfl) : DE X B W (.Attribute e f pos) (tFld X.K te f) (fFld f cs Fe) := ⟨pe_fld h.pe hb, sat_fld hf h.sat⟩
theorem d_fldS (j : Nat) (hf : Fl X.K f cs) (hN : X.N[j]? = some x := by rfl) (hv : Vis X.env.scope x := by first | exact Or.inl rfl | exact Or.inr (Or.inl rfl) | exact Or.inr (Or.inr rfl)) (hd : (x == ("__debug__" : Str)) = false := by decide)
    (hcd : (x == ("__classdict__" : Str)) = false := by decide) (hb : attributeBase (.Name x px) f X.env (eval (.Name x px) X.env) = eval (.Name x px) X.env := by rfl) : DE X B W (.Attribute (.Name x px) f pos) (tFld X.K (tVar j) f) (fFldS j f cs) := ⟨pe_fld (pe_var hN hv hd hcd) hb, sat_fldS hf⟩
end
end DL
set_option Elab.async false
set_option linter.all false
set_option maxRecDepth 100000
set_option maxHeartbeats 1000000
namespace DL
open PySem PySem.Spec PyProof.Rows L2
/-! ### self.f = e -/
def setO (j : Nat) (f : Str) (cs : List String) (d : D) (ρ : DL.Env) : Option (Option D) → Option DL.Env
  | some (some (.ob true c fs)) => if c ∈ cs ∧ fs.length < 1000 ∧ okField d = true then some (ρ.set j (some (.ob true c (putD f d fs)))) else none
  | _ => none
where okField : D → Bool
  | .ob o _ _ => !o
  | .dct _ _ _ => true
  | _ => true
def gFld (j : Nat) (f : Str) (cs : List String) : D → DL.Env → Option DL.Env := fun d ρ => setO j f cs d ρ ρ[j]?
section
variable {K : PySem.W.Frag} {B : By} {W : WX} {f : Str} {cs : List String}
theorem OwnFs.length {G H : Hp} {ω : Lb} {i : Nat} : ∀ {fs : List (Str × V)} {ds : List (Str × D)}, OwnFs K G H ω i fs ds → fs.length = ds.length
  | _, _, .nil => rfl
  | _, _, .cons _ r => congrArg (· + 1) r.length
/-- the object's own node changes, its fields' nodes stay -/
theorem OwnFs.put {G H : Hp} {ω : Lb} {i : Nat} {a : Addr} {o : HO} {v : V} {d : D} (ha : ω a = some (i, none)) (hv : Own1 K G (L2.upd H a o) ω (i, some f) v d) : ∀ {fs : List (Str × V)} {ds : List (Str × D)}, OwnFs K G H ω i fs ds → OwnFs K G (L2.upd H a o) ω i (putF f v fs) (putD f d ds) := by
  have keep : ∀ {n : Str} {u : V} {e : D}, Own1 K G H ω (i, some n) u e → Own1 K G (L2.upd H a o) ω (i, some n) u e := fun {n u e} h => by
    cases h with
    | frz z => exact .frz z
    | lst h1 h2 h3 =>
      refine .lst h1 ?_ h3
      rw [upd_ne (fun z => by rw [z, ha] at h1; cases h1)]
      exact h2
    | dctK h1 h2 h3 =>
      refine .dctK h1 ?_ h3
      rw [upd_ne (fun z => by rw [z, ha] at h1; cases h1)]
      exact h2
    | dctT h1 h2 h3 =>
      refine .dctT h1 ?_ h3
      rw [upd_ne (fun z => by rw [z, ha] at h1; cases h1)]
      exact h2
  have all : ∀ {fs : List (Str × V)} {ds : List (Str × D)}, OwnFs K G H ω i fs ds → OwnFs K G (L2.upd H a o) ω i fs ds := by
    intro fs ds h
    induction h with
    | nil => exact .nil
    | cons h _ ih => exact .cons (keep h) ih
  intro fs ds h
  induction fs generalizing ds with
  | nil =>
    cases h
    exact .cons hv .nil
  | cons p fs ih =>
    cases h with
    | cons h r =>
      rename_i n u e ds'
      unfold putF putD
      by_cases c : n = f
      · rw [if_pos c, if_pos c]
        subst c
        exact .cons hv (all r)
      · rw [if_neg c, if_neg c]
        exact .cons (keep h) (ih r)
/-- the nodes of a value that stands nowhere get a label -/
def relab (ωt ω : Lb) (l : Nat × Option Str) : Lb := fun a => match ωt a with
  | some _ => some l
  | none => ω a
theorem relab_at {ωt ω : Lb} {l : Nat × Option Str} {a : Addr} (h : ωt a ≠ none) : relab ωt ω l a = some l := by
  unfold relab
  split
  · rfl
  · rename_i e; exact absurd e h
theorem relab_ne {ωt ω : Lb} {l : Nat × Option Str} {a : Addr} (h : ωt a = none) : relab ωt ω l a = ω a := by
  unfold relab
  rw [h]
theorem Rel.relab {b : Bs} {Hs : Hp} {ωs : Lb} {G H : Hp} {ω ωt : Lb} {σ : L2.St} {ρ : DL.Env} (R : Rel K b B G H ω σ ρ) (T : Tmp b Hs ωs G H ω ωt) (l : Nat × Option Str) : Rel K b B G H (DL.relab ωt ω l) σ ρ where
  le := R.le
  leG := R.leG
  old := R.old
  dom := R.dom
  fr := R.fr
  own := fun a m h => by
    by_cases c : ωt a = none
    · rw [relab_ne c] at h
      exact R.own a m h
    · obtain ⟨h1, h2, h3, h4, h5⟩ := T.at' a c
      exact ⟨h2, h3, .inl h4⟩
  bB := R.bB
  len := R.len
  slot := fun i d e => by
    obtain ⟨v, h1, h2⟩ := R.slot i d e
    refine ⟨v, h1, h2.go (Same.refl _) fun a p q => ⟨?_, rfl⟩⟩
    by_cases c : ωt a = none
    · rw [relab_ne c]; exact q
    · have := (T.at' a c).1
      rw [q] at this
      cases this
  byr := R.byr
  pin := R.pin
theorem tr_relab {b : Bs} {Hs Gs : Hp} {ωs : Lb} {G H : Hp} {ω ωt : Lb} {l : Nat × Option Str} (t : Tr Gs Hs ωs G H ω) (T : Tmp b Hs ωs G H ω ωt) : Tr Gs Hs ωs G H (DL.relab ωt ω l) where
  g := t.g
  keep := fun a o h e => by
    obtain ⟨k1, k2⟩ := t.keep a o h e
    refine ⟨k1, ?_⟩
    by_cases c : ωt a = none
    · rw [relab_ne c]; exact k2
    · rcases (T.at' a c).2.2.2.2 with y | y
      · rw [e] at y; cases y
      · exact absurd h y
  hid := t.hid
  dom := t.dom
theorem sg_fld {j : Nat} (hf : Fl K f cs) : SatG K B (fun v σ H Q => ∃ x, σ[j]? = some (some x) ∧ ∃ a C dx fs, x = .ref a ∧ H a = some (.ins C dx fs) ∧ L2.Cls K C ∧ NoAttr K C f ∧ fs.length < 1000 ∧ Q σ (L2.upd H a (.ins C dx (putF f v fs)))) (gFld j f cs) := by
  intro b Gs Hs ωs G H ω σ ρ rel t v d o Q post
  unfold gFld at post
  cases e : ρ[j]? with
  | none => rw [e] at post; exact post.elim
  | some q =>
    rw [e] at post
    cases q with
    | none => exact post.elim
    | some ob =>
      cases ob with
      | ob ow c ds =>
        cases ow with
        | false => exact post.elim
        | true =>
          have p' : PostG K B b Gs Hs ωs Q (if c ∈ cs ∧ ds.length < 1000 ∧ setO.okField d = true then some (ρ.set j (some (.ob true c (putD f d ds)))) else none) := post
          split at p'
          · rename_i hc
            obtain ⟨x, h1, h2⟩ := rel.slot j _ e
            obtain ⟨ωt, T, o⟩ := o
            have rel2 := rel.relab T (j, some f)
            have t2 := tr_relab (l := (j, some f)) t T
            cases h2 with
            | one h2 => cases h2 with | frz z => cases z
            | @ob a C dx c' fv fe ns hw hh hfs =>
              obtain ⟨k1, k2⟩ := hf c hc.1 _ ns
              refine ⟨_, h1, _, _, _, _, rfl, hh, k1, k2, by rw [hfs.length]; exact hc.2.1, ?_⟩
              have hw2 : DL.relab ωt ω (j, some f) a = some (j, none) := by
                by_cases z : ωt a = none
                · rw [relab_ne z]; exact hw
                · have y := (T.at' a z).1
                  rw [hw] at y
                  cases y
              have hfs2 : OwnFs K G H (DL.relab ωt ω (j, some f)) j fv ds := hfs.go (Same.refl _) fun a p q => by
                refine ⟨?_, rfl⟩
                by_cases z : ωt a = none
                · rw [relab_ne z]; exact q
                · have y := (T.at' a z).1
                  rw [q] at y
                  cases y
              have hv : Own1 K G (L2.upd H a (.ins C dx (putF f v fv))) (DL.relab ωt ω (j, some f)) (j, some f) v d := by
                cases o with
                | one o1 =>
                  cases o1 with
                  | frz i => exact .frz i
                  | lst y1 y2 y3 =>
                    refine .lst (relab_at (by rw [y1]; simp)) ?_ y3
                    rw [upd_ne (fun z => by
                      rw [z] at y1
                      have y := (T.at' a (by rw [y1]; simp)).1
                      rw [hw] at y
                      cases y)]
                    exact y2
                  | dctK y1 y2 y3 =>
                    refine .dctK (relab_at (by rw [y1]; simp)) ?_ y3
                    rw [upd_ne (fun z => by
                      rw [z] at y1
                      have y := (T.at' a (by rw [y1]; simp)).1
                      rw [hw] at y
                      cases y)]
                    exact y2
                  | dctT y1 y2 y3 =>
                    refine .dctT (relab_at (by rw [y1]; simp)) ?_ y3
                    rw [upd_ne (fun z => by
                      rw [z] at y1
                      have y := (T.at' a (by rw [y1]; simp)).1
                      rw [hw] at y
                      cases y)]
                    exact y2
                | ob _ _ _ _ => exact absurd hc.2.2 (by simp [setO.okField])
              exact p' σ G _ _ (rel2.upd hw2 h1 (.ob ns hw2 upd_same (hfs2.put hw2 hv))) (t2.trans (tr_upd hw2))
          · exact p'.elim
      | _ => exact post.elim
end
section
variable {X : Cx} {B : By} {W : WX} {f : Str} {cs : List String} {pos px pos' : Pos} {x : Str} {e : Expr} {te : TE} {Fe : DL.Env → Out D}
theorem dg_fld (j : Nat) (hf : Fl X.K f cs) (hN : X.N[j]? = some x := by rfl) (hv : Vis X.env.scope x := by first | exact Or.inl rfl | exact Or.inr (Or.inl rfl) | exact Or.inr (Or.inr rfl)) (hd : (x == ("__debug__" : Str)) = false := by decide)
    (hcd : (x == ("__classdict__" : Str)) = false := by decide)
    (ha : ∀ v, assign (.Attribute (.Name x px) f pos') X.env v = (do
      let ov ← holding [v] (eval (.Name x px) X.env)
      standAt pos'.atName
      holding [v, ov] (setAttr ov f v)
      release [v, ov] []) := by intro _; rfl) :
    DG X B (.Attribute (.Name x px) f pos') (fun v σ H Q => ∃ x, σ[j]? = some (some x) ∧ ∃ a C dx fs, x = .ref a ∧ H a = some (.ins C dx fs) ∧ L2.Cls X.K C ∧ NoAttr X.K C f ∧ fs.length < 1000 ∧ Q σ (L2.upd H a (.ins C dx (putF f v fs)))) (gFld j f cs) where
  pg := ⟨fun pins s σ H v u Q I r h => by
    obtain ⟨y, h1, a, C, dx, fs, ey, ea, c, n, l, q⟩ := h
    rw [ha]
    refine wpAny_bind (wpAny_holding (thn ((pe_var hN hv hd hcd).run pins s σ H (fun z H1 => z = .ref a ∧ H1 = H) I ⟨_, h1, ey, rfl⟩) ?_))
    rintro ov s1 ⟨z, H1, I1, r1, ez, eh⟩
    subst ez eh
    obtain rfl : ov = Value.ref a := r1
    refine wpAny_bind (wpAny_standAt (wpAny_bind (wpAny_holding (setattr_ok I1 ea c n l r fun s3 I3 => ?_))))
    exact wpAny_release ⟨σ, _, I3, q⟩⟩
  sat := sg_fld hf
theorem ds_setF (j : Nat) (hf : Fl X.K f cs) (h : DO X B W e te Fe) (hN : X.N[j]? = some x := by rfl) (hv : Vis X.env.scope x := by first | exact Or.inl rfl | exact Or.inr (Or.inl rfl) | exact Or.inr (Or.inr rfl)) (hd : (x == ("__debug__" : Str)) = false := by decide)
    (hcd : (x == ("__classdict__" : Str)) = false := by decide) (hs : swapsWith e (some (.Attribute (.Name x px) f pos')) pos.line X.env = pure false := by rfl) :
    DS X B W (.Assign [.Attribute (.Name x px) f pos'] e pos) (sFld X.K (tVar j) te f) (sAsg Fe (gFld j f cs)) where
  ps := ps_fld (pe_var hN hv hd hcd) h.pe hs
  sat := fun b G H ω σ ρ rel Dn post => by
    have q := ss_asg (W := W) h.sat (sg_fld (B := B) (j := j) hf) b G H ω σ ρ rel Dn post
    exact q
end
/-! ### a, b = a list -/
def gTL (n : Nat) (F : List D → DL.Env → Option DL.Env) : D → DL.Env → Option DL.Env := fun d ρ => match d with
  | .tup ds => if ds.length = n then F ds ρ else none
  | .lst _ ds => if ds.length = n then F ds ρ else none
  | _ => none
theorem own_list {K : PySem.W.Frag} {b : Bs} {Hs : Hp} {ωs : Lb} {G H : Hp} {ω : Lb} {v : V} {o : Bool} {ds : List D} (le : Same G H) (h : OwnR K b Hs ωs G H ω v (.lst o ds)) : ∃ a xs, v = .ref a ∧ Rd H a (.lst xs) ∧ IsAll K G xs ds := by
  obtain ⟨ωt, T, h⟩ := h
  cases h with
  | one h =>
    cases h with
    | frz i => cases i with | lst y1 y2 => exact ⟨_, _, rfl, same_rd le y1, y2⟩
    | lst y1 y2 y3 => exact ⟨_, _, rfl, Rd.of y2, y3⟩
section
variable {X : Cx} {B : By}
theorem dg_tupL {es : List Expr} {k n : Nat} {pos : Pos} {gs : TGs} {Fr : List D → DL.Env → Option DL.Env} (hc : X.calm = true) (h : DGs X B es gs Fr)
    (hn : (assignEach es X.env).length = n := by rfl) (hst : (assignEach es X.env).findIdx? (·.1) = none := by rfl) : DG X B (.Tuple es k pos) (fun v σ H Q => gTup X.K n gs v σ H Q ∨ gLst X.K n gs v σ H Q) (gTL n Fr) where
  pg := ⟨fun pins s σ H v u Q I r hw => by
    rcases hw with hw | hw
    · exact (pg_tup hc h.pgs hn hst).run pins s σ H v u Q I r hw
    · exact (pg_lst hc h.pgs hn hst).run pins s σ H v u Q I r hw⟩
  sat := by
    intro b Gs Hs ωs G H ω σ ρ rel t v d o Q post
    unfold gTL at post
    split at post
    · left
      refine sg_tup (n := n) h.sat b Gs Hs ωs G H ω σ ρ rel t v _ o Q ?_
      unfold gT
      exact post
    · right
      split at post
      · rename_i hl
        obtain ⟨a, xs, e1, e2, e3⟩ := own_list rel.le o
        exact ⟨a, xs, e1, .inl e2, by rw [e3.length]; exact hl, h.sat b Gs Hs ωs G H ω σ ρ rel t xs _ e3 Q post⟩
      · exact post.elim
    · exact post.elim
end
end DL
set_option Elab.async false
set_option linter.all false
set_option maxRecDepth 100000
set_option maxHeartbeats 1000000
namespace DL
open PySem PySem.Spec PyProof.Rows L2
/-! ### a < b < c: the first comparison gives a value of its own -/
def chainO (g' : D → D → Res) (Fc : DL.Env → Out D) (c : D) (ρ : DL.Env) : Res → Out D
  | .val (.bl true) => (Fc ρ).bind fun d ρ3 => resE (g' c d) ρ3
  | .val (.bl false) => .ok (.bl false) ρ true
  | _ => .no
def fChain (g g' : D → D → Res) (Fa Fb Fc : DL.Env → Out D) : DL.Env → Out D := fun ρ => (Fa ρ).bind fun a ρ1 => (Fb ρ1).bind fun c ρ2 => chainO g' Fc c ρ2 (g a c)
section
variable {K : PySem.W.Frag} {B : By} {W : WX} {r r' : R2} {g g' : D → D → Res} {ta tb tc : TE} {Fa Fb Fc : DL.Env → Out D}
theorem Post.later {α β : Type} {b : Bs} {G H G' H' : Hp} {ω : Lb} {σ : L2.St} {R : Rep α β} [Back R] {Q : β → Hp → Prop} (st : Step G H G' H') : ∀ {o : Out α}, Post K B W b G H ω σ R Q o → Post K B W b G' H' ω σ R Q o
  | .ok a ρ q, p => fun x G4 H4 ω4 r t hq i => p x G4 H4 ω4 r ((Tr.step st).trans t) (fun z => ⟨(hq z).1, st.h.trans (hq z).2⟩) (Back.back (Tr.step st) i)
  | .ex c ρ, p => fun cls dd G4 H4 ω4 r t i => p cls dd G4 H4 ω4 r ((Tr.step st).trans t) i
  | .no, p => p.elim
theorem sat_chain (hr : OpV K r g) (hr' : OpV K r' g') (ha : Sat K B W (IsR K) ta Fa) (hb : Sat K B W (IsR K) tb Fb) (hc : Sat K B W (IsR K) tc Fc) : Sat K B W (IsR K) (tChain r r' ta tb tc) (fChain g g' Fa Fb Fc) := by
  intro b G H ω σ ρ rel Q post
  refine ha.at (R' := IsR K) (Q := Q) rel post fun G1 H1 ω1 ρ1 x a rel1 s1 ia p1 => ?_
  refine hb.at (R' := IsR K) (Q := Q) rel1 p1 fun G2 H2 ω2 ρ2 y c rel2 s2 ib p2 => ?_
  refine hr G2 H2 x y a c rel2.le (ia.mono s2.g) ib _ ?_
  cases e : g a c with
  | no => rw [e] at p2; exact p2.elim
  | new ds => rw [e] at p2; exact p2.elim
  | val d =>
    rw [e] at p2
    cases d with
    | bl k =>
      intro v G' H' st le iv
      cases iv
      have rel3 := rel2.step st le
      refine ⟨k, rfl, ?_⟩
      cases k with
      | false =>
        rw [if_neg (by decide)]
        exact p2 (.bl false) G' H' ω2 rel3 (.step st) (fun _ => ⟨rfl, st.h⟩) (.bl false)
      | true =>
        rw [if_pos rfl]
        have p3 : Post K B W b G' H' ω2 σ (IsR K) Q ((Fc ρ2).bind fun d ρ3 => resE (g' c d) ρ3) := Post.later st p2
        refine hc.at (R' := IsR K) (Q := Q) rel3 p3 fun G4 H4 ω4 ρ4 z d rel4 s4 ic p4 => ?_
        exact hr' G4 H4 y z c d rel4.le ((ib.mono st.g).mono s4.g) ic Q (res_e rel4 p4)
    | _ => exact p2.elim
end
section
variable {X : Cx} {B : By} {W : WX} {e1 e2 e3 : Expr} {op op' : CmpOp} {r r' : R2} {g g' : D → D → Res} {ta tb tc : TE} {Fa Fb Fc : DL.Env → Out D} {pos : Pos}
theorem d_chain (ho : OpR X (compareOp op) r) (ho' : OpR X (compareOp op') r') (hr : OpV X.K r g) (hr' : OpV X.K r' g') (ha : DE X B W e1 ta Fa) (hb : DE X B W e2 tb Fb) (hc : DE X B W e3 tc Fc)
    (hm : lastMarks [op, op'] [e2, e3] = false := by with_unfolding_all rfl) : DE X B W (.Compare e1 [op, op'] [e2, e3] pos) (tChain r r' ta tb tc) (fChain g g' Fa Fb Fc) := ⟨pe_chain ho ho' ha.pe hb.pe hc.pe hm, sat_chain hr hr' ha.sat hb.sat hc.sat⟩
theorem t_chain (ho : OpR X (compareOp op) r) (ho' : OpR X (compareOp op') r') (hr : OpV X.K r g) (hr' : OpV X.K r' g') (ha : DE X B W e1 ta Fa) (hb : DE X B W e2 tb Fb) (hc : DE X B W e3 tc Fc)
    (hm : lastMarks [op, op'] [e2, e3] = false := by with_unfolding_all rfl) : DT X B W (.Compare e1 [op, op'] [e2, e3] pos) (tTest (tChain r r' ta tb tc)) (fTst (fChain g g' Fa Fb Fc)) := ⟨pt_chain ho ho' ha.pe hb.pe hc.pe hm, sat_tst (sat_chain hr hr' ha.sat hb.sat hc.sat)⟩
end
end DL
set_option Elab.async false
set_option linter.all false
set_option maxRecDepth 100000
set_option maxHeartbeats 1000000
/-! repr of data of any depth. -/
namespace DL
open PySem PySem.Spec PyProof.Rows L2
def ReprFits (p : PyData) : Prop := p.showable = true ∧ p.shown.length ≤ sizeLine ∧ p.depth ≤ 40 ∧ p.hasDict = false
instance (p : PyData) : Decidable (ReprFits p) := by unfold ReprFits; infer_instance
def reprP (d : D) : Res := match toPy d with
  | some p => if ReprFits p then .val (.str p.shown) else .no
  | none => .no
def reprG : List D → Res
  | [.tup ds] => reprP (.tup ds)
  | [.lst o ds] => reprP (.lst o ds)
  | [.ro ds] => reprP (.ro ds)
  | as => reprD as
def rReprG (K : PySem.W.Frag) : List V → Hp → VK → Prop := fun xs H Q => rReprF xs H Q ∨ ∃ a p, xs = [.ref a] ∧ Dp K H (.ref a) p ∧ ReprFits p ∧ Q (.str p.shown) H
theorem call_reprG {X : Cx} (hu : X.A.units + 64 < cLine) (hg : X.A.guards = some []) : CallR X (.builtin "repr") (rReprG X.K) := by
  intro pins s σ H xs us Q I r h
  rcases h with h | ⟨a, p, rfl, hp, ⟨h1, h2, h3, h4⟩, q⟩
  · exact call_reprF pins s σ H xs us Q I r h
  · cases r with
    | cons r rr =>
      cases rr
      obtain ⟨as, rd⟩ := Dp.reads I p _ _ hp r
      have r' : _ = Value.ref a := r
      subst r'
      exact repr_of_reads' rd h1 (PyData.noDict_hsm h4) hg (by omega) (fun _ _ e => e) (fun h' u tk hk => ⟨.str p.shown, H, I.kept (t' := tk) hk, ⟨u, rfl⟩, q⟩) h2
theorem reprG_v {K : PySem.W.Frag} : CallV K (rReprG K) reprG := by
  intro G H xs as le i Q post
  have go : ∀ {v : V} {a : Addr} {d : D}, Is K G v d → v = .ref a → PostR K G H Q (reprP d) → rReprG K [v] H Q := by
    intro v a d i e p
    subst e
    unfold reprP at p
    split at p
    · rename_i q e
      split at p
      · rename_i hf
        exact .inr ⟨a, q, rfl, dp_of le i e, hf, p.here le (.str _)⟩
      · exact p.elim
    · exact p.elim
  unfold reprG at post
  split at post
  · cases i with
    | cons i r => cases r; cases i with | tup h r => exact go (.tup h r) rfl post
  · cases i with
    | cons i r => cases r; cases i with | lst h r => exact go (.lst h r) rfl post
  · cases i with
    | cons i r => cases r; cases i with | ro h r => exact go (.ro h r) rfl post
  · exact .inl (repr_v G H xs _ le i Q post)
end DL
set_option Elab.async false
set_option linter.all false
set_option maxRecDepth 100000
set_option maxHeartbeats 1000000
/-! How calls of the text's defs bind: one lemma a kind of def. -/
namespace DL
open PySem PySem.Spec PyProof.Rows L2
section
variable {K : PySem.W.Frag} {x qual : Str} {params : Arguments} {body : List Stmt} {scope : Scope} {dvs : List V} {kws ms : List (Str × V)} {f : Addr} {fd : FuncData} {ps ks : List Str} {nb n : Nat} {plan : List Src} {dd : List D}
/-- no default is looked up -/
theorem bp_n (F : FunD K x qual params body scope [] kws f fd)
    (h : ∀ (kV doc pm : Value) (an : Option Addr) (cdv ct : Value) (us ws : List Value), us.length = nb + n → ws.length = ks.length → bindArgs (PySem.W.fnOf x qual params body scope .none kV doc pm an cdv ct) ⟨us, ks.zip ws⟩ = pure (ps.zip (us.take nb ++ arr .none plan [] (us.drop nb) ws))) :
    BP K fd ps nb n ks (arr .non plan []) := by
  obtain ⟨oc, od, dV, kV, doc, pm, an, cdv, ct, osl, rfl, lk, hcd, hD, hK⟩ := F.ex
  rcases hD with ⟨_, rfl⟩ | ⟨e, _⟩
  · exact bp_plan .nil .nil fun s us ws _ l1 l2 => .of_eq (h kV doc pm an cdv ct us ws l1 l2)
  · exact absurd rfl e
/-- positional values alone, all written -/
theorem bp_all (F : FunD K x qual params body scope [] kws f fd)
    (h : ∀ (kV doc pm : Value) (an : Option Addr) (cdv ct : Value) (us : List Value), us.length = nb + n → bindArgs (PySem.W.fnOf x qual params body scope .none kV doc pm an cdv ct) ⟨us, []⟩ = pure (ps.zip us)) : BP K fd ps nb n [] fun as _ => as := by
  obtain ⟨oc, od, dV, kV, doc, pm, an, cdv, ct, osl, rfl, lk, hcd, hD, hK⟩ := F.ex
  rcases hD with ⟨_, rfl⟩ | ⟨e, _⟩
  · exact bp_id fun s us l => .of_eq (h kV doc pm an cdv ct us l)
  · exact absurd rfl e
/-- positional defaults -/
theorem bp_d (F : FunD K x qual params body scope dvs kws f fd) (hd : dvs ≠ []) (c : Const K dvs dd)
    (h : ∀ (T : Addr) (kV doc pm : Value) (an : Option Addr) (cdv ct : Value) (us ws its : List Value), us.length = nb + n → ws.length = ks.length → its.length = dvs.length →
      ∃ k, bindArgs (PySem.W.fnOf x qual params body scope (.ref T) kV doc pm an cdv ct) ⟨us, ks.zip ws⟩ = seqItems? (.ref T) >>= k ∧ k (some its.toArray) = pure (ps.zip (us.take nb ++ arr .none plan its (us.drop nb) ws))) :
    BP K fd ps nb n ks (arr .non plan dd) := by
  obtain ⟨oc, od, dV, kV, doc, pm, an, cdv, ct, osl, rfl, lk, hcd, hD, hK⟩ := F.ex
  rcases hD with ⟨e, _⟩ | ⟨_, T, o, its, m, rfl, lT, oT, rT⟩
  · exact absurd e hd
  · refine bp_plan rT c fun s us ws kin l1 l2 => ?_
    obtain ⟨k, e1, e2⟩ := h T kV doc pm an cdv ct us ws its l1 l2 rT.length.symm
    refine BindsTo.of_looks fun M => ?_
    rw [e1]
    exact looks_items kin lT oT (.of_pure e2)
/-- keyword-only defaults -/
theorem bp_k (F : FunD K x qual params body scope [] kws f fd) (hk : kws ≠ []) (hms : ∀ q ∈ ms, q ∈ kws) (c : Const K (ms.map (·.2)) dd)
    (h : ∀ (D : Addr) (doc pm : Value) (an : Option Addr) (cdv ct : Value) (us ws mv : List Value), us.length = nb + n → ws.length = ks.length → mv.length = ms.length →
      KwChain D ((ms.map (·.1)).zip mv) (bindArgs (PySem.W.fnOf x qual params body scope .none (.ref D) doc pm an cdv ct) ⟨us, ks.zip ws⟩) (ps.zip (us.take nb ++ arr .none plan mv (us.drop nb) ws))) :
    BP K fd ps nb n ks (arr .non plan dd) := by
  obtain ⟨oc, od, dV, kV, doc, pm, an, cdv, ct, osl, rfl, lk, hcd, hD, hK⟩ := F.ex
  rcases hD with ⟨_, rfl⟩ | ⟨e, _⟩
  · rcases hK with e | ⟨D, rfl, hq⟩
    · exact absurd e hk
    · obtain ⟨mv, hl, rk, hks⟩ := kwd_vals (K := K) (D := D) (ms := ms) fun q hm => hq q (hms q hm)
      refine bp_plan rk c fun s us ws kin l1 l2 => BindsTo.of_looks fun M => KwChain.looks kin hks (h D doc pm an cdv ct us ws mv l1 l2 hl)
  · exact absurd rfl e
/-- both -/
theorem bp_dk (F : FunD K x qual params body scope dvs kws f fd) (hd : dvs ≠ []) (hk : kws ≠ []) (hms : ∀ q ∈ ms, q ∈ kws) (c : Const K (dvs ++ ms.map (·.2)) dd)
    (h : ∀ (T D : Addr) (doc pm : Value) (an : Option Addr) (cdv ct : Value) (us ws its mv : List Value), us.length = nb + n → ws.length = ks.length → its.length = dvs.length → mv.length = ms.length →
      ∃ k, bindArgs (PySem.W.fnOf x qual params body scope (.ref T) (.ref D) doc pm an cdv ct) ⟨us, ks.zip ws⟩ = seqItems? (.ref T) >>= k ∧ KwChain D ((ms.map (·.1)).zip mv) (k (some its.toArray)) (ps.zip (us.take nb ++ arr .none plan (its ++ mv) (us.drop nb) ws))) :
    BP K fd ps nb n ks (arr .non plan dd) := by
  obtain ⟨oc, od, dV, kV, doc, pm, an, cdv, ct, osl, rfl, lk, hcd, hD, hK⟩ := F.ex
  rcases hD with ⟨e, _⟩ | ⟨_, T, o, its, m, rfl, lT, oT, rT⟩
  · exact absurd e hd
  · rcases hK with e | ⟨D, rfl, hq⟩
    · exact absurd e hk
    · obtain ⟨mv, hl, rk, hks⟩ := kwd_vals (K := K) (D := D) (ms := ms) fun q hm => hq q (hms q hm)
      refine bp_plan (rT.append rk) c fun s us ws kin l1 l2 => ?_
      obtain ⟨k, e1, e2⟩ := h T D doc pm an cdv ct us ws its mv l1 l2 rT.length.symm hl
      refine BindsTo.of_looks fun M => ?_
      rw [e1]
      exact looks_items kin lT oT (KwChain.looks kin hks e2)
end
/-! ### fields of the classes of these names -/
theorem fl_nil {K : PySem.W.Frag} {f : Str} : Fl K f [] := fun c h => by cases h
theorem fl_cons {K : PySem.W.Frag} {f : Str} {c : String} {C : Addr} {cs : List String} (ns : PySem.W.nsIn K mainGlobals (c : Str) = some (some (.ref C))) (h1 : L2.Cls K C) (h2 : NoAttr K C f) (r : Fl K f cs) : Fl K f (c :: cs) := fun c' hc C' e => by
  rcases List.mem_cons.mp hc with z | z
  · subst z
    rw [ns] at e
    cases e
    exact ⟨h1, h2⟩
  · exact r c' z C' e
theorem xfl_nil {K : PySem.W.Frag} {f : Str} : XFl K f [] := fun c h => by cases h
theorem xfl_cons {K : PySem.W.Frag} {f : Str} {c : String} {C : Addr} {cs : List String} (ns : PySem.W.nsIn K mainGlobals (c : Str) = some (some (.ref C))) (h1 : XfC K C) (h2 : PySem.W.findIn K (.ref C) f = some none) (r : XFl K f cs) : XFl K f (c :: cs) := fun c' hc C' e => by
  rcases List.mem_cons.mp hc with z | z
  · subst z
    rw [ns] at e
    cases e
    exact ⟨h1, h2⟩
  · exact r c' z C' e
/-- a class statement's i-th statement -/
def inCls (s : Stmt) (i : Nat) : Stmt := match s with
  | .ClassDef _ _ _ b _ _ _ _ _ _ _ => b.getD i (.Pass ⟨0, 0, 0, 0⟩)
  | _ => .Pass ⟨0, 0, 0, 0⟩
/-- what a class with an __init__ of its own has -/
structure ClsT (K : PySem.W.Frag) (mg : Str → Option Value) (n : String) (C : Addr) : Prop where
  ns : PySem.W.nsIn K mainGlobals (n : Str) = some (some (.ref C))
  at' : mg (n : Str) = some (.ref C)
  cl : L2.Cls K C
end DL
set_option Elab.async false
set_option linter.all false
set_option maxRecDepth 100000
set_option maxHeartbeats 1000000
/-! More operations: isinstance of own classes, x *= e, a = b = e, max, min, sorted of lists, join, dicts of the module. -/
namespace DL
open PySem PySem.Spec PyProof.Rows L2
/-! ### isinstance(x, C), C an own class -/
structure IsiT (K : PySem.W.Frag) (C : Addr) : Prop where
  cl : L2.Cls K C
  dc : PySem.W.findIn K (.ref C) "__class__" = some (some (.builtin "object.__class__"))
  sp : PySem.W.specialIn K (.builtin "object.__class__") "__get__" = some (some (.builtin "getset_descriptor.__get__"))
  tk : PySem.W.takesIn K (.builtin "object.__class__") = some true
  mo : PySem.W.mroIn K C (.type "object") = some true
  no : ∀ m ∈ ["NoneType", "bool", "int", "str", "tuple", "list", "dict"], PySem.W.kitOne K (.type m) (.ref C) = some false
  yes : PySem.W.kitOne K (.ref C) (.ref C) = some true
def isCl (cls : String) (d : D) : Option Bool := match d with
  | .ob _ c _ => if c = cls then some true else none
  | d => (tyName d).map fun _ => false
def isiC (cls : String) (d : D) : Res := match isCl cls d with
  | some b => .val (.bl b)
  | none => .no
def rIsiC (K : PySem.W.Frag) (C : Addr) : V → Hp → VK → Prop := fun x H Q => rIsi K [x, .ref C] H Q
theorem isiC_v {K : PySem.W.Frag} {cls : String} {C : Addr} (T : IsiT K C) (ns : PySem.W.nsIn K mainGlobals (cls : Str) = some (some (.ref C))) : UnV K (rIsiC K C) (isiC cls) := by
  intro G H x a le i Q post
  unfold isiC at post
  cases e : isCl cls a with
  | none => rw [e] at post; exact post.elim
  | some b =>
    rw [e] at post
    have pq := post.here le (.bl b)
    have other : ∀ {m : String}, tyName a = some m → b = false → rIsiC K C x H Q := by
      intro m hm hb
      subst hb
      exact ⟨x, .ref C, .type m, .ref C, false, rfl, .own C, tyx_v le i hm, T.no m (ty_mem hm), pq⟩
    cases i with
    | @ob a C' dx c fs ds ns' hg hfs =>
      unfold isCl at e
      dsimp only at e
      split at e
      · rename_i hc
        cases e
        subst hc
        rw [ns] at ns'
        cases ns'
        exact ⟨.ref a, .ref C, .ref C, .ref C, true, rfl, .own C, .base (.ins (le _ _ hg) T.cl T.dc T.sp T.tk T.mo), T.yes, pq⟩
      · cases e
    | non => cases e; exact other rfl rfl
    | bl b => cases e; exact other rfl rfl
    | int b => cases e; exact other rfl rfl
    | str b => cases e; exact other rfl rfl
    | ty n => cases e
    | ref a => cases e
    | tup h r => cases e; exact other rfl rfl
    | ro h r => cases e
    | lst h r => cases e; exact other rfl rfl
    | dctK h r => cases e; exact other rfl rfl
    | dctT h r => cases e
section
variable {X : Cx} {B : By} {W : WX} {e : Expr} {te : TE} {Fe : DL.Env → Out D} {cls : String} {C : Addr} {p p2 pos : Pos}
theorem d_isiC (T : IsiT X.K C) (ns : PySem.W.nsIn X.K mainGlobals (cls : Str) = some (some (.ref C))) (hm : X.mg (cls : Str) = some (.ref C)) (h : DE X B W e te Fe) (hi : X.mg "isinstance" = none) (hg : Gl X "isinstance" := by rfl) (hg2 : Gl X (cls : Str) := by rfl)
    (hdb : ((cls : Str) == ("__debug__" : Str)) = false := by decide) (hs : starEach [e, .Name (cls : Str) p2] X.env = (false, eval e X.env) :: starEach [.Name (cls : Str) p2] X.env := by rfl)
    (hs2 : starEach [.Name (cls : Str) p2] X.env = (false, eval (.Name (cls : Str) p2) X.env) :: starEach [] X.env := by rfl) (hpl : (backTo pos (starEach [.Name (cls : Str) p2] X.env)).any (·.1) = false := by rfl) :
    DE X B W (.Call (.Name "isinstance" p) [e, .Name (cls : Str) p2] [] pos) (tCB (rIsi X.K) (tCons te (tCons (tC (.ref C)) tNil))) (fUn (isiC cls) Fe) where
  pe := pe_callB call_isi hg hi bt_isinstance (pa_cons h.pe (pa_cons (pe_glob hg2 hm rfl hdb) pa_nil hs2) hs) (by decide) (by decide) hs hpl
  sat := sat_un (r := rIsiC X.K C) (isiC_v T ns) h.sat
end

/-! ### x *= e -/
def ipMulD : D → D → Res
  | .int a, .int b => if -(2 ^ 64) < b ∧ b < 2 ^ 64 then .val (.int (a * b)) else .no
  | _, _ => .no
def rIpMul : TIp := fun x y H Q => ∃ i j, x = .int i ∧ y = .int j ∧ IntMulOk i j ∧ Q (.int (i * j)) H
theorem ip_mul {X : Cx} : PIp X .Mult rIpMul := by
  intro pins s σ H x y v u Q I r1 r2 h
  obtain ⟨i, j, e1, e2, hc, q⟩ := h
  subst e1 e2
  obtain ⟨t, rfl⟩ := r1
  obtain ⟨t', rfl⟩ := r2
  exact imul_int ⟨.int _, H, I.tok _, ⟨_, rfl⟩, q⟩ hc
/-- x *= y of two ints -/
def mulIP : D → D → Res
  | .int a, .int b => if IntMulOk a b then .val (.int (a * b)) else .no
  | _, _ => .no
theorem aug_mul {K : PySem.W.Frag} : AugV K rIpMul mulIP := by
  intro G H x y a c le ia ic Q post
  cases ia <;> first
    | (cases ic <;> exact post.elim)
    | skip
  rename_i i
  cases ic <;> first
    | exact post.elim
    | skip
  rename_i j
  have post' : PostR K G H Q (if IntMulOk i j then .val (.int (i * j)) else .no) := post
  split at post'
  · rename_i h
    exact ⟨i, j, rfl, rfl, h, post'.here le (.int _)⟩
  · exact post'.elim

/-! ### a = b = e -/
def sAsgs (F : DL.Env → Out D) (gs : List (D → DL.Env → Option DL.Env)) : DL.Env → SOut := fun ρ => (F ρ).s fun d ρ1 => if owned d = true then .no else sOpts gs d ρ1
where sOpts : List (D → DL.Env → Option DL.Env) → D → DL.Env → SOut
  | [], _, ρ => .nx ρ
  | g :: r, d, ρ => match g d ρ with
    | some ρ1 => sOpts r d ρ1
    | none => .no
section
variable {X : Cx} {B : By} {W : WX} {e t1 t2 t3 : Expr} {te : TE} {Fe : DL.Env → Out D} {g1 g2 g3 : TG} {F1 F2 F3 : D → DL.Env → Option DL.Env} {pos : Pos}
theorem ds_asg3 (h : DO X B W e te Fe) (h1 : DG X B t1 g1 F1) (h2 : DG X B t2 g2 F2) (h3 : DG X B t3 g3 F3) (ha : (assignEach [t1, t2, t3] X.env).map (·.2) = [assign t1 X.env, assign t2 X.env, assign t3 X.env] := by rfl) (hw : swappedStores [t1, t2, t3] e X.env = pure none := by rfl) :
    DS X B W (.Assign [t1, t2, t3] e pos) (tAsg3 te g1 g2 g3) (sAsgs Fe [F1, F2, F3]) where
  ps := ps_asg3 h.pe h1.pg h2.pg h3.pg ha hw
  sat := fun b G H ω σ ρ rel Dn post => h.sat.s rel post fun G' H' ω' ρ' x a r s i p => by
    split at p
    · exact p.elim
    · rename_i ho
      have iv : Is X.K G' x a := own_un i (by simpa using ho)
      unfold sAsgs.sOpts at p
      refine h1.sat b G' H' ω' G' H' ω' σ ρ' r .refl x a (own_frz iv) _ ?_
      cases e1 : F1 a ρ' with
      | none => rw [e1] at p; exact p.elim
      | some ρ1 =>
        rw [e1] at p
        intro σ1 G1 H1 ω1 r1 s1
        unfold sAsgs.sOpts at p
        refine h2.sat b G1 H1 ω1 G1 H1 ω1 σ1 ρ1 r1 .refl x a (own_frz (iv.mono s1.g)) _ ?_
        cases e2 : F2 a ρ1 with
        | none => simp only [e2] at p; exact p.elim
        | some ρ2 =>
          simp only [e2] at p
          intro σ2 G2 H2 ω2 r2 s2
          unfold sAsgs.sOpts at p
          refine h3.sat b G2 H2 ω2 G2 H2 ω2 σ2 ρ2 r2 .refl x a (own_frz ((iv.mono s1.g).mono s2.g)) _ ?_
          cases e3 : F3 a ρ2 with
          | none => simp only [e3] at p; exact p.elim
          | some ρ3 =>
            simp only [e3] at p
            unfold sAsgs.sOpts at p
            intro σ3 G3 H3 ω3 r3 s3
            exact p σ3 G3 H3 ω3 r3 (((s.trans s1).trans s2).trans s3)
theorem ds_asg2 (h : DO X B W e te Fe) (h1 : DG X B t1 g1 F1) (h2 : DG X B t2 g2 F2) (ha : (assignEach [t1, t2] X.env).map (·.2) = [assign t1 X.env, assign t2 X.env] := by rfl) (hw : swappedStores [t1, t2] e X.env = pure none := by rfl) :
    DS X B W (.Assign [t1, t2] e pos) (tAsg2 te g1 g2) (sAsgs Fe [F1, F2]) where
  ps := ps_asg2 h.pe h1.pg h2.pg ha hw
  sat := fun b G H ω σ ρ rel Dn post => h.sat.s rel post fun G' H' ω' ρ' x a r s i p => by
    split at p
    · exact p.elim
    · rename_i ho
      have iv : Is X.K G' x a := own_un i (by simpa using ho)
      unfold sAsgs.sOpts at p
      refine h1.sat b G' H' ω' G' H' ω' σ ρ' r .refl x a (own_frz iv) _ ?_
      cases e1 : F1 a ρ' with
      | none => rw [e1] at p; exact p.elim
      | some ρ1 =>
        rw [e1] at p
        intro σ1 G1 H1 ω1 r1 s1
        unfold sAsgs.sOpts at p
        refine h2.sat b G1 H1 ω1 G1 H1 ω1 σ1 ρ1 r1 .refl x a (own_frz (iv.mono s1.g)) _ ?_
        cases e2 : F2 a ρ1 with
        | none => simp only [e2] at p; exact p.elim
        | some ρ2 =>
          simp only [e2] at p
          unfold sAsgs.sOpts at p
          intro σ2 G2 H2 ω2 r2 s2
          exact p σ2 G2 H2 ω2 r2 ((s.trans s1).trans s2)
end

/-! ### max, min, sorted of a list of ints; join -/
def maxI : List Int → Option Int
  | [] => none
  | a :: r => some (r.foldl max a)
def minI : List Int → Option Int
  | [] => none
  | a :: r => some (r.foldl min a)
def maxL : List D → Res
  | [.lst _ ds] => (match unInts ds with
    | some ns => (match maxI ns with | some m => .val (.int m) | none => .no)
    | none => .no)
  | _ => .no
def minL : List D → Res
  | [.lst _ ds] => (match unInts ds with
    | some ns => (match minI ns with | some m => .val (.int m) | none => .no)
    | none => .no)
  | _ => .no
theorem foldl_max_le : ∀ (r : List Int) (a : Int), a ≤ r.foldl max a ∧ (∀ y ∈ r, y ≤ r.foldl max a) ∧ (r.foldl max a = a ∨ r.foldl max a ∈ r)
  | [], a => ⟨Int.le_refl _, fun _ h => (List.not_mem_nil h).elim, .inl rfl⟩
  | b :: r, a => by
    obtain ⟨h1, h2, h3⟩ := foldl_max_le r (max a b)
    rw [List.foldl_cons]
    refine ⟨by omega, fun y hy => ?_, ?_⟩
    · rcases List.mem_cons.mp hy with rfl | hy
      · omega
      · exact h2 y hy
    · rcases h3 with h3 | h3
      · by_cases c : a ≤ b
        · exact .inr (List.mem_cons.mpr (.inl (by omega)))
        · exact .inl (by omega)
      · exact .inr (List.mem_cons_of_mem _ h3)
theorem foldl_min_le : ∀ (r : List Int) (a : Int), r.foldl min a ≤ a ∧ (∀ y ∈ r, r.foldl min a ≤ y) ∧ (r.foldl min a = a ∨ r.foldl min a ∈ r)
  | [], a => ⟨Int.le_refl _, fun _ h => (List.not_mem_nil h).elim, .inl rfl⟩
  | b :: r, a => by
    obtain ⟨h1, h2, h3⟩ := foldl_min_le r (min a b)
    rw [List.foldl_cons]
    refine ⟨by omega, fun y hy => ?_, ?_⟩
    · rcases List.mem_cons.mp hy with rfl | hy
      · omega
      · exact h2 y hy
    · rcases h3 with h3 | h3
      · by_cases c : a ≤ b
        · exact .inl (by omega)
        · exact .inr (List.mem_cons.mpr (.inl (by omega)))
      · exact .inr (List.mem_cons_of_mem _ h3)
theorem maxI_is {ns : List Int} {m m' : Int} (e : maxI ns = some m) (h1 : m' ∈ ns) (h2 : ∀ y ∈ ns, y ≤ m') : m' = m := by
  cases ns with
  | nil => cases h1
  | cons a r =>
    cases e
    obtain ⟨k1, k2, k3⟩ := foldl_max_le r a
    have k4 : r.foldl max a ∈ a :: r := by rcases k3 with k3 | k3 <;> simp [k3]
    have := h2 _ k4
    rcases List.mem_cons.mp h1 with rfl | h1
    · omega
    · have := k2 _ h1; omega
theorem minI_is {ns : List Int} {m m' : Int} (e : minI ns = some m) (h1 : m' ∈ ns) (h2 : ∀ y ∈ ns, m' ≤ y) : m' = m := by
  cases ns with
  | nil => cases h1
  | cons a r =>
    cases e
    obtain ⟨k1, k2, k3⟩ := foldl_min_le r a
    have k4 : r.foldl min a ∈ a :: r := by rcases k3 with k3 | k3 <;> simp [k3]
    have := h2 _ k4
    rcases List.mem_cons.mp h1 with rfl | h1
    · omega
    · have := k2 _ h1; omega
section
variable {K : PySem.W.Frag}
theorem max1_v : CallV K (rMax K) maxL := call1 rfl (fun a c l => by cases a <;> rfl) fun G H x d le i Q post => by
  cases i <;> first
    | exact post.elim
    | skip
  rename_i a xs ds hs ha
  have p : PostR K G H Q (match unInts ds with | some ns => (match maxI ns with | some m => .val (.int m) | none => .no) | none => .no) := post
  cases e : unInts ds with
  | none => rw [e] at p; exact p.elim
  | some ns =>
    rw [e] at p
    have ex := ints_v ha e
    subst ex
    dsimp only at p
    cases em : maxI ns with
    | none => rw [em] at p; exact p.elim
    | some m =>
      rw [em] at p
      refine ⟨_, ns, rfl, .inl (same_rd le hs), by cases ns with | nil => cases em | cons a r => exact Nat.succ_pos _, fun m' h1 h2 => ?_⟩
      rw [maxI_is em h1 h2]
      exact p.here le (.int _)
theorem min1_v : CallV K (rMin K) minL := call1 rfl (fun a c l => by cases a <;> rfl) fun G H x d le i Q post => by
  cases i <;> first
    | exact post.elim
    | skip
  rename_i a xs ds hs ha
  have p : PostR K G H Q (match unInts ds with | some ns => (match minI ns with | some m => .val (.int m) | none => .no) | none => .no) := post
  cases e : unInts ds with
  | none => rw [e] at p; exact p.elim
  | some ns =>
    rw [e] at p
    have ex := ints_v ha e
    subst ex
    dsimp only at p
    cases em : minI ns with
    | none => rw [em] at p; exact p.elim
    | some m =>
      rw [em] at p
      refine ⟨_, ns, rfl, .inl (same_rd le hs), by cases ns with | nil => cases em | cons a r => exact Nat.succ_pos _, fun m' h1 h2 => ?_⟩
      rw [minI_is em h1 h2]
      exact p.here le (.int _)
end
/-- the ints in order -/
def srtI : List Int → List Int := fun ns => ns.mergeSort
def sortD : List D → Res
  | [.lst _ ds] => (match unInts ds with
    | some ns => .new ((srtI ns).map D.int)
    | none => .no)
  | _ => .no
theorem srt_is {ns ns' : List Int} (h1 : ns'.Perm ns) (h2 : ns'.Pairwise (· ≤ ·)) : ns' = srtI ns := by
  have k1 : (srtI ns).Perm ns := List.mergeSort_perm ..
  have k2 : (srtI ns).Pairwise (· ≤ ·) := by
    have := List.pairwise_mergeSort (le := fun a b : Int => decide (a ≤ b)) (fun a b c h1 h2 => by simp at *; omega) (fun a b => by simp; omega) ns
    exact this.imp fun h => by simpa using h
  exact (h1.trans k1.symm).eq_of_pairwise (fun a b _ _ h1 h2 => Int.le_antisymm h1 h2) h2 k2
theorem is_ints {K : PySem.W.Frag} {G : Hp} : ∀ (ns : List Int), IsAll K G (ns.map V.int) (ns.map D.int)
  | [] => .nil
  | n :: r => .cons (.int n) (is_ints r)
section
variable {K : PySem.W.Frag}
theorem sort_v : CallV K (rSortedI K) sortD := call1 rfl (fun a c l => by cases a <;> rfl) fun G H x d le i Q post => by
  cases i <;> first
    | exact post.elim
    | skip
  rename_i a xs ds hs ha
  have p : PostR K G H Q (match unInts ds with | some ns => .new ((srtI ns).map D.int) | none => .no) := post
  cases e : unInts ds with
  | none => rw [e] at p; exact p.elim
  | some ns =>
    rw [e] at p
    have ex := ints_v ha e
    subst ex
    refine ⟨_, ns, rfl, .inl (same_rd le hs), fun ns' q h1 h2 hq => ?_⟩
    rw [srt_is h1 h2]
    exact p q _ hq (is_ints _)
end
/-- s.join(xs) -/
def joinD : D → D → Res
  | .str a, .lst _ ds => (match unStrs ds with
    | some ys => if (ys.map (·.length)).sum + ys.length * a.length ≤ 16777216 then .val (.str (Txt.join a ys)) else .no
    | none => .no)
  | .str a, .tup ds => (match unStrs ds with
    | some ys => if (ys.map (·.length)).sum + ys.length * a.length ≤ 16777216 then .val (.str (Txt.join a ys)) else .no
    | none => .no)
  | _, _ => .no
section
variable {K : PySem.W.Frag} {B : By} {W : WX} {ta tb : TE} {Fa Fb : DL.Env → Out D}
/-- a method of a text with one argument -/
def isStrD : D → Bool
  | .str _ => true
  | _ => false
def fM1 (g : D → D → Res) (Fa Fb : DL.Env → Out D) : DL.Env → Out D := fun ρ => (Fa ρ).bind fun a ρ1 => if isStrD a = true then (Fb ρ1).bind fun c ρ2 => resE (g a c) ρ2 else .no
theorem sat_m1 {r : V → List V → Hp → VK → Prop} {g : D → D → Res} (hr : OpV K (fun x y H Q => r x [y] H Q) g) (ha : Sat K B W (IsR K) ta Fa) (hb : Sat K B W (IsR K) tb Fb) : Sat K B W (IsR K) (tM1 r ta tb) (fM1 g Fa Fb) :=
  Sat.bind (R' := IsR K) (Fu := fun a ρ1 => if isStrD a = true then (Fb ρ1).bind fun c ρ2 => resE (g a c) ρ2 else .no) (t := ta) (u := fun x σ H Q => (∃ a, x = .str a) ∧ tb σ H fun y H2 => r x [y] H2 Q) ha fun b Hs ωs G H ω σ ρ rel x a i Q post => by
    split at post
    · rename_i c
      cases i <;> first
        | (cases c; done)
        | skip
      rename_i z
      exact ⟨⟨_, rfl⟩, hb.at rel post fun G1 H1 ω1 ρ1 y c rel1 s j p => hr G1 H1 (.str z) y (.str z) c rel1.le (.str z) j Q (res_e rel1 p)⟩
    · exact post.elim
end
theorem join_v {K : PySem.W.Frag} : OpV K (fun x y H Q => ∃ a p, ∃ ys : List Str, x = .str a ∧ [y] = [.ref p] ∧ (SqL K H p (ys.map V.str) ∨ SqT K H p (ys.map V.str)) ∧
      (ys.map (·.length)).sum + ys.length * a.length ≤ 16777216 ∧ Q (.str (Txt.join a ys)) H) joinD := by
  intro G H x y a c le ia ic Q post
  cases ia <;> first
    | exact post.elim
    | skip
  rename_i z
  cases ic <;> first
    | exact post.elim
    | skip
  · rename_i p xs ds hs ha
    have post' : PostR K G H Q (match unStrs ds with
      | some ys => if (ys.map (·.length)).sum + ys.length * z.length ≤ 16777216 then .val (.str (Txt.join z ys)) else .no
      | none => .no) := post
    cases e : unStrs ds with
    | none => rw [e] at post'; exact post'.elim
    | some ys =>
      rw [e] at post'
      have ex := strs_v ha e
      subst ex
      dsimp only at post'
      split at post'
      · rename_i hz
        exact ⟨z, p, ys, rfl, rfl, .inr (sq_tup le hs), hz, post'.here le (.str _)⟩
      · exact post'.elim
  · rename_i p xs ds hs ha
    have post' : PostR K G H Q (match unStrs ds with
      | some ys => if (ys.map (·.length)).sum + ys.length * z.length ≤ 16777216 then .val (.str (Txt.join z ys)) else .no
      | none => .no) := post
    cases e : unStrs ds with
    | none => rw [e] at post'; exact post'.elim
    | some ys =>
      rw [e] at post'
      have ex := strs_v ha e
      subst ex
      dsimp only at post'
      split at post'
      · rename_i hz
        exact ⟨z, p, ys, rfl, rfl, .inl (.inl (same_rd le hs)), hz, post'.here le (.str _)⟩
      · exact post'.elim
section
variable {X : Cx} {B : By} {W : WX} {o e : Expr} {to te : TE} {Fo Fe : DL.Env → Out D} {apos pos : Pos}
theorem d_join (ho : DE X B W o to Fo) (he : DE X B W e te Fe) (hs : starEach [e] X.env = [(false, eval e X.env)] := by rfl) (hbase : attributeBase o "join" X.env (eval o X.env) = eval o X.env := by rfl) (hline : (apos.endLine == pos.line) = true := by rfl) :
    DE X B W (.Call (.Attribute o "join" apos) [e] [] pos) (tOfE X.K B W (IsR X.K) (fM1 joinD Fo Fe)) (fM1 joinD Fo Fe) := DE.can ⟨_, pe_join ho.pe he.pe hs hbase hline, sat_m1 join_v ho.sat he.sat⟩
end

/-! ### a dict of the module, its keys are texts -/
structure KD (K : PySem.W.Frag) (w : World) (mg : Str → Option Value) (x : Str) (es : List (Str × Str)) : Prop where
  ex : ∃ a, mg x = some (.ref a) ∧ ∀ k v, es.lookup k = some v → KDct K w a k (.str v)
def kdD (es : List (Str × Str)) : D → Res
  | .str k => (match es.lookup k with
    | some v => .val (.str v)
    | none => .no)
  | _ => .no
def rKd (K : PySem.W.Frag) (w : World) (a : Addr) : V → Hp → VK → Prop := fun y H Q => rIxD K w (.ref a) y H Q
theorem kd_v {K : PySem.W.Frag} {w : World} {a : Addr} {es : List (Str × Str)} (h : ∀ k v, es.lookup k = some v → KDct K w a k (.str v)) : UnV K (rKd K w a) (kdD es) := by
  intro G H x d le i Q post
  cases i <;> first
    | exact post.elim
    | skip
  rename_i z
  have post' : PostR K G H Q (match es.lookup z with
    | some v => .val (.str v)
    | none => .no) := post
  cases e : es.lookup z with
  | none => rw [e] at post'; exact post'.elim
  | some v =>
    rw [e] at post'
    exact ⟨a, z, .str v, rfl, rfl, h z v e, post'.here le (.str _)⟩
theorem d_kd {X : Cx} {B : By} {W : WX} {x : Str} {e : Expr} {te : TE} {Fe : DL.Env → Out D} {es : List (Str × Str)} {p pos : Pos} (T : KD X.K X.w X.mg x es) (he : DE X B W e te Fe) (hg : Gl X x := by rfl) (hdb : (x == ("__debug__" : Str)) = false := by decide) (hs : PlainIx e := by exact fun _ _ => rfl) :
    DE X B W (.Subscript (.Name x p) e pos) (tOfE X.K B W (IsR X.K) (fUn (kdD es) Fe)) (fUn (kdD es) Fe) := by
  obtain ⟨a, hm, h⟩ := T.ex
  have d : DE X B W (.Subscript (.Name x p) e pos) (tOp (rIxD X.K X.w) (tC (.ref a)) te) (fUn (kdD es) Fe) := ⟨pe_ix ix_kdict (pe_glob hg hm rfl hdb) he.pe hs, sat_un (r := rKd X.K X.w a) (kd_v h) he.sat⟩
  exact DE.can ⟨_, d⟩
theorem kd_nil {K : PySem.W.Frag} {w : World} {a : Addr} : ∀ k v, ([] : List (Str × Str)).lookup k = some v → KDct K w a k (.str v) := fun k v e => by cases e
theorem kd_cons {K : PySem.W.Frag} {w : World} {a : Addr} {x y : Str} {es : List (Str × Str)} (h : KDct K w a x (.str y)) (r : ∀ k v, es.lookup k = some v → KDct K w a k (.str v)) : ∀ k v, ((x, y) :: es).lookup k = some v → KDct K w a k (.str v) := fun k v e => by
  by_cases c : k = x
  · subst c
    simp [List.lookup] at e
    subst e
    exact h
  · have q : (k == x) = false := by simpa using c
    simp only [List.lookup, q] at e
    exact r k v e
/-! ### sum of a list or a tuple of ints -/
def rSumA (K : PySem.W.Frag) : List V → Hp → VK → Prop := fun vs H Q => rSum K vs H Q ∨ ∃ (a : Addr) (ns : List Int), vs = [V.ref a] ∧ SqT K H a (ns.map V.int) ∧ Q (.int ns.sum) H
theorem cr_sumA {X : Cx} (hc : X.calm = true) : CallR X (.builtin "sum") (rSumA X.K) := by
  intro pins s σ H vs us Q I r h
  rcases h with h | ⟨a, ns, rfl, hs, q⟩
  · exact cr_sum hc pins s σ H vs us Q I r h
  · obtain ⟨its, rv, hl, _⟩ := I.tuple hs
    rw [Vals.ref1 r]
    obtain ⟨xs, e⟩ := rv.ints.allInts.items
    have hn : numsOf (intItems xs).toList = ns := by rw [← e]; exact rv.ints.numsOf
    rw [nums_intItems] at hn
    have hl' : s.heap.IsTuple a its.toArray := hl
    rw [e] at hl'
    refine PySem.W.ktm_sumG (I.ok.hd hc) hl' fun h' tk t' hk => ?_
    rw [preSum_eq, List.take_of_length_le (by simp), hn]
    exact ⟨.int _, H, I.kept hk, ⟨_, rfl⟩, q⟩
def sumA : List D → Res
  | [.tup ds] => (match unInts ds with
    | some ns => .val (.int ns.sum)
    | none => .no)
  | as => sumD as
theorem sumA_v {K : PySem.W.Frag} : CallV K (rSumA K) sumA := by
  intro G H xs as le i Q post
  unfold sumA at post
  split at post
  · rename_i ds
    cases i with
    | cons i r =>
      cases r
      cases i with
      | tup hs ha =>
        cases e : unInts ds with
        | none => rw [e] at post; exact post.elim
        | some ns =>
          rw [e] at post
          have ex := ints_v ha e
          subst ex
          exact .inr ⟨_, ns, rfl, sq_tup le hs, post.here le (.int _)⟩
  · exact .inl (sum_v G H xs _ le i Q post)
end DL
set_option Elab.async false
set_option linter.all false
set_option maxRecDepth 100000
set_option maxHeartbeats 1000000
/-! The pure side: how the functions over plain data are worked out. -/
namespace DL
open PySem PySem.Spec PyProof.Rows L2

/-! ### outcomes -/
def Out.q {α : Type} (k : Bool) : Out α → Out α
  | .ok a ρ q => .ok a ρ (k && q)
  | .ex c ρ => .ex c ρ
  | .no => .no
section
variable {α β : Type} {a : α} {ρ ρ1 : Env} {q k : Bool} {f : α → Env → Out β} {g : α → Env → SOut} {G : Env → SOut} {d : D} {c : Exn}
@[simp] theorem bind_ok : (Out.ok a ρ q).bind f = (f a ρ).q q := (rfl)
@[simp] theorem bind_ex : (Out.ex c ρ : Out α).bind f = .ex c ρ := (rfl)
@[simp] theorem bind_no : (Out.no : Out α).bind f = .no := (rfl)
@[simp] theorem q_ok : (Out.ok a ρ q).q k = .ok a ρ (k && q) := (rfl)
@[simp] theorem q_ex : (Out.ex c ρ : Out α).q k = .ex c ρ := (rfl)
@[simp] theorem q_no : (Out.no : Out α).q k = .no := (rfl)
@[simp] theorem s_ok : (Out.ok a ρ q).s g = g a ρ := (rfl)
@[simp] theorem s_ex : (Out.ex c ρ : Out α).s g = .ex c ρ := (rfl)
@[simp] theorem s_no : (Out.no : Out α).s g = .no := (rfl)
def thenS (o : SOut) (G : Env → SOut) : SOut := match o with
  | .nx ρ => G ρ
  | o => o
@[simp] theorem sSeq_ap {F : Env → SOut} : sSeq F G ρ = thenS (F ρ) G := by
  unfold sSeq thenS
  cases F ρ <;> rfl
@[simp] theorem then_nx : thenS (.nx ρ) G = G ρ := (rfl)
@[simp] theorem then_rt : thenS (.rt d ρ) G = .rt d ρ := (rfl)
@[simp] theorem then_bk : thenS (.bk ρ) G = .bk ρ := (rfl)
@[simp] theorem then_ct : thenS (.ct ρ) G = .ct ρ := (rfl)
@[simp] theorem then_ex : thenS (.ex c ρ) G = .ex c ρ := (rfl)
@[simp] theorem then_no : thenS .no G = .no := (rfl)
@[simp] theorem sNil_ap : sNil ρ = .nx ρ := (rfl)
@[simp] theorem sNo_ap : sNo ρ = .no := (rfl)
@[simp] theorem sBk_ap : sBk ρ = .bk ρ := (rfl)
@[simp] theorem sCt_ap : sCt ρ = .ct ρ := (rfl)
@[simp] theorem sRetN_ap : sRetN ρ = .rt .non ρ := (rfl)
@[simp] theorem sRet_ap {F : Env → Out D} : sRet F ρ = (F ρ).s fun d ρ1 => .rt d ρ1 := (rfl)
@[simp] theorem sDrop_ap {F : Env → Out D} : sDrop F ρ = (F ρ).s fun _ ρ1 => .nx ρ1 := (rfl)
@[simp] theorem sIf_ap {T : Env → Out Bool} {F : Env → SOut} : sIf T F G ρ = (T ρ).s fun k ρ1 => if k = true then F ρ1 else G ρ1 := (rfl)
@[simp] theorem sAsg_ap {F : Env → Out D} {h : D → Env → Option Env} : sAsg F h ρ = (F ρ).s fun d ρ1 => sOpt (h d ρ1) := (rfl)
@[simp] theorem sOpt_some : sOpt (some ρ) = .nx ρ := (rfl)
@[simp] theorem sOpt_none : sOpt none = .no := (rfl)
@[simp] theorem sRaise_ap {n : String} : sRaise n ρ = .ex ⟨n, []⟩ ρ := (rfl)
@[simp] theorem gN_ap {B : List Nat} {i : Nat} : gN B i d ρ = if i ∈ B then none else some (ρ.set i (some d)) := (rfl)
@[simp] theorem gT_tup {n : Nat} {F : List D → Env → Option Env} {ds : List D} : gT n F (.tup ds) ρ = if ds.length = n then F ds ρ else none := by
  unfold gT
  rfl
@[simp] theorem gsNil_ap : gsNil [] ρ = some ρ := (rfl)
@[simp] theorem gsCons_ap {F : D → Env → Option Env} {Fr : List D → Env → Option Env} {ds : List D} : gsCons F Fr (d :: ds) ρ = (F d ρ).bind (Fr ds) := by
  unfold gsCons
  cases h : F d ρ <;> simp [h]
end
/-! ### expressions -/
section
variable {ρ ρ1 : Env} {F Fa Fb Fc : Env → Out D} {Fs : Env → Out (List D)} {T U : Env → Out Bool} {g : D → D → Res} {u : D → Res} {l : List D → Res} {d : D} {ds : List D} {B : List Nat} {i j : Nat}
@[simp] theorem fC_ap : fC d ρ = .ok d ρ true := (rfl)
@[simp] theorem fNil_ap : fNil ρ = .ok [] ρ true := (rfl)
@[simp] theorem fCons_ap : fCons F Fs ρ = (F ρ).bind fun a ρ1 => (Fs ρ1).bind fun as ρ2 => .ok (a :: as) ρ2 true := (rfl)
@[simp] theorem fOp_ap : fOp g Fa Fb ρ = (Fa ρ).bind fun a ρ1 => (Fb ρ1).bind fun c ρ2 => resE (g a c) ρ2 := (rfl)
@[simp] theorem fOpO_ap : fOpO g Fa Fb ρ = (Fa ρ).bind fun a ρ1 => (Fb ρ1).bind fun c ρ2 => resO (g a c) ρ2 := (rfl)
@[simp] theorem fUn_ap : fUn u F ρ = (F ρ).bind fun a ρ1 => resE (u a) ρ1 := (rfl)
@[simp] theorem fCl_ap : fCl l Fs ρ = (Fs ρ).bind fun a ρ1 => resE (l a) ρ1 := (rfl)
@[simp] theorem fClO_ap : fClO l Fs ρ = (Fs ρ).bind fun a ρ1 => resO (l a) ρ1 := (rfl)
@[simp] theorem resE_val : resE (.val d) ρ = .ok d ρ true := (rfl)
@[simp] theorem resE_new : resE (.new ds) ρ = .ok (.lst false ds) ρ true := (rfl)
@[simp] theorem resE_no : resE .no ρ = .no := (rfl)
@[simp] theorem resO_val : resO (.val d) ρ = .ok d ρ true := (rfl)
@[simp] theorem resO_new : resO (.new ds) ρ = .ok (.lst true ds) ρ true := (rfl)
@[simp] theorem resO_no : resO .no ρ = .no := (rfl)
def varO (B : List Nat) (i : Nat) (ρ : Env) : Option (Option D) → Out D
  | some (some d) => if owned d = true then (if i ∈ B then .no else .ok (frz d) (ρ.set i (some (frz d))) false) else .ok d ρ true
  | _ => .no
def movO (B : List Nat) (i : Nat) (ρ : Env) : Option (Option D) → Out D
  | some (some d) => if owned d = true then (if i ∈ B then .no else .ok d (ρ.set i none) false) else .ok d ρ true
  | _ => .no
@[simp] theorem fVar_ap : fVar B i ρ = varO B i ρ ρ[i]? := by
  unfold fVar varO
  split <;> simp_all
@[simp] theorem fMov_ap : fMov B i ρ = movO B i ρ ρ[i]? := by
  unfold fMov movO
  split <;> simp_all
@[simp] theorem varO_some : varO B i ρ (some (some d)) = if owned d = true then (if i ∈ B then .no else .ok (frz d) (ρ.set i (some (frz d))) false) else .ok d ρ true := (rfl)
@[simp] theorem movO_some : movO B i ρ (some (some d)) = if owned d = true then (if i ∈ B then .no else .ok d (ρ.set i none) false) else .ok d ρ true := (rfl)
@[simp] theorem fTst_ap : fTst F ρ = (F ρ).bind fun a ρ1 => liftB (blD a) ρ1 := (rfl)
@[simp] theorem fTru_ap : fTru F ρ = (F ρ).bind fun a ρ1 => liftB (truD a) ρ1 := (rfl)
@[simp] theorem blD_bl {k : Bool} : blD (.bl k) = some k := (rfl)
@[simp] theorem truD_bl {k : Bool} : truD (.bl k) = some k := (rfl)
@[simp] theorem truD_int {k : Int} : truD (.int k) = some (k != 0) := (rfl)
@[simp] theorem liftB_some {k : Bool} : liftB (some k) ρ = .ok k ρ true := (rfl)
@[simp] theorem fAnd_ap : fAnd T U ρ = (T ρ).bind fun k ρ1 => if k = true then U ρ1 else .ok false ρ1 true := (rfl)
@[simp] theorem fOr_ap : fOr T U ρ = (T ρ).bind fun k ρ1 => if k = true then .ok true ρ1 true else U ρ1 := (rfl)
@[simp] theorem fNot_ap : fNot T ρ = (T ρ).bind fun k ρ1 => .ok (!k) ρ1 true := (rfl)
def andO (G : Env → Out D) (ρ : Env) : Option Bool → Out D
  | some k => if k = true then G ρ else .ok (.bl false) ρ true
  | none => .no
def orO (G : Env → Out D) (ρ : Env) : Option Bool → Out D
  | some k => if k = true then .ok (.bl true) ρ true else G ρ
  | none => .no
def notO (ρ : Env) : Option Bool → Out D
  | some k => .ok (.bl (!k)) ρ true
  | none => .no
@[simp] theorem fAndV_ap : fAndV Fa Fb ρ = (Fa ρ).bind fun a ρ1 => andO Fb ρ1 (blD a) := by
  unfold fAndV andO
  congr
@[simp] theorem fOrV_ap : fOrV Fa Fb ρ = (Fa ρ).bind fun a ρ1 => orO Fb ρ1 (blD a) := by
  unfold fOrV orO
  congr
@[simp] theorem fNotV_ap : fNotV Fa ρ = (Fa ρ).bind fun a ρ1 => notO ρ1 (blD a) := by
  unfold fNotV notO
  congr
@[simp] theorem andO_some {k : Bool} : andO F ρ (some k) = if k = true then F ρ else .ok (.bl false) ρ true := (rfl)
@[simp] theorem orO_some {k : Bool} : orO F ρ (some k) = if k = true then .ok (.bl true) ρ true else F ρ := (rfl)
@[simp] theorem notO_some {k : Bool} : notO ρ (some k) = .ok (.bl (!k)) ρ true := (rfl)
@[simp] theorem fIf_ap {α : Type} {G G' : Env → Out α} : fIf T G G' ρ = (T ρ).bind fun k ρ1 => if k = true then G ρ1 else G' ρ1 := (rfl)
@[simp] theorem fYes_ap : fYes ρ = .ok true ρ true := (rfl)
def frzO : Out D → Out D
  | .ok d ρ q => .ok (frz d) ρ (q && !owned d)
  | .ex c ρ => .ex c ρ
  | .no => .no
@[simp] theorem fFrz_ap : fFrz F ρ = frzO (F ρ) := by
  unfold fFrz frzO
  cases F ρ <;> rfl
@[simp] theorem frzO_ok {q : Bool} : frzO (.ok d ρ q) = .ok (frz d) ρ (q && !owned d) := (rfl)
@[simp] theorem frzO_ex {c : Exn} : frzO (.ex c ρ) = .ex c ρ := (rfl)
@[simp] theorem frzO_no : frzO .no = .no := (rfl)
@[simp] theorem frz_int {k : Int} : frz (.int k) = .int k := (rfl)
@[simp] theorem frz_bl {k : Bool} : frz (.bl k) = .bl k := (rfl)
@[simp] theorem frz_non : frz .non = .non := (rfl)
@[simp] theorem frz_str {x : Str} : frz (.str x) = .str x := (rfl)
@[simp] theorem frz_tup : frz (.tup ds) = .tup ds := (rfl)
@[simp] theorem frz_lst {o : Bool} : frz (.lst o ds) = .lst false ds := (rfl)
@[simp] theorem owned_int {k : Int} : owned (.int k) = false := (rfl)
@[simp] theorem owned_bl {k : Bool} : owned (.bl k) = false := (rfl)
@[simp] theorem owned_non : owned .non = false := (rfl)
@[simp] theorem owned_str {x : Str} : owned (.str x) = false := (rfl)
@[simp] theorem owned_tup : owned (.tup ds) = false := (rfl)
@[simp] theorem owned_ro : owned (.ro ds) = false := (rfl)
@[simp] theorem owned_ref {a : Addr} : owned (.ref a) = false := (rfl)
@[simp] theorem owned_ty {n : String} : owned (.ty n) = false := (rfl)
@[simp] theorem owned_lst {o : Bool} : owned (.lst o ds) = o := (rfl)
end

/-! ### operations -/
section
variable {a b : Int} {d : D} {ds es : List D} {o o' : Bool} {x y : Str} {n : String}
@[simp] theorem addD_int : addD (.int a) (.int b) = .val (.int (a + b)) := (rfl)
@[simp] theorem addD_tup : addD (.tup ds) (.tup es) = if ds.length + es.length ≤ sizeLine then .val (.tup (ds ++ es)) else .no := (rfl)
@[simp] theorem addD_lst : addD (.lst o ds) (.lst o' es) = if ds.length + es.length ≤ sizeLine then .new (ds ++ es) else .no := (rfl)
@[simp] theorem addD_str : addD (.str x) (.str y) = if x.length + y.length ≤ sizeLine then .val (.str (x ++ y)) else .no := (rfl)
@[simp] theorem addI_int : addI (.int a) (.int b) = .val (.int (a + b)) := (rfl)
@[simp] theorem subD_int : subD (.int a) (.int b) = .val (.int (a - b)) := (rfl)
@[simp] theorem mulD_int : mulD (.int a) (.int b) = if IntMulOk a b then .val (.int (a * b)) else .no := (rfl)
@[simp] theorem mulIP_int : mulIP (.int a) (.int b) = mulD (.int a) (.int b) := (rfl)
@[simp] theorem fdivD_int : fdivD (.int a) (.int b) = if 0 < b ∧ b.natAbs.log2 < 9000 then .val (.int (a / b)) else .no := (rfl)
@[simp] theorem modD_int : modD (.int a) (.int b) = if 0 < b then .val (.int (a % b)) else .no := (rfl)
@[simp] theorem powD_int : powD (.int a) (.int b) = if 0 ≤ b ∧ b ≤ 1000000 ∧ a.natAbs < 2 ^ 64 then .val (.int (a ^ b.toNat)) else .no := (rfl)
@[simp] theorem negD_int : negD (.int a) = .val (.int (-a)) := (rfl)
@[simp] theorem ltD_int : ltD (.int a) (.int b) = .val (.bl (decide (a < b))) := (rfl)
@[simp] theorem leD_int : leD (.int a) (.int b) = .val (.bl (decide (a ≤ b))) := (rfl)
@[simp] theorem gtD_int : gtD (.int a) (.int b) = .val (.bl (decide (b < a))) := (rfl)
@[simp] theorem geD_int : geD (.int a) (.int b) = .val (.bl (decide (b ≤ a))) := (rfl)
@[simp] theorem isD_non : isD d .non = .val (.bl (isNonD d)) := by cases d <;> rfl
@[simp] theorem isD_bl {k k' : Bool} : isD (.bl k) (.bl k') = .val (.bl (decide (k = k'))) := (rfl)
@[simp] theorem isntD_non : isntD d .non = .val (.bl (!isNonD d)) := by cases d <;> rfl
@[simp] theorem isntD_bl {k k' : Bool} : isntD (.bl k) (.bl k') = .val (.bl (!decide (k = k'))) := (rfl)
@[simp] theorem tupD_ap : tupD ds = if ds.length ≤ 16777216 then .val (.tup ds) else .no := by rw [← sizeLine_eq]; rfl
@[simp] theorem lstD_ap : lstD ds = if ds.length ≤ 16777216 then .new ds else .no := by rw [← sizeLine_eq]; rfl
@[simp] theorem lenD_tup : lenD [.tup ds] = .val (.int (ds.length : Nat)) := (rfl)
@[simp] theorem lenD_ro : lenD [.ro ds] = .val (.int (ds.length : Nat)) := (rfl)
@[simp] theorem lenD_lst : lenD [.lst o ds] = .val (.int (ds.length : Nat)) := (rfl)
@[simp] theorem absD_int : absD [.int a] = .val (.int (if a < 0 then -a else a)) := (rfl)
@[simp] theorem maxD_int : maxD [.int a, .int b] = .val (.int (if b > a then b else a)) := (rfl)
@[simp] theorem minD_int : minD [.int a, .int b] = .val (.int (if b < a then b else a)) := (rfl)
@[simp] theorem intD_int : intD [.int a] = .val (.int a) := (rfl)
@[simp] theorem intD_bl {k : Bool} : intD [.bl k] = .val (.int (if k then 1 else 0)) := (rfl)
@[simp] theorem tupleD_lst : tupleD [.lst o ds] = .val (.tup ds) := (rfl)
@[simp] theorem tupleD_tup : tupleD [.tup ds] = .val (.tup ds) := (rfl)
@[simp] theorem listD_lst : listD [.lst o ds] = .new ds := (rfl)
@[simp] theorem listD_tup : listD [.tup ds] = .new ds := (rfl)
def atR : Option D → Res
  | some d => .val d
  | none => .no
@[simp] theorem atR_some : atR (some d) = .val d := (rfl)
@[simp] theorem ixD_tup : ixD (.tup ds) (.int a) = atR (atI ds a) := by unfold ixD atR; first | rfl | (dsimp only; cases atI ds a <;> rfl) | (dsimp only; done)
@[simp] theorem ixD_ro : ixD (.ro ds) (.int a) = atR (atI ds a) := by unfold ixD atR; first | rfl | (dsimp only; cases atI ds a <;> rfl) | (dsimp only; done)
@[simp] theorem ixD_lst : ixD (.lst o ds) (.int a) = atR (atI ds a) := by unfold ixD atR; first | rfl | (dsimp only; cases atI ds a <;> rfl) | (dsimp only; done)
theorem at_nat {α : Type} {xs : List α} {j : Nat} : atI xs (j : Int) = xs[j]? := by
  unfold atI ixN
  by_cases h : j < xs.length
  · simp [h]
  · simp [h]
@[simp] theorem at0 {α : Type} {x : α} {xs : List α} : atI (x :: xs) 0 = some x := by rw [show (0 : Int) = ((0 : Nat) : Int) from rfl, at_nat]; rfl
@[simp] theorem at1 {α : Type} {x y : α} {xs : List α} : atI (x :: y :: xs) 1 = some y := by rw [show (1 : Int) = ((1 : Nat) : Int) from rfl, at_nat]; rfl
@[simp] theorem at2 {α : Type} {x y z : α} {xs : List α} : atI (x :: y :: z :: xs) 2 = some z := by rw [show (2 : Int) = ((2 : Nat) : Int) from rfl, at_nat]; rfl
@[simp] theorem at3 {α : Type} {x y z w : α} {xs : List α} : atI (x :: y :: z :: w :: xs) 3 = some w := by rw [show (3 : Int) = ((3 : Nat) : Int) from rfl, at_nat]; rfl
end
end DL
set_option Elab.async false
set_option linter.all false
set_option maxRecDepth 100000
set_option maxHeartbeats 1000000
namespace DL
open PySem PySem.Spec PyProof.Rows L2
/-! ### slots that are owned, calls -/
section
variable {ρ ρ1 : Env} {F : Env → Out D} {Fs : Env → Out (List D)} {d : D} {ds bs as : List D} {B js : List Nat} {i j n nb np : Nat} {o : Bool} {c : Exn} {m : List D → FOut} {G : Env → SOut}
@[simp] theorem allSome_nil : allSome [] = some [] := (rfl)
@[simp] theorem allSome_cons {r : List (Option D)} : allSome (some d :: r) = (allSome r).map (d :: ·) := (rfl)
@[simp] theorem runF_ap : runF nb n G ds = toF nb (G (start0 n ds)) := (rfl)
@[simp] theorem start0_ap : start0 n ds = ds.map some ++ List.replicate (n - ds.length) none := (rfl)
def endO (d : D) : Option (List D) → FOut
  | some bs => .ok d bs
  | none => .no
def exO (c : Exn) : Option (List D) → FOut
  | some bs => .ex c bs
  | none => .no
@[simp] theorem endO_some : endO d (some bs) = .ok d bs := (rfl)
@[simp] theorem exO_some : exO c (some bs) = .ex c bs := (rfl)
@[simp] theorem toF_nx : toF nb (.nx ρ) = endO .non (allSome (ρ.take nb)) := by unfold toF endO; first | rfl | (dsimp only; cases allSome (ρ.take nb) <;> rfl) | (dsimp only; done)
@[simp] theorem toF_rt : toF nb (.rt d ρ) = endO d (allSome (ρ.take nb)) := by unfold toF endO; first | rfl | (dsimp only; cases allSome (ρ.take nb) <;> rfl) | (dsimp only; done)
@[simp] theorem toF_ex : toF nb (.ex c ρ) = exO c (allSome (ρ.take nb)) := by unfold toF exO; first | rfl | (dsimp only; cases allSome (ρ.take nb) <;> rfl) | (dsimp only; done)
@[simp] theorem toF_no : toF nb .no = .no := (rfl)
def refO (F : Env → Out (List D)) (ρ : Env) : Option (Option D) → Out (List D)
  | some (some _) => F ρ
  | _ => .no
@[simp] theorem fRef_ap : fRef j Fs ρ = refO Fs ρ ρ[j]? := by
  unfold fRef refO
  split <;> simp_all
@[simp] theorem refO_some : refO Fs ρ (some (some d)) = Fs ρ := (rfl)
def callA (js : List Nat) (m : List D → FOut) (as : List D) (ρ : Env) : Option (List D) → Out D
  | some ds => callO js (m (ds ++ as)) ρ
  | none => .no
@[simp] theorem callA_some : callA js m as ρ (some ds) = callO js (m (ds ++ as)) ρ := (rfl)
section
variable {nk : Nat} {ga : List D → List D → List D} {zs : List D} {Fk : Env → Out (List D)} {cls : String} {mn : Str} {Fo : Env → Out D} {fs : List (Str × D)}
@[simp] theorem fCallG_ap : fCallG n nk np js ga m Fs Fk ρ = (Fs ρ).bind fun as ρ1 => (Fk ρ1).bind fun zs ρ2 => callF n nk np js ga m as zs ρ2 := (rfl)
@[simp] theorem callF_ap : callF n nk np js ga m as zs ρ = if as.length = n ∧ zs.length = nk ∧ js.length + (ga as zs).length = np then callA js m (ga as zs) ρ (getAll ρ js) else .no := by
  unfold callF callA
  congr
@[simp] theorem fMethG_ap : fMethG n nk np cls mn ga m Fo Fs Fk ρ = (Fo ρ).bind (methF n nk np cls mn ga m Fs Fk) := (rfl)
@[simp] theorem methF_ob : methF n nk np cls mn ga m Fs Fk (.ob false cls fs) ρ = if fs.lookup mn = none then (Fs ρ).bind fun as ρ2 => (Fk ρ2).bind fun zs ρ3 => callF (n + 1) nk np [] ga m (.ob false cls fs :: as) zs ρ3 else .no := by
  by_cases c : fs.lookup mn = none
  · rw [if_pos c]
    exact if_pos ⟨rfl, c⟩
  · rw [if_neg c]
    exact if_neg fun h => c h.2
def obO (cls : String) (mn : Str) : Option (Option D) → Bool
  | some (some (.ob true c fs)) => decide (c = cls ∧ fs.lookup mn = none)
  | _ => false
@[simp] theorem isOb_ap : isOb ρ j cls mn = obO cls mn ρ[j]? := by
  unfold isOb obO
  rfl
@[simp] theorem obO_some : obO cls mn (some (some (.ob true cls fs))) = decide (fs.lookup mn = none) := by
  by_cases c : fs.lookup mn = none
  · show decide (cls = cls ∧ _) = _
    rw [decide_eq_true ⟨rfl, c⟩, decide_eq_true c]
  · show decide (cls = cls ∧ _) = _
    rw [decide_eq_false fun h => c h.2, decide_eq_false c]
@[simp] theorem fMethR_ap : fMethR j n nk np cls mn ga m Fs Fk ρ = if isOb ρ j cls mn = true then (Fs ρ).bind fun as ρ1 => (Fk ρ1).bind fun zs ρ2 => callF n nk np [j] ga m as zs ρ2 else .no := (rfl)
@[simp] theorem fMakeG_ap : fMakeG n nk np cls ga m Fs Fk ρ = (Fs ρ).bind fun as ρ1 => (Fk ρ1).bind fun zs ρ2 => makeF n nk np cls ga m as zs ρ2 := (rfl)
@[simp] theorem makeF_ap : makeF n nk np cls ga m as zs ρ = if as.length = n ∧ zs.length = nk ∧ 1 + (ga as zs).length = np then makeO (m (.ob true cls [] :: ga as zs)) ρ else .no := (rfl)
@[simp] theorem makeO_ok : makeO (.ok .non [d]) ρ = .ok d ρ true := (rfl)
@[simp] theorem makeO_ex : makeO (.ex c [d]) ρ = .ex c ρ := (rfl)
@[simp] theorem makeO_no : makeO .no ρ = .no := (rfl)
@[simp] theorem fFld_ap {f : Str} {cs : List String} : fFld f cs F ρ = (F ρ).bind fun a ρ1 => fldO f cs a ρ1 := (rfl)
def fldA (f : Str) (cs : List String) (ρ : Env) : Option (Option D) → Out D
  | some (some a) => fldO f cs a ρ
  | _ => .no
@[simp] theorem fFldS_ap {f : Str} {cs : List String} : fFldS j f cs ρ = fldA f cs ρ ρ[j]? := by
  unfold fFldS fldA
  rfl
@[simp] theorem fldA_some {f : Str} {cs : List String} : fldA f cs ρ (some (some d)) = fldO f cs d ρ := (rfl)
def fldB (ρ : Env) : Option D → Out D
  | some d => if owned d = true then .no else .ok d ρ true
  | none => .no
@[simp] theorem fldB_some : fldB ρ (some d) = if owned d = true then .no else .ok d ρ true := (rfl)
@[simp] theorem fldO_ob {f : Str} {cs : List String} : fldO f cs (.ob o cls fs) ρ = if cls ∈ cs then fldB ρ (fs.lookup f) else .no := by
  unfold fldO fldB
  rfl
@[simp] theorem gFld_ap {f : Str} {cs : List String} : gFld j f cs d ρ = setO j f cs d ρ ρ[j]? := (rfl)
@[simp] theorem setO_ob {f : Str} {cs : List String} : setO j f cs d ρ (some (some (.ob true cls fs))) = if cls ∈ cs ∧ fs.length < 1000 ∧ setO.okField d = true then some (ρ.set j (some (.ob true cls (putD f d fs)))) else none := (rfl)
@[simp] theorem putD_nil {f : Str} : putD f d [] = [(f, d)] := (rfl)
@[simp] theorem putD_cons {f g : Str} {e : D} : putD f d ((g, e) :: fs) = if g = f then (g, d) :: fs else (g, e) :: putD f d fs := (rfl)
end
section
variable {α : Type} {d0 : α} {pl : List Src} {dfs as zs : List α} {i : Nat}
@[simp] theorem arr_nil : arr d0 [] dfs as zs = [] := (rfl)
@[simp] theorem arr_pos : arr d0 (.pos i :: pl) dfs as zs = as.getD i d0 :: arr d0 pl dfs as zs := (rfl)
@[simp] theorem arr_kw : arr d0 (.kw i :: pl) dfs as zs = zs.getD i d0 :: arr d0 pl dfs as zs := (rfl)
@[simp] theorem arr_dfl : arr d0 (.dfl i :: pl) dfs as zs = dfs.getD i d0 :: arr d0 pl dfs as zs := (rfl)
end
@[simp] theorem getAll_nil : getAll ρ [] = some [] := (rfl)
def getO (js : List Nat) (ρ : Env) : Option (Option D) → Option (List D)
  | some (some d) => (getAll ρ js).map (d :: ·)
  | _ => none
@[simp] theorem getAll_cons : getAll ρ (j :: js) = getO js ρ ρ[j]? := by
  conv => lhs; unfold getAll
  unfold getO
  cases ρ[j]? with
  | none => rfl
  | some q =>
    cases q with
    | none => rfl
    | some d => cases getAll ρ js <;> rfl
@[simp] theorem getO_some : getO js ρ (some (some d)) = (getAll ρ js).map (d :: ·) := (rfl)
@[simp] theorem putAll_nil : putAll ρ [] bs = ρ := (rfl)
@[simp] theorem putAll_cons : putAll ρ (j :: js) (d :: ds) = putAll (ρ.set j (some d)) js ds := (rfl)
@[simp] theorem callO_ok : callO js (.ok d bs) ρ = .ok d (putAll ρ js bs) js.isEmpty := (rfl)
@[simp] theorem callO_ex : callO js (.ex c bs) ρ = .ex c (putAll ρ js bs) := (rfl)
@[simp] theorem callO_no : callO js .no ρ = .no := (rfl)
def lstO : Option (Option D) → Option (List D)
  | some (some (.lst _ ds)) => some ds
  | _ => none
@[simp] theorem lstO_some : lstO (some (some (.lst o ds))) = some ds := (rfl)
def ixA (ρ : Env) (i : D) : Option (List D) → Out D
  | some ds => (match i with
    | .int k => (match atI ds k with
      | some d => .ok d ρ true
      | none => .no)
    | _ => .no)
  | none => .no
def atO (ρ : Env) : Option D → Out D
  | some d => .ok d ρ true
  | none => .no
@[simp] theorem atO_some : atO ρ (some d) = .ok d ρ true := (rfl)
@[simp] theorem ixA_some {k : Int} : ixA ρ (.int k) (some ds) = atO ρ (atI ds k) := by
  unfold ixA atO
  rfl
theorem ixA_eq {i : D} : (match ρ[j]?, i with
  | some (some (.lst _ ds)), .int k => (match atI ds k with
    | some d => Out.ok d ρ true
    | none => Out.no)
  | _, _ => Out.no) = ixA ρ i (lstO ρ[j]?) := by
  unfold ixA lstO
  cases ρ[j]? with
  | none => rfl
  | some q =>
    cases q with
    | none => rfl
    | some d => cases d <;> cases i <;> rfl
@[simp] theorem fIxL_ap : fIxL j F ρ = if isLst ρ j = true then (F ρ).bind fun i ρ1 => ixA ρ1 i (lstO ρ1[j]?) else .no := by
  unfold fIxL
  congr
  first | done | (funext i ρ1; exact ixA_eq)
def isLO : Option (Option D) → Bool
  | some (some (.lst _ _)) => true
  | _ => false
@[simp] theorem isLst_ap : isLst ρ j = isLO ρ[j]? := by
  unfold isLst isLO
  cases ρ[j]? with
  | none => rfl
  | some q =>
    cases q with
    | none => rfl
    | some d => cases d <;> rfl
@[simp] theorem isLO_some : isLO (some (some (.lst o ds))) = true := (rfl)
def isOO : Option (Option D) → Bool
  | some (some (.lst true _)) => true
  | _ => false
@[simp] theorem isL_ap : isL ρ j = isOO ρ[j]? := by
  unfold isL isOO
  cases ρ[j]? with
  | none => rfl
  | some q =>
    cases q with
    | none => rfl
    | some d =>
      cases d with
      | lst o ds => cases o <;> rfl
      | _ => rfl
@[simp] theorem isOO_some : isOO (some (some (.lst true ds))) = true := (rfl)
def ownO : Option (Option D) → Option (List D)
  | some (some (.lst true ds)) => some ds
  | _ => none
@[simp] theorem ownO_some : ownO (some (some (.lst true ds))) = some ds := (rfl)
def setA (ρ : Env) (j : Nat) (d : D) (i : D) : Option (List D) → SOut
  | some ds => (match i with
    | .int k => (match ixN ds.length k with
      | some m => .nx (ρ.set j (some (.lst true (ds.set m d))))
      | none => .no)
    | _ => .no)
  | none => .no
@[simp] theorem sSetIx_ap {Fe Fi : Env → Out D} : sSetIx j Fe Fi ρ = (Fe ρ).s fun d ρ1 => if isL ρ1 j = true then (Fi ρ1).s fun i ρ2 => setA ρ2 j d i (ownO ρ2[j]?) else .no := by
  unfold sSetIx
  congr
  funext d ρ1
  split
  · congr
    funext i ρ2
    unfold setA ownO
    cases ρ2[j]? with
    | none => rfl
    | some q =>
      cases q with
      | none => rfl
      | some e =>
        cases e with
        | lst o ds => cases o <;> cases i <;> rfl
        | _ => rfl
  · rfl
@[simp] theorem setA_0 {d e : D} : setA ρ j d (.int 0) (some (e :: ds)) = .nx (ρ.set j (some (.lst true (d :: ds)))) := by
  unfold setA ixN
  simp
@[simp] theorem setA_1 {d e e' : D} : setA ρ j d (.int 1) (some (e :: e' :: ds)) = .nx (ρ.set j (some (.lst true (e :: d :: ds)))) := by
  have h : ixN (e :: e' :: ds).length 1 = some 1 := by
    unfold ixN
    rw [if_pos (by decide), if_pos (by simp only [List.length_cons]; omega)]
    rfl
  unfold setA
  dsimp only
  rw [h]
  rfl
def appO (ρ : Env) (j : Nat) (d : D) : Option (List D) → Out D
  | some ds => if ds.length < sizeLine then .ok .non (ρ.set j (some (.lst true (ds ++ [d])))) false else .no
  | none => .no
@[simp] theorem appO_some : appO ρ j d (some ds) = if ds.length < sizeLine then .ok .non (ρ.set j (some (.lst true (ds ++ [d])))) false else .no := (rfl)
@[simp] theorem fApp_ap : fApp j F ρ = if isL ρ j = true then (F ρ).bind fun d ρ1 => appO ρ1 j d (ownO ρ1[j]?) else .no := by
  unfold fApp
  congr
  funext d ρ1
  unfold appO ownO
  cases ρ1[j]? with
  | none => rfl
  | some q =>
    cases q with
    | none => rfl
    | some e =>
      cases e with
      | lst o ds => cases o <;> rfl
      | _ => rfl
end

/-! ### isinstance, == -/
section
variable {a b : Int} {x y : Str} {d : D} {ds : List D} {o : Bool} {n : String}
@[simp] theorem tyName_int : tyName (.int a) = some "int" := (rfl)
@[simp] theorem tyName_bl {k : Bool} : tyName (.bl k) = some "bool" := (rfl)
@[simp] theorem tyName_non : tyName .non = some "NoneType" := (rfl)
@[simp] theorem tyName_str : tyName (.str x) = some "str" := (rfl)
@[simp] theorem tyName_tup : tyName (.tup ds) = some "tuple" := (rfl)
@[simp] theorem tyName_lst : tyName (.lst o ds) = some "list" := (rfl)
def isiO (n : String) : Option String → Res
  | some m => if tyKnown n = true then .val (.bl (isTy m n)) else .no
  | none => .no
@[simp] theorem isiD_ty : isiD [d, .ty n] = isiO n (tyName d) := by
  unfold isiD isiO
  first | rfl | (dsimp only; cases tyName d <;> rfl) | (dsimp only; done)
@[simp] theorem isiO_some {m : String} : isiO n (some m) = if tyKnown n = true then .val (.bl (isTy m n)) else .no := (rfl)
def blR : Option Bool → Res
  | some k => .val (.bl k)
  | none => .no
@[simp] theorem blR_some {k : Bool} : blR (some k) = .val (.bl k) := (rfl)
@[simp] theorem eqD_ap {d e : D} : eqD d e = blR (eqB d e) := by unfold eqD blR; cases eqB d e <;> rfl
@[simp] theorem neD_ap {d e : D} : neD d e = blR ((eqB d e).map (!·)) := by unfold neD blR; cases eqB d e <;> rfl
/-- data that == reads -/
def shp (d : D) : Bool := match toPy d with
  | some p => SeqAt.shaped p
  | none => false
theorem eqP_self {d : D} (h : shp d = true) : eqP d d = some true := by
  unfold shp at h
  unfold eqP
  cases e : toPy d with
  | none => rw [e] at h; cases h
  | some p =>
    rw [e] at h
    dsimp only at h ⊢
    rw [if_pos ⟨h, h⟩, SeqAt.eqv_refl p (SeqAt.canLay_of_shaped h)]
theorem eqB_self {d : D} (h : shp d = true) : eqB d d = some true := by
  cases d with
  | str x => show some (x == x) = some true; rw [beq_self_eq_true]
  | _ => exact eqP_self h
@[simp] theorem eqB_int : eqB (.int a) (.int b) = some (decide (a = b)) := by
  show (if SeqAt.shaped (.int a) = true ∧ SeqAt.shaped (.int b) = true then some (PyData.eqv (.int a) (.int b)) else none) = _
  rw [if_pos ⟨rfl, rfl⟩]
  simp only [PyData.eqv]
  rw [Bool.beq_eq_decide_eq]
@[simp] theorem eqB_str : eqB (.str x) (.str y) = some (x == y) := (rfl)
end
end DL
set_option Elab.async false
set_option linter.all false
set_option maxRecDepth 100000
set_option maxHeartbeats 1000000
namespace DL
open PySem PySem.Spec PyProof.Rows L2
/-! ### loops -/
section
variable {ρ : Env} {g : D → Env → Option Env} {body : Env → SOut} {F : Env → Out D} {Fs : Env → Out (List D)} {ds : List D} {o : Bool} {a b : Int}
@[simp] theorem sFor_ap : sFor Fs g body ρ = (Fs ρ).s fun ds ρ1 => forD g body ds ρ1 := (rfl)
@[simp] theorem fAny_ap : fAny F ρ = (F ρ).bind fun a ρ1 => liftL (seqD a) ρ1 := (rfl)
@[simp] theorem seqD_tup : seqD (.tup ds) = some ds := (rfl)
@[simp] theorem seqD_lst : seqD (.lst o ds) = some ds := (rfl)
@[simp] theorem liftL_some : liftL (some ds) ρ = .ok ds ρ true := (rfl)
@[simp] theorem fRng1_ap : fRng1 Fs ρ = (Fs ρ).bind rng1 := (rfl)
@[simp] theorem fRng2_ap : fRng2 Fs ρ = (Fs ρ).bind rng2 := (rfl)
@[simp] theorem rng1_int : rng1 [.int a] ρ = if -(2 ^ 62) ≤ a ∧ a < 2 ^ 62 then .ok (rngD 0 a.toNat) ρ true else .no := (rfl)
@[simp] theorem rng2_int : rng2 [.int a, .int b] ρ = .ok (rngD a (b - a).toNat) ρ true := (rfl)
theorem forD_nil : forD g body [] ρ = .nx ρ := rfl
/-- a loop that runs through: P holds of the state ahead of each turn -/
theorem for_nx (P : Nat → Env → Prop) : ∀ (ds : List D) (k : Nat) (ρ : Env), P k ρ →
    (∀ (i : Nat) (d : D) (ρ : Env), ds[i]? = some d → P (k + i) ρ → ∃ ρ1, g d ρ = some ρ1 ∧ ∃ ρ2, (body ρ1 = .nx ρ2 ∨ body ρ1 = .ct ρ2) ∧ P (k + i + 1) ρ2) →
    ∃ ρ', forD g body ds ρ = .nx ρ' ∧ P (k + ds.length) ρ'
  | [], k, ρ, p, _ => ⟨ρ, rfl, p⟩
  | d :: ds, k, ρ, p, h => by
    obtain ⟨ρ1, e1, ρ2, e2, p2⟩ := h 0 d ρ rfl p
    obtain ⟨ρ', e, q⟩ := for_nx P ds (k + 1) ρ2 p2 fun i d ρ hi hp => by
      have e : k + 1 + i = k + (i + 1) := by omega
      rw [e] at hp ⊢
      exact h (i + 1) d ρ hi hp
    refine ⟨ρ', ?_, by rw [show k + (d :: ds).length = k + 1 + ds.length by rw [List.length_cons]; omega]; exact q⟩
    unfold forD
    rw [e1]
    rcases e2 with e2 | e2 <;> (dsimp only; rw [e2]; exact e)
/-- .. where the state's form does not depend on the turn -/
theorem for_all (P : Env → Prop) (ds : List D) (ρ : Env) (p : P ρ) (h : ∀ d ∈ ds, ∀ ρ, P ρ → ∃ ρ1, g d ρ = some ρ1 ∧ ∃ ρ2, (body ρ1 = .nx ρ2 ∨ body ρ1 = .ct ρ2) ∧ P ρ2) : ∃ ρ', forD g body ds ρ = .nx ρ' ∧ P ρ' := by
  obtain ⟨ρ', e, q⟩ := for_nx (g := g) (body := body) (fun _ => P) ds 0 ρ p fun i d ρ hi hp => h d (List.mem_of_getElem? hi) ρ hp
  exact ⟨ρ', e, q⟩
end
/-! ### comprehensions -/
section
variable {ρ : Env} {g : D → Env → Option Env} {T : Env → Out Bool} {Fe : Env → Out D} {Fs : Env → Out (List D)} {vs : List Nat}
@[simp] theorem fLc_ap : fLc vs Fs g T Fe ρ = (Fs ρ).bind fun ds ρ1 => lcD vs g T Fe ds [] (wipeE ρ1 vs) := (rfl)
@[simp] theorem wipeE_nil : wipeE ρ [] = ρ := (rfl)
@[simp] theorem wipeE_cons {v : Nat} : wipeE ρ (v :: vs) = (wipeE ρ vs).set v none := (rfl)
/-- each item gives its own element, and the state is as before -/
theorem lc_map {ρ : Env} (f : D → D) : ∀ (ds acc : List D), acc.length + ds.length ≤ sizeLine →
    (∀ d ∈ ds, ∃ ρ1 ρ2 ρ3 q1 q2, g d ρ = some ρ1 ∧ T ρ1 = .ok true ρ2 q1 ∧ Fe ρ2 = .ok (f d) ρ3 q2 ∧ wipeE ρ3 vs = ρ) → lcD vs g T Fe ds acc ρ = .ok (.lst true (acc ++ ds.map f)) ρ false
  | [], acc, _, _ => by simp [lcD]
  | d :: ds, acc, hl, h => by
    obtain ⟨ρ1, ρ2, ρ3, q1, q2, e1, e2, e3, e4⟩ := h d (List.mem_cons_self ..)
    rw [List.length_cons] at hl
    have r := lc_map f ds (acc ++ [f d]) (by rw [List.length_append, List.length_singleton]; omega) fun e he => h e (List.mem_cons_of_mem _ he)
    unfold lcD
    rw [e1]
    dsimp only
    rw [e2]
    dsimp only
    rw [if_pos rfl, e3]
    dsimp only
    rw [if_pos (by omega), e4, r, List.append_assoc]
    rfl
/-- .. with a test -/
theorem lc_filter {ρ : Env} (p : D → Bool) (f : D → D) : ∀ (ds acc : List D), acc.length + ds.length ≤ sizeLine →
    (∀ d ∈ ds, ∃ ρ1 ρ2 q1, g d ρ = some ρ1 ∧ T ρ1 = .ok (p d) ρ2 q1 ∧ (p d = true → ∃ ρ3 q2, Fe ρ2 = .ok (f d) ρ3 q2 ∧ wipeE ρ3 vs = ρ) ∧ (p d = false → wipeE ρ2 vs = ρ)) → lcD vs g T Fe ds acc ρ = .ok (.lst true (acc ++ (ds.filter p).map f)) ρ false
  | [], acc, _, _ => by simp [lcD]
  | d :: ds, acc, hl, h => by
    obtain ⟨ρ1, ρ2, q1, e1, e2, e3, e4⟩ := h d (List.mem_cons_self ..)
    rw [List.length_cons] at hl
    have h' : ∀ e ∈ ds, _ := fun e he => h e (List.mem_cons_of_mem _ he)
    unfold lcD
    rw [e1]
    dsimp only
    rw [e2]
    dsimp only
    cases c : p d with
    | true =>
      obtain ⟨ρ3, q2, e5, e6⟩ := e3 c
      rw [if_pos rfl, e5]
      dsimp only
      rw [if_pos (by omega), e6, lc_filter p f ds (acc ++ [f d]) (by rw [List.length_append, List.length_singleton]; omega) h', List.append_assoc]
      simp [List.filter, c]
    | false =>
      rw [if_neg (by decide), e4 c, lc_filter p f ds acc (by omega) h']
      simp [List.filter, c]
@[simp] theorem unBls_map {α : Type} (f : α → Bool) : ∀ l : List α, unBls (l.map fun x => D.bl (f x)) = some (l.map f)
  | [] => rfl
  | x :: l => by
    show (unBls (l.map fun x => D.bl (f x))).map (f x :: ·) = _
    rw [unBls_map f l]
    rfl
@[simp] theorem unInts_map {α : Type} (f : α → Int) : ∀ l : List α, unInts (l.map fun x => D.int (f x)) = some (l.map f)
  | [] => rfl
  | x :: l => by
    show (unInts (l.map fun x => D.int (f x))).map (f x :: ·) = _
    rw [unInts_map f l]
    rfl
def allR : Option (List Bool) → Res
  | some bs => .val (.bl (bs.all id))
  | none => .no
def sumR : Option (List Int) → Res
  | some ns => .val (.int ns.sum)
  | none => .no
@[simp] theorem allD_lst {o : Bool} {ds : List D} : allD [.lst o ds] = allR (unBls ds) := by unfold allD allR; first | rfl | (dsimp only; cases unBls ds <;> rfl) | (dsimp only; done)
@[simp] theorem allR_some {bs : List Bool} : allR (some bs) = .val (.bl (bs.all id)) := (rfl)
@[simp] theorem sumD_lst {o : Bool} {ds : List D} : sumD [.lst o ds] = sumR (unInts ds) := by unfold sumD sumR; first | rfl | (dsimp only; cases unInts ds <;> rfl) | (dsimp only; done)
@[simp] theorem sumR_some {bs : List Int} : sumR (some bs) = .val (.int bs.sum) := (rfl)
end
end DL
namespace DL
open PySem PySem.Spec PyProof.Rows L2
/-! ### try, slices -/
section
variable {ρ : Env} {Fb : Env → SOut} {hds : List Hd} {c : Exn} {d : D} {h : Hd}
def tryO (hds : List Hd) : SOut → SOut
  | .ex c ρ1 => hdsD hds c ρ1
  | o => o
@[simp] theorem sTry_ap : sTry Fb hds ρ = tryO hds (Fb ρ) := by
  unfold sTry tryO
  cases Fb ρ <;> rfl
@[simp] theorem tryO_ex : tryO hds (.ex c ρ) = hdsD hds c ρ := (rfl)
@[simp] theorem tryO_nx : tryO hds (.nx ρ) = .nx ρ := (rfl)
@[simp] theorem tryO_rt : tryO hds (.rt d ρ) = .rt d ρ := (rfl)
@[simp] theorem hdsD_nil : hdsD [] c ρ = .ex c ρ := (rfl)
@[simp] theorem hdsD_cons : hdsD (h :: hds) c ρ = if c.cls ∈ h.yes then (if hdsD.inO h.nm ρ = true then endH h.nm (h.F c (endH.wipeO h.nm ρ)) else .no) else if c.cls ∈ h.no then hdsD hds c ρ else .no := (rfl)
@[simp] theorem inO_none : hdsD.inO none ρ = true := (rfl)
@[simp] theorem inO_some {i : Nat} : hdsD.inO (some i) ρ = decide (i < ρ.length) := (rfl)
@[simp] theorem wipeO_none : endH.wipeO none ρ = ρ := (rfl)
@[simp] theorem wipeO_some {i : Nat} : endH.wipeO (some i) ρ = ρ.set i none := (rfl)
@[simp] theorem endH_rt {o : Option Nat} : endH o (.rt d ρ) = .rt d (endH.wipeO o ρ) := (rfl)
@[simp] theorem endH_nx {o : Option Nat} : endH o (.nx ρ) = .nx (endH.wipeO o ρ) := (rfl)
@[simp] theorem endH_bk {o : Option Nat} : endH o (.bk ρ) = .bk (endH.wipeO o ρ) := (rfl)
@[simp] theorem endH_ct {o : Option Nat} : endH o (.ct ρ) = .ct (endH.wipeO o ρ) := (rfl)
@[simp] theorem tryO_bk : tryO hds (.bk ρ) = .bk ρ := (rfl)
@[simp] theorem tryO_ct : tryO hds (.ct ρ) = .ct ρ := (rfl)
end
section
variable {ρ : Env} {F : Env → Out D} {g : D → Option Int → Option Int → Res} {L U : Opt} {k : Res → Env → Out D} {a : Int} {ds : List D} {lo hi : Option Int} {o : Bool}
@[simp] theorem fNoP_ap : fNoP ρ = .ok none ρ true := (rfl)
def partO (a : D) (ρ : Env) : Out (Option Int) := match a with
  | .int i => .ok (some i) ρ true
  | _ => .no
@[simp] theorem fPart_ap : fPart F ρ = (F ρ).bind partO := (rfl)
@[simp] theorem partO_int : partO (.int a) ρ = .ok (some a) ρ true := (rfl)
@[simp] theorem fSl_ap : fSl g F L U k ρ = (F ρ).bind fun a ρ1 => (L ρ1).bind fun lo ρ2 => (U ρ2).bind fun hi ρ3 => k (g a lo hi) ρ3 := (rfl)
@[simp] theorem slD_tup : slD (.tup ds) lo hi = .val (.tup (cutD ds lo hi)) := (rfl)
@[simp] theorem slD_lst : slD (.lst o ds) lo hi = .new (cutD ds lo hi) := (rfl)
end
end DL
namespace DL
open PySem PySem.Spec PyProof.Rows L2
/-- range(max(1, len(script))) -/
theorem rng_max {ds : List D} {r : Env} (h : ds.length ≤ 63) :
    fRng1 (fCons (fCl maxD (fCons (fC (.int 1)) (fCons (fCl lenD (fCons (fVar [] 0) fNil)) fNil))) fNil) (some (.ro ds) :: r) = .ok (rngD 0 (max 1 ds.length)) (some (.ro ds) :: r) true := by
  have c : (if (1 : Int) < (ds.length : Int) then (ds.length : Int) else 1) = ((max 1 ds.length : Nat) : Int) := by split <;> omega
  simp
  rw [c, if_pos (by omega)]
  simp
end DL
set_option Elab.async false
set_option linter.all false
set_option maxRecDepth 100000
set_option maxHeartbeats 1000000
namespace DL
open PySem PySem.Spec PyProof.Rows L2
section
variable {ρ : Env} {a b : Int} {o : Bool} {ds : List D} {x : Str} {k : Res → Env → Out D} {F : Env → Out D}
@[simp] theorem mulL_int : mulL (.int a) (.int b) = if IntMulOk a b then .val (.int (a * b)) else .no := (rfl)
@[simp] theorem mulL_lst : mulL (.lst o ds) (.int b) = if 0 ≤ b ∧ b ≤ 4096 ∧ ds.length ≤ 4096 then .new (repD b.toNat ds) else .no := (rfl)
@[simp] theorem reprD_bl {k : Bool} : reprD [.bl k] = .val (.str (if k = true then "True" else "False")) := (rfl)
@[simp] theorem reprD_int : reprD [.int a] = if a.natAbs.log2 < 1920 then .val (.str (toString a)) else .no := (rfl)
@[simp] theorem reprD_non : reprD [.non] = .val (.str "None") := (rfl)
@[simp] theorem fRev_ap : fRev k F ρ = (F ρ).bind fun a ρ1 => k (revD a) ρ1 := (rfl)
@[simp] theorem revD_lst : revD (.lst o ds) = .new ds.reverse := (rfl)
end
end DL
set_option Elab.async false
set_option linter.all false
set_option maxRecDepth 100000
set_option maxHeartbeats 1000000
namespace DL
open PySem PySem.Spec PyProof.Rows L2
section
variable {ρ ρ1 : Env} {F Fa Fb Fc : Env → Out D} {Fs : Env → Out (List D)} {g g' : D → D → Res} {d c : D} {ds es : List D} {o : Bool} {a b : Int} {x y : Str} {n : String} {f : Str} {fs : List (Str × D)} {j : Nat} {k : Bool}
@[simp] theorem fM1_ap : fM1 g Fa Fb ρ = (Fa ρ).bind fun a ρ1 => if isStrD a = true then (Fb ρ1).bind fun c ρ2 => resE (g a c) ρ2 else .no := (rfl)
@[simp] theorem isStrD_str : isStrD (.str x) = true := (rfl)
def joinR (x : Str) : Option (List Str) → Res
  | some ys => if (ys.map (·.length)).sum + ys.length * x.length ≤ 16777216 then .val (.str (Txt.join x ys)) else .no
  | none => .no
@[simp] theorem joinR_some {ys : List Str} : joinR x (some ys) = if (ys.map (·.length)).sum + ys.length * x.length ≤ 16777216 then .val (.str (Txt.join x ys)) else .no := (rfl)
@[simp] theorem joinD_lst : joinD (.str x) (.lst o ds) = joinR x (unStrs ds) := by unfold joinD joinR; rfl
@[simp] theorem joinD_tup : joinD (.str x) (.tup ds) = joinR x (unStrs ds) := by unfold joinD joinR; rfl
def maxR : Option (List Int) → Res
  | some ns => (match maxI ns with | some m => .val (.int m) | none => .no)
  | none => .no
def minR : Option (List Int) → Res
  | some ns => (match minI ns with | some m => .val (.int m) | none => .no)
  | none => .no
@[simp] theorem maxL_lst : maxL [.lst o ds] = maxR (unInts ds) := by unfold maxL maxR; rfl
@[simp] theorem minL_lst : minL [.lst o ds] = minR (unInts ds) := by unfold minL minR; rfl
@[simp] theorem maxR_cons {r : List Int} : maxR (some (a :: r)) = .val (.int (r.foldl max a)) := (rfl)
@[simp] theorem minR_cons {r : List Int} : minR (some (a :: r)) = .val (.int (r.foldl min a)) := (rfl)
def sortR : Option (List Int) → Res
  | some ns => .new ((srtI ns).map D.int)
  | none => .no
@[simp] theorem sortD_lst : sortD [.lst o ds] = sortR (unInts ds) := by unfold sortD sortR; rfl
@[simp] theorem sortR_some {ns : List Int} : sortR (some ns) = .new ((srtI ns).map D.int) := (rfl)
def strR : Option Str → Res
  | some v => .val (.str v)
  | none => .no
@[simp] theorem strR_some : strR (some x) = .val (.str x) := (rfl)
@[simp] theorem kdD_str {es : List (Str × Str)} : kdD es (.str x) = strR (es.lookup x) := by unfold kdD strR; rfl
@[simp] theorem sRaise1_ap : sRaise1 n f F ρ = (F ρ).s fun d ρ1 => .ex ⟨n, [(f, d)]⟩ ρ1 := (rfl)
def xfO (ρ : Env) : Option D → Out D
  | some d => .ok d ρ true
  | none => .no
@[simp] theorem fXf_ap : fXf fs f ρ = xfO ρ (fs.lookup f) := by unfold fXf xfO; rfl
@[simp] theorem xfO_some : xfO ρ (some d) = .ok d ρ true := (rfl)
@[simp] theorem fChain_ap : fChain g g' Fa Fb Fc ρ = (Fa ρ).bind fun a ρ1 => (Fb ρ1).bind fun c ρ2 => chainO g' Fc c ρ2 (g a c) := (rfl)
@[simp] theorem chainO_bl : chainO g' Fc c ρ (.val (.bl k)) = if k = true then (Fc ρ).bind fun d ρ3 => resE (g' c d) ρ3 else .ok (.bl false) ρ true := by cases k <;> rfl
@[simp] theorem fEnum_ap : fEnum Fs ρ = (Fs ρ).bind enum1 := (rfl)
@[simp] theorem enum1_lst : enum1 [.lst o ds] ρ = .ok (enumD ds) ρ true := (rfl)
@[simp] theorem enum1_tup : enum1 [.tup ds] ρ = .ok (enumD ds) ρ true := (rfl)
def popO (ρ : Env) (j : Nat) (ds : List D) : Option D → Out D
  | some d => .ok d (ρ.set j (some (.lst true ds.dropLast))) false
  | none => .no
def popA (ρ : Env) (j : Nat) : Option (Option D) → Out D
  | some (some (.lst true ds)) => popO ρ j ds ds.getLast?
  | _ => .no
@[simp] theorem fPop_ap : fPop j ρ = popA ρ j ρ[j]? := by unfold fPop popA popO; rfl
@[simp] theorem popA_some : popA ρ j (some (some (.lst true ds))) = popO ρ j ds ds.getLast? := (rfl)
@[simp] theorem popO_some : popO ρ j ds (some d) = .ok d (ρ.set j (some (.lst true ds.dropLast))) false := (rfl)
@[simp] theorem reprG_bl : reprG [.bl k] = .val (.str (if k = true then "True" else "False")) := (rfl)
@[simp] theorem reprG_int : reprG [.int a] = if a.natAbs.log2 < 1920 then .val (.str (toString a)) else .no := (rfl)
@[simp] theorem reprG_non : reprG [.non] = .val (.str "None") := (rfl)
@[simp] theorem reprG_tup : reprG [.tup ds] = reprP (.tup ds) := (rfl)
@[simp] theorem reprG_lst : reprG [.lst o ds] = reprP (.lst o ds) := (rfl)
@[simp] theorem isCl_ob {c : String} : isCl n (.ob o c fs) = if c = n then some true else none := (rfl)
@[simp] theorem isCl_int : isCl n (.int a) = some false := (rfl)
@[simp] theorem isCl_bl : isCl n (.bl k) = some false := (rfl)
@[simp] theorem isCl_non : isCl n .non = some false := (rfl)
@[simp] theorem isCl_str : isCl n (.str x) = some false := (rfl)
@[simp] theorem isCl_tup : isCl n (.tup ds) = some false := (rfl)
@[simp] theorem isCl_lst : isCl n (.lst o ds) = some false := (rfl)
@[simp] theorem isiC_ap : isiC n d = blR (isCl n d) := by unfold isiC blR; cases isCl n d <;> rfl
@[simp] theorem gTL_tup {G : List D → Env → Option Env} {m : Nat} : gTL m G (.tup ds) ρ = if ds.length = m then G ds ρ else none := (rfl)
@[simp] theorem gTL_lst {G : List D → Env → Option Env} {m : Nat} : gTL m G (.lst o ds) ρ = if ds.length = m then G ds ρ else none := (rfl)
@[simp] theorem sAsgs_ap {gs : List (D → Env → Option Env)} : sAsgs F gs ρ = (F ρ).s fun d ρ1 => if owned d = true then .no else sAsgs.sOpts gs d ρ1 := (rfl)
@[simp] theorem sOpts_nil : sAsgs.sOpts [] d ρ = .nx ρ := (rfl)
def optS (G : Env → SOut) : Option Env → SOut
  | some ρ => G ρ
  | none => .no
@[simp] theorem optS_some {G : Env → SOut} : optS G (some ρ) = G ρ := (rfl)
@[simp] theorem sOpts_cons {gs : List (D → Env → Option Env)} {h : D → Env → Option Env} : sAsgs.sOpts (h :: gs) d ρ = optS (sAsgs.sOpts gs d) (h d ρ) := by
  conv => lhs; unfold sAsgs.sOpts
  unfold optS
  cases h d ρ <;> rfl
@[simp] theorem owned_ob : owned (.ob o n fs) = o := (rfl)
end
end DL
set_option Elab.async false
set_option linter.all false
set_option maxRecDepth 100000
set_option maxHeartbeats 1000000
/-! Plain data: what == and repr give of it; loops over encoded lists. -/
namespace DL
open PySem PySem.Spec PyProof.Rows L2
/-- data that == and repr read: at most k deep, its text has at most m signs -/
structure Gd (k m : Nat) (d : D) : Prop where
  ex : ∃ p, toPy d = some p ∧ p.canLay0 = true ∧ p.depth ≤ k ∧ p.showable = true ∧ p.shown.length ≤ m
structure Gds (k m : Nat) (ds : List D) : Prop where
  ex : ∃ ps, toPys ds = some ps ∧ PyData.canLayAll0 ps = true ∧ PyData.depthAll ps ≤ k ∧ PyData.showableAll ps = true ∧ piled (PyData.shownAll ps) ≤ m
theorem Gd.weak {k m k' m' : Nat} {d : D} (h : Gd k m d) (hk : k ≤ k') (hm : m ≤ m') : Gd k' m' d := by
  obtain ⟨p, h1, h2, h3, h4, h5⟩ := h.ex
  exact ⟨p, h1, h2, by omega, h4, by omega⟩
theorem toPys_cons {d : D} {ds : List D} {p : PyData} {ps : List PyData} (h1 : toPy d = some p) (h2 : toPys ds = some ps) : toPys (d :: ds) = some (p :: ps) := by
  show (match toPy d, toPys ds with
    | some p, some ps => some (p :: ps)
    | _, _ => none) = _
  rw [h1, h2]
theorem gds_nil {k : Nat} : Gds k 0 [] := ⟨[], rfl, rfl, Nat.zero_le _, rfl, Nat.le_refl _⟩
theorem gds_cons {k m n : Nat} {d : D} {ds : List D} (h : Gd k m d) (r : Gds k n ds) : Gds k (m + 2 + n) (d :: ds) := by
  obtain ⟨p, h1, h2, h3, h4, h5⟩ := h.ex
  obtain ⟨ps, r1, r2, r3, r4, r5⟩ := r.ex
  refine ⟨p :: ps, toPys_cons h1 r1, ?_, ?_, ?_, ?_⟩
  · simp [PyData.canLayAll0, h2, r2]
  · simp only [PyData.depthAll]; omega
  · simp [PyData.showableAll, h4, r4]
  · simp only [PyData.shownAll, piled_cons]; omega
theorem gds_map {α : Type} {k m : Nat} (f : α → D) : ∀ (l : List α), (∀ x ∈ l, Gd k m (f x)) → Gds k ((m + 2) * l.length) (l.map f)
  | [], _ => gds_nil
  | x :: l, h => by
    have r := gds_cons (h x (List.mem_cons_self ..)) (gds_map f l fun y hy => h y (List.mem_cons_of_mem _ hy))
    have e : m + 2 + (m + 2) * l.length = (m + 2) * (x :: l).length := by rw [List.length_cons, Nat.mul_add, Nat.mul_one, Nat.add_comm]
    rw [e] at r
    exact r
theorem textFrom_le : ∀ (ts : List Str) (k : Nat) (acc : Str), (textFrom k acc ts).length ≤ acc.length + piled ts
  | [], k, acc => by simp [textFrom, piled]
  | t :: r, k, acc => by
    have h := textFrom_le r (k + 1) (acc ++ (if k > 0 then ", " else "" : String) ++ t)
    have e : (acc ++ (if k > 0 then ", " else "" : String) ++ t).length ≤ acc.length + 2 + t.length := by
      rw [strLen_append, strLen_append]
      split
      · have q : ((", " : String) : Str).length = 2 := rfl
        omega
      · have q : (("" : String) : Str).length = 0 := rfl
        omega
    rw [piled_cons]
    unfold textFrom
    omega
theorem listText_le (ts : List Str) : (listText ts).length ≤ piled ts + 2 := by
  have h := textFrom_le ts 0 "["
  unfold listText
  rw [strLen_append]
  have q1 : (("[" : String) : Str).length = 1 := rfl
  have q2 : (("]" : String) : Str).length = 1 := rfl
  omega
theorem join_le (ts : List Str) : (Str.join ", " ts).length ≤ piled ts := by
  by_cases h : ts = []
  · subst h
    show (Str.join ", " []).length ≤ 0
    decide
  · have := join_length_add ts h
    omega
theorem tupleText_le (ts : List Str) : (tupleText ts).length ≤ piled ts + 3 := by
  have h := join_le ts
  unfold tupleText
  rw [strLen_append, strLen_append]
  have q1 : (("(" : String) : Str).length = 1 := rfl
  have q2 : ((",)" : String) : Str).length = 2 := rfl
  have q3 : ((")" : String) : Str).length = 1 := rfl
  split <;> omega
theorem gd_lst {k m : Nat} {o : Bool} {ds : List D} (h : Gds k m ds) : Gd (k + 1) (m + 2) (.lst o ds) := by
  obtain ⟨ps, r1, r2, r3, r4, r5⟩ := h.ex
  refine ⟨.list ps, ?_, by simpa [PyData.canLay0] using r2, by simp only [PyData.depth]; omega, by simpa [PyData.showable] using r4, ?_⟩
  · show (toPys ds).map PyData.list = _
    rw [r1]; rfl
  · have := listText_le (PyData.shownAll ps)
    simp only [PyData.shown]; omega
theorem gd_tup {k m : Nat} {ds : List D} (h : Gds k m ds) : Gd (k + 1) (m + 3) (.tup ds) := by
  obtain ⟨ps, r1, r2, r3, r4, r5⟩ := h.ex
  refine ⟨.tuple ps, ?_, by simpa [PyData.canLay0] using r2, by simp only [PyData.depth]; omega, by simpa [PyData.showable] using r4, ?_⟩
  · show (toPys ds).map PyData.tuple = _
    rw [r1]; rfl
  · have := tupleText_le (PyData.shownAll ps)
    simp only [PyData.shown]; omega
theorem strOf_length (s : String) : (PySem.Str.ofString s).length = s.length := by
  rw [PySem.Str.ofString_eq_toList]
  show (s.toList.map Char.toNat).toArray.size = _
  rw [List.size_toArray, List.length_map, String.length_toList]
theorem log_lt {i : Int} {k : Nat} (hk : 0 < k) (h1 : -(2 ^ k : Int) < i) (h2 : i < (2 ^ k : Int)) : i.natAbs.log2 < k := by
  have q : i.natAbs < 2 ^ k := by
    have e : ((2 ^ k : Nat) : Int) = (2 ^ k : Int) := by simp
    omega
  by_cases z : i.natAbs = 0
  · rw [z]; exact (by decide : Nat.log2 0 = 0) ▸ hk
  · exact (Nat.log2_lt z).mpr q
theorem gd_int {i : Int} (h1 : -(2 ^ 1900) < i) (h2 : i < 2 ^ 1900) : Gd 0 1901 (.int i) := by
  have q : i.natAbs.log2 < 1900 := log_lt (by decide) h1 h2
  refine ⟨.int i, rfl, rfl, Nat.le_refl _, ?_, ?_⟩
  · simp only [PyData.showable, decide_eq_true_eq]; omega
  · have := int_text_length_le (a := i) (k := 1900) (by decide) q
    simp only [PyData.shown]
    rw [strOf_length]
    exact this
theorem gd_bl {b : Bool} : Gd 0 5 (.bl b) := ⟨.bool b, rfl, rfl, Nat.le_refl _, rfl, by cases b <;> decide⟩
theorem gd_non : Gd 0 4 .non := ⟨.none, rfl, rfl, Nat.le_refl _, rfl, by decide⟩
theorem gd_str {m : Nat} {x : Str} (h : PyData.strOk x = true) (hm : (PyData.shown (.str x)).length ≤ m) : Gd 0 m (.str x) := ⟨.str x, rfl, by simpa [PyData.canLay0] using h, Nat.le_refl _, rfl, hm⟩
theorem Gd.eq {k m : Nat} {d : D} (h : Gd k m d) (hk : k ≤ 64) : eqB d d = some true := by
  obtain ⟨p, h1, h2, h3, h4, h5⟩ := h.ex
  refine eqB_self ?_
  unfold shp
  rw [h1]
  show SeqAt.shaped p = true
  unfold SeqAt.shaped
  rw [Bool.and_eq_true, decide_eq_true_eq]
  exact ⟨h2, by omega⟩
/-- what repr gives -/
def shownD (d : D) : Str := match toPy d with
  | some p => p.shown
  | none => Str.empty
theorem Gd.repr {k m : Nat} {d : D} (h : Gd k m d) (hk : k ≤ 40) (hm : m ≤ 16777216) : reprP d = .val (.str (shownD d)) := by
  obtain ⟨p, h1, h2, h3, h4, h5⟩ := h.ex
  unfold reprP shownD
  rw [h1]
  dsimp only
  have f : ReprFits p := ⟨h4, by rw [sizeLine_eq]; omega, by omega, PyData.hasDict_of_canLay p h2⟩
  rw [if_pos f]
theorem Gds.isNil {k m : Nat} {ds : List D} {o o' : Bool} (h : Gds k m ds) (hk : k ≤ 60) : eqB (.lst o ds) (.lst o' []) = some ds.isEmpty := by
  obtain ⟨ps, r1, r2, r3, r4, r5⟩ := h.ex
  have e1 : toPy (.lst o ds) = some (.list ps) := by
    show (toPys ds).map PyData.list = _
    rw [r1]; rfl
  show eqP (.lst o ds) (.lst o' []) = _
  unfold eqP
  rw [e1]
  show (if SeqAt.shaped (.list ps) = true ∧ SeqAt.shaped (.list []) = true then some (PyData.eqv (.list ps) (.list [])) else none) = _
  have e2 : SeqAt.shaped (.list ps) = true := by
    unfold SeqAt.shaped
    rw [Bool.and_eq_true, decide_eq_true_eq]
    exact ⟨by simpa [PyData.canLay0] using r2, by simp only [PyData.depth]; omega⟩
  rw [if_pos ⟨e2, rfl⟩]
  show some (PyData.eqvAll ps []) = _
  cases ds with
  | nil => cases r1; rfl
  | cons d ds =>
    cases ps with
    | nil =>
      have r1' : (match toPy d, toPys ds with
        | some p, some ps => some (p :: ps)
        | _, _ => none) = some [] := r1
      split at r1' <;> cases r1'
    | cons p ps => simp [PyData.eqvAll]
/-! ### loops over encoded lists -/
/-- one turn -/
def oneT (g : D → Env → Option Env) (body : Env → SOut) (d : D) (ρ : Env) : SOut := optS body (g d ρ)
@[simp] theorem oneT_ap {g : D → Env → Option Env} {body : Env → SOut} {d : D} {ρ : Env} : oneT g body d ρ = optS body (g d ρ) := (rfl)
theorem forD_one {g : D → Env → Option Env} {body : Env → SOut} {d : D} {ds : List D} {ρ : Env} : forD g body (d :: ds) ρ = (match oneT g body d ρ with
    | .nx ρ1 => forD g body ds ρ1
    | .ct ρ1 => forD g body ds ρ1
    | .bk ρ1 => .nx ρ1
    | o => o) := by
  conv => lhs; unfold forD
  unfold oneT optS
  cases g d ρ with
  | none => rfl
  | some ρ1 => dsimp only; cases body ρ1 <;> rfl
/-- the state S a j: a counts, j is what else the turn leaves -/
theorem for_fold {α β J : Type} {g : D → Env → Option Env} {body : Env → SOut} (enc : β → D) (S : α → J → Env) (f : α → β → α) : ∀ (l : List β) (a : α) (j : J),
    (∀ a j b, b ∈ l → ∃ j', oneT g body (enc b) (S a j) = .nx (S (f a b) j') ∨ oneT g body (enc b) (S a j) = .ct (S (f a b) j')) → ∃ j', forD g body (l.map enc) (S a j) = .nx (S (l.foldl f a) j')
  | [], a, j, _ => ⟨j, rfl⟩
  | b :: l, a, j, h => by
    obtain ⟨j1, e2⟩ := h a j b (List.mem_cons_self ..)
    obtain ⟨j', e⟩ := for_fold enc S f l (f a b) j1 fun a j b hb => h a j b (List.mem_cons_of_mem _ hb)
    refine ⟨j', ?_⟩
    rw [List.map_cons, forD_one]
    rcases e2 with e2 | e2 <;> (rw [e2]; exact e)
/-- .. the state ahead of a turn is what the items so far have made of a -/
theorem for_pre {α β J : Type} {g : D → Env → Option Env} {body : Env → SOut} (enc : β → D) (S : α → J → Env) (f : α → β → α) (l : List β) (a : α) (j : J)
    (h : ∀ pre b post j, l = pre ++ b :: post → ∃ j', oneT g body (enc b) (S (pre.foldl f a) j) = .nx (S (f (pre.foldl f a) b) j') ∨ oneT g body (enc b) (S (pre.foldl f a) j) = .ct (S (f (pre.foldl f a) b) j')) : ∃ j', forD g body (l.map enc) (S a j) = .nx (S (l.foldl f a) j') := by
  induction l generalizing a j with
  | nil => exact ⟨j, rfl⟩
  | cons b l ih =>
    obtain ⟨j1, e2⟩ := h [] b l j rfl
    obtain ⟨j', e⟩ := ih (f a b) j1 fun pre c post j hl => by
      have := h (b :: pre) c post j (by rw [hl]; rfl)
      exact this
    refine ⟨j', ?_⟩
    rw [List.map_cons, forD_one]
    have e2' : oneT g body (enc b) (S a j) = .nx (S (f a b) j1) ∨ oneT g body (enc b) (S a j) = .ct (S (f a b) j1) := e2
    rcases e2' with e2 | e2 <;> (rw [e2]; exact e)
/-- a comprehension over an encoded list -/
theorem lc_enc {β γ : Type} {vs : List Nat} {g : D → Env → Option Env} {T : Env → Out Bool} {Fe : Env → Out D} {ρ : Env} (enc : β → D) (p : β → Bool) (f : β → D) (l : List β) (acc : List D) (hl : acc.length + l.length ≤ sizeLine)
    (h : ∀ b ∈ l, ∃ ρ1 ρ2 q1, g (enc b) ρ = some ρ1 ∧ T ρ1 = .ok (p b) ρ2 q1 ∧ (p b = true → ∃ ρ3 q2, Fe ρ2 = .ok (f b) ρ3 q2 ∧ wipeE ρ3 vs = ρ) ∧ (p b = false → wipeE ρ2 vs = ρ)) :
    lcD vs g T Fe (l.map enc) acc ρ = .ok (.lst true (acc ++ (l.filter p).map f)) ρ false := by
  induction l generalizing acc with
  | nil => simp [lcD]
  | cons b l ih =>
    obtain ⟨ρ1, ρ2, q1, e1, e2, e3, e4⟩ := h b (List.mem_cons_self ..)
    rw [List.length_cons] at hl
    have h' : ∀ e ∈ l, _ := fun e he => h e (List.mem_cons_of_mem _ he)
    rw [List.map_cons]
    unfold lcD
    rw [e1]
    dsimp only
    rw [e2]
    dsimp only
    cases c : p b with
    | true =>
      obtain ⟨ρ3, q2, e5, e6⟩ := e3 c
      rw [if_pos rfl, e5]
      dsimp only
      rw [if_pos (by omega), e6, ih (acc ++ [f b]) (by rw [List.length_append, List.length_singleton]; omega) h', List.append_assoc]
      simp [List.filter, c]
    | false =>
      rw [if_neg (by decide), e4 c, ih acc (by omega) h']
      simp [List.filter, c]
theorem lc_all {β : Type} {vs : List Nat} {g : D → Env → Option Env} {T : Env → Out Bool} {Fe : Env → Out D} {ρ : Env} (enc f : β → D) (l : List β) (hl : l.length ≤ 16777216)
    (h : ∀ b ∈ l, ∃ ρ1 ρ2 ρ3 q1 q2, g (enc b) ρ = some ρ1 ∧ T ρ1 = .ok true ρ2 q1 ∧ Fe ρ2 = .ok (f b) ρ3 q2 ∧ wipeE ρ3 vs = ρ) : lcD vs g T Fe (l.map enc) [] ρ = .ok (.lst true (l.map f)) ρ false := by
  have r := lc_enc (γ := β) (vs := vs) (g := g) (T := T) (Fe := Fe) (ρ := ρ) enc (fun _ => true) f l [] (by rw [sizeLine_eq]; simpa using hl) fun b hb => by
    obtain ⟨ρ1, ρ2, ρ3, q1, q2, e1, e2, e3, e4⟩ := h b hb
    exact ⟨ρ1, ρ2, q1, e1, e2, fun _ => ⟨ρ3, q2, e3, e4⟩, fun z => by cases z⟩
  rw [List.filter_eq_self.mpr fun _ _ => rfl] at r
  exact r
/-! ### in, signs of a text -/
section
variable {x y : D} {ds : List D} {o : Bool} {a b : Str} {i j : Int}
@[simp] theorem inD_ap : inD x y = blR (inB x y) := by unfold inD blR; rfl
@[simp] theorem ninD_ap : ninD x y = blR ((inB x y).map (!·)) := by unfold ninD blR; cases inB x y <;> rfl
@[simp] theorem inB_tup : inB x (.tup ds) = if flatD x = true ∧ ds.all flatD = true then some (ds.any fun y => eqF y x) else inDp x ds := (rfl)
theorem inB_flat (h : flatD x = true) (h' : ds.all flatD = true) : inB x (.lst o ds) = some (ds.any fun y => eqF y x) := if_pos ⟨h, h'⟩
@[simp] theorem flat_str : flatD (.str a) = true := (rfl)
@[simp] theorem flat_int : flatD (.int i) = true := (rfl)
@[simp] theorem flat_non : flatD .non = true := (rfl)
@[simp] theorem flat_bl {k : Bool} : flatD (.bl k) = true := (rfl)
@[simp] theorem eqF_str : eqF (.str a) (.str b) = (a == b) := (rfl)
@[simp] theorem eqF_int : eqF (.int i) (.int j) = (i == j) := (rfl)
@[simp] theorem seqD_str : seqD (.str a) = some (sgnD a) := (rfl)
def isiT (ts : List D) : Option String → Res
  | some m => blR (isTys m ts)
  | none => .no
/-- an item of a text -/
def sgnR : Option Nat → Res
  | some c => .val (.str ⟨#[c]⟩)
  | none => .no
@[simp] theorem isiD_tup {ts : List D} : isiD [x, .tup ts] = isiT ts (tyName x) := by
  show (match tyName x with
    | some m => (match isTys m ts with
      | some k => Res.val (.bl k)
      | none => .no)
    | none => .no) = _
  unfold isiT blR
  cases tyName x with
  | none => rfl
  | some m => first | rfl | (dsimp only; cases isTys m ts <;> rfl) | (dsimp only; done)
@[simp] theorem isiT_some {ts : List D} {m : String} : isiT ts (some m) = blR (isTys m ts) := (rfl)
theorem ixD_str : ixD (.str a) (.int i) = if a.length ≤ sizeLine then sgnR (atI a.cps.toList i) else .no := by unfold ixD sgnR; rfl
end
/-! ### the last item -/
theorem ixN_last {n : Nat} : ixN (n + 1) (-1) = some n := by
  unfold ixN
  rw [if_neg (by decide)]
  simp
  omega
theorem at_last {α : Type} {xs : List α} {x : α} : atI (xs ++ [x]) (-1) = some x := by
  unfold atI
  rw [List.length_append, List.length_singleton, ixN_last]
  simp
theorem setA_last {ρ : Env} {j : Nat} {d e : D} {xs : List D} : setA ρ j d (.int (-1)) (some (xs ++ [e])) = .nx (ρ.set j (some (.lst true (xs ++ [d])))) := by
  unfold setA
  dsimp only
  rw [List.length_append, List.length_singleton, ixN_last]
  simp
section
variable {α : Type} {ρ ρ1 : Env} {j : Nat} {fl : α → Bool} {F : Env → Out α} {r : α} {d a c : D} {ds : List D} {B : List Nat} {g : D → D → Res} {Fe : Env → Out D}
def retB (fl : α → Bool) (ρ : Env) : Out α → Out α
  | .ok r _ true => if fl r = true then .ok r ρ true else .no
  | _ => .no
@[simp] theorem retB_ok : retB fl ρ (.ok r ρ1 true) = if fl r = true then .ok r ρ true else .no := (rfl)
def borO (j : Nat) (fl : α → Bool) (F : Env → Out α) (ρ : Env) : Option (Option D) → Out α
  | some (some d) => if owned d = true then retB fl ρ (F (ρ.set j (some (frz d)))) else F ρ
  | _ => .no
@[simp] theorem borO_some : borO j fl F ρ (some (some d)) = if owned d = true then retB fl ρ (F (ρ.set j (some (frz d)))) else F ρ := (rfl)
@[simp] theorem fBor0_ap : fBor0 j fl F ρ = borO j fl F ρ ρ[j]? := by
  unfold fBor0 borO retB
  rfl
def augR (j : Nat) (ρ1 : Env) : Res → SOut
  | .val d => .nx (ρ1.set j (some d))
  | .new ds => .nx (ρ1.set j (some (.lst true ds)))
  | .no => .no
@[simp] theorem augR_val : augR j ρ (.val d) = .nx (ρ.set j (some d)) := (rfl)
@[simp] theorem augR_new : augR j ρ (.new ds) = .nx (ρ.set j (some (.lst true ds))) := (rfl)
def augO (j : Nat) (B : List Nat) (g : D → D → Res) (Fe : Env → Out D) (ρ : Env) : Option (Option D) → SOut
  | some (some a) => if owned a = true ∨ j ∈ B then .no else (Fe ρ).s fun c ρ1 => augR j ρ1 (g a c)
  | _ => .no
@[simp] theorem augO_some : augO j B g Fe ρ (some (some a)) = if owned a = true ∨ j ∈ B then .no else (Fe ρ).s fun c ρ1 => augR j ρ1 (g a c) := (rfl)
@[simp] theorem sAug_ap : sAug j B g Fe ρ = augO j B g Fe ρ ρ[j]? := by
  unfold sAug augO augR
  rfl
end
theorem mul_big {i j : Int} (h1 : -(2 ^ 4000) < i) (h2 : i < 2 ^ 4000) (h3 : -(2 ^ 4000) < j) (h4 : j < 2 ^ 4000) : IntMulOk i j := by
  have e1 : Builtin.Int.intBits i ≤ 4000 := PyProof.Rows.intBits_le (by omega)
  have e2 : Builtin.Int.intBits j ≤ 4000 := PyProof.Rows.intBits_le (by omega)
  unfold IntMulOk
  intro h
  rw [Bool.and_eq_true] at h
  have h3 := h.2
  unfold Builtin.Int.intTooBig bitsLine at h3
  have h4 := of_decide_eq_true h3
  omega
def parO (B : List Nat) (i j : Nat) (ds : List D) (ρ1 : Env) : SOut := match ds with
  | [a, c] => if i ∈ B ∨ j ∈ B then .no else .nx ((ρ1.set i (some a)).set j (some c))
  | _ => .no
@[simp] theorem parO_two {B : List Nat} {i j : Nat} {a c : D} {ρ : Env} : parO B i j [a, c] ρ = if i ∈ B ∨ j ∈ B then .no else .nx ((ρ.set i (some a)).set j (some c)) := (rfl)
@[simp] theorem sPar_all {B : List Nat} {i j : Nat} {F : Env → Out (List D)} {ρ : Env} : sPar B i j F ρ = (F ρ).s (parO B i j) := (rfl)
/-- P holds ahead of each turn -/
theorem for_rel {g : D → Env → Option Env} {body : Env → SOut} (P : Nat → Env → Prop) : ∀ (ds : List D) (k : Nat) (ρ : Env), P k ρ →
    (∀ i d ρ, ds[i]? = some d → P (k + i) ρ → ∃ ρ2, (oneT g body d ρ = .nx ρ2 ∨ oneT g body d ρ = .ct ρ2) ∧ P (k + i + 1) ρ2) → ∃ ρ', forD g body ds ρ = .nx ρ' ∧ P (k + ds.length) ρ'
  | [], k, ρ, p, _ => ⟨ρ, rfl, p⟩
  | d :: ds, k, ρ, p, h => by
    obtain ⟨ρ2, e2, p2⟩ := h 0 d ρ rfl p
    obtain ⟨ρ', e, q⟩ := for_rel P ds (k + 1) ρ2 p2 fun i d ρ hi hp => by
      have e : k + 1 + i = k + (i + 1) := by omega
      rw [e] at hp ⊢
      exact h (i + 1) d ρ hi hp
    refine ⟨ρ', ?_, by rw [show k + (d :: ds).length = k + 1 + ds.length by rw [List.length_cons]; omega]; exact q⟩
    rw [forD_one]
    rcases e2 with e2 | e2 <;> (rw [e2]; exact e)
theorem rngD_get {a : Int} {n i : Nat} {d : D} (h : (rngD a n)[i]? = some d) : i < n ∧ d = .int (a + i) := by
  unfold rngD at h
  have hl : i < n := by
    have := (List.getElem?_eq_some_iff.mp h).1
    simpa using this
  refine ⟨hl, ?_⟩
  simp [hl] at h
  exact h.symm
/-- an index among a few -/
theorem int_lt3 {v : Int} (h1 : 0 ≤ v) (h2 : v < 3) : v = 0 ∨ v = 1 ∨ v = 2 := by omega
theorem int_lt4 {v : Int} (h1 : 0 ≤ v) (h2 : v < 4) : v = 0 ∨ v = 1 ∨ v = 2 ∨ v = 3 := by omega
theorem cut_to {xs : List D} {k : Nat} : cutD xs none (some (k : Int)) = xs.take k := by
  unfold cutD
  rw [HT.sIx_none, HT.sIx_nat, List.drop_zero, Nat.sub_zero]
  by_cases h : k ≤ xs.length
  · rw [Nat.min_eq_left h]
  · rw [Nat.min_eq_right (by omega), List.take_of_length_le (Nat.le_refl _), List.take_of_length_le (by omega)]
theorem rng1_nat {k : Nat} {ρ : Env} (h : k < 2 ^ 60) : rng1 [.int (k : Int)] ρ = .ok (rngD 0 k) ρ true := by
  rw [rng1_int, if_pos (by omega), Int.toNat_natCast]
theorem fRng1_nat {k : Nat} {F : Env → Out (List D)} {ρ ρ1 : Env} {q : Bool} (e : F ρ = .ok [.int k] ρ1 q) (h : k < 2 ^ 60) : fRng1 F ρ = .ok (rngD 0 k) ρ1 q := by
  rw [fRng1_ap, e, bind_ok, rng1_nat h, q_ok, Bool.and_true]
theorem sFor_nat {k : Nat} {F : Env → Out (List D)} {g : D → Env → Option Env} {body : Env → SOut} {ρ ρ1 ρ2 : Env} {q : Bool} (e : F ρ = .ok [.int k] ρ1 q) (h : k < 2 ^ 60) (e2 : forD g body (rngD 0 k) ρ1 = .nx ρ2) : sFor (fRng1 F) g body ρ = .nx ρ2 := by
  rw [sFor_ap, fRng1_nat e h, s_ok, e2]
section
variable {ρ : Env} {j : Nat} {g : D → D → Res} {F : Env → Out D} {c d : D}
def someO : Option (Option D) → Bool
  | some (some _) => true
  | _ => false
@[simp] theorem isSome2_ap : isSome2 ρ j = someO ρ[j]? := by unfold isSome2 someO; rfl
@[simp] theorem someO_some : someO (some (some d)) = true := (rfl)
@[simp] theorem fCmpL_ap : fCmpL j g F ρ = if isSome2 ρ j = true then (F ρ).bind fun c ρ1 => fBor0 j flatD (lookV j g c) ρ1 else .no := (rfl)
def lookO (g : D → D → Res) (c : D) (ρ : Env) : Option (Option D) → Out D
  | some (some d) => if owned d = true then .no else resE (g d c) ρ
  | _ => .no
@[simp] theorem lookV_ap : lookV j g c ρ = lookO g c ρ ρ[j]? := by unfold lookV lookO; rfl
@[simp] theorem lookO_some : lookO g c ρ (some (some d)) = if owned d = true then .no else resE (g d c) ρ := (rfl)
end
@[simp] theorem sumA_lst {o : Bool} {ds : List D} : sumA [.lst o ds] = sumR (unInts ds) := by
  show sumD [.lst o ds] = _
  exact sumD_lst
@[simp] theorem sumA_tup {ds : List D} : sumA [.tup ds] = sumR (unInts ds) := by unfold sumA sumR; rfl
@[simp] theorem unInts_nil : unInts [] = some [] := (rfl)
@[simp] theorem unInts_one {i : Int} {ds : List D} : unInts (.int i :: ds) = (unInts ds).map (i :: ·) := (rfl)
/-- a comprehension whose first item freezes what it reads -/
theorem lc_mel {β : Type} {vs : List Nat} {g : D → Env → Option Env} {T : Env → Out Bool} {Fe : Env → Out D} {ρ0 ρ : Env} (enc f : β → D) (b : β) (l : List β) (hl : l.length + 1 ≤ 16777216)
    (h : ∀ c ∈ b :: l, ∀ r, r = ρ0 ∨ r = ρ → ∃ ρ1 ρ2 ρ3 q1 q2, g (enc c) r = some ρ1 ∧ T ρ1 = .ok true ρ2 q1 ∧ Fe ρ2 = .ok (f c) ρ3 q2 ∧ wipeE ρ3 vs = ρ) : lcD vs g T Fe ((b :: l).map enc) [] ρ0 = .ok (.lst true ((b :: l).map f)) ρ false := by
  obtain ⟨ρ1, ρ2, ρ3, q1, q2, e1, e2, e3, e4⟩ := h b (List.mem_cons_self ..) ρ0 (.inl rfl)
  have r := lc_enc (γ := β) (vs := vs) (g := g) (T := T) (Fe := Fe) (ρ := ρ) enc (fun _ => true) f l [f b] (by rw [sizeLine_eq]; simp; omega) fun c hc => by
    obtain ⟨ρ1, ρ2, ρ3, q1, q2, e1, e2, e3, e4⟩ := h c (List.mem_cons_of_mem _ hc) ρ (.inr rfl)
    exact ⟨ρ1, ρ2, q1, e1, e2, fun _ => ⟨ρ3, q2, e3, e4⟩, fun z => by cases z⟩
  rw [List.filter_eq_self.mpr fun _ _ => rfl] at r
  rw [List.map_cons]
  unfold lcD
  rw [e1]
  dsimp only
  rw [e2]
  dsimp only
  rw [if_pos rfl, e3]
  dsimp only
  rw [if_pos (by rw [sizeLine_eq]; simp), e4, List.nil_append, r]
  rfl
theorem forD_nx {g : D → Env → Option Env} {body : Env → SOut} {d : D} {ds : List D} {ρ ρ1 : Env} {o : SOut} (e : oneT g body d ρ = .nx ρ1) (r : forD g body ds ρ1 = o) : forD g body (d :: ds) ρ = o := by
  rw [forD_one, e]; exact r
theorem forD_ct {g : D → Env → Option Env} {body : Env → SOut} {d : D} {ds : List D} {ρ ρ1 : Env} {o : SOut} (e : oneT g body d ρ = .ct ρ1) (r : forD g body ds ρ1 = o) : forD g body (d :: ds) ρ = o := by
  rw [forD_one, e]; exact r
theorem forD_end {g : D → Env → Option Env} {body : Env → SOut} {ρ : Env} : forD g body [] ρ = .nx ρ := rfl
/-! ### turns told by what holds behind them -/
/-- the turn ends, and P holds of what it leaves -/
def NX (P : Env → Prop) : SOut → Prop
  | .nx ρ => P ρ
  | .ct ρ => P ρ
  | _ => False
@[simp] theorem NX_nx {P : Env → Prop} {ρ : Env} : NX P (.nx ρ) = P ρ := (rfl)
@[simp] theorem NX_ct {P : Env → Prop} {ρ : Env} : NX P (.ct ρ) = P ρ := (rfl)
theorem NX.ex {P : Env → Prop} {o : SOut} (h : NX P o) : ∃ ρ, (o = .nx ρ ∨ o = .ct ρ) ∧ P ρ := by
  cases o with
  | nx ρ => exact ⟨ρ, .inl rfl, h⟩
  | ct ρ => exact ⟨ρ, .inr rfl, h⟩
  | rt d ρ => exact h.elim
  | bk ρ => exact h.elim
  | ex c ρ => exact h.elim
  | no => exact h.elim
theorem for_inv {g : D → Env → Option Env} {body : Env → SOut} (P : Nat → Env → Prop) (ds : List D) (ρ : Env) (p : P 0 ρ)
    (h : ∀ i d ρ, ds[i]? = some d → P i ρ → NX (P (i + 1)) (oneT g body d ρ)) : ∃ ρ', forD g body ds ρ = .nx ρ' ∧ P ds.length ρ' := by
  obtain ⟨ρ', e, q⟩ := for_rel (g := g) (body := body) P ds 0 ρ p fun i d ρ hi hp => by
    rw [Nat.zero_add] at hp ⊢
    exact (h i d ρ hi hp).ex
  exact ⟨ρ', e, by rwa [Nat.zero_add] at q⟩
/-- the same P ahead of each turn -/
theorem for_same {g : D → Env → Option Env} {body : Env → SOut} (P : Env → Prop) (ds : List D) (ρ : Env) (p : P ρ)
    (h : ∀ d ∈ ds, ∀ ρ, P ρ → NX P (oneT g body d ρ)) : ∃ ρ', forD g body ds ρ = .nx ρ' ∧ P ρ' := by
  obtain ⟨ρ', e, q⟩ := for_inv (g := g) (body := body) (fun _ => P) ds ρ p fun i d ρ hi hp => h d (List.mem_of_getElem? hi) ρ hp
  exact ⟨ρ', e, q⟩
/-! ### the law's own loop -/
theorem max_len {ds : List D} {r : Env} (hl : ds.length ≤ 63) : ∃ m : Nat, m ≤ 63 ∧ fCons (fCl maxD (fCons (fC (.int 1)) (fCons (fCl lenD (fCons (fVar [] 0) fNil)) fNil))) fNil (some (.ro ds) :: r) = .ok [.int m] (some (.ro ds) :: r) true := by
  refine ⟨max 1 ds.length, by omega, ?_⟩
  have e : (if (1 : Int) < (ds.length : Int) then (ds.length : Int) else 1) = ((max 1 ds.length : Nat) : Int) := by omega
  simp [e]
theorem min_len {ds : List D} {r : Env} {n : Int} (hn : 1 ≤ n) (hn2 : n ≤ 63) :
    ∃ m : Nat, m ≤ 63 ∧ fCons (fCl maxD (fCons (fC (.int 1)) (fCons (fCl minD (fCons (fC (.int n)) (fCons (fCl lenD (fCons (fVar [] 0) fNil)) fNil))) fNil))) fNil (some (.ro ds) :: r) = .ok [.int m] (some (.ro ds) :: r) true := by
  have c : ∃ m : Nat, m ≤ 63 ∧ (if (1 : Int) < (if (ds.length : Int) < n then (ds.length : Int) else n) then (if (ds.length : Int) < n then (ds.length : Int) else n) else 1) = (m : Int) := by
    refine ⟨(if (1 : Int) < (if (ds.length : Int) < n then (ds.length : Int) else n) then (if (ds.length : Int) < n then (ds.length : Int) else n) else 1).toNat, ?_, ?_⟩
    · split <;> split <;> omega
    · split <;> split <;> omega
  obtain ⟨m, m1, c⟩ := c
  refine ⟨m, m1, ?_⟩
  simp [c]
/-- the law's loop over its cells: each turn keeps what stands at the script's slot -/
theorem cells {g : D → Env → Option Env} {body : Env → SOut} {F : Env → Out (List D)} {ds : List D} {r : Env} (P : Env → Prop) (m : Nat) (hm : m ≤ 63) (e : F (some (.ro ds) :: r) = .ok [.int m] (some (.ro ds) :: r) true) (p : P (some (.ro ds) :: r))
    (h : ∀ k : Nat, k < 63 → ∀ ρ, P ρ → NX P (oneT g body (.int (k : Int)) ρ)) : ∃ ρ', sFor (fRng1 F) g body (some (.ro ds) :: r) = .nx ρ' ∧ P ρ' := by
  obtain ⟨ρ', e2, q⟩ := for_same (g := g) (body := body) P (rngD 0 m) _ p fun d hd ρ hp => by
    obtain ⟨i, hi⟩ := List.mem_iff_getElem?.mp hd
    obtain ⟨h1, rfl⟩ := rngD_get hi
    have := h i (by omega) ρ hp
    rwa [show (0 : Int) + (i : Int) = (i : Int) by omega]
  exact ⟨ρ', sFor_nat e (by omega) e2, q⟩
end DL
set_option Elab.async false
set_option linter.all false
set_option maxRecDepth 100000
set_option maxHeartbeats 1000000
namespace DL
open PySem PySem.Spec PyProof.Rows L2 PySem.W
/-! ### max and min of a tuple of ints -/
theorem mxo_le : ∀ (r : List Int) (a : Int), a ≤ maxOf a r ∧ (∀ y ∈ r, y ≤ maxOf a r) ∧ (maxOf a r = a ∨ maxOf a r ∈ r)
  | [], a => ⟨Int.le_refl _, fun _ h => (List.not_mem_nil h).elim, .inl rfl⟩
  | b :: r, a => by
    have e : maxOf a (b :: r) = maxOf (if a < b then b else a) r := by
      show List.foldl _ (if DatumOrd.lt a b = true then b else a) r = List.foldl _ (if a < b then b else a) r
      congr 1
      have : (DatumOrd.lt a b = true) = (a < b) := by
        show (decide (a < b) = true) = _
        rw [decide_eq_true_eq]
      simp only [this]
    obtain ⟨h1, h2, h3⟩ := mxo_le r (if a < b then b else a)
    rw [e]
    generalize maxOf (if a < b then b else a) r = m at *
    refine ⟨by split at h1 <;> omega, fun y hy => ?_, ?_⟩
    · rcases List.mem_cons.mp hy with rfl | hy
      · split at h1 <;> omega
      · exact h2 y hy
    · rcases h3 with h3 | h3
      · split at h3
        · exact .inr (List.mem_cons.mpr (.inl h3))
        · exact .inl h3
      · exact .inr (List.mem_cons_of_mem _ h3)
theorem mno_le : ∀ (r : List Int) (a : Int), minOf a r ≤ a ∧ (∀ y ∈ r, minOf a r ≤ y) ∧ (minOf a r = a ∨ minOf a r ∈ r)
  | [], a => ⟨Int.le_refl _, fun _ h => (List.not_mem_nil h).elim, .inl rfl⟩
  | b :: r, a => by
    have e : minOf a (b :: r) = minOf (if b < a then b else a) r := by
      show List.foldl _ (if DatumOrd.lt b a = true then b else a) r = List.foldl _ (if b < a then b else a) r
      congr 1
      have : (DatumOrd.lt b a = true) = (b < a) := by
        show (decide (b < a) = true) = _
        rw [decide_eq_true_eq]
      simp only [this]
    obtain ⟨h1, h2, h3⟩ := mno_le r (if b < a then b else a)
    rw [e]
    generalize minOf (if b < a then b else a) r = m at *
    refine ⟨by split at h1 <;> omega, fun y hy => ?_, ?_⟩
    · rcases List.mem_cons.mp hy with rfl | hy
      · split at h1 <;> omega
      · exact h2 y hy
    · rcases h3 with h3 | h3
      · split at h3
        · exact .inr (List.mem_cons.mpr (.inl h3))
        · exact .inl h3
      · exact .inr (List.mem_cons_of_mem _ h3)
theorem int_at {xs : List Int} {vs : List Value} (h : IntsAre vs xs) {i : Nat} {v : Value} (hi : vs[i]? = some v) : ∃ (n : Int) (t : Tok), v = .int n t := by
  induction h generalizing i with
  | nil => cases hi
  | cons n t h ih =>
    cases i with
    | zero => cases hi; exact ⟨n, t, rfl⟩
    | succ i => exact ih hi
theorem holds_is {h : Heap} {n m : Int} {t : Tok} (H : Holds h (.int n t) m) : n = m := by
  obtain ⟨as, r⟩ := H
  cases r
  rfl
def rMaxT (K : PySem.W.Frag) : List V → Hp → VK → Prop := fun vs H Q => ∃ (a : Addr) (n : Int) (ns : List Int), vs = [V.ref a] ∧ SqT K H a ((n :: ns).map V.int) ∧ Q (.int (maxOf n ns)) H
def rMinT (K : PySem.W.Frag) : List V → Hp → VK → Prop := fun vs H Q => ∃ (a : Addr) (n : Int) (ns : List Int), vs = [V.ref a] ∧ SqT K H a ((n :: ns).map V.int) ∧ Q (.int (minOf n ns)) H
theorem cr_maxT {X : Cx} (hu : X.A.units + 64 < cLine) (hc : X.calm = true) : CallR X (.builtin "max") (rMaxT X.K) := by
  intro pins s σ H vs us Q I r h
  obtain ⟨a, n, ns, rfl, hs, q⟩ := h
  obtain ⟨its, rv, hl, _⟩ := I.tuple hs
  rw [Vals.ref1 r]
  have ia := rv.ints
  have d0 : Datum.depth Int = 0 := rfl
  refine max_tuple_datum (I.ok.hd hc) hl (x := n) (xs := ns) (HoldAll.of_ints ia) (by rw [d0]; omega) fun i v h' tk hi H' hk => ?_
  obtain ⟨m, t, rfl⟩ := int_at ia (by simpa using hi)
  rw [holds_is H']
  exact ⟨.int _, H, I.kept hk, ⟨t, rfl⟩, q⟩
theorem cr_minT {X : Cx} (hu : X.A.units + 64 < cLine) (hc : X.calm = true) : CallR X (.builtin "min") (rMinT X.K) := by
  intro pins s σ H vs us Q I r h
  obtain ⟨a, n, ns, rfl, hs, q⟩ := h
  obtain ⟨its, rv, hl, _⟩ := I.tuple hs
  rw [Vals.ref1 r]
  have ia := rv.ints
  have d0 : Datum.depth Int = 0 := rfl
  refine min_tuple_datum (I.ok.hd hc) hl (x := n) (xs := ns) (HoldAll.of_ints ia) (by rw [d0]; omega) fun i v h' tk hi H' hk => ?_
  obtain ⟨m, t, rfl⟩ := int_at ia (by simpa using hi)
  rw [holds_is H']
  exact ⟨.int _, H, I.kept hk, ⟨t, rfl⟩, q⟩
theorem mxo_is {n m : Int} {ns : List Int} (e : maxI (n :: ns) = some m) : maxOf n ns = m := by
  obtain ⟨h1, h2, h3⟩ := mxo_le ns n
  refine maxI_is e ?_ fun y hy => ?_
  · rcases h3 with h3 | h3
    · rw [h3]; exact List.mem_cons_self ..
    · exact List.mem_cons_of_mem _ h3
  · rcases List.mem_cons.mp hy with rfl | hy
    · exact h1
    · exact h2 y hy
theorem mno_is {n m : Int} {ns : List Int} (e : minI (n :: ns) = some m) : minOf n ns = m := by
  obtain ⟨h1, h2, h3⟩ := mno_le ns n
  refine minI_is e ?_ fun y hy => ?_
  · rcases h3 with h3 | h3
    · rw [h3]; exact List.mem_cons_self ..
    · exact List.mem_cons_of_mem _ h3
  · rcases List.mem_cons.mp hy with rfl | hy
    · exact h1
    · exact h2 y hy
def maxA : List D → Res
  | [.tup ds] => (match unInts ds with
    | some ns => (match maxI ns with | some m => .val (.int m) | none => .no)
    | none => .no)
  | as => maxL as
def minA : List D → Res
  | [.tup ds] => (match unInts ds with
    | some ns => (match minI ns with | some m => .val (.int m) | none => .no)
    | none => .no)
  | as => minL as
def rMaxA (K : PySem.W.Frag) : List V → Hp → VK → Prop := fun vs H Q => rMax K vs H Q ∨ rMaxT K vs H Q
def rMinA (K : PySem.W.Frag) : List V → Hp → VK → Prop := fun vs H Q => rMin K vs H Q ∨ rMinT K vs H Q
theorem cr_maxA {X : Cx} (hu : X.A.units + 64 < cLine) (hc : X.calm = true) : CallR X (.builtin "max") (rMaxA X.K) := by
  intro pins s σ H vs us Q I r h
  rcases h with h | h
  · exact cr_max hc pins s σ H vs us Q I r h
  · exact cr_maxT hu hc pins s σ H vs us Q I r h
theorem cr_minA {X : Cx} (hu : X.A.units + 64 < cLine) (hc : X.calm = true) : CallR X (.builtin "min") (rMinA X.K) := by
  intro pins s σ H vs us Q I r h
  rcases h with h | h
  · exact cr_min hc pins s σ H vs us Q I r h
  · exact cr_minT hu hc pins s σ H vs us Q I r h
theorem maxA_v {K : PySem.W.Frag} : CallV K (rMaxA K) maxA := by
  intro G H xs as le i Q post
  unfold maxA at post
  split at post
  · rename_i ds
    cases i with
    | cons i r =>
      cases r
      cases i with
      | tup hs ha =>
        cases e : unInts ds with
        | none => rw [e] at post; exact post.elim
        | some ns =>
          rw [e] at post
          have ex := ints_v ha e
          subst ex
          dsimp only at post
          cases em : maxI ns with
          | none => rw [em] at post; exact post.elim
          | some m =>
            rw [em] at post
            cases ns with
            | nil => cases em
            | cons n ns => exact .inr ⟨_, n, ns, rfl, sq_tup le hs, by rw [mxo_is em]; exact post.here le (.int _)⟩
  · exact .inl (max1_v G H xs _ le i Q post)
theorem minA_v {K : PySem.W.Frag} : CallV K (rMinA K) minA := by
  intro G H xs as le i Q post
  unfold minA at post
  split at post
  · rename_i ds
    cases i with
    | cons i r =>
      cases r
      cases i with
      | tup hs ha =>
        cases e : unInts ds with
        | none => rw [e] at post; exact post.elim
        | some ns =>
          rw [e] at post
          have ex := ints_v ha e
          subst ex
          dsimp only at post
          cases em : minI ns with
          | none => rw [em] at post; exact post.elim
          | some m =>
            rw [em] at post
            cases ns with
            | nil => cases em
            | cons n ns => exact .inr ⟨_, n, ns, rfl, sq_tup le hs, by rw [mno_is em]; exact post.here le (.int _)⟩
  · exact .inl (min1_v G H xs _ le i Q post)
section
variable {ds : List D} {o : Bool}
@[simp] theorem maxA_lst : maxA [.lst o ds] = maxL [.lst o ds] := (rfl)
@[simp] theorem minA_lst : minA [.lst o ds] = minL [.lst o ds] := (rfl)
@[simp] theorem maxA_tup : maxA [.tup ds] = maxR (unInts ds) := by unfold maxA maxR; rfl
@[simp] theorem minA_tup : minA [.tup ds] = minR (unInts ds) := by unfold minA minR; rfl
end
end DL
set_option Elab.async false
set_option linter.all false
set_option maxRecDepth 100000
set_option maxHeartbeats 1000000
/-! [e for x in it if t for y in it1 if t1] -/
namespace DL
open PySem PySem.Spec PyProof.Rows L2
def lcI (vs : List Nat) (g : D → DL.Env → Option DL.Env) (T : DL.Env → Out Bool) (Fe : DL.Env → Out D) : List D → List D → DL.Env → Option (List D × DL.Env)
  | [], acc, ρ => some (acc, ρ)
  | d :: ds, acc, ρ => match g d ρ with
    | none => none
    | some ρ1 => (match T ρ1 with
      | .ok k ρ2 _ => if k = true then (match Fe ρ2 with
        | .ok e ρ3 _ => if acc.length < sizeLine then lcI vs g T Fe ds (acc ++ [e]) (wipeE ρ3 vs) else none
        | _ => none) else lcI vs g T Fe ds acc (wipeE ρ2 vs)
      | _ => none)
def lcD2 (vs vs1 : List Nat) (g : D → DL.Env → Option DL.Env) (T : DL.Env → Out Bool) (F1 : DL.Env → Out (List D)) (g1 : D → DL.Env → Option DL.Env) (T1 : DL.Env → Out Bool) (Fe : DL.Env → Out D) : List D → List D → DL.Env → Out D
  | [], acc, ρ => .ok (.lst true acc) ρ false
  | d :: ds, acc, ρ => match g d ρ with
    | none => .no
    | some ρ1 => (match T ρ1 with
      | .ok k ρ2 _ => if k = true then (match F1 ρ2 with
        | .ok ds1 ρ3 _ => (match lcI vs1 g1 T1 Fe ds1 acc (wipeE ρ3 vs1) with
          | some p => lcD2 vs vs1 g T F1 g1 T1 Fe ds p.1 (wipeE p.2 vs)
          | none => .no)
        | _ => .no) else lcD2 vs vs1 g T F1 g1 T1 Fe ds acc (wipeE ρ2 vs)
      | _ => .no)
def fLc2 (vs vs1 : List Nat) (F : DL.Env → Out (List D)) (g : D → DL.Env → Option DL.Env) (T : DL.Env → Out Bool) (F1 : DL.Env → Out (List D)) (g1 : D → DL.Env → Option DL.Env) (T1 : DL.Env → Out Bool) (Fe : DL.Env → Out D) : DL.Env → Out D := fun ρ => (F ρ).bind fun ds ρ1 => lcD2 vs vs1 g T F1 g1 T1 Fe ds [] (wipeE ρ1 vs)
section
variable {K : PySem.W.Frag} {B : By} {W : WX}
theorem sat_lc2 {wi wi1 : TI} {g g1 : TG} {tt tt1 : TT} {te : TE} {F F1 : DL.Env → Out (List D)} {Fg Fg1 : D → DL.Env → Option DL.Env} {T T1 : DL.Env → Out Bool} {Fe : DL.Env → Out D} {vs vs1 : List Nat} (hi : Sat K B W (YldR K) wi F) (hg : SatG K B g Fg) (hk : KeepG vs g)
    (hm : ∀ v σ H (Q Q' : L2.St → Hp → Prop), (∀ σ' H', Q σ' H' → Q' σ' H') → g v σ H Q → g v σ H Q') (ht : Sat K B W0 (EqR Bool) tt T) (hi1 : Sat K B W0 (YldR K) wi1 F1) (hg1 : SatG K B g1 Fg1) (hk1 : KeepG vs1 g1)
    (hm1 : ∀ v σ H (Q Q' : L2.St → Hp → Prop), (∀ σ' H', Q σ' H' → Q' σ' H') → g1 v σ H Q → g1 v σ H Q') (ht1 : Sat K B W0 (EqR Bool) tt1 T1) (he : Sat K B W0 (IsR K) te Fe) (hv : ∀ i ∈ vs, i ∉ B.l) (hv1 : ∀ i ∈ vs1, i ∈ vs) : Sat K B W (OwnR K) (tLc2 wi g tt wi1 g1 tt1 te vs vs1) (fLc2 vs vs1 F Fg T F1 Fg1 T1 Fe) := by
  have hB1 : ∀ i ∈ vs1, i ∉ B.l := fun i h => hv i (hv1 i h)
  intro b G0 H0 ω0 σ ρ0 rel0 Q post0
  refine hi.at rel0 post0 fun G1 H1 ω1 ρ1 J ds rel1 s1 Y post1 => ?_
  intro L hL
  have oL : ω1 L = none := by
    cases q : ω1 L with
    | none => rfl
    | some l => exact absurd hL (rel1.own L l q).2.1.ne
  have gL : G1 L = none := same_none rel1.le hL
  have bL : b.H L = none := rel1.dom L hL
  refine ⟨fun i m H => m = ds.length - i ∧ i ≤ ds.length ∧ ∃ G ω ρ acc xs, Rel K b B G H ω σ ρ ∧ Bare vs ρ ∧ Tr G1 H1 ω1 G H ω ∧ ω L = none ∧ G L = none ∧ H L = some (.lst xs) ∧ IsAll K G xs acc ∧
    Post K B W b G1 H1 ω1 σ (OwnR K) Q (lcD2 vs vs1 Fg T F1 Fg1 T1 Fe (ds.drop i) acc ρ), ⟨_, rfl, Nat.zero_le _, G1, ω1, wipeE ρ1 vs, [], [], (rel1.aside oL gL bL).wipe hv rfl, bare_wipe, Tr.aside .refl hL, oL, gL, upd_same, .nil, post1⟩, ?_⟩
  rintro i m H ⟨rfl, hle, G, ω, ρ, acc, xs, rel, hb, t, oLw, gLw, hH, ia, post⟩
  by_cases hl : i < ds.length
  · refine .inr ⟨Y.go i G H t.g rel.le hl, fun H' => ∃ G ω ρ acc xs, Rel K b B G H' ω σ ρ ∧ Bare vs ρ ∧ Tr G1 H1 ω1 G H' ω ∧ ω L = none ∧ G L = none ∧ H' L = some (.lst xs) ∧ IsAll K G xs acc ∧
      Post K B W b G1 H1 ω1 σ (OwnR K) Q (lcD2 vs vs1 Fg T F1 Fg1 T1 Fe (ds.drop (i + 1)) acc ρ), fun H' h => ⟨ds.length - (i + 1), by omega, rfl, hl, h⟩, fun x H' y => ?_⟩
    obtain ⟨d, hd, G2, st, le2, ix⟩ := Y.yld i G H x H' t.g rel.le hl y
    have e : ds.drop i = d :: ds.drop (i + 1) := by
      rw [List.drop_eq_getElem_cons hl]
      have z := hd
      rw [List.getElem?_eq_getElem hl] at z
      rw [Option.some.inj z]
    rw [e, lcD2] at post
    have h'L : H' L = some (.lst xs) := st.h _ _ hH
    have g2L : G2 L = none := st.hid L (by rw [hH]; simp) gLw
    have rel2 : Rel K b B G2 H' ω (L2.wipe σ vs) ρ := (rel.step st le2).bare hv wipe_wipe hb
    have t2 : Tr G1 H1 ω1 G2 H' ω := t.trans (.step st)
    have ia2 := ia.mono st.g
    cases eg : Fg d ρ with
    | none => rw [eg] at post; exact post.elim
    | some ρ2 =>
      rw [eg] at post
      dsimp only at post
      refine hm _ _ _ _ _ (fun σ3 H3 z => ⟨z.2.trans wipe_wipe, z.1 (z.2.trans wipe_wipe)⟩) (hk x (L2.wipe σ vs) H' (fun σ3 H3 => L2.wipe σ3 vs = L2.wipe σ vs → tt σ3 H3 _) ?_)
      refine hg b G2 H' ω G2 H' ω (L2.wipe σ vs) ρ rel2 .refl x d (own_frz ix) _ ?_
      rw [eg]
      intro σ3 G3 H3 ω3 rel3 t3 w3
      refine ht b G3 H3 ω3 σ3 ρ2 rel3 _ ?_
      cases eT : T ρ2 with
      | no => rw [eT] at post; exact post.elim
      | ex c ρ4 => rw [eT] at post; exact post.elim
      | ok k ρ4 q4 =>
        rw [eT] at post
        dsimp only at post
        intro k' G4 H4 ω4 rel4 t4 _ ek
        subst ek
        have t34 := t3.trans t4
        cases k' with
        | false =>
          rw [if_neg (by decide)] at post
          obtain ⟨k1, k2⟩ := t34.keep L _ oLw h'L
          exact ⟨G4, ω4, wipeE ρ4 vs, acc, xs, rel4.wipe hv w3.symm, bare_wipe, t2.trans t34, k2, t34.hid L oLw (by rw [h'L]; simp) g2L, k1, ia2.mono t34.g, post⟩
        | true =>
          rw [if_pos rfl] at post
          refine hi1 b G4 H4 ω4 σ3 ρ4 rel4 _ ?_
          cases eF : F1 ρ4 with
          | no => rw [eF] at post; exact post.elim
          | ex c ρ5 => rw [eF] at post; exact post.elim
          | ok ds1 ρ5 q5 =>
            rw [eF] at post
            dsimp only at post
            intro J1 G5 H5 ω5 rel5 t5 _ Y1
            have t35 := t34.trans t5
            obtain ⟨k1, k2⟩ := t35.keep L _ oLw h'L
            have g5L : G5 L = none := t35.hid L oLw (by rw [h'L]; simp) g2L
            have ia5 := ia2.mono t35.g
            have post' : ∃ p, lcI vs1 Fg1 T1 Fe (ds1.drop 0) acc (wipeE ρ5 vs1) = some p ∧ Post K B W b G1 H1 ω1 σ (OwnR K) Q (lcD2 vs vs1 Fg T F1 Fg1 T1 Fe (ds.drop (i + 1)) p.1 (wipeE p.2 vs)) := by
              rw [List.drop_zero]
              cases eI : lcI vs1 Fg1 T1 Fe ds1 acc (wipeE ρ5 vs1) with
              | none => rw [eI] at post; exact post.elim
              | some p => rw [eI] at post; exact ⟨p, rfl, post⟩
            refine ⟨fun j k H => k = ds1.length - j ∧ j ≤ ds1.length ∧ ∃ G ω ρ acc xs, Rel K b B G H ω σ3 ρ ∧ Bare vs1 ρ ∧ Same G5 G ∧ Tr G1 H1 ω1 G H ω ∧ ω L = none ∧ G L = none ∧ H L = some (.lst xs) ∧ IsAll K G xs acc ∧
              ∃ p, lcI vs1 Fg1 T1 Fe (ds1.drop j) acc ρ = some p ∧ Post K B W b G1 H1 ω1 σ (OwnR K) Q (lcD2 vs vs1 Fg T F1 Fg1 T1 Fe (ds.drop (i + 1)) p.1 (wipeE p.2 vs)),
              ⟨_, rfl, Nat.zero_le _, G5, ω5, wipeE ρ5 vs1, acc, xs, rel5.wipe hB1 rfl, bare_wipe, Same.refl _, t2.trans t35, k2, g5L, k1, ia5, post'⟩, ?_⟩
            clear post post' ia2 ia5 k1 k2 g5L ia h'L hH
            rintro j k Hj ⟨rfl, hjle, Gj, ωj, ρj, accj, xsj, relj, hbj, sj, tj, oLj, gLj, hHj, iaj, p, eI, postj⟩
            by_cases hj : j < ds1.length
            · refine .inr ⟨Y1.go j Gj Hj sj relj.le hj, fun H' => ∃ G ω ρ acc xs, Rel K b B G H' ω σ3 ρ ∧ Bare vs1 ρ ∧ Same G5 G ∧ Tr G1 H1 ω1 G H' ω ∧ ω L = none ∧ G L = none ∧ H' L = some (.lst xs) ∧ IsAll K G xs acc ∧
                ∃ p, lcI vs1 Fg1 T1 Fe (ds1.drop (j + 1)) acc ρ = some p ∧ Post K B W b G1 H1 ω1 σ (OwnR K) Q (lcD2 vs vs1 Fg T F1 Fg1 T1 Fe (ds.drop (i + 1)) p.1 (wipeE p.2 vs)), fun H' h => ⟨ds1.length - (j + 1), by omega, rfl, hj, h⟩, fun x6 H6 y6 => ?_⟩
              obtain ⟨d6, hd6, G6, st6, le6, ix6⟩ := Y1.yld j Gj Hj x6 H6 sj relj.le hj y6
              have e6 : ds1.drop j = d6 :: ds1.drop (j + 1) := by
                rw [List.drop_eq_getElem_cons hj]
                have z := hd6
                rw [List.getElem?_eq_getElem hj] at z
                rw [Option.some.inj z]
              rw [e6, lcI] at eI
              have h6L : H6 L = some (.lst xsj) := st6.h _ _ hHj
              have g6L : G6 L = none := st6.hid L (by rw [hHj]; simp) gLj
              have rel6 : Rel K b B G6 H6 ωj (L2.wipe σ3 vs1) ρj := (relj.step st6 le6).bare hB1 wipe_wipe hbj
              have t6 : Tr G1 H1 ω1 G6 H6 ωj := tj.trans (.step st6)
              have ia6 := iaj.mono st6.g
              cases eg6 : Fg1 d6 ρj with
              | none => rw [eg6] at eI; cases eI
              | some ρ7 =>
                rw [eg6] at eI
                dsimp only at eI
                refine hm1 _ _ _ _ _ (fun σ7 H7 z => ⟨z.2.trans wipe_wipe, z.1 (z.2.trans wipe_wipe)⟩) (hk1 x6 (L2.wipe σ3 vs1) H6 (fun σ7 H7 => L2.wipe σ7 vs1 = L2.wipe σ3 vs1 → tt1 σ7 H7 _) ?_)
                refine hg1 b G6 H6 ωj G6 H6 ωj (L2.wipe σ3 vs1) ρj rel6 .refl x6 d6 (own_frz ix6) _ ?_
                rw [eg6]
                intro σ7 G7 H7 ω7 rel7 t7 w7
                refine ht1 b G7 H7 ω7 σ7 ρ7 rel7 _ ?_
                cases eT7 : T1 ρ7 with
                | no => rw [eT7] at eI; cases eI
                | ex c ρ8 => rw [eT7] at eI; cases eI
                | ok k8 ρ8 q8 =>
                  rw [eT7] at eI
                  dsimp only at eI
                  intro k8' G8 H8 ω8 rel8 t8 _ ek8
                  subst ek8
                  have t78 := t7.trans t8
                  cases k8' with
                  | false =>
                    rw [if_neg (by decide)] at eI
                    obtain ⟨k1, k2⟩ := t78.keep L _ oLj h6L
                    exact ⟨G8, ω8, wipeE ρ8 vs1, accj, xsj, rel8.wipe hB1 w7.symm, bare_wipe, (sj.trans st6.g).trans t78.g, t6.trans t78, k2, t78.hid L oLj (by rw [h6L]; simp) g6L, k1, ia6.mono t78.g, p, eI, postj⟩
                  | true =>
                    rw [if_pos rfl] at eI
                    refine he b G8 H8 ω8 σ7 ρ8 rel8 _ ?_
                    cases eF8 : Fe ρ8 with
                    | no => rw [eF8] at eI; cases eI
                    | ex c ρ9 => rw [eF8] at eI; cases eI
                    | ok e9 ρ9 q9 =>
                      rw [eF8] at eI
                      dsimp only at eI
                      intro y9 G9 H9 ω9 rel9 t9 _ iy
                      have t79 := t78.trans t9
                      obtain ⟨k1, k2⟩ := t79.keep L _ oLj h6L
                      have g9L : G9 L = none := t79.hid L oLj (by rw [h6L]; simp) g6L
                      have ia9 := ia6.mono t79.g
                      split at eI
                      · rename_i hz
                        exact ⟨xsj, k1, by rw [iaj.length]; exact hz, G9, ω9, wipeE ρ9 vs1, accj ++ [e9], xsj ++ [y9], (rel9.aside k2 g9L bL).wipe hB1 w7.symm, bare_wipe, (sj.trans st6.g).trans t79.g, Tr.aside (t6.trans t79) hL, k2, g9L, upd_same, ia9.append (.cons iy .nil), p, eI, postj⟩
                      · cases eI
            · have e : j = ds1.length := by omega
              subst e
              rw [List.drop_length, lcI] at eI
              cases eI
              exact .inl ⟨Y1.stop _ Gj Hj sj relj.le (Nat.le_refl _), Gj, ωj, wipeE ρj vs, accj, xsj, relj.wipe hv w3.symm, bare_wipe, tj, oLj, gLj, hHj, iaj, postj⟩
  · have e : i = ds.length := by omega
    subst e
    rw [List.drop_length, lcD2] at post
    refine .inl ⟨Y.stop _ G H t.g rel.le (Nat.le_refl _), ?_⟩
    refine post (.ref L) G H ω rel t (fun z => by cases z) ⟨fun a => if a = L then some (0, none) else none, ⟨fun a ha => ?_⟩, .one (.lst (by simp) hH ia)⟩
    by_cases c : a = L
    · subst c
      exact ⟨oLw, gLw, ⟨_, hH, rfl⟩, bL, .inl hL⟩
    · simp [c] at ha
end
section
variable {X : Cx} {B : By} {W : WX} {elt tg iter tg1 iter1 : Expr} {ifs ifs1 : List Expr} {scope : Scope} {own : List (Str × Nat)} {vs1 : List Nat} {pos : Pos} {wi : TI} {F F1 : DL.Env → Out (List D)} {Fg Fg1 : D → DL.Env → Option DL.Env} {T T1 : DL.Env → Out Bool} {Fe : DL.Env → Out D}
theorem DI.can {tg e : Expr} (h : ∃ t, DI X B W tg e t F) : DI X B W tg e (tOfE X.K B W (YldR X.K) F) F := by
  obtain ⟨t, h⟩ := h
  exact ⟨⟨fun pins s σ H Q I ⟨b, G, ω, ρ, rel, post⟩ => h.pi.run pins s σ H Q I (h.sat b G H ω σ ρ rel Q post)⟩, sat_of⟩
theorem o_lc2x (g g1 : TG) (hc : X.calm = true) (hN : X.N.Nodup) (hi : DI X B W tg iter wi F) (ok : BlkOk X.N X.env.scope scope own) (hv1 : ∀ i ∈ vs1, i ∈ own.map (·.2))
    (hg : ∀ (s : Shared) (H : Hp) (C : Addr) (cl : List (Str × Addr)) (fp : List Addr), DK (X.blk s H scope (compEnvC scope cl C X.env) fp) B (own.map (·.2)) tg g Fg)
    (ht : ∀ (s : Shared) (H : Hp) (C : Addr) (cl : List (Str × Addr)) (fp : List Addr), ∃ tt, DTs (X.blk s H scope (compEnvC scope cl C X.env) fp) B ifs tt T)
    (hi1 : ∀ (s : Shared) (H : Hp) (C : Addr) (cl : List (Str × Addr)) (fp : List Addr), ∃ wi1, DI (X.blk s H scope (compEnvC scope cl C X.env) fp) B W0 tg1 iter1 wi1 F1)
    (hg1 : ∀ (s : Shared) (H : Hp) (C : Addr) (cl : List (Str × Addr)) (fp : List Addr), DK (X.blk s H scope (compEnvC scope cl C X.env) fp) B vs1 tg1 g1 Fg1)
    (ht1 : ∀ (s : Shared) (H : Hp) (C : Addr) (cl : List (Str × Addr)) (fp : List Addr), ∃ tt, DTs (X.blk s H scope (compEnvC scope cl C X.env) fp) B ifs1 tt T1)
    (he : ∀ (s : Shared) (H : Hp) (C : Addr) (cl : List (Str × Addr)) (fp : List Addr), ∃ te, DE (X.blk s H scope (compEnvC scope cl C X.env) fp) B W0 elt te Fe)
    (hv : ∀ i ∈ own.map (·.2), i ∉ B.l := by decide) (hs : ∀ x, foldedSetIterable iter X.env x = pure x := by intro _; rfl) (hs1 : ∀ env x, foldedSetIterable iter1 env x = pure x := by intro _ _; rfl) :
    DO X B W (.ListComp elt [⟨tg, iter, ifs, 0⟩, ⟨tg1, iter1, ifs1, 0⟩] scope pos) (tLc2 wi g (tOfE X.K B W0 (EqR Bool) T) (tOfE X.K B W0 (YldR X.K) F1) g1 (tOfE X.K B W0 (EqR Bool) T1) (tOfE X.K B W0 (IsR X.K) Fe) (own.map (·.2)) vs1) (fLc2 (own.map (·.2)) vs1 F Fg T F1 Fg1 T1 Fe) :=
  ⟨pe_lc2 hc hN hi.pi ok hv1 (fun s H C cl fp => (hg s H C cl fp).dg.pg) (fun s H C cl fp => (DTs.can (ht s H C cl fp)).pts) (fun s H C cl fp => (DI.can (hi1 s H C cl fp)).pi) (fun s H C cl fp => (hg1 s H C cl fp).dg.pg) (fun s H C cl fp => (DTs.can (ht1 s H C cl fp)).pts) (fun s H C cl fp => (DE.can (he s H C cl fp)).pe) hs hs1,
    sat_lc2 hi.sat (hg X.s_0 X.H_0 0 [] []).dg.sat (hg X.s_0 X.H_0 0 [] []).k (hg X.s_0 X.H_0 0 [] []).m sat_of sat_of (hg1 X.s_0 X.H_0 0 [] []).dg.sat (hg1 X.s_0 X.H_0 0 [] []).k (hg1 X.s_0 X.H_0 0 [] []).m sat_of sat_of hv hv1⟩
theorem ds_setLc2x (i : Nat) (g g1 : TG) {y : Str} {py spos : Pos} (hc : X.calm = true) (hN : X.N.Nodup) (hi : DI X B W tg iter wi F) (ok : BlkOk X.N X.env.scope scope own) (hv1 : ∀ i ∈ vs1, i ∈ own.map (·.2))
    (hg : ∀ (s : Shared) (H : Hp) (C : Addr) (cl : List (Str × Addr)) (fp : List Addr), DK (X.blk s H scope (compEnvC scope cl C X.env) fp) B (own.map (·.2)) tg g Fg)
    (ht : ∀ (s : Shared) (H : Hp) (C : Addr) (cl : List (Str × Addr)) (fp : List Addr), ∃ tt, DTs (X.blk s H scope (compEnvC scope cl C X.env) fp) B ifs tt T)
    (hi1 : ∀ (s : Shared) (H : Hp) (C : Addr) (cl : List (Str × Addr)) (fp : List Addr), ∃ wi1, DI (X.blk s H scope (compEnvC scope cl C X.env) fp) B W0 tg1 iter1 wi1 F1)
    (hg1 : ∀ (s : Shared) (H : Hp) (C : Addr) (cl : List (Str × Addr)) (fp : List Addr), DK (X.blk s H scope (compEnvC scope cl C X.env) fp) B vs1 tg1 g1 Fg1)
    (ht1 : ∀ (s : Shared) (H : Hp) (C : Addr) (cl : List (Str × Addr)) (fp : List Addr), ∃ tt, DTs (X.blk s H scope (compEnvC scope cl C X.env) fp) B ifs1 tt T1)
    (he : ∀ (s : Shared) (H : Hp) (C : Addr) (cl : List (Str × Addr)) (fp : List Addr), ∃ te, DE (X.blk s H scope (compEnvC scope cl C X.env) fp) B W0 elt te Fe)
    (hsw : swapsWith (.ListComp elt [⟨tg, iter, ifs, 0⟩, ⟨tg1, iter1, ifs1, 0⟩] scope pos) (some (.Name y py)) spos.line X.env = pure true)
    (hv : ∀ i ∈ own.map (·.2), i ∉ B.l := by decide) (hy : X.N[i]? = some y := by rfl) (hyl : X.env.scope.names.lookup y = some .local := by rfl) (hs : ∀ x, foldedSetIterable iter X.env x = pure x := by intro _; rfl) (hs1 : ∀ env x, foldedSetIterable iter1 env x = pure x := by intro _ _; rfl) :
    DS X B W (.Assign [.Name y py] (.ListComp elt [⟨tg, iter, ifs, 0⟩, ⟨tg1, iter1, ifs1, 0⟩] scope pos) spos) (tAsg (tLc2 wi g (tOfE X.K B W0 (EqR Bool) T) (tOfE X.K B W0 (YldR X.K) F1) g1 (tOfE X.K B W0 (EqR Bool) T1) (tOfE X.K B W0 (IsR X.K) Fe) (own.map (·.2)) vs1) (gName i)) (sAsg (fLc2 (own.map (·.2)) vs1 F Fg T F1 Fg1 T1 Fe) (gN B.l i)) :=
  ⟨ps_setLc2 hc hN hy hyl hsw hi.pi ok hv1 (fun s H C cl fp => (hg s H C cl fp).dg.pg) (fun s H C cl fp => (DTs.can (ht s H C cl fp)).pts) (fun s H C cl fp => (DI.can (hi1 s H C cl fp)).pi) (fun s H C cl fp => (hg1 s H C cl fp).dg.pg) (fun s H C cl fp => (DTs.can (ht1 s H C cl fp)).pts) (fun s H C cl fp => (DE.can (he s H C cl fp)).pe) hs hs1,
    ss_asg (sat_lc2 hi.sat (hg X.s_0 X.H_0 0 [] []).dg.sat (hg X.s_0 X.H_0 0 [] []).k (hg X.s_0 X.H_0 0 [] []).m sat_of sat_of (hg1 X.s_0 X.H_0 0 [] []).dg.sat (hg1 X.s_0 X.H_0 0 [] []).k (hg1 X.s_0 X.H_0 0 [] []).m sat_of sat_of hv hv1) sg_name⟩
end
/-! ### the pure side -/
section
variable {vs vs1 : List Nat} {Fs F1 : DL.Env → Out (List D)} {g g1 : D → DL.Env → Option DL.Env} {T T1 : DL.Env → Out Bool} {Fe : DL.Env → Out D} {ρ : DL.Env}
@[simp] theorem fLc2_ap : fLc2 vs vs1 Fs g T F1 g1 T1 Fe ρ = (Fs ρ).bind fun ds ρ1 => lcD2 vs vs1 g T F1 g1 T1 Fe ds [] (wipeE ρ1 vs) := (rfl)
theorem lcI_all (f : D → D) : ∀ (ds acc : List D), acc.length + ds.length ≤ sizeLine →
    (∀ d ∈ ds, ∃ ρ1 ρ2 ρ3 q1 q2, g1 d ρ = some ρ1 ∧ T1 ρ1 = .ok true ρ2 q1 ∧ Fe ρ2 = .ok (f d) ρ3 q2 ∧ wipeE ρ3 vs1 = ρ) → lcI vs1 g1 T1 Fe ds acc ρ = some (acc ++ ds.map f, ρ)
  | [], acc, _, _ => by simp [lcI]
  | d :: ds, acc, hl, h => by
    obtain ⟨ρ1, ρ2, ρ3, q1, q2, h1, h2, h3, h4⟩ := h d (by simp)
    unfold lcI
    rw [h1]; dsimp only; rw [h2]; dsimp only; rw [if_pos rfl, h3]; dsimp only
    rw [if_pos (by simp at hl; omega), h4, lcI_all f ds (acc ++ [f d]) (by simp at hl ⊢; omega) fun e he => h e (List.mem_cons_of_mem _ he)]
    simp
theorem lcD2_all (k : D → List D) : ∀ (ds acc : List D), acc.length + (ds.flatMap k).length ≤ sizeLine →
    (∀ d ∈ ds, ∃ ρ1 ρ2 ds1 ρ3 ρ4 q1 q2, g d ρ = some ρ1 ∧ T ρ1 = .ok true ρ2 q1 ∧ F1 ρ2 = .ok ds1 ρ3 q2 ∧ (∀ acc : List D, acc.length + (k d).length ≤ sizeLine → lcI vs1 g1 T1 Fe ds1 acc (wipeE ρ3 vs1) = some (acc ++ k d, ρ4)) ∧ wipeE ρ4 vs = ρ) →
    lcD2 vs vs1 g T F1 g1 T1 Fe ds acc ρ = .ok (.lst true (acc ++ ds.flatMap k)) ρ false
  | [], acc, _, _ => by simp [lcD2]
  | d :: ds, acc, hl, h => by
    obtain ⟨ρ1, ρ2, ds1, ρ3, ρ4, q1, q2, h1, h2, h3, h4, h5⟩ := h d (by simp)
    rw [List.flatMap_cons, List.length_append] at hl
    unfold lcD2
    rw [h1]; dsimp only; rw [h2]; dsimp only; rw [if_pos rfl, h3]; dsimp only
    rw [h4 acc (by omega)]; dsimp only
    rw [h5, lcD2_all k ds (acc ++ k d) (by rw [List.length_append]; omega) fun e he => h e (List.mem_cons_of_mem _ he)]
    simp
end
end DL
set_option Elab.async false
set_option linter.all false
set_option maxRecDepth 100000
set_option maxHeartbeats 1000000
/-! dicts: the empty display -/
namespace DL
open PySem PySem.Spec PyProof.Rows L2
def fDic (o t : Bool) : DL.Env → Out D := fun ρ => .ok (.dct o t []) ρ true
section
variable {K : PySem.W.Frag} {B : By} {W : WX}
theorem sat_dicK : Sat K B W (IsR K) tDNewK (fDic false false) := fun b G H ω σ ρ rel Q post p hp =>
  Post.step rel post (Step.new rel.le hp) (same_both rel.le) (.dctK (Rd.of upd_same) .nil)
theorem sat_dicT : Sat K B W (IsR K) tDNewT (fDic false true) := fun b G H ω σ ρ rel Q post p hp =>
  Post.step rel post (Step.new rel.le hp) (same_both rel.le) (.dctT (Rd.of upd_same) .nil)
theorem own_newK {b : Bs} {G H : Hp} {ω : Lb} {σ : L2.St} {ρ : DL.Env} {p : Addr} {xs : List (Key × V)} {ds : List (D × D)} (rel : Rel K b B G H ω σ ρ) (hp : H p = none) (i : IsKs K G xs ds) : OwnR K b H ω G (upd H p (.dK xs)) ω (.ref p) (.dct true false ds) := by
  refine ⟨fun a => if a = p then some (0, none) else none, ⟨fun a ha => ?_⟩, .one (.dctK (by simp) upd_same i)⟩
  by_cases c : a = p
  · subst c
    refine ⟨?_, same_none rel.le hp, ⟨_, upd_same, rfl⟩, rel.dom _ hp, .inl hp⟩
    cases q : ω a with
    | none => rfl
    | some l => exact absurd hp (rel.own a l q).2.1.ne
  · simp [c] at ha
theorem own_newT {b : Bs} {G H : Hp} {ω : Lb} {σ : L2.St} {ρ : DL.Env} {p : Addr} {xs : List (List Key × V)} {ds : List (D × D)} (rel : Rel K b B G H ω σ ρ) (hp : H p = none) (i : IsTs K G xs ds) : OwnR K b H ω G (upd H p (.dT xs)) ω (.ref p) (.dct true true ds) := by
  refine ⟨fun a => if a = p then some (0, none) else none, ⟨fun a ha => ?_⟩, .one (.dctT (by simp) upd_same i)⟩
  by_cases c : a = p
  · subst c
    refine ⟨?_, same_none rel.le hp, ⟨_, upd_same, rfl⟩, rel.dom _ hp, .inl hp⟩
    cases q : ω a with
    | none => rfl
    | some l => exact absurd hp (rel.own a l q).2.1.ne
  · simp [c] at ha
theorem sat_dicKO : Sat K B W (OwnR K) tDNewK (fDic true false) := fun b G H ω σ ρ rel Q post p hp =>
  Post.step rel post (Step.hidden hp) (rel.le.trans (same_upd hp)) (own_newK rel hp .nil)
theorem sat_dicTO : Sat K B W (OwnR K) tDNewT (fDic true true) := fun b G H ω σ ρ rel Q post p hp =>
  Post.step rel post (Step.hidden hp) (rel.le.trans (same_upd hp)) (own_newT rel hp .nil)
end
section
variable {X : Cx} {B : By} {W : WX} {pos : Pos}
theorem d_dicK : DE X B W (.Dict [] [] pos) tDNewK (fDic false false) := ⟨pe_dnewK, sat_dicK⟩
theorem d_dicT : DE X B W (.Dict [] [] pos) tDNewT (fDic false true) := ⟨pe_dnewT, sat_dicT⟩
theorem o_dicK : DO X B W (.Dict [] [] pos) tDNewK (fDic true false) := ⟨pe_dnewK, sat_dicKO⟩
theorem o_dicT : DO X B W (.Dict [] [] pos) tDNewT (fDic true true) := ⟨pe_dnewT, sat_dicTO⟩
end
@[simp] theorem fDic_ap {o t : Bool} {ρ : DL.Env} : fDic o t ρ = .ok (.dct o t []) ρ true := (rfl)
@[simp] theorem owned_dct {o t : Bool} {kvs : List (D × D)} : owned (.dct o t kvs) = o := (rfl)
@[simp] theorem frz_dct {o t : Bool} {kvs : List (D × D)} : frz (.dct o t kvs) = .dct false t kvs := (rfl)
@[simp] theorem tyName_dct {o : Bool} {kvs : List (D × D)} : tyName (.dct o false kvs) = some "dict" := (rfl)
end DL
set_option Elab.async false
set_option linter.all false
set_option maxRecDepth 100000
set_option maxHeartbeats 1000000
/-! dicts with tuple keys: a display of one pair, membership, reading, writing -/
namespace DL
open PySem PySem.Spec PyProof.Rows L2
/-! ### keys -/
def unK : D → Option Key
  | .int i => some (.inl i)
  | .str x => some (.inr x)
  | _ => none
def unKs : List D → Option (List Key)
  | [] => some []
  | d :: r => match unK d, unKs r with
    | some k, some ks => some (k :: ks)
    | _, _ => none
def hI : List D → Bool
  | .int _ :: _ => true
  | _ => false
/-- a tuple whose first item is an int, of ints and texts -/
def unT : D → Option (List Key)
  | .tup ds => if hI ds = true then unKs ds else none
  | _ => none
theorem unKs_kD : ∀ ks : List Key, unKs (ks.map kD) = some ks
  | [] => rfl
  | .inl i :: r => by
    show (match unK (.int i), unKs (r.map kD) with
      | some k, some ks => some (k :: ks)
      | _, _ => none) = _
    rw [unKs_kD r]
    rfl
  | .inr x :: r => by
    show (match unK (.str x), unKs (r.map kD) with
      | some k, some ks => some (k :: ks)
      | _, _ => none) = _
    rw [unKs_kD r]
    rfl
theorem unKs_is {K : PySem.W.Frag} {G : Hp} : ∀ {xs : List V} {ds : List D} {ks : List Key}, IsAll K G xs ds → unKs ds = some ks → xs = ks.map kV ∧ ds = ks.map kD
  | _, _, _, .nil, h => by cases h; exact ⟨rfl, rfl⟩
  | _, d :: r, _, .cons i t, h => by
    unfold unKs at h
    cases e1 : unK d with
    | none => rw [e1] at h; cases h
    | some k =>
      cases e2 : unKs r with
      | none => rw [e1, e2] at h; cases h
      | some ks =>
        rw [e1, e2] at h
        cases h
        obtain ⟨q1, q2⟩ := unKs_is t e2
        subst q1 q2
        cases i <;> first | (cases e1; exact ⟨rfl, rfl⟩) | cases e1
/-- no tuple of the module has an int first -/
structure NoT (K : PySem.W.Frag) : Prop where
  no : ∀ {G : Hp} {a : Addr} {i : Int} {r : List V}, TupAt K G a (.int i :: r) → G a = some (.tup (.int i :: r))
theorem unT_tup {ds : List D} : unT (.tup ds) = if hI ds = true then unKs ds else none := (rfl)
theorem unKs_eq : ∀ {ds : List D} {ks : List Key}, unKs ds = some ks → ds = ks.map kD
  | [], _, h => by cases h; rfl
  | d :: r, _, h => by
    unfold unKs at h
    cases e1 : unK d with
    | none => rw [e1] at h; cases h
    | some k =>
      cases e2 : unKs r with
      | none => rw [e1, e2] at h; cases h
      | some ks =>
        rw [e1, e2] at h
        cases h
        rw [unKs_eq e2]
        cases d <;> first | (cases e1; rfl) | cases e1
theorem unT_is {K : PySem.W.Frag} {G : Hp} {v : V} {d : D} {k : List Key} (nt : NoT K) (i : Is K G v d) (h : unT d = some k) : ∃ b, v = .ref b ∧ G b = some (.tup (k.map kV)) ∧ d = .tup (k.map kD) := by
  cases i with
  | tup h1 h2 =>
    rw [unT_tup] at h
    split at h
    · rename_i hh
      obtain ⟨q1, q2⟩ := unKs_is h2 h
      subst q2
      subst q1
      cases k with
      | nil => cases hh
      | cons k ks => cases k with
        | inl i => exact ⟨_, rfl, nt.no h1, rfl⟩
        | inr x => cases hh
    · cases h
  | _ => cases h
theorem hI_of {d : D} {k : List Key} (h : unT d = some k) : hI (k.map kD) = true := by
  cases d with
  | tup ds =>
    rw [unT_tup] at h
    split at h
    · rename_i hh
      rw [← unKs_eq h]
      exact hh
    · cases h
  | _ => cases h
theorem unT_key {k j : List Key} (h : hI (j.map kD) = true) : unT (.tup (k.map kD)) = some j ↔ k = j := by
  rw [unT_tup]
  constructor
  · intro q
    split at q
    · rw [unKs_kD] at q; exact Option.some.inj q
    · cases q
  · intro q
    subst q
    rw [if_pos h, unKs_kD]
/-! ### what a dict holds -/
def valT (ds : List (D × D)) (k : List Key) : Option D := (ds.find? fun p => decide (unT p.1 = some k)).map (·.2)
def putT (ds : List (D × D)) (k : List Key) (d : D) : List (D × D) :=
  if (ds.any fun p => decide (unT p.1 = some k)) = true then ds.map fun p => if unT p.1 = some k then (p.1, d) else p else ds ++ [(.tup (k.map kD), d)]
section
variable {K : PySem.W.Frag} {G : Hp}
theorem IsTs.length : ∀ {kvs : List (List Key × V)} {ds : List (D × D)}, IsTs K G kvs ds → kvs.length = ds.length
  | _, _, .nil => rfl
  | _, _, .cons _ r => by rw [List.length_cons, List.length_cons, r.length]
theorem IsTs.val {j : List Key} (hj : hI (j.map kD) = true) : ∀ {kvs : List (List Key × V)} {ds : List (D × D)}, IsTs K G kvs ds → (valV kvs j = none ∧ valT ds j = none) ∨ ∃ v d, valV kvs j = some v ∧ valT ds j = some d ∧ Is K G v d
  | _, _, .nil => .inl ⟨rfl, rfl⟩
  | _, _, @IsTs.cons _ _ k v fs d ds i r => by
    by_cases e : k = j
    · refine .inr ⟨v, d, valV_pos e, ?_, i⟩
      unfold valT
      rw [List.find?_cons, decide_eq_true ((unT_key hj).mpr e)]
      rfl
    · rw [valV_neg e]
      have : valT ((.tup (k.map kD), d) :: ds) j = valT ds j := by
        unfold valT
        rw [List.find?_cons, decide_eq_false (fun q => e ((unT_key hj).mp q))]
      rw [this]
      exact IsTs.val hj r
theorem IsTs.app : ∀ {kvs : List (List Key × V)} {ds : List (D × D)} {k : List Key} {v : V} {d : D}, IsTs K G kvs ds → Is K G v d → IsTs K G (kvs ++ [(k, v)]) (ds ++ [(.tup (k.map kD), d)])
  | _, _, _, _, _, .nil, i => .cons i .nil
  | _, _, _, _, _, .cons h r, i => .cons h (r.app i)
theorem IsTs.any {j : List Key} (hj : hI (j.map kD) = true) : ∀ {kvs : List (List Key × V)} {ds : List (D × D)}, IsTs K G kvs ds → (kvs.any fun kv => decide (kv.1 = j)) = (ds.any fun p => decide (unT p.1 = some j))
  | _, _, .nil => rfl
  | _, _, @IsTs.cons _ _ k v fs d ds i r => by
    rw [List.any_cons, List.any_cons, IsTs.any hj r]
    congr 1
    by_cases e : k = j
    · rw [decide_eq_true e, decide_eq_true ((unT_key hj).mpr e)]
    · rw [decide_eq_false e, decide_eq_false (fun q => e ((unT_key hj).mp q))]
theorem IsTs.repl {j : List Key} (hj : hI (j.map kD) = true) {v : V} {d : D} (i : Is K G v d) : ∀ {kvs : List (List Key × V)} {ds : List (D × D)}, IsTs K G kvs ds → IsTs K G (kvs.map fun kv => if kv.1 = j then (kv.1, v) else kv) (ds.map fun p => if unT p.1 = some j then (p.1, d) else p)
  | _, _, .nil => .nil
  | _, _, @IsTs.cons _ _ k v0 fs d0 ds i0 r => by
    rw [List.map_cons, List.map_cons]
    by_cases e : k = j
    · rw [if_pos e, if_pos ((unT_key hj).mpr e)]
      exact .cons i (IsTs.repl hj i r)
    · rw [if_neg e, if_neg (fun q => e ((unT_key hj).mp q))]
      exact .cons i0 (IsTs.repl hj i r)
theorem IsTs.put {j : List Key} (hj : hI (j.map kD) = true) {v : V} {d : D} (i : Is K G v d) {kvs : List (List Key × V)} {ds : List (D × D)} (h : IsTs K G kvs ds) : IsTs K G (putK kvs j v) (putT ds j d) := by
  unfold putK putT
  rw [h.any hj]
  by_cases q : (ds.any fun p => decide (unT p.1 = some j)) = true
  · rw [if_pos q, if_pos q]; exact h.repl hj i
  · rw [if_neg q, if_neg q]; exact h.app i
end
/-! ### k in d, d[k] -/
theorem hu1_of {n m : Nat} (h : n + 65 < m) : n + 1 < m := by omega
def rDIn (neg : Bool) : R2 := fun x y H Q => ∃ a o, y = .ref a ∧ DGet H a x o ∧ Q (.bl (neg != o.isSome)) H
def rDGet : R2 := fun x y H Q => ∃ a v, x = .ref a ∧ DGet H a y (some v) ∧ Q v H
theorem op_dIn {X : Cx} (hu : X.A.units + 1 < cLine) : OpR X (compareOp .In) (rDIn false) := by
  intro pins s σ H x y v u Q I rx ry r
  obtain ⟨a, o, e, g, q⟩ := r
  subst e
  obtain rfl : u = Value.ref a := ry
  exact d_in hu I g rx fun s3 I3 => ⟨.bl o.isSome, H, I3, rfl, by simpa using q⟩
theorem op_dNin {X : Cx} (hu : X.A.units + 1 < cLine) : OpR X (compareOp .NotIn) (rDIn true) := by
  intro pins s σ H x y v u Q I rx ry r
  obtain ⟨a, o, e, g, q⟩ := r
  subst e
  obtain rfl : u = Value.ref a := ry
  exact d_notIn hu I g rx fun s3 I3 => ⟨.bl (!o.isSome), H, I3, rfl, by simpa using q⟩
def dInD (neg : Bool) (x y : D) : Res := match y, unT x with
  | .dct _ true ds, some k => .val (.bl (neg != (valT ds k).isSome))
  | _, _ => .no
def dGetD (x y : D) : Res := match x, unT y with
  | .dct _ true ds, some k => (match valT ds k with
    | some d => .val d
    | none => .no)
  | _, _ => .no
section
variable {K : PySem.W.Frag}
theorem dIn_v (nt : NoT K) {neg : Bool} : OpV K (rDIn neg) (dInD neg) := by
  intro G H x y a c le ia ic Q post
  unfold dInD at post
  split at post
  · rename_i o ds k e
    obtain ⟨b, rfl, hb, ea⟩ := unT_is nt ia e
    cases ic with
    | @dctT p kvs ds h1 h2 =>
      have hv := h2.val (hI_of e)
      refine ⟨p, valV kvs k, rfl, .inr ⟨kvs, k, b, same_rd le h1, rfl, le _ _ hb, rfl⟩, ?_⟩
      have : (valV kvs k).isSome = (valT ds k).isSome := by
        rcases hv with ⟨e1, e2⟩ | ⟨v, d, e1, e2, _⟩ <;> rw [e1, e2] <;> rfl
      rw [this]
      exact post.here le (.bl _)
  · exact post.elim
theorem dGet_v (nt : NoT K) : OpV K rDGet dGetD := by
  intro G H x y a c le ia ic Q post
  unfold dGetD at post
  split at post
  · rename_i o ds k e
    obtain ⟨b, rfl, hb, ea⟩ := unT_is nt ic e
    cases ia with
    | @dctT p kvs ds h1 h2 =>
      rcases h2.val (hI_of e) with ⟨e1, e2⟩ | ⟨v, d, e1, e2, i⟩
      · rw [e2] at post; exact post.elim
      · rw [e2] at post
        exact ⟨p, v, rfl, .inr ⟨kvs, k, b, same_rd le h1, rfl, le _ _ hb, e1.symm⟩, post.here le i⟩
  · exact post.elim
end
section
variable {X : Cx} {B : By} {W : WX} {pos : Pos} {o i : Expr} {to ti : TE} {Fo Fi : DL.Env → Out D}
theorem d_dget (nt : NoT X.K) (hu : X.A.units + 1 < cLine) (ho : DE X B W o to Fo) (hi : DE X B W i ti Fi) (hs : NoSl i := by exact fun _ _ => rfl) : DE X B W (.Subscript o i pos) (tOp rDGet to ti) (fOp dGetD Fo Fi) :=
  ⟨pe_dget hu ho.pe hi.pe hs, sat_op (dGet_v nt) ho.sat hi.sat⟩
end
/-! ### d.get(k, x) -/
def isTD : D → Bool
  | .dct _ true _ => true
  | _ => false
def getXR (x : D) : Option (List Key) → D → DL.Env → Out D
  | some k, .dct _ true ds, ρ => .ok ((valT ds k).getD x) ρ true
  | _, _, _ => .no
def fDGet2 (Fd Fk Fx : DL.Env → Out D) : DL.Env → Out D := fun ρ => (Fd ρ).bind fun c ρ1 => if isTD c = true then (Fk ρ1).bind fun k ρ2 => (Fx ρ2).bind fun x ρ3 => getXR x (unT k) c ρ3 else .no
section
variable {K : PySem.W.Frag} {B : By} {W : WX}
theorem sat_dget2 (nt : NoT K) {td tk tx : TE} {Fd Fk Fx : DL.Env → Out D} (hd : Sat K B W (IsR K) td Fd) (hk : Sat K B W (IsR K) tk Fk) (hx : Sat K B W (IsR K) tx Fx) : Sat K B W (IsR K) (tDGet2 td tk tx) (fDGet2 Fd Fk Fx) := by
  intro b G H ω σ ρ rel Q post
  refine hd.at (R' := IsR K) (Q := Q) rel post fun G1 H1 ω1 ρ1 x c rel1 s1 i1 p1 => ?_
  split at p1
  · rename_i hc
    cases i1 with
    | @dctT a kvs ds h1 h2 =>
      refine ⟨a, rfl, .inr ⟨kvs, same_rd rel1.le h1⟩, ?_⟩
      refine hk.at (R' := IsR K) (Q := Q) rel1 p1 fun G2 H2 ω2 ρ2 y kd rel2 s2 i2 p2 => ?_
      refine hx.at (R' := IsR K) (Q := Q) rel2 p2 fun G3 H3 ω3 ρ3 z xd rel3 s3 i3 p3 => ?_
      cases e : unT kd with
      | none => rw [e] at p3; exact p3.elim
      | some k =>
        rw [e] at p3
        obtain ⟨b2, rfl, hb, _⟩ := unT_is nt (i2.mono s3.g) e
        have h1' := same_rd rel3.le (same_rd s3.g (same_rd s2.g h1))
        have h2' := (h2.mono s2.g).mono s3.g
        refine ⟨valV kvs k, .inr ⟨kvs, k, b2, h1', rfl, rel3.le _ _ hb, rfl⟩, Post.now rel3 p3 ?_⟩
        rcases h2'.val (hI_of e) with ⟨e1, e2⟩ | ⟨v, d, e1, e2, i⟩
        · rw [e1, e2]; exact i3
        · rw [e1, e2]; exact i
    | _ => cases hc
  · exact p1.elim
end
section
variable {X : Cx} {B : By} {W : WX} {o e f : Expr} {apos cpos : Pos} {td tk tx : TE} {Fd Fk Fx : DL.Env → Out D}
theorem d_dget2 (nt : NoT X.K) (hu : X.A.units + 1 < cLine) (hd : DE X B W o td Fd) (hk : DE X B W e tk Fk) (hx : DE X B W f tx Fx) (m : M2 X o "get" apos e f cpos := by exact ⟨rfl, rfl, rfl, rfl⟩) : DE X B W (.Call (.Attribute o "get" apos) [e, f] [] cpos) (tDGet2 td tk tx) (fDGet2 Fd Fk Fx) :=
  ⟨pe_dget2 hu hd.pe hk.pe hx.pe m, sat_dget2 nt hd.sat hk.sat hx.sat⟩
end
@[simp] theorem isTD_dct {o : Bool} {ds : List (D × D)} : isTD (.dct o true ds) = true := (rfl)
@[simp] theorem getXR_some {x : D} {k : List Key} {o : Bool} {ds : List (D × D)} {ρ : DL.Env} : getXR x (some k) (.dct o true ds) ρ = .ok ((valT ds k).getD x) ρ true := (rfl)
@[simp] theorem fDGet2_ap {Fd Fk Fx : DL.Env → Out D} {ρ : DL.Env} : fDGet2 Fd Fk Fx ρ = (Fd ρ).bind fun c ρ1 => if isTD c = true then (Fk ρ1).bind fun k ρ2 => (Fx ρ2).bind fun x ρ3 => getXR x (unT k) c ρ3 else .no := (rfl)
/-! ### d[k] = v -/
def isDT (ρ : DL.Env) (j : Nat) : Bool := match ρ[j]? with
  | some (some (.dct true true _)) => true
  | _ => false
def sSetD (j : Nat) (Fe Fi : DL.Env → Out D) : DL.Env → SOut := fun ρ => (Fe ρ).s fun d ρ1 => if isDT ρ1 j = true then (Fi ρ1).s fun i ρ2 => (match ρ2[j]?, unT i with
  | some (some (.dct true true ds)), some k => if ds.length < sizeLine then .nx (ρ2.set j (some (.dct true true (putT ds k d)))) else .no
  | _, _ => .no) else .no
section
variable {K : PySem.W.Frag} {B : By} {W : WX} {b : Bs} {G H : Hp} {ω : Lb} {σ : L2.St} {ρ : DL.Env}
theorem Rel.dctT (R : Rel K b B G H ω σ ρ) {j : Nat} {ds : List (D × D)} (h : ρ[j]? = some (some (.dct true true ds))) : ∃ a kvs, σ[j]? = some (some (.ref a)) ∧ ω a = some (j, none) ∧ H a = some (.dT kvs) ∧ IsTs K G kvs ds := by
  obtain ⟨v, h1, h2⟩ := R.slot j _ h
  cases h2 with
  | one h2 =>
    cases h2 with
    | frz i => cases i
    | dctT y1 y2 y3 => exact ⟨_, _, h1, y1, y2, y3⟩
theorem isDT_of {j : Nat} (rel : Rel K b B G H ω σ ρ) (h : isDT ρ j = true) : ∃ a kvs, σ[j]? = some (some (.ref a)) ∧ H a = some (.dT kvs) := by
  unfold isDT at h
  split at h
  · rename_i ds e
    obtain ⟨a, xs, q1, q2, q3, q4⟩ := rel.dctT e
    exact ⟨a, xs, q1, q3⟩
  · cases h
theorem ss_setD (nt : NoT K) {j : Nat} {te ti : TE} {Fe Fi : DL.Env → Out D} (he : Sat K B W (IsR K) te Fe) (hi : Sat K B W (IsR K) ti Fi) : SatS K B W (sDPut (tVar j) ti te) (sSetD j Fe Fi) := fun b G H ω σ ρ rel Dn post =>
  he.s rel post fun G1 H1 ω1 ρ1 x d r1 s1 i1 p1 => by
    split at p1
    · rename_i hl
      obtain ⟨a, xs, hv, _⟩ := isDT_of r1 hl
      refine ⟨.ref a, hv, hi.s r1 (PostS.from s1 p1) fun G2 H2 ω2 ρ2 y i r2 s2 i2 p2 => ?_⟩
      split at p2
      · rename_i ds k e1 ek
        obtain ⟨a', kvs, q1, q2, q3, q4⟩ := r2.dctT e1
        rw [hv] at q1
        cases q1
        split at p2
        · rename_i hz
          obtain ⟨b2, rfl, hb, _⟩ := unT_is nt i2 ek
          exact ⟨a, _, rfl, .inr ⟨kvs, k, b2, q3, rfl, r2.le _ _ hb, by rw [q4.length]; exact hz, rfl⟩, p2 σ G2 _ ω2 (r2.upd q2 hv (.one (.dctT q2 upd_same (q4.put (hI_of ek) (i1.mono s2.g))))) (s2.trans (tr_upd q2))⟩
        · exact p2.elim
      · exact p2.elim
    · exact p1.elim
end
section
variable {X : Cx} {B : By} {W : WX} {pos : Pos} {e : Expr} {te : TE} {Fe : DL.Env → Out D}
theorem ds_setD (j : Nat) (nt : NoT X.K) (hu : X.A.units + 1 < cLine) {x : Str} {px p2 : Pos} {o : Expr} {ti : TE} {Fi : DL.Env → Out D} (he : DE X B W e te Fe) (hi : DE X B W o ti Fi) (hN : X.N[j]? = some x := by rfl) (hv : Vis X.env.scope x := by first | exact Or.inl rfl | exact Or.inr (Or.inl rfl) | exact Or.inr (Or.inr rfl))
    (hd : (x == ("__debug__" : Str)) = false := by decide) (hcd : (x == ("__classdict__" : Str)) = false := by decide) (hs : swapsWith e (some (.Subscript (.Name x px) o p2)) pos.line X.env = pure false := by rfl) :
    DS X B W (.Assign [.Subscript (.Name x px) o p2] e pos) (sDPut (tVar j) ti te) (sSetD j Fe Fi) := ⟨ps_dput hu (pe_var hN hv hd hcd) hi.pe he.pe hs, ss_setD nt he.sat hi.sat⟩
end
/-! ### {k: v} -/
section
variable {prog : Program} {w : World} {κ : Type} [DecidableEq κ] {knd : HeapKind prog w κ} {A : Around} {E : Value → Shared → Prop} {s : Shared}
theorem dict_pairsH {env : PySem.Env} {keys : List (Option Expr)} {values : List Expr} {pos : Pos} {Q : Value → Shared → Prop} (hu : knd.room A) (hall : keys.all (·.isSome) = true) (hl : keys.length = values.length) (h0 : keys ≠ []) (hlen : keys.length ≤ 15)
    (h : wpAny (model prog w) A (evalPairs (pairTrees keys values env pos)) (fun vs s₁ => ∃ ps, CarriesH knd s₁.heap vs ps ∧ s₁.heap.DictOfH knd s.heap.objs.size [] ∧
      ∀ h' tk, h'.DictOfH knd s.heap.objs.size (storedAllH [] ps) → Heap.SameBut s.heap.objs.size s₁.heap h' → Q (.ref s.heap.objs.size) { s₁ with heap := h', toks := tk }) E
      { s with heap := s.heap.push { cls := .type "dict", data := .dict #[] } }) :
    wpAny (model prog w) A (eval (.Dict keys values pos) env) Q E s := by
  have hn := pairTrees_length keys values env pos hall hl
  have hp0 : pairTrees keys values env pos ≠ [] := by
    intro he
    rw [he] at hn
    exact h0 (List.length_eq_zero_iff.mp hn.symm)
  rw [arm_eval_Dict, zip_pairTrees keys values env pos hall hl, dictDisplay_pairs _ hp0 (by rw [hn]; omega)]
  refine wpAny_bind (wpAny_standAt (wpAny_bind (wpAny_subDictH (knd := knd) (Q := fun d s' => wpAny (model prog w) A (pure (Value.ref d)) Q E s') hu (by rw [hn]; exact hlen) ?_)))
  refine wpAny_mono h (fun vs s₁ h₁ => ?_) fun _ _ e => e
  obtain ⟨ps, hc, hm, hq⟩ := h₁
  exact ⟨ps, hc, hm, fun h' tk a b => wpAny_pure (hq h' tk a b)⟩
end
def tDisp1 (tk tv : TE) : TE := fun σ H Q => ∀ p, H p = none → tk σ (upd H p (.dT [])) fun x H1 => tv σ H1 fun y H2 => H2 p = some (.dT []) ∧ ∃ b k, x = .ref b ∧ H2 b = some (.tup (k.map kV)) ∧ Q (.ref p) (upd H2 p (.dT [(k, y)]))
theorem pe_disp1 {X : Cx} {pos : Pos} {k v : Expr} {tk tv : TE} (hu : X.A.units + 1 < cLine) (hk : PE X k tk) (hv : PE X v tv) : PE X (.Dict [some k] [v] pos) (tDisp1 tk tv) := by
  refine ⟨fun pins s σ H Q I q => ?_⟩
  have hn := I.hok.fresh (Nat.le_refl s.heap.objs.size)
  have I1 := I.laid (a := s.heap.objs.size) (o := .dT []) (h' := s.heap.push { cls := .type "dict", data := .dict #[] }) (t' := s.toks) (fun _ _ q => Heap.get?_push_of_some _ q) (Nat.le_refl _) (dt_empty s.heap I.big)
  refine dict_pairsH (knd := tupleKind (mixKind X.prog X.w)) (Nat.lt_of_succ_lt hu) rfl rfl (by simp) (by show 1 ≤ 15; decide) (thn ((pps_cons hk hv (pps_nil (pos := pos))).run pins _ σ _ (fun ps H2 => match ps with
    | [(x, y)] => H2 s.heap.objs.size = some (.dT []) ∧ ∃ b k, x = .ref b ∧ H2 b = some (.tup (k.map kV)) ∧ Q (.ref s.heap.objs.size) (upd H2 s.heap.objs.size (.dT [(k, y)]))
    | _ => False) I1 (q _ hn)) fun ws s2 ⟨ps, H2, I2, rel, q2⟩ => ?_)
  split at q2
  · rename_i x y
    obtain ⟨e, b, k, ex, eb, q2⟩ := q2
    subst ex
    obtain ⟨z, hd, xs, r0, dd⟩ := dt_of I2.hok e
    cases r0
    cases rel with
    | @cons p1 w1 ps1 qs1 h t =>
      cases t
      obtain ⟨u, r⟩ := w1
      obtain ⟨h1, h2⟩ := h
      obtain rfl : u = Value.ref b := h1
      refine ⟨[(k, b, r)], ⟨rfl, rfl, key_of I2.hok eb, trivial⟩, dd, fun h' tk dd' hs => ⟨.ref s.heap.objs.size, _, ?_, rfl, q2⟩⟩
      obtain ⟨qo, es, epp, hq, g2, g3, g4, _, g5⟩ := dd'
      refine d_write I2 (by rw [e]; exact True.intro) hs ⟨qo, hq⟩ ⟨by rw [sizeLine_eq]; show 1 ≤ 16777216; decide, hd, [(k, b, r)], .cons ⟨rfl, ?_, h2⟩ .nil, qo, es, epp, hq, g2, g3, g4, g5⟩
      show upd H2 _ _ b = _
      rw [upd_ne (ne_of eb e (fun z => nomatch z))]
      exact eb
  · exact q2.elim
def fDisp1 (Fk Fv : DL.Env → Out D) : DL.Env → Out D := fun ρ => (Fk ρ).bind fun a ρ1 => (Fv ρ1).bind fun d ρ2 => match unT a with
  | some k => .ok (.dct true true [(.tup (k.map kD), d)]) ρ2 true
  | none => .no
section
variable {K : PySem.W.Frag} {B : By} {W : WX}
theorem Post.from {α β : Type} {R : Rep α β} [Back R] {b : Bs} {G H G1 H1 : Hp} {ω : Lb} {σ : L2.St} {Q : β → Hp → Prop} (s : Tr G H ω G1 H1 ω) (sm : Same H H1) : ∀ {o : Out α}, Post K B W b G H ω σ R Q o → Post K B W b G1 H1 ω σ R Q o
  | .ok a ρ q, h => fun x G' H' ω' r t z i => h x G' H' ω' r (s.trans t) (fun y => ⟨(z y).1, sm.trans (z y).2⟩) (Back.back s i)
  | .ex c ρ, h => fun cls dd G' H' ω' r t i => h cls dd G' H' ω' r (s.trans t) i
  | .no, h => h
theorem sat_disp1 (nt : NoT K) {tk tv : TE} {Fk Fv : DL.Env → Out D} (hk : Sat K B W (IsR K) tk Fk) (hv : Sat K B W (IsR K) tv Fv) : Sat K B W (OwnR K) (tDisp1 tk tv) (fDisp1 Fk Fv) := by
  intro b G H ω σ ρ rel Q post p hp
  have gp := same_none rel.le hp
  have wp : ω p = none := by
    cases q : ω p with
    | none => rfl
    | some l => exact absurd hp (rel.own p l q).2.1.ne
  have s0 : Step G H G (upd H p (.dT [])) := Step.hidden hp
  have rel0 := rel.step s0 (rel.le.trans (same_upd hp))
  refine hk b G (upd H p (.dT [])) ω σ ρ rel0 _ ?_
  unfold fDisp1 Out.bind at post
  cases e : Fk ρ with
  | no => rw [e] at post; exact post
  | ex c ρ1 => rw [e] at post; exact fun cls dd G1 H1 ω1 r1 t1 i => post cls dd G1 H1 ω1 r1 ((Tr.step s0).trans t1) i
  | ok a ρ1 q =>
    rw [e] at post
    intro x G1 H1 ω1 r1 t1 q1 i1
    refine hv b G1 H1 ω1 σ ρ1 r1 _ ?_
    dsimp only at post
    cases e2 : Fv ρ1 with
    | no => rw [e2] at post; exact post
    | ex c ρ2 => rw [e2] at post; exact fun cls dd G2 H2 ω2 r2 t2 i => post cls dd G2 H2 ω2 r2 (((Tr.step s0).trans t1).trans t2) i
    | ok d ρ2 q' =>
      rw [e2] at post
      intro y G2 H2 ω2 r2 t2 q2 i2
      dsimp only at post
      cases e3 : unT a with
      | none => rw [e3] at post; exact post.elim
      | some k =>
        rw [e3] at post
        dsimp only at post
        have t12 := t1.trans t2
        obtain ⟨k1, k2⟩ := t12.keep p _ wp upd_same
        have k3 : G2 p = none := t12.hid p wp (by rw [upd_same]; simp) gp
        obtain ⟨b2, rfl, hb, _⟩ := unT_is nt (i1.mono t2.g) e3
        refine ⟨k1, b2, k, rfl, r2.le _ _ hb, ?_⟩
        have bp : b.H p = none := rel.dom _ hp
        have T : Tr G H ω G2 (upd H2 p (.dT [(k, y)])) ω2 := by
          have t0 := (Tr.step s0).trans t12
          refine ⟨t0.g, fun c o h1 h2 => ?_, fun c h1 h2 h3 => t0.hid c h1 h2 h3, fun c h => ?_⟩
          · obtain ⟨z1, z2⟩ := t0.keep c o h1 h2
            refine ⟨?_, z2⟩
            rw [upd_ne (fun z => by rw [z, hp] at h2; cases h2)]
            exact z1
          · by_cases z : c = p
            · rw [z]; exact hp
            · rw [upd_ne z] at h; exact t0.dom c h
        refine post (.ref p) G2 _ ω2 (r2.aside k2 k3 bp) T (fun z => ?_) ⟨fun c => if c = p then some (0, none) else none, ⟨fun c hc => ?_⟩, .one (.dctT (by simp) upd_same (.cons (i2) .nil))⟩
        · simp only [Bool.and_true, Bool.and_eq_true] at z
          obtain ⟨y1, y2⟩ := q1 z.1
          obtain ⟨y3, y4⟩ := q2 z.2
          refine ⟨y3.trans y1, fun c o h => ?_⟩
          have n : c ≠ p := fun z => by rw [z, hp] at h; cases h
          rw [upd_ne n]
          exact y4 _ _ (y2 _ _ (by rw [upd_ne n]; exact h))
        · by_cases z : c = p
          · subst z
            exact ⟨k2, k3, ⟨_, upd_same, rfl⟩, bp, .inl hp⟩
          · simp [z] at hc
end
section
variable {X : Cx} {B : By} {W : WX} {pos : Pos} {k v : Expr} {tk tv : TE} {Fk Fv : DL.Env → Out D}
theorem o_disp1 (nt : NoT X.K) (hu : X.A.units + 1 < cLine) (hk : DE X B W k tk Fk) (hv : DE X B W v tv Fv) : DO X B W (.Dict [some k] [v] pos) (tDisp1 tk tv) (fDisp1 Fk Fv) := ⟨pe_disp1 hu hk.pe hv.pe, sat_disp1 nt hk.sat hv.sat⟩
end
/-- what tells that no tuple of the module has an int first -/
theorem noT_of {K : PySem.W.Frag} (h : ∀ nm ∈ CN, ∀ (a : Addr) (o : Obj) (its : Array Value) (n : Nat) (i : Int) (r : List V), PySem.W.nsIn K mainGlobals nm = some (some (.ref a)) → K.lookup a = some o → o.data = .seq its n → Vals (.int i :: r) its.toList → False) : NoT K :=
  ⟨fun {G a i r} t => by
    rcases t with t | ⟨o, its, n, h1 | ⟨x, r', h1⟩, h3, h4, h5, h6, h7⟩
    · exact t
    · obtain ⟨nm, h1, h2⟩ := h1
      exact (h nm h1 a o its n i r h2 h3 h5 h7).elim
    · cases h1⟩
/-! ### how they are told -/
@[simp] theorem fDisp1_ap {ρ : DL.Env} {Fk Fv : DL.Env → Out D} : fDisp1 Fk Fv ρ = (Fk ρ).bind fun a ρ1 => (Fv ρ1).bind fun d ρ2 => match unT a with
  | some k => .ok (.dct true true [(.tup (k.map kD), d)]) ρ2 true
  | none => .no := (rfl)
@[simp] theorem isDT_ap {ρ : DL.Env} {j : Nat} {ds : List (D × D)} (h : ρ[j]? = some (some (.dct true true ds))) : isDT ρ j = true := by unfold isDT; rw [h]
def setDD (ρ : DL.Env) (j : Nat) (d : D) : Option (List Key) → Option (Option D) → SOut
  | some k, some (some (.dct true true ds)) => if ds.length < sizeLine then .nx (ρ.set j (some (.dct true true (putT ds k d)))) else .no
  | _, _ => .no
theorem sSetD_ap {ρ : DL.Env} {j : Nat} {Fe Fi : DL.Env → Out D} : sSetD j Fe Fi ρ = (Fe ρ).s fun d ρ1 => if isDT ρ1 j = true then (Fi ρ1).s fun i ρ2 => setDD ρ2 j d (unT i) ρ2[j]? else .no := by
  unfold sSetD
  congr 1
  funext d ρ1
  congr 1
  congr 1
  funext i ρ2
  unfold setDD
  cases unT i <;> cases ρ2[j]? with
  | none => rfl
  | some o => cases o with
    | none => rfl
    | some d => cases d <;> first | rfl | (rename_i o t _; cases o <;> cases t <;> rfl)
@[simp] theorem setDD_some {ρ : DL.Env} {j : Nat} {d : D} {k : List Key} {ds : List (D × D)} : setDD ρ j d (some k) (some (some (.dct true true ds))) = if ds.length < sizeLine then .nx (ρ.set j (some (.dct true true (putT ds k d)))) else .no := (rfl)
def inDR (neg : Bool) : Option (List Key) → List (D × D) → Res
  | some k, ds => .val (.bl (neg != (valT ds k).isSome))
  | none, _ => .no
@[simp] theorem dInD_dct {neg o : Bool} {x : D} {ds : List (D × D)} : dInD neg x (.dct o true ds) = inDR neg (unT x) ds := by
  unfold dInD inDR
  cases unT x <;> rfl
@[simp] theorem inDR_some {neg : Bool} {k : List Key} {ds : List (D × D)} : inDR neg (some k) ds = .val (.bl (neg != (valT ds k).isSome)) := (rfl)
def getDR : Option (List Key) → List (D × D) → Res
  | some k, ds => (match valT ds k with
    | some d => .val d
    | none => .no)
  | none, _ => .no
@[simp] theorem dGetD_dct {o : Bool} {y : D} {ds : List (D × D)} : dGetD (.dct o true ds) y = getDR (unT y) ds := by
  unfold dGetD getDR
  cases unT y <;> rfl
theorem getDR_some {k : List Key} {ds : List (D × D)} {d : D} (h : valT ds k = some d) : getDR (some k) ds = .val d := by
  show (match valT ds k with
    | some d => Res.val d
    | none => Res.no) = _
  rw [h]
end DL
set_option Elab.async false
set_option linter.all false
set_option maxRecDepth 100000
set_option maxHeartbeats 1000000
namespace DL
open PySem PySem.Spec PyProof.Rows L2
/-! ### a look at an owned object: what comes out may be tuples, or a new list of such -/
mutual
def plainD : D → Bool
  | .non => true
  | .bl _ => true
  | .int _ => true
  | .str _ => true
  | .tup ds => plainDs ds
  | _ => false
def plainDs : List D → Bool
  | [] => true
  | d :: ds => plainD d && plainDs ds
end
def plainO : D → Bool
  | .lst true ds => plainDs ds
  | d => plainD d
section
variable {K : PySem.W.Frag} {B : By} {W : WX} {G G' : Hp}
mutual
theorem is_plain (h : ∀ t xs, G t = some (.tup xs) → G' t = some (.tup xs)) : ∀ {v : V} {d : D}, Is K G v d → plainD d = true → Is K G' v d
  | _, _, .non, _ => .non
  | _, _, .bl b, _ => .bl b
  | _, _, .int i, _ => .int i
  | _, _, .str x, _ => .str x
  | _, _, .ty _, z => by cases z
  | _, _, .ref _, z => by cases z
  | _, _, .tup (a := a) (xs := xs) t r, z => .tup (t.elim (fun y => .inl (h _ _ y)) .inr) (is_plains h r z)
  | _, _, .ro _ _, z => by cases z
  | _, _, .lst _ _, z => by cases z
  | _, _, .ob _ _ _, z => by cases z
  | _, _, .dctK _ _, z => by cases z
  | _, _, .dctT _ _, z => by cases z
theorem is_plains (h : ∀ t xs, G t = some (.tup xs) → G' t = some (.tup xs)) : ∀ {vs : List V} {ds : List D}, IsAll K G vs ds → plainDs ds = true → IsAll K G' vs ds
  | _, _, .nil, _ => .nil
  | _, _, .cons (d := d) (ds := ds) a r, z => by
    have z' : plainD d = true ∧ plainDs ds = true := by simpa [plainDs] using z
    exact .cons (is_plain h a z'.1) (is_plains h r z'.2)
end
abbrev fBor2 (j : Nat) (F : DL.Env → Out D) : DL.Env → Out D := fBor0 j plainD F
abbrev fBor2O (j : Nat) (F : DL.Env → Out D) : DL.Env → Out D := fBor0 j plainO F
theorem sat_bor2 {j : Nat} {t : TE} {F : DL.Env → Out D} (h : Sat K B W (IsR K) t F) : Sat K B W (IsR K) t (fBor2 j F) :=
  fun b G H ω σ ρ rel Q post => bor_at (R := IsR K) (fl := plainD) (F := F) (fun k _ i hf => is_plain k i hf) rel post fun b' G' ω' ρ' _ rel' Q' post' => h b' G' H ω' σ ρ' rel' Q' post'
theorem sat_bor2O {j : Nat} {t : TE} {F : DL.Env → Out D} (h : Sat K B W (OwnR K) t F) : Sat K B W (OwnR K) t (fBor2O j F) :=
  fun b G H ω σ ρ rel Q post => bor_at (R := OwnR K) (fl := plainO) (F := F) (fun {b' G1 H1 x a} k sm ⟨ωt, T, o⟩ hf => by
    refine ⟨ωt, ⟨fun y hy => ?_⟩, ?_⟩
    · obtain ⟨h1, h2, h3, h4, h5⟩ := T.at' y hy
      have hH : H y = none := by
        rcases h5 with h5 | h5
        · exact h5
        · exact absurd h1 h5
      have hw : ω y = none := by
        cases z : ω y with
        | none => rfl
        | some l => exact absurd hH (rel.own y l z).2.1.ne
      exact ⟨hw, bG_none h2, h3, rel.dom y hH, .inl hH⟩
    · cases o with
      | one o1 =>
        cases o1 with
        | frz i =>
          refine .one (.frz (is_plain k i ?_))
          cases i <;> first | exact hf | (cases hf)
        | lst y1 y2 y3 => exact .one (.lst y1 y2 (is_plains k y3 hf))
        | dctK _ _ _ => cases hf
        | dctT _ _ _ => cases hf
      | ob _ _ _ _ => cases hf) rel post fun b' G' ω' ρ' _ rel' Q' post' => h b' G' H ω' σ ρ' rel' Q' post'
end
section
variable {X : Cx} {B : By} {W : WX} {e : Expr} {te : TE} {Fe : DL.Env → Out D}
theorem d_bor2 (j : Nat) (h : DE X B W e te Fe) : DE X B W e te (fBor2 j Fe) := ⟨h.pe, sat_bor2 h.sat⟩
theorem o_bor2 (j : Nat) (h : DO X B W e te Fe) : DO X B W e te (fBor2O j Fe) := ⟨h.pe, sat_bor2O h.sat⟩
end
/-! ### x.f.append(e), x.f an owned list -/
/-- the list f of the fields, and the fields with another one there -/
def getL (f : Str) : List (Str × D) → Option (List D)
  | [] => none
  | (g, x) :: r => if g = f then (match x with
    | .lst true ds => if r.lookup f = none then some ds else none
    | _ => none) else getL f r
def fldL (ρ : DL.Env) (j : Nat) (f : Str) (cs : List String) : Option (List D) := match ρ[j]? with
  | some (some (.ob true c fs)) => if c ∈ cs then getL f fs else none
  | _ => none
def setL (ρ : DL.Env) (j : Nat) (f : Str) (ds : List D) : DL.Env := match ρ[j]? with
  | some (some (.ob true c fs)) => ρ.set j (some (.ob true c (putD f (.lst true ds) fs)))
  | _ => ρ
def fAppF (j : Nat) (f : Str) (cs : List String) (Fe : DL.Env → Out D) : DL.Env → Out D := fun ρ => match fldL ρ j f cs with
  | some _ => (match Fe ρ with
    | .ok d ρ1 true => (match fldL ρ1 j f cs with
      | some ds => if ds.length < sizeLine then .ok .non (setL ρ1 j f (ds ++ [d])) false else .no
      | none => .no)
    | .ex c ρ1 => .ex c ρ1
    | _ => .no)
  | none => .no
section
variable {K : PySem.W.Frag} {B : By} {W : WX} {f : Str} {cs : List String}
theorem lookup_putF {v : V} : ∀ {fs : List (Str × V)}, (putF f v fs).lookup f = some v
  | [] => by simp [putF, List.lookup]
  | (g, x) :: r => by
    unfold putF
    by_cases c : g = f
    · rw [if_pos c]; subst c; simp [List.lookup]
    · rw [if_neg c]
      have c' : (f == g) = false := by simpa using fun z : f = g => c z.symm
      simp only [List.lookup, c']
      exact lookup_putF
/-- the node of the list f, and the fields when it holds others -/
theorem OwnFs.getL {G H : Hp} {ω : Lb} {i : Nat} : ∀ {fs : List (Str × V)} {ds : List (Str × D)} {es : List D}, OwnFs K G H ω i fs ds → DL.getL f ds = some es →
    ∃ l xs, fs.lookup f = some (.ref l) ∧ ω l = some (i, some f) ∧ H l = some (.lst xs) ∧ IsAll K G xs es ∧ ∀ ys es', IsAll K G ys es' → OwnFs K G (L2.upd H l (.lst ys)) ω i fs (putD f (.lst true es') ds)
  | _, _, _, .nil, h => by cases h
  | _, _, es, .cons (n := n) (v := v) (fs := fs) (d := d) (ds := ds) h r, e => by
    unfold DL.getL at e
    have other : ∀ {l : Addr} {ys : List V}, ω l = some (i, some f) → ∀ {m : Str} {u : V} {x : D}, m ≠ f → Own1 K G H ω (i, some m) u x → Own1 K G (L2.upd H l (.lst ys)) ω (i, some m) u x := fun {l ys} hl {m u x} hm o => by
      have ne : ∀ {y : Addr}, ω y = some (i, some m) → y ≠ l := fun {y} q z => by
        subst z
        rw [hl] at q
        exact hm (by cases q; rfl)
      cases o with
      | frz z => exact .frz z
      | lst h1 h2 h3 => exact .lst h1 (by rw [upd_ne (ne h1)]; exact h2) h3
      | dctK h1 h2 h3 => exact .dctK h1 (by rw [upd_ne (ne h1)]; exact h2) h3
      | dctT h1 h2 h3 => exact .dctT h1 (by rw [upd_ne (ne h1)]; exact h2) h3
    by_cases c : n = f
    · rw [if_pos c] at e
      subst c
      have hd : ∃ ls, d = .lst true ls ∧ ds.lookup n = none ∧ ls = es := by
        cases d <;> first | (cases e; done) | skip
        rename_i o ls
        cases o with
        | false => cases e
        | true =>
          dsimp only at e
          split at e
          · rename_i z
            exact ⟨ls, rfl, z, Option.some.inj e⟩
          · cases e
      obtain ⟨ls, rfl, nl, rfl⟩ := hd
      cases h with
      | frz z => cases z
      | lst h1 h2 h3 =>
        rename_i l xs
        refine ⟨l, xs, by simp [List.lookup], h1, h2, h3, fun ys es' i' => ?_⟩
        have q : putD n (.lst true es') ((n, .lst true ls) :: ds) = (n, .lst true es') :: ds := by unfold putD; rw [if_pos rfl]
        rw [q]
        refine .cons (.lst h1 upd_same i') ?_
        have rest : ∀ {fs : List (Str × V)} {ds : List (Str × D)}, OwnFs K G H ω i fs ds → ds.lookup n = none → OwnFs K G (L2.upd H l (.lst ys)) ω i fs ds := by
          intro fs ds h
          induction h with
          | nil => intro _; exact .nil
          | @cons m u fs x ds h _ ih =>
            intro z
            have hm : m ≠ n := fun y => by subst y; simp [List.lookup] at z
            have z' : ds.lookup n = none := by
              have c' : (n == m) = false := by simpa using fun y : n = m => hm y.symm
              simpa only [List.lookup, c'] using z
            exact .cons (other h1 hm h) (ih z')
        exact rest r nl
    · rw [if_neg c] at e
      obtain ⟨l, xs, q1, q2, q3, q4, q5⟩ := OwnFs.getL r e
      have c' : (f == n) = false := by simpa using fun z : f = n => c z.symm
      refine ⟨l, xs, by simp only [List.lookup, c']; exact q1, q2, q3, q4, fun ys es' i' => ?_⟩
      have q : putD f (.lst true es') ((n, d) :: ds) = (n, d) :: putD f (.lst true es') ds := by unfold putD; rw [if_neg c]; cases ds <;> rfl
      rw [q]
      exact .cons (other q2 c h) (q5 ys es' i')
theorem fldL_at {b : Bs} {G H : Hp} {ω : Lb} {σ : L2.St} {ρ : DL.Env} {j : Nat} {ds : List D} (hf : Fl K f cs) (rel : Rel K b B G H ω σ ρ) (h : fldL ρ j f cs = some ds) :
    ∃ a C dx fs l xs, σ[j]? = some (some (.ref a)) ∧ H a = some (.ins C dx fs) ∧ L2.Cls K C ∧ NoAttr K C f ∧ fs.lookup f = some (.ref l) ∧ ω l = some (j, some f) ∧ H l = some (.lst xs) ∧ IsAll K G xs ds ∧
      ∀ ys es, IsAll K G ys es → Rel K b B G (L2.upd H l (.lst ys)) ω σ (setL ρ j f es) := by
  unfold fldL at h
  split at h
  · rename_i c fs0 e
    split at h
    · rename_i hc
      obtain ⟨v, h1, h2⟩ := rel.slot j _ e
      cases h2 with
      | one h2 => cases h2 with | frz z => cases z
      | @ob a C dx c' fv fe ns hw hh hfs =>
        obtain ⟨k1, k2⟩ := hf c hc _ ns
        obtain ⟨l, xs, q1, q2, q3, q4, q5⟩ := hfs.getL h
        refine ⟨a, C, dx, fv, l, xs, h1, hh, k1, k2, q1, q2, q3, q4, fun ys es i => ?_⟩
        have al : a ≠ l := fun z => by subst z; rw [hw] at q2; cases q2
        have s : setL ρ j f es = ρ.set j (some (.ob true c (putD f (.lst true es) fs0))) := by unfold setL; rw [e]
        rw [s]
        exact rel.upd q2 h1 (.ob ns hw (by rw [upd_ne al]; exact hh) (q5 ys es i))
    · cases h
  · cases h
theorem sat_appF {j : Nat} {te : TE} {Fe : DL.Env → Out D} (hf : Fl K f cs) (he : Sat K B W (IsR K) te Fe) : Sat K B W (IsR K) (tBM K "list" rAppend (tFld K (tVar j) f) (tCons te tNil)) (fAppF j f cs Fe) := by
  intro b G H ω σ ρ rel Q post
  unfold fAppF at post
  split at post
  · rename_i ds0 e0
    obtain ⟨a, C, dx, fs, l, xs, h1, h2, h3, h4, h5, h6, h7, _, _⟩ := fldL_at hf rel e0
    refine ⟨.ref a, h1, a, C, dx, fs, .ref l, rfl, h2, h3, h4, h5, .inl ⟨rfl, xs, SqL.of h7⟩, ?_⟩
    refine he b G H ω σ ρ rel _ ?_
    split at post
    · rename_i d ρ1 e1
      rw [e1]
      intro x G1 H1 ω1 rel1 t1 q1 i1
      obtain ⟨w1, p1⟩ := q1 rfl
      split at post
      · rename_i ds e2
        obtain ⟨a', C', dx', fs', l', xs', k1, k2, k3, k4, k5, k6, k7, k8, k9⟩ := fldL_at hf rel1 e2
        rw [h1] at k1
        cases k1
        rw [p1 a _ h2] at k2
        cases k2
        rw [h5] at k5
        cases k5
        split at post
        · rename_i hz
          exact ⟨l, xs', x, rfl, rfl, k7, by rw [k8.length]; exact hz, post _ G1 _ ω1 (k9 _ _ (k8.append (.cons i1 .nil))) (t1.trans (tr_upd k6)) (fun z => by cases z) .non⟩
        · exact post.elim
      · exact post.elim
    · rename_i c ρ1 e1
      rw [e1]
      exact post
    · exact post.elim
  · exact post.elim
end
section
variable {X : Cx} {B : By} {W : WX} {f : Str} {cs : List String} {e a : Expr} {te : TE} {Fe : DL.Env → Out D}
theorem d_appF (j : Nat) (hf : Fl X.K f cs) (he : DE X B W a te Fe) (mk : PE X a te → PE X e (tBM X.K "list" rAppend (tFld X.K (tVar j) f) (tCons te tNil))) : DE X B W e (tBM X.K "list" rAppend (tFld X.K (tVar j) f) (tCons te tNil)) (fAppF j f cs Fe) := ⟨mk he.pe, sat_appF hf he.sat⟩
end
/-! ### len(set(xs)) of a tuple of at most one text -/
def unS1 : D → Option Nat
  | .tup [] => some 0
  | .tup [.str _] => some 1
  | _ => none
def fLenSet (F : DL.Env → Out D) : DL.Env → Out D := fun ρ => (F ρ).bind fun a ρ1 => match unS1 a with
  | some n => .ok (.int (n : Int)) ρ1 true
  | none => .no
section
variable {K : PySem.W.Frag} {B : By} {W : WX}
theorem sat_lenSet {t : TE} {F : DL.Env → Out D} (h : Sat K B W (IsR K) t F) : Sat K B W (IsR K) (tLenSet K t) (fLenSet F) :=
  Sat.bind (R' := IsR K) (Fu := fun a ρ1 => match unS1 a with | some n => .ok (.int (n : Int)) ρ1 true | none => .no) (t := t) (u := fun x σ H Q => ∃ l, ∃ xs : List Str, x = .ref l ∧ (SqL K H l (xs.map V.str) ∨ SqT K H l (xs.map V.str)) ∧ xs.length ≤ 1 ∧ Q (.int xs.length) H) h fun b Hs ωs G H ω σ ρ rel x a i Q post => by
    cases e : unS1 a with
    | none => rw [e] at post; exact post.elim
    | some n =>
      rw [e] at post
      unfold unS1 at e
      split at e
      · cases e
        cases i with
        | tup hs ha =>
          cases ha
          exact ⟨_, [], rfl, .inr (sq_tup rel.le hs), by simp, Post.now rel post (.int 0)⟩
      · rename_i z
        cases e
        cases i with
        | tup hs ha =>
          cases ha with
          | cons h1 h2 =>
            cases h1
            cases h2
            exact ⟨_, [z], rfl, .inr (sq_tup rel.le hs), by simp, Post.now rel post (.int 1)⟩
      · cases e
end
section
variable {X : Cx} {B : By} {W : WX} {a : Expr} {ta : TE} {Fa : DL.Env → Out D} {p p2 q pos : Pos}
theorem d_lenSet (hc : X.calm = true) (hg : Gl X "len") (hm : X.mg "len" = none) (hg2 : Gl X "set") (hm2 : X.mg "set" = none) (ha : DE X B W a ta Fa)
    (na : starEach [a] X.env = (false, eval a X.env) :: starEach [] X.env := by rfl) : DE X B W (.Call (.Name "len" p) [.Call (.Name "set" p2) [a] [] q] [] pos) (tLenSet X.K ta) (fLenSet Fa) := ⟨pe_lenSet hc hg hm hg2 hm2 ha.pe na, sat_lenSet ha.sat⟩
end
/-! ### a, b, c = x, y, z -/
def par3 (B : List Nat) (i j l : Nat) (ds : List D) (ρ1 : DL.Env) : SOut := match ds with
  | [a, c, e] => if i ∈ B ∨ j ∈ B ∨ l ∈ B then .no else .nx (((ρ1.set i (some a)).set j (some c)).set l (some e))
  | _ => .no
def sPar3 (B : List Nat) (i j l : Nat) (F : DL.Env → Out (List D)) : DL.Env → SOut := fun ρ => (F ρ).s (par3 B i j l)
section
variable {K : PySem.W.Frag} {B : By} {W : WX}
theorem ss_par3 {i j l : Nat} {ta : TA} {F : DL.Env → Out (List D)} (h : Sat K B W (IsAR K) ta F) : SatS K B W (tPar3 i j l ta) (sPar3 B.l i j l F) := fun b G H ω σ ρ rel Dn post =>
  h.s rel post fun G1 H1 ω1 ρ1 xs ds r1 s1 i1 p1 => by
    unfold par3 at p1
    split at p1
    · split at p1
      · exact p1.elim
      · rename_i hz
        cases i1 with
        | cons a1 i1 =>
          cases i1 with
          | cons a2 i1 =>
            cases i1 with
            | cons a3 i1 =>
              cases i1
              obtain ⟨ω2, r2, t2⟩ := r1.set s1 (fun z => hz (.inl z)) (own_frz a1)
              obtain ⟨ω3, r3, t3⟩ := r2.set t2 (fun z => hz (.inr (.inl z))) (own_frz a2)
              obtain ⟨ω4, r4, t4⟩ := r3.set t3 (fun z => hz (.inr (.inr z))) (own_frz a3)
              exact ⟨_, _, _, rfl, p1 _ G1 H1 ω4 r4 t4⟩
    · exact p1.elim
end
section
variable {X : Cx} {B : By} {W : WX} {st : Stmt}
theorem ds_par3 (i j l : Nat) {es : List Expr} {ta : TA} {F : DL.Env → Out (List D)} (h : DA X B W es ta F) (mk : PA X es ta → PS X st (tPar3 i j l ta)) : DS X B W st (tPar3 i j l ta) (sPar3 B.l i j l F) := ⟨mk h.pa, ss_par3 h.sat⟩
end
/-! ### how they are told -/
@[simp] theorem sPar3_ap {B : List Nat} {i j l : Nat} {F : DL.Env → Out (List D)} {ρ : DL.Env} : sPar3 B i j l F ρ = (F ρ).s (par3 B i j l) := (rfl)
@[simp] theorem par3_ap {B : List Nat} {i j l : Nat} {a c e : D} {ρ : DL.Env} : par3 B i j l [a, c, e] ρ = if i ∈ B ∨ j ∈ B ∨ l ∈ B then .no else .nx (((ρ.set i (some a)).set j (some c)).set l (some e)) := (rfl)
@[simp] theorem fLenSet_ap {ρ : DL.Env} {F : DL.Env → Out D} : fLenSet F ρ = (F ρ).bind fun a ρ1 => match unS1 a with
  | some n => .ok (.int (n : Int)) ρ1 true
  | none => .no := (rfl)
@[simp] theorem plain_non : plainD .non = true := (rfl)
@[simp] theorem plain_bl {k : Bool} : plainD (.bl k) = true := (rfl)
@[simp] theorem plain_int {k : Int} : plainD (.int k) = true := (rfl)
@[simp] theorem plain_str {k : Str} : plainD (.str k) = true := (rfl)
@[simp] theorem plain_tup {ds : List D} : plainD (.tup ds) = plainDs ds := (rfl)
@[simp] theorem plain_nil : plainDs [] = true := (rfl)
@[simp] theorem plain_cons {d : D} {ds : List D} : plainDs (d :: ds) = (plainD d && plainDs ds) := (rfl)
@[simp] theorem plainO_lst {ds : List D} : plainO (.lst true ds) = plainDs ds := (rfl)
@[simp] theorem plainO_non : plainO .non = true := (rfl)
@[simp] theorem plainO_bl {k : Bool} : plainO (.bl k) = true := (rfl)
@[simp] theorem plainO_int {k : Int} : plainO (.int k) = true := (rfl)
@[simp] theorem plainO_str {k : Str} : plainO (.str k) = true := (rfl)
@[simp] theorem plainO_tup {ds : List D} : plainO (.tup ds) = plainDs ds := (rfl)
theorem plainDs_map {α : Type} {g : α → D} (h : ∀ x, plainD (g x) = true) : ∀ {l : List α}, plainDs (l.map g) = true
  | [] => rfl
  | x :: l => by rw [List.map_cons, plain_cons, h x, plainDs_map h]; rfl
end DL
set_option Elab.async false
set_option linter.all false
set_option maxRecDepth 100000
set_option maxHeartbeats 1000000
/-! Specials of the text's own classes: len(o), ==. -/
namespace DL
open PySem PySem.Spec PyProof.Rows L2
theorem RmG.in1 {k : Nat} {A : Around} (r : RmG (k + 1) A) : RmG k A.in1 := ⟨r.rm.in1, r.gd⟩
/-- a special method of a class -/
structure Spc (K : PySem.W.Frag) (C : Addr) (nm : Str) (f : Addr) : Prop where
  at' : PySem.W.findIn K (.ref C) nm = some (some (.ref f))
  fn : PySem.W.isFn K (.ref f) = true
section
variable {X : Cx} {B : By} {W : WX} {k np n : Nat} {f C : Addr} {fd : FuncData} {ps : List Str} {m : List D → FOut}
/-- a special method is called with values, one level deeper -/
theorem run_spc {b : Bs} {pins : List (Addr × Obj)} {s : Shared} {H G : Hp} {ω : Lb} {σ : L2.St} {ρ : DL.Env} {us : List Value} {vs : List V} {as : List D} {Q : VK} (Fn : FnG X.prog X.w X.K X.mg X.base k f fd ps (spOf X.K 0 np m)) (hr : RmG (k + 1) X.A) (tk : Takes X W)
    (hb : BP X.K fd ps 0 n [] fun as _ => as) (hn : as.length = n) (hnp : as.length = np) (I : Inv X pins σ H s) (rel : Rel X.K b B G H ω σ ρ) (r : Vals vs us) (i : IsAll X.K G vs as)
    (post : Post X.K B W b G H ω σ (OwnR X.K) Q (callO [] (m as) ρ)) :
    wpAny (model X.prog X.w) X.A.in1 (call (.ref f) us) (EP X pins σ Q) X.xe s := by
  obtain ⟨us', vs', hbi, rv, hi⟩ := hb s [] us [] vs [] I.kIn rfl (by rw [← r.length, i.length]; exact hn) rfl r .nil
  have i' := hi G as [] i .nil
  have hsp := call_core (js := []) (np := np) (db := []) (m := m) rel .nil .nil i' rfl (by rw [i'.length, hnp]; simp) (Nat.zero_le _) post
  refine wpAny_call (codeAny_mono (Fn.run X.A.in1 X.stack s H ⟨us, []⟩ us' vs' Q (WE W σ) hr.in1 I.env0.in1 hbi rv hsp) fun res s' hq => ?_)
  match res, hq with
  | .error e, hq => exact passAt tk σ pins H s e s' I hq
  | .ok (.ret u), hq => exact I.after hq
  | .ok .next, hq => exact False.elim hq
  | .ok .brk, hq => exact False.elim hq
  | .ok .cont, hq => exact False.elim hq
/-- len(o), o an object of the class cls -/
def lenC (cls : String) (m : List D → FOut) (a : D) (ρ1 : DL.Env) : Out D := match a with
  | .ob false c fs => if c = cls then (match m [.ob false c fs] with
    | .ok (.int n) [] => if 0 ≤ n ∧ n < 2 ^ 63 then .ok (.int n) ρ1 true else .no
    | _ => .no) else .no
  | _ => .no
def fLenC (cls : String) (m : List D → FOut) (Fo : DL.Env → Out D) : DL.Env → Out D := fun ρ => (Fo ρ).bind (lenC cls m)
theorem o_lenC {cls : String} {e : Expr} {te : TE} {Fo : DL.Env → Out D} {p pos : Pos} (ho : DE X B W e te Fo) (ns : PySem.W.nsIn X.K mainGlobals (cls : Str) = some (some (.ref C))) (sp : Spc X.K C "__len__" f) (Fn : FnG X.prog X.w X.K X.mg X.base k f fd ps (spOf X.K 0 1 m)) (hr : RmG (k + 1) X.A) (tk : Takes X W)
    (hb : BP X.K fd ps 0 1 [] fun as _ => as) (hg : Gl X "len") (hm : X.mg "len" = none)
    (na : starEach [e] X.env = (false, eval e X.env) :: starEach [] X.env := by rfl) :
    DO X B W (.Call (.Name "len" p) [e] [] pos) (tOfE X.K B W (OwnR X.K) (fLenC cls m Fo)) (fLenC cls m Fo) :=
  do_of fun pins s b G H ω σ ρ Q I rel post => by
    refine Call_ (ld_blt I hg hm boot_len ?_)
    refine PyProof.Rows.callWith_builtin1 (PyProof.Rows.args_cons (thn (ho.pe.run pins s σ H (fun y H1 => ∃ G1 ω1 ρ1 a, Rel X.K b B G1 H1 ω1 σ ρ1 ∧ Is X.K G1 y a ∧ Post X.K B W b G1 H1 ω1 σ (OwnR X.K) Q (lenC cls m a ρ1)) I ?_) ?_) na) na rfl
    · exact ho.sat.at (R' := OwnR X.K) (Q := Q) rel post fun G1 H1 ω1 ρ1 y a rel1 s1 i p => ⟨G1, ω1, ρ1, a, rel1, i, p⟩
    · rintro u s1 ⟨y, H1, I1, ry, G1, ω1, ρ1, a, rel1, i, p⟩
      refine PyProof.Rows.args_nil ?_
      unfold lenC at p
      split at p
      · rename_i c fs
        split at p
        · rename_i hc
          subst hc
          split at p
          · rename_i n em
            split at p
            · rename_i hn
              have i0 := i
              cases i with
              | @ob l C' dx c' fv fe ns' hg' hfs =>
                rw [ns] at ns'
                cases ns'
                cases (show u = Value.ref l from ry)
                obtain ⟨mA, J, _⟩ := ins_get I1.hok (rel1.le _ _ hg')
                obtain ⟨od, J, _⟩ := J.look
                obtain ⟨mF, hF⟩ := I1.fr
                refine PySem.W.len_K hF I1.ok.mod.kin J sp.at' sp.fn ?_
                refine wpAny_mono (run_spc (n := 1) (Q := fun v H' => v = .int n ∧ Q (.int n) H') Fn hr tk hb rfl rfl I1 rel1 (vs := [.ref l]) (us := [.ref l]) (.cons rfl .nil) (.cons i0 .nil) ?_) (fun r s' h => ?_) fun _ _ h => h
                · rw [em]
                  intro x G' H' ω' rel' t' q' ow
                  have ex : x = .int n := by
                    have z := own_un ow rfl
                    cases z
                    rfl
                  subst ex
                  exact ⟨rfl, p _ G' H' ω' rel' t' (fun _ => q' rfl) (own_frz (.int n))⟩
                · obtain ⟨v, H', I', rv, ev, q⟩ := h
                  subst ev
                  obtain ⟨t, rfl⟩ := rv
                  exact ⟨hn, ⟨.int n, H', I'.tok _, ⟨_, rfl⟩, q⟩⟩
            · exact p.elim
          · exact p.elim
        · exact p.elim
      · exact p.elim
end
/-! ### how they are told -/
@[simp] theorem fLenC_ap {cls : String} {m : List D → FOut} {Fo : DL.Env → Out D} {ρ : DL.Env} : fLenC cls m Fo ρ = (Fo ρ).bind (lenC cls m) := (rfl)
def lenR (ρ : DL.Env) : FOut → Out D
  | .ok (.int n) [] => if 0 ≤ n ∧ n < 2 ^ 63 then .ok (.int n) ρ true else .no
  | _ => .no
@[simp] theorem lenC_ob {cls : String} {m : List D → FOut} {fs : List (Str × D)} {ρ : DL.Env} : lenC cls m (.ob false cls fs) ρ = lenR ρ (m [.ob false cls fs]) := by
  unfold lenC lenR
  dsimp only
  rw [if_pos rfl]
@[simp] theorem lenR_ok {ρ : DL.Env} {n : Int} : lenR ρ (.ok (.int n) []) = if 0 ≤ n ∧ n < 2 ^ 63 then .ok (.int n) ρ true else .no := (rfl)
end DL
set_option Elab.async false
set_option linter.all false
set_option maxRecDepth 100000
set_option maxHeartbeats 4000000
/-! DLI: len(set(xs)) of a tuple of texts, any of them alike -/
namespace DL
open PySem PySem.Spec PyProof.Rows L2
/-! ### the values met, each once -/
section
variable {α : Type} [DecidableEq α] [BEq α] [LawfulBEq α]
def metK (val : Nat → α) (i : Nat) : List α := ((List.range i).map val).foldl step_dedup []
theorem metK_succ (val : Nat → α) (i : Nat) : metK val (i + 1) = step_dedup (metK val i) (val i) := by
  unfold metK
  rw [List.range_succ, List.map_append, List.foldl_append]
  rfl
theorem dedup_len (l : List α) (v : α) : (step_dedup l v).length = if l.any (· == v) then l.length else l.length + 1 := by
  unfold step_dedup
  split <;> simp
theorem dedup_any (l : List α) (v k : α) : (step_dedup l v).any (· == k) = (l.any (· == k) || decide (k = v)) := by
  unfold step_dedup
  by_cases h : l.any (· == v) = true
  · rw [if_pos h]
    by_cases e : k = v
    · subst e; rw [h]; simp
    · simp [e]
  · rw [if_neg h, List.any_append]
    by_cases e : k = v
    · subst e; simp
    · have hb : (v == k) = false := by simpa [beq_iff_eq] using (fun z : v = k => e z.symm)
      simp [hb, e]
theorem metK_le (val : Nat → α) : ∀ i, (metK val i).length ≤ i
  | 0 => Nat.le_refl _
  | i + 1 => by
    have ih := metK_le val i
    rw [metK_succ, dedup_len]
    split <;> omega
end
section
variable {prog : Program} {w : World} {A : Around} {R : Result → Shared → Prop} {I : Addr} {fp wr : List Addr} {G : Array GenState → Array GenState → Prop} {n : Nat} {P : Nat → Value → Prop} {St : Nat → Shared → Prop}
variable {α : Type} [DecidableEq α] [BEq α] [LawfulBEq α]
/-- set.update of a walk over keys of any kind -/
theorem loopK (knd : PySem.KeyKind prog w α) (sc : ∀ k v, knd.is k v = true → v.scannable = true) (W : WalksS prog w A.in1 I fp wr G n P St) (S : Addr) (hSf : S ∉ fp) (val : Nat → α) (hval : ∀ i v, P i v → knd.is (val i) v = true) (hb : n + 1 < scanBound) :
    ∀ (k i : Nat) (s : Shared), n - i = k → i ≤ n → St i s →
      s.heap.SetOf knd S (fun k' => (metK val i).any (· == k')) (metK val i).length →
      (∀ s', Moved (S :: wr) G s s' → s'.heap.SetOf knd S (fun k' => (metK val n).any (· == k')) (metK val n).length → R (.ok (.ret .none)) s') →
      codeAny (model prog w) A (.builtin "set.update.loop" ⟨[.ref S, .ref I], []⟩) R s := by
  have hSw : S ∉ wr := fun h => hSf (W.sub _ h)
  have hsub : ∀ b ∈ wr, b ∈ S :: wr := fun b hb => List.mem_cons_of_mem _ hb
  intro k
  induction k with
  | zero =>
    intro i s hk hi hst hS hR
    obtain rfl : i = n := by omega
    refine codeAny_builtin PyProof.Rows.F.entry_set_update_loop ?_
    rw [Around.under_plainId PyProof.Rows.F.plain_set_update_loop _]
    show wpAny _ A.in1 (pyNext (.ref I) >>= _) _ _ s
    refine wpAny_bind (W.done s _ _ hst fun s' hm => ?_)
    show wpAny _ A.in1 (ret Value.none) _ _ s'
    refine wpAny_pure (hR s' (hm.mono hsub) ?_)
    obtain ⟨o, es, ep, t, ho, rest⟩ := hS
    exact ⟨o, es, ep, t, hm.heap S _ hSw ho, rest⟩
  | succ k ih =>
    intro i s hk hi hst hS hR
    have hlt : i < n := by omega
    refine codeAny_builtin PyProof.Rows.F.entry_set_update_loop ?_
    rw [Around.under_plainId PyProof.Rows.F.plain_set_update_loop _]
    show wpAny _ A.in1 (pyNext (.ref I) >>= _) _ _ s
    refine wpAny_bind (W.item i s _ _ hlt hst fun v s' hP hst' hm => ?_)
    have hv := hval i v hP
    have hS' : s'.heap.SetOf knd S (fun k' => (metK val i).any (· == k')) (metK val i).length := by
      obtain ⟨o, es, ep, tb, ho, rest⟩ := hS
      exact ⟨o, es, ep, tb, hm.heap S _ hSw ho, rest⟩
    show wpAny _ A.in1 (holding [v] (setAdd S v) >>= _) _ _ s'
    refine wpAny_bind (wpAny_holding ?_)
    unfold setAdd
    refine wpAny_holding ?_
    refine wpAny_bind (knd.pyHash (k := val i) hv ?_)
    have hroom : (metK val i).length + 1 < scanBound := by have := metK_le val i; omega
    refine wpAny_setAddHashed_of (knd := knd) (s := { s' with toks := s'.toks + 1 }) hv (sc _ _ hv) hS' hroom fun h' hsb hS2 => ?_
    have hSi : h'.SetOf knd S (fun k' => (metK val (i + 1)).any (· == k')) (metK val (i + 1)).length :=
      SetOf_congr hS2 (fun k' => by rw [metK_succ, dedup_any]) (by rw [metK_succ, dedup_len])
    refine wpAny_pure ⟨plainId_quiet PyProof.Rows.F.plain_set_update_loop _, ih (i + 1) _ (by omega) hlt (W.frame _ s' _ _ hst' (Nat.le_succ _) fun b hb o e => ?_) hSi fun s'' hm'' hS'' => ?_⟩
    · rw [hsb.2 b (fun h : b = S => hSf (by rw [← h]; exact hb))]; exact e
    · refine hR s'' (Moved.trans W.gtrans ((hm.mono hsub).then_heap (Nat.le_succ _) fun b o hb e => ?_) hm'') hS''
      rw [hsb.2 b (fun h : b = S => hb (by rw [h]; exact List.mem_cons_self))]; exact e
end
section
variable {prog : Program} {w : World} {A : Around} {E : Value → Shared → Prop} {s : Shared} {α : Type} [DecidableEq α] [BEq α] [LawfulBEq α]
set_option maxHeartbeats 3200000 in
/-- set(t) of a tuple of keys of one kind -/
theorem call_setK (knd : PySem.KeyKind prog w α) (sc : ∀ k v, knd.is k v = true → v.scannable = true) {l : Addr} {items : Array Value} (val : Nat → α) {Q : Value → Shared → Prop} (hh : A.handled = none) (hl : s.heap.IsTuple l items)
    (hval : ∀ (i : Nat) (v : Value), items[i]? = some v → knd.is (val i) v = true) (hb : items.size + 1 < scanBound)
    (h : ∀ (h' : Heap) (tk : Nat), h'.SetOf knd s.heap.objs.size (fun k' => (metK val items.size).any (· == k')) (metK val items.size).length →
      (∀ b o, b < s.heap.objs.size → s.heap.get? b = some o → h'.get? b = some o) → Q (.ref s.heap.objs.size) { s with heap := h', toks := tk }) :
    wpAny (model prog w) A (call (.type "set") [.ref l]) Q E s := by
  have ⟨c, tl, hmro⟩ := PySem.F.called_set.mro
  have hmade := PySem.F.called_set.made
  have hsub := PySem.F.called_set.sub
  refine wpAny_call (codeAny_of_tree ?_)
  show wpAny _ _ (callAny (.type "set") _) _ _ _
  refine wpAny_pure ⟨Code.quiet_builtin _ (by decide +kernel), codeAny_builtin PySem.F.entry_type_call ?_⟩
  rw [Around.under_plain (weight_type_call_type "set" [.ref l] []) rfl]
  have h1 := PySem.F.called_set.notType
  have h2 := PySem.F.called_set.canCreate
  have hct := PySem.F.typeCall_set_1 (.ref l)
  repeat (any_goals (first | assumption | wp_step))
  refine codeAny_mono (code_set_new_1 (.ref l) (E := E) (Q₁ := fun obj s₁ => ∃ led : Bool, obj = .ref s.heap.objs.size ∧ s₁ = { s with heap := s.heap.push { cls := .type "set", dict := none, data := .set #[] 0 (.fresh 0 0 led) } }) fun led => ⟨led, rfl, rfl⟩) fun r s₁ hr => ?_
  match r, hr with
  | .error e, hr => exact hr
  | .ok .next, hr => exact hr.elim
  | .ok .brk, hr => exact hr.elim
  | .ok .cont, hr => exact hr.elim
  | .ok (.ret obj), hr =>
    obtain ⟨led, rfl, rfl⟩ := hr
    have hS : (s.heap.push { cls := .type "set", dict := none, data := .set #[] 0 (.fresh 0 0 led) }).get? s.heap.objs.size = some { cls := .type "set", dict := none, data := .set #[] 0 (.fresh 0 0 led) } := Heap.get?_push_size _ rfl
    have hT : Shared.TypeIs { s with heap := s.heap.push { cls := .type "set", dict := none, data := .set #[] 0 (.fresh 0 0 led) } } (.ref s.heap.objs.size) "set" := ⟨_, hS, rfl⟩
    have hli := PySem.F.called_set.init.lookup
    have hbi := PySem.F.called_set.init.bind (.ref s.heap.objs.size)
    repeat (any_goals (first | assumption | wp_step))
    refine codeAny_mono (codeAny_call_builtin (R := wants (fun r s₂ => r = .none ∧ ∃ h' tk, s₂ = { s with heap := h', toks := tk } ∧
        h'.SetOf knd s.heap.objs.size (fun k' => (metK val items.size).any (· == k')) (metK val items.size).length ∧
        (∀ b o, b < s.heap.objs.size → s.heap.get? b = some o → h'.get? b = some o)) E) PySem.F.called_set.init.plain PySem.F.entry_set_init (check_set_init_1 hT ?_)) fun r₂ s₂ hr₂ => ?_
    · obtain ⟨⟨ocls, odict, odata, oslots⟩, hol, hcl, nl, hdl⟩ := hl
      simp only at hcl hdl
      subst hcl; subst hdl
      have hol' : (s.heap.push { cls := .type "set", dict := none, data := .set #[] 0 (.fresh 0 0 led) }).get? l = some { cls := .type "tuple", dict := odict, data := .seq items nl, slots := oslots } := Heap.get?_push_of_some _ hol
      have hsls := PySem.F.sub_tuple_set
      have hslf := PySem.F.sub_tuple_frozenset
      have hne : (Value.type "tuple" == Value.type "dict") = false := by decide
      have hl1 : (s.heap.push { cls := .type "set", dict := none, data := .set #[] 0 (.fresh 0 0 led) }).IsTuple l items := ⟨_, hol', rfl, nl, rfl⟩
      unfold Builtin.«set.__init__» noKeywords Builtin.Frozenset.updateFrom
      generalize hPI : pyIter = PI
      wp_walk
      subst hPI
      refine wpAny_pyIter_tuple hl1 ?_
      refine wpAny_bind (wpAny_runValue ?_)
      have hlS : l < s.heap.objs.size := Heap.lt_size hol
      have hh3 : A.in1.in1.in1.handled = none := by simp [hh]
      have hz : (s.heap.push { cls := .type "set", dict := none, data := .set #[] 0 (.fresh 0 0 led) }).objs.size = s.heap.objs.size + 1 := Heap.size_push ..
      have hneI : l ≠ (s.heap.push { cls := .type "set", dict := none, data := .set #[] 0 (.fresh 0 0 led) }).objs.size := by rw [hz]; exact Nat.ne_of_lt (Nat.lt_succ_of_lt hlS)
      have hSf : s.heap.objs.size ∉ [(s.heap.push { cls := .type "set", dict := none, data := .set #[] 0 (.fresh 0 0 led) }).objs.size, l] := by
        rw [hz]
        simp only [List.mem_cons, List.mem_singleton, List.not_mem_nil, or_false, not_or]
        exact ⟨Nat.ne_of_lt (Nat.lt_succ_self _), Nat.ne_of_gt hlS⟩
      refine loopK knd sc ((Walks.tuple hh3 _ l hneI items).toS) s.heap.objs.size hSf val hval hb (items.size - 0) 0 _ (by omega) (Nat.zero_le _) ⟨⟨_, Heap.get?_push_size _ rfl, rfl, rfl⟩, (hl1.push _)⟩ ?_ ?_
      · refine PyProof.Rows.SetOf_congr ((?_ : Obj.SetObjOf knd { cls := .type "set", dict := none, data := .set #[] 0 (.fresh 0 0 led) } (fun _ => false) 0).setOf (Heap.get?_push_of_some _ hS) (by unfold scanBound; omega)) (fun _ => rfl) rfl
        exact PyProof.Rows.setObjOf_fresh led
      · intro s' hm hS'
        obtain ⟨h', g', d', tk', os'⟩ := s'
        obtain rfl : g' = s.gens := hm.gens
        obtain rfl : d' = s.drawn := hm.drawn
        obtain rfl : os' = s.os := hm.os
        show wpAny _ _ _ _ _ _
        refine wpAny_pure ?_
        show wpAny _ _ (ret Value.none) _ _ _
        refine wpAny_pure ⟨rfl, h', tk', rfl, hS', fun b o hb e => ?_⟩
        refine hm.heap b o ?_ (Heap.get?_push_of_some _ (Heap.get?_push_of_some _ e))
        simp only [List.mem_cons, List.mem_singleton, List.not_mem_nil, or_false, not_or]
        rw [hz]
        exact ⟨Nat.ne_of_lt hb, Nat.ne_of_lt (Nat.lt_succ_of_lt hb)⟩
    · match r₂, hr₂ with
      | .error e, hr₂ => exact hr₂
      | .ok .next, hr₂ => exact hr₂.elim
      | .ok .brk, hr₂ => exact hr₂.elim
      | .ok .cont, hr₂ => exact hr₂.elim
      | .ok (.ret r), hr₂ =>
        obtain ⟨rfl, h', tk, rfl, hS', hk'⟩ := hr₂
        repeat (any_goals (first | assumption | wp_step))
        exact h _ _ hS' hk'
end
/-! ### len(set(xs)), xs a tuple of texts -/
def distS (xs : List Str) : Nat := (xs.foldl step_dedup []).length
theorem met_list (xs : List Str) : metK (fun i => xs.getD i Str.empty) xs.length = xs.foldl step_dedup [] := by
  unfold metK
  congr 1
  apply List.ext_getElem
  · simp
  · intro i h1 h2
    simp [List.getD, List.getElem?_eq_getElem h2]
theorem fold_len : ∀ (xs l : List Str), (xs.foldl step_dedup l).length ≤ l.length + xs.length
  | [], l => by simp
  | x :: xs, l => by
    have ih := fold_len xs (step_dedup l x)
    have e := dedup_len l x
    rw [List.foldl_cons, List.length_cons]
    split at e <;> omega
theorem fold_new : ∀ (xs l : List Str), (xs.foldl step_dedup l).length = l.length + xs.length ↔ (xs.Nodup ∧ ∀ x ∈ xs, x ∉ l)
  | [], l => by simp
  | x :: xs, l => by
    have ih := fold_new xs (step_dedup l x)
    have e := dedup_len l x
    have le := fold_len xs (step_dedup l x)
    rw [List.foldl_cons, List.length_cons]
    by_cases c : l.any (· == x) = true
    · rw [if_pos c] at e
      obtain ⟨y, hy, h⟩ := List.any_eq_true.mp c
      have h : y = x := by simpa using h
      subst h
      constructor
      · intro z; omega
      · intro z
        exact absurd hy (z.2 y (List.mem_cons_self ..))
    · rw [if_neg c] at e
      have nx : x ∉ l := fun h => c (List.any_eq_true.mpr ⟨x, h, by simp⟩)
      have mem : ∀ y, y ∈ step_dedup l x ↔ (y ∈ l ∨ y = x) := fun y => by
        unfold step_dedup
        rw [if_neg c]
        simp
      rw [show l.length + (xs.length + 1) = (step_dedup l x).length + xs.length by omega, ih, List.nodup_cons]
      constructor
      · rintro ⟨h1, h2⟩
        refine ⟨⟨fun h => (h2 x h) ((mem x).mpr (.inr rfl)), h1⟩, fun y hy hl => ?_⟩
        rcases List.mem_cons.mp hy with rfl | hy
        · exact nx hl
        · exact h2 y hy ((mem y).mpr (.inl hl))
      · rintro ⟨⟨h1, h2⟩, h3⟩
        refine ⟨h2, fun y hy hl => ?_⟩
        rcases (mem y).mp hl with hl | rfl
        · exact h3 y (List.mem_cons_of_mem _ hy) hl
        · exact h1 hy
theorem distS_le {xs : List Str} : distS xs ≤ xs.length := by
  have := fold_len xs []
  unfold distS
  simpa using this
theorem distS_nodup {xs : List Str} : distS xs = xs.length ↔ xs.Nodup := by
  have := fold_new xs []
  unfold distS
  simpa using this
def unSt : D → Option (List Str)
  | .tup ds => unStL ds
  | _ => none
where unStL : List D → Option (List Str)
  | [] => some []
  | .str x :: ds => (unStL ds).map (x :: ·)
  | _ :: _ => none
def tLenS2 (K : PySem.W.Frag) (ta : TE) : TE := fun σ H Q => ta σ H fun x H1 => ∃ l, ∃ xs : List Str, x = .ref l ∧ SqT K H1 l (xs.map V.str) ∧ xs.length ≤ 4000 ∧ Q (.int (distS xs)) H1
section
variable {X : Cx}
theorem pe_lenS2 {a : Expr} {ta : TE} {p p2 q pos : Pos} (hc : X.calm = true) (hg : Gl X "len") (hm : X.mg "len" = none) (hg2 : Gl X "set") (hm2 : X.mg "set" = none) (ha : PE X a ta)
    (na : starEach [a] X.env = (false, eval a X.env) :: starEach [] X.env := by rfl) : PE X (.Call (.Name "len" p) [.Call (.Name "set" p2) [a] [] q] [] pos) (tLenS2 X.K ta) := by
  refine ⟨fun pins s σ H Q I h => ?_⟩
  refine Call_ (ld_blt I hg hm boot_len ?_)
  refine PyProof.Rows.callWith_builtin1 (PyProof.Rows.args_cons ?_ rfl) rfl rfl
  refine Call_ (ld_blt I hg2 hm2 boot_set ?_)
  refine PyProof.Rows.callWith_type1 (PyProof.Rows.args_cons (thn (ha.run pins s σ H _ I h) fun v s1 ⟨x, H1, I1, r1, q1⟩ => PyProof.Rows.args_nil ?_) na) na rfl
  obtain ⟨l, xs, rfl, hq, h1, q1⟩ := q1
  cases r1
  obtain ⟨its, r, pl, hz⟩ := I1.tuple hq
  have hl : its.toArray.size = xs.length := by rw [List.size_toArray, ← r.length, List.length_map]
  have sa : StrsAre its.toArray.toList xs := by simpa using strsAre_of r
  refine call_setK (PySem.strKind X.prog X.w) (fun k v hv => ?_) (fun i => xs.getD i Str.empty) (I1.ok.hd hc) pl (fun i v hv => ?_) (by rw [hl]; unfold scanBound; omega) fun h' tk hS hk => ?_
  · obtain ⟨t, rfl⟩ := Value.isStrOf_shape hv
    rfl
  · obtain ⟨t, rfl⟩ := SS.strs_at sa i v (by rw [Array.getElem?_toList]; exact hv)
    exact strKind_is _ _ _ _
  · refine PyProof.Rows.args_nil ?_
    rw [hl, met_list] at hS
    obtain ⟨o, es, ep, t, ho, hex, hd, _, _, _, hf, hn⟩ := hS
    have I2 : Inv X pins σ H1 { s1 with heap := h', toks := tk } := I1.kept fun b o e => hk b o (Heap.lt_size e) e
    have hn' : es.size = distS xs := hn
    have := distS_le (xs := xs)
    exact call_len_set ho hex hd hf (by rw [hn'] <;> omega) ⟨.int (distS xs), H1, I2.tok _, ⟨_, by rw [hn']⟩, q1⟩
end
def fLenSet2 (F : DL.Env → Out D) : DL.Env → Out D := fun ρ => (F ρ).bind fun a ρ1 => match unSt a with
  | some xs => if xs.length ≤ 4000 then .ok (.int (distS xs : Nat)) ρ1 true else .no
  | none => .no
section
variable {K : PySem.W.Frag} {B : By} {W : WX} {G : Hp}
theorem unStL_is : ∀ {ds : List D} {vs : List V} {xs : List Str}, IsAll K G vs ds → unSt.unStL ds = some xs → vs = xs.map V.str
  | [], _, _, .nil, e => by cases e; rfl
  | d :: ds, _, xs, .cons a i, e => by
    cases d <;> first
      | (cases e; done)
      | skip
    rename_i x
    unfold unSt.unStL at e
    cases z : unSt.unStL ds with
    | none => rw [z] at e; cases e
    | some ys =>
      rw [z] at e
      cases e
      rw [unStL_is i z]
      cases a
      rfl
theorem sat_lenS2 {t : TE} {F : DL.Env → Out D} (h : Sat K B W (IsR K) t F) : Sat K B W (IsR K) (tLenS2 K t) (fLenSet2 F) :=
  Sat.bind (R' := IsR K) (Fu := fun a ρ1 => match unSt a with | some xs => if xs.length ≤ 4000 then .ok (.int (distS xs : Nat)) ρ1 true else .no | none => .no) (t := t) (u := fun x σ H Q => ∃ l, ∃ xs : List Str, x = .ref l ∧ SqT K H l (xs.map V.str) ∧ xs.length ≤ 4000 ∧ Q (.int (distS xs)) H) h fun b Hs ωs G H ω σ ρ rel x a i Q post => by
    cases e : unSt a with
    | none => rw [e] at post; exact post.elim
    | some xs =>
      rw [e] at post
      dsimp only at post
      split at post
      · rename_i hz
        cases i with
        | tup hs ha =>
          have ev := unStL_is ha e
          subst ev
          exact ⟨_, xs, rfl, sq_tup rel.le hs, hz, Post.now rel post (.int _)⟩
        | _ => cases e
      · exact post.elim
end
section
variable {X : Cx} {B : By} {W : WX} {a : Expr} {ta : TE} {Fa : DL.Env → Out D} {p p2 q pos : Pos}
theorem d_lenSet2 (hc : X.calm = true) (hg : Gl X "len") (hm : X.mg "len" = none) (hg2 : Gl X "set") (hm2 : X.mg "set" = none) (ha : DE X B W a ta Fa)
    (na : starEach [a] X.env = (false, eval a X.env) :: starEach [] X.env := by rfl) : DE X B W (.Call (.Name "len" p) [.Call (.Name "set" p2) [a] [] q] [] pos) (tLenS2 X.K ta) (fLenSet2 Fa) := ⟨pe_lenS2 hc hg hm hg2 hm2 ha.pe na, sat_lenS2 ha.sat⟩
end
@[simp] theorem fLenSet2_ap {ρ : DL.Env} {F : DL.Env → Out D} : fLenSet2 F ρ = (F ρ).bind fun a ρ1 => match unSt a with
  | some xs => if xs.length ≤ 4000 then .ok (.int (distS xs : Nat)) ρ1 true else .no
  | none => .no := (rfl)
theorem unSt_map : ∀ {xs : List Str}, unSt (.tup (xs.map D.str)) = some xs
  | [] => rfl
  | x :: xs => by
    show (unSt.unStL (xs.map D.str)).map (x :: ·) = _
    have e : unSt.unStL (xs.map D.str) = some xs := @unSt_map xs
    rw [e]
    rfl
end DL
set_option Elab.async false
set_option linter.all false
set_option maxRecDepth 100000
set_option maxHeartbeats 4000000
/-! DLJ: del self.f[-n:] -/
namespace DL
open PySem PySem.Spec PyProof.Rows L2
/-- what a slice of step one picks -/
def selW (start stop step : Int) (i : Nat) : Bool :=
  if step > 0 then start ≤ i && i < stop && (i - start) % step == 0
  else stop < i && i ≤ start && (start - i) % (-step) == 0
theorem keep_front {α : Type} (a n : Nat) : ∀ (xs : List α) (m : Nat), m + xs.length = n → a ≤ n → ((xs.zipIdx m).filterMap fun (x, k) => if selW a n 1 k then none else some x) = xs.take (a - m)
  | [], m, _, _ => by simp
  | x :: xs, m, h, ha => by
    rw [List.length_cons] at h
    have ih := keep_front a n xs (m + 1) (by omega) ha
    rw [List.zipIdx_cons, List.filterMap_cons]
    have e : selW a n 1 m = decide (a ≤ m) := by
      unfold selW
      rw [if_pos (by decide)]
      have h1 : decide ((m : Int) < (n : Int)) = true := decide_eq_true (by omega)
      have h2 : (((m : Int) - (a : Int)) % 1 == 0) = true := by rw [Int.emod_one]; rfl
      rw [h1, h2, Bool.and_true, Bool.and_true]
      by_cases c : a ≤ m
      · rw [decide_eq_true c]; exact decide_eq_true (by omega)
      · rw [decide_eq_false c]; exact decide_eq_false (by omega)
    by_cases c : a ≤ m
    · rw [decide_eq_true c] at e
      simp only [e, if_true, ih]
      rw [show a - m = 0 by omega, show a - (m + 1) = 0 by omega, List.take_zero, List.take_zero]
    · rw [decide_eq_false c] at e
      simp only [e, Bool.false_eq_true, if_false, ih]
      rw [show a - m = (a - (m + 1)) + 1 by omega, List.take_succ_cons]
theorem bounds_back {k n : Nat} (h0 : 0 < k) (h : k ≤ n) : sliceBounds (some (-(k : Int))) none none n = (((n - k : Nat) : Int), (n : Int), 1) := by
  simp only [sliceBounds, Option.getD_none]
  have h1 : (-(k : Int)) < 0 := by omega
  simp only [h1, if_true, show (1 : Int) > 0 by decide]
  congr 1
  omega
section
variable {prog : Program} {w : World} {A : Around} {E : Value → Shared → Prop} {s : Shared}
set_option maxRecDepth 100000 in
theorem delItem_back {l sl : Addr} {items : Array Value} {n : Nat} {vl : Value} {k : Nat} {Q : Unit → Shared → Prop}
    (e : s.heap.get? l = some { cls := .type "list", data := .seq items n }) (hs : s.heap.IsSliceOf sl vl .none .none) (pl : IsPart vl (some (-(k : Int)))) (h0 : 0 < k) (hk : k ≤ items.size) (hsz : items.size ≤ sizeLine)
    (h : ∀ f : Array Value → Array Value, f items = (items.toList.take (items.size - k)).toArray → Q () { s with heap := s.heap.update l (Obj.mapSeq f) }) :
    wpAny (model prog w) A (delItem (.ref l) (.ref sl)) Q E s := by
  have hl : s.heap.IsList l items := PySem.IsL.isList e
  obtain ⟨os, hos, hcs, hds⟩ := id hs
  have hTs : s.TypeIs (.ref sl) "slice" := ⟨os, hos, hcs⟩
  have hstep : ¬ ((rawPart none == rawInt 0) = true) := Bool.false_ne_true
  have hf : (fun xs : Array Value => (xs.toList.zipIdx.filterMap fun (x, i) => if selW ((items.size - k : Nat) : Int) (items.size : Int) 1 i then none else some x).toArray) items = (items.toList.take (items.size - k)).toArray := by
    have := keep_front (items.size - k) items.size items.toList 0 (by rw [Array.length_toList]; omega) (by omega)
    exact congrArg List.toArray this
  have hz' : ((fun xs : Array Value => (xs.toList.zipIdx.filterMap fun (x, i) => if selW ((items.size - k : Nat) : Int) (items.size : Int) 1 i then none else some x).toArray) items).size ≤ sizeLine + 1 := by
    rw [hf, List.size_toArray, List.length_take, Array.length_toList]
    omega
  refine wpAny_delItem_slot hl.typeIs (by decide) PySem.F.slot_list_delitem (wpAny_call_entry PySem.F.slot_list_delitem hl.typeIs PySem.F.entry_list_delitem ?_ (PySem.F.args_list_delitem_2 _ _))
  show wpAny _ _ (Builtin.List.listSubscript? (.ref sl) >>= _) _ _ s
  refine wpAny_bind ?_
  unfold Builtin.List.listSubscript?
  refine wpAny_bind (wpAny_specialOf hTs slice_no_index ?_)
  simp only [Option.isNone_none, if_true]
  refine wpAny_pure ?_
  show wpAny _ _ (typeOf (.ref sl) >>= _) _ _ s
  refine wpAny_bind (wpAny_typeOf hTs ?_)
  rw [if_neg (by decide)]
  rw [listSliceParts_eq]
  refine wpAny_bind (wpAny_bind (wpAny_field hos hds (x := .none) rfl (wpAny_bind (wpAny_listPart .none ?_))))
  rw [if_neg hstep]
  refine wpAny_bind (wpAny_field hos hds (x := vl) rfl (wpAny_bind (wpAny_listPart pl ?_)))
  refine wpAny_bind (wpAny_field hos hds (x := .none) rfl (wpAny_bind (wpAny_listPart .none (wpAny_pure ?_))))
  unfold Builtin.List.listItems
  refine wpAny_bind (wpAny_bind (wpAny_seqItems e rfl (wpAny_pure ?_)))
  refine wpAny_bind (wpAny_of_eq ((sliceIndices_raw (some (-(k : Int))) none none items.size (by simp)).trans (congrArg (pure : Int × Int × Int → Sem (Int × Int × Int)) (bounds_back h0 hk))) ?_)
  refine wpAny_bind (wpAny_rule ?_)
  show wpAny _ _ (updateSeq l (fun xs => (xs.toList.zipIdx.filterMap fun (x, i) => if selW ((items.size - k : Nat) : Int) (items.size : Int) 1 i then none else some x).toArray) >>= _) _ _ s
  refine wpAny_bind (wpAny_updateSeq (hz := hsz) (_hz' := hz') e rfl ?_)
  refine wpAny_bind (wpAny_letGo ?_)
  exact wpAny_pure ⟨_, rfl, h _ hf⟩
end
section
variable {X : Cx}
theorem del_back {pins : List (Addr × Obj)} {s : Shared} {σ : L2.St} {H : Hp} {l sl : Addr} {xs : List V} {k : Nat} {vl : Value} {Q : Unit → Shared → Prop} (I : Inv X pins σ H s) (hH : H l = some (.lst xs))
    (hs : s.heap.IsSliceOf sl vl .none .none) (pl : IsPart vl (some (-(k : Int)))) (h0 : 0 < k) (hk : k ≤ xs.length) (h : ∀ s', Inv X pins σ (upd H l (.lst (xs.take (xs.length - k)))) s' → Q () s') :
    wpAny (model X.prog X.w) X.A (delItem (.ref l) (.ref sl)) Q X.xe s := by
  obtain ⟨z, its, n, r, hl, e⟩ := I.lstM hH
  refine delItem_back (k := k) e hs pl h0 (by rw [List.size_toArray, ← hl]; exact hk) (by rw [List.size_toArray]; omega) fun f hf => h _ ?_
  rw [List.size_toArray, ← hl] at hf
  refine I.lset (its' := its.take (xs.length - k)) (t' := s.toks) hH e ?_ (r.take _) ?_
  · exact hf
  · rw [List.length_take]
    omega
/-- del xs[lo:], lo so many from the end -/
def tDelSl (to : TE) (tl : TO) : TS := fun D σ H => to σ H fun x H1 => tl σ H1 fun lo H2 => ∃ (l : Addr) (xs : List V) (k : Nat), x = .ref l ∧ lo = some (-(k : Int)) ∧ 0 < k ∧ k ≤ xs.length ∧ H2 l = some (.lst xs) ∧ D.nx σ (upd H2 l (.lst (xs.take (xs.length - k))))
theorem ps_delSl {o : Expr} {lo : Option Expr} {to : TE} {tl : TO} {tpos p2 pos : Pos} (ho : PE X o to) (hl : PO X lo tl) : PS X (.Delete [.Subscript o (.Slice lo none none p2) tpos] pos) (tDelSl to tl) := by
  refine ⟨fun pins s σ H D I h => ?_⟩
  refine wpAny_Delete (wpAny_deleteEach_cons (wpAny_delete_Subscript (thn (ho.run pins s σ H _ I h) fun u s1 ⟨x, H1, I1, rx, q1⟩ => ?_)))
  refine wpAny_Slice (thn (hl.run pins s1 σ H1 _ I1 q1) fun vl s2 ⟨lo, H2, I2, pl, q2⟩ => ?_)
  rw [evalPart_none]
  refine wpAny_pure (wpAny_pure ?_)
  obtain ⟨l, xs, k, ex, el, h0, hk, hH, q2⟩ := q2
  subst ex
  subst el
  cases (show u = Value.ref l from rx)
  have I4 : Inv X pins σ H2 { s2 with heap := s2.heap.push { cls := .type "slice", data := .fields #[vl, .none, .none] } } := I2.kept (t' := s2.toks) fun b ob q => Heap.get?_push_of_some _ q
  exact del_back I4 hH (Heap.IsSliceOf.new ..) pl h0 hk fun s3 I3 => wpAny_deleteEach_nil ⟨σ, _, I3, q2⟩
end
def sDelF (j : Nat) (f : Str) (cs : List String) (L : Opt) : DL.Env → SOut := fun ρ => match fldL ρ j f cs with
  | some _ => (match L ρ with
    | .ok (some i) ρ1 true => (match fldL ρ1 j f cs with
      | some ds => if i < 0 ∧ 0 ≤ i + ds.length then .nx (setL ρ1 j f (ds.take (i + ds.length).toNat)) else .no
      | none => .no)
    | .ex c ρ1 => .ex c ρ1
    | _ => .no)
  | none => .no
section
variable {K : PySem.W.Frag} {B : By} {W : WX} {f : Str} {cs : List String}
theorem ss_delF {j : Nat} {tl : TO} {L : Opt} (hf : Fl K f cs) (hl : Sat K B W (EqR (Option Int)) tl L) : SatS K B W (tDelSl (tFld K (tVar j) f) tl) (sDelF j f cs L) := by
  intro b G H ω σ ρ rel Dn post
  unfold sDelF at post
  split at post
  · rename_i ds0 e0
    obtain ⟨a, C, dx, fs, l, xs, h1, h2, h3, h4, h5, h6, h7, _, _⟩ := fldL_at hf rel e0
    refine ⟨.ref a, h1, a, C, dx, fs, .ref l, rfl, h2, h3, h4, h5, ?_⟩
    refine hl b G H ω σ ρ rel _ ?_
    split at post
    · rename_i i ρ1 e1
      rw [e1]
      intro x G1 H1 ω1 rel1 t1 q1 i1
      obtain ⟨w1, p1⟩ := q1 rfl
      cases i1
      split at post
      · rename_i ds e2
        obtain ⟨a', C', dx', fs', l', xs', k1, k2, k3, k4, k5, k6, k7, k8, k9⟩ := fldL_at hf rel1 e2
        rw [h1] at k1
        cases k1
        rw [p1 a _ h2] at k2
        cases k2
        rw [h5] at k5
        cases k5
        split at post
        · rename_i hz
          have ln := k8.length
          refine ⟨l, xs', (-i).toNat, rfl, by congr 1; omega, by omega, by omega, k7, ?_⟩
          rw [show xs'.length - (-i).toNat = (i + ds.length).toNat by omega]
          exact post σ G1 _ ω1 (k9 _ _ (k8.take _)) (t1.trans (tr_upd k6))
        · exact post.elim
      · exact post.elim
    · rename_i c ρ1 e1
      rw [e1]
      exact fun cls dd G' H' ω' r s i => post cls dd σ G' H' ω' r s i
    · exact post.elim
  · exact post.elim
end
section
variable {X : Cx} {B : By} {W : WX} {f : Str} {cs : List String} {o : Expr} {lo : Option Expr} {tl : TO} {L : Opt} {tpos p2 pos : Pos}
theorem ds_delF (j : Nat) (hf : Fl X.K f cs) (ho : PE X o (tFld X.K (tVar j) f)) (hl : DP X B W lo tl L) : DS X B W (.Delete [.Subscript o (.Slice lo none none p2) tpos] pos) (tDelSl (tFld X.K (tVar j) f) tl) (sDelF j f cs L) := ⟨ps_delSl ho hl.po, ss_delF hf hl.sat⟩
end
/-! ### how it is told -/
def delR (ρ1 : DL.Env) (j : Nat) (f : Str) (i : Int) : Option (List D) → SOut
  | some ds => if i < 0 ∧ 0 ≤ i + ds.length then .nx (setL ρ1 j f (ds.take (i + ds.length).toNat)) else .no
  | none => .no
end DL
set_option Elab.async false
set_option linter.all false
set_option maxRecDepth 100000
set_option maxHeartbeats 4000000
/-! DLK: s.upper(), list(range(n)) -/
namespace DL
open PySem PySem.Spec PyProof.Rows L2
/-- s.upper() -/
def upD : D → Res
  | .str a => if a.length ≤ 5592405 then .val (.str (Txt.upper a)) else .no
  | _ => .no
theorem up_v {K : PySem.W.Frag} : UnV K (fun x H Q => (∃ a : Str, x = .str a) ∧ ∃ a : Str, x = .str a ∧ ([] : List V) = [] ∧ a.length ≤ 5592405 ∧ Q (.str (Txt.upper a)) H) upD := by
  intro G H x d le i Q post
  cases i <;> first
    | exact post.elim
    | skip
  rename_i a
  have post' : PostR K G H Q (if a.length ≤ 5592405 then .val (.str (Txt.upper a)) else .no) := post
  split at post'
  · rename_i hz
    exact ⟨⟨a, rfl⟩, a, rfl, rfl, hz, post'.here le (.str _)⟩
  · exact post'.elim
section
variable {X : Cx} {B : By} {W : WX} {o : Expr} {to : TE} {Fo : DL.Env → Out D} {apos pos : Pos}
theorem d_upper (ho : DE X B W o to Fo) (hbase : attributeBase o "upper" X.env (eval o X.env) = eval o X.env := by rfl) (hline : (apos.endLine == pos.line) = true := by rfl) :
    DE X B W (.Call (.Attribute o "upper" apos) [] [] pos) (tOfE X.K B W (IsR X.K) (fUn upD Fo)) (fUn upD Fo) := DE.can ⟨_, pe_upper ho.pe hbase hline, sat_un up_v ho.sat⟩
end
/-- list(range(n)) -/
def rgLD : D → Res
  | .int n => if 0 ≤ n ∧ n ≤ 16777216 then .new (rngD 0 n.toNat) else .no
  | _ => .no
def fUnO (g : D → Res) (Fa : DL.Env → Out D) : DL.Env → Out D := fun ρ => (Fa ρ).bind fun a ρ1 => resO (g a) ρ1
theorem sat_unO {K : PySem.W.Frag} {B : By} {W : WX} {ta : TE} {Fa : DL.Env → Out D} {r : V → Hp → VK → Prop} {g : D → Res} (hr : UnV K r g) (ha : Sat K B W (IsR K) ta Fa) : Sat K B W (OwnR K) (tUn r ta) (fUnO g Fa) :=
  Sat.bind (R' := OwnR K) (Fu := fun a ρ1 => resO (g a) ρ1) (t := ta) (u := fun x σ H Q => r x H Q) ha fun b Hs ωs G H ω σ ρ rel x a i Q post => hr G H x a rel.le i Q (res_o rel post)
theorem is_rg {K : PySem.W.Frag} {G : Hp} {f : Nat → Int} : ∀ (l : List Nat), IsAll K G (l.map fun i => V.int (f i)) (l.map fun i => D.int (f i))
  | [] => .nil
  | n :: r => .cons (.int _) (is_rg r)
theorem rg_v {K : PySem.W.Frag} : UnV K (fun x H Q => ∃ n, x = .int n ∧ RgOk 0 n ∧ ∀ q, H q = none → Q (.ref q) (upd H q (.lst (rgV 0 n)))) rgLD := by
  intro G H x d le i Q post
  cases i <;> first
    | exact post.elim
    | skip
  rename_i n
  have post' : PostR K G H Q (if 0 ≤ n ∧ n ≤ 16777216 then .new (rngD 0 n.toNat) else .no) := post
  split at post'
  · rename_i hz
    refine ⟨n, rfl, RgOk.of_le (by decide) hz.2 (by decide) hz.1, fun q hq => post' q (rgV 0 n) hq ?_⟩
    unfold rgV rngD
    rw [show (n - 0).toNat = n.toNat by omega]
    exact is_rg (List.range n.toNat)
  · exact post'.elim
section
variable {X : Cx} {B : By} {W : WX} {a : Expr} {ta : TE} {Fa : DL.Env → Out D} {p p2 pos pos2 : Pos}
theorem o_lrg (hc : X.calm = true) (hg : Gl X "list") (hm : X.mg "list" = none) (hg2 : Gl X "range") (hm2 : X.mg "range" = none) (ha : DE X B W a ta Fa) (na : starEach [a] X.env = (false, eval a X.env) :: starEach [] X.env := by rfl)
    (nb : starEach [.Call (.Name "range" p2) [a] [] pos2] X.env = (false, eval (.Call (.Name "range" p2) [a] [] pos2) X.env) :: starEach [] X.env := by rfl) :
    DO X B W (.Call (.Name "list" p) [.Call (.Name "range" p2) [a] [] pos2] [] pos) (tUn (fun x H Q => ∃ n, x = .int n ∧ RgOk 0 n ∧ ∀ q, H q = none → Q (.ref q) (upd H q (.lst (rgV 0 n)))) ta) (fUnO rgLD Fa) :=
  ⟨⟨fun pins s σ H Q I h => (pe_listRg hc hg hm (prg_1 hg2 hm2 ha.pe na) nb).run pins s σ H Q I (by
      have e : tLstRg (tRg1 ta) σ H Q = ta σ H fun x H1 => ∃ n, x = .int n ∧ RgOk 0 n ∧ ∀ q, H1 q = none → Q (.ref q) (upd H1 q (.lst (rgV 0 n))) := rfl
      rw [e]; exact h)⟩, sat_unO rg_v ha.sat⟩
end
/-! ### a, b = x, y: new lists, or what else is owned -/
def sParO (B : List Nat) (i j : Nat) (F1 F2 : DL.Env → Out D) : DL.Env → SOut := fun ρ => (F1 ρ).s fun a ρ1 => (F2 ρ1).s fun c ρ2 => if i ∈ B ∨ j ∈ B ∨ i = j then .no else .nx ((ρ2.set i (some a)).set j (some c))
theorem own_after {K : PySem.W.Frag} {b : Bs} {Hs G H G' H' : Hp} {ωs ω ω' : Lb} {v : V} {d : D} (o : OwnR K b Hs ωs G H ω v d) (t : Tr G H ω G' H' ω') : OwnR K b Hs ωs G' H' ω' v d := by
  obtain ⟨ωt, T, o⟩ := o
  have same : ∀ a, ωt a ≠ none → H' a = H a ∧ ω' a = none := fun a h => by
    obtain ⟨h1, h2, ⟨u, e, m⟩, h4, h5⟩ := T.at' a h
    obtain ⟨k1, k2⟩ := t.keep a u h1 e
    exact ⟨by rw [k1, e], k2⟩
  refine ⟨ωt, ⟨fun a h => ?_⟩, o.go t.g fun a p q => ⟨q, (same a (by rw [q]; simp)).1⟩⟩
  obtain ⟨h1, h2, ⟨u, e, m⟩, h4, h5⟩ := T.at' a h
  obtain ⟨e1, e2⟩ := same a h
  exact ⟨e2, t.hid a h1 (by rw [e]; simp) h2, ⟨u, by rw [e1, e], m⟩, h4, h5⟩
theorem ss_parO {K : PySem.W.Frag} {B : By} {W : WX} {i j : Nat} {t1 t2 : TE} {F1 F2 : DL.Env → Out D} (h1 : Sat K B W (OwnR K) t1 F1) (h2 : Sat K B W (OwnR K) t2 F2) : SatS K B W (tPar i j (tCons t1 (tCons t2 tNil))) (sParO B.l i j F1 F2) := fun b G H ω σ ρ rel Dn post =>
  h1.s rel post fun G1 H1 ω1 ρ1 v a r1 s1 o1 p1 => by
    refine h2 b G1 H1 ω1 σ ρ1 r1 _ ?_
    unfold Out.s at p1
    cases e : F2 ρ1 with
    | no => rw [e] at p1; exact p1
    | ex c ρ2 => rw [e] at p1; exact fun cls dd G' H' ω' r s i => p1 cls dd σ G' H' ω' r (s1.trans s) i
    | ok c ρ2 q =>
      rw [e] at p1
      intro w G2 H2 ω2 r2 s2 _ o2
      dsimp only at p1
      split at p1
      · exact p1.elim
      · rename_i hz
        obtain ⟨ω3, r3, t3⟩ := r2.set s2 (fun z => hz (.inr (.inl z))) o2
        obtain ⟨ω4, r4, t4⟩ := r3.set (s1.trans t3) (fun z => hz (.inl z)) (own_after o1 t3)
        have ij : j ≠ i := fun z => hz (.inr (.inr z.symm))
        rw [List.set_comm _ _ ij, List.set_comm _ _ ij] at r4
        exact ⟨_, _, rfl, p1 _ G2 H2 ω4 r4 t4⟩
theorem ds_parO {X : Cx} {B : By} {W : WX} {st : Stmt} (i j : Nat) {e1 e2 : Expr} {t1 t2 : TE} {F1 F2 : DL.Env → Out D} (h1 : DO X B W e1 t1 F1) (h2 : DO X B W e2 t2 F2) (mk : PA X [e1, e2] (tCons t1 (tCons t2 tNil)) → PS X st (tPar i j (tCons t1 (tCons t2 tNil))))
    (hs : starEach [e1, e2] X.env = (false, eval e1 X.env) :: starEach [e2] X.env := by rfl) (hs2 : starEach [e2] X.env = (false, eval e2 X.env) :: starEach [] X.env := by rfl) : DS X B W st (tPar i j (tCons t1 (tCons t2 tNil))) (sParO B.l i j F1 F2) := ⟨mk (pa_cons h1.pe (pa_cons h2.pe pa_nil hs2) hs), ss_parO h1.sat h2.sat⟩
/-! ### looks that make data: what is frozen behind a look, comprehensions that change nothing -/
def fFrzQ (F : DL.Env → Out D) : DL.Env → Out D := fun ρ => match F ρ with
  | .ok d ρ' q => .ok (frz d) ρ' q
  | .ex c ρ' => .ex c ρ'
  | .no => .no
theorem sat_frzQ {K : PySem.W.Frag} {B : By} {W : WX} {t : TE} {F : DL.Env → Out D} (h : Sat K B W (OwnR K) t F) : Sat K B W (IsR K) t (fFrzQ F) := by
  intro b G H ω σ ρ rel Q post
  refine h b G H ω σ ρ rel Q ?_
  unfold fFrzQ at post
  cases e : F ρ with
  | no => rw [e] at post; exact post
  | ex c ρ1 => rw [e] at post; exact post
  | ok d ρ1 q =>
    rw [e] at post
    rintro v G1 H1 ω1 rel1 s1 q1 ⟨ωt, T, o⟩
    have hG : ∀ a, ωt a ≠ none → G1 a = none := fun a h => (T.at' a h).2.1
    cases c : owned d with
    | true => exact post v (melt ωt 0 G1 H1) H1 ω1 (rel1.meltT T) (s1.meltT T) q1 (o.frozen hG)
    | false => exact post v G1 H1 ω1 rel1 s1 q1 (own_is o c).frz
theorem DO.zQ {X : Cx} {B : By} {W : WX} {e : Expr} {te : TE} {Fe : DL.Env → Out D} (h : DO X B W e te Fe) : DE X B W e te (fFrzQ Fe) := ⟨h.pe, sat_frzQ h.sat⟩
def lcQ (vs : List Nat) (g : D → DL.Env → Option DL.Env) (T : DL.Env → Out Bool) (Fe : DL.Env → Out D) : List D → List D → DL.Env → Out D
  | [], acc, ρ => .ok (.lst true acc) ρ true
  | d :: ds, acc, ρ => match g d ρ with
    | none => .no
    | some ρ1 => (match T ρ1 with
      | .ok k ρ2 true => if k = true then (match Fe ρ2 with
        | .ok e ρ3 true => if acc.length < sizeLine then lcQ vs g T Fe ds (acc ++ [e]) (wipeE ρ3 vs) else .no
        | _ => .no) else lcQ vs g T Fe ds acc (wipeE ρ2 vs)
      | _ => .no)
def fLcQ (vs : List Nat) (F : DL.Env → Out (List D)) (g : D → DL.Env → Option DL.Env) (T : DL.Env → Out Bool) (Fe : DL.Env → Out D) : DL.Env → Out D := fun ρ => (F ρ).bind fun ds ρ1 => lcQ vs g T Fe ds [] (wipeE ρ1 vs)
section
variable {K : PySem.W.Frag} {B : By} {W : WX} {b : Bs} {G H : Hp} {ω : Lb} {σ : L2.St} {ρ : DL.Env}
theorem Rel.setF (R : Rel K b B G H ω σ ρ) {i : Nat} (hi : i ∉ B.l) {v : V} {d : D} (h : Is K G v d) : Rel K b B G H ω (σ.set i (some v)) (ρ.set i (some d)) :=
  ⟨R.le, R.leG, R.old, R.dom, R.fr, R.own, R.bB, by rw [List.length_set, List.length_set]; exact R.len, fun j e hj => by
    rw [List.getElem?_set] at hj
    split at hj
    · rename_i c
      subst c
      split at hj
      · rename_i hl
        cases hj
        exact ⟨v, by rw [List.getElem?_set]; simp [R.len, hl], .frz h⟩
      · cases hj
    · rename_i c
      obtain ⟨u, h1, h2⟩ := R.slot j e hj
      exact ⟨u, by rw [List.getElem?_set_ne c]; exact h1, h2⟩, fun j hj => by
    have c : i ≠ j := fun z => hi (by rw [z]; exact hj)
    rw [List.getElem?_set_ne c]
    exact R.byr j hj, R.pin⟩
theorem same_aside {H0 H : Hp} (e : Same H0 H) {L : Addr} {o : HO} (h : H0 L = none) : Same H0 (L2.upd H L o) := fun a u q => by
  rw [upd_ne (fun z => by rw [z, h] at q; cases q)]
  exact e a u q
theorem sat_lcQ {wi : TI} {j : Nat} {tt : TT} {te : TE} {F : DL.Env → Out (List D)} {T : DL.Env → Out Bool} {Fe : DL.Env → Out D} {vs : List Nat} (hi : Sat K B W (YldR K) wi F) (hj : j ∈ vs)
    (ht : Sat K B W0 (EqR Bool) tt T) (he : Sat K B W0 (IsR K) te Fe) (hv : ∀ i ∈ vs, i ∉ B.l) : Sat K B W (OwnR K) (tLc wi (gName j) tt te vs) (fLcQ vs F (gN B.l j) T Fe) := by
  intro b G0 H0 ω0 σ ρ0 rel0 Q post0
  refine hi.at rel0 post0 fun G1 H1 ω1 ρ1 J ds rel1 s1 Y post1 => ?_
  intro L hL
  have oL : ω1 L = none := by
    cases q : ω1 L with
    | none => rfl
    | some l => exact absurd hL (rel1.own L l q).2.1.ne
  have gL : G1 L = none := same_none rel1.le hL
  have bL : b.H L = none := rel1.dom L hL
  refine ⟨fun i m H => m = ds.length - i ∧ i ≤ ds.length ∧ ∃ G ρ acc xs, Rel K b B G H ω1 σ ρ ∧ Bare vs ρ ∧ Tr G1 H1 ω1 G H ω1 ∧ Same H1 H ∧ G L = none ∧ H L = some (.lst xs) ∧ IsAll K G xs acc ∧
    Post K B W b G1 H1 ω1 σ (OwnR K) Q (lcQ vs (gN B.l j) T Fe (ds.drop i) acc ρ), ⟨_, rfl, Nat.zero_le _, G1, wipeE ρ1 vs, [], [], (rel1.aside oL gL bL).wipe hv rfl, bare_wipe, Tr.aside .refl hL, same_aside (Same.refl _) hL, gL, upd_same, .nil, post1⟩, ?_⟩
  rintro i m H ⟨rfl, hle, G, ρ, acc, xs, rel, hb, t, sm, gLw, hH, ia, post⟩
  by_cases hl : i < ds.length
  · refine .inr ⟨Y.go i G H t.g rel.le hl, fun H' => ∃ G ρ acc xs, Rel K b B G H' ω1 σ ρ ∧ Bare vs ρ ∧ Tr G1 H1 ω1 G H' ω1 ∧ Same H1 H' ∧ G L = none ∧ H' L = some (.lst xs) ∧ IsAll K G xs acc ∧
      Post K B W b G1 H1 ω1 σ (OwnR K) Q (lcQ vs (gN B.l j) T Fe (ds.drop (i + 1)) acc ρ), fun H' h => ⟨ds.length - (i + 1), by omega, rfl, hl, h⟩, fun x H' y => ?_⟩
    obtain ⟨d, hd, G2, st, le2, ix⟩ := Y.yld i G H x H' t.g rel.le hl y
    have e : ds.drop i = d :: ds.drop (i + 1) := by
      rw [List.drop_eq_getElem_cons hl]
      have z := hd
      rw [List.getElem?_eq_getElem hl] at z
      rw [Option.some.inj z]
    rw [e, lcQ] at post
    have h'L : H' L = some (.lst xs) := st.h _ _ hH
    have g2L : G2 L = none := st.hid L (by rw [hH]; simp) gLw
    have rel2 : Rel K b B G2 H' ω1 (L2.wipe σ vs) ρ := (rel.step st le2).bare hv wipe_wipe hb
    have t2 : Tr G1 H1 ω1 G2 H' ω1 := t.trans (.step st)
    have sm2 : Same H1 H' := sm.trans st.h
    have ia2 := ia.mono st.g
    have jB : j ∉ B.l := hv j hj
    have eg : gN B.l j d ρ = some (ρ.set j (some d)) := by
      unfold gN
      rw [if_neg jB]
    rw [eg] at post
    dsimp only at post
    have rel3 := rel2.setF jB ix
    have w3 : L2.wipe ((L2.wipe σ vs).set j (some x)) vs = L2.wipe σ vs := (wipe_set hj).trans wipe_wipe
    unfold gName
    refine ⟨w3, ?_⟩
    refine ht b G2 H' ω1 _ _ rel3 _ ?_
    cases eT : T (ρ.set j (some d)) with
    | no => rw [eT] at post; exact post.elim
    | ex c ρ4 => rw [eT] at post; exact post.elim
    | ok k ρ4 q4 =>
      rw [eT] at post
      cases q4 with
      | false => exact post.elim
      | true =>
      dsimp only at post
      intro k' G4 H4 ω4 rel4 t4 f4 ek
      subst ek
      obtain ⟨rfl, sm4⟩ := f4 rfl
      cases k' with
      | false =>
        rw [if_neg (by decide)] at post
        obtain ⟨k1, k2⟩ := t4.keep L _ oL h'L
        exact ⟨G4, wipeE ρ4 vs, acc, xs, rel4.wipe hv w3.symm, bare_wipe, t2.trans t4, sm2.trans sm4, t4.hid L oL (by rw [h'L]; simp) g2L, k1, ia2.mono t4.g, post⟩
      | true =>
        rw [if_pos rfl] at post
        refine he b G4 H4 ω4 _ ρ4 rel4 _ ?_
        cases eF : Fe ρ4 with
        | no => rw [eF] at post; exact post.elim
        | ex c ρ5 => rw [eF] at post; exact post.elim
        | ok e5 ρ5 q5 =>
          rw [eF] at post
          cases q5 with
          | false => exact post.elim
          | true =>
          dsimp only at post
          intro y5 G5 H5 ω5 rel5 t5 f5 iy
          obtain ⟨rfl, sm5⟩ := f5 rfl
          have t45 := t4.trans t5
          obtain ⟨k1, k2⟩ := t45.keep L _ oL h'L
          have g5L : G5 L = none := t45.hid L oL (by rw [h'L]; simp) g2L
          have ia5 := ia2.mono t45.g
          split at post
          · rename_i hz
            exact ⟨xs, k1, by rw [ia.length]; exact hz, G5, wipeE ρ5 vs, acc ++ [e5], xs ++ [y5], (rel5.aside oL g5L bL).wipe hv w3.symm, bare_wipe, Tr.aside (t2.trans t45) hL, same_aside ((sm2.trans sm4).trans sm5) hL, g5L, upd_same, ia5.append (.cons iy .nil), post⟩
          · exact post.elim
  · have e : i = ds.length := by omega
    subst e
    rw [List.drop_length, lcQ] at post
    refine .inl ⟨Y.stop _ G H t.g rel.le (Nat.le_refl _), ?_⟩
    refine post (.ref L) G H ω1 rel t (fun _ => ⟨rfl, sm⟩) ⟨fun a => if a = L then some (0, none) else none, ⟨fun a ha => ?_⟩, .one (.lst (by simp) hH ia)⟩
    by_cases c : a = L
    · subst c
      exact ⟨oL, gLw, ⟨_, hH, rfl⟩, bL, .inl hL⟩
    · simp [c] at ha
end
section
variable {X : Cx} {B : By} {W : WX} {elt iter : Expr} {x : Str} {px : Pos} {ifs : List Expr} {scope : Scope} {own : List (Str × Nat)} {pos : Pos} {wi : TI} {F : DL.Env → Out (List D)} {T : DL.Env → Out Bool} {Fe : DL.Env → Out D}
theorem o_lcQx (j : Nat) (hc : X.calm = true) (hN : X.N.Nodup) (hi : DI X B W (.Name x px) iter wi F) (ok : BlkOk X.N X.env.scope scope own)
    (hg : ∀ (s : Shared) (H : Hp) (C : Addr) (cl : List (Str × Addr)) (fp : List Addr), DK (X.blk s H scope (compEnvC scope cl C X.env) fp) B (own.map (·.2)) (.Name x px) (gName j) (gN B.l j))
    (ht : ∀ (s : Shared) (H : Hp) (C : Addr) (cl : List (Str × Addr)) (fp : List Addr), ∃ tt, DTs (X.blk s H scope (compEnvC scope cl C X.env) fp) B ifs tt T)
    (he : ∀ (s : Shared) (H : Hp) (C : Addr) (cl : List (Str × Addr)) (fp : List Addr), ∃ te, DE (X.blk s H scope (compEnvC scope cl C X.env) fp) B W0 elt te Fe)
    (hj : j ∈ own.map (·.2) := by decide) (hv : ∀ i ∈ own.map (·.2), i ∉ B.l := by decide) (hs : ∀ x, foldedSetIterable iter X.env x = pure x := by intro _; rfl) :
    DO X B W (.ListComp elt [⟨.Name x px, iter, ifs, 0⟩] scope pos) (tLc wi (gName j) (tOfE X.K B W0 (EqR Bool) T) (tOfE X.K B W0 (IsR X.K) Fe) (own.map (·.2))) (fLcQ (own.map (·.2)) F (gN B.l j) T Fe) :=
  ⟨(o_lcx (gName j) hc hN hi ok hg ht he hv hs).pe, sat_lcQ hi.sat hj (DTs.can (ht X.s_0 X.H_0 0 [] [])).sat (DE.can (he X.s_0 X.H_0 0 [] [])).sat hv⟩
end
/-! ### plain -/
section
variable {ρ : DL.Env} {a : Str} {n : Int} {Fa : DL.Env → Out D} {g : D → Res}
@[simp] theorem fUnO_ap : fUnO g Fa ρ = (Fa ρ).bind fun a ρ1 => resO (g a) ρ1 := (rfl)
@[simp] theorem sParO_ap {B : List Nat} {i j : Nat} {F1 F2 : DL.Env → Out D} : sParO B i j F1 F2 ρ = (F1 ρ).s fun a ρ1 => (F2 ρ1).s fun c ρ2 => if i ∈ B ∨ j ∈ B ∨ i = j then .no else .nx ((ρ2.set i (some a)).set j (some c)) := (rfl)
@[simp] theorem fLcQ_ap {vs : List Nat} {F : DL.Env → Out (List D)} {g : D → DL.Env → Option DL.Env} {T : DL.Env → Out Bool} {Fe : DL.Env → Out D} : fLcQ vs F g T Fe ρ = (F ρ).bind fun ds ρ1 => lcQ vs g T Fe ds [] (wipeE ρ1 vs) := (rfl)
@[simp] theorem fFrzQ_ok {F : DL.Env → Out D} {d : D} {ρ1 : DL.Env} {q : Bool} (h : F ρ = .ok d ρ1 q) : fFrzQ F ρ = .ok (frz d) ρ1 q := by unfold fFrzQ; rw [h]
theorem lcQ_enc {β γ : Type} {vs : List Nat} {g : D → DL.Env → Option DL.Env} {T : DL.Env → Out Bool} {Fe : DL.Env → Out D} (enc : β → D) (p : β → Bool) (f : β → D) (l : List β) (acc : List D) (hl : acc.length + l.length ≤ sizeLine)
    (h : ∀ b ∈ l, ∃ ρ1 ρ2, g (enc b) ρ = some ρ1 ∧ T ρ1 = .ok (p b) ρ2 true ∧ (p b = true → ∃ ρ3, Fe ρ2 = .ok (f b) ρ3 true ∧ wipeE ρ3 vs = ρ) ∧ (p b = false → wipeE ρ2 vs = ρ)) :
    lcQ vs g T Fe (l.map enc) acc ρ = .ok (.lst true (acc ++ (l.filter p).map f)) ρ true := by
  induction l generalizing acc with
  | nil => simp [lcQ]
  | cons b l ih =>
    obtain ⟨ρ1, ρ2, e1, e2, e3, e4⟩ := h b (List.mem_cons_self ..)
    rw [List.length_cons] at hl
    have h' : ∀ e ∈ l, _ := fun e he => h e (List.mem_cons_of_mem _ he)
    rw [List.map_cons]
    unfold lcQ
    rw [e1]
    dsimp only
    rw [e2]
    cases hp : p b with
    | true =>
      obtain ⟨ρ3, e5, e6⟩ := e3 hp
      dsimp only
      rw [if_pos rfl, e5]
      dsimp only
      rw [if_pos (by omega), e6, ih (acc ++ [f b]) (by rw [List.length_append, List.length_singleton]; omega) h', List.filter_cons_of_pos hp, List.map_cons, List.append_assoc]
      rfl
    | false =>
      dsimp only
      rw [if_neg (by decide), e4 hp, ih acc (by omega) h', List.filter_cons_of_neg (by rw [hp]; decide)]
@[simp] theorem upD_str : upD (.str a) = if a.length ≤ 5592405 then .val (.str (Txt.upper a)) else .no := (rfl)
@[simp] theorem rgLD_int : rgLD (.int n) = if 0 ≤ n ∧ n ≤ 16777216 then .new (rngD 0 n.toNat) else .no := (rfl)
end
end DL
set_option Elab.async false
set_option linter.all false
set_option maxRecDepth 100000
set_option maxHeartbeats 4000000
/-! DHX: the head by one kernel run, and what the walk wants to know of it -/
namespace DL
open PySem PySem.Spec PyProof.Rows L2
abbrev FB : Type := PySem.W.Frag → Bool
def obsX (fb : List FB) (fn : List He.DefD) (K : PySem.W.Frag) : He.AlD := ((fb.all fun f => f K) && fn.all fun d => d.ok K, fn.map fun d => He.fnW K d.at_)
def SaysX (fb : List FB) (fn : List He.DefD) (K : PySem.W.Frag) : Prop := obsX fb fn K = He.valD fn
/-- what an object names -/
def refX (o : Obj) : List Addr := match o.data with
  | .func fd => He.refV fd.code ++ He.refV fd.kwdefaults ++ He.refV fd.defaults
  | .cls cd => cd.ns :: (cd.mro.drop 1).flatMap He.refV
  | .dict es _ => es.toList.flatMap fun e => He.refV e.val
  | _ => []
def stepX (g : Addr → Option Obj) (as : List Addr) : List Addr := as.flatMap fun a => match g a with
  | some o => refX o
  | none => []
def frL (L : List Addr) (k : List Addr → List Addr) : List Addr := match L with
  | [] => k []
  | a :: r => k (a :: r)
/-- what the module's names reach in n steps -/
def asX (g : Addr → Option Obj) : Nat → List Addr → List Addr
  | 0, as => as
  | n + 1, as => as ++ asX g n (stepX g as)
def obsXG (n : Nat) (fb : List FB) (fn : List He.DefD) (g : Addr → Option Obj) : He.AlD := obsX fb fn (He.frG g (asX g n [mainGlobals]))
def hookX (n : Nat) (fb : List FB) (fn : List He.DefD) : PySem.W.Hook where
  α := He.AlD
  obs := fun s => obsXG n fb fn s.heap.get?
  val := fun _ => He.valD fn
  says := fun _ h => ∃ K : PySem.W.Frag, K.In h ∧ SaysX fb fn K
  of := fun _ _ e => ⟨_, He.frG_in, e⟩
  keeps := fun _ _ _ ⟨K, hK, c⟩ k => ⟨K, PySem.W.Frag.In.keeps hK k, c⟩
theorem obsXG_eq {n : Nat} {fb : List FB} {fn : List He.DefD} {g : Addr → Option Obj} {s : Shared} (h : ∀ a, g a = s.heap.get? a) : obsXG n fb fn g = (hookX n fb fn).obs s := by
  have e : g = s.heap.get? := funext h
  rw [e] <;> rfl
section
variable {fb : List FB} {fn : List He.DefD} {K : PySem.W.Frag}
theorem SaysX.fact (c : SaysX fb fn K) (i : Nat) {f : FB} (h : fb[i]? = some f := by rfl) : f K = true := by
  have c1 := (He.ba (show ((fb.all fun f => f K) && fn.all fun d => d.ok K) = true from congrArg (fun z : He.AlD => z.1) c)).1
  exact List.all_eq_true.mp c1 f (List.mem_of_getElem? h)
theorem SaysX.def_ (c : SaysX fb fn K) (i : Nat) {d : He.DefD} (h : fn[i]? = some d := by rfl) : ∃ fd, FunD K d.name d.qual d.params d.body d.scope (d.dvs K) (d.kws K) (He.fAd K d.at_) fd := by
  have c2 := (He.ba (show ((fb.all fun f => f K) && fn.all fun d => d.ok K) = true from congrArg (fun z : He.AlD => z.1) c)).2
  have e : fn.map (fun d => He.fnW K d.at_) = fn.map He.DefD.val := congrArg (fun z : He.AlD => z.2) c
  have e2 : (fn.map fun d => He.fnW K d.at_)[i]? = (fn.map He.DefD.val)[i]? := by rw [e]
  rw [List.getElem?_map, List.getElem?_map, h] at e2
  exact He.DefD.funD (Option.some.inj e2) (List.all_eq_true.mp c2 d (List.mem_of_getElem? h))
end
/-! ### the facts that are no plain equations -/
/-- an object that stands as a keyword's default -/
def kwAt (f : Str × Option Str) (x : Str) (K : PySem.W.Frag) : Addr := match K.lookup (He.fAd K f) with
  | some ⟨_, _, .func fd, _⟩ => (match fd.kwdefaults with
    | .ref D => (match PySem.W.nsIn K D x with
      | some (some (.ref a)) => a
      | _ => 0)
    | _ => 0)
  | _ => 0
/-- a tuple of these -/
def TupL (K : PySem.W.Frag) (a : Addr) (vs : List V) : Prop := ∃ (o : Obj) (its : List Value) (n : Nat), K.lookup a = some o ∧ o.cls = .type "tuple" ∧ o.data = .seq its.toArray n ∧ its.length ≤ sizeLine ∧ Vals vs its
def tupF (K : PySem.W.Frag) (a : Addr) (vs : List He.Dv) : Bool := match K.lookup a with
  | some ⟨.type c, _, .seq its _, _⟩ => decide (c = "tuple") && (decide (its.size ≤ sizeLine) && He.relAll (vs.map (He.Dv.v K)) its.toList)
  | _ => false
theorem tupF_ok {K : PySem.W.Frag} {a : Addr} {vs : List He.Dv} (h : tupF K a vs = true) : TupL K a (vs.map (He.Dv.v K)) := by
  unfold tupF at h
  cases q : K.lookup a with
  | none =>
    rw [q] at h
    cases h
  | some o =>
    obtain ⟨oc, od, dt, osl⟩ := o
    rw [q] at h
    cases oc with
    | type c =>
      cases dt with
      | seq its n =>
        obtain ⟨h1, h2⟩ := He.ba (show (decide (c = "tuple") && (decide (its.size ≤ sizeLine) && He.relAll (vs.map (He.Dv.v K)) its.toList)) = true from h)
        obtain ⟨h3, h4⟩ := He.ba h2
        exact ⟨⟨.type c, od, .seq its n, osl⟩, its.toList, n, q, congrArg Value.type (of_decide_eq_true h1), by simp, by simpa using of_decide_eq_true h3, He.relAll_ok h4⟩
      | _ => cases h
    | _ => cases dt <;> cases h
/-- an exception class with an own __init__ -/
def XCls (K : PySem.W.Frag) (C : Addr) (tl : List Value) (newId : String) : Prop := ∃ nm q N bs bm sn sub ab col dd k0 k1 k2 k3 k5, K.lookup C = some (excClassObj nm q C N bs bm true sn sub ab col dd k0 k1 k2 k3 k5 newId) ∧ stripR bm = tl
def xclF (K : PySem.W.Frag) (C : Addr) (tl : List Value) (newId : String) : Bool := match K.lookup C with
  | some ⟨.type t, _, .cls cd, sl⟩ => decide (t = "type") && (cd.hasDict && (!cd.hasDel && ((match cd.mro with
    | c :: bm => decide (c = .ref C) && decide (stripR bm = tl)
    | [] => false) && (match sl.toList with
    | [_, _, _, _, some (.builtin b), _] => decide (b = newId)
    | _ => false))))
  | _ => false
theorem xclF_ok {K : PySem.W.Frag} {C : Addr} {tl : List Value} {newId : String} (h : xclF K C tl newId = true) : XCls K C tl newId := by
  unfold xclF at h
  cases q : K.lookup C with
  | none =>
    rw [q] at h
    cases h
  | some o =>
    obtain ⟨oc, od, dt, sl⟩ := o
    rw [q] at h
    cases oc with
    | type t =>
      cases dt with
      | cls cd =>
        obtain ⟨n1, n2, n3, n4, n5, n6, n7, n8, n9, n10, n11⟩ := cd
        dsimp only at h
        obtain ⟨h1, h⟩ := He.ba h
        obtain ⟨h2, h⟩ := He.ba h
        obtain ⟨h3, h⟩ := He.ba h
        obtain ⟨h4, h5⟩ := He.ba h
        have h1 : t = "type" := of_decide_eq_true h1
        subst h1
        subst h2
        have h3 : n11 = false := by simpa using h3
        subst h3
        cases n3 with
        | nil => cases h4
        | cons c bm =>
          obtain ⟨h4, h6⟩ := He.ba h4
          have h4 : c = .ref C := of_decide_eq_true h4
          subst h4
          obtain ⟨sl⟩ := sl
          match sl, h5 with
          | [k0, k1, k2, k3, some (.builtin b), k5], h5 =>
            have h5 : b = newId := of_decide_eq_true h5
            subst h5
            exact ⟨_, _, _, _, _, _, _, _, _, _, _, _, _, _, _, q, of_decide_eq_true h6⟩
      | _ => cases h
    | _ => cases dt <;> cases h
section
variable {K : PySem.W.Frag} {C f : Addr} {tl : List Value} {B newId initId : String} {bmB : List Value} {qual : Str} {st : Stmt} {fd : FuncData}
theorem xcls_low (h : XCls K C tl newId) (t : TailOk tl B newId initId bmB) : ∃ nm q N bs bm sn sub ab col dd k0 k1 k2 k3 k5, K.lookup C = some (excClassObj nm q C N bs bm true sn sub ab col dd k0 k1 k2 k3 k5 newId) ∧ TailOk (stripR bm) B newId initId bmB := by
  obtain ⟨a1, a2, a3, a4, a5, a6, a7, a8, a9, a10, a11, a12, a13, a14, a15, e, rfl⟩ := h
  exact ⟨_, _, _, _, _, _, _, _, _, _, _, _, _, _, _, e, t⟩
theorem fund_low (F : FunD K "__init__" qual (defArgs st) (defBody st) (defScope st) [] [] f fd) : ∃ (oc : Value) (od : Option Addr) (kV doc pm : Value) (an : Option Addr) (cdv ct : Value) (osl : Array (Option Value)),
    K.lookup f = some ⟨oc, od, .func (PySem.W.fnOf "__init__" qual (defArgs st) (defBody st) (defScope st) .none kV doc pm an cdv ct), osl⟩ ∧ PySem.W.codeIn K cdv qual = true := by
  obtain ⟨oc, od, dV, kV, doc, pm, an, cdv, ct, osl, rfl, lk, hcd, hD, hK⟩ := F.ex
  rcases hD with ⟨_, rfl⟩ | ⟨e, _⟩
  · exact ⟨_, _, _, _, _, _, _, _, _, lk, hcd⟩
  · exact absurd rfl e
end
/-! ### the end -/
theorem walkGE {l : PySem.W.OpenLaw} {n k : Nat} {q : Program} {loose : List Str} {XP : (Str → Option Value) → Heap → Prop} {YP : World → Heap → Prop} {d : DefRec} {sp : PySem.W.Frag → Sp} {x : Str}
    (hn : l.most = some n) (hn2 : n ≤ sizeLine) (hdf : d.params.defaults = []) (hr : RmG k callerA)
    (F : ∀ (w : World) (mg : Str → Option Value) (fa : Addr) (h : Heap), YP w h → h.Ns mainGlobals mg → mg d.name = some (.ref fa) →
      ∃ (K : PySem.W.Frag) (fd : FuncData), K.In h ∧ (∀ (s : Shared) (u : Value), BindsTo s fd ⟨[u], []⟩ [(x, u)]) ∧ ∀ base : Heap, K.In base → base.Ns mainGlobals mg → FnG l.prog w K mg base k fa fd [x] (sp K))
    (hsp : ∀ (K : PySem.W.Frag) (H : Hp) (a : Addr) (ns : List Int), ns.length ≤ n → (∀ z ∈ ns, Builtin.Int.intBits z ≤ 1048576) → SqL K H a (ns.map V.int) → sp K [.ref a] H (fun v _ => v = .bl true) fun _ _ _ => False)
    (hCX : ∀ (w : World) (H : Hp) (s : Shared) (e : Value) (s' : Shared), L2.CX l.prog w [] H s (fun _ _ _ => False) e s' → False) :
    PySem.W.WalkO q loose XP YP l.row.toRowW d [] (fun f vs => PySem.call f vs) := by
  refine Att.attach_callB hn hdf ?_
  intro w s0 s1 mg mb fa o pm cd doc a vs ns G Y ho hd hcd hmg hobj hints hlen hbits hg
  obtain ⟨K, fd, kin, hb, hF⟩ := F w mg fa _ Y G.T.g hmg
  exact law_callG kin G.T.g G.T.b G.T.builtins G.T.nolimit hg hobj hints (Nat.le_trans hlen hn2) hr hF hb (fun H hS => hsp K H a ns hlen hbits hS) fun H e s' => hCX w H s1 e s'
end DL
set_option Elab.async false
set_option linter.all false
set_option maxRecDepth 100000
set_option maxHeartbeats 4000000
/-! DLL: for x in [e1, e2, e3]: x.clear(), each of the three a new list of its own -/
namespace DL
open PySem PySem.Spec PyProof.Rows L2
def isNew : D → Bool
  | .lst true _ => true
  | _ => false
def sClr3 (Bl : List Nat) (i : Nat) (F1 F2 F3 : Env → Out D) : Env → SOut := fun ρ => (F1 ρ).s fun d1 ρ1 => if isNew d1 = true then (F2 ρ1).s fun d2 ρ2 => if isNew d2 = true then (F3 ρ2).s fun d3 ρ3 => if isNew d3 = true ∧ i ∉ Bl ∧ i < ρ3.length then .nx (ρ3.set i (some (.lst true []))) else .no else .no else .no
section
variable {K : PySem.W.Frag} {B : By} {W : WX} {b : Bs} {G H : Hp} {ω : Lb} {σ : L2.St} {ρ : Env}
theorem new_at {Hs : Hp} {ωs : Lb} {v : V} {d : D} (h : isNew d = true) (o : OwnR K b Hs ωs G H ω v d) : ∃ a xs, v = .ref a ∧ H a = some (.lst xs) ∧ ω a = none ∧ G a = none ∧ b.H a = none ∧ (Hs a = none ∨ ωs a ≠ none) := by
  cases d with
  | lst o' ds =>
    cases o' with
    | true =>
      obtain ⟨ωt, T, o⟩ := o
      cases o with
      | one o =>
        cases o with
        | frz i => cases i
        | lst h1 h2 h3 =>
          obtain ⟨y1, y2, _, y4, y5⟩ := T.at' _ (by rw [h1]; simp)
          exact ⟨_, _, rfl, h2, y1, y2, y4, y5⟩
    | false => cases h
  | _ => cases h
/-- as Sat.s, the post seen from further back -/
theorem Sat.s1 {α β : Type} {R : Rep α β} {t : L2.St → Hp → (β → Hp → Prop) → Prop} {F : Env → Out α} {f : α → Env → SOut} {Q : β → Hp → Prop} {Dn : Ends} {G1 H1 : Hp} {ω1 : Lb} (h : Sat K B W R t F) (rel : Rel K b B G1 H1 ω1 σ ρ) (s1 : Tr G H ω G1 H1 ω1) (post : PostS K B W b G H ω Dn ((F ρ).s f))
    (hq : ∀ G' H' ω' ρ' x a, Rel K b B G' H' ω' σ ρ' → Tr G1 H1 ω1 G' H' ω' → R b H1 ω1 G' H' ω' x a → PostS K B W b G H ω Dn (f a ρ') → Q x H') : t σ H1 Q := by
  refine h b G1 H1 ω1 σ ρ rel Q ?_
  unfold Out.s at post
  cases e : F ρ with
  | no => rw [e] at post; exact post
  | ex c ρ1 => rw [e] at post; exact fun cls dd G' H' ω' r s i => post cls dd σ G' H' ω' r (s1.trans s) i
  | ok a ρ1 q => rw [e] at post; exact fun x G' H' ω' r s _ i => hq G' H' ω' ρ1 x a r s i post
theorem Rel.asides (R : Rel K b B G H ω σ ρ) {H' : Hp} (h : ∀ a, H' a = H a ∨ (H' a ≠ none ∧ ω a = none ∧ G a = none ∧ b.H a = none)) : Rel K b B G H' ω σ ρ where
  le := fun a o e => by
    rcases h a with z | ⟨_, _, z, _⟩
    · rw [z]; exact R.le a o e
    · rw [z] at e; cases e
  leG := R.leG
  old := fun a o h1 h2 => by
    rcases h a with z | ⟨_, _, _, z⟩
    · rw [z]; exact R.old a o h1 h2
    · rw [z] at h2; cases h2
  dom := fun a e => by
    rcases h a with z | ⟨z, _, _, _⟩
    · rw [z] at e; exact R.dom a e
    · exact absurd e z
  fr := R.fr
  own := fun a l q => by
    obtain ⟨y1, y2, y3⟩ := R.own a l q
    rcases h a with z | ⟨_, z, _, _⟩
    · exact ⟨y1, y2.of_eq z, y3⟩
    · rw [q] at z; cases z
  bB := R.bB
  len := R.len
  slot := fun i d e => by
    obtain ⟨v, h1, h2⟩ := R.slot i d e
    exact ⟨v, h1, h2.go (Same.refl _) fun a p q => ⟨q, by
      rcases h a with z | ⟨_, z, _, _⟩
      · exact z
      · rw [q] at z; cases z⟩⟩
  byr := R.byr
  pin := fun p hp => by
    obtain ⟨m, a, f, dd⟩ := R.pin p hp
    exact ⟨m, a, f, dd⟩
theorem ss_clr3 {i : Nat} {t1 t2 t3 : TE} {F1 F2 F3 : Env → Out D} (h1 : Sat K B W (OwnR K) t1 F1) (h2 : Sat K B W (OwnR K) t2 F2) (h3 : Sat K B W (OwnR K) t3 F3) :
    SatS K B W (tFor (iList K (tLst (tCons t1 (tCons t2 (tCons t3 tNil))))) (gName i) (tDrop (tBM0 K "list" rClear (tVar i)))) (sClr3 B.l i F1 F2 F3) := by
  intro b G H ω σ ρ rel Dn post
  refine h1.s rel post fun G1 H1 ω1 ρ1 x1 d1 r1 s1 i1 p1 => ?_
  split at p1
  rotate_left
  · exact p1.elim
  rename_i c1
  obtain ⟨a1, xs1, rfl, e1, w1, g1, b1, f1⟩ := new_at c1 i1
  refine h2.s1 r1 s1 p1 fun G2 H2 ω2 ρ2 x2 d2 r2 s2 i2 p2 => ?_
  split at p2
  rotate_left
  · exact p2.elim
  rename_i c2
  obtain ⟨a2, xs2, rfl, e2, w2, g2, b2, f2⟩ := new_at c2 (Back.back s1 i2)
  have g1 := s2.hid _ w1 (by rw [e1]; simp) g1
  obtain ⟨e1, w1'⟩ := s2.keep _ _ w1 e1
  have s12 := s1.trans s2
  refine h3.s1 r2 s12 p2 fun G3 H3 ω3 ρ3 x3 d3 r3 s3 i3 p3 => ?_
  split at p3
  rotate_left
  · exact p3.elim
  rename_i c3
  obtain ⟨c3, hi, hi2⟩ := c3
  obtain ⟨a3, xs3, rfl, e3, w3, g3, b3, f3⟩ := new_at c3 (Back.back s12 i3)
  obtain ⟨k1, w1''⟩ := s3.keep _ _ w1' e1
  have g1 := s3.hid _ w1' (by rw [e1]; simp) g1
  obtain ⟨k2, w2'⟩ := s3.keep _ _ w2 e2
  have g2 := s3.hid _ w2 (by rw [e2]; simp) g2
  have s13 := s12.trans s3
  refine ⟨show 3 ≤ sizeLine by decide, fun p hp => ?_⟩
  have hp1 : a1 ≠ p := fun z => by rw [z, hp] at k1; cases k1
  have hp2 : a2 ≠ p := fun z => by rw [z, hp] at k2; cases k2
  have hp3 : a3 ≠ p := fun z => by rw [z, hp] at e3; cases e3
  have gp : G3 p = none := same_none r3.le hp
  have bp : b.H p = none := r3.dom p hp
  have wp : ω3 p = none := by
    cases q : ω3 p with
    | none => rfl
    | some l => exact absurd hp (r3.own p l q).2.1.ne
  refine ⟨p, rfl, ⟨_, .inl (.inl upd_same)⟩, ?_⟩
  -- what stands while the loop runs
  let St : Hp → Prop := fun H' => H' p = some (.lst [.ref a1, .ref a2, .ref a3]) ∧ (∃ y, H' a1 = some (.lst y)) ∧ (∃ y, H' a2 = some (.lst y)) ∧ (∃ y, H' a3 = some (.lst y)) ∧ ∀ x, x ≠ a1 → x ≠ a2 → x ≠ a3 → x ≠ p → H' x = H3 x
  have one : ∀ {H' : Hp} (a : Addr), (a = a1 ∨ a = a2 ∨ a = a3) → St H' → St (L2.upd H' a (.lst [])) := by
    intro H' a ha ⟨q0, q1, q2, q3, q4⟩
    have hap : a ≠ p := by rcases ha with rfl | rfl | rfl <;> assumption
    have ls : ∀ x, (∃ y, H' x = some (.lst y)) → ∃ y, L2.upd H' a (.lst []) x = some (.lst y) := fun x ⟨y, hy⟩ => by
      by_cases c : x = a
      · subst c; exact ⟨_, upd_same⟩
      · exact ⟨y, by rw [upd_ne c]; exact hy⟩
    refine ⟨by rw [upd_ne (Ne.symm hap)]; exact q0, ls _ q1, ls _ q2, ls _ q3, fun x n1 n2 n3 n4 => ?_⟩
    rw [upd_ne (by rcases ha with rfl | rfl | rfl <;> assumption)]
    exact q4 x n1 n2 n3 n4
  have len : σ.length = ρ3.length := r3.len
  refine for_list (xs := [.ref a1, .ref a2, .ref a3]) (fun k σ' H' => St H' ∧ (k = 0 ∧ σ' = σ ∨ k = 1 ∧ σ' = σ.set i (some (.ref a1)) ∨ k = 2 ∧ σ' = σ.set i (some (.ref a2)) ∨ k = 3 ∧ σ' = σ.set i (some (.ref a3)) ∧ H' a3 = some (.lst [])))
    ⟨⟨upd_same, ⟨_, by rw [upd_ne hp1]; exact k1⟩, ⟨_, by rw [upd_ne hp2]; exact k2⟩, ⟨_, by rw [upd_ne hp3]; exact e3⟩, fun x _ _ _ n => upd_ne n⟩, .inl ⟨rfl, rfl⟩⟩
    (fun k σ' H' _ h => .inl (.inl h.1.1)) (fun k x σ' H' hx h => ?_) (fun σ' H' h => ?_)
  · obtain ⟨hst, hk⟩ := h
    have hσ : i < σ.length := by rw [len]; exact hi2
    have hlen : σ'.length = σ.length := by
      rcases hk with ⟨_, rfl⟩ | ⟨_, rfl⟩ | ⟨_, rfl⟩ | ⟨_, rfl, _⟩ <;> simp
    have hset : ∀ v : V, σ'.set i (some v) = σ.set i (some v) := by
      intro v
      rcases hk with ⟨_, rfl⟩ | ⟨_, rfl⟩ | ⟨_, rfl⟩ | ⟨_, rfl, _⟩ <;> simp
    have hget : ∀ v : V, (σ.set i (some v))[i]? = some (some v) := fun v => by rw [List.getElem?_set]; simp [hσ]
    obtain ⟨y1, q1⟩ := hst.2.1
    obtain ⟨y2, q2⟩ := hst.2.2.1
    obtain ⟨y3, q3⟩ := hst.2.2.2.1
    match k, hx with
    | 0, hx =>
      simp only [List.getElem?_cons_zero, Option.some.injEq] at hx
      subst hx
      show tDrop _ _ (σ'.set i (some (.ref a1))) H'
      rw [hset]
      refine ⟨_, hget _, ?_, a1, y1, rfl, rfl, q1, ?_⟩
      · exact .inl ⟨rfl, y1, .inl (.inl q1)⟩
      · exact ⟨one a1 (.inl rfl) hst, .inr (.inl ⟨rfl, rfl⟩)⟩
    | 1, hx =>
      simp only [List.getElem?_cons_zero, List.getElem?_cons_succ, Option.some.injEq] at hx
      subst hx
      show tDrop _ _ (σ'.set i (some (.ref a2))) H'
      rw [hset]
      refine ⟨_, hget _, ?_, a2, y2, rfl, rfl, q2, ?_⟩
      · exact .inl ⟨rfl, y2, .inl (.inl q2)⟩
      · exact ⟨one a2 (.inr (.inl rfl)) hst, .inr (.inr (.inl ⟨rfl, rfl⟩))⟩
    | 2, hx =>
      simp only [List.getElem?_cons_zero, List.getElem?_cons_succ, Option.some.injEq] at hx
      subst hx
      show tDrop _ _ (σ'.set i (some (.ref a3))) H'
      rw [hset]
      refine ⟨_, hget _, ?_, a3, y3, rfl, rfl, q3, ?_⟩
      · exact .inl ⟨rfl, y3, .inl (.inl q3)⟩
      · exact ⟨one a3 (.inr (.inr rfl)) hst, .inr (.inr (.inr ⟨rfl, rfl, upd_same⟩))⟩
    | k + 3, hx => simp at hx
  · obtain ⟨hst, hk⟩ := h
    rcases hk with ⟨z, _⟩ | ⟨z, _⟩ | ⟨z, _⟩ | ⟨_, rfl, eL⟩
    · cases z
    · cases z
    · cases z
    obtain ⟨q0, ⟨y1, q1⟩, ⟨y2, q2⟩, ⟨y3, q3⟩, q4⟩ := hst
    have r4 : Rel K b B G3 H' ω3 σ ρ3 := r3.asides fun a => by
      by_cases c1 : a = a1
      · subst c1; exact .inr ⟨by rw [q1]; simp, w1'', g1, b1⟩
      by_cases c2 : a = a2
      · subst c2; exact .inr ⟨by rw [q2]; simp, w2', g2, b2⟩
      by_cases c3 : a = a3
      · subst c3; exact .inr ⟨by rw [q3]; simp, w3, g3, b3⟩
      by_cases c4 : a = p
      · subst c4; exact .inr ⟨by rw [q0]; simp, wp, gp, bp⟩
      exact .inl (q4 a c1 c2 c3 c4)
    have t4 : Tr G H ω G3 H' ω3 := ⟨s13.g, (fun a o h e => by
      obtain ⟨z1, z2⟩ := s13.keep a o h e
      refine ⟨?_, z2⟩
      have n1 : a ≠ a1 := by
        intro z
        subst z
        rcases f1 with f | f
        · rw [e] at f; cases f
        · exact f h
      have n2 : a ≠ a2 := by
        intro z
        subst z
        rcases f2 with f | f
        · rw [e] at f; cases f
        · exact f h
      have n3 : a ≠ a3 := by
        intro z
        subst z
        rcases f3 with f | f
        · rw [e] at f; cases f
        · exact f h
      have n4 : a ≠ p := by
        intro z
        subst z
        rw [hp] at z1
        cases z1
      rw [q4 a n1 n2 n3 n4]
      exact z1), s13.hid, fun a e => by
      by_cases c : H3 a = none
      · exact s13.dom a c
      · exfalso
        by_cases c1 : a = a1
        · subst c1; rw [q1] at e; cases e
        by_cases c2 : a = a2
        · subst c2; rw [q2] at e; cases e
        by_cases c3 : a = a3
        · subst c3; rw [q3] at e; cases e
        by_cases c4 : a = p
        · subst c4; rw [q0] at e; cases e
        exact c ((q4 a c1 c2 c3 c4).symm.trans e)⟩
    have o : OwnR K b H ω G3 H' ω3 (.ref a3) (.lst true []) := by
      refine ⟨fun a => if a = a3 then some (0, none) else none, ⟨fun a ha => ?_⟩, .one (.lst (by simp) eL .nil)⟩
      by_cases c : a = a3
      · subst c; exact ⟨w3, g3, ⟨_, eL, rfl⟩, b3, f3⟩
      · simp [c] at ha
    obtain ⟨ω', r5, t5⟩ := r4.set t4 hi o
    exact p3 _ G3 H' ω' r5 t5
end
section
variable {X : Cx} {B : By} {W : WX} {e1 e2 e3 : Expr} {t1 t2 t3 : TE} {F1 F2 F3 : Env → Out D} {x : Str} {lp fp xp ap cp ep : Pos}
theorem ds_clr3 (i : Nat) (po : PassesOwn (model X.prog X.w) X.A X.env X.xe) (hc : X.calm = true) (hg : DG X B (.Name x fp) (gName i) (gN B.l i)) (h1 : DO X B W e1 t1 F1) (h2 : DO X B W e2 t2 F2) (h3 : DO X B W e3 t3 F3)
    (mk : PS X (.Expr (.Call (.Attribute (.Name x xp) "clear" ap) [] [] cp) ep) (tDrop (tBM0 X.K "list" rClear (tVar i))))
    (n1 : starEach [e1, e2, e3] X.env = (false, eval e1 X.env) :: starEach [e2, e3] X.env := by rfl) (n2 : starEach [e2, e3] X.env = (false, eval e2 X.env) :: starEach [e3] X.env := by rfl) (n3 : starEach [e3] X.env = (false, eval e3 X.env) :: starEach [] X.env := by rfl)
    (hf : ∀ v : Value, foldedSetIterable (.List [e1, e2, e3] lp) X.env v = pure v := by intro _; rfl) {pos : Pos} :
    DS X B W (.For (.Name x fp) (.List [e1, e2, e3] lp) [.Expr (.Call (.Attribute (.Name x xp) "clear" ap) [] [] cp) ep] [] pos)
      (tFor (iList X.K (tLst (tCons t1 (tCons t2 (tCons t3 tNil))))) (gName i) (tDrop (tBM0 X.K "list" rClear (tVar i)))) (sClr3 B.l i F1 F2 F3) :=
  ⟨ps_for po hc (pi_list (pe_lst (pa_cons h1.pe (pa_cons h2.pe (pa_cons h3.pe pa_nil n3) n2) n1))) hg.pg (pss_one mk) hf, ss_clr3 h1.sat h2.sat h3.sat⟩
end
end DL
set_option Elab.async false
set_option linter.all false
set_option maxRecDepth 100000
set_option maxHeartbeats 4000000
/-! DLL2: zip of a tuple and a list (two iterators of any of both kinds) -/
namespace DL
open PySem PySem.Spec PyProof.Rows L2 RZ
/-- an iterator over a tuple (true) or a list (false), i items on; what it walks -/
def KI (k : Bool) (h : Heap) (it l : Addr) (i : Nat) : Prop := if k = true then h.IsTupleIter it l i else h.IsListIter it l i
def KS (k : Bool) (h : Heap) (l : Addr) (xs : Array Value) : Prop := if k = true then h.IsTuple l xs else h.IsList l xs
theorem KI.but {k : Bool} {h h' : Heap} {it l b : Addr} {i : Nat} (q : KI k h it l i) (e : Heap.ExtBut b h h') (n : it ≠ b) : KI k h' it l i := by
  cases k
  · exact Heap.IsListIter.extBut q e n
  · exact Heap.IsTupleIter.extBut q e n
theorem KI.at {k : Bool} {h h' : Heap} {it l : Addr} {i : Nat} (q : KI k h it l i) (e : ∀ o, h.get? it = some o → h'.get? it = some o) : KI k h' it l i := by
  cases k
  · exact Heap.IsListIter.at q e
  · exact Heap.IsTupleIter.at q e
theorem KI.ob {k : Bool} {h : Heap} {it l : Addr} {i : Nat} (q : KI k h it l i) : ∃ o, h.get? it = some o ∧ o.data = .fields #[.ref l, .int (i : Nat) 0] := by
  cases k
  · obtain ⟨o, a, _, b⟩ := (show h.IsListIter it l i from q); exact ⟨o, a, b⟩
  · obtain ⟨o, a, _, b⟩ := (show h.IsTupleIter it l i from q); exact ⟨o, a, b⟩
theorem KS.but {k : Bool} {h h' : Heap} {l b : Addr} {xs : Array Value} (q : KS k h l xs) (e : Heap.ExtBut b h h') (n : l ≠ b) : KS k h' l xs := by
  cases k
  · exact Heap.IsList.extBut q e n
  · exact Heap.IsTuple.extBut q e n
section
variable {prog : Program} {w : World} {A : Around} {E : Value → Shared → Prop} {s : Shared}
theorem nx_item {k : Bool} {it l : Addr} {i : Nat} {xs : Array Value} {x : Value} {Q : Value → Shared → Prop} (a : KI k s.heap it l i) (b : KS k s.heap l xs) (c : xs[i]? = some x)
    (f : ∀ h', KI k h' it l (i + 1) → Heap.SameBut it s.heap h' → Q x { s with heap := h' }) : wpAny (model prog w) A (Builtin.SmallTypes.nextOf (.ref it)) Q E s := by
  cases k
  · exact wpAny_nextOf_list_item a b c f
  · exact nextOf_tuple_item a b c f
theorem nx_end {k : Bool} {it l : Addr} {i : Nat} {xs : Array Value} {Q : Value → Shared → Prop} (hh : A.handled = none) (a : KI k s.heap it l i) (b : KS k s.heap l xs) (c : xs[i]? = none)
    (f : ∀ h' e, Heap.ExtBut it s.heap h' → (∃ o, h'.get? e = some o ∧ o.cls = .type "StopIteration") → E (.ref e) { s with heap := h' }) : wpAny (model prog w) A (Builtin.SmallTypes.nextOf (.ref it)) Q E s := by
  cases k
  · exact wpAny_nextOf_list_end hh a b c f
  · exact nextOf_tuple_end hh a b c f
/-- what stands of a zip object Z with its pair of iterators P, its own pair R -/
structure ZAt (j k : Bool) (h : Heap) (Z P R u v l m : Addr) (a b : Nat) : Prop where
  z : IsZip h Z P R .none
  p : IsPair h P (.ref u) (.ref v)
  r : ∃ x y, IsPair h R x y
  u : KI j h u l a
  v : KI k h v m b
/-- nothing but the zip's own parts changed -/
def ZKeep (h h' : Heap) (Z R u v : Addr) : Prop := ∀ c o, c ≠ Z → c ≠ R → c ≠ u → c ≠ v → h.get? c = some o → h'.get? c = some o
theorem zip_call_item {j k : Bool} {Z P R u v l m : Addr} {a b : Nat} {xs ys : Array Value} {x y : Value} {Q : Value → Shared → Prop} (D : ZipApart Z P R u v l m) (S : ZAt j k s.heap Z P R u v l m a b)
    (s1 : KS j s.heap l xs) (s2 : KS k s.heap m ys) (hx : xs[a]? = some x) (hy : ys[b]? = some y)
    (f : ∀ h', IsZip h' Z P R (rawInt s.heap.objs.size) → IsPair h' R x y → KI j h' u l (a + 1) → KI k h' v m (b + 1) → IsPair h' s.heap.objs.size x y → h'.objs.size = s.heap.objs.size + 1 → ZKeep s.heap h' Z R u v → Q (.ref s.heap.objs.size) { s with heap := h' }) :
    wpAny (model prog w) A (Builtin.«zip.__next__» ⟨[.ref Z], []⟩) (fun fin s' => ∃ v, fin = .done (.ret v) ∧ Q v s') E s := by
  obtain ⟨sz, sp, ⟨x0, y0, sr⟩, su, sv⟩ := S
  show wpAny _ _ (field (.ref Z) 2 >>= _) _ _ _
  refine wpAny_bind (wpAny_field sz rfl (x := .bool false) rfl ?_); show wpAny _ _ (field (.ref Z) 3 >>= _) _ _ _
  refine wpAny_bind (wpAny_field sz rfl (x := .ref P) rfl ?_); refine wpAny_bind (wpAny_seqItems sp rfl ?_)
  show wpAny _ _ (Builtin.SmallTypes.ownedTupleIsFree (.ref Z) >>= _) _ _ _
  refine wpAny_bind ?_; unfold Builtin.SmallTypes.ownedTupleIsFree
  refine wpAny_bind (wpAny_field sz rfl (x := .none) rfl (wpAny_pure ?_)); simp only [if_true]
  refine wpAny_bind (wpAny_rule (wpAny_bind (wpAny_field sz rfl (x := .ref R) rfl (wpAny_bind (wpAny_setField_rec sz (by simp) fun h1 z1 k1 => ?_)))))
  have z1 : IsZip h1 Z P R .ellipsis := z1
  refine wpAny_bind ?_; simp only [List.zipIdx_cons, List.zipIdx_nil, List.forIn_cons, List.forIn_nil]
  have b1 := k1.extBut
  refine wpAny_bind (wpAny_bind (wpAny_onRaise ?_)); show wpAny _ _ (Builtin.SmallTypes.nextOf (.ref u) >>= _) _ _ _
  refine wpAny_bind (nx_item (su.but b1 D.i1z) (s1.but b1 D.l1z) hx fun h2 u2 k2 => wpAny_pure ?_)
  have b2 := k2.extBut
  have r2 : IsPair h2 R x0 y0 := b2 _ _ D.TOi1 (b1 _ _ D.TOz sr)
  refine wpAny_bind (wpAny_seqItems r2 rfl (wpAny_bind (wpAny_updateSeq_pair r2 fun h3 r3 k3 => wpAny_bind (wpAny_letGo (wpAny_pure ?_)))))
  have b3 := k3.extBut
  have r3 : IsPair h3 R x y0 := r3
  refine wpAny_bind (wpAny_bind (wpAny_onRaise ?_)); show wpAny _ _ (Builtin.SmallTypes.nextOf (.ref v) >>= _) _ _ _
  refine wpAny_bind (nx_item (((sv.but b1 D.i2z).but b2 D.i12.symm).but b3 D.TOi2.symm) (((s2.but b1 D.l2z).but b2 D.l2i1).but b3 D.l2TO) hy fun h4 v4 k4 => wpAny_pure ?_)
  have b4 := k4.extBut
  have r4 : IsPair h4 R x y0 := b4 _ _ D.TOi2 r3
  refine wpAny_bind (wpAny_seqItems r4 rfl (wpAny_bind (wpAny_updateSeq_pair r4 fun h5 r5 k5 => wpAny_bind (wpAny_letGo (wpAny_pure (wpAny_pure ?_))))))
  have b5 := k5.extBut
  have r5 : IsPair h5 R x y := r5
  refine wpAny_bind (wpAny_seqItems r5 rfl (wpAny_bind (wpAny_newTuple ?_)))
  have n5 : h5.objs.size = s.heap.objs.size := by simp only [k5.1, k4.1, k3.1, k2.1, k1.1]
  have z5 : IsZip h5 Z P R .ellipsis := b5 _ _ D.TOz.symm (b4 _ _ D.i2z.symm (b3 _ _ D.TOz.symm (b2 _ _ D.i1z.symm z1)))
  have kp : ZKeep s.heap h5 Z R u v := fun c o n1 n2 n3 n4 e => b5 _ _ n2 (b4 _ _ n4 (b3 _ _ n2 (b2 _ _ n3 (b1 _ _ n1 e))))
  have u5 := ((u2.but b3 D.TOi1.symm).but b4 D.i12).but b5 D.TOi1.symm
  have v5 := v4.but b5 D.TOi2.symm
  have lz : Z < h5.objs.size := Heap.lt_size z5
  show wpAny _ _ (Builtin.SmallTypes.ownedTupleHandOut (.ref Z) (.ref h5.objs.size) >>= _) _ _ _
  refine wpAny_bind ?_; unfold Builtin.SmallTypes.ownedTupleHandOut
  have z6 : IsZip (h5.push { cls := .type "tuple", data := .seq #[x, y] }) Z P R .ellipsis := Heap.get?_push_of_some _ z5
  refine wpAny_bind (wpAny_setField_rec z6 (by simp) fun h7 z7 k7 => ?_)
  have z7 : IsZip h7 Z P R (rawInt h5.objs.size) := z7
  refine wpAny_setField_rec z7 (by simp) fun h8 z8 k8 => ?_
  have z8 : IsZip h8 Z P R (rawInt h5.objs.size) := z8
  have up : ∀ c o, c ≠ Z → h5.get? c = some o → h8.get? c = some o := fun c o n e => k8.extBut _ _ n (k7.extBut _ _ n (Heap.get?_push_of_some _ e))
  have t8 : IsPair h8 h5.objs.size x y := k8.extBut _ _ (Nat.ne_of_gt lz) (k7.extBut _ _ (Nat.ne_of_gt lz) (Heap.get?_push_size _ rfl))
  have n8 : h8.objs.size = h5.objs.size + 1 := by simp only [k8.1, k7.1, Heap.size_push]
  rw [n5] at z8 t8 n8
  refine wpAny_pure ⟨_, rfl, ?_⟩; show Q (.ref h5.objs.size) _
  rw [n5]
  exact f h8 z8 (up _ _ D.TOz r5) (u5.at fun o e => up _ o D.i1z e) (v5.at fun o e => up _ o D.i2z e) t8 n8 fun c o n1 n2 n3 n4 e => up c o n1 (kp c o n1 n2 n3 n4 e)
theorem zip_call_end {j k : Bool} {Z P R u v l m : Addr} {a b : Nat} {xs ys : Array Value} {Q : Fin → Shared → Prop} (hh : A.handled = none) (D : ZipApart Z P R u v l m) (S : ZAt j k s.heap Z P R u v l m a b)
    (s1 : KS j s.heap l xs) (s2 : KS k s.heap m ys) (hend : xs[a]? = none ∨ ys[b]? = none)
    (f : ∀ h' e, ZKeep s.heap h' Z R u v → (∃ o, h'.get? e = some o ∧ o.cls = .type "StopIteration") → E (.ref e) { s with heap := h' }) :
    wpAny (model prog w) A (Builtin.«zip.__next__» ⟨[.ref Z], []⟩) Q E s := by
  obtain ⟨sz, sp, ⟨x0, y0, sr⟩, su, sv⟩ := S
  have cl : ∀ {h : Heap} {e : Addr} {oe : Obj}, IsZip h Z P R .ellipsis → h.get? e = some oe → oe.cls = .type "StopIteration" → e ≠ Z := fun {h e oe} q1 q2 q3 n => by
    subst n
    rw [q1] at q2
    cases q2
    simp at q3
  show wpAny _ _ (field (.ref Z) 2 >>= _) _ _ _
  refine wpAny_bind (wpAny_field sz rfl (x := .bool false) rfl ?_); show wpAny _ _ (field (.ref Z) 3 >>= _) _ _ _
  refine wpAny_bind (wpAny_field sz rfl (x := .ref P) rfl ?_); refine wpAny_bind (wpAny_seqItems sp rfl ?_)
  show wpAny _ _ (Builtin.SmallTypes.ownedTupleIsFree (.ref Z) >>= _) _ _ _
  refine wpAny_bind ?_; unfold Builtin.SmallTypes.ownedTupleIsFree
  refine wpAny_bind (wpAny_field sz rfl (x := .none) rfl (wpAny_pure ?_)); simp only [if_true]
  refine wpAny_bind (wpAny_rule (wpAny_bind (wpAny_field sz rfl (x := .ref R) rfl (wpAny_bind (wpAny_setField_rec sz (by simp) fun h1 z1 k1 => ?_)))))
  have z1 : IsZip h1 Z P R .ellipsis := z1
  refine wpAny_bind ?_; simp only [List.zipIdx_cons, List.zipIdx_nil, List.forIn_cons, List.forIn_nil]
  have b1 := k1.extBut
  refine wpAny_bind (wpAny_bind (wpAny_onRaise ?_)); show wpAny _ _ (Builtin.SmallTypes.nextOf (.ref u) >>= _) _ _ _
  match hx : xs[a]? with
  | none =>
    refine wpAny_bind (nx_end hh (su.but b1 D.i1z) (s1.but b1 D.l1z) hx fun h2 e k2 he => ?_)
    obtain ⟨oe, g1, g2⟩ := he
    have z2 : IsZip h2 Z P R .ellipsis := k2 _ _ D.i1z.symm z1
    exact wpAny_setField_rec z2 (by simp) fun h3 _ k3 => f h3 e (fun c o n1 _ n3 _ q => k3.extBut _ _ n1 (k2 _ _ n3 (b1 _ _ n1 q))) ⟨oe, k3.extBut _ _ (cl z2 g1 g2) g1, g2⟩
  | some x =>
    have hy : ys[b]? = none := by
      cases hend with
      | inl q => rw [hx] at q; cases q
      | inr q => exact q
    refine wpAny_bind (nx_item (su.but b1 D.i1z) (s1.but b1 D.l1z) hx fun h2 u2 k2 => wpAny_pure ?_)
    have b2 := k2.extBut
    have r2 : IsPair h2 R x0 y0 := b2 _ _ D.TOi1 (b1 _ _ D.TOz sr)
    refine wpAny_bind (wpAny_seqItems r2 rfl (wpAny_bind (wpAny_updateSeq_pair r2 fun h3 r3 k3 => wpAny_bind (wpAny_letGo (wpAny_pure ?_)))))
    have b3 := k3.extBut
    refine wpAny_bind (wpAny_bind (wpAny_onRaise ?_)); show wpAny _ _ (Builtin.SmallTypes.nextOf (.ref v) >>= _) _ _ _
    refine wpAny_bind (nx_end hh (((sv.but b1 D.i2z).but b2 D.i12.symm).but b3 D.TOi2.symm) (((s2.but b1 D.l2z).but b2 D.l2i1).but b3 D.l2TO) hy fun h4 e k4 he => ?_)
    obtain ⟨oe, g1, g2⟩ := he
    have z4 : IsZip h4 Z P R .ellipsis := k4 _ _ D.i2z.symm (b3 _ _ D.TOz.symm (b2 _ _ D.i1z.symm z1))
    exact wpAny_setField_rec z4 (by simp) fun h5 _ k5 => f h5 e (fun c o n1 n2 n3 n4 q => k5.extBut _ _ n1 (k4 _ _ n4 (b3 _ _ n2 (b2 _ _ n3 (b1 _ _ n1 q))))) ⟨oe, k5.extBut _ _ (cl z4 g1 g2) g1, g2⟩
theorem zip_next_some {j k : Bool} {Z P R u v l m : Addr} {a b : Nat} {xs ys : Array Value} {x y : Value} {Q : Option Value → Shared → Prop} (D : ZipApart Z P R u v l m) (S : ZAt j k s.heap Z P R u v l m a b)
    (s1 : KS j s.heap l xs) (s2 : KS k s.heap m ys) (hx : xs[a]? = some x) (hy : ys[b]? = some y)
    (f : ∀ h', IsZip h' Z P R (rawInt s.heap.objs.size) → IsPair h' R x y → KI j h' u l (a + 1) → KI k h' v m (b + 1) → IsPair h' s.heap.objs.size x y → h'.objs.size = s.heap.objs.size + 1 → ZKeep s.heap h' Z R u v → Q (some (.ref s.heap.objs.size)) { s with heap := h' }) :
    wpAny (model prog w) A (pyNext (.ref Z)) Q E s := by
  have ty : s.TypeIs (.ref Z) "zip" := ⟨_, S.z, rfl⟩
  unfold pyNext
  refine wpAny_bind (wpAny_attempt (wpAny_callSpecial?_slot (name := Str.ofString "__next__") ty F.slot_zip_next ?_))
  exact wpAny_call_entry F.slot_zip_next ty F.entry_zip_next (zip_call_item D S s1 s2 hx hy fun h' a1 a2 a3 a4 a5 a6 a7 => wpAny_pure (f h' a1 a2 a3 a4 a5 a6 a7)) (F.args_zip_next_1 _)
theorem zip_next_none {j k : Bool} {Z P R u v l m : Addr} {a b : Nat} {xs ys : Array Value} {Q : Option Value → Shared → Prop} (hh : A.handled = none) (D : ZipApart Z P R u v l m) (S : ZAt j k s.heap Z P R u v l m a b)
    (s1 : KS j s.heap l xs) (s2 : KS k s.heap m ys) (hend : xs[a]? = none ∨ ys[b]? = none) (f : ∀ h', ZKeep s.heap h' Z R u v → Q none { s with heap := h' }) : wpAny (model prog w) A (pyNext (.ref Z)) Q E s := by
  have ty : s.TypeIs (.ref Z) "zip" := ⟨_, S.z, rfl⟩
  unfold pyNext
  refine wpAny_bind (wpAny_attempt (wpAny_callSpecial?_slot (name := Str.ofString "__next__") ty F.slot_zip_next ?_))
  refine wpAny_call_entry F.slot_zip_next ty F.entry_zip_next (zip_call_end hh D S s1 s2 hend fun h' e hk he => ?_) (F.args_zip_next_1 _)
  obtain ⟨o, ho, hc⟩ := he
  exact wpAny_bind (wpAny_isInstance (T := "StopIteration") (b := true) ⟨o, ho, hc⟩ isSubtype_stop (wpAny_pure (f _ hk)))
end
/-! ### zip(t, l): a tuple and a list -/
def zpH (h : Heap) (l m : Addr) : Heap :=
  let a := h.push { cls := .type "tuple_iterator", data := .fields #[.ref l, .int 0 0] }
  let b := a.push { cls := .type "list_iterator", data := .fields #[.ref m, .int 0 0] }
  let c := b.push { cls := .type "tuple", data := .seq #[.ref h.objs.size, .ref a.objs.size] }
  let d := c.push { cls := .type "tuple", data := .seq #[.none, .none] }
  d.push { cls := .type "zip", data := .fields #[.none, .bool false, .bool false, .ref b.objs.size, .ref c.objs.size] }
theorem zpH_size {h : Heap} {l m : Addr} : (zpH h l m).objs.size = h.objs.size + 5 := by simp only [zpH, Heap.size_push]
theorem meets_zipM (l m : Addr) (xs ys : Array Value) : Meets (Builtin.«zip.__new__» ⟨[.type "zip", .ref l, .ref m], []⟩)
    (fun _ R s => s.heap.IsTuple l xs ∧ s.heap.IsList m ys ∧ R (.ok (.ret (.ref (s.heap.objs.size + 4)))) { s with heap := zpH s.heap l m }) :=
  .of_wp fun prog w A R s g => by
    obtain ⟨hp, g0, d, tk, os⟩ := s
    obtain ⟨p1, p2, g⟩ := g
    have sz := sub_zip
    have q1 : Heap.IsTuple (Shared.heap ⟨hp, g0, d, tk, os⟩) l xs := p1
    have q2 : Heap.IsList (Shared.heap ⟨hp.push { cls := .type "tuple_iterator", data := .fields #[.ref l, .int 0 0] }, g0, d, tk, os⟩) m ys := Heap.IsList.push p2 _
    wp_walk using wpAny_pyIter_tuple q1, wpAny_pyIter_list q2
    refine ⟨_, rfl, ?_⟩
    have n4 : ∀ (a b c d : Obj), ((((hp.push a).push b).push c).push d).objs.size = hp.objs.size + 4 := fun a b c d => by simp only [Heap.size_push]
    rw [n4]
    exact g
section
variable {prog : Program} {w : World} {A : Around} {E : Value → Shared → Prop} {s : Shared}
theorem call_zipM {l m : Addr} {xs ys : Array Value} {Q : Value → Shared → Prop} (p1 : s.heap.IsTuple l xs) (p2 : s.heap.IsList m ys)
    (f : ∀ h', ZAt true false h' (s.heap.objs.size + 4) (s.heap.objs.size + 2) (s.heap.objs.size + 3) s.heap.objs.size (s.heap.objs.size + 1) l m 0 0 → (∀ c o, s.heap.get? c = some o → h'.get? c = some o) → Q (.ref (s.heap.objs.size + 4)) { s with heap := h' }) :
    wpAny (model prog w) A (call (.type "zip") [.ref l, .ref m]) Q E s := by
  refine callType_new F.called_zip (by decide) (F.typeCall_zip_2 _ _) (F.newCall_zip_2 _ _) (fun obj => F.args_object_init_3 obj _ _) F.entry_zip_new (meets_zipM l m xs ys) ⟨p1, p2, ?_⟩
  show _ ∧ _
  have here : ∀ {h : Heap} {o : Obj} {n : Nat}, h.objs.size = n → o.isFreed = false → (h.push o).get? n = some o := fun {h o n} e q => by
    subst e
    exact Heap.get?_push_size _ q
  have on : ∀ {h : Heap} {o q : Obj} {n : Nat}, h.get? n = some q → (h.push o).get? n = some q := fun {h o q n} e => Heap.get?_push_of_some _ e
  have g5 : (zpH s.heap l m).get? (s.heap.objs.size + 4) = some { cls := .type "zip", data := .fields #[.none, .bool false, .bool false, .ref (s.heap.objs.size + 2), .ref (s.heap.objs.size + 3)] } := by
    have := here (h := _) (o := { cls := .type "zip", data := .fields #[.none, .bool false, .bool false, .ref (s.heap.objs.size + 2), .ref (s.heap.objs.size + 3)] }) (n := s.heap.objs.size + 4) (show ((((s.heap.push { cls := .type "tuple_iterator", data := .fields #[.ref l, .int 0 0] }).push { cls := .type "list_iterator", data := .fields #[.ref m, .int 0 0] }).push { cls := .type "tuple", data := .seq #[.ref s.heap.objs.size, .ref (s.heap.objs.size + 1)] }).push { cls := .type "tuple", data := .seq #[.none, .none] }).objs.size = _ by simp only [Heap.size_push]) rfl
    simp only [zpH, Heap.size_push] at this ⊢
    exact this
  refine ⟨⟨_, g5, rfl⟩, f _ ⟨g5, ?_, ⟨.none, .none, ?_⟩, ?_, ?_⟩ fun c o e => on (on (on (on (on e))))⟩
  · simp only [zpH, Heap.size_push]
    exact on (on (here (by simp only [Heap.size_push]) rfl))
  · simp only [zpH, Heap.size_push]
    exact on (here (by simp only [Heap.size_push]) rfl)
  · exact ⟨_, on (on (on (on (here rfl rfl)))), rfl, rfl⟩
  · exact ⟨_, on (on (on (here (by simp only [Heap.size_push]) rfl))), rfl, rfl⟩
end
/-- the tuple at a, the list at b, their items in new pairs -/
def ItzM (K : PySem.W.Frag) (a b : Addr) : It :=
  { go := fun i H => (∃ (xs : List V) (x : V), SqT K H a xs ∧ xs[i]? = some x) ∧ ∃ (ys : List V) (y : V), SqL K H b ys ∧ ys[i]? = some y
    yld := fun i H v H' => ∃ T x y, H T = none ∧ v = .ref T ∧ (∀ xs, SqT K H a xs → xs[i]? = some x) ∧ (∀ ys, SqL K H b ys → ys[i]? = some y) ∧ H' = upd H T (.tup [x, y])
    stop := fun i H => ∃ xs ys : List V, (SqT K H a xs ∧ SqL K H b ys) ∧ (xs.length ≤ i ∨ ys.length ≤ i) }
theorem zat_in {Z P R u v c : Addr} (h : c ∈ [Z, P, R, u, v]) : c = Z ∨ c = P ∨ c = R ∨ c = u ∨ c = v := by simpa using h
theorem turn_zipM {P : Program} {w : World} {K : PySem.W.Frag} {elts : List Expr} {kk : Nat} {tpos : Pos} {a b Z I R u v : Addr} (D : ZipApart Z I R u v a b) :
    Turn P w K (.Tuple elts kk tpos) (ItzM K a b) [Z, I, R, u, v] Z (fun i h => ZAt true false h Z I R u v a b i i) where
  mem := by simp
  obj := fun i h st c hc => by
    obtain ⟨o1, e1, d1⟩ := st.u.ob
    obtain ⟨o2, e2, d2⟩ := st.v.ob
    obtain ⟨x, y, sr⟩ := st.r
    rcases zat_in hc with rfl | rfl | rfl | rfl | rfl
    · exact ⟨_, st.z, fun _ q => (by cases q)⟩
    · exact ⟨_, st.p, fun _ q => (by cases q)⟩
    · exact ⟨_, sr, fun _ q => (by cases q)⟩
    · exact ⟨o1, e1, fun _ q => by rw [d1] at q; cases q⟩
    · exact ⟨o2, e2, fun _ q => by rw [d2] at q; cases q⟩
  keep := fun i h h' st k => by
    obtain ⟨x, y, sr⟩ := st.r
    exact ⟨k _ (by simp) _ st.z, k _ (by simp) _ st.p, ⟨x, y, k _ (by simp) _ sr⟩, st.u.at fun o q => k _ (by simp) o q, st.v.at fun o q => k _ (by simp) o q⟩
  item := by
    intro X hP hw hK hc i pins s σ H E J hf st hg
    subst hP hw hK
    obtain ⟨⟨xs, x, qx, hx⟩, ys, y, qy, hy⟩ := hg
    obtain ⟨its, rv, p, _⟩ := J.tuple qx
    obtain ⟨its2, rv2, p2, _⟩ := J.list qy
    obtain ⟨m, hm, rm⟩ := rv.get hx
    obtain ⟨n, hn, rn⟩ := rv2.get hy
    have lz : Z < s.heap.objs.size := Heap.lt_size st.z
    have lt : ∀ c ∈ [Z, I, R, u, v], c < s.heap.objs.size := fun c hcm => by
      obtain ⟨o1, e1, _⟩ := st.u.ob
      obtain ⟨o2, e2, _⟩ := st.v.ob
      obtain ⟨_, _, sr⟩ := st.r
      rcases zat_in hcm with rfl | rfl | rfl | rfl | rfl
      · exact lz
      · exact Heap.lt_size st.p
      · exact Heap.lt_size sr
      · exact Heap.lt_size e1
      · exact Heap.lt_size e2
    refine zip_next_some (xs := its.toArray) (ys := its2.toArray) D st p p2.isList (x := m) (y := n) (by simpa using hm) (by simpa using hn) fun h' z1 r1 u1 v1 t1 sz kp => ?_
    refine ⟨_, rfl, wpAny_letOwnedTupleGo_zip (s := { s with heap := h' }) z1 fun h2 z2 sb => ?_⟩
    have t2 : h2.get? s.heap.objs.size = some { cls := .type "tuple", data := .seq #[m, n] } := (sb.2 _ (Nat.ne_of_gt lz)).trans t1
    have ok : ObjOk X.prog X.w (upd H s.heap.objs.size (.tup [x, y])) h2 s.heap.objs.size (.tup [x, y]) := ⟨show 2 ≤ sizeLine by decide, [m, n], .cons rm (.cons rn .nil), ⟨_, t2, rfl, _, rfl⟩⟩
    have J1 : Inv X pins σ (upd H s.heap.objs.size (.tup [x, y])) { s with heap := h2 } := J.turnedNew (t' := s.toks) (ch := [Z, I, R, u, v]) (fun c o hb q => by
      have nn : ∀ d ∈ [Z, I, R, u, v], c ≠ d := fun d hd e => hb (by rw [e]; exact hd)
      exact (sb.2 c (nn _ (by simp))).trans (kp c o (nn _ (by simp)) (nn _ (by simp)) (nn _ (by simp)) (nn _ (by simp)) q)) hf (Nat.le_refl _) ok
    refine ⟨.ref s.heap.objs.size, _, J1, rfl, ⟨_, x, y, J.hok.fresh (Nat.le_refl _), rfl, fun l hl => by rw [J.tuple_inj hl qx]; exact hx, fun l hl => by rw [J.list_inj hl qy]; exact hy, rfl⟩, ⟨z2, ?_, ⟨m, n, ?_⟩, ?_, ?_⟩, fun c hcm => ?_⟩
    · exact (sb.2 _ D.TIz).trans (kp _ _ D.TIz D.TITO D.TIi1 D.TIi2 st.p)
    · exact (sb.2 _ D.TOz).trans r1
    · exact u1.at fun o q => (sb.2 _ D.i1z).trans q
    · exact v1.at fun o q => (sb.2 _ D.i2z).trans q
    · rw [upd_ne (Nat.ne_of_lt (lt c hcm))]
      exact (hf c hcm).1
  done := by
    intro X hP hw hK hc i pins s σ H E J hf st hg
    subst hP hw hK
    obtain ⟨xs, ys, ⟨qx, qy⟩, he⟩ := hg
    obtain ⟨its, rv, p, _⟩ := J.tuple qx
    obtain ⟨its2, rv2, p2, _⟩ := J.list qy
    have l1 := rv.length
    have l2 := rv2.length
    have he' : its.toArray[i]? = none ∨ its2.toArray[i]? = none := by
      cases he with
      | inl q => exact .inl (by simp; omega)
      | inr q => exact .inr (by simp; omega)
    exact zip_next_none (J.ok.hd hc) D st p p2.isList he' fun h' kp => ⟨rfl, J.turnedL (t' := s.toks) (ch := [Z, I, R, u, v]) (fun c o hb q => by
      have nn : ∀ d ∈ [Z, I, R, u, v], c ≠ d := fun d hd e => hb (by rw [e]; exact hd)
      exact kp c o (nn _ (by simp)) (nn _ (by simp)) (nn _ (by simp)) (nn _ (by simp)) q) hf⟩
  self := fun A i s Q E st f => wpAny_pyIter_zip st.z f
def iZipM (K : PySem.W.Frag) (ta : TA) : TI := fun σ H R => ta σ H fun vs H1 => ∃ a b xs ys, vs = [.ref a, .ref b] ∧ SqT K H1 a xs ∧ SqL K H1 b ys ∧ R (ItzM K a b) H1
theorem pi_zipM {X : Cx} {e e2 : Expr} {ta : TA} {p pos tpos : Pos} {elts : List Expr} {kk : Nat} (hg : Gl X "zip") (hm : X.mg "zip" = none) (ha : PA X [e, e2] ta)
    (n1 : starEach [e, e2] X.env = (false, eval e X.env) :: starEach [e2] X.env := by rfl) (n2 : (backTo pos (starEach [e2] X.env)).any (·.1) = false := by rfl) : PI X (.Tuple elts kk tpos) (.Call (.Name "zip" p) [e, e2] [] pos) (iZipM X.K ta) := by
  refine ⟨fun pins s σ H R I h => Call_ (ld_blt I hg hm PyProof.Rows.boot_zip (PyProof.Rows.callWith_type1 (thn (ha.run pos pins s σ H _ I h) fun us s1 ⟨vs, H1, I1, r1, q1⟩ => ?_) n1 n2))⟩
  obtain ⟨a, b, xs, ys, rfl, hx, hy, q⟩ := q1
  obtain ⟨ua, ub, rfl, ra, rb⟩ := vals2 r1
  cases ra
  cases rb
  obtain ⟨its, rv, p1, _⟩ := I1.tuple hx
  obtain ⟨its2, rv2, p2, _⟩ := I1.list hy
  obtain ⟨o1, g1, _⟩ := id p1
  have p1' : s1.heap.IsTuple a its.toArray := p1
  refine call_zipM p1' p2.isList fun h' st k => wpAny_pyIter_zip st.z ?_
  have I2 : Inv X pins σ H1 { s1 with heap := h' } := I1.kept (t' := s1.toks) k
  refine ⟨_, [s1.heap.objs.size + 4, s1.heap.objs.size + 2, s1.heap.objs.size + 3, s1.heap.objs.size, s1.heap.objs.size + 1], _, _, H1, rfl, I2, turn_zipM (PySem.W.ktu_apart s1.heap.objs.size a b (Heap.lt_size g1) p2.lt), st, fun c hc => ?_, q⟩
  have le : s1.heap.objs.size ≤ c := by rcases zat_in hc with rfl | rfl | rfl | rfl | rfl <;> omega
  exact I1.fpOk le (I1.hok.fresh le)
section
variable {K : PySem.W.Frag} {G : Hp}
theorem yld_zipM {a b : Addr} {xs ys : List V} {ds es : List D} (h1 : TupAt K G a xs) (h2 : Rd G b (.lst ys)) (i1 : IsAll K G xs ds) (i2 : IsAll K G ys es) : Yld K G (ItzM K a b) (zipD ds es) := by
  have l1 := i1.length
  have l2 := i2.length
  refine ⟨fun i G' H s le hi => ?_, fun i G' H s le hi => ?_, fun i G' H x H' s le hi y => ?_⟩
  · rw [zipD_length] at hi
    exact ⟨⟨xs, xs[i], sq_tup (s.trans le) h1, by simp [show i < xs.length by omega]⟩, ys, ys[i], .inl (same_rd (s.trans le) h2), by simp [show i < ys.length by omega]⟩
  · rw [zipD_length] at hi
    exact ⟨xs, ys, ⟨sq_tup (s.trans le) h1, .inl (same_rd (s.trans le) h2)⟩, by omega⟩
  · obtain ⟨T, u, v, hT, rfl, f1, f2, rfl⟩ := y
    obtain ⟨d, d1, d2⟩ := i1.get (f1 xs (sq_tup (s.trans le) h1))
    obtain ⟨e, e1, e2⟩ := i2.get (f2 ys (.inl (same_rd (s.trans le) h2)))
    obtain ⟨G2, g1, g2, g3⟩ := yld_pair (K := K) (H' := H) le hT (d2.mono s) (e2.mono s)
    exact ⟨_, zipD_get d1 e1, G2, g1, g2, g3⟩
def zipM (as : List D) (ρ1 : DL.Env) : Out (List D) := match as with
  | [.tup ds, .lst _ es] => .ok (zipD ds es) ρ1 true
  | _ => .no
def fZipM (F : DL.Env → Out (List D)) : DL.Env → Out (List D) := fun ρ => (F ρ).bind zipM
theorem si_zipM {B : By} {W : WX} {t : TA} {F : DL.Env → Out (List D)} (h : Sat K B W (IsAR K) t F) : Sat K B W (YldR K) (iZipM K t) (fZipM F) :=
  Sat.bind (R' := YldR K) (Fu := zipM) (t := t) (u := fun vs σ H R => ∃ a b xs ys, vs = [.ref a, .ref b] ∧ SqT K H a xs ∧ SqL K H b ys ∧ R (ItzM K a b) H) h fun b Hs ωs G H ω σ ρ rel x a i Q post => by
    unfold zipM at post
    split at post
    · cases i with
      | cons i1 i =>
        cases i with
        | cons i2 i =>
          cases i
          cases i1 with
          | tup r1 a1 => cases i2 with
            | lst r2 a2 => exact ⟨_, _, _, _, rfl, sq_tup rel.le r1, .inl (same_rd rel.le r2), Post.now rel post (yld_zipM r1 r2 a1 a2)⟩
    · exact post.elim
end
theorem di_zipM {X : Cx} {B : By} {W : WX} {e e2 : Expr} {ta : TA} {F : DL.Env → Out (List D)} {p pos tpos : Pos} {elts : List Expr} {kk : Nat} (hg : Gl X "zip") (hm : X.mg "zip" = none) (ha : DA X B W [e, e2] ta F)
    (n1 : starEach [e, e2] X.env = (false, eval e X.env) :: starEach [e2] X.env := by rfl) (n2 : (backTo pos (starEach [e2] X.env)).any (·.1) = false := by rfl) :
    DI X B W (.Tuple elts kk tpos) (.Call (.Name "zip" p) [e, e2] [] pos) (iZipM X.K ta) (fZipM F) := ⟨pi_zipM hg hm ha.pa n1 n2, si_zipM ha.sat⟩
end DL
set_option Elab.async false
set_option linter.all false
set_option maxRecDepth 100000
set_option maxHeartbeats 4000000
/-! DLL3: isinstance(e, C), e a caught exception of an own class (with a dict of its own or none) -/
namespace DL
open PySem PySem.Spec PySem.Calls PyProof.Rows L2
/-- what the class D of an exception says of "__class__" -/
structure XCl (K : PySem.W.Frag) (D : Addr) : Prop where
  x : XfC K D
  c : PySem.W.findIn K (.ref D) "__class__" = some (some (.builtin "object.__class__"))
  o : PySem.W.mroIn K D (.type "object") = some true
/-- what the slot says -/
structure XSl (K : PySem.W.Frag) : Prop where
  g : PySem.W.specialIn K (.builtin "object.__class__") "__get__" = some (some (.builtin "getset_descriptor.__get__"))
  t : PySem.W.takesIn K (.builtin "object.__class__") = some true
section
variable {prog : Program} {w : World} {A : Around} {E : Value → Shared → Prop} {s : Shared} {K : PySem.W.Frag} {x D : Addr} {ox : Obj} {od : Option Obj}
theorem xcl_cls (h : XCl K D) : ∃ cd, PySem.W.clsIn K D = some cd := by
  obtain ⟨cd, hc, _⟩ := PySem.W.any_some h.x.hdC
  exact ⟨cd, hc⟩
theorem xcl_find (h : XCl K D) (q : XSl K) : PySem.W.findObj K D od "__class__" = some (.bind (.builtin "getset_descriptor.__get__") (.builtin "object.__class__")) := by
  obtain ⟨cd, hc⟩ := xcl_cls h
  unfold PySem.W.findObj
  simp only [hc, h.c, q.g, q.t, Option.bind_some]
theorem xcl_obj (h : XCl K D) {hp : Heap} (X : K.In hp) : ∃ o, hp.get? D = some o ∧ ∀ r n, o.data ≠ .seq r n := by
  obtain ⟨cd, hc⟩ := xcl_cls h
  unfold PySem.W.clsIn at hc
  split at hc
  · rename_i ho
    exact ⟨_, X _ _ ho, fun r n z => nomatch z⟩
  · cases hc
set_option maxRecDepth 200000 in
theorem xcl_get {Q : Option Value → Shared → Prop} (h : XCl K D) (q : XSl K) (X : K.In s.heap) (I : PySem.W.InstAt s.heap x ox D od) (k : Q (some (.ref D)) { s with toks := s.toks + 1 }) : wpAny (model prog w) A (getAttr? (.ref x) "__class__") Q E s := by
  obtain ⟨hp, g, d, t, os⟩ := s
  have ty := I.type (M := model prog w)
  have fa := PySem.W.looks_findIn (M := model prog w) X h.x.ga
  have fb := PySem.W.looks_findIn (M := model prog w) X h.x.gg
  have fc := PySem.W.looks_find (M := model prog w) X I (xcl_find (od := od) h q)
  have isb : PySem.W.Looks (model prog w) hp (isInstance (.ref x) (.type "BaseException")) true := ty.andThen (PySem.W.looks_subIn X h.x.exC)
  have no0 : (Value.builtin "BaseException.__getattribute__" == Value.builtin "object.__getattribute__") = false := by decide +kernel
  have no1 : ¬ ((onTheHeap (Value.ref D) && Value.builtin "BaseException.__getattribute__" == Value.builtin "object.__getattribute__") = true) := by rw [no0, Bool.and_false]; exact Bool.false_ne_true
  have no2 : ¬ ((false && onTheHeap (Value.builtin "BaseException.__getattribute__")) = true) := by decide +kernel
  unfold getAttr? getAttrBy? getAttrBy
  refine wpAny_bind (wpAny_mkText (wpAny_bind (wpAny_attempt (wpAny_holding (wpAny_bind (ty.at (wpAny_bind (fa.at ?_)))))))); dsimp only
  rw [if_neg no1]; unfold getAttrByItsOwn hookBefore
  refine wpAny_bind ?_; rw [if_pos (by rfl : onTheHeap (Value.ref D) = true)]
  refine fb.at (wpAny_bind (wpAny_attempt (wpAny_holding ?_))); unfold callGetattribute
  rw [if_neg no2]; unfold boundAndCalled; rw [PySem.F.excAttr_ValueError.ga.bind (.ref x)]
  refine wpAny_bind (wpAny_pure (show wpAny _ _ (call (.builtin "BaseException.__getattribute__") [.ref x, .str "__class__" t]) _ _ _ from ?_))
  refine wpAny_call (codeAny_call_builtin PySem.F.excAttr_ValueError.ga.plain PySem.F.entry_bexc_ga (@PySem.W.check_slot (model prog w) _ _ ⟨hp, g, d, t + 1, os⟩ "BaseException.__getattribute__" "BaseException" "__getattribute__" (.ref x) [.str "__class__" t] [] _ (by decide +kernel) (by decide +kernel) isb (PySem.F.args_bexc_ga (.ref x) (.str "__class__" t)) ?_))
  unfold Builtin.«object.__getattribute__»; refine wpAny_bind (wpAny_of_eq (a := ((Value.ref x : Value), [Value.str "__class__" t])) (by first | rfl | (simp only [PySem.W.slotArgs]; rfl)) (wpAny_bind (wpAny_pure (wpAny_bind (ty.at (wpAny_bind (fc.at ?_)))))))
  show wpAny _ _ (holding [Value.builtin "object.__class__"] (call (.builtin "getset_descriptor.__get__") [.builtin "object.__class__", .ref x, .ref D]) >>= ret) _ _ _
  refine wpAny_bind (wpAny_holding (wpAny_call (PySem.W.class_get (s := ⟨hp, g, d, t + 1, os⟩) (ox := ox) (od := od) X I h.o (wpAny_pure ?_))))
  show wpAny _ _ (handedOut (.ref D)) _ _ _
  rw [PySem.W.handedOut_of (v := .ref D) rfl]
  first
    | exact wpAny_pure (wpAny_pure k)
    | exact wpAny_pure k
    | exact wpAny_pure (wpAny_bind (wpAny_pure (wpAny_pure k)))
theorem xcl_kit (h : XCl K D) (q : XSl K) : PySem.W.KitX K (.ref x) (.ref D) (fun hp => PySem.W.InstAt hp x ox D od) := by
  refine ⟨fun _ _ _ I => I.type, fun _ _ X _ => ?_, fun hp tp dd its n sl X htp => ?_, fun X I k => xcl_get h q X I k⟩
  · obtain ⟨cd, hc⟩ := xcl_cls h
    unfold PySem.W.clsIn at hc
    split at hc
    · rename_i ho
      intro A' Q' E' s' keep r
      unfold isType loadHead; exact wpAny_bind (wpAny_loadPart (keep _ _ (X _ _ ho)) (wpAny_pure r))
    · cases hc
  · cases c : (Value.ref D == .ref tp) with
    | false => rfl
    | true =>
      obtain ⟨o, ho, no⟩ := xcl_obj h X
      cases Value.ref.inj (beq_iff_eq.mp c)
      rw [ho] at htp
      cases htp
      exact absurd rfl (no _ _)
end
/-! ### the rule -/
/-- isinstance of an instance of D against the value cv -/
structure XI1 (K : PySem.W.Frag) (D : Addr) (cv : Value) (b : Bool) : Prop where
  c : XCl K D
  k : PySem.W.kitOne K (.ref D) cv = some b
def XIs (K : PySem.W.Frag) (yes : List String) (cv : Value) (b : Bool) : Prop := XSl K ∧ ∀ n ∈ yes, ∀ C : Addr, PySem.W.nsIn K mainGlobals (n : Str) = some (some (.ref C)) → XI1 K C cv b
theorem xis_nil {K : PySem.W.Frag} {cv : Value} {b : Bool} (q : XSl K) : XIs K [] cv b := ⟨q, fun n h => by cases h⟩
theorem xis_cons {K : PySem.W.Frag} {cv : Value} {b : Bool} {n : String} {l : List String} {D : Addr} (a : PySem.W.nsIn K mainGlobals (n : Str) = some (some (.ref D))) (h : XI1 K D cv b) (r : XIs K l cv b) : XIs K (n :: l) cv b := ⟨r.1, fun m hm C hc => by
  rcases List.mem_cons.mp hm with e | e
  · subst e
    rw [a] at hc
    cases hc
    exact h
  · exact r.2 m e C hc⟩
def rIsX (K : PySem.W.Frag) (D a : Addr) (dd : Option Addr) : List V → Hp → VK → Prop := fun xs H Q => ∃ (c : V) (cv : Value) (b : Bool), xs = [.ref a, c] ∧ (∀ u, RelV c u → u = cv) ∧ PySem.W.kitOne K (.ref D) cv = some b ∧ (∀ d, dd = some d → ∃ fs, H d = some (.xd fs)) ∧ Q (.bl b) H
theorem call_isX {X : Cx} {a D : Addr} {oe : Obj} {dd : Option Addr} {pn : List (Addr × Obj)} (C : XCl X.K D) (q : XSl X.K) (hz : Zc (.ref D) dd oe) (hf : ∃ vs, oe.data = .fields vs) : CallR (X.suite a ((a, oe) :: pn)) (.builtin "isinstance") (rIsX X.K D a dd) := by
  intro pins s σ H xs us Q I r h
  obtain ⟨c, cv, b, rfl, hcv, e, hd, k⟩ := h
  obtain ⟨ua, uc, rfl, ra, rc⟩ := vals2 r
  cases ra
  have ec := hcv _ rc
  subst ec
  obtain ⟨ha, _⟩ := I.pin (a, oe) (List.mem_append_left _ List.mem_cons_self)
  obtain ⟨vs, hv⟩ := hf
  have nc : PySem.W.notCls oe = true := by unfold PySem.W.notCls; rw [hv] <;> rfl
  obtain ⟨od, J⟩ : ∃ od, PySem.W.InstAt s.heap a oe D od := by
    cases dd with
    | none => exact ⟨none, ha, hz.1, nc, by rw [hz.2]; trivial⟩
    | some d =>
      obtain ⟨fs, hfs⟩ := hd d rfl
      have hx : ObjOk X.prog X.w H s.heap d (.xd fs) := I.hok d _ hfs
      obtain ⟨mA, hns, _⟩ := hx
      obtain ⟨od, ho, _⟩ := lookIn_ns hns
      exact ⟨some od, ha, hz.1, nc, by rw [hz.2]; exact ho⟩
  exact PySem.W.kia_one (xcl_kit C q) I.kIn J e (fun z => nomatch z) fun tk => ⟨.bl b, H, I.kept (t' := tk) fun _ _ z => z, rfl, k⟩
def fIsX (b : Bool) : DL.Env → Out D := fun ρ => .ok (.bl b) ρ true
section
variable {X : Cx} {B : By} {yes : List String} {a : Addr} {oe : Obj} {cls : Value} {dd : Option Addr} {pn : List (Addr × Obj)} {c : Exn} {fs : List (Str × V)} {i : Nat} {n : Str} {v : V} {cv : Value} {b : Bool} {e2 : Expr} {p px pos : Pos}
theorem d_isX (hx : XIs X.K yes cv b) (hcv : ∀ u, RelV v u → u = cv) (he : PE (X.suite a ((a, oe) :: pn)) e2 (tC v)) (hi : X.mg "isinstance" = none) (hz : Zc cls dd oe) (hf : ∃ vs, oe.data = .fields vs) (hm : c.cls ∈ yes) (hc : ∃ C : Addr, cls = .ref C ∧ PySem.W.nsIn X.K mainGlobals (c.cls : Str) = some (some (.ref C)))
    (hg : Gl X "isinstance" := by rfl) (hN : X.N[i]? = some n := by rfl) (hv : Vis X.env.scope n := by first | exact Or.inl rfl | exact Or.inr (Or.inl rfl) | exact Or.inr (Or.inr rfl)) (hd : (n == ("__debug__" : Str)) = false := by decide) (hcd : (n == ("__classdict__" : Str)) = false := by decide)
    (s1 : starEach [.Name n px, e2] X.env = (false, eval (.Name n px) X.env) :: starEach [e2] X.env := by rfl) (s2 : starEach [e2] X.env = (false, eval e2 X.env) :: starEach [] X.env := by rfl) (hpl : (backTo pos (starEach [e2] X.env)).any (·.1) = false := by rfl) :
    DE (X.suite a ((a, oe) :: pn)) (withP B (some i) a dd fs c.fs) W0 (.Call (.Name "isinstance" p) [.Name n px, e2] [] pos) (tOfE X.K (withP B (some i) a dd fs c.fs) W0 (IsR X.K) (fIsX b)) (fIsX b) := by
  refine DE.can ?_
  obtain ⟨C, ec, en⟩ := hc
  obtain ⟨x1, x2⟩ := hx.2 _ hm C en
  subst ec
  refine ⟨_, pe_callB (call_isX x1 hx.1 hz hf) hg hi bt_isinstance (pa_cons (pe_var (X := X.suite a ((a, oe) :: pn)) hN hv hd hcd) (pa_cons he pa_nil s2) s1) (by decide) (by decide) s1 hpl, fun b' G H ω σ ρ rel Q post => ?_⟩
  have P := rel.pin ⟨i, a, dd, fs, c.fs⟩ (List.mem_cons_self ..)
  refine ⟨.ref a, by rw [rel.byr _ P.mem]; exact P.at', v, cv, b, rfl, hcv, x2, fun d hd => ?_, Post.now rel post (.bl b)⟩
  rcases P.dd with ⟨_, h1⟩ | ⟨d0, h1, h2, h3⟩
  · rw [show dd = none from h1] at hd; cases hd
  · rw [show dd = some d0 from h1] at hd
    cases hd
    exact ⟨fs, rel.old _ _ h3 h2⟩
theorem rel_ty {n : String} : ∀ u, RelV (V.ty n) u → u = Value.type n := fun _ h => h
theorem rel_ref {a : Addr} : ∀ u, RelV (V.ref a) u → u = Value.ref a := fun _ h => h
end
/-! ### repr({}) -/
def reprE (as : List D) : Res := match as with
  | [.dct _ false []] => .val (.str "{}")
  | as => reprG as
def rReprE (K : PySem.W.Frag) : List V → Hp → VK → Prop := fun xs H Q => rReprG K xs H Q ∨ ∃ a, xs = [.ref a] ∧ Rd H a (.dK []) ∧ Q (.str "{}") H
theorem call_reprE {X : Cx} (hu : X.A.units + 64 < cLine) (hg : X.A.guards = some []) : CallR X (.builtin "repr") (rReprE X.K) := by
  intro pins s σ H xs us Q I r h
  rcases h with h | ⟨a, rfl, hr, q⟩
  · exact call_reprG hu hg pins s σ H xs us Q I r h
  · obtain ⟨u, rfl, ru⟩ := vals1 r
    have ru' : u = Value.ref a := ru
    subst ru'
    obtain ⟨_, hs, vs, kv, o, es, n, ho, ex, hd, _, pr, _⟩ := dk_rd I.hok hr
    cases kv
    have el : es.toList = [] := by cases h : es.toList with
      | nil => rfl
      | cons _ _ => rw [h] at pr; cases pr
    have rd : Reads s.heap (.ref a) (.dict []) [a] := Reads.dict (as := []) (bs := []) ho ex.1 hd (by rw [el]; exact .nil) (by rw [el]; exact .nil)
    have ns : sysModules ∉ [a] := fun m => by
      rw [List.mem_singleton.mp m] at hs
      simp at hs
    have sh : PyData.shown (.dict []) = ("{}" : Str) := by rfl
    exact repr_of_reads' rd (by rfl) (fun _ => ns) hg (by show X.A.units + (1 + 1) < cLine; omega) (fun _ _ e => e) (fun h' u tk hk => ⟨.str "{}", H, I.kept (t' := tk) hk, ⟨u, by rw [sh]⟩, q⟩) (by rw [sh]; decide)
theorem reprE_v {K : PySem.W.Frag} : CallV K (rReprE K) reprE := by
  intro G H xs as le i Q post
  unfold reprE at post
  split at post
  · cases i with
    | cons i r =>
      cases r
      cases i with
      | dctK h j =>
        cases j
        exact .inr ⟨_, rfl, same_rd le h, post.here le (.str _)⟩
  · exact .inl (reprG_v G H xs as le i Q post)
@[simp] theorem reprE_dct {o : Bool} : reprE [.dct o false []] = .val (.str "{}") := (rfl)
@[simp] theorem reprE_non : reprE [.non] = reprG [.non] := (rfl)
@[simp] theorem reprE_bl {b : Bool} : reprE [.bl b] = reprG [.bl b] := (rfl)
@[simp] theorem reprE_int {b : Int} : reprE [.int b] = reprG [.int b] := (rfl)
@[simp] theorem reprE_str {b : Str} : reprE [.str b] = reprG [.str b] := (rfl)
@[simp] theorem reprE_tup {ds : List D} : reprE [.tup ds] = reprG [.tup ds] := (rfl)
@[simp] theorem reprE_lst {o : Bool} {ds : List D} : reprE [.lst o ds] = reprG [.lst o ds] := (rfl)
end DL
set_option linter.all false
set_option maxRecDepth 100000
/-! Walks on the plain: heights, sums, what is possible with given numbers of steps. No program in sight. -/
namespace HM
inductive Sp where
  | E | W | U | D
  deriving DecidableEq, Repr, Inhabited
def dx : Sp → Int
  | .E => 1 | .W => -1 | .U => 0 | .D => 0
def dh : Sp → Int
  | .E => 0 | .W => 0 | .U => 1 | .D => -1
abbrev St := Int × Int × Int
def stp (s : St) (p : Sp) : St := (s.1 + dx p, s.2.1 + dh p, s.2.2 + s.2.1 * dx p)
def run (s : St) (l : List Sp) : St := l.foldl stp s
def cnt (k : Sp) (l : List Sp) : Int := (l.filter (· == k)).length
/-- limits: heights from low to high -/
def inL (lo hi : Option Int) (h : Int) : Prop := (∀ a, lo = some a → a ≤ h) ∧ (∀ c, hi = some c → h ≤ c)
/-- every height of the path from h, h too, satisfies P -/
def stay (P : Int → Prop) (h : Int) : List Sp → Prop
  | [] => P h
  | p :: l => P h ∧ stay P (h + dh p) l
theorem stay_here {P : Int → Prop} {h : Int} {l : List Sp} (s : stay P h l) : P h := by
  cases l with
  | nil => exact s
  | cons p l => exact s.1
theorem stay_mono {P Q : Int → Prop} (m : ∀ h, P h → Q h) : ∀ {l : List Sp} {h : Int}, stay P h l → stay Q h l
  | [], _, s => m _ s
  | _ :: _, _, s => ⟨m _ s.1, stay_mono m s.2⟩
theorem stay_and {P Q : Int → Prop} : ∀ {l : List Sp} {h : Int}, stay P h l → stay Q h l → stay (fun z => P z ∧ Q z) h l
  | [], _, s, t => ⟨s, t⟩
  | _ :: _, _, s, t => ⟨⟨s.1, t.1⟩, stay_and s.2 t.2⟩
@[simp] theorem run_nil {s : St} : run s [] = s := rfl
@[simp] theorem run_cons {s : St} {p : Sp} {l : List Sp} : run s (p :: l) = run (stp s p) l := rfl
theorem run_append {s : St} {l m : List Sp} : run s (l ++ m) = run (run s l) m := List.foldl_append
theorem stay_append {P : Int → Prop} : ∀ {l m : List Sp} {x h t : Int}, stay P h (l ++ m) ↔ stay P h l ∧ stay P (run (x, h, t) l).2.1 m
  | [], m, x, h, t => ⟨fun s => ⟨stay_here s, s⟩, fun s => s.2⟩
  | p :: l, m, x, h, t => by
    have i := stay_append (P := P) (l := l) (m := m) (x := x + dx p) (h := h + dh p) (t := t + h * dx p)
    constructor
    · intro s
      exact ⟨⟨s.1, (i.mp s.2).1⟩, (i.mp s.2).2⟩
    · intro s
      exact ⟨s.1.1, i.mpr ⟨s.1.2, s.2⟩⟩
@[simp] theorem cnt_nil {k : Sp} : cnt k [] = 0 := rfl
theorem cnt_cons {k p : Sp} {l : List Sp} : cnt k (p :: l) = (if p = k then 1 else 0) + cnt k l := by
  unfold cnt
  by_cases c : p = k
  · have : (p == k) = true := by simpa using c
    simp [List.filter, this, c]
    omega
  · have : (p == k) = false := by simpa using c
    simp [List.filter, this, c]
theorem cnt_append {k : Sp} {l m : List Sp} : cnt k (l ++ m) = cnt k l + cnt k m := by unfold cnt; simp
theorem cnt_nn {k : Sp} {l : List Sp} : 0 ≤ cnt k l := by unfold cnt; omega
theorem cnt_len : ∀ {l : List Sp}, cnt .E l + cnt .W l + cnt .U l + cnt .D l = l.length
  | [] => rfl
  | p :: l => by
    have := cnt_len (l := l)
    rw [cnt_cons, cnt_cons, cnt_cons, cnt_cons, List.length_cons]
    cases p <;> simp <;> omega
/-- where a path ends -/
theorem run_x : ∀ {l : List Sp} {s : St}, (run s l).1 = s.1 + (cnt .E l - cnt .W l)
  | [], s => by simp
  | p :: l, s => by
    rw [run_cons, run_x, cnt_cons, cnt_cons]
    cases p <;> simp [stp, dx] <;> omega
theorem run_h : ∀ {l : List Sp} {s : St}, (run s l).2.1 = s.2.1 + (cnt .U l - cnt .D l)
  | [], s => by simp
  | p :: l, s => by
    rw [run_cons, run_h, cnt_cons, cnt_cons]
    cases p <;> simp [stp, dh] <;> omega
/-- a path's effect does not hang on where it starts -/
theorem run_from : ∀ {l : List Sp} {x h s : Int}, (run (x, h, s) l).2.2 = s + h * (cnt .E l - cnt .W l) + (run (0, 0, 0) l).2.2 := by
  have gen : ∀ (l : List Sp) (x h s y k t : Int), (run (x, h, s) l).2.2 = s + (h - k) * (cnt .E l - cnt .W l) + ((run (y, k, t) l).2.2 - t) := by
    intro l
    induction l with
    | nil => intro x h s y k t; simp
    | cons p l ih =>
      intro x h s y k t
      rw [run_cons, run_cons, cnt_cons, cnt_cons]
      unfold stp
      dsimp only
      rw [ih _ _ _ (y + dx p) (k + dh p) (t + k * dx p)]
      cases p <;> simp [dx, dh] <;> grind
  intro l x h s
  have := gen l x h s 0 0 0
  rw [this]
  simp
/-- the least and the greatest height -/
theorem heights : ∀ (l : List Sp) (h : Int), ∃ m M : Int, stay (fun z => m ≤ z ∧ z ≤ M) h l ∧ (∀ P : Int → Prop, stay P h l → P m ∧ P M) ∧ m ≤ h ∧ h ≤ M ∧ M ≤ h + cnt .U l ∧ h - cnt .D l ≤ m ∧ M - m ≤ max (cnt .U l) (cnt .D l)
  | [], h => ⟨h, h, ⟨Int.le_refl _, Int.le_refl _⟩, fun P s => ⟨s, s⟩, by simp⟩
  | p :: l, h => by
    obtain ⟨m, M, h1, h2, h3, h4, h5, h6, h7⟩ := heights l (h + dh p)
    refine ⟨min h m, max h M, ⟨by omega, stay_mono (fun z hz => by omega) h1⟩, fun P s => ⟨?_, ?_⟩, by omega, by omega, ?_⟩
    · rcases (show min h m = h ∨ min h m = m by omega) with e | e <;> rw [e]
      · exact s.1
      · exact (h2 P s.2).1
    · rcases (show max h M = h ∨ max h M = M by omega) with e | e <;> rw [e]
      · exact s.1
      · exact (h2 P s.2).2
    · have := cnt_nn (k := .U) (l := l)
      have := cnt_nn (k := .D) (l := l)
      rw [cnt_cons, cnt_cons]
      cases p <;> simp [dh] at * <;> omega
theorem mul_le {a b c : Int} (h : 0 ≤ a) (k : b ≤ c) : a * b ≤ a * c := Int.mul_le_mul_of_nonneg_left k h
/-- the sum of a path between two heights -/
theorem sum_between : ∀ {l : List Sp} {x h s m M : Int}, stay (fun z => m ≤ z ∧ z ≤ M) h l → s + cnt .E l * m - cnt .W l * M ≤ (run (x, h, s) l).2.2 ∧ (run (x, h, s) l).2.2 ≤ s + cnt .E l * M - cnt .W l * m
  | [], x, h, s, m, M, _ => by simp
  | p :: l, x, h, s, m, M, st => by
    obtain ⟨⟨a, b⟩, c⟩ := st
    have i := sum_between (x := x + dx p) (s := s + h * dx p) c
    rw [run_cons, cnt_cons, cnt_cons]
    unfold stp
    dsimp only
    cases p <;> simp [dx, dh, Int.add_mul] at i ⊢ <;> omega
/-! ### what the counts allow -/
def cap (n : Int) : Option Int → Int
  | none => n
  | some l => min n l
def addO : Option Int → Option Int → Option Int
  | some a, some c => some (a + c)
  | _, _ => none
/-- counts, and the room below and above -/
structure Cn where
  e : Int
  w : Int
  u : Int
  d : Int
def spanC (k : Cn) (a c : Option Int) : Int := cap (max k.u k.d) (addO a c)
def hiC (k : Cn) (a c : Option Int) : Int :=
  if k.w ≤ k.e then (k.e - k.w) * cap k.u c + k.w * spanC k a c else (k.w - k.e) * cap k.d a + k.e * spanC k a c
def loC (k : Cn) (a c : Option Int) : Int :=
  if k.w ≤ k.e then -((k.e - k.w) * cap k.d a + k.w * spanC k a c) else -((k.w - k.e) * cap k.u c + k.e * spanC k a c)
def cn (l : List Sp) : Cn := ⟨cnt .E l, cnt .W l, cnt .U l, cnt .D l⟩
def room (a c : Option Int) (z : Int) : Prop := (∀ a', a = some a' → -a' ≤ z) ∧ (∀ c', c = some c' → z ≤ c')
theorem sum_room {l : List Sp} {a c : Option Int} {x t : Int} (st : stay (room a c) 0 l) : loC (cn l) a c ≤ (run (x, 0, t) l).2.2 - t ∧ (run (x, 0, t) l).2.2 - t ≤ hiC (cn l) a c := by
  obtain ⟨m, M, h1, h2, h3, h4, h5, h6, h7⟩ := heights l 0
  obtain ⟨r1, r2⟩ := h2 _ st
  have b := sum_between (x := x) (s := t) h1
  have hM : M ≤ cap (cn l).u c := by
    unfold cap cn
    cases c with
    | none => dsimp only; omega
    | some c' => have := r2.2 c' rfl; dsimp only; omega
  have hm : -m ≤ cap (cn l).d a := by
    unfold cap cn
    cases a with
    | none => dsimp only; omega
    | some a' => have := r1.1 a' rfl; dsimp only; omega
  have hs : M - m ≤ spanC (cn l) a c := by
    unfold spanC cap addO cn
    cases a with
    | none => dsimp only; omega
    | some a' =>
      cases c with
      | none => dsimp only; omega
      | some c' => have := r1.1 a' rfl; have := r2.2 c' rfl; dsimp only; omega
  have e0 := cnt_nn (k := .E) (l := l)
  have w0 := cnt_nn (k := .W) (l := l)
  unfold loC hiC
  generalize spanC (cn l) a c = R at *
  generalize cap (cn l).u c = T at *
  generalize cap (cn l).d a = B at *
  unfold cn
  dsimp only
  generalize cnt .E l = e at *
  generalize cnt .W l = w at *
  have f1 : e * M - w * m = (e - w) * M + w * (M - m) := by grind
  have f2 : e * M - w * m = (w - e) * (-m) + e * (M - m) := by grind
  have f3 : e * m - w * M = -((e - w) * (-m) + w * (M - m)) := by grind
  have f4 : e * m - w * M = -((w - e) * M + e * (M - m)) := by grind
  split
  · have g1 := mul_le (by omega : 0 ≤ e - w) hM
    have g2 := mul_le w0 hs
    have g3 := mul_le (by omega : 0 ≤ e - w) hm
    constructor <;> omega
  · have g1 := mul_le (by omega : 0 ≤ w - e) hm
    have g2 := mul_le e0 hs
    have g3 := mul_le (by omega : 0 ≤ w - e) hM
    constructor <;> omega
end HM
set_option linter.all false
set_option maxRecDepth 100000
/-! Rows of runs; the construction of a row with given counts and a given sum. -/
namespace HM
abbrev Rw := Sp × Int
def aft (s : St) (r : Rw) : St := (s.1 + r.2 * dx r.1, s.2.1 + r.2 * dh r.1, s.2.2 + s.2.1 * (r.2 * dx r.1))
def aftL (s : St) (l : List Rw) : St := l.foldl aft s
@[simp] theorem aftL_nil {s : St} : aftL s [] = s := rfl
@[simp] theorem aftL_cons {s : St} {r : Rw} {l : List Rw} : aftL s (r :: l) = aftL (aft s r) l := rfl
theorem aftL_append {s : St} {l m : List Rw} : aftL s (l ++ m) = aftL (aftL s l) m := List.foldl_append
/-- heights at the ends of runs -/
def stayR (P : Int → Prop) (h : Int) : List Rw → Prop
  | [] => P h
  | r :: l => P h ∧ stayR P (h + r.2 * dh r.1) l
def ex1 (r : Rw) : List Sp := List.replicate r.2.toNat r.1
def ex (l : List Rw) : List Sp := l.flatMap ex1
@[simp] theorem ex_nil : ex [] = [] := rfl
@[simp] theorem ex_cons {r : Rw} {l : List Rw} : ex (r :: l) = ex1 r ++ ex l := rfl
theorem run_rep {p : Sp} : ∀ {n : Nat} {s : St}, run s (List.replicate n p) = aft s (p, (n : Int))
  | 0, s => by simp [aft]
  | n + 1, s => by
    rw [List.replicate_succ, run_cons, run_rep]
    unfold aft stp
    cases p <;> simp [dx, dh] <;> grind
theorem run_ex1 {r : Rw} {s : St} (h : 0 ≤ r.2) : run s (ex1 r) = aft s r := by
  unfold ex1
  rw [run_rep]
  obtain ⟨p, n⟩ := r
  dsimp only at *
  rw [Int.toNat_of_nonneg h]
theorem run_ex : ∀ {l : List Rw} {s : St}, (∀ r ∈ l, 0 ≤ r.2) → run s (ex l) = aftL s l
  | [], s, _ => rfl
  | r :: l, s, h => by
    rw [ex_cons, run_append, run_ex1 (h r (List.mem_cons_self ..)), run_ex fun q hq => h q (List.mem_cons_of_mem _ hq)]
    rfl
def Convex (P : Int → Prop) : Prop := ∀ a b z, P a → P b → a ≤ z → z ≤ b → P z
theorem inL_convex {lo hi : Option Int} : Convex (inL lo hi) := fun a b z ha hb h1 h2 => ⟨fun q e => by have := ha.1 q e; omega, fun q e => by have := hb.2 q e; omega⟩
theorem room_convex {a c : Option Int} : Convex (room a c) := fun x y z ha hb h1 h2 => ⟨fun q e => by have := ha.1 q e; omega, fun q e => by have := hb.2 q e; omega⟩
theorem stay_rep {P : Int → Prop} (cv : Convex P) {p : Sp} : ∀ {n : Nat} {h : Int}, P h → P (h + n * dh p) → stay P h (List.replicate n p)
  | 0, h, a, _ => a
  | n + 1, h, a, b => by
    rw [List.replicate_succ]
    refine ⟨a, ?_⟩
    have m : P (h + dh p) := by
      cases p <;> simp [dh] at b ⊢
      · exact a
      · exact a
      · exact cv _ _ _ a b (by omega) (by omega)
      · exact cv _ _ _ b a (by omega) (by omega)
    refine stay_rep cv m ?_
    have e : h + dh p + n * dh p = h + ((n + 1 : Nat) : Int) * dh p := by push_cast; rw [Int.add_mul]; omega
    rw [e]; exact b
theorem stay_rep' {P : Int → Prop} {p : Sp} : ∀ {n : Nat} {h : Int}, stay P h (List.replicate n p) → P (h + n * dh p)
  | 0, h, a => by have a' : P h := a; simpa using a'
  | n + 1, h, a => by
    rw [List.replicate_succ] at a
    have := stay_rep' a.2
    have e : h + dh p + n * dh p = h + ((n + 1 : Nat) : Int) * dh p := by push_cast; rw [Int.add_mul]; omega
    rw [e] at this; exact this
theorem stay_ex {P : Int → Prop} (cv : Convex P) : ∀ {l : List Rw} {h : Int}, (∀ r ∈ l, 0 ≤ r.2) → (stay P h (ex l) ↔ stayR P h l)
  | [], h, _ => Iff.rfl
  | r :: l, h, k => by
    have k1 := k r (List.mem_cons_self ..)
    have i := stay_ex cv (l := l) (h := h + r.2 * dh r.1) fun q hq => k q (List.mem_cons_of_mem _ hq)
    rw [ex_cons, stay_append (x := 0) (t := 0), run_ex1 k1]
    have e : (aft (0, h, 0) r).2.1 = h + r.2 * dh r.1 := rfl
    rw [e, i]
    constructor
    · intro ⟨s, t⟩
      exact ⟨stay_here s, t⟩
    · intro ⟨s, t⟩
      refine ⟨?_, t⟩
      have q : P (h + r.2 * dh r.1) := by cases l <;> first | exact t | exact t.1
      unfold ex1
      refine stay_rep cv s ?_
      rw [Int.toNat_of_nonneg k1]; exact q
def cntR (k : Sp) (l : List Rw) : Int := ((l.filter (·.1 == k)).map (·.2)).sum
@[simp] theorem cntR_nil {k : Sp} : cntR k [] = 0 := rfl
theorem cntR_cons {k : Sp} {r : Rw} {l : List Rw} : cntR k (r :: l) = (if r.1 = k then r.2 else 0) + cntR k l := by
  unfold cntR
  by_cases c : r.1 = k
  · have : (r.1 == k) = true := by simpa using c
    simp [List.filter, this, c]
  · have : (r.1 == k) = false := by simpa using c
    simp [List.filter, this, c]
theorem cntR_append {k : Sp} {l m : List Rw} : cntR k (l ++ m) = cntR k l + cntR k m := by unfold cntR; simp
theorem cnt_rep {k p : Sp} {n : Nat} : cnt k (List.replicate n p) = if p = k then (n : Int) else 0 := by
  induction n with
  | zero => simp
  | succ n ih =>
    rw [List.replicate_succ, cnt_cons, ih]
    split <;> omega
theorem cnt_ex {k : Sp} : ∀ {l : List Rw}, (∀ r ∈ l, 0 ≤ r.2) → cnt k (ex l) = cntR k l
  | [], _ => rfl
  | r :: l, h => by
    have h1 := h r (List.mem_cons_self ..)
    rw [ex_cons, cnt_append, cntR_cons, cnt_ex fun q hq => h q (List.mem_cons_of_mem _ hq)]
    unfold ex1
    rw [cnt_rep]
    split <;> omega
/-! ### the construction -/
structure Bl where
  k : Cn
  span : Int
  rise : Int
  top : Int
  bottom : Int
  spare : Nat
  eT : Int
  wB : Int
  rest : Int
  single : Option Sp
  eB : Int
  wT : Int
def Bl.off (b : Bl) : Int := match b.single with
  | none => 0
  | some .E => b.rest
  | some _ => b.span - b.rest
def Bl.one (b : Bl) : List Rw := match b.single with
  | none => []
  | some p => [(p, 1)]
def pairs : Nat → List Rw
  | 0 => []
  | n + 1 => (.U, 1) :: (.D, 1) :: pairs n
def Bl.atB (b : Bl) : List Rw := [(.E, b.eB), (.W, b.wB)] ++ pairs b.spare
def Bl.atT (b : Bl) : List Rw := [(.E, b.eT), (.W, b.wT)]
def Bl.bf (b : Bl) : List Rw := [(.D, -b.bottom)] ++ b.atB ++ [(.U, b.off)] ++ b.one ++ [(.U, b.span - b.off)] ++ b.atT ++ [(.D, b.top - b.rise)]
def Bl.tf (b : Bl) : List Rw := [(.U, b.top)] ++ b.atT ++ [(.D, b.span - b.off)] ++ b.one ++ [(.D, b.off)] ++ b.atB ++ [(.U, b.rise - b.bottom)]
def Bl.rows (b : Bl) : List Rw := if 0 ≤ b.rise then b.bf else b.tf
/-- what the builder's numbers are -/
def mkB (k : Cn) (S : Int) (a c : Option Int) : Bl :=
  let R := spanC k a c
  let T := if (0 ≤ S ↔ k.w ≤ k.e) then cap k.u c else -cap k.d a + R
  let B := if (0 ≤ S ↔ k.w ≤ k.e) then cap k.u c - R else -cap k.d a
  let lift := S - (k.e * B - k.w * T)
  let full := if 0 < R then lift / R else 0
  let rest := if 0 < R then lift % R else 0
  let eT := min k.e full
  let wB := full - eT
  let sg := if 0 < rest then (if eT < k.e then some Sp.E else some Sp.W) else none
  ⟨k, R, k.u - k.d, T, B, (max k.u k.d - R).toNat, eT, wB, rest, sg, k.e - eT - (if sg = some .E then 1 else 0), k.w - wB - (if sg = some .W then 1 else 0)⟩
theorem aftL_pairs : ∀ {n : Nat} {s : St}, aftL s (pairs n) = s
  | 0, s => rfl
  | n + 1, s => by
    show aftL (aft (aft s (.U, 1)) (.D, 1)) (pairs n) = s
    rw [aftL_pairs]
    obtain ⟨x, h, t⟩ := s
    have e : h + 1 + -1 = h := by omega
    simp [aft, dx, dh, e]
theorem stay_pairs {P : Int → Prop} : ∀ {n : Nat} {h : Int}, P h → (0 < n → P (h + 1)) → stayR P h (pairs n)
  | 0, h, a, _ => a
  | n + 1, h, a, b => by
    refine ⟨a, ?_, ?_⟩
    · simpa [dh] using b (by omega)
    · have e : h + 1 * dh .U + 1 * dh .D = h := by simp [dh]; omega
      show stayR P (h + 1 * dh .U + 1 * dh .D) (pairs n)
      rw [e]
      exact stay_pairs a fun _ => b (by omega)
theorem cnt_pairs {k : Sp} : ∀ {n : Nat}, cntR k (pairs n) = if k = .U ∨ k = .D then (n : Int) else 0
  | 0 => by simp [pairs]
  | n + 1 => by
    rw [pairs, cntR_cons, cntR_cons, cnt_pairs]
    cases k <;> simp <;> omega
theorem len_pairs : ∀ {n : Nat}, (pairs n).length = 2 * n
  | 0 => rfl
  | n + 1 => by rw [pairs, List.length_cons, List.length_cons, len_pairs]; omega
theorem nn_pairs : ∀ {n : Nat}, ∀ r ∈ pairs n, 0 ≤ r.2
  | 0, r, h => by cases h
  | n + 1, r, h => by
    rw [pairs] at h
    rcases List.mem_cons.mp h with rfl | h
    · decide
    · rcases List.mem_cons.mp h with rfl | h
      · decide
      · exact nn_pairs r h
theorem stayR_append {P : Int → Prop} : ∀ {l m : List Rw} {h : Int}, stayR P h (l ++ m) ↔ stayR P h l ∧ stayR P (aftL (0, h, 0) l).2.1 m := by
  have gen : ∀ {l m : List Rw} {x h t : Int}, stayR P h (l ++ m) ↔ stayR P h l ∧ stayR P (aftL (x, h, t) l).2.1 m := by
    intro l
    induction l with
    | nil =>
      intro m x h t
      refine ⟨fun s => ⟨?_, s⟩, fun s => s.2⟩
      cases m with
      | nil => exact s
      | cons r m => exact s.1
    | cons r l ih =>
      intro m x h t
      rw [List.cons_append]
      show (P h ∧ stayR P (h + r.2 * dh r.1) (l ++ m)) ↔ (P h ∧ stayR P (h + r.2 * dh r.1) l) ∧ stayR P (aftL (aft (x, h, t) r) l).2.1 m
      rw [ih (x := x + r.2 * dx r.1) (t := t + h * (r.2 * dx r.1))]
      exact and_assoc.symm
  intro l m h
  exact gen
/-- what holds of the builder's numbers when the counts, the sum and the rooms fit -/
structure Fit (k : Cn) (S : Int) (a c : Option Int) : Prop where
  e : 0 ≤ k.e
  w : 0 ≤ k.w
  u : 0 ≤ k.u
  d : 0 ≤ k.d
  a0 : ∀ z, a = some z → 0 ≤ z
  c0 : ∀ z, c = some z → 0 ≤ z
  fin : room a c (k.u - k.d)
  has : addO a c ≠ some 0 ∨ (k.u = 0 ∧ k.d = 0)
  lo : loC k a c ≤ S
  hi : S ≤ hiC k a c
structure Good (b : Bl) (k : Cn) (S : Int) (a c : Option Int) : Prop where
  hk : b.k = k
  R0 : 0 ≤ b.span
  B0 : b.bottom ≤ 0
  T0 : 0 ≤ b.top
  TB : b.top = b.bottom + b.span
  rB : b.bottom ≤ k.u - k.d
  rT : k.u - k.d ≤ b.top
  hr : b.rise = k.u - k.d
  inT : ∀ z, c = some z → b.top ≤ z
  inB : ∀ z, a = some z → -z ≤ b.bottom
  sp : (b.spare : Int) = max k.u k.d - b.span
  sp1 : 0 < b.spare → 0 < b.span
  eT0 : 0 ≤ b.eT
  wB0 : 0 ≤ b.wB
  eB0 : 0 ≤ b.eB
  wT0 : 0 ≤ b.wT
  off0 : 0 ≤ b.off
  off1 : b.off ≤ b.span
  ce : b.eT + b.eB + (if b.single = some .E then 1 else 0) = k.e
  cw : b.wT + b.wB + (if b.single = some .W then 1 else 0) = k.w
  sg : b.single = none ∨ b.single = some .E ∨ b.single = some .W
  sum : (b.eB - b.wB) * b.bottom + (b.eT - b.wT) * b.top + (if b.single = some .E then b.bottom + b.off else if b.single = some .W then -(b.bottom + b.off) else 0) = S
theorem mkB_good {k : Cn} {S : Int} {a c : Option Int} (f : Fit k S a c) : Good (mkB k S a c) k S a c := by
  obtain ⟨e0, w0, u0, d0, a0, c0, ⟨fa, fc⟩, has, lo, hi⟩ := f
  obtain ⟨e, w, u, d⟩ := k
  dsimp only at *
  -- the three heights
  have hT : cap u c ≤ u ∧ 0 ≤ cap u c ∧ (∀ z, c = some z → cap u c ≤ z) ∧ (cap u c = u ∨ c = some (cap u c)) := by
    cases c with
    | none => simp [cap]; omega
    | some z => have := c0 z rfl; simp [cap]; omega
  have hB : cap d a ≤ d ∧ 0 ≤ cap d a ∧ (∀ z, a = some z → cap d a ≤ z) ∧ (cap d a = d ∨ a = some (cap d a)) := by
    cases a with
    | none => simp [cap]; omega
    | some z => have := a0 z rfl; simp [cap]; omega
  have hR : spanC ⟨e, w, u, d⟩ a c ≤ max u d ∧ 0 ≤ spanC ⟨e, w, u, d⟩ a c ∧ cap u c ≤ spanC ⟨e, w, u, d⟩ a c ∧ cap d a ≤ spanC ⟨e, w, u, d⟩ a c ∧ (∀ z, a = some z → spanC ⟨e, w, u, d⟩ a c - cap u c ≤ z) ∧ (∀ z, c = some z → spanC ⟨e, w, u, d⟩ a c - cap d a ≤ z) ∧
      cap u c - spanC ⟨e, w, u, d⟩ a c ≤ u - d ∧ u - d ≤ spanC ⟨e, w, u, d⟩ a c - cap d a ∧ (spanC ⟨e, w, u, d⟩ a c < max u d → 0 < spanC ⟨e, w, u, d⟩ a c) ∧ u - d ≤ cap u c ∧ -cap d a ≤ u - d := by
    unfold spanC
    cases a with
    | none =>
      cases c with
      | none => simp [cap, addO]; omega
      | some c' => have := c0 c' rfl; have := fc c' rfl; simp [cap, addO]; omega
    | some a' =>
      have := a0 a' rfl; have := fa a' rfl
      cases c with
      | none => simp [cap, addO]; omega
      | some c' => have := c0 c' rfl; have := fc c' rfl; simp [cap, addO] at has ⊢; omega
  unfold loC hiC at *
  dsimp only at lo hi
  unfold mkB
  dsimp only
  generalize spanC ⟨e, w, u, d⟩ a c = R at *
  generalize cap u c = T0 at *
  generalize cap d a = B0 at *
  obtain ⟨t1, t2, t3, t4⟩ := hT
  obtain ⟨b1, b2, b3, b4⟩ := hB
  obtain ⟨r1, r2, r3, r4, r5, r6, r7, r8, r9, r10, r11⟩ := hR
  -- the two ends
  have ends : ∃ T B : Int, (if (0 ≤ S ↔ w ≤ e) then T0 else -B0 + R) = T ∧ (if (0 ≤ S ↔ w ≤ e) then T0 - R else -B0) = B ∧ T = B + R ∧ B ≤ 0 ∧ 0 ≤ T ∧ B ≤ u - d ∧ u - d ≤ T ∧ (∀ z, c = some z → T ≤ z) ∧ (∀ z, a = some z → -z ≤ B) ∧ e * B - w * T ≤ S ∧ S ≤ e * T - w * B := by
    by_cases q : (0 ≤ S ↔ w ≤ e)
    · refine ⟨T0, T0 - R, by rw [if_pos q], by rw [if_pos q], by omega, by omega, by omega, by omega, by omega, t3, fun z hz => by have := r5 z hz; omega, ?_, ?_⟩
      · by_cases we : w ≤ e
        · have := mul_le (by omega : 0 ≤ e - w) r3
          have g1 : 0 ≤ w * R := Int.mul_nonneg w0 r2
          have g2 : e * (T0 - R) - w * T0 = (e - w) * T0 - e * R := by grind
          have g3 : (e - w) * R - e * R = -(w * R) := by grind
          have := q.mpr we
          omega
        · rw [if_neg we] at lo
          have g2 : e * (T0 - R) - w * T0 = -((w - e) * T0 + e * R) := by grind
          omega
      · by_cases we : w ≤ e
        · rw [if_pos we] at hi
          have g2 : e * T0 - w * (T0 - R) = (e - w) * T0 + w * R := by grind
          omega
        · have := mul_le (by omega : 0 ≤ w - e) r3
          have g1 : 0 ≤ e * R := Int.mul_nonneg e0 r2
          have g2 : e * T0 - w * (T0 - R) = w * R - (w - e) * T0 := by grind
          have g3 : w * R - (w - e) * R = e * R := by grind
          have : ¬ 0 ≤ S := fun z => we (q.mp z)
          omega
    · refine ⟨-B0 + R, -B0, by rw [if_neg q], by rw [if_neg q], by omega, by omega, by omega, by omega, by omega, fun z hz => by have := r6 z hz; omega, fun z hz => by have := b3 z hz; omega, ?_, ?_⟩
      · by_cases we : w ≤ e
        · rw [if_pos we] at lo
          have g2 : e * (-B0) - w * (-B0 + R) = -((e - w) * B0 + w * R) := by grind
          omega
        · have := mul_le (by omega : 0 ≤ w - e) r4
          have g1 : 0 ≤ e * R := Int.mul_nonneg e0 r2
          have g2 : e * (-B0) - w * (-B0 + R) = (w - e) * B0 - w * R := by grind
          have g3 : (w - e) * R - w * R = -(e * R) := by grind
          have : 0 ≤ S := Decidable.byContradiction fun z => q ⟨fun y => absurd y z, fun y => absurd y we⟩
          omega
      · by_cases we : w ≤ e
        · have := mul_le (by omega : 0 ≤ e - w) r4
          have g1 : 0 ≤ w * R := Int.mul_nonneg w0 r2
          have g2 : e * (-B0 + R) - w * (-B0) = e * R - (e - w) * B0 := by grind
          have g3 : e * R - (e - w) * R = w * R := by grind
          have : ¬ 0 ≤ S := fun z => q ⟨fun _ => we, fun _ => z⟩
          omega
        · rw [if_neg we] at hi
          have g2 : e * (-B0 + R) - w * (-B0) = (w - e) * B0 + e * R := by grind
          omega
  obtain ⟨T, B, hT, hB, TB, B0', T0', rB, rT, inT, inB, lo', hi'⟩ := ends
  rw [hT, hB]
  -- the lift
  have lift0 : 0 ≤ S - (e * B - w * T) := by omega
  have lift1 : S - (e * B - w * T) ≤ (e + w) * R := by
    have : e * T - w * B - (e * B - w * T) = (e + w) * R := by rw [TB]; grind
    omega
  generalize hL : S - (e * B - w * T) = L at *
  have hS : S = e * B - w * T + L := by omega
  have parts : ∃ full rest : Int, (if 0 < R then L / R else 0) = full ∧ (if 0 < R then L % R else 0) = rest ∧ L = full * R + rest ∧ 0 ≤ rest ∧ (0 < rest → rest < R) ∧ 0 ≤ full ∧ full ≤ e + w ∧ (0 < rest → full < e + w) := by
    by_cases hR : 0 < R
    · refine ⟨L / R, L % R, by rw [if_pos hR], by rw [if_pos hR], ?_, Int.emod_nonneg _ (by omega), fun _ => Int.emod_lt_of_pos _ hR, Int.ediv_nonneg lift0 r2, ?_, ?_⟩
      · have := Int.mul_ediv_add_emod L R
        have e2 : R * (L / R) = L / R * R := Int.mul_comm _ _
        omega
      · have : L / R ≤ ((e + w) * R) / R := Int.ediv_le_ediv hR lift1
        rwa [Int.mul_ediv_cancel _ (by omega)] at this
      · intro h
        have e1 := Int.mul_ediv_add_emod L R
        have e2 : R * (L / R) = L / R * R := Int.mul_comm _ _
        have e3 : L / R * R < (e + w) * R := by omega
        exact Int.lt_of_mul_lt_mul_right e3 r2
    · have z : R = 0 := by omega
      subst z
      refine ⟨0, 0, by simp, by simp, ?_, by omega, by omega, by omega, by omega, by omega⟩
      simp at lift1
      omega
  obtain ⟨full, rest, hf, hr, hL2, p1, p2, p3, p4, p5⟩ := parts
  rw [hf, hr]
  clear hf hr
  have eq1 : full * R = min e full * R + (full - min e full) * R := by grind
  generalize hm : min e full = eT at *
  have m1 : eT ≤ e := by omega
  have m2 : eT ≤ full := by omega
  have m3 : full - eT ≤ w := by omega
  have m4 : 0 ≤ eT := by omega
  by_cases hr0 : 0 < rest
  · have q1 := p2 hr0
    have q2 := p5 hr0
    by_cases hE : eT < e
    · have m5 : full - eT = 0 := by omega
      rw [m5] at eq1 m3 ⊢
      refine ⟨rfl, r2, B0', T0', TB, rB, rT, rfl, inT, inB, ?_, ?_, m4, ?_, ?_, ?_, ?_, ?_, ?_, ?_, ?_, ?_⟩ <;> simp [hr0, hE, Bl.off, -Int.toNat_sub] <;> first | omega | (rw [TB] at hS ⊢; rw [hS, hL2, eq1]; grind)
    · have m5 : ¬ eT < e := hE
      refine ⟨rfl, r2, B0', T0', TB, rB, rT, rfl, inT, inB, ?_, ?_, m4, ?_, ?_, ?_, ?_, ?_, ?_, ?_, ?_, ?_⟩ <;> simp [hr0, hE, Bl.off, -Int.toNat_sub] <;> first | omega | (rw [TB] at hS ⊢; rw [hS, hL2, eq1]; grind)
  · have z : rest = 0 := by omega
    subst z
    refine ⟨rfl, r2, B0', T0', TB, rB, rT, rfl, inT, inB, ?_, ?_, m4, ?_, ?_, ?_, ?_, ?_, ?_, ?_, ?_, ?_⟩ <;> simp [Bl.off, -Int.toNat_sub] <;> first | omega | (rw [TB] at hS ⊢; rw [hS, hL2, eq1]; grind)
end HM
set_option linter.all false
set_option maxRecDepth 100000
namespace HM
theorem cntR_one {k p : Sp} {n : Int} : cntR k [(p, n)] = if p = k then n else 0 := by rw [cntR_cons]; simp
theorem stayR_pairs' {P : Int → Prop} {n : Nat} {h : Int} {m : List Rw} (a : P h) (b : 0 < n → P (h + 1)) (c : stayR P h m) : stayR P h (pairs n ++ m) := by
  rw [stayR_append, aftL_pairs]
  exact ⟨stay_pairs a b, c⟩
section
variable {b : Bl} {k : Cn} {S : Int} {a c : Option Int}
theorem Good.one (g : Good b k S a c) : (b.one = [] ∧ b.single = none) ∨ (b.one = [(.E, 1)] ∧ b.single = some .E) ∨ (b.one = [(.W, 1)] ∧ b.single = some .W) := by
  rcases g.sg with h | h | h
  · exact .inl ⟨by unfold Bl.one; rw [h], h⟩
  · exact .inr (.inl ⟨by unfold Bl.one; rw [h], h⟩)
  · exact .inr (.inr ⟨by unfold Bl.one; rw [h], h⟩)
theorem Good.roomAt (g : Good b k S a c) {z : Int} (h1 : b.bottom ≤ z) (h2 : z ≤ b.top) : room a c z := ⟨fun q e => by have := g.inB q e; omega, fun q e => by have := g.inT q e; omega⟩
theorem Good.nn (g : Good b k S a c) : ∀ r ∈ b.rows, 0 ≤ r.2 := by
  have h1 := g.B0; have h2 := g.T0; have h3 := g.off0; have h4 := g.off1; have h5 := g.rT; have h6 := g.rB; have h7 := g.hr
  have h8 := g.eT0; have h9 := g.wB0; have h10 := g.eB0; have h11 := g.wT0
  have ho : ∀ r ∈ b.one, 0 ≤ r.2 := by
    rcases g.one with ⟨e, _⟩ | ⟨e, _⟩ | ⟨e, _⟩ <;> rw [e] <;> simp
  intro r hr
  unfold Bl.rows at hr
  split at hr
  · unfold Bl.bf Bl.atB Bl.atT at hr
    simp only [List.mem_append, List.mem_cons, List.not_mem_nil, or_false] at hr
    rcases hr with (((((rfl | (rfl | rfl) | hr) | rfl) | hr) | rfl) | (rfl | rfl)) | rfl <;> first | exact ho r hr | exact nn_pairs r hr | (dsimp only; omega)
  · unfold Bl.tf Bl.atB Bl.atT at hr
    simp only [List.mem_append, List.mem_cons, List.not_mem_nil, or_false] at hr
    rcases hr with (((((rfl | (rfl | rfl)) | rfl) | hr) | rfl) | (rfl | rfl) | hr) | rfl <;> first | exact ho r hr | exact nn_pairs r hr | (dsimp only; omega)
theorem Good.len (g : Good b k S a c) : b.rows.length ≤ 9 + 2 * b.spare := by
  have ho : b.one.length ≤ 1 := by rcases g.one with ⟨e, _⟩ | ⟨e, _⟩ | ⟨e, _⟩ <;> rw [e] <;> simp
  unfold Bl.rows Bl.bf Bl.tf Bl.atB Bl.atT
  split <;> simp [len_pairs] <;> omega
theorem Good.cnts (g : Good b k S a c) : cntR .E b.rows = k.e ∧ cntR .W b.rows = k.w ∧ cntR .U b.rows = k.u ∧ cntR .D b.rows = k.d := by
  have h1 := g.ce; have h2 := g.cw; have h3 := g.sp; have h4 := g.TB; have h5 := g.hr
  unfold Bl.rows Bl.bf Bl.tf Bl.atB Bl.atT
  rcases g.one with ⟨e, q⟩ | ⟨e, q⟩ | ⟨e, q⟩ <;> rw [e] <;> rw [q] at h1 h2 <;> split <;> simp [cntR_append, cntR_cons, cnt_pairs] at h1 h2 ⊢ <;> omega
theorem Good.ends (g : Good b k S a c) : aftL (0, 0, 0) b.rows = (k.e - k.w, k.u - k.d, S) := by
  have h1 := g.ce; have h2 := g.cw; have h3 := g.sp; have h4 := g.TB; have h5 := g.hr; have h6 := g.sum
  unfold Bl.rows Bl.bf Bl.tf Bl.atB Bl.atT
  rcases g.one with ⟨e, q⟩ | ⟨e, q⟩ | ⟨e, q⟩ <;> rw [e] <;> rw [q] at h1 h2 h6 <;> split <;> simp [aftL_append, aftL_pairs, aft, dx, dh] at h1 h2 h6 ⊢ <;> rw [← h1, ← h2, ← h6] <;> refine ⟨?_, ?_, ?_⟩ <;> first | omega | (rw [h4]; grind)
theorem Good.stays (g : Good b k S a c) : stayR (room a c) 0 b.rows := by
  have h1 := g.B0; have h2 := g.T0; have h3 := g.off0; have h4 := g.off1; have h5 := g.rT; have h6 := g.rB; have h7 := g.hr
  have h8 := g.TB; have h9 := g.R0
  have r0 : room a c 0 := g.roomAt (by omega) (by omega)
  have rb : room a c b.bottom := g.roomAt (by omega) (by omega)
  have rt : room a c b.top := g.roomAt (by omega) (by omega)
  have rr : room a c b.rise := g.roomAt (by omega) (by omega)
  have ro : room a c (b.bottom + b.off) := g.roomAt (by omega) (by omega)
  have rp : 0 < b.spare → room a c (b.bottom + 1) := fun h => by
    have := g.sp1 h
    exact g.roomAt (by omega) (by omega)
  have e1 : (0 : Int) + -b.bottom * -1 = b.bottom := by omega
  have e2 : b.bottom + (b.span - b.off) * 1 + b.off * 1 = b.top := by omega
  unfold Bl.rows Bl.bf Bl.tf Bl.atB Bl.atT
  split
  · have k1 : b.bottom + b.off + (b.span - b.off) = b.top := by omega
    have k2 : b.top + -(b.top - b.rise) = b.rise := by omega
    rcases g.one with ⟨e, q⟩ | ⟨e, q⟩ | ⟨e, q⟩ <;> rw [e] <;> simp only [List.append_assoc, List.cons_append, List.nil_append] <;> simp only [stayR, dh, Int.mul_zero, Int.add_zero, Int.mul_neg, Int.mul_one, Int.neg_neg, Int.zero_add] <;>
      refine ⟨r0, rb, rb, stayR_pairs' rb rp ?_⟩ <;> simp only [stayR, dh, Int.mul_zero, Int.add_zero, Int.mul_neg, Int.mul_one, Int.neg_neg, Int.zero_add, k1, k2] <;> simp only [r0, rt, ro, rb, rr, and_self]
  · have k1 : b.top + -(b.span - b.off) = b.bottom + b.off := by omega
    have k3 : b.bottom + b.off + -b.off = b.bottom := by omega
    have k2 : b.bottom + (b.rise - b.bottom) = b.rise := by omega
    rcases g.one with ⟨e, q⟩ | ⟨e, q⟩ | ⟨e, q⟩ <;> rw [e] <;> simp only [List.append_assoc, List.cons_append, List.nil_append] <;> simp only [stayR, dh, Int.mul_zero, Int.add_zero, Int.mul_neg, Int.mul_one, Int.neg_neg, Int.zero_add, k1, k3] <;>
      simp only [r0, rt, ro, rb, true_and] <;> refine stayR_pairs' rb rp ?_ <;> simp only [stayR, dh, Int.mul_one, k2] <;> simp only [r0, rt, ro, rb, rr, and_self]
end
/-- the sums of the paths with given counts between given limits: each from the least to the greatest is one -/
theorem build {k : Cn} {S : Int} {a c : Option Int} (f : Fit k S a c) : ∃ l : List Sp, cn l = k ∧ stay (room a c) 0 l ∧ run (0, 0, 0) l = (k.e - k.w, k.u - k.d, S) := by
  have g := mkB_good f
  refine ⟨ex (mkB k S a c).rows, ?_, (stay_ex room_convex g.nn).mpr g.stays, by rw [run_ex g.nn, g.ends]⟩
  obtain ⟨h1, h2, h3, h4⟩ := g.cnts
  unfold cn
  rw [cnt_ex g.nn, cnt_ex g.nn, cnt_ex g.nn, cnt_ex g.nn, h1, h2, h3, h4]
/-! ### lo is at most 0, hi at least 0 -/
theorem span_nn {k : Cn} {a c : Option Int} (u : 0 ≤ k.u) (a0 : ∀ z, a = some z → 0 ≤ z) (c0 : ∀ z, c = some z → 0 ≤ z) : 0 ≤ spanC k a c := by
  unfold spanC cap addO
  cases a with
  | none => dsimp only; omega
  | some a' =>
    cases c with
    | none => dsimp only; omega
    | some c' => have := a0 a' rfl; have := c0 c' rfl; dsimp only; omega
theorem cap_nn {n : Int} {c : Option Int} (u : 0 ≤ n) (c0 : ∀ z, c = some z → 0 ≤ z) : 0 ≤ cap n c := by
  cases c with
  | none => exact u
  | some z => have := c0 z rfl; simp [cap]; omega
theorem hi_nn {k : Cn} {a c : Option Int} (e : 0 ≤ k.e) (w : 0 ≤ k.w) (u : 0 ≤ k.u) (d : 0 ≤ k.d) (a0 : ∀ z, a = some z → 0 ≤ z) (c0 : ∀ z, c = some z → 0 ≤ z) : 0 ≤ hiC k a c ∧ loC k a c ≤ 0 := by
  have h1 := span_nn (k := k) u a0 c0
  have h2 := cap_nn u c0
  have h3 := cap_nn d a0
  unfold hiC loC
  split
  · have := Int.mul_nonneg (show 0 ≤ k.e - k.w by omega) h2
    have := Int.mul_nonneg (show 0 ≤ k.e - k.w by omega) h3
    have := Int.mul_nonneg w h1
    omega
  · have := Int.mul_nonneg (show 0 ≤ k.w - k.e by omega) h2
    have := Int.mul_nonneg (show 0 ≤ k.w - k.e by omega) h3
    have := Int.mul_nonneg e h1
    omega
end HM
set_option linter.all false
set_option maxRecDepth 100000
/-! Extra pairs: extents of splits, their greatest, what a number of steps can reach. -/
namespace HM
structure Xt where
  P : Int
  H : Int
  ac : Option Int
  m : Int
  k : Option Int
def Xt.ext (x : Xt) (j v : Int) : Int := x.P * cap (x.m + v) x.k + (j - v) * cap (x.H + v) x.ac
def Xt.b1 (x : Xt) (j : Int) : Int := match x.k with
  | none => j
  | some l => min j (l - x.m)
def Xt.b2 (x : Xt) (j : Int) : Int := match x.ac with
  | none => j
  | some l => min j (l - x.H)
def Xt.p1 (x : Xt) (j : Int) : Int := min (max ((x.P + j - x.H) / 2) 0) (x.b1 j)
def Xt.p2 (x : Xt) (j : Int) : Int := min (max ((j - x.H) / 2) (x.b1 j)) (x.b2 j)
def Xt.best (x : Xt) (j : Int) : Int := if x.ext j (x.p2 j) ≤ x.ext j (x.p1 j) then x.p1 j else x.p2 j
def Xt.grt (x : Xt) (j : Int) : Int := x.ext j (x.best j)
structure OkX (x : Xt) : Prop where
  P0 : 0 ≤ x.P
  m0 : 0 ≤ x.m
  mH : x.m ≤ x.H
  km : ∀ l, x.k = some l → x.m ≤ l
  acH : ∀ l, x.ac = some l → x.H ≤ l
  kn : x.k = none → x.ac = none
  le : ∀ l L, x.k = some l → x.ac = some L → l - x.m ≤ L - x.H
theorem sq_le {p v s : Int} (h : 0 ≤ (p - v) * (s - p - v)) (A B j H : Int) (e : s = B + j - H) : B * (A + v) + (j - v) * (H + v) ≤ B * (A + p) + (j - p) * (H + p) := by
  subst e
  have : (p - v) * (B + j - H - p - v) = B * (A + p) + (j - p) * (H + p) - (B * (A + v) + (j - v) * (H + v)) := by grind
  omega
theorem mul_nn {a b : Int} (h : (0 ≤ a ∧ 0 ≤ b) ∨ (a ≤ 0 ∧ b ≤ 0)) : 0 ≤ a * b := by
  rcases h with ⟨h1, h2⟩ | ⟨h1, h2⟩
  · exact Int.mul_nonneg h1 h2
  · have := Int.mul_nonneg (show 0 ≤ -a by omega) (show 0 ≤ -b by omega)
    rwa [Int.neg_mul_neg] at this
section
variable {x : Xt} (o : OkX x) {j : Int} (hj : 0 ≤ j)
include o hj
theorem b_le : 0 ≤ x.b1 j ∧ x.b1 j ≤ x.b2 j ∧ x.b2 j ≤ j := by
  have h1 := o.km; have h2 := o.acH; have h3 := o.kn; have h4 := o.le; have h5 := o.m0; have h6 := o.mH
  unfold Xt.b1 Xt.b2
  cases hk : x.k with
  | none => rw [h3 hk]; dsimp only; omega
  | some l =>
    have := h1 l hk
    cases ha : x.ac with
    | none => dsimp only; omega
    | some L => have := h2 L ha; have := h4 l L hk ha; dsimp only; omega
theorem p_in : 0 ≤ x.p1 j ∧ x.p1 j ≤ x.b1 j ∧ x.b1 j ≤ x.p2 j ∧ x.p2 j ≤ x.b2 j := by
  have := b_le o hj
  unfold Xt.p1 Xt.p2
  omega
theorem cap1 {v : Int} (h : v ≤ x.b1 j) : cap (x.m + v) x.k = x.m + v := by
  unfold Xt.b1 at h
  cases hk : x.k with
  | none => rfl
  | some l => rw [hk] at h; simp [cap] at h ⊢; omega
theorem cap2 {v : Int} (h : v ≤ x.b2 j) : cap (x.H + v) x.ac = x.H + v := by
  unfold Xt.b2 at h
  cases hk : x.ac with
  | none => rfl
  | some l => rw [hk] at h; simp [cap] at h ⊢; omega
theorem cap1' {v : Int} (h : x.b1 j ≤ v) (h2 : v ≤ j) : cap (x.m + v) x.k = x.m + x.b1 j := by
  unfold Xt.b1 at h ⊢
  cases hk : x.k with
  | none => rw [hk] at h; simp [cap] at h ⊢; omega
  | some l => rw [hk] at h; simp [cap] at h ⊢; omega
theorem cap2' {v : Int} (h : x.b2 j ≤ v) (h2 : v ≤ j) : cap (x.H + v) x.ac = x.H + x.b2 j := by
  unfold Xt.b2 at h ⊢
  cases hk : x.ac with
  | none => rw [hk] at h; simp [cap] at h ⊢; omega
  | some l => rw [hk] at h; simp [cap] at h ⊢; omega
/-- the first range -/
theorem ext_1 {v : Int} (h0 : 0 ≤ v) (h : v ≤ x.b1 j) : x.ext j v ≤ x.ext j (x.p1 j) := by
  have b := b_le o hj
  have p := p_in o hj
  unfold Xt.ext
  rw [cap1 o hj h, cap1 o hj p.2.1, cap2 o hj (by omega), cap2 o hj (by omega)]
  refine sq_le (s := x.P + j - x.H) (mul_nn ?_) _ _ _ _ rfl
  unfold Xt.p1 at *
  have := o.P0
  omega
/-- the second -/
theorem ext_2 {v : Int} (h0 : x.b1 j ≤ v) (h : v ≤ x.b2 j) : x.ext j v ≤ x.ext j (x.p2 j) := by
  have b := b_le o hj
  have p := p_in o hj
  unfold Xt.ext
  rw [cap1' o hj h0 (by omega), cap1' o hj p.2.2.1 (by omega), cap2 o hj h, cap2 o hj p.2.2.2]
  have := sq_le (p := x.p2 j) (v := v) (s := j - x.H) (mul_nn ?_) 0 0 j x.H (by omega)
  · omega
  · unfold Xt.p2 at *
    omega
theorem ext_3 {v : Int} (h0 : x.b2 j ≤ v) (h : v ≤ j) : x.ext j v ≤ x.ext j (x.p2 j) := by
  have b := b_le o hj
  refine Int.le_trans ?_ (ext_2 o hj b.2.1 (Int.le_refl _))
  unfold Xt.ext
  rw [cap1' o hj (by omega) h, cap1' o hj b.2.1 b.2.2, cap2' o hj h0 h, cap2' o hj (Int.le_refl _) b.2.2]
  have := o.m0; have := o.mH
  have := Int.mul_le_mul_of_nonneg_right (show j - v ≤ j - x.b2 j by omega) (show 0 ≤ x.H + x.b2 j by omega)
  omega
theorem ext_le {v : Int} (h0 : 0 ≤ v) (h : v ≤ j) : x.ext j v ≤ x.grt j := by
  have k : x.ext j v ≤ x.ext j (x.p1 j) ∨ x.ext j v ≤ x.ext j (x.p2 j) := by
    by_cases c1 : v ≤ x.b1 j
    · exact .inl (ext_1 o hj h0 c1)
    · by_cases c2 : v ≤ x.b2 j
      · exact .inr (ext_2 o hj (by omega) c2)
      · exact .inr (ext_3 o hj (by omega) h)
  unfold Xt.grt Xt.best
  split <;> omega
theorem best_in : 0 ≤ x.best j ∧ x.best j ≤ j := by
  have b := b_le o hj
  have p := p_in o hj
  unfold Xt.best
  split <;> omega
theorem caps_nn {v : Int} (h0 : 0 ≤ v) : 0 ≤ cap (x.m + v) x.k ∧ 0 ≤ cap (x.H + v) x.ac := by
  have := o.m0; have := o.mH
  constructor
  · refine cap_nn (by omega) fun z hz => ?_
    have := o.km z hz; omega
  · refine cap_nn (by omega) fun z hz => ?_
    have := o.acH z hz; omega
theorem ext_nn {v : Int} (h0 : 0 ≤ v) (h : v ≤ j) : 0 ≤ x.ext j v := by
  have c := caps_nn o hj h0
  have := Int.mul_nonneg o.P0 c.1
  have := Int.mul_nonneg (show 0 ≤ j - v by omega) c.2
  unfold Xt.ext
  omega
theorem grt_nn : 0 ≤ x.grt j := ext_nn o hj (best_in o hj).1 (best_in o hj).2
theorem grt_step : x.grt j ≤ x.grt (j + 1) := by
  have b := best_in o hj
  have c := caps_nn o hj b.1
  refine Int.le_trans ?_ (ext_le o (by omega) (v := x.best j) b.1 (by omega))
  unfold Xt.grt Xt.ext
  have e : (j + 1 - x.best j) = (j - x.best j) + 1 := by omega
  rw [e, Int.add_mul]
  omega
theorem grt_big (h : x.ac ≠ some 0) (h1 : 1 ≤ j) : j - 1 ≤ x.grt j := by
  refine Int.le_trans ?_ (ext_le o hj (v := 1) (by omega) h1)
  have c := caps_nn o hj (v := 1) (by omega)
  have q : 1 ≤ cap (x.H + 1) x.ac := by
    have := o.m0; have := o.mH
    cases ha : x.ac with
    | none => simp [cap]; omega
    | some l => have := o.acH l ha; have : l ≠ 0 := fun z => h (by rw [ha, z]); simp [cap]; omega
  have := Int.mul_nonneg o.P0 c.1
  have := Int.mul_le_mul_of_nonneg_left q (show 0 ≤ j - 1 by omega)
  unfold Xt.ext
  omega
end
theorem grt_mono {x : Xt} (o : OkX x) {i j : Int} (h0 : 0 ≤ i) (h : i ≤ j) : x.grt i ≤ x.grt j := by
  obtain ⟨n, rfl⟩ : ∃ n : Nat, j = i + n := ⟨(j - i).toNat, by omega⟩
  clear h
  induction n with
  | zero => simp
  | succ n ih =>
    have := grt_step o (j := i + n) (by omega)
    have e : i + ((n + 1 : Nat) : Int) = i + n + 1 := by omega
    rw [e]
    omega
/-! ### extents and counts -/
def iabs (i : Int) : Int := if i < 0 then -i else i
/-- the extents for sums of one sign -/
def xtOf (X H : Int) (a c : Option Int) (pos : Bool) : Xt :=
  if pos = decide (0 ≤ X) then ⟨iabs X, iabs H, addO a c, max H 0, c⟩ else ⟨iabs X, iabs H, addO a c, max (-H) 0, a⟩
structure Rm (a c : Option Int) (H : Int) : Prop where
  a0 : ∀ z, a = some z → 0 ≤ z
  c0 : ∀ z, c = some z → 0 ≤ z
  fin : room a c H
theorem addO_some {a c : Option Int} {l : Int} (e : addO a c = some l) : ∃ a' c', a = some a' ∧ c = some c' ∧ l = a' + c' := by
  cases a with
  | none => cases e
  | some a' => cases c with
    | none => cases e
    | some c' => cases e; exact ⟨_, _, rfl, rfl, rfl⟩
theorem xt_ok {X H : Int} {a c : Option Int} (r : Rm a c H) (pos : Bool) : OkX (xtOf X H a c pos) := by
  obtain ⟨a0, c0, fa, fc⟩ := r
  have ac : ∀ l, addO a c = some l → iabs H ≤ l := fun l e => by
    obtain ⟨a', c', ha, hc, rfl⟩ := addO_some e
    have := a0 a' ha; have := c0 c' hc; have := fa a' ha; have := fc c' hc
    unfold iabs
    split <;> omega
  have i0 : ∀ z, 0 ≤ iabs z := fun z => by unfold iabs; split <;> omega
  have i1 : iabs H = max H 0 + max (-H) 0 := by unfold iabs; split <;> omega
  unfold xtOf
  split
  · refine ⟨i0 _, by dsimp only; omega, by dsimp only; omega, fun l e => ?_, ac, fun e => ?_, fun l L e e' => ?_⟩
    · dsimp only at e ⊢; have := c0 l e; have := fc l e; omega
    · dsimp only at e ⊢; rw [e]; cases a <;> rfl
    · dsimp only at e e' ⊢
      obtain ⟨a', c', ha, hc, rfl⟩ := addO_some e'
      have := a0 a' ha; have := fa a' ha
      rw [e] at hc; injection hc with hc
      omega
  · refine ⟨i0 _, by dsimp only; omega, by dsimp only; omega, fun l e => ?_, ac, fun e => ?_, fun l L e e' => ?_⟩
    · dsimp only at e ⊢; have := a0 l e; have := fa l e; omega
    · dsimp only at e ⊢; rw [e]; rfl
    · dsimp only at e e' ⊢
      obtain ⟨a', c', ha, hc, rfl⟩ := addO_some e'
      have := c0 c' hc; have := fc c' hc
      rw [e] at ha; injection ha with ha
      omega
def spl (X H j v : Int) : Cn := ⟨max X 0 + (j - v), max (-X) 0 + (j - v), max H 0 + v, max (-H) 0 + v⟩
theorem span_spl {X H j v : Int} {a c : Option Int} : spanC (spl X H j v) a c = cap (iabs H + v) (addO a c) := by
  unfold spanC spl iabs
  dsimp only
  congr 1
  omega
theorem hi_spl {X H j v : Int} {a c : Option Int} : hiC (spl X H j v) a c = (xtOf X H a c true).ext j v := by
  unfold hiC Xt.ext
  rw [span_spl]
  by_cases h : 0 ≤ X
  · have e : xtOf X H a c true = ⟨iabs X, iabs H, addO a c, max H 0, c⟩ := by unfold xtOf; simp [h]
    rw [e, if_pos (by unfold spl; dsimp only; omega)]
    have e1 : iabs X = X := by unfold iabs; omega
    have e2 : (spl X H j v).e - (spl X H j v).w = X := by unfold spl; dsimp only; omega
    have e3 : (spl X H j v).w = j - v := by unfold spl; dsimp only; omega
    rw [e1, e2, e3]
    rfl
  · have e : xtOf X H a c true = ⟨iabs X, iabs H, addO a c, max (-H) 0, a⟩ := by unfold xtOf; simp [h]
    rw [e, if_neg (by unfold spl; dsimp only; omega)]
    have e1 : iabs X = -X := by unfold iabs; omega
    have e2 : (spl X H j v).w - (spl X H j v).e = -X := by unfold spl; dsimp only; omega
    have e3 : (spl X H j v).e = j - v := by unfold spl; dsimp only; omega
    rw [e1, e2, e3]
    rfl
theorem lo_spl {X H j v : Int} {a c : Option Int} : loC (spl X H j v) a c = -(xtOf X H a c false).ext j v := by
  unfold loC Xt.ext
  rw [span_spl]
  by_cases h : 0 ≤ X
  · have e : xtOf X H a c false = ⟨iabs X, iabs H, addO a c, max (-H) 0, a⟩ := by unfold xtOf; simp [h]
    rw [e, if_pos (by unfold spl; dsimp only; omega)]
    have e1 : iabs X = X := by unfold iabs; omega
    have e2 : (spl X H j v).e - (spl X H j v).w = X := by unfold spl; dsimp only; omega
    have e3 : (spl X H j v).w = j - v := by unfold spl; dsimp only; omega
    rw [e1, e2, e3]
    rfl
  · have e : xtOf X H a c false = ⟨iabs X, iabs H, addO a c, max H 0, c⟩ := by unfold xtOf; simp [h]
    rw [e, if_neg (by unfold spl; dsimp only; omega)]
    have e1 : iabs X = -X := by unfold iabs; omega
    have e2 : (spl X H j v).w - (spl X H j v).e = -X := by unfold spl; dsimp only; omega
    have e3 : (spl X H j v).e = j - v := by unfold spl; dsimp only; omega
    rw [e1, e2, e3]
    rfl
/-- a path of n steps between the limits, to a displacement -/
def reach (a c : Option Int) (X H S : Int) (n : Nat) : Prop := ∃ l : List Sp, l.length = n ∧ stay (room a c) 0 l ∧ run (0, 0, 0) l = (X, H, S)
theorem best0 {X H : Int} {a c : Option Int} (r : Rm a c H) (h : addO a c = some 0) (pos : Bool) {j : Int} (hj : 0 ≤ j) : (xtOf X H a c pos).best j = 0 ∧ H = 0 := by
  have o := xt_ok (X := X) r pos
  have q := p_in o hj
  have e : (xtOf X H a c pos).b2 j ≤ 0 ∧ H = 0 := by
    have := o.acH 0 (by unfold xtOf; split <;> exact h)
    have e2 : (xtOf X H a c pos).H = iabs H := by unfold xtOf; split <;> rfl
    rw [e2] at this
    have hH : H = 0 := by unfold iabs at this; split at this <;> omega
    refine ⟨?_, hH⟩
    unfold Xt.b2
    have e3 : (xtOf X H a c pos).ac = some 0 := by unfold xtOf; split <;> exact h
    rw [e3, e2]
    subst hH
    simp [iabs]
    omega
  refine ⟨?_, e.2⟩
  unfold Xt.best
  split <;> omega
/-- what exactly n steps reach -/
theorem reach_iff {a c : Option Int} {X H S : Int} {n : Nat} (r : Rm a c H) :
    reach a c X H S n ↔ ∃ j : Nat, (n : Int) = iabs X + iabs H + 2 * j ∧ -(xtOf X H a c false).grt j ≤ S ∧ S ≤ (xtOf X H a c true).grt j := by
  constructor
  · rintro ⟨l, hl, st, e⟩
    have e0 := cnt_nn (k := .E) (l := l); have w0 := cnt_nn (k := .W) (l := l); have u0 := cnt_nn (k := .U) (l := l); have d0 := cnt_nn (k := .D) (l := l)
    have hx := run_x (l := l) (s := (0, 0, 0)); have hh := run_h (l := l) (s := (0, 0, 0)); have hn := cnt_len (l := l)
    rw [e] at hx hh
    dsimp only at hx hh
    obtain ⟨b1, b2⟩ := sum_room (x := 0) (t := 0) st
    rw [e] at b1 b2
    dsimp only at b1 b2
    have hk : cn l = spl X H (min (cnt .E l) (cnt .W l) + min (cnt .U l) (cnt .D l)) (min (cnt .U l) (cnt .D l)) := by
      unfold cn spl
      congr 1 <;> omega
    rw [hk] at b1 b2
    rw [lo_spl] at b1
    rw [hi_spl] at b2
    refine ⟨(min (cnt .E l) (cnt .W l) + min (cnt .U l) (cnt .D l)).toNat, by unfold iabs; omega, ?_, ?_⟩
    · have := ext_le (xt_ok (X := X) r false) (j := min (cnt .E l) (cnt .W l) + min (cnt .U l) (cnt .D l)) (v := min (cnt .U l) (cnt .D l)) (by omega) (by omega) (by omega)
      rw [Int.toNat_of_nonneg (by omega)]
      omega
    · have := ext_le (xt_ok (X := X) r true) (j := min (cnt .E l) (cnt .W l) + min (cnt .U l) (cnt .D l)) (v := min (cnt .U l) (cnt .D l)) (by omega) (by omega) (by omega)
      rw [Int.toNat_of_nonneg (by omega)]
      omega
  · rintro ⟨j, hn, h1, h2⟩
    have main : ∀ v : Int, 0 ≤ v → v ≤ j → loC (spl X H j v) a c ≤ S → S ≤ hiC (spl X H j v) a c → (addO a c ≠ some 0 ∨ (v = 0 ∧ H = 0)) → reach a c X H S n := by
      intro v v0 vj lo hi has
      have f : Fit (spl X H j v) S a c := ⟨by unfold spl; dsimp only; omega, by unfold spl; dsimp only; omega, by unfold spl; dsimp only; omega, by unfold spl; dsimp only; omega, r.a0, r.c0, by
        have e : (spl X H j v).u - (spl X H j v).d = H := by unfold spl; dsimp only; omega
        rw [e]; exact r.fin, by
        rcases has with h | ⟨h, h'⟩
        · exact .inl h
        · refine .inr ?_
          subst h h'
          unfold spl
          simp, lo, hi⟩
      obtain ⟨l, hk, st, e⟩ := build f
      refine ⟨l, ?_, st, ?_⟩
      · have := cnt_len (l := l)
        unfold cn spl at hk
        injection hk with q1 q2 q3 q4
        rw [q1, q2, q3, q4] at this
        unfold iabs at hn
        omega
      · rw [e]
        unfold spl
        dsimp only
        congr 1
        · omega
        · congr 1
          omega
    have nn : ∀ v : Int, 0 ≤ v → v ≤ j → 0 ≤ hiC (spl X H j v) a c ∧ loC (spl X H j v) a c ≤ 0 := fun v v0 vj => hi_nn (by unfold spl; dsimp only; omega) (by unfold spl; dsimp only; omega) (by unfold spl; dsimp only; omega) (by unfold spl; dsimp only; omega) r.a0 r.c0
    by_cases s : 0 ≤ S
    · have b := best_in (xt_ok (X := X) r true) (j := j) (by omega)
      refine main _ b.1 b.2 ?_ ?_ ?_
      · have := nn _ b.1 b.2; omega
      · rw [hi_spl]; exact h2
      · by_cases z : addO a c = some 0
        · have := best0 (X := X) r z true (j := j) (by omega)
          exact .inr this
        · exact .inl z
    · have b := best_in (xt_ok (X := X) r false) (j := j) (by omega)
      refine main _ b.1 b.2 ?_ ?_ ?_
      · rw [lo_spl]; exact h1
      · have := nn _ b.1 b.2; omega
      · by_cases z : addO a c = some 0
        · have := best0 (X := X) r z false (j := j) (by omega)
          exact .inr this
        · exact .inl z
end HM
set_option linter.all false
set_option maxRecDepth 100000
/-! The fewest extra pairs. -/
namespace HM
structure IsFew (x : Xt) (t j : Int) : Prop where
  nn : 0 ≤ j
  ge : t ≤ x.grt j
  lt : ∀ i, 0 ≤ i → i < j → x.grt i < t
theorem IsFew.uniq {x : Xt} {t i j : Int} (a : IsFew x t i) (b : IsFew x t j) : i = j := by
  rcases Int.lt_trichotomy i j with h | h | h
  · have := b.lt i a.nn h; have := a.ge; omega
  · exact h
  · have := a.lt j b.nn h; have := b.ge; omega
open Classical in
noncomputable def few (x : Xt) (t : Int) : Option Int := if h : ∃ j, IsFew x t j then some h.choose else none
theorem few_some {x : Xt} {t j : Int} (h : IsFew x t j) : few x t = some j := by
  have e : ∃ j, IsFew x t j := ⟨j, h⟩
  unfold few
  rw [dif_pos e, e.choose_spec.uniq h]
theorem few_is {x : Xt} {t j : Int} (h : few x t = some j) : IsFew x t j := by
  unfold few at h
  split at h
  · rename_i e
    injection h with h
    rw [← h]
    exact e.choose_spec
  · cases h
theorem few_none {x : Xt} {t : Int} (h : ∀ j, 0 ≤ j → x.grt j < t) : few x t = none := by
  unfold few
  rw [dif_neg]
  rintro ⟨j, hj⟩
  have := h j hj.nn; have := hj.ge
  omega
theorem grt_flat {x : Xt} (o : OkX x) (h : x.ac = some 0) {j : Int} (hj : 0 ≤ j) : x.grt j = 0 := by
  have h1 := o.acH 0 h; have h2 := o.m0; have h3 := o.mH
  have b := best_in o hj
  cases hk : x.k with
  | none => have := o.kn hk; rw [h] at this; cases this
  | some l =>
    have h4 := o.le l 0 hk h; have h5 := o.km l hk
    unfold Xt.grt Xt.ext
    rw [hk, h]
    have e1 : cap (x.m + x.best j) (some l) = 0 := by simp [cap]; omega
    have e2 : cap (x.H + x.best j) (some 0) = 0 := by simp [cap]; omega
    rw [e1, e2]
    simp
theorem few_total {x : Xt} (o : OkX x) (h : x.ac ≠ some 0) (t : Int) : ∃ j, IsFew x t j := by
  have big : ∃ n : Nat, t ≤ x.grt n := ⟨(max t 0 + 1).toNat, by
    have := grt_big o (j := ((max t 0 + 1).toNat : Nat)) (by omega) h (by omega)
    omega⟩
  classical
  have key : ∀ n : Nat, t ≤ x.grt n → ∃ j, IsFew x t j := by
    intro n
    induction n using Nat.strongRecOn with
    | ind n ih =>
      intro hn
      by_cases c : ∃ m : Nat, m < n ∧ t ≤ x.grt m
      · obtain ⟨m, h1, h2⟩ := c
        exact ih m h1 h2
      · refine ⟨n, by omega, hn, fun i i0 il => ?_⟩
        refine Decidable.byContradiction fun q => c ⟨i.toNat, by omega, ?_⟩
        rw [Int.toNat_of_nonneg i0]
        omega
  obtain ⟨n, hn⟩ := big
  exact key n hn
theorem few_zero {x : Xt} (o : OkX x) {t : Int} (h : t ≤ x.grt 0) : few x t = some 0 := few_some ⟨by omega, h, fun i h1 h2 => by omega⟩
theorem few_le {x : Xt} (o : OkX x) {t j : Int} (h : few x t = some j) (h0 : 0 ≤ t) : j ≤ t + 1 := by
  have f := few_is h
  refine Decidable.byContradiction fun q => ?_
  by_cases z : x.ac = some 0
  · have e1 := grt_flat o z f.nn
    have e2 := grt_flat o z (j := 0) (by omega)
    have := f.lt 0 (by omega) (by omega); have := f.ge
    omega
  · have := f.lt (t + 1) (by omega) (by omega)
    have := grt_big o (j := t + 1) (by omega) z (by omega)
    omega
/-- a number of steps is enough just when it has the fewest extra pairs, or more -/
theorem few_iff {x : Xt} (o : OkX x) {t j i : Int} (h : IsFew x t j) (hi : 0 ≤ i) : t ≤ x.grt i ↔ j ≤ i := by
  constructor
  · intro q
    refine Decidable.byContradiction fun c => ?_
    have := h.lt i hi (by omega)
    omega
  · intro q
    have := grt_mono o h.nn q; have := h.ge
    omega
/-- the extents that count for a sum -/
def xtS (X H S : Int) (a c : Option Int) : Xt := xtOf X H a c (decide (0 ≤ S))
theorem xtS_ok {X H S : Int} {a c : Option Int} (r : Rm a c H) : OkX (xtS X H S a c) := xt_ok r _
theorem reach_S {a c : Option Int} {X H S : Int} {n : Nat} (r : Rm a c H) :
    reach a c X H S n ↔ ∃ j : Nat, (n : Int) = iabs X + iabs H + 2 * j ∧ iabs S ≤ (xtS X H S a c).grt j := by
  rw [reach_iff r]
  refine exists_congr fun j => and_congr_right fun _ => ?_
  have h1 := grt_nn (xt_ok (X := X) r true) (j := j) (by omega)
  have h2 := grt_nn (xt_ok (X := X) r false) (j := j) (by omega)
  unfold xtS iabs
  by_cases s : 0 ≤ S
  · rw [decide_eq_true s, if_neg (by omega)]
    omega
  · rw [decide_eq_false s, if_pos (by omega)]
    omega
/-- the distance -/
noncomputable def dst (X H S : Int) (a c : Option Int) : Option Int := (few (xtS X H S a c) (iabs S)).map fun j => iabs X + iabs H + 2 * j
theorem reach_dst {a c : Option Int} {X H S : Int} {n : Nat} (r : Rm a c H) :
    reach a c X H S n ↔ ∃ d, dst X H S a c = some d ∧ d ≤ n ∧ (n - d) % 2 = 0 := by
  rw [reach_S r]
  have o := xtS_ok (X := X) (S := S) r
  constructor
  · rintro ⟨j, hn, hj⟩
    have ex : ∃ i, IsFew (xtS X H S a c) (iabs S) i := by
      by_cases z : (xtS X H S a c).ac = some 0
      · have e1 := grt_flat o z (j := j) (by omega)
        have e2 := grt_flat o z (j := 0) (by omega)
        exact ⟨0, by omega, by omega, fun i h1 h2 => by omega⟩
      · exact few_total o z _
    obtain ⟨i, hi⟩ := ex
    have := (few_iff o hi (i := j) (by omega)).mp hj
    refine ⟨iabs X + iabs H + 2 * i, ?_, by omega, by omega⟩
    unfold dst
    rw [few_some hi]
    rfl
  · rintro ⟨d, hd, h1, h2⟩
    unfold dst at hd
    cases hf : few (xtS X H S a c) (iabs S) with
    | none => rw [hf] at hd; cases hd
    | some i =>
      rw [hf] at hd
      have hd : iabs X + iabs H + 2 * i = d := by simpa using hd
      have f := few_is hf
      have := f.nn
      refine ⟨((n - (iabs X + iabs H)) / 2).toNat, ?_, ?_⟩
      · omega
      · refine (few_iff o f (by omega)).mpr ?_
        omega
theorem dst_none {a c : Option Int} {X H S : Int} (r : Rm a c H) : dst X H S a c = none ↔ addO a c = some 0 ∧ S ≠ 0 := by
  have o := xtS_ok (X := X) (S := S) r
  have ha : (xtS X H S a c).ac = addO a c := by unfold xtS xtOf; split <;> rfl
  unfold dst
  by_cases z : addO a c = some 0
  · have g := fun j (hj : 0 ≤ j) => grt_flat o (ha.trans z) hj
    by_cases s : S = 0
    · have : few (xtS X H S a c) (iabs S) = some 0 := few_zero o (by rw [g 0 (by omega), s]; decide)
      rw [this]
      simp [s]
    · have : few (xtS X H S a c) (iabs S) = none := few_none fun j hj => by
        rw [g j hj]
        unfold iabs
        split <;> omega
      rw [this]
      simp [z, s]
  · obtain ⟨j, hj⟩ := few_total o (by rw [ha]; exact z) (iabs S)
    rw [few_some hj]
    simp [z]
end HM
set_option linter.all false
set_option maxRecDepth 100000
/-! Walks between states in a band; what distances do when paths are turned round, joined, mirrored. -/
namespace HM
/-- a walk of n steps between two states, heights from lo to hi -/
def walks (lo hi : Option Int) (s e : St) (n : Nat) : Prop := ∃ l : List Sp, l.length = n ∧ stay (inL lo hi) s.2.1 l ∧ run s l = e
def down (lo : Option Int) (h : Int) : Option Int := lo.map (h - ·)
def up (hi : Option Int) (h : Int) : Option Int := hi.map (· - h)
theorem room_iff {lo hi : Option Int} {h z : Int} : room (down lo h) (up hi h) z ↔ inL lo hi (h + z) := by
  unfold room inL
  constructor
  · rintro ⟨h1, h2⟩
    refine ⟨fun a e => ?_, fun a e => ?_⟩
    · have := h1 (h - a) (by rw [e]; rfl); omega
    · have := h2 (a - h) (by rw [e]; rfl); omega
  · rintro ⟨h1, h2⟩
    refine ⟨fun a e => ?_, fun a e => ?_⟩
    · cases lo with
      | none => cases e
      | some l => have := h1 l rfl; simp [down] at e; omega
    · cases hi with
      | none => cases e
      | some l => have := h2 l rfl; simp [up] at e; omega
theorem stay_shift {P Q : Int → Prop} {k : Int} (m : ∀ z, P z ↔ Q (k + z)) : ∀ {l : List Sp} {h : Int}, stay P h l ↔ stay Q (k + h) l
  | [], h => m h
  | p :: l, h => by
    show (P h ∧ stay P (h + dh p) l) ↔ (Q (k + h) ∧ stay Q (k + h + dh p) l)
    rw [m h, stay_shift m (l := l), Int.add_assoc]
theorem run_eta {s : St} {l : List Sp} : run s l = (s.1 + (cnt .E l - cnt .W l), s.2.1 + (cnt .U l - cnt .D l), s.2.2 + s.2.1 * (cnt .E l - cnt .W l) + (run (0, 0, 0) l).2.2) := by
  have h1 := run_x (l := l) (s := s)
  have h2 := run_h (l := l) (s := s)
  have h3 := run_from (l := l) (x := s.1) (h := s.2.1) (s := s.2.2)
  exact Prod.ext h1 (Prod.ext h2 h3)
theorem walks_reach {lo hi : Option Int} {s e : St} {n : Nat} : walks lo hi s e n ↔ reach (down lo s.2.1) (up hi s.2.1) (e.1 - s.1) (e.2.1 - s.2.1) (e.2.2 - s.2.2 - s.2.1 * (e.1 - s.1)) n := by
  unfold walks reach
  refine exists_congr fun l => and_congr_right fun _ => ?_
  have st := stay_shift (P := room (down lo s.2.1) (up hi s.2.1)) (Q := inL lo hi) (k := s.2.1) (fun z => room_iff) (l := l) (h := 0)
  rw [Int.add_zero] at st
  rw [st]
  refine and_congr_right fun _ => ?_
  have r0 := run_eta (s := (0, 0, 0)) (l := l)
  rw [run_eta (s := s), r0]
  obtain ⟨a, b, c⟩ := e
  obtain ⟨x, h, t⟩ := s
  dsimp only
  constructor
  · intro q
    injection q with q1 q
    injection q with q2 q3
    rw [← q1, ← q2, ← q3]
    refine Prod.ext ?_ (Prod.ext ?_ ?_) <;> dsimp only
    · omega
    · omega
    · rw [show x + (cnt .E l - cnt .W l) - x = cnt .E l - cnt .W l by omega]; omega
  · intro q
    injection q with q1 q
    injection q with q2 q3
    have e1 : cnt .E l - cnt .W l = a - x := by omega
    refine Prod.ext ?_ (Prod.ext ?_ ?_) <;> dsimp only
    · omega
    · omega
    · rw [e1]; omega
/-! ### paths turned round -/
def opp : Sp → Sp
  | .E => .W | .W => .E | .U => .D | .D => .U
theorem stp_opp {s : St} {p : Sp} : stp (stp s p) (opp p) = s := by
  obtain ⟨x, h, t⟩ := s
  cases p <;> simp [stp, opp, dx, dh] <;> omega
def back (l : List Sp) : List Sp := (l.map opp).reverse
theorem back_cons {p : Sp} {l : List Sp} : back (p :: l) = back l ++ [opp p] := by unfold back; simp
theorem run_back : ∀ {l : List Sp} {s : St}, run (run s l) (back l) = s
  | [], s => rfl
  | p :: l, s => by rw [back_cons, run_append, @run_cons s, run_back, run_cons, run_nil, stp_opp]
theorem stay_end {P : Int → Prop} : ∀ {l : List Sp} {s : St}, stay P s.2.1 l → P (run s l).2.1
  | [], _, h => h
  | p :: l, s, h => stay_end (l := l) (s := stp s p) h.2
theorem stay_back {P : Int → Prop} : ∀ {l : List Sp} {s : St}, stay P s.2.1 l → stay P (run s l).2.1 (back l)
  | [], s, h => h
  | p :: l, s, h => by
    rw [back_cons, run_cons, stay_append (x := (run (stp s p) l).1) (t := (run (stp s p) l).2.2)]
    refine ⟨stay_back (l := l) (s := stp s p) h.2, ?_⟩
    have e : ((run (stp s p) l).1, (run (stp s p) l).2.1, (run (stp s p) l).2.2) = run (stp s p) l := rfl
    rw [e, run_back]
    refine ⟨stay_here (l := l) h.2, ?_⟩
    have e2 : (stp s p).2.1 + dh (opp p) = s.2.1 := by cases p <;> simp [stp, opp, dh] <;> omega
    show P ((stp s p).2.1 + dh (opp p))
    rw [e2]
    exact h.1
theorem walks_sym {lo hi : Option Int} {s e : St} {n : Nat} (w : walks lo hi s e n) : walks lo hi e s n := by
  obtain ⟨l, h1, h2, rfl⟩ := w
  exact ⟨back l, by unfold back; simpa using h1, stay_back h2, run_back⟩
theorem walks_trans {lo hi : Option Int} {s m e : St} {n k : Nat} (w : walks lo hi s m n) (v : walks lo hi m e k) : walks lo hi s e (n + k) := by
  obtain ⟨l, h1, h2, rfl⟩ := w
  obtain ⟨r, g1, g2, rfl⟩ := v
  refine ⟨l ++ r, by simp [h1, g1], ?_, run_append⟩
  exact (stay_append (x := s.1) (t := s.2.2)).mpr ⟨h2, g2⟩
theorem walks_wide {lo hi lo' hi' : Option Int} {s e : St} {n : Nat} (m : ∀ z, inL lo hi z → inL lo' hi' z) (w : walks lo hi s e n) : walks lo' hi' s e n := by
  obtain ⟨l, h1, h2, h3⟩ := w
  exact ⟨l, h1, stay_mono m h2, h3⟩
/-- a walk's part -/
theorem walks_split {lo hi : Option Int} {s e : St} {n k : Nat} (w : walks lo hi s e (n + k)) : ∃ m, walks lo hi s m n ∧ walks lo hi m e k := by
  obtain ⟨l, h1, h2, rfl⟩ := w
  rw [← List.take_append_drop n l] at h2
  obtain ⟨a, b⟩ := (stay_append (x := s.1) (t := s.2.2)).mp h2
  refine ⟨run s (l.take n), ⟨l.take n, by simp [h1], a, rfl⟩, ⟨l.drop n, by simp [h1], b, ?_⟩⟩
  rw [← run_append, List.take_append_drop]
theorem inL_none {z : Int} : inL none none z := ⟨fun a e => (by cases e), fun a e => (by cases e)⟩
theorem stay_all {P : Int → Prop} (h : ∀ z, P z) : ∀ {l : List Sp} {k : Int}, stay P k l
  | [], k => h k
  | p :: l, k => ⟨h k, stay_all h⟩
theorem reach_free {X H S : Int} {n : Nat} : reach none none X H S n ↔ ∃ l : List Sp, l.length = n ∧ run (0, 0, 0) l = (X, H, S) := by
  unfold reach
  refine exists_congr fun l => and_congr_right fun _ => ?_
  have : stay (room none none) 0 l := stay_all fun z => ⟨fun a e => (by cases e), fun a e => (by cases e)⟩
  simp [this]
/-- a path changed step by step -/
theorem run_map (f : Sp → Sp) (φ : St → St) (h : ∀ s p, φ (stp s p) = stp (φ s) (f p)) : ∀ {l : List Sp} {s : St}, run (φ s) (l.map f) = φ (run s l)
  | [], s => rfl
  | p :: l, s => by rw [List.map_cons, run_cons, run_cons, ← h, run_map f φ h]
theorem reach_map {X H S X' H' S' : Int} {n : Nat} (f : Sp → Sp) (φ : St → St) (h : ∀ s p, φ (stp s p) = stp (φ s) (f p)) (h0 : φ (0, 0, 0) = (0, 0, 0)) (he : φ (X, H, S) = (X', H', S')) (r : reach none none X H S n) : reach none none X' H' S' n := by
  rw [reach_free] at r ⊢
  obtain ⟨l, h1, h2⟩ := r
  refine ⟨l.map f, by simpa using h1, ?_⟩
  have := run_map f φ h (l := l) (s := (0, 0, 0))
  rw [h0, h2, he] at this
  exact this
def ew : Sp → Sp
  | .E => .W | .W => .E | .U => .U | .D => .D
def ud : Sp → Sp
  | .E => .E | .W => .W | .U => .D | .D => .U
def sw : Sp → Sp
  | .E => .U | .W => .D | .U => .E | .D => .W
theorem reach_ew {X H S : Int} {n : Nat} (r : reach none none X H S n) : reach none none (-X) H (-S) n :=
  reach_map ew (fun s => (-s.1, s.2.1, -s.2.2)) (fun s p => by obtain ⟨x, h, t⟩ := s; cases p <;> simp [stp, ew, dx, dh] <;> grind) rfl rfl r
theorem reach_ud {X H S : Int} {n : Nat} (r : reach none none X H S n) : reach none none X (-H) (-S) n :=
  reach_map ud (fun s => (s.1, -s.2.1, -s.2.2)) (fun s p => by obtain ⟨x, h, t⟩ := s; cases p <;> simp [stp, ud, dx, dh] <;> grind) rfl rfl r
theorem reach_sw {X H S : Int} {n : Nat} (r : reach none none X H S n) : reach none none H X (X * H - S) n :=
  reach_map sw (fun s => (s.2.1, s.1, s.1 * s.2.1 - s.2.2)) (fun s p => by obtain ⟨x, h, t⟩ := s; cases p <;> simp [stp, sw, dx, dh] <;> grind) rfl rfl r
theorem reach_inv {X H S : Int} {n : Nat} (r : reach none none X H S n) : reach none none (-X) (-H) (X * H - S) n := by
  have w : walks none none (0, 0, 0) (X, H, S) n := by
    rw [walks_reach]; simpa [down, up] using r
  have := walks_sym w
  rw [walks_reach] at this
  have e : (0 : Int) - S - H * (0 - X) = X * H - S := by grind
  simp only [down, up, Option.map_none] at this
  rw [e, Int.zero_sub, Int.zero_sub] at this
  exact this
/-! ### distances -/
theorem dst_least {a c : Option Int} {X H S d : Int} (r : Rm a c H) (h : dst X H S a c = some d) : 0 ≤ d ∧ reach a c X H S d.toNat ∧ ∀ n : Nat, reach a c X H S n → d ≤ n ∧ ((n : Int) - d) % 2 = 0 := by
  have nn : 0 ≤ d := by
    unfold dst at h
    cases hf : few (xtS X H S a c) (iabs S) with
    | none => rw [hf] at h; cases h
    | some j =>
      rw [hf] at h
      have h : iabs X + iabs H + 2 * j = d := by simpa using h
      have := (few_is hf).nn
      have : 0 ≤ iabs X ∧ 0 ≤ iabs H := by constructor <;> (unfold iabs; split <;> omega)
      omega
  refine ⟨nn, (reach_dst r).mpr ⟨d, h, by omega, by omega⟩, fun n hn => ?_⟩
  obtain ⟨d', e, h1, h2⟩ := (reach_dst r).mp hn
  rw [h] at e
  injection e with e
  subst e
  exact ⟨h1, h2⟩
theorem dst_of {a c : Option Int} {X H S : Int} {n : Nat} (r : Rm a c H) (h : reach a c X H S n) : ∃ d, dst X H S a c = some d := by
  obtain ⟨d, e, _⟩ := (reach_dst r).mp h
  exact ⟨d, e⟩
/-- distances told by the same walks are the same -/
theorem dst_eq {a c a' c' : Option Int} {X H S X' H' S' : Int} (r : Rm a c H) (r' : Rm a' c' H') (h1 : ∀ n, reach a c X H S n → reach a' c' X' H' S' n) (h2 : ∀ n, reach a' c' X' H' S' n → reach a c X H S n) : dst X H S a c = dst X' H' S' a' c' := by
  cases e : dst X H S a c with
  | none =>
    cases e' : dst X' H' S' a' c' with
    | none => rfl
    | some d' =>
      obtain ⟨_, w, _⟩ := dst_least r' e'
      obtain ⟨d, q⟩ := dst_of r (h2 _ w)
      rw [e] at q; cases q
  | some d =>
    obtain ⟨d0, w, m⟩ := dst_least r e
    obtain ⟨d', e'⟩ := dst_of r' (h1 _ w)
    obtain ⟨d0', w', m'⟩ := dst_least r' e'
    have k1 := (m _ (h2 _ w')).1
    have k2 := (m' _ (h1 _ w)).1
    rw [e']
    congr 1
    omega
end HM
set_option linter.all false
set_option maxRecDepth 100000
/-! The first steps of a row. -/
namespace HM
/-- the first n steps of a row of runs -/
def preW : List Rw → Int → List Rw
  | [], _ => []
  | r :: l, n => (r.1, min r.2 n) :: preW l (n - min r.2 n)
theorem rep_take {p : Sp} {a b : Nat} : (List.replicate a p).take b = List.replicate (min a b) p := by
  rw [List.take_replicate, Nat.min_comm]
theorem ex_take : ∀ {l : List Rw} {n : Int}, (∀ r ∈ l, 0 ≤ r.2) → 0 ≤ n → ex (preW l n) = (ex l).take n.toNat
  | [], n, _, _ => by simp [preW]
  | r :: l, n, h, h0 => by
    have h1 := h r (List.mem_cons_self ..)
    rw [preW, ex_cons, ex_cons, ex_take (fun q hq => h q (List.mem_cons_of_mem _ hq)) (by omega), List.take_append]
    unfold ex1
    rw [rep_take, List.length_replicate]
    congr 2 <;> (try dsimp only) <;> omega
theorem preW_nn : ∀ {l : List Rw} {n : Int}, (∀ r ∈ l, 0 ≤ r.2) → 0 ≤ n → ∀ r ∈ preW l n, 0 ≤ r.2
  | [], n, _, _, r, hr => by cases hr
  | q :: l, n, h, h0, r, hr => by
    have h1 := h q (List.mem_cons_self ..)
    rw [preW] at hr
    rcases List.mem_cons.mp hr with rfl | hr
    · dsimp only; omega
    · exact preW_nn (fun q hq => h q (List.mem_cons_of_mem _ hq)) (by omega) r hr
theorem ex_len : ∀ {l : List Rw}, (∀ r ∈ l, 0 ≤ r.2) → ((ex l).length : Int) = (l.map (fun r : Rw => r.2)).sum
  | [], _ => by simp
  | r :: l, h => by
    have h1 := h r (List.mem_cons_self ..)
    rw [ex_cons, List.length_append, List.map_cons, List.sum_cons, ← ex_len fun q hq => h q (List.mem_cons_of_mem _ hq)]
    unfold ex1
    rw [List.length_replicate]
    omega
/-- a row between two heights is a walk; its first n steps are a walk, and so are the others -/
theorem row_walk {lo hi : Option Int} {s : St} {l : List Rw} (h : ∀ r ∈ l, 0 ≤ r.2) (st : stayR (inL lo hi) s.2.1 l) : walks lo hi s (aftL s l) (l.map (fun r : Rw => r.2)).sum.toNat := by
  refine ⟨ex l, ?_, (stay_ex inL_convex h).mpr st, run_ex h⟩
  have := ex_len h
  omega
theorem row_split {lo hi : Option Int} {s : St} {l : List Rw} {n : Int} (h : ∀ r ∈ l, 0 ≤ r.2) (st : stayR (inL lo hi) s.2.1 l) (h0 : 0 ≤ n) (hn : n ≤ (l.map (fun r : Rw => r.2)).sum) :
    walks lo hi s (aftL s (preW l n)) n.toNat ∧ walks lo hi (aftL s (preW l n)) (aftL s l) ((l.map (fun r : Rw => r.2)).sum - n).toNat := by
  have q := (stay_ex inL_convex h).mpr st
  have e := ex_len h
  have m : aftL s (preW l n) = run s ((ex l).take n.toNat) := by rw [← ex_take h h0, run_ex (preW_nn h h0)]
  rw [← List.take_append_drop n.toNat (ex l)] at q
  obtain ⟨a, b⟩ := (stay_append (x := s.1) (t := s.2.2)).mp q
  refine ⟨⟨(ex l).take n.toNat, ?_, a, m.symm⟩, ⟨(ex l).drop n.toNat, ?_, ?_, ?_⟩⟩
  · rw [List.length_take]; omega
  · rw [List.length_drop]; omega
  · rw [m]; exact b
  · rw [m, ← run_append, List.take_append_drop, run_ex h]
end HM
set_option linter.all false
set_option maxRecDepth 100000
/-! What a certificate tells: a local peak of a range is its greatest, so the two peaks tell the greatest extent. -/
namespace HM
theorem sq_le2 {p v s : Int} (h : (p - v) * (s - p - v) ≤ 0) (A B j H : Int) (e : s = B + j - H) : B * (A + p) + (j - p) * (H + p) ≤ B * (A + v) + (j - v) * (H + v) := by
  subst e
  have : (p - v) * (B + j - H - p - v) = B * (A + p) + (j - p) * (H + p) - (B * (A + v) + (j - v) * (H + v)) := by grind
  omega
theorem mul_np {a b : Int} (h : (0 ≤ a ∧ b ≤ 0) ∨ (a ≤ 0 ∧ 0 ≤ b)) : a * b ≤ 0 := by
  rcases h with ⟨h1, h2⟩ | ⟨h1, h2⟩
  · have := Int.mul_nonneg h1 (show 0 ≤ -b by omega)
    rw [Int.mul_neg] at this; omega
  · have := Int.mul_nonneg (show 0 ≤ -a by omega) h2
    rw [Int.neg_mul] at this; omega
section
variable {x : Xt} (o : OkX x) {j : Int} (hj : 0 ≤ j)
include o hj
/-- a peak among its neighbours in the first range is the greatest there -/
theorem local_1 {v u : Int} (v0 : 0 ≤ v) (v1 : v ≤ x.b1 j) (dn : 0 ≤ v - 1 → x.ext j (v - 1) ≤ x.ext j v) (up : v + 1 ≤ x.b1 j → x.ext j (v + 1) ≤ x.ext j v) (u0 : 0 ≤ u) (u1 : u ≤ x.b1 j) : x.ext j u ≤ x.ext j v := by
  have b := b_le o hj
  have f : ∀ w, 0 ≤ w → w ≤ x.b1 j → x.ext j w = x.P * (x.m + w) + (j - w) * (x.H + w) := fun w _ h => by
    unfold Xt.ext
    rw [cap1 o hj h, cap2 o hj (by omega)]
  rw [f u u0 u1, f v v0 v1]
  have key : ∀ w, x.P * (x.m + w) + (j - w) * (x.H + w) - (x.P * (x.m + v) + (j - v) * (x.H + v)) = (w - v) * (x.P + j - x.H - w - v) := fun w => by grind
  refine sq_le2 (s := x.P + j - x.H) (mul_np ?_) _ _ _ _ rfl
  by_cases c : u ≤ v
  · by_cases c2 : u = v
    · rcases Int.le_total 0 (x.P + j - x.H - u - v) with z | z
      · right; omega
      · left; omega
    · right
      have d := dn (by omega)
      rw [f (v - 1) (by omega) (by omega), f v v0 v1] at d
      have k := key (v - 1)
      rw [show v - 1 - v = -1 by omega] at k
      omega
  · left
    have d := up (by omega)
    rw [f (v + 1) (by omega) (by omega), f v v0 v1] at d
    have k := Int.sub_nonpos_of_le d
    rw [key (v + 1), show v + 1 - v = 1 by omega, Int.one_mul] at k
    omega
/-- .. in the second range -/
theorem local_2 {v u : Int} (v0 : x.b1 j ≤ v) (v1 : v ≤ x.b2 j) (dn : x.b1 j ≤ v - 1 → x.ext j (v - 1) ≤ x.ext j v) (up : v + 1 ≤ x.b2 j → x.ext j (v + 1) ≤ x.ext j v) (u0 : x.b1 j ≤ u) (u1 : u ≤ x.b2 j) : x.ext j u ≤ x.ext j v := by
  have b := b_le o hj
  have f : ∀ w, x.b1 j ≤ w → w ≤ x.b2 j → x.ext j w = x.P * (x.m + x.b1 j) + (j - w) * (x.H + w) := fun w h h2 => by
    unfold Xt.ext
    rw [cap1' o hj h (by omega), cap2 o hj h2]
  rw [f u u0 u1, f v v0 v1]
  have key : ∀ w, (j - w) * (x.H + w) - (j - v) * (x.H + v) = (w - v) * (j - x.H - w - v) := fun w => by grind
  have g : (u - v) * (j - x.H - u - v) ≤ 0 := by
    refine mul_np ?_
    by_cases c : u ≤ v
    · by_cases c2 : u = v
      · rcases Int.le_total 0 (j - x.H - u - v) with z | z
        · right; omega
        · left; omega
      · right
        have d := dn (by omega)
        rw [f (v - 1) (by omega) (by omega), f v v0 v1] at d
        have k := key (v - 1)
        rw [show v - 1 - v = -1 by omega] at k
        omega
    · left
      have d := up (by omega)
      rw [f (v + 1) (by omega) (by omega), f v v0 v1] at d
      have k := key (v + 1)
      rw [show v + 1 - v = 1 by omega, Int.one_mul] at k
      have d : (j - (v + 1)) * (x.H + (v + 1)) - (j - v) * (x.H + v) ≤ 0 := by omega
      rw [k] at d
      omega
  have := key u
  omega
/-- two such peaks below a target: no split reaches it -/
theorem peaks_below {p q t : Int} (p0 : 0 ≤ p) (p1 : p ≤ x.b1 j) (pd : 0 ≤ p - 1 → x.ext j (p - 1) ≤ x.ext j p) (pu : p + 1 ≤ x.b1 j → x.ext j (p + 1) ≤ x.ext j p)
    (q0 : x.b1 j ≤ q) (q1 : q ≤ x.b2 j) (qd : x.b1 j ≤ q - 1 → x.ext j (q - 1) ≤ x.ext j q) (qu : q + 1 ≤ x.b2 j → x.ext j (q + 1) ≤ x.ext j q) (hp : x.ext j p < t) (hq : x.ext j q < t) : x.grt j < t := by
  have b := b_le o hj
  have c := p_in o hj
  have l1 := local_1 o hj p0 p1 pd pu (u := x.p1 j) c.1 c.2.1
  have l2 := local_2 o hj q0 q1 qd qu (u := x.p2 j) c.2.2.1 c.2.2.2
  unfold Xt.grt Xt.best
  split <;> omega
end
end HM
set_option Elab.async false
set_option linter.all false
set_option maxRecDepth 100000
set_option maxHeartbeats 4000000
namespace Lw
open PySem PySem.Spec PyProof.Rows L2 DL
/-! ### the text -/
def top (i : Nat) : Stmt := PySem.Challenge.pw_heightsums_k01_steps_and_paths.main.body.getD i (.Pass ⟨0, 0, 0, 0⟩)
abbrev s_law : Stmt := top 17
theorem sc_law : FnScope ["_law_script", "_law_value", "_law_valid", "_law_k", "_law_draws_here", "_law_path_here", "_law_changed", "_law_good", "_law_step", "_law_sign"] ["_law_script"] (defScope s_law) := ⟨rfl, rfl, rfl, by decide +kernel, rfl, by decide +kernel, by decide +kernel⟩
abbrev s__law_checks_right : Stmt := top 15
theorem sc__law_checks_right : FnScope ["_law_value", "_law_expected"] ["_law_value", "_law_expected"] (defScope s__law_checks_right) := ⟨rfl, rfl, rfl, by decide +kernel, rfl, by decide +kernel, by decide +kernel⟩
abbrev s_is_path : Stmt := top 8
theorem sc_is_path : FnScope ["value", "letter"] ["value"] (defScope s_is_path) := ⟨rfl, rfl, rfl, by decide +kernel, rfl, by decide +kernel, by decide +kernel⟩
abbrev s_is_step : Stmt := top 7
theorem sc_is_step : FnScope ["value"] ["value"] (defScope s_is_step) := ⟨rfl, rfl, rfl, by decide +kernel, rfl, by decide +kernel, by decide +kernel⟩
abbrev s_is_integer : Stmt := top 6
theorem sc_is_integer : FnScope ["value"] ["value"] (defScope s_is_integer) := ⟨rfl, rfl, rfl, by decide +kernel, rfl, by decide +kernel, by decide +kernel⟩
abbrev s__law_changed_path : Stmt := top 16
theorem sc__law_changed_path : FnScope ["_law_draws_here", "_law_path_here", "_law_at", "_law_sign"] ["_law_draws_here", "_law_path_here"] (defScope s__law_changed_path) := ⟨rfl, rfl, rfl, by decide +kernel, rfl, by decide +kernel, by decide +kernel⟩
abbrev s__law_draw : Stmt := top 12
theorem sc__law_draw : FnScope ["_law_draws_here", "_law_upto", "_law_digit"] ["_law_draws_here", "_law_upto"] (defScope s__law_draw) := ⟨rfl, rfl, rfl, by decide +kernel, rfl, by decide +kernel, by decide +kernel⟩
abbrev s__law_path : Stmt := top 13
theorem sc__law_path : FnScope ["_law_draws_here", "_law_most", "_law_turn"] ["_law_draws_here", "_law_most"] (defScope s__law_path) := ⟨rfl, rfl, rfl, by decide +kernel, rfl, by decide +kernel, by decide +kernel⟩
abbrev s__law_draws : Stmt := top 11
theorem sc__law_draws : FnScope ["_law_script", "_law_k", "_law_cell", "_law_seed"] ["_law_script", "_law_k"] (defScope s__law_draws) := ⟨rfl, rfl, rfl, by decide +kernel, rfl, by decide +kernel, by decide +kernel⟩
abbrev s__law_is_rejected : Stmt := top 14
theorem sc__law_is_rejected : FnScope ["_law_value", "e"] ["_law_value"] (defScope s__law_is_rejected) := ⟨rfl, rfl, rfl, by decide +kernel, rfl, by decide +kernel, by decide +kernel⟩
abbrev s_opposite : Stmt := top 9
theorem sc_opposite : FnScope ["step"] ["step"] (defScope s_opposite) := ⟨rfl, rfl, rfl, by decide +kernel, rfl, by decide +kernel, by decide +kernel⟩
abbrev sx_InvalidStep : Stmt := inCls (top 2) 0
theorem low_InvalidStep : LowSt "step" sx_InvalidStep := ⟨fun _ _ _ _ _ _ _ _ _ => rfl, ⟨_, _, _, _, rfl⟩, rfl, rfl, by decide, by decide, rfl, rfl, rfl⟩
/-! ### what each def computes -/
def e1_is_path : DL.Env → Out D :=
 fOp inD (fVar [] 1) (fC (.tup [.str "E", .str "W", .str "U", .str "D"]))
def b_is_path : DL.Env → SOut :=
 sRet (fAndV (fCl isiD (fCons (fVar [] 0) (fCons (fC (.ty "str")) (fNil)))) (fCl allD (fCons (fFrz (fLc [1] (fAny (fVar [] 0)) (gN [] 1) (fYes) (e1_is_path))) (fNil))))
def m_is_path : List D → FOut := runF 0 2 b_is_path
def b_is_step : DL.Env → SOut :=
 sRet (fAndV (fCl isiD (fCons (fVar [] 0) (fCons (fC (.ty "str")) (fNil)))) (fOp inD (fVar [] 0) (fC (.tup [.str "E", .str "W", .str "U", .str "D"]))))
def m_is_step : List D → FOut := runF 0 1 b_is_step
def b_is_integer : DL.Env → SOut :=
 sRet (fAndV (fCl isiD (fCons (fVar [] 0) (fCons (fC (.ty "int")) (fNil)))) (fNotV (fCl isiD (fCons (fVar [] 0) (fCons (fC (.ty "bool")) (fNil))))))
def m_is_integer : List D → FOut := runF 0 1 b_is_integer
def b__law_checks_right : DL.Env → SOut :=
 sRet (fOp eqD (fCl reprE (fCons (fCl lstD (fCons (fFrz (fCallG 1 0 1 [] (fun as _ => as) m_is_integer (fCons (fVar [] 0) (fNil)) (fNil))) (fCons (fFrz (fCallG 1 0 1 [] (fun as _ => as) m_is_step (fCons (fVar [] 0) (fNil)) (fNil))) (fCons (fFrz (fCallG 1 0 1 [] (fun as _ => as) m_is_path (fCons (fVar [] 0) (fNil)) (fNil))) (fNil))))) (fNil))) (fCl reprE (fCons (fVar [] 1) (fNil))))
def m__law_checks_right : List D → FOut := runF 0 2 b__law_checks_right
def b__law_draw : DL.Env → SOut :=
 sSeq (sIf (fTst (fOp gtD (fIxL 0 (fC (.int 0))) (fC (.int 0)))) (sSeq (sAsg (fOp modD (fIxL 0 (fC (.int 0))) (fVar [0] 1)) (gN [0] 2))
 (sSeq (sSetIx 0 (fOp fdivD (fIxL 0 (fC (.int 0))) (fVar [0] 1)) (fC (.int 0)))
 (sRet (fMov [0] 2)))) (sNil))
 (sSeq (sSetIx 0 (fOp modD (fOp addD (fOp mulD (fIxL 0 (fC (.int 1))) (fC (.int 48271))) (fC (.int 11))) (fC (.int 2147483647))) (fC (.int 1)))
 (sRet (fOp modD (fOp fdivD (fOp modD (fOp mulD (fIxL 0 (fC (.int 1))) (fIxL 0 (fC (.int 1)))) (fC (.int 2147483629))) (fC (.int 64))) (fVar [0] 1))))
def m__law_draw : List D → FOut := runF 1 3 b__law_draw
def b__law_changed_path : DL.Env → SOut :=
 sSeq (sAsg (fCallG 1 0 2 [0] (fun as _ => as) m__law_draw (fRef 0 (fCons (fOp addD (fCl lenD (fCons (fVar [0] 1) (fNil))) (fC (.int 1))) (fNil))) (fNil)) (gN [0] 2))
 (sSeq (sAsg (fOp ixD (fCl lstD (fCons (fC (.str "e")) (fCons (fC (.str " ")) (fCons (fC (.str "X")) (fCons (fC (.str "1")) (fCons (fC (.str "\n")) (fCons (fC (.str "EE")) (fCons (fC (.str "w")) (fCons (fC (.str "")) (fNil)))))))))) (fFrz (fCallG 1 0 2 [0] (fun as _ => as) m__law_draw (fRef 0 (fCons (fC (.int 8)) (fNil))) (fNil)))) (gN [0] 3))
 (sRet (fOpO addD (fOp addD (fSl slD (fVar [0] 1) (fNoP) (fPart (fVar [0] 2)) resE) (fVar [0] 3)) (fSl slD (fVar [0] 1) (fPart (fOp addD (fVar [0] 2) (fC (.int 1)))) (fNoP) resE))))
def m__law_changed_path : List D → FOut := runF 1 4 b__law_changed_path
def e1__law_path : DL.Env → Out D :=
 fOp ixD (fC (.str "EWUD")) (fFrz (fCallG 1 0 2 [0] (fun as _ => as) m__law_draw (fRef 0 (fCons (fC (.int 4)) (fNil))) (fNil)))
def b__law_path : DL.Env → SOut :=
 sRet (fM1 joinD (fC (.str "")) (fFrz (fLc [2] (fRng1 (fCons (fFrz (fCallG 1 0 2 [0] (fun as _ => as) m__law_draw (fRef 0 (fCons (fOp addD (fVar [0] 1) (fC (.int 1))) (fNil))) (fNil))) (fNil))) (gN [0] 2) (fYes) (e1__law_path))))
def m__law_path : List D → FOut := runF 1 3 b__law_path
def b__law_draws : DL.Env → SOut :=
 sSeq (sAsg (fC (.int 0)) (gN [] 2))
 (sSeq (sIf (fTst (fOp neD (fVar [] 0) (fCl lstD (fNil)))) (sAsg (fOp ixD (fVar [] 0) (fOp modD (fVar [] 1) (fCl lenD (fCons (fVar [] 0) (fNil))))) (gN [] 2)) (sNil))
 (sSeq (sIf (fTst (fOp geD (fVar [] 1) (fCl lenD (fCons (fVar [] 0) (fNil))))) (sAsg (fOp modD (fVar [] 2) (fC (.int 1000003))) (gN [] 2)) (sNil))
 (sSeq (sAsg (fOp modD (fOp mulD (fOp addD (fOp addD (fOp modD (fVar [] 2) (fC (.int 2147483629))) (fOp mulD (fC (.int 104729)) (fVar [] 1))) (fC (.int 11))) (fC (.int 48271))) (fC (.int 2147483647))) (gN [] 3))
 (sRet (fClO lstD (fCons (fOp mulD (fVar [] 2) (fCl intD (fCons (fOp geD (fVar [] 2) (fOp powD (fC (.int 10)) (fC (.int 18)))) (fNil)))) (fCons (fVar [] 3) (fNil))))))))
def m__law_draws : List D → FOut := runF 0 4 b__law_draws
def b_opposite : DL.Env → SOut :=
 sSeq (sIf (fNot (fTru (fFrz (fCallG 1 0 1 [] (fun as _ => as) m_is_step (fCons (fVar [] 0) (fNil)) (fNil))))) (sRaise1 "InvalidStep" "step" (fVar [] 0)) (sNil))
 (sRet (fUn (kdD [("E", "W"), ("W", "E"), ("U", "D"), ("D", "U")]) (fVar [] 0)))
def m_opposite : List D → FOut := runF 0 1 b_opposite
def b__law_is_rejected : DL.Env → SOut :=
 sSeq (sTry (sDrop (fCallG 1 0 1 [] (fun as _ => as) m_opposite (fCons (fVar [] 0) (fNil)) (fNil))) [⟨["InvalidStep"], [], some 1, fun c => sRet (fAndV (fIsX true) (fAndV (fNotV (fIsX false)) (fOp eqD (fCl reprE (fCons (fXf c.fs "step") (fNil))) (fCl reprE (fCons (fVar [1] 0) (fNil))))))⟩])
 (sRet (fC (.bl false)))
def m__law_is_rejected : List D → FOut := runF 0 2 b__law_is_rejected
def e1_law : DL.Env → Out D :=
 fVar [] 9
def t1_law : DL.Env → Out Bool :=
 fTst (fOp ninD (fVar [] 9) (fC (.str "EWUD")))
def l1_law : DL.Env → SOut :=
 sSeq (sAsg (fOp eqD (fFrz (fLc [9] (fAny (fVar [] 1)) (gN [] 9) (t1_law) (e1_law))) (fCl lstD (fNil))) (gN [] 7))
 (sIf (fNot (fTru (fFrz (fCallG 2 0 2 [] (fun as _ => as) m__law_checks_right (fCons (fVar [] 1) (fCons (fCl lstD (fCons (fC (.bl false)) (fCons (fOp inD (fVar [] 1) (fCl lstD (fCons (fC (.str "E")) (fCons (fC (.str "W")) (fCons (fC (.str "U")) (fCons (fC (.str "D")) (fNil))))))) (fCons (fVar [] 7) (fNil))))) (fNil))) (fNil))))) (sRet (fC (.bl false))) (sNil))
def r1_law : DL.Env → SOut :=
 sFor (fAny (fCl lstD (fCons (fVar [] 5) (fCons (fVar [] 6) (fNil))))) (gN [] 1) (l1_law)
def r2_law : DL.Env → SOut :=
 sSeq (sAsg (fCallG 1 0 2 [4] (fun as _ => as) m__law_changed_path (fRef 4 (fCons (fVar [] 5) (fNil))) (fNil)) (gN [] 6))
 (r1_law)
def r3_law : DL.Env → SOut :=
 sSeq (sAsg (fCallG 1 0 2 [4] (fun as _ => as) m__law_path (fRef 4 (fCons (fC (.int 40)) (fNil))) (fNil)) (gN [] 5))
 (r2_law)
def l2_law : DL.Env → SOut :=
 sSeq (sAsg (fCallG 2 0 2 [] (fun as _ => as) m__law_draws (fCons (fVar [] 0) (fCons (fVar [] 3) (fNil))) (fNil)) (gN [] 4))
 (r3_law)
def r4_law : DL.Env → SOut :=
 sRet (fC (.bl true))
def l3_law : DL.Env → SOut :=
 sSeq (sAsg (fOp inD (fVar [] 1) (fCl lstD (fCons (fC (.str "")) (fCons (fC (.str "EE")) (fCons (fC (.str "EW")) (fCons (fC (.str "EWUD")) (fNil))))))) (gN [] 2))
 (sIf (fOr (fNot (fTru (fFrz (fCallG 1 0 1 [] (fun as _ => as) m__law_is_rejected (fCons (fVar [] 1) (fNil)) (fNil))))) (fNot (fTru (fFrz (fCallG 2 0 2 [] (fun as _ => as) m__law_checks_right (fCons (fVar [] 1) (fCons (fCl lstD (fCons (fC (.bl false)) (fCons (fC (.bl false)) (fCons (fVar [] 2) (fNil))))) (fNil))) (fNil)))))) (sRet (fC (.bl false))) (sNil))
def r5_law : DL.Env → SOut :=
 sSeq (sFor (fRng1 (fCons (fCl maxD (fCons (fC (.int 1)) (fCons (fCl lenD (fCons (fVar [] 0) (fNil))) (fNil)))) (fNil))) (gN [] 3) (l2_law))
 (r4_law)
def l4_law : DL.Env → SOut :=
 sIf (fOr (fNot (fTru (fFrz (fCallG 1 0 1 [] (fun as _ => as) m__law_is_rejected (fCons (fVar [] 1) (fNil)) (fNil))))) (fNot (fTru (fFrz (fCallG 2 0 2 [] (fun as _ => as) m__law_checks_right (fCons (fVar [] 1) (fCons (fCl lstD (fCons (fC (.bl true)) (fCons (fC (.bl false)) (fCons (fC (.bl false)) (fNil))))) (fNil))) (fNil)))))) (sRet (fC (.bl false))) (sNil)
def r6_law : DL.Env → SOut :=
 sSeq (sFor (fAny (fCl lstD (fCons (fC (.str "")) (fCons (fC (.str "EE")) (fCons (fC (.str "e")) (fCons (fC (.str "EW")) (fCons (fC (.str "X")) (fCons (fC (.str " ")) (fCons (fC (.str "E ")) (fCons (fC (.str "EWUD")) (fNil))))))))))) (gN [] 1) (l3_law))
 (r5_law)
def l5_law : DL.Env → SOut :=
 sIf (fOr (fNot (fTru (fFrz (fCallG 1 0 1 [] (fun as _ => as) m__law_is_rejected (fCons (fVar [] 1) (fNil)) (fNil))))) (fNot (fTru (fFrz (fCallG 2 0 2 [] (fun as _ => as) m__law_checks_right (fCons (fVar [] 1) (fCons (fCl lstD (fCons (fC (.bl false)) (fCons (fC (.bl false)) (fCons (fC (.bl false)) (fNil))))) (fNil))) (fNil)))))) (sRet (fC (.bl false))) (sNil)
def r7_law : DL.Env → SOut :=
 sSeq (sFor (fAny (fCl lstD (fCons (fC (.int 0)) (fCons (fUn negD (fC (.int 7))) (fCons (fOp powD (fC (.int 10)) (fC (.int 40))) (fNil)))))) (gN [] 1) (l4_law))
 (r6_law)
def e2_law : DL.Env → Out D :=
 fFrz (fCallG 1 0 1 [] (fun as _ => as) m_opposite (fCons (fVar [] 8) (fNil)) (fNil))
def r8_law : DL.Env → SOut :=
 sSeq (sFor (fAny (fCl lstD (fCons (fC .non) (fCons (fC (.bl true)) (fCons (fC (.bl false)) (fCons (fCl tupD (fNil)) (fCons (fCl lstD (fNil)) (fCons (fDic false false) (fCons (fCl tupD (fCons (fC (.str "E")) (fNil))) (fCons (fCl lstD (fCons (fC (.str "E")) (fNil))) (fNil))))))))))) (gN [] 1) (l5_law))
 (r7_law)
def b_law : DL.Env → SOut :=
 sSeq (sIf (fOr (fTst (fOp neD (fC (.tup [.str "E", .str "W", .str "U", .str "D"])) (fCl tupD (fCons (fC (.str "E")) (fCons (fC (.str "W")) (fCons (fC (.str "U")) (fCons (fC (.str "D")) (fNil)))))))) (fTst (fOp neD (fFrz (fLc [8] (fAny (fC (.tup [.str "E", .str "W", .str "U", .str "D"]))) (gN [] 8) (fYes) (e2_law))) (fCl lstD (fCons (fC (.str "W")) (fCons (fC (.str "E")) (fCons (fC (.str "D")) (fCons (fC (.str "U")) (fNil))))))))) (sRet (fC (.bl false))) (sNil))
 (r8_law)
def m_law : List D → FOut := runF 0 10 b_law
end Lw
set_option linter.all false
set_option maxRecDepth 100000
set_option maxHeartbeats 1000000
set_option exponentiation.threshold 5000
namespace Lw
open PySem PySem.Spec PyProof.Rows L2 DL
section nbsec
mutual
def nbP : PyData → Bool
  | .none => true
  | .int _ => true
  | .str _ => true
  | .list xs => nbPs xs
  | .tuple xs => nbPs xs
  | _ => false
def nbPs : List PyData → Bool
  | [] => true
  | x :: xs => nbP x && nbPs xs
 end
mutual
theorem eqv_nb : ∀ p q : PyData, nbP p = true → nbP q = true → (PyData.eqv p q = true ↔ p = q)
  | .none, q, _, h => by cases q <;> first | (simp [nbP] at h; done) | simp [PyData.eqv]
  | .int a, q, _, h => by cases q <;> first | (simp [nbP] at h; done) | simp [PyData.eqv]
  | .str a, q, _, h => by cases q <;> first | (simp [nbP] at h; done) | simp [PyData.eqv]
  | .list xs, q, g, h => by
    cases q <;> first
      | (simp [nbP] at h; done)
      | (simp [PyData.eqv]; done)
      | skip
    rename_i ys
    have e := eqvs_nb xs ys (by simpa [nbP] using g) (by simpa [nbP] using h)
    simp only [PyData.eqv, PyData.list.injEq]
    exact e
  | .tuple xs, q, g, h => by
    cases q <;> first
      | (simp [nbP] at h; done)
      | (simp [PyData.eqv]; done)
      | skip
    rename_i ys
    have e := eqvs_nb xs ys (by simpa [nbP] using g) (by simpa [nbP] using h)
    simp only [PyData.eqv, PyData.tuple.injEq]
    exact e
  | .bool _, _, g, _ => by simp [nbP] at g
  | .dict _, _, g, _ => by simp [nbP] at g
theorem eqvs_nb : ∀ ps qs : List PyData, nbPs ps = true → nbPs qs = true → (PyData.eqvAll ps qs = true ↔ ps = qs)
  | [], [], _, _ => by simp [PyData.eqvAll]
  | [], _ :: _, _, _ => by simp [PyData.eqvAll]
  | _ :: _, [], _, _ => by simp [PyData.eqvAll]
  | p :: ps, q :: qs, g, h => by
    simp only [nbPs, Bool.and_eq_true] at g h
    have e1 := eqv_nb p q g.1 h.1
    have e2 := eqvs_nb ps qs g.2 h.2
    simp only [PyData.eqvAll, Bool.and_eq_true, List.cons.injEq]
    rw [e1, e2]
 end
end nbsec
structure Nb (k : Nat) (d : D) (p : PyData) : Prop where
  py : toPy d = some p
  lay : p.canLay0 = true
  dep : p.depth ≤ k
  nb : nbP p = true
structure Nbs (k : Nat) (ds : List D) (ps : List PyData) : Prop where
  py : toPys ds = some ps
  lay : PyData.canLayAll0 ps = true
  dep : PyData.depthAll ps ≤ k
  nb : nbPs ps = true
theorem nb_str {x : Str} (h : PyData.strOk x = true) : Nb 0 (.str x) (.str x) := ⟨rfl, by simpa [PyData.canLay0] using h, Nat.le_refl _, rfl⟩
theorem nbs_nil {k : Nat} : Nbs k [] [] := ⟨rfl, rfl, Nat.zero_le _, rfl⟩
theorem nbs_cons {k : Nat} {d : D} {ds : List D} {p : PyData} {ps : List PyData} (h : Nb k d p) (r : Nbs k ds ps) : Nbs k (d :: ds) (p :: ps) := by
  refine ⟨toPys_cons h.py r.py, ?_, ?_, ?_⟩
  · simp [PyData.canLayAll0, h.lay, r.lay]
  · have := h.dep; have := r.dep
    simp only [PyData.depthAll]; omega
  · simp [nbPs, h.nb, r.nb]
theorem nbs_map {α : Type} {k : Nat} (f : α → D) (g : α → PyData) : ∀ (l : List α), (∀ x ∈ l, Nb k (f x) (g x)) → Nbs k (l.map f) (l.map g)
  | [], _ => nbs_nil
  | x :: l, h => nbs_cons (h x (List.mem_cons_self ..)) (nbs_map f g l fun y hy => h y (List.mem_cons_of_mem _ hy))
theorem nb_lst {k : Nat} {o : Bool} {ds : List D} {ps : List PyData} (h : Nbs k ds ps) : Nb (k + 1) (.lst o ds) (.list ps) := by
  refine ⟨?_, by simpa [PyData.canLay0] using h.lay, ?_, by simpa [nbP] using h.nb⟩
  · show (toPys ds).map PyData.list = _
    rw [h.py]; rfl
  · have := h.dep
    simp only [PyData.depth]; omega
theorem Nb.shaped {k : Nat} {d : D} {p : PyData} (h : Nb k d p) (hk : k ≤ 60) : SeqAt.shaped p = true := by
  unfold SeqAt.shaped
  rw [Bool.and_eq_true, decide_eq_true_eq]
  exact ⟨h.lay, by have := h.dep; omega⟩
theorem Nb.eqP {k k' : Nat} {d d' : D} {p q : PyData} (h : Nb k d p) (h' : Nb k' d' q) (hk : k ≤ 60 := by decide) (hk' : k' ≤ 60 := by decide) : DL.eqP d d' = some (PyData.eqv p q) := by
  unfold DL.eqP
  rw [h.py, h'.py]
  dsimp only
  rw [if_pos ⟨h.shaped hk, h'.shaped hk'⟩]
/-- == of such data is = of what they are -/
theorem Nb.is {k k' : Nat} {d d' : D} {p q : PyData} {P : Prop} [Decidable P] (h : Nb k d p) (h' : Nb k' d' q) (e : p = q ↔ P) (hk : k ≤ 60 := by decide) (hk' : k' ≤ 60 := by decide) : eqB d d' = some (decide P) := by
  have g := Nb.eqP h h' hk hk'
  have z : eqB d d' = DL.eqP d d' := by
    cases d <;> cases d' <;> first
      | rfl
      | skip
    rename_i x y
    have := h.py; have := h'.py
    cases h.py; cases h'.py
    rw [g, eqB_str]
    simp [PyData.eqv]
  rw [z, g]
  congr 1
  have := eqv_nb p q h.nb h'.nb
  by_cases c : P
  · rw [decide_eq_true c, this]; exact e.mpr c
  · rw [decide_eq_false c]
    exact Bool.eq_false_iff.mpr fun t => c (e.mp (this.mp t))
@[simp] theorem str_inj {a b : String} : (PySem.Str.ofString a = PySem.Str.ofString b) = (a = b) := by
  refine propext ⟨fun h => ?_, fun h => by rw [h]⟩
  rw [PySem.Str.ofString_eq_toList, PySem.Str.ofString_eq_toList] at h
  injection h with h
  have h : a.toList.map Char.toNat = b.toList.map Char.toNat := by simpa using h
  have h : a.toList = b.toList := (List.map_inj_right fun x y e => Char.toNat_inj.mp e).mp h
  exact String.toList_inj.mp h
@[simp] theorem str_beq {a b : String} : (PySem.Str.ofString a == PySem.Str.ofString b) = decide (a = b) := by
  by_cases h : a = b
  · subst h; simp
  · have : ¬ PySem.Str.ofString a = PySem.Str.ofString b := by rw [str_inj]; exact h
    simp [h, this]
@[simp] theorem lookup_here {k a : Str} {d : D} {l : List (Str × D)} : List.lookup k ((a, d) :: l) = if k = a then some d else List.lookup k l := by
  by_cases h : k = a
  · subst h; simp [List.lookup]
  · have : (k == a) = false := by simpa using h
    simp [List.lookup, this, h]
@[simp] theorem eq_non_int {i : Int} : eqB .non (.int i) = some false := (rfl)
@[simp] theorem eq_int_non {i : Int} : eqB (.int i) .non = some false := (rfl)
@[simp] theorem frz1_int {i : Int} : frz1 (.int i) = .int i := (rfl)
@[simp] theorem eq_bl_bl {a b : Bool} : eqB (.bl a) (.bl b) = some (decide (a = b)) := by cases a <;> cases b <;> rfl
@[simp] theorem frz_ob {o : Bool} {c : String} {fs : List (Str × D)} : frz (.ob o c fs) = .ob false c (fs.map fun p => (p.1, frz1 p.2)) := (rfl)
@[simp] theorem owned_ob {o : Bool} {c : String} {fs : List (Str × D)} : owned (.ob o c fs) = o := (rfl)
@[simp] theorem frz1_non : frz1 .non = .non := (rfl)
@[simp] theorem frz1_bl {i : Bool} : frz1 (.bl i) = .bl i := (rfl)
@[simp] theorem frz1_str {i : Str} : frz1 (.str i) = .str i := (rfl)
@[simp] theorem frz1_tup {i : List D} : frz1 (.tup i) = .tup i := (rfl)
@[simp] theorem unBls_n : unBls [] = some [] := (rfl)
@[simp] theorem unBls_c {b : Bool} {ds : List D} : unBls (.bl b :: ds) = (unBls ds).map (b :: ·) := (rfl)
@[simp] theorem allR_s {bs : List Bool} : allR (some bs) = .val (.bl (bs.all id)) := (rfl)
@[simp] theorem flat_tup {ds : List D} : flatD (.tup ds) = false := (rfl)
@[simp] theorem flat_lst {o : Bool} {ds : List D} : flatD (.lst o ds) = false := (rfl)
@[simp] theorem isNon_non : isNonD .non = true := (rfl)
@[simp] theorem isNon_int {i : Int} : isNonD (.int i) = false := (rfl)
@[simp] theorem isNon_bl {i : Bool} : isNonD (.bl i) = false := (rfl)
@[simp] theorem isNon_str {i : Str} : isNonD (.str i) = false := (rfl)
@[simp] theorem isNon_tup {i : List D} : isNonD (.tup i) = false := (rfl)
@[simp] theorem isNon_ob {o : Bool} {c : String} {fs : List (Str × D)} : isNonD (.ob o c fs) = false := (rfl)
@[simp] theorem ok_int {i : Int} : setO.okField (.int i) = true := (rfl)
@[simp] theorem ok_non : setO.okField .non = true := (rfl)
@[simp] theorem ok_bl {b : Bool} : setO.okField (.bl b) = true := (rfl)
@[simp] theorem ok_str {i : Str} : setO.okField (.str i) = true := (rfl)
@[simp] theorem ok_tup {i : List D} : setO.okField (.tup i) = true := (rfl)
theorem mul_ok {i j : Int} (h1 : -(2 ^ 63) < j) (h2 : j < 2 ^ 63) : IntMulOk i j := IntMulOk.of_right (intBits_le_64 (by omega) (by omega))
theorem log_ok {n : Int} (h0 : 0 < n) (h : n < 2 ^ 64) : n.natAbs.log2 < 9000 := by
  have h1 : n.natAbs < 2 ^ 9000 := Nat.lt_of_lt_of_le (by omega) (Nat.pow_le_pow_right (by decide) (by decide : 64 ≤ 9000))
  exact (Nat.log2_lt (by omega)).mpr h1
/-- a pool of draws -/
def Pool (d : D) : Prop := ∃ c s : Int, d = .lst true [.int c, .int s] ∧ 0 ≤ c ∧ 0 ≤ s ∧ s < 2147483647
theorem log_big {n : Int} (h0 : 0 < n) (h : n < 2 ^ 1600) : n.natAbs.log2 < 9000 := Nat.lt_of_lt_of_le (log_lt (k := 1600) (by decide) (by omega) h) (by decide)
theorem draw_first {c s n : Int} (hc : 0 < c) (hn : 0 < n) (hn2 : n < 2 ^ 1600) :
    m__law_draw [.lst true [.int c, .int s], .int n] = .ok (.int (c % n)) [.lst true [.int (c / n), .int s]] := by
  have h1 := log_big hn hn2
  simp [m__law_draw, b__law_draw, hc, hn, h1]
theorem draw_next {c s n : Int} (hc : ¬ 0 < c) (hs : 0 ≤ s) (hs2 : s < 2147483647) (hn : 0 < n) (hn2 : n < 2 ^ 1600) :
    m__law_draw [.lst true [.int c, .int s], .int n] = .ok (.int ((((s * 48271 + 11) % 2147483647) * ((s * 48271 + 11) % 2147483647)) % 2147483629 / 64 % n)) [.lst true [.int c, .int ((s * 48271 + 11) % 2147483647)]] := by
  have h1 : IntMulOk s 48271 := mul_ok (by omega) (by omega)
  have h2 : IntMulOk ((s * 48271 + 11) % 2147483647) ((s * 48271 + 11) % 2147483647) := mul_ok (by omega) (by omega)
  have h3 := log_ok (n := 64) (by omega) (by omega)
  simp at h3
  simp [m__law_draw, b__law_draw, hc, hn, h1, h2, h3]
theorem draw {p : D} (hp : Pool p) {n : Int} (hn : 0 < n) (hn2 : n < 2 ^ 1600) : ∃ (r : Int) (p' : D), m__law_draw [p, .int n] = .ok (.int r) [p'] ∧ Pool p' ∧ 0 ≤ r ∧ r < n := by
  obtain ⟨c, s, rfl, h1, h2, h3⟩ := hp
  by_cases hc : 0 < c
  · exact ⟨_, _, draw_first hc hn hn2, ⟨_, _, rfl, Int.ediv_nonneg h1 (by omega), h2, h3⟩, Int.emod_nonneg _ (by omega), Int.emod_lt_of_pos _ hn⟩
  · exact ⟨_, _, draw_next hc h2 h3 hn hn2, ⟨_, _, rfl, h1, by omega, by omega⟩, Int.emod_nonneg _ (by omega), Int.emod_lt_of_pos _ hn⟩
theorem canAll : ∀ ns : List Int, ∃ ps, toPys (ns.map D.int) = some ps ∧ PyData.canLayAll0 ps = true ∧ PyData.depthAll ps = 0 ∧ PyData.eqvAll ps [] = ns.isEmpty
  | [] => ⟨[], rfl, rfl, rfl, rfl⟩
  | n :: ns => by
    obtain ⟨ps, h1, h2, h3, _⟩ := canAll ns
    refine ⟨.int n :: ps, ?_, ?_, ?_, ?_⟩
    · show (match toPy (D.int n), toPys (ns.map D.int) with
        | some p, some ps => some (p :: ps)
        | _, _ => none) = _
      rw [h1]
      rfl
    · simp [PyData.canLayAll0, PyData.canLay0, h2]
    · simp [PyData.depthAll, PyData.depth, h3]
    · simp [PyData.eqvAll]
@[simp] theorem script_ne {ns : List Int} {o : Bool} : eqB (.ro (ns.map D.int)) (.lst o []) = some ns.isEmpty := by
  obtain ⟨ps, h1, h2, h3, h4⟩ := canAll ns
  have e1 : toPy (.ro (ns.map D.int)) = some (.list ps) := by
    show (toPys (ns.map D.int)).map PyData.list = _
    rw [h1]
    rfl
  show eqP (.ro (ns.map D.int)) (.lst o []) = _
  unfold eqP
  rw [e1]
  show (if SeqAt.shaped (.list ps) = true ∧ SeqAt.shaped (.list []) = true then some (PyData.eqv (.list ps) (.list [])) else none) = _
  have e2 : SeqAt.shaped (.list ps) = true := by
    unfold SeqAt.shaped
    rw [Bool.and_eq_true, decide_eq_true_eq]
    refine ⟨h2, ?_⟩
    show PyData.depthAll ps + 1 ≤ 64
    rw [h3]
    decide
  rw [if_pos ⟨e2, rfl⟩]
  show some (PyData.eqvAll ps []) = _
  rw [h4]
theorem at_map {ns : List Int} {j : Nat} (h : j < ns.length) : atI (ns.map D.int) (j : Int) = some (.int ns[j]) := by
  rw [at_nat, List.getElem?_map, List.getElem?_eq_getElem h]
  rfl
theorem draws (ns : List Int) (k : Nat) (hk : k < 1000) : ∃ p, m__law_draws [.ro (ns.map D.int), .int (k : Int)] = .ok p [] ∧ Pool p := by
  have g1 : IntMulOk 104729 (k : Int) := mul_ok (by omega) (by omega)
  have g2 : ∀ c : Int, IntMulOk (c % 2147483629 + 104729 * (k : Int) + 11) 48271 := fun c => mul_ok (by omega) (by omega)
  have g3 : ∀ c : Int, IntMulOk c 0 := fun c => mul_ok (by omega) (by omega)
  have g4 : ∀ c : Int, IntMulOk c 1 := fun c => mul_ok (by omega) (by omega)
  have pool : ∀ c t : Int, (0 ≤ c) → Pool (.lst true [.int c, .int (t % 2147483647)]) := fun c t h => ⟨c, _, rfl, h, Int.emod_nonneg _ (by omega), Int.emod_lt_of_pos _ (by omega)⟩
  cases ns with
  | nil =>
    refine ⟨_, ?_, pool 0 ((0 % 2147483629 + 104729 * k + 11) * 48271) (by omega)⟩
    have e := g2 0
    simp at e
    have h0 : (0 : Int) ≤ k := by omega
    have z := script_ne (ns := []) (o := false)
    simp at z
    simp [m__law_draws, b__law_draws, g1, e, g3, h0, z]
  | cons n r =>
    generalize hl : (n :: r) = ns
    have l0 : 0 < ns.length := by rw [← hl, List.length_cons]; omega
    have l1 : (0 : Int) < (ns.length : Int) := by omega
    have hj : k % ns.length < ns.length := Nat.mod_lt _ l0
    have hx := at_map hj
    have hc : ((k % ns.length : Nat) : Int) = (k : Int) % (ns.length : Int) := by simp
    rw [hc] at hx
    have he : ns.isEmpty = false := by rw [← hl]; rfl
    generalize ns[k % ns.length] = x at hx
    by_cases hk2 : ns.length ≤ k
    · by_cases h : 1000000000000000000 ≤ x % 1000003
      · omega
      · refine ⟨_, ?_, pool 0 ((x % 1000003 % 2147483629 + 104729 * k + 11) * 48271) (by omega)⟩
        simp [m__law_draws, b__law_draws, g1, g2, g3, hx, he, l0, hk2, h, -Int.emod_emod_of_dvd]
    · by_cases h : 1000000000000000000 ≤ x
      · refine ⟨_, ?_, pool x ((x % 2147483629 + 104729 * k + 11) * 48271) (by omega)⟩
        simp [m__law_draws, b__law_draws, g1, g2, g4, hx, he, l0, hk2, h]
      · refine ⟨_, ?_, pool 0 ((x % 2147483629 + 104729 * k + 11) * 48271) (by omega)⟩
        simp [m__law_draws, b__law_draws, g1, g2, g3, hx, he, l0, hk2, h]
structure Pl where
  d : D
  ok : Pool d
noncomputable def Pl.val (p : Pl) (n : Int) : Int := if h : 0 < n ∧ n < 2 ^ 1600 then (draw p.ok h.1 h.2).choose else 0
noncomputable def Pl.nxt (p : Pl) (n : Int) : Pl := if h : 0 < n ∧ n < 2 ^ 1600 then ⟨(draw p.ok h.1 h.2).choose_spec.choose, (draw p.ok h.1 h.2).choose_spec.choose_spec.2.1⟩ else p
theorem draw_at (p : Pl) {n : Int} (h1 : 0 < n) (h2 : n < 2 ^ 1600) : m__law_draw [p.d, .int n] = .ok (.int (p.val n)) [(p.nxt n).d] := by
  unfold Pl.val Pl.nxt
  rw [dif_pos ⟨h1, h2⟩, dif_pos ⟨h1, h2⟩]
  exact (draw p.ok h1 h2).choose_spec.choose_spec.1
theorem Pl.lo (p : Pl) {n : Int} (h1 : 0 < n) (h2 : n < 2 ^ 1600) : 0 ≤ p.val n := by
  unfold Pl.val
  rw [dif_pos ⟨h1, h2⟩]
  exact (draw p.ok h1 h2).choose_spec.choose_spec.2.2.1
theorem Pl.hi (p : Pl) {n : Int} (h1 : 0 < n) (h2 : n < 2 ^ 1600) : p.val n < n := by
  unfold Pl.val
  rw [dif_pos ⟨h1, h2⟩]
  exact (draw p.ok h1 h2).choose_spec.choose_spec.2.2.2
theorem draws_at (ns : List Int) (k : Nat) (hk : k < 1000) : ∃ p : Pl, m__law_draws [.ro (ns.map D.int), .int (k : Int)] = .ok p.d [] := by
  obtain ⟨p, h1, h2⟩ := draws ns k hk
  exact ⟨⟨p, h2⟩, h1⟩
@[simp] theorem Pl.own (p : Pl) : owned p.d = true := by
  obtain ⟨c, s, e, _⟩ := p.ok
  rw [e]; rfl
@[simp] theorem Pl.isL (p : Pl) : ∃ ds, p.d = .lst true ds := by
  obtain ⟨c, s, e, _⟩ := p.ok
  exact ⟨_, e⟩
theorem dr (p : Pl) (n : Int) (h1 : 0 < n := by omega) (h2 : n < 2 ^ 1600 := by omega) : ∃ (v : Int) (p' : Pl), m__law_draw [p.d, .int n] = .ok (.int v) [p'.d] ∧ 0 ≤ v ∧ v < n := ⟨_, _, draw_at p h1 h2, p.lo h1 h2, p.hi h1 h2⟩
end Lw
set_option linter.all false
set_option maxRecDepth 100000
set_option maxHeartbeats 1000000
set_option exponentiation.threshold 5000
namespace Lw
open PySem PySem.Spec PyProof.Rows L2 DL
def stps : List Str := ["E", "W", "U", "D"]
theorem stp_cases {P : Str → Prop} (h1 : P "E") (h2 : P "W") (h3 : P "U") (h4 : P "D") {x : Str} (h : x ∈ stps) : P x := by
  unfold stps at h
  simp only [List.mem_cons, List.not_mem_nil, or_false] at h
  rcases h with rfl | rfl | rfl | rfl <;> assumption
theorem is_int_at {i : Int} : m_is_integer [.int i] = .ok (.bl true) [] := by simp [m_is_integer, b_is_integer, isTy, tyKnown]
theorem is_step_at {x : Str} (h : x ∈ stps) : m_is_step [.str x] = .ok (.bl true) [] := by
  have e : ((("E" : Str) == x) || ((("W" : Str) == x) || ((("U" : Str) == x) || ((("D" : Str) == x))))) = true := stp_cases (P := fun x => ((("E" : Str) == x) || ((("W" : Str) == x) || ((("U" : Str) == x) || ((("D" : Str) == x))))) = true) (by decide) (by decide) (by decide) (by decide) h
  simp [m_is_step, b_is_step, isTy, tyKnown] at e ⊢
  exact e
end Lw
set_option linter.all false
set_option maxRecDepth 100000
set_option maxHeartbeats 1000000
set_option exponentiation.threshold 5000
namespace Lw
open PySem PySem.Spec PyProof.Rows L2 DL
def sS : HM.Sp → Str
  | .E => "E" | .W => "W" | .U => "U" | .D => "D"
end Lw
set_option linter.all false
set_option maxRecDepth 100000
set_option maxHeartbeats 1000000
set_option exponentiation.threshold 5000
namespace Lw
open PySem PySem.Spec PyProof.Rows L2 DL
def cd : HM.Sp → Nat
  | .E => 69 | .W => 87 | .U => 85 | .D => 68
def pS (l : List HM.Sp) : Str := ⟨(l.map cd).toArray⟩
theorem pS_len {l : List HM.Sp} : (pS l).length = l.length := by
  show ((l.map cd).toArray).size = _
  rw [List.size_toArray, List.length_map]
theorem one_pS (p : HM.Sp) : sS p = pS [p] := by cases p <;> rfl
theorem pS_app {a b : List HM.Sp} : pS a ++ pS b = pS (a ++ b) := by
  show (⟨(a.map cd).toArray ++ (b.map cd).toArray⟩ : Str) = ⟨((a ++ b).map cd).toArray⟩
  rw [List.map_append]
  simp
theorem len_pS {l : List HM.Sp} (h : l.length ≤ 16777216) : lenD [.str (pS l)] = .val (.int (l.length : Nat)) := by
  show (if (pS l).length ≤ sizeLine then Res.val (D.int ((pS l).length : Nat)) else .no) = _
  rw [pS_len, sizeLine_eq, if_pos h]
theorem cut_pS {l : List HM.Sp} {lo hi : Option Int} : cutS (pS l) lo hi = pS ((l.drop (HT.sIx l.length 0 lo)).take (HT.sIx l.length l.length hi - HT.sIx l.length 0 lo)) := by
  unfold cutS
  rw [pS_len]
  show (⟨((((l.map cd).toArray).toList.drop _).take _).toArray⟩ : Str) = ⟨(List.map cd _).toArray⟩
  rw [List.map_take, List.map_drop]
theorem sl_pS {l : List HM.Sp} {lo hi : Option Int} (h : l.length ≤ 16777216) : slD (.str (pS l)) lo hi = .val (.str (pS ((l.drop (HT.sIx l.length 0 lo)).take (HT.sIx l.length l.length hi - HT.sIx l.length 0 lo)))) := by
  show (if (pS l).length ≤ sizeLine then Res.val (.str (cutS (pS l) lo hi)) else .no) = _
  rw [pS_len, sizeLine_eq, if_pos h, cut_pS]
theorem sl_to {l : List HM.Sp} {k : Nat} (h : l.length ≤ 16777216) : slD (.str (pS l)) none (some (k : Int)) = .val (.str (pS (l.take k))) := by
  rw [sl_pS h, HT.sIx_none, HT.sIx_nat, List.drop_zero, Nat.sub_zero]
  by_cases c : k ≤ l.length
  · rw [Nat.min_eq_left c]
  · rw [Nat.min_eq_right (by omega), List.take_of_length_le (Nat.le_refl _), List.take_of_length_le (by omega)]
theorem sl_from {l : List HM.Sp} {k : Nat} (h : l.length ≤ 16777216) : slD (.str (pS l)) (some (k : Int)) none = .val (.str (pS (l.drop k))) := by
  rw [sl_pS h, HT.sIx_none, HT.sIx_nat]
  by_cases c : k ≤ l.length
  · rw [Nat.min_eq_left c, List.take_of_length_le (by rw [List.length_drop]; omega)]
  · rw [Nat.min_eq_right (by omega), List.drop_eq_nil_of_le (Nat.le_refl _), List.drop_eq_nil_of_le (by omega), List.take_nil]
theorem glue_pS {e : Str} (he : e.cps = #[]) : ∀ (r : List (List HM.Sp)) (acc : List HM.Sp), (r.map pS).foldl (fun acc p => acc ++ e.cps ++ p.cps) (pS acc).cps = (pS (acc ++ r.flatten)).cps
  | [], acc => by simp
  | l :: r, acc => by
    rw [List.map_cons, List.foldl_cons, he]
    have e2 : (pS acc).cps ++ #[] ++ (pS l).cps = (pS (acc ++ l)).cps := by
      rw [← pS_app, Array.append_empty]
      rfl
    rw [e2]
    have := glue_pS he r (acc ++ l)
    rw [he] at this
    rw [this, List.flatten_cons, List.append_assoc]
theorem join_pS (ls : List (List HM.Sp)) : Txt.join "" (ls.map pS) = pS ls.flatten := by
  show Builtin.Str.glued "" (ls.map pS) = _
  cases ls with
  | nil => rfl
  | cons l r =>
    have := glue_pS (e := "") rfl r l
    show (⟨(r.map pS).foldl (fun acc p => acc ++ ("" : Str).cps ++ p.cps) (pS l).cps⟩ : Str) = _
    rw [this, List.flatten_cons]
theorem unStrs_map : ∀ ys : List Str, unStrs (ys.map D.str) = some ys
  | [] => rfl
  | y :: ys => by
    show (unStrs (ys.map D.str)).map (y :: ·) = _
    rw [unStrs_map]
    rfl
theorem sum_lens (ls : List (List HM.Sp)) : ((ls.map pS).map (·.length)).sum = ls.flatten.length := by
  rw [List.length_flatten, List.map_map]
  congr 1
  exact List.map_congr_left fun l _ => pS_len
theorem joinD_pS {ls : List (List HM.Sp)} {o : Bool} (h : ls.flatten.length ≤ 16777216) : joinD (.str "") (.lst o (ls.map fun l => D.str (pS l))) = .val (.str (pS ls.flatten)) := by
  have e : (ls.map fun l => D.str (pS l)) = (ls.map pS).map D.str := by rw [List.map_map]; rfl
  have z : ("" : Str).length = 0 := rfl
  rw [joinD_lst, e, unStrs_map, joinR_some, if_pos (by rw [sum_lens, z]; omega), join_pS]
theorem flat_one (l : List HM.Sp) : (l.map fun p => [p]).flatten = l := by
  induction l with
  | nil => rfl
  | cons p l ih => rw [List.map_cons, List.flatten_cons, ih]; rfl
theorem joinD_sS {l : List HM.Sp} {o : Bool} (h : l.length ≤ 16777216) : joinD (.str "") (.lst o (l.map fun p => D.str (sS p))) = .val (.str (pS l)) := by
  have e : (l.map fun p => D.str (sS p)) = ((l.map fun p => [p]).map fun l => D.str (pS l)) := by
    rw [List.map_map]
    exact List.map_congr_left fun p _ => by rw [one_pS]; rfl
  have q := joinD_pS (ls := l.map fun p => [p]) (o := o) (by rw [flat_one]; exact h)
  rw [e, q, flat_one]
theorem lc_state {τ β : Type} {vs : List Nat} {g : D → DL.Env → Option DL.Env} {T : DL.Env → Out Bool} {Fe : DL.Env → Out D} (S : τ → DL.Env) (enc : β → D) (ok : β → Prop) :
    ∀ (ds : List D) (acc : List β) (t : τ), acc.length + ds.length ≤ 16777216 → (∀ d ∈ ds, ∀ t, ∃ (t' : τ) (b : β) (ρ1 ρ2 ρ3 : DL.Env) (q1 q2 : Bool), g d (S t) = some ρ1 ∧ T ρ1 = .ok true ρ2 q1 ∧ Fe ρ2 = .ok (enc b) ρ3 q2 ∧ wipeE ρ3 vs = S t' ∧ ok b) →
    (∀ b ∈ acc, ok b) → ∃ (t' : τ) (bs : List β), lcD vs g T Fe ds (acc.map enc) (S t) = .ok (.lst true (bs.map enc)) (S t') false ∧ bs.length = acc.length + ds.length ∧ ∀ b ∈ bs, ok b
  | [], acc, t, _, _, ha => ⟨t, acc, rfl, rfl, ha⟩
  | d :: ds, acc, t, hl, h, ha => by
    obtain ⟨t1, b, ρ1, ρ2, ρ3, q1, q2, e1, e2, e3, e4, ob⟩ := h d (List.mem_cons_self ..) t
    rw [List.length_cons] at hl
    obtain ⟨t', bs, e, l, k⟩ := lc_state S enc ok ds (acc ++ [b]) t1 (by rw [List.length_append, List.length_singleton]; omega) (fun d hd => h d (List.mem_cons_of_mem _ hd)) fun x hx => by
      rcases List.mem_append.mp hx with hx | hx
      · exact ha x hx
      · rw [List.mem_singleton.mp hx]; exact ob
    refine ⟨t', bs, ?_, by rw [l, List.length_append, List.length_singleton, List.length_cons]; omega, k⟩
    unfold lcD
    rw [e1]
    dsimp only
    rw [e2]
    dsimp only
    rw [if_pos rfl, e3]
    dsimp only
    rw [if_pos (by rw [sizeLine_eq, List.length_map]; omega), e4]
    rw [List.map_append, List.map_singleton] at e
    exact e
/-- a drawn path -/
theorem ewud_sp {v : Int} (h1 : 0 ≤ v) (h2 : v < 4) : ∃ p : HM.Sp, ixD (.str "EWUD") (.int v) = .val (.str (sS p)) := by
  rcases int_lt4 h1 h2 with rfl | rfl | rfl | rfl
  · exact ⟨.E, by rfl⟩
  · exact ⟨.W, by rfl⟩
  · exact ⟨.U, by rfl⟩
  · exact ⟨.D, by rfl⟩
theorem law_path_at (p : Pl) {m : Int} (h0 : 0 ≤ m) (hm : m ≤ 4000) : ∃ (l : List HM.Sp) (p' : Pl), m__law_path [p.d, .int m] = .ok (.str (pS l)) [p'.d] ∧ (l.length : Int) ≤ m := by
  obtain ⟨n, rfl⟩ : ∃ n : Nat, m = n := ⟨m.toNat, by omega⟩
  obtain ⟨v, p1, e1, v0, v1⟩ := dr p ((n : Int) + 1)
  obtain ⟨k, rfl⟩ : ∃ k : Nat, v = k := ⟨v.toNat, by omega⟩
  obtain ⟨p2, l, e2, ln, _⟩ := lc_state (vs := [2]) (g := gN [0] 2) (T := fYes) (Fe := e1__law_path) (fun q : Pl => [some q.d, some (.int (n : Int)), none]) (fun p : HM.Sp => D.str (sS p)) (fun _ => True) (rngD 0 k) [] p1 (by rw [show (rngD 0 k).length = k by simp [rngD], List.length_nil]; omega) (fun d hd q => by
    obtain ⟨x, q', g1, x0, x1⟩ := dr q 4
    obtain ⟨s, g2⟩ := ewud_sp x0 x1
    exact ⟨q', s, [some q.d, some (.int (n : Int)), some d], [some q.d, some (.int (n : Int)), some d], [some q'.d, some (.int (n : Int)), some d], true, false, by simp, by simp, by simp [e1__law_path, g1, g2], by simp, trivial⟩) (fun _ h => by cases h)
  have ll : l.length = k := by rw [ln]; simp [rngD]
  refine ⟨l, p2, ?_, by omega⟩
  have j := joinD_sS (l := l) (o := false) (by omega)
  have f := fun ρ0 q h => fRng1_nat (k := k) (ρ := ρ0) (ρ1 := [some p1.d, some (.int (n : Int)), none]) (q := q) (F := fCons (fFrz (fCallG 1 0 2 [0] (fun as _ => as) m__law_draw (fRef 0 (fCons (fOp addD (fVar [0] 1) (fC (.int 1))) fNil)) fNil)) fNil) h (by omega)
  have f2 := f [some p.d, some (.int (n : Int)), none] false (by simp [e1])
  simp only [List.map_nil] at e2
  simp [-fRng1_ap, -joinD_lst, m__law_path, b__law_path, f2, e2, j]
end Lw
set_option linter.all false
set_option maxRecDepth 100000
set_option maxHeartbeats 1000000
set_option exponentiation.threshold 5000
namespace Lw
open PySem PySem.Spec PyProof.Rows L2 DL
def bdN : List (Str × D) := [("low_end", .non), ("high_end", .non)]
@[simp] theorem bdF_low : bdN.lookup ("low" : Str) = none := (rfl)
@[simp] theorem bdF_high : bdN.lookup ("high" : Str) = none := (rfl)
@[simp] theorem bdF_includes : bdN.lookup ("includes" : Str) = none := (rfl)
@[simp] theorem bdF_room : bdN.lookup ("room" : Str) = none := (rfl)
@[simp] theorem bdF_shift : bdN.lookup ("shift" : Str) = none := (rfl)
@[simp] theorem bdF_contains : bdN.lookup ("contains" : Str) = none := (rfl)
end Lw
set_option linter.all false
set_option maxRecDepth 100000
set_option maxHeartbeats 1000000
set_option exponentiation.threshold 5000
namespace Lw
open PySem PySem.Spec PyProof.Rows L2 DL
theorem nm_len_ok {x : Str} (h : PyData.strOk x = true) (hl : x.length ≤ 16) : (reprText x).length ≤ 200 := by
  have := PySem.StrLaws.reprText_len x fun c hc => by
    have := Array.all_eq_true_iff_forall_mem.mp h c (Array.mem_toList_iff.mp hc)
    have := of_decide_eq_true this
    omega
  omega
end Lw
namespace Lw
end Lw
set_option linter.all false
set_option maxRecDepth 100000
set_option maxHeartbeats 4000000
set_option exponentiation.threshold 5000
namespace Lw
open PySem PySem.Spec PyProof.Rows L2 DL
/-! ### texts of known letters -/
def AL : List Nat := [69, 87, 85, 68, 101, 32, 88, 49, 10, 119]
def tS (l : List Nat) : Str := ⟨l.toArray⟩
def isL (c : Nat) : Bool := c == 69 || c == 87 || c == 85 || c == 68
theorem al_cases {P : Nat → Prop} (h : ∀ i : Fin 10, P (AL[i.val]'(by show i.val < 10; exact i.isLt))) {c : Nat} (m : c ∈ AL) : P c := by
  obtain ⟨i, hi, rfl⟩ := List.getElem_of_mem m
  exact h ⟨i, hi⟩
theorem in_tup4 {x : Str} : inB (.str x) (.tup [.str "E", .str "W", .str "U", .str "D"]) = some ((("E" : Str) == x) || ((("W" : Str) == x) || ((("U" : Str) == x) || (("D" : Str) == x)))) := by
  rw [inB_tup, if_pos ⟨rfl, rfl⟩]
  show some ((("E" : Str) == x) || ((("W" : Str) == x) || ((("U" : Str) == x) || ((("D" : Str) == x) || false)))) = _
  rw [Bool.or_false]
theorem in_lst4 {x : Str} {o : Bool} : inB (.str x) (.lst o [.str "E", .str "W", .str "U", .str "D"]) = some ((("E" : Str) == x) || ((("W" : Str) == x) || ((("U" : Str) == x) || (("D" : Str) == x)))) := by
  rw [inB_flat rfl rfl]
  show some ((("E" : Str) == x) || ((("W" : Str) == x) || ((("U" : Str) == x) || ((("D" : Str) == x) || false)))) = _
  rw [Bool.or_false]
theorem in4_one {c : Nat} (h : c ∈ AL) : ((("E" : Str) == (⟨#[c]⟩ : Str)) || ((("W" : Str) == (⟨#[c]⟩ : Str)) || ((("U" : Str) == (⟨#[c]⟩ : Str)) || (("D" : Str) == (⟨#[c]⟩ : Str))))) = isL c := by
  refine al_cases (P := fun c => ((("E" : Str) == (⟨#[c]⟩ : Str)) || ((("W" : Str) == (⟨#[c]⟩ : Str)) || ((("U" : Str) == (⟨#[c]⟩ : Str)) || (("D" : Str) == (⟨#[c]⟩ : Str))))) = isL c) ?_ h
  decide +kernel
theorem in_txt {c : Nat} (h : c ∈ AL) : inB (.str ⟨#[c]⟩) (.str "EWUD") = some (isL c) := by
  refine congrArg some (al_cases (P := fun c => (!(Builtin.Str.occurrences "EWUD" (⟨#[c]⟩ : Str) 0 ("EWUD" : Str).length 1).isEmpty) = isL c) ?_ h)
  decide +kernel
theorem sgn_tS {l : List Nat} : sgnD (tS l) = l.map fun c => D.str ⟨#[c]⟩ := rfl
theorem tS_len {l : List Nat} : (tS l).length = l.length := by show (l.toArray).size = _; simp
theorem tS_app {a b : List Nat} : tS a ++ tS b = tS (a ++ b) := by
  show (⟨a.toArray ++ b.toArray⟩ : Str) = ⟨(a ++ b).toArray⟩
  simp
theorem pS_tS {l : List HM.Sp} : pS l = tS (l.map cd) := rfl
theorem cd_al {l : List HM.Sp} : ∀ c ∈ l.map cd, c ∈ AL := fun c h => by
  obtain ⟨p, _, rfl⟩ := List.mem_map.mp h
  cases p <;> decide
/-! ### the three checks -/
theorem int_str {x : Str} : m_is_integer [.str x] = .ok (.bl false) [] := by
  have t1 : isTy "str" "int" = false := by decide
  have t2 : tyKnown "int" = true := by decide
  simp [m_is_integer, b_is_integer, t1, t2]
theorem step_str {x : Str} : m_is_step [.str x] = .ok (.bl ((("E" : Str) == x) || ((("W" : Str) == x) || ((("U" : Str) == x) || (("D" : Str) == x))))) [] := by
  have t1 : isTy "str" "str" = true := by decide
  have t2 : tyKnown "str" = true := by decide
  have i := @in_tup4 x
  simp [-inB_tup, m_is_step, b_is_step, t1, t2, i]
theorem all_bl : ∀ {l : List Nat}, unBls (l.map fun c => D.bl (isL c)) = some (l.map isL)
  | [] => rfl
  | c :: l => by rw [List.map_cons, List.map_cons, unBls_c, all_bl]; rfl
theorem path_str {l : List Nat} (h : ∀ c ∈ l, c ∈ AL) (hl : l.length ≤ 1000) : m_is_path [.str (tS l)] = .ok (.bl (l.all isL)) [] := by
  have t1 : isTy "str" "str" = true := by decide
  have t2 : tyKnown "str" = true := by decide
  have lc := lc_all (vs := [1]) (g := gN [] 1) (T := fYes) (Fe := e1_is_path) (ρ := [some (.str (tS l)), none]) (fun c : Nat => D.str ⟨#[c]⟩) (fun c => D.bl (isL c)) l (by omega) fun c hc => ⟨[some (.str (tS l)), some (.str ⟨#[c]⟩)], [some (.str (tS l)), some (.str ⟨#[c]⟩)], [some (.str (tS l)), some (.str ⟨#[c]⟩)], true, true, by simp, by simp, by
    have i := @in_tup4 ⟨#[c]⟩
    rw [in4_one (h c hc)] at i
    simp [-inB_tup, e1_is_path, i], by simp⟩
  have u := @all_bl l
  have a : (l.map isL).all id = l.all isL := by rw [List.all_map]; rfl
  simp [m_is_path, b_is_path, sgn_tS, lc, u, a, t1, t2]
theorem bls_gd {a b c : Bool} {o : Bool} : ∃ X : Str, reprG [.lst o [.bl a, .bl b, .bl c]] = .val (.str X) := ⟨shownD (.lst o [.bl a, .bl b, .bl c]), show reprP (.lst o [.bl a, .bl b, .bl c]) = _ from (gd_lst (gds_cons gd_bl (gds_cons gd_bl (gds_cons gd_bl gds_nil)))).repr (by decide) (by decide)⟩
theorem checks_of {v : D} {a b c : Bool} (ov : owned v = false) (h1 : m_is_integer [v] = .ok (.bl a) []) (h2 : m_is_step [v] = .ok (.bl b) []) (h3 : m_is_path [v] = .ok (.bl c) []) : m__law_checks_right [v, .lst false [.bl a, .bl b, .bl c]] = .ok (.bl true) [] := by
  obtain ⟨X, hX⟩ := @bls_gd a b c false
  simp [-reprG_lst, m__law_checks_right, b__law_checks_right, ov, h1, h2, h3, hX]
/-! ### what is refused -/
theorem rejected {v : D} (ov : owned v = false) (h : m_is_step [v] = .ok (.bl false) []) {X : Str} (hX : reprE [v] = .val (.str X)) : m__law_is_rejected [v] = .ok (.bl true) [] := by
  simp [m__law_is_rejected, b__law_is_rejected, m_opposite, b_opposite, ov, h, hX, fIsX]
end Lw
set_option linter.all false
set_option maxRecDepth 100000
set_option maxHeartbeats 4000000
set_option exponentiation.threshold 5000
namespace Lw
open PySem PySem.Spec PyProof.Rows L2 DL
/-! ### a path with one letter changed -/
def SG : List (List Nat) := [[101], [32], [88], [49], [10], [69, 69], [119], []]
theorem sg_lit : ([.str "e", .str " ", .str "X", .str "1", .str "\n", .str "EE", .str "w", .str ""] : List D) = SG.map fun l => D.str (tS l) := by
  have e : ∀ {a b : Str}, a = b → D.str a = D.str b := fun h => by rw [h]
  have h1 : ("e" : Str) = tS [101] := by decide +kernel
  have h2 : (" " : Str) = tS [32] := by decide +kernel
  have h3 : ("X" : Str) = tS [88] := by decide +kernel
  have h4 : ("1" : Str) = tS [49] := by decide +kernel
  have h5 : ("\n" : Str) = tS [10] := by decide +kernel
  have h6 : ("EE" : Str) = tS [69, 69] := by decide +kernel
  have h7 : ("w" : Str) = tS [119] := by decide +kernel
  have h8 : ("" : Str) = tS [] := by decide +kernel
  rw [h1, h2, h3, h4, h5, h6, h7, h8]
  rfl
theorem sg_ok : ∀ l ∈ SG, (∀ c ∈ l, c ∈ AL) ∧ l.length ≤ 2 := by decide
theorem changed_at {pd : Pl} {l : List HM.Sp} (hl : l.length ≤ 40) : ∃ (m : List Nat) (p' : Pl), m__law_changed_path [pd.d, .str (pS l)] = .ok (.str (tS m)) [p'.d] ∧ (∀ c ∈ m, c ∈ AL) ∧ m.length ≤ 100 := by
  obtain ⟨k, p1, e1, k0, k1⟩ := dr pd ((l.length : Int) + 1) (by omega) (by omega)
  obtain ⟨k, rfl⟩ : ∃ n : Nat, k = n := ⟨k.toNat, by omega⟩
  obtain ⟨v, p2, e2, v0, v1⟩ := dr p1 8
  obtain ⟨v, rfl⟩ : ∃ n : Nat, v = n := ⟨v.toNat, by omega⟩
  obtain ⟨s, hs⟩ : ∃ s, SG[v]? = some s := ⟨_, List.getElem?_eq_getElem (by show v < 8; omega)⟩
  obtain ⟨o1, o2⟩ := sg_ok s (List.mem_of_getElem? hs)
  have iy : ixD (.lst false [.str "e", .str " ", .str "X", .str "1", .str "\n", .str "EE", .str "w", .str ""]) (.int (v : Nat)) = .val (.str (tS s)) := by
    rw [sg_lit, ixD_lst, at_nat, List.getElem?_map, hs]
    rfl
  have ln := len_pS (l := l) (by omega)
  have s1 := sl_to (l := l) (k := k) (by omega)
  have s2 := sl_from (l := l) (k := k + 1) (by omega)
  have c : ((k + 1 : Nat) : Int) = (k : Int) + 1 := by omega
  rw [c] at s2
  have ad : ∀ a b : List Nat, a.length + b.length ≤ 1000 → addD (.str (tS a)) (.str (tS b)) = .val (.str (tS (a ++ b))) := fun a b h => by
    rw [addD_str, tS_len, tS_len, if_pos (by rw [sizeLine_eq]; omega), tS_app]
  have z1 : ((l.take k).map cd).length ≤ 40 := by rw [List.length_map, List.length_take]; omega
  have z2 : ((l.drop (k + 1)).map cd).length ≤ 40 := by rw [List.length_map, List.length_drop]; omega
  have a1 := ad ((l.take k).map cd) s (by omega)
  have a2 := ad ((l.take k).map cd ++ s) ((l.drop (k + 1)).map cd) (by rw [List.length_append]; omega)
  rw [pS_tS] at s1 s2
  rw [pS_tS] at ln
  rw [pS_tS] at s1 s2
  refine ⟨(l.take k).map cd ++ s ++ (l.drop (k + 1)).map cd, p2, ?_, fun c hc => ?_, by rw [List.length_append, List.length_append]; omega⟩
  · rw [pS_tS]
    generalize tS ((l.take k).map cd ++ s ++ (l.drop (k + 1)).map cd) = T4 at *
    generalize tS ((l.take k).map cd ++ s) = T3 at *
    generalize tS ((l.drop (k + 1)).map cd) = T2 at *
    generalize tS ((l.take k).map cd) = T1 at *
    generalize tS (l.map cd) = T0 at *
    generalize tS s = TS at *
    simp [-ixD_lst, -addD_str, m__law_changed_path, b__law_changed_path, ln, e1, e2, iy, s1, s2, a1, a2]
  · rcases List.mem_append.mp hc with hc | hc
    · rcases List.mem_append.mp hc with hc | hc
      · exact cd_al c hc
      · exact o1 c hc
    · exact cd_al c hc
/-! ### letters that are no steps -/
theorem one_ok {c : Nat} (h : c ∈ AL) : PyData.strOk ⟨#[c]⟩ = true := by
  refine al_cases (P := fun c => PyData.strOk (⟨#[c]⟩ : Str) = true) ?_ h
  decide +kernel
theorem bad_nil {l : List Nat} (h : ∀ c ∈ l, c ∈ AL) {o o' : Bool} : eqB (.lst o ((l.filter fun c => !isL c).map fun c => D.str ⟨#[c]⟩)) (.lst o' []) = some (l.all isL) := by
  have h1 := nb_lst (o := o) (nbs_map (k := 0) (fun c : Nat => D.str ⟨#[c]⟩) (fun c => PyData.str ⟨#[c]⟩) (l.filter fun c => !isL c) fun c hc => nb_str (one_ok (h c (List.mem_filter.mp hc).1)))
  have h2 := nb_lst (o := o') (nbs_nil (k := 0))
  have q := Nb.is h1 h2 (P := l.all isL = true) (by
    rw [List.all_eq_true]
    constructor
    · intro z c hc
      injection z with z
      rw [List.map_eq_nil_iff, List.filter_eq_nil_iff] at z
      have := z c hc
      simpa using this
    · intro z
      congr 1
      rw [List.map_eq_nil_iff, List.filter_eq_nil_iff]
      intro c hc
      rw [z c hc]
      decide)
  rw [q]
  congr 1
  cases l.all isL <;> simp
section
variable {ns : List Int} {a2 a3 a4 a5 a6 a7 a8 a9 : Option D}
/-- one text of known letters -/
theorem text_turn {l : List Nat} (h : ∀ c ∈ l, c ∈ AL) (hl : l.length ≤ 100) {a1 : Option D} : oneT (gN [] 1) l1_law (.str (tS l)) [some (.ro (ns.map D.int)), a1, a2, a3, a4, a5, a6, a7, a8, a9] = .nx [some (.ro (ns.map D.int)), some (.str (tS l)), a2, a3, a4, a5, a6, some (.bl (l.all isL)), a8, none] := by
  have lc : lcD [9] (gN [] 9) t1_law e1_law (sgnD (tS l)) [] [some (.ro (ns.map D.int)), some (.str (tS l)), a2, a3, a4, a5, a6, a7, a8, none] = .ok (.lst true ((l.filter fun c => !isL c).map fun c => D.str ⟨#[c]⟩)) [some (.ro (ns.map D.int)), some (.str (tS l)), a2, a3, a4, a5, a6, a7, a8, none] false := by
    have := lc_enc (γ := Unit) (vs := [9]) (g := gN [] 9) (T := t1_law) (Fe := e1_law) (ρ := [some (.ro (ns.map D.int)), some (.str (tS l)), a2, a3, a4, a5, a6, a7, a8, none]) (fun c : Nat => D.str ⟨#[c]⟩) (fun c => !isL c) (fun c : Nat => D.str ⟨#[c]⟩) l [] (by rw [sizeLine_eq]; simp; omega) fun c hc =>
      ⟨[some (.ro (ns.map D.int)), some (.str (tS l)), a2, a3, a4, a5, a6, a7, a8, some (.str ⟨#[c]⟩)], [some (.ro (ns.map D.int)), some (.str (tS l)), a2, a3, a4, a5, a6, a7, a8, some (.str ⟨#[c]⟩)], true, rfl, by
        have i := in_txt (h c hc)
        simp [t1_law, i], fun _ => ⟨[some (.ro (ns.map D.int)), some (.str (tS l)), a2, a3, a4, a5, a6, a7, a8, some (.str ⟨#[c]⟩)], true, by simp [e1_law], rfl⟩, fun _ => rfl⟩
    rw [List.nil_append] at this
    exact this
  have bn := fun o o' => bad_nil h (o := o) (o' := o')
  have c1 := @int_str (tS l)
  have c2 := @step_str (tS l)
  have c3 := path_str h (by omega)
  have c4 := checks_of (v := .str (tS l)) rfl c1 c2 c3
  have i4 := fun o => in_lst4 (x := tS l) (o := o)
  generalize ((("E" : Str) == tS l) || ((("W" : Str) == tS l) || ((("U" : Str) == tS l) || (("D" : Str) == tS l)))) = b4 at *
  generalize l.all isL = ba at *
  generalize (l.filter fun c => !isL c).map (fun c => D.str ⟨#[c]⟩) = FL at *
  generalize hT : sgnD (tS l) = SGN at *
  generalize tS l = T at *
  simp [l1_law, hT, lc, bn, c4, i4]
end
end Lw
set_option linter.all false
set_option maxRecDepth 100000
set_option maxHeartbeats 4000000
set_option exponentiation.threshold 5000
namespace Lw
open PySem PySem.Spec PyProof.Rows L2 DL
structure Bad3 (v : D) (b : Bool) : Prop where
  ow : owned v = false
  i : m_is_integer [v] = .ok (.bl b) []
  s : m_is_step [v] = .ok (.bl false) []
  p : m_is_path [v] = .ok (.bl false) []
  r : ∃ X : Str, reprE [v] = .val (.str X)
theorem tys : tyKnown "int" = true ∧ tyKnown "bool" = true ∧ tyKnown "str" = true := by decide
theorem bad_non : Bad3 .non false := by
  obtain ⟨k1, k2, k3⟩ := tys
  have t1 : isTy "NoneType" "int" = false := by decide
  have t2 : isTy "NoneType" "str" = false := by decide
  exact ⟨rfl, by simp [m_is_integer, b_is_integer, t1, k1], by simp [m_is_step, b_is_step, t2, k3], by simp [m_is_path, b_is_path, t2, k3], _, by rw [reprE_non, reprG_non]⟩
theorem bad_bl {b : Bool} : Bad3 (.bl b) false := by
  obtain ⟨k1, k2, k3⟩ := tys
  have t1 : isTy "bool" "int" = true := by decide
  have t2 : isTy "bool" "str" = false := by decide
  have t3 : isTy "bool" "bool" = true := by decide
  exact ⟨rfl, by simp [m_is_integer, b_is_integer, t1, t3, k1, k2], by simp [m_is_step, b_is_step, t2, k3], by simp [m_is_path, b_is_path, t2, k3], _, by rw [reprE_bl, reprG_bl]⟩
theorem bad_int {i : Int} (h : -(2 ^ 1900) < i ∧ i < 2 ^ 1900) : Bad3 (.int i) true := by
  obtain ⟨k1, k2, k3⟩ := tys
  have t2 : isTy "int" "str" = false := by decide
  have lg : i.natAbs.log2 < 1920 := by
    by_cases z : i = 0
    · subst z; decide
    · have : i.natAbs.log2 < 1900 := (Nat.log2_lt (by omega)).mpr (by
        have : (i.natAbs : Int) < 2 ^ 1900 := by omega
        have e : ((2 ^ 1900 : Nat) : Int) = 2 ^ 1900 := by rw [Int.natCast_pow]; rfl
        rw [← e] at this
        exact Int.ofNat_lt.mp this)
      omega
  exact ⟨rfl, is_int_at, by simp [m_is_step, b_is_step, t2, k3], by simp [m_is_path, b_is_path, t2, k3], _, by rw [reprE_int, reprG_int, if_pos lg]⟩
theorem bad_tup {ds : List D} {m : Nat} (h : Gds 0 m ds) (hm : m ≤ 10000) : Bad3 (.tup ds) false := by
  obtain ⟨k1, k2, k3⟩ := tys
  have t1 : isTy "tuple" "int" = false := by decide
  have t2 : isTy "tuple" "str" = false := by decide
  exact ⟨rfl, by simp [m_is_integer, b_is_integer, t1, k1], by simp [m_is_step, b_is_step, t2, k3], by simp [m_is_path, b_is_path, t2, k3], shownD (.tup ds), by rw [reprE_tup, reprG_tup]; exact (gd_tup h).repr (by decide) (by omega)⟩
theorem bad_lst {ds : List D} {m : Nat} (h : Gds 0 m ds) (hm : m ≤ 10000) : Bad3 (.lst false ds) false := by
  obtain ⟨k1, k2, k3⟩ := tys
  have t1 : isTy "list" "int" = false := by decide
  have t2 : isTy "list" "str" = false := by decide
  exact ⟨rfl, by simp [m_is_integer, b_is_integer, t1, k1], by simp [m_is_step, b_is_step, t2, k3], by simp [m_is_path, b_is_path, t2, k3], shownD (.lst false ds), by rw [reprE_lst, reprG_lst]; exact (gd_lst h).repr (by decide) (by omega)⟩
theorem bad_dct : Bad3 (.dct false false []) false := by
  obtain ⟨k1, k2, k3⟩ := tys
  have t1 : isTy "dict" "int" = false := by decide
  have t2 : isTy "dict" "str" = false := by decide
  have n : tyName (.dct false false []) = some "dict" := rfl
  exact ⟨rfl, by simp [m_is_integer, b_is_integer, t1, k1, n], by simp [m_is_step, b_is_step, t2, k3, n], by simp [m_is_path, b_is_path, t2, k3, n], _, reprE_dct⟩
theorem Bad3.rej {v : D} {b : Bool} (h : Bad3 v b) : m__law_is_rejected [v] = .ok (.bl true) [] := by
  obtain ⟨X, hX⟩ := h.r
  exact rejected h.ow h.s hX
theorem Bad3.chk {v : D} {b : Bool} (h : Bad3 v b) : m__law_checks_right [v, .lst false [.bl b, .bl false, .bl false]] = .ok (.bl true) [] := checks_of h.ow h.i h.s h.p
section
variable {ns : List Int} {a1 a2 a3 a4 a5 a6 a7 a8 a9 : Option D}
theorem turn8 {v : D} (h : Bad3 v false) : oneT (gN [] 1) l5_law v [some (.ro (ns.map D.int)), a1, a2, a3, a4, a5, a6, a7, a8, a9] = .nx [some (.ro (ns.map D.int)), some v, a2, a3, a4, a5, a6, a7, a8, a9] := by
  have h1 := h.rej
  have h2 := h.chk
  have h3 := h.ow
  simp [l5_law, h1, h2, h3]
theorem turn3 {v : D} (h : Bad3 v true) : oneT (gN [] 1) l4_law v [some (.ro (ns.map D.int)), a1, a2, a3, a4, a5, a6, a7, a8, a9] = .nx [some (.ro (ns.map D.int)), some v, a2, a3, a4, a5, a6, a7, a8, a9] := by
  have h1 := h.rej
  have h2 := h.chk
  have h3 := h.ow
  simp [l4_law, h1, h2, h3]
end
/-! ### texts that are no steps -/
def SL : List (List Nat) := [[], [69, 69], [101], [69, 87], [88], [32], [69, 32], [69, 87, 85, 68]]
theorem sl_lit : ([.str "", .str "EE", .str "e", .str "EW", .str "X", .str " ", .str "E ", .str "EWUD"] : List D) = SL.map fun l => D.str (tS l) := by
  have h1 : ("" : Str) = tS [] := by decide +kernel
  have h2 : ("EE" : Str) = tS [69, 69] := by decide +kernel
  have h3 : ("e" : Str) = tS [101] := by decide +kernel
  have h4 : ("EW" : Str) = tS [69, 87] := by decide +kernel
  have h5 : ("X" : Str) = tS [88] := by decide +kernel
  have h6 : (" " : Str) = tS [32] := by decide +kernel
  have h7 : ("E " : Str) = tS [69, 32] := by decide +kernel
  have h8 : ("EWUD" : Str) = tS [69, 87, 85, 68] := by decide +kernel
  rw [h1, h2, h3, h4, h5, h6, h7, h8]
  rfl
theorem sl_ok : ∀ l ∈ SL, (∀ c ∈ l, c ∈ AL) ∧ l.length ≤ 4 := by decide
theorem sl_no : ∀ l ∈ SL, ((("E" : Str) == tS l) || ((("W" : Str) == tS l) || ((("U" : Str) == tS l) || (("D" : Str) == tS l)))) = false := by decide +kernel
theorem sl_in {o : Bool} : ∀ l ∈ SL, inB (.str (tS l)) (.lst o [.str "", .str "EE", .str "EW", .str "EWUD"]) = some (l.all isL) := fun l hl => by
  rw [inB_flat rfl rfl]
  have e : (([.str "", .str "EE", .str "EW", .str "EWUD"] : List D).any fun y => eqF y (.str (tS l))) = ((("" : Str) == tS l) || ((("EE" : Str) == tS l) || ((("EW" : Str) == tS l) || ((("EWUD" : Str) == tS l) || false)))) := rfl
  rw [e]
  congr 1
  revert l
  decide +kernel
theorem sl_rep : ∀ l ∈ SL, PyData.strOk (tS l) = true := by decide +kernel
section
variable {ns : List Int} {a1 a2 a3 a4 a5 a6 a7 a8 a9 : Option D}
theorem turn_s {l : List Nat} (hl : l ∈ SL) : oneT (gN [] 1) l3_law (.str (tS l)) [some (.ro (ns.map D.int)), a1, a2, a3, a4, a5, a6, a7, a8, a9] = .nx [some (.ro (ns.map D.int)), some (.str (tS l)), some (.bl (l.all isL)), a3, a4, a5, a6, a7, a8, a9] := by
  obtain ⟨o1, o2⟩ := sl_ok l hl
  have c1 := @int_str (tS l)
  have c2 := @step_str (tS l)
  rw [sl_no l hl] at c2
  have c3 := path_str o1 (by omega)
  have c4 := checks_of (v := .str (tS l)) rfl c1 c2 c3
  have i4 := fun o => sl_in (o := o) l hl
  have rp : ∃ X : Str, reprE [.str (tS l)] = .val (.str X) := by
    have z := nm_len_ok (sl_rep l hl) (by rw [tS_len]; omega)
    exact ⟨reprText (tS l), by rw [reprE_str]; exact if_pos (by rw [sizeLine_eq]; omega)⟩
  obtain ⟨X, hX⟩ := rp
  have rj := rejected (v := .str (tS l)) rfl c2 hX
  generalize l.all isL = ba at *
  generalize tS l = T at *
  simp [l3_law, c4, i4, rj]
end
section
variable {ns : List Int} {a2 a3 a4 a5 a6 a7 a8 a9 : Option D}
/-- the literal loops -/
theorem loop8 {a1 : Option D} : ∃ b1, forD (gN [] 1) l5_law [.non, .bl true, .bl false, .tup [], .lst false [], .dct false false [], .tup [.str "E"], .lst false [.str "E"]] [some (.ro (ns.map D.int)), a1, a2, a3, a4, a5, a6, a7, a8, a9] = .nx [some (.ro (ns.map D.int)), b1, a2, a3, a4, a5, a6, a7, a8, a9] := by
  have ge : Gd 0 20 (.str "E") := gd_str (by decide +kernel) (by decide +kernel)
  exact ⟨_, forD_nx (turn8 bad_non) (forD_nx (turn8 bad_bl) (forD_nx (turn8 bad_bl) (forD_nx (turn8 (bad_tup gds_nil (by decide))) (forD_nx (turn8 (bad_lst gds_nil (by decide))) (forD_nx (turn8 bad_dct) (forD_nx (turn8 (bad_tup (gds_cons ge gds_nil) (by decide))) (forD_nx (turn8 (bad_lst (gds_cons ge gds_nil) (by decide))) forD_end)))))))⟩
theorem loop3 {a1 : Option D} : ∃ b1, forD (gN [] 1) l4_law [.int 0, .int (-7), .int 10000000000000000000000000000000000000000] [some (.ro (ns.map D.int)), a1, a2, a3, a4, a5, a6, a7, a8, a9] = .nx [some (.ro (ns.map D.int)), b1, a2, a3, a4, a5, a6, a7, a8, a9] :=
  ⟨_, forD_nx (turn3 (bad_int (by omega))) (forD_nx (turn3 (bad_int (by omega))) (forD_nx (turn3 (bad_int (by omega))) forD_end))⟩
theorem loopS {a1 : Option D} : ∃ b1 b2, forD (gN [] 1) l3_law [.str "", .str "EE", .str "e", .str "EW", .str "X", .str " ", .str "E ", .str "EWUD"] [some (.ro (ns.map D.int)), a1, a2, a3, a4, a5, a6, a7, a8, a9] = .nx [some (.ro (ns.map D.int)), b1, b2, a3, a4, a5, a6, a7, a8, a9] := by
  rw [sl_lit]
  obtain ⟨ρ', f, b1, b2, rfl⟩ := for_inv (g := gN [] 1) (body := l3_law) (fun _ ρ => ∃ b1 b2, ρ = [some (.ro (ns.map D.int)), b1, b2, a3, a4, a5, a6, a7, a8, a9]) (SL.map fun l => D.str (tS l)) [some (.ro (ns.map D.int)), a1, a2, a3, a4, a5, a6, a7, a8, a9] ⟨a1, a2, rfl⟩ fun i d ρ hi ⟨b1, b2, er⟩ => by
    subst er
    rw [List.getElem?_map] at hi
    obtain ⟨l, hl, rfl⟩ := Option.map_eq_some_iff.mp hi
    rw [turn_s (List.mem_of_getElem? hl)]
    exact ⟨_, _, rfl⟩
  exact ⟨b1, b2, f⟩
end
def St0 (ns : List Int) (ρ : DL.Env) : Prop := ∃ a1 a2 a3 a4 a5 a6 a7 a8 a9, ρ = [some (.ro (ns.map D.int)), a1, a2, a3, a4, a5, a6, a7, a8, a9]
theorem turn (ns : List Int) (k : Nat) (hk : k < 63) (ρ : DL.Env) (hp : St0 ns ρ) : NX (St0 ns) (oneT (gN [] 3) l2_law (.int (k : Int)) ρ) := by
  obtain ⟨a1, a2, a3, a4, a5, a6, a7, a8, a9, rfl⟩ := hp
  obtain ⟨p, e0⟩ := draws_at ns k (by omega)
  obtain ⟨l, p1, e1, l40⟩ := law_path_at p (m := 40) (by decide) (by decide)
  obtain ⟨m, p2, e2, m1, m2⟩ := changed_at (pd := p1) (l := l) (by omega)
  have t1 := text_turn (ns := ns) (a2 := a2) (a3 := some (.int (k : Int))) (a4 := some p2.d) (a5 := some (.str (pS l))) (a6 := some (.str (tS m))) (a7 := a7) (a8 := a8) (a9 := a9) (l := l.map cd) cd_al (by rw [List.length_map]; omega) (a1 := a1)
  have t2 := text_turn (ns := ns) (a2 := a2) (a3 := some (.int (k : Int))) (a4 := some p2.d) (a5 := some (.str (pS l))) (a6 := some (.str (tS m))) (a7 := some (.bl ((l.map cd).all isL))) (a8 := a8) (a9 := none) m1 m2 (a1 := some (.str (tS (l.map cd))))
  rw [← pS_tS] at t1 t2
  have f := forD_nx (ds := [.str (tS m)]) t1 (forD_nx (ds := []) t2 (forD_end (g := gN [] 1) (body := l1_law)))
  clear t1 t2
  generalize tS m = M at *
  generalize pS l = P at *
  generalize (l.map cd).all isL = b1 at *
  generalize m.all isL = b2 at *
  simp [l2_law, r3_law, r2_law, r1_law, e0, e1, e2, f, sizeLine_eq, St0]
theorem opp : m_opposite [.str "E"] = .ok (.str "W") [] ∧ m_opposite [.str "W"] = .ok (.str "E") [] ∧ m_opposite [.str "U"] = .ok (.str "D") [] ∧ m_opposite [.str "D"] = .ok (.str "U") [] := by
  have h : ∀ x : Str, x ∈ stps → m_is_step [.str x] = .ok (.bl true) [] := fun x hx => is_step_at hx
  have h1 := h "E" (by decide)
  have h2 := h "W" (by decide)
  have h3 := h "U" (by decide)
  have h4 := h "D" (by decide)
  have k1 : kdD [("E", "W"), ("W", "E"), ("U", "D"), ("D", "U")] (.str "E") = .val (.str "W") := by rfl
  have k2 : kdD [("E", "W"), ("W", "E"), ("U", "D"), ("D", "U")] (.str "W") = .val (.str "E") := by rfl
  have k3 : kdD [("E", "W"), ("W", "E"), ("U", "D"), ("D", "U")] (.str "U") = .val (.str "D") := by rfl
  have k4 : kdD [("E", "W"), ("W", "E"), ("U", "D"), ("D", "U")] (.str "D") = .val (.str "U") := by rfl
  refine ⟨?_, ?_, ?_, ?_⟩ <;> simp [-kdD_str, m_opposite, b_opposite, h1, h2, h3, h4, k1, k2, k3, k4]
theorem wins : Wins m_law := by
  intro ns hl hb
  obtain ⟨o1, o2, o3, o4⟩ := opp
  obtain ⟨b1, f1⟩ := loop8 (ns := ns) (a1 := none) (a2 := none) (a3 := none) (a4 := none) (a5 := none) (a6 := none) (a7 := none) (a8 := none) (a9 := none)
  obtain ⟨c1, f2⟩ := loop3 (ns := ns) (a1 := b1) (a2 := none) (a3 := none) (a4 := none) (a5 := none) (a6 := none) (a7 := none) (a8 := none) (a9 := none)
  obtain ⟨d1, d2, f3⟩ := loopS (ns := ns) (a1 := c1) (a2 := none) (a3 := none) (a4 := none) (a5 := none) (a6 := none) (a7 := none) (a8 := none) (a9 := none)
  obtain ⟨m, m1, c⟩ := max_len (ds := ns.map D.int) (r := [d1, d2, none, none, none, none, none, none, none]) (by simpa using hl)
  obtain ⟨ρ', e, q⟩ := cells (g := gN [] 3) (body := l2_law) (St0 ns) m m1 c ⟨_, _, _, _, _, _, _, _, _, rfl⟩ fun k hk ρ hp => turn ns k hk ρ hp
  obtain ⟨a1, a2, a3, a4, a5, a6, a7, a8, a9, rfl⟩ := q
  have g1 : Gd 0 20 (.str "E") := gd_str (by decide +kernel) (by decide +kernel)
  have g2 : Gd 0 20 (.str "W") := gd_str (by decide +kernel) (by decide +kernel)
  have g3 : Gd 0 20 (.str "U") := gd_str (by decide +kernel) (by decide +kernel)
  have g4 : Gd 0 20 (.str "D") := gd_str (by decide +kernel) (by decide +kernel)
  have q1 : eqB (.tup [.str "E", .str "W", .str "U", .str "D"]) (.tup [.str "E", .str "W", .str "U", .str "D"]) = some true := (gd_tup (gds_cons g1 (gds_cons g2 (gds_cons g3 (gds_cons g4 gds_nil))))).eq (by decide)
  have q2 : ∀ o o' : Bool, eqB (.lst o [.str "W", .str "E", .str "D", .str "U"]) (.lst o' [.str "W", .str "E", .str "D", .str "U"]) = some true := fun o o' => show eqB (.lst o [.str "W", .str "E", .str "D", .str "U"]) (.lst o [.str "W", .str "E", .str "D", .str "U"]) = some true from (gd_lst (gds_cons g2 (gds_cons g1 (gds_cons g4 (gds_cons g3 gds_nil))))).eq (by decide)
  rw [sFor_ap] at e
  simp [-fRng1_ap, m_law, b_law, r8_law, r7_law, r6_law, r5_law, r4_law, lcD, e2_law, o1, o2, o3, o4, q1, q2, sizeLine_eq, f1, f2, f3, e]
end Lw
set_option Elab.async false
set_option linter.all false
set_option maxRecDepth 100000
set_option maxHeartbeats 4000000
namespace Lw
open PySem PySem.Spec PyProof.Rows L2 DL
/-! ### the walk -/
structure Txt (K : PySem.W.Frag) (w : World) (mg : Str → Option Value) (a : Nat → Addr) (fd : Nat → FuncData) (c : Nat → Addr) (x : Nat → Addr) (y : Nat → Addr) (bm : Nat → List Value) : Prop where
  f0 : FunD K "law" "law" (defArgs s_law) (defBody s_law) (defScope s_law) [] [] (a 0) (fd 0)
  g0 : mg "law" = some (.ref (a 0))
  f1 : FunD K "_law_checks_right" "_law_checks_right" (defArgs s__law_checks_right) (defBody s__law_checks_right) (defScope s__law_checks_right) [] [] (a 1) (fd 1)
  g1 : mg "_law_checks_right" = some (.ref (a 1))
  f2 : FunD K "is_path" "is_path" (defArgs s_is_path) (defBody s_is_path) (defScope s_is_path) [] [] (a 2) (fd 2)
  g2 : mg "is_path" = some (.ref (a 2))
  f3 : FunD K "is_step" "is_step" (defArgs s_is_step) (defBody s_is_step) (defScope s_is_step) [] [] (a 3) (fd 3)
  g3 : mg "is_step" = some (.ref (a 3))
  f4 : FunD K "is_integer" "is_integer" (defArgs s_is_integer) (defBody s_is_integer) (defScope s_is_integer) [] [] (a 4) (fd 4)
  g4 : mg "is_integer" = some (.ref (a 4))
  f5 : FunD K "_law_changed_path" "_law_changed_path" (defArgs s__law_changed_path) (defBody s__law_changed_path) (defScope s__law_changed_path) [] [] (a 5) (fd 5)
  g5 : mg "_law_changed_path" = some (.ref (a 5))
  f6 : FunD K "_law_draw" "_law_draw" (defArgs s__law_draw) (defBody s__law_draw) (defScope s__law_draw) [] [] (a 6) (fd 6)
  g6 : mg "_law_draw" = some (.ref (a 6))
  f7 : FunD K "_law_path" "_law_path" (defArgs s__law_path) (defBody s__law_path) (defScope s__law_path) [] [] (a 7) (fd 7)
  g7 : mg "_law_path" = some (.ref (a 7))
  f8 : FunD K "_law_draws" "_law_draws" (defArgs s__law_draws) (defBody s__law_draws) (defScope s__law_draws) [] [] (a 8) (fd 8)
  g8 : mg "_law_draws" = some (.ref (a 8))
  f9 : FunD K "_law_is_rejected" "_law_is_rejected" (defArgs s__law_is_rejected) (defBody s__law_is_rejected) (defScope s__law_is_rejected) [] [] (a 9) (fd 9)
  g9 : mg "_law_is_rejected" = some (.ref (a 9))
  f10 : FunD K "opposite" "opposite" (defArgs s_opposite) (defBody s_opposite) (defScope s_opposite) [] [] (a 10) (fd 10)
  g10 : mg "opposite" = some (.ref (a 10))
  b0 : BP K (fd 2) ["value"] 0 1 [] (fun as _ => as)
  b1 : BP K (fd 3) ["value"] 0 1 [] (fun as _ => as)
  b2 : BP K (fd 4) ["value"] 0 1 [] (fun as _ => as)
  b3 : BP K (fd 1) ["_law_value", "_law_expected"] 0 2 [] (fun as _ => as)
  b4 : BP K (fd 6) ["_law_draws_here", "_law_upto"] 1 1 [] (fun as _ => as)
  b5 : BP K (fd 5) ["_law_draws_here", "_law_path_here"] 1 1 [] (fun as _ => as)
  b6 : BP K (fd 7) ["_law_draws_here", "_law_most"] 1 1 [] (fun as _ => as)
  b7 : BP K (fd 8) ["_law_script", "_law_k"] 0 2 [] (fun as _ => as)
  b8 : BP K (fd 10) ["step"] 0 1 [] (fun as _ => as)
  b9 : BP K (fd 9) ["_law_value"] 0 1 [] (fun as _ => as)
  xf0 : XFl K "step" ["InvalidStep"]
  ix0 : XIs K ["InvalidStep"] (.ref (x 1)) false
  ix1 : XIs K ["InvalidStep"] (.type "KeyError") true
  g_STEPS : GC K mg "STEPS" (.tup [.str "E", .str "W", .str "U", .str "D"])
  d_OPPOSITES : KD K w mg "OPPOSITES" [("E", "W"), ("W", "E"), ("U", "D"), ("D", "U")]
  n_len : mg "len" = none
  n_max : mg "max" = none
  n_range : mg "range" = none
  n_all : mg "all" = none
  n_str : mg "str" = none
  n_isinstance : mg "isinstance" = none
  n_bool : mg "bool" = none
  n_int : mg "int" = none
  n_repr : mg "repr" = none
  n_KeyError : mg "KeyError" = none
  c_InvalidStep : Cls K mg "InvalidStep" (x 0)
  lo_InvalidStep : LowTxt K mg "InvalidStep" "step" "InvalidStep.__init__" sx_InvalidStep (x 0) (y 0) "LookupError" "LookupError.__new__" "LookupError.__init__" tlL
  c_WalkError : Cls K mg "WalkError" (x 1)
  s_InvalidStep_InvalidStep : PySem.W.subIn K (.ref (x 0)) (.ref (x 0)) = some true
section
variable {P : Program} {w : World} {K : PySem.W.Frag} {mg : Str → Option Value} {base : Heap} {a : Nat → Addr} {fd : Nat → FuncData} {c x y : Nat → Addr} {bm : Nat → List Value}
theorem ok_is_path (T : Txt K w mg a fd c x y bm) : FnG P w K mg base 1 (a 2) (fd 2) ["value"] (spOf K 0 1 m_is_path) := by
  have nd := (sc_is_path).nd
  refine fnD (nb := 0) ["value", "letter"] ["value"] b_is_path T.f2 sc_is_path rfl rfl rfl (by decide) fun cdv A outer s H E hr => ?_
  have hu := hr.units
  have hu5 := hu65 hr
  exact ⟨_, dss_one (ds_ret ((d_and (d_cb cr_isiA isi_v (by rfl) T.n_isinstance bt_isinstance (da_cons (dv 0) (da_cons (d_type (by rfl) T.n_str bt_str) (da_nil)))) (d_one (d_cb (cr_all rfl) all_v (by rfl) T.n_all bt_all (da_cons (DO.z (o_lcx (gName 1) rfl nd (di_any (dv 0)) (own := [("letter", 1)]) (blkOk_by (by rfl)) (fun _ _ _ _ _ => dk_name (dg_name (i := 1) nd (by rfl)) (by decide)) (fun _ _ _ _ _ => ⟨_, dts_nil⟩) (fun _ _ _ _ _ => ⟨_, d_cmp (op_inA hu5) in_v (dv 1) (d_gc T.g_STEPS (by rfl))⟩))) (da_nil))))).o))⟩
theorem ok_is_step (T : Txt K w mg a fd c x y bm) : FnG P w K mg base 1 (a 3) (fd 3) ["value"] (spOf K 0 1 m_is_step) := by
  have nd := (sc_is_step).nd
  refine fnD (nb := 0) ["value"] ["value"] b_is_step T.f3 sc_is_step rfl rfl rfl (by decide) fun cdv A outer s H E hr => ?_
  have hu := hr.units
  have hu5 := hu65 hr
  exact ⟨_, dss_one (ds_ret ((d_and (d_cb cr_isiA isi_v (by rfl) T.n_isinstance bt_isinstance (da_cons (dv 0) (da_cons (d_type (by rfl) T.n_str bt_str) (da_nil)))) (d_one (d_cmp (op_inA hu5) in_v (dv 0) (d_gc T.g_STEPS (by rfl))))).o))⟩
theorem ok_is_integer (T : Txt K w mg a fd c x y bm) : FnG P w K mg base 1 (a 4) (fd 4) ["value"] (spOf K 0 1 m_is_integer) := by
  have nd := (sc_is_integer).nd
  refine fnD (nb := 0) ["value"] ["value"] b_is_integer T.f4 sc_is_integer rfl rfl rfl (by decide) fun cdv A outer s H E hr => ?_
  have hu := hr.units
  have hu5 := hu65 hr
  exact ⟨_, dss_one (ds_ret ((d_and (d_cb cr_isiA isi_v (by rfl) T.n_isinstance bt_isinstance (da_cons (dv 0) (da_cons (d_type (by rfl) T.n_int bt_int) (da_nil)))) (d_one (d_not (d_cb cr_isiA isi_v (by rfl) T.n_isinstance bt_isinstance (da_cons (dv 0) (da_cons (d_type (by rfl) T.n_bool bt_bool) (da_nil))))))).o))⟩
theorem ok__law_checks_right (T : Txt K w mg a fd c x y bm) : FnG P w K mg base 2 (a 1) (fd 1) ["_law_value", "_law_expected"] (spOf K 0 2 m__law_checks_right) := by
  have nd := (sc__law_checks_right).nd
  refine fnD (nb := 0) ["_law_value", "_law_expected"] ["_law_value", "_law_expected"] b__law_checks_right T.f1 sc__law_checks_right rfl rfl rfl (by decide) fun cdv A outer s H E hr => ?_
  have hu := hr.units
  have hu5 := hu65 hr
  exact ⟨_, dss_one (ds_ret ((d_cmp (op_eqA hu) eq_v (d_cb (call_reprE hu hr.gd) reprE_v (by rfl) T.n_repr bt_repr (da_cons (d_lst (da_cons (DO.z (o_callG (js := []) (ks := []) (ok_is_integer T) (hr.mono (by decide)) (takes_of rfl rfl rfl rfl) T.g4 T.f4.kp T.b2 (db_of (da_cons (dv 0) (da_nil))) (dk_nil))) (da_cons (DO.z (o_callG (js := []) (ks := []) (ok_is_step T) (hr.mono (by decide)) (takes_of rfl rfl rfl rfl) T.g3 T.f3.kp T.b1 (db_of (da_cons (dv 0) (da_nil))) (dk_nil))) (da_cons (DO.z (o_callG (js := []) (ks := []) (ok_is_path T) (hr.mono (by decide)) (takes_of rfl rfl rfl rfl) T.g2 T.f2.kp T.b0 (db_of (da_cons (dv 0) (da_nil))) (dk_nil))) (da_nil))))) (da_nil))) (d_cb (call_reprE hu hr.gd) reprE_v (by rfl) T.n_repr bt_repr (da_cons (dv 1) (da_nil)))).o))⟩
theorem ok__law_draw (T : Txt K w mg a fd c x y bm) : FnG P w K mg base 1 (a 6) (fd 6) ["_law_draws_here", "_law_upto"] (spOf K 1 2 m__law_draw) := by
  have nd := (sc__law_draw).nd
  refine fnD (nb := 1) ["_law_draws_here", "_law_upto", "_law_digit"] ["_law_draws_here", "_law_upto"] b__law_draw T.f6 sc__law_draw rfl rfl rfl (by decide) fun cdv A outer s H E hr => ?_
  have hu := hr.units
  have hu5 := hu65 hr
  exact ⟨_, dss_cons (ds_if (t_cmp op_gt gt_v (d_ixL 0 (d_int)) (d_int)) (dss_cons (ds_set 2 nd ((d_op op_mod mod_v (d_ixL 0 (d_int)) (dv 1)).o))
 (dss_cons (ds_setix 0 (d_op op_fdivW fdiv_v (d_ixL 0 (d_int)) (dv 1)) (d_int))
 (dss_one (ds_ret (dm 2))))) (dss_nil))
 (dss_cons (ds_setix 0 (d_op op_mod mod_v (d_op op_addA add_v (d_op op_mulA mul_v (d_ixL 0 (d_int)) (d_int)) (d_int)) (d_int)) (d_int))
 (dss_one (ds_ret ((d_op op_mod mod_v (d_op op_fdivW fdiv_v (d_op op_mod mod_v (d_op op_mulA mul_v (d_ixL 0 (d_int)) (d_ixL 0 (d_int))) (d_int)) (d_int)) (dv 1)).o))))⟩
theorem ok__law_changed_path (T : Txt K w mg a fd c x y bm) : FnG P w K mg base 2 (a 5) (fd 5) ["_law_draws_here", "_law_path_here"] (spOf K 1 2 m__law_changed_path) := by
  have nd := (sc__law_changed_path).nd
  refine fnD (nb := 1) ["_law_draws_here", "_law_path_here", "_law_at", "_law_sign"] ["_law_draws_here", "_law_path_here"] b__law_changed_path T.f5 sc__law_changed_path rfl rfl rfl (by decide) fun cdv A outer s H E hr => ?_
  have hu := hr.units
  have hu5 := hu65 hr
  exact ⟨_, dss_cons (ds_set 2 nd (o_callG (js := [0]) (ks := []) (ok__law_draw T) (hr.mono (by decide)) (takes_of rfl rfl rfl rfl) T.g6 T.f6.kp T.b4 (db_cons 0 (db_of (da_cons (d_op op_addA add_v (d_cb call_len len_v (by rfl) T.n_len bt_len (da_cons (dv 1) (da_nil))) (d_int)) (da_nil)))) (dk_nil)))
 (dss_cons (ds_set 3 nd ((d_ix ix_seq ix_v (d_lst (da_cons (d_str) (da_cons (d_str) (da_cons (d_str) (da_cons (d_str) (da_cons (d_str) (da_cons (d_str) (da_cons (d_str) (da_cons (d_str) (da_nil)))))))))) (DO.z (o_callG (js := [0]) (ks := []) (ok__law_draw T) (hr.mono (by decide)) (takes_of rfl rfl rfl rfl) T.g6 T.f6.kp T.b4 (db_cons 0 (db_of (da_cons (d_int) (da_nil)))) (dk_nil)))).o))
 (dss_one (ds_ret (o_op op_addA add_v (d_op op_addA add_v (d_sl (dv 1) (dp_none) (dp_some (dv 2))) (dv 3)) (d_sl (dv 1) (dp_some (d_op op_addA add_v (dv 2) (d_int))) (dp_none))))))⟩
theorem ok__law_path (T : Txt K w mg a fd c x y bm) : FnG P w K mg base 2 (a 7) (fd 7) ["_law_draws_here", "_law_most"] (spOf K 1 2 m__law_path) := by
  have nd := (sc__law_path).nd
  refine fnD (nb := 1) ["_law_draws_here", "_law_most", "_law_turn"] ["_law_draws_here", "_law_most"] b__law_path T.f7 sc__law_path rfl rfl rfl (by decide) fun cdv A outer s H E hr => ?_
  have hu := hr.units
  have hu5 := hu65 hr
  exact ⟨_, dss_one (ds_ret ((d_join (d_str) (DO.z (o_lcx (gName 2) rfl nd (di_rng1 (by rfl) T.n_range (da_cons (DO.z (o_callG (js := [0]) (ks := []) (ok__law_draw T) (hr.mono (by decide)) (takes_of rfl rfl rfl rfl) T.g6 T.f6.kp T.b4 (db_cons 0 (db_of (da_cons (d_op op_addA add_v (dv 1) (d_int)) (da_nil)))) (dk_nil))) (da_nil))) (own := [("_law_turn", 2)]) (blkOk_by (by rfl)) (fun _ _ _ _ _ => dk_name (dg_name (i := 2) nd (by rfl)) (by decide)) (fun _ _ _ _ _ => ⟨_, dts_nil⟩) (fun _ _ _ _ _ => ⟨_, d_ix ix_seq ix_v (d_str) (DO.z (o_callG (js := [0]) (ks := []) (ok__law_draw T) (hr.mono (by decide)) takes_none5 T.g6 T.f6.kp T.b4 (db_cons 0 (db_of (da_cons (d_int) (da_nil)))) (dk_nil)))⟩)))).o))⟩
theorem ok__law_draws (T : Txt K w mg a fd c x y bm) : FnG P w K mg base 1 (a 8) (fd 8) ["_law_script", "_law_k"] (spOf K 0 2 m__law_draws) := by
  have nd := (sc__law_draws).nd
  refine fnD (nb := 0) ["_law_script", "_law_k", "_law_cell", "_law_seed"] ["_law_script", "_law_k"] b__law_draws T.f8 sc__law_draws rfl rfl rfl (by decide) fun cdv A outer s H E hr => ?_
  have hu := hr.units
  have hu5 := hu65 hr
  exact ⟨_, dss_cons (ds_set 2 nd ((d_int).o))
 (dss_cons (ds_if (t_cmp (op_neA hu) ne_v (dv 0) (d_lst (da_nil))) (dss_one (ds_set 2 nd ((d_ix ix_seq ix_v (dv 0) (d_op op_mod mod_v (dv 1) (d_cb call_len len_v (by rfl) T.n_len bt_len (da_cons (dv 0) (da_nil))))).o))) (dss_nil))
 (dss_cons (ds_if (t_cmp op_ge ge_v (dv 1) (d_cb call_len len_v (by rfl) T.n_len bt_len (da_cons (dv 0) (da_nil)))) (dss_one (ds_set 2 nd ((d_op op_mod mod_v (dv 2) (d_int)).o))) (dss_nil))
 (dss_cons (ds_set 3 nd ((d_op op_mod mod_v (d_op op_mulA mul_v (d_op op_addA add_v (d_op op_addA add_v (d_op op_mod mod_v (dv 2) (d_int)) (d_op op_mulA mul_v (d_int) (dv 1))) (d_int)) (d_int)) (d_int)).o))
 (dss_one (ds_ret (o_lst (da_cons (d_op op_mulA mul_v (dv 2) (d_ct call_int1 int_v (by rfl) T.n_int bt_int (da_cons (d_cmp op_ge ge_v (dv 2) (d_op op_pow pow_v (d_int) (d_int))) (da_nil)))) (da_cons (dv 3) (da_nil)))))))))⟩
theorem ok_opposite (T : Txt K w mg a fd c x y bm) : FnG P w K mg base 2 (a 10) (fd 10) ["step"] (spOf K 0 1 m_opposite) := by
  have nd := (sc_opposite).nd
  refine fnD (nb := 0) ["step"] ["step"] b_opposite T.f10 sc_opposite rfl rfl rfl (by decide) fun cdv A outer s H E hr => ?_
  have hu := hr.units
  have hu5 := hu65 hr
  exact ⟨_, dss_cons (ds_if (t_not (t_tru (DO.z (o_callG (js := []) (ks := []) (ok_is_step T) (hr.mono (by decide)) (takes_of rfl rfl rfl rfl) T.g3 T.f3.kp T.b1 (db_of (da_cons (dv 0) (da_nil))) (dk_nil))))) (dss_one (ds_raise1 rfl (takes_of rfl rfl rfl rfl) low_InvalidStep T.lo_InvalidStep hr (dv 0))) (dss_nil))
 (dss_one (ds_ret ((d_kd T.d_OPPOSITES (dv 0)).o)))⟩
theorem ok__law_is_rejected (T : Txt K w mg a fd c x y bm) : FnG P w K mg base 3 (a 9) (fd 9) ["_law_value"] (spOf K 0 1 m__law_is_rejected) := by
  have nd := (sc__law_is_rejected).nd
  refine fnD (nb := 0) ["_law_value", "e"] ["_law_value"] b__law_is_rejected T.f9 sc__law_is_rejected rfl rfl rfl (by decide) fun cdv A outer s H E hr => ?_
  have hu := hr.units
  have hu5 := hu65 hr
  exact ⟨_, dss_cons (ds_try rfl rfl rfl (takes_of rfl rfl rfl rfl) (fun _ _ _ tk po => ⟨_, dss_one (ds_expr (o_callG (js := []) (ks := []) (ok_opposite T) (hr.mono (by decide)) tk T.g10 T.f10.kp T.b8 (db_of (da_cons (dv 0) (da_nil))) (dk_nil)))⟩) (DHs.cons ⟨by rfl, by decide, .inl T.c_InvalidStep.at'⟩ ⟨nd, by rfl, by rfl⟩ (exm_cons (T.c_InvalidStep.exm T.c_InvalidStep T.s_InvalidStep_InvalidStep) (exm_nil)) (exm_nil) (fun _ z => by cases z; decide) (fun a oe cls dd pn c fs hz hf hm hc => ⟨_, dss_one (ds_ret ((d_and (d_isX T.ix1 rel_ty ((d_type (X := Cx.suite _ _ _) (B := ⟨[], []⟩) (W := W0) (by rfl) T.n_KeyError (by decide +kernel)).pe) T.n_isinstance hz hf hm hc) (d_and (d_not (d_isX T.ix0 rel_ref ((pe_glob (by rfl) T.c_WalkError.at' rfl)) T.n_isinstance hz hf hm hc)) (d_one (d_cmp (op_eqA hu) eq_v (d_cb (call_reprE hu hr.gd) reprE_v (by rfl) T.n_repr bt_repr (da_cons (d_xf T.xf0 hz hf hm hc) (da_nil))) (d_cb (call_reprE hu hr.gd) reprE_v (by rfl) T.n_repr bt_repr (da_cons (dv 0) (da_nil))))))).o))⟩) (DHs.nil)))
 (dss_one (ds_ret ((d_bl).o)))⟩
theorem ok_law (T : Txt K w mg a fd c x y bm) : FnG P w K mg base 4 (a 0) (fd 0) ["_law_script"] (spOf K 0 1 m_law) := by
  have nd := (sc_law).nd
  refine fnD (nb := 0) ["_law_script", "_law_value", "_law_valid", "_law_k", "_law_draws_here", "_law_path_here", "_law_changed", "_law_good", "_law_step", "_law_sign"] ["_law_script"] b_law T.f0 sc_law rfl rfl rfl (by decide) fun cdv A outer s H E hr => ?_
  have hu := hr.units
  have hu5 := hu65 hr
  exact ⟨_, dss_cons (ds_if (t_w (w_or (t_cmp (op_neA hu) ne_v (d_gc T.g_STEPS (by rfl)) (d_tup (da_cons (d_str) (da_cons (d_str) (da_cons (d_str) (da_cons (d_str) (da_nil))))))) (w_or1 (t_cmp (op_neA hu) ne_v (DO.z (o_lcx (gName 8) rfl nd (di_any (d_gc T.g_STEPS (by rfl))) (own := [("_law_step", 8)]) (blkOk_by (by rfl)) (fun _ _ _ _ _ => dk_name (dg_name (i := 8) nd (by rfl)) (by decide)) (fun _ _ _ _ _ => ⟨_, dts_nil⟩) (fun _ _ _ _ _ => ⟨_, DO.z (o_callG (js := []) (ks := []) (ok_opposite T) (hr.mono (by decide)) takes_none5 T.g10 T.f10.kp T.b8 (db_of (da_cons (dv 8) (da_nil))) (dk_nil))⟩))) (d_lst (da_cons (d_str) (da_cons (d_str) (da_cons (d_str) (da_cons (d_str) (da_nil)))))))))) (dss_one (ds_ret ((d_bl).o))) (dss_nil))
 (dss_cons (ds_for (passes_of rfl) rfl (di_any (d_lst (da_cons (d_non) (da_cons (d_bl) (da_cons (d_bl) (da_cons (d_tup (da_nil)) (da_cons (d_lst (da_nil)) (da_cons (d_dicK) (da_cons (d_tup (da_cons (d_str) (da_nil))) (da_cons (d_lst (da_cons (d_str) (da_nil))) (da_nil))))))))))) (dg_name (i := 1) nd (by rfl)) (dss_one (ds_if (t_w (w_or (t_not (t_tru (DO.z (o_callG (js := []) (ks := []) (ok__law_is_rejected T) (hr.mono (by decide)) (takes_of rfl rfl rfl rfl) T.g9 T.f9.kp T.b9 (db_of (da_cons (dv 1) (da_nil))) (dk_nil))))) (w_or1 (t_not (t_tru (DO.z (o_callG (js := []) (ks := []) (ok__law_checks_right T) (hr.mono (by decide)) (takes_of rfl rfl rfl rfl) T.g1 T.f1.kp T.b3 (db_of (da_cons (dv 1) (da_cons (d_lst (da_cons (d_bl) (da_cons (d_bl) (da_cons (d_bl) (da_nil))))) (da_nil)))) (dk_nil)))))))) (dss_one (ds_ret ((d_bl).o))) (dss_nil))))
 (dss_cons (ds_for (passes_of rfl) rfl (di_any (d_lst (da_cons (d_int) (da_cons (d_un un_neg neg_v (d_int)) (da_cons (d_op op_pow pow_v (d_int) (d_int)) (da_nil)))))) (dg_name (i := 1) nd (by rfl)) (dss_one (ds_if (t_w (w_or (t_not (t_tru (DO.z (o_callG (js := []) (ks := []) (ok__law_is_rejected T) (hr.mono (by decide)) (takes_of rfl rfl rfl rfl) T.g9 T.f9.kp T.b9 (db_of (da_cons (dv 1) (da_nil))) (dk_nil))))) (w_or1 (t_not (t_tru (DO.z (o_callG (js := []) (ks := []) (ok__law_checks_right T) (hr.mono (by decide)) (takes_of rfl rfl rfl rfl) T.g1 T.f1.kp T.b3 (db_of (da_cons (dv 1) (da_cons (d_lst (da_cons (d_bl) (da_cons (d_bl) (da_cons (d_bl) (da_nil))))) (da_nil)))) (dk_nil)))))))) (dss_one (ds_ret ((d_bl).o))) (dss_nil))))
 (dss_cons (ds_for (passes_of rfl) rfl (di_any (d_lst (da_cons (d_str) (da_cons (d_str) (da_cons (d_str) (da_cons (d_str) (da_cons (d_str) (da_cons (d_str) (da_cons (d_str) (da_cons (d_str) (da_nil))))))))))) (dg_name (i := 1) nd (by rfl)) (dss_cons (ds_set 2 nd ((d_cmp (op_inA hu5) in_v (dv 1) (d_lst (da_cons (d_str) (da_cons (d_str) (da_cons (d_str) (da_cons (d_str) (da_nil))))))).o))
 (dss_one (ds_if (t_w (w_or (t_not (t_tru (DO.z (o_callG (js := []) (ks := []) (ok__law_is_rejected T) (hr.mono (by decide)) (takes_of rfl rfl rfl rfl) T.g9 T.f9.kp T.b9 (db_of (da_cons (dv 1) (da_nil))) (dk_nil))))) (w_or1 (t_not (t_tru (DO.z (o_callG (js := []) (ks := []) (ok__law_checks_right T) (hr.mono (by decide)) (takes_of rfl rfl rfl rfl) T.g1 T.f1.kp T.b3 (db_of (da_cons (dv 1) (da_cons (d_lst (da_cons (d_bl) (da_cons (d_bl) (da_cons (dv 2) (da_nil))))) (da_nil)))) (dk_nil)))))))) (dss_one (ds_ret ((d_bl).o))) (dss_nil)))))
 (dss_cons (ds_for (passes_of rfl) rfl (di_rng1 (by rfl) T.n_range (da_cons (d_cb (call_max2 rfl) max_v (by rfl) T.n_max bt_max (da_cons (d_int) (da_cons (d_cb call_len len_v (by rfl) T.n_len bt_len (da_cons (dv 0) (da_nil))) (da_nil)))) (da_nil))) (dg_name (i := 3) nd (by rfl)) (dss_cons (ds_set 4 nd (o_callG (js := []) (ks := []) (ok__law_draws T) (hr.mono (by decide)) (takes_of rfl rfl rfl rfl) T.g8 T.f8.kp T.b7 (db_of (da_cons (dv 0) (da_cons (dv 3) (da_nil)))) (dk_nil)))
 (dss_cons (ds_set 5 nd (o_callG (js := [4]) (ks := []) (ok__law_path T) (hr.mono (by decide)) (takes_of rfl rfl rfl rfl) T.g7 T.f7.kp T.b6 (db_cons 4 (db_of (da_cons (d_int) (da_nil)))) (dk_nil)))
 (dss_cons (ds_set 6 nd (o_callG (js := [4]) (ks := []) (ok__law_changed_path T) (hr.mono (by decide)) (takes_of rfl rfl rfl rfl) T.g5 T.f5.kp T.b5 (db_cons 4 (db_of (da_cons (dv 5) (da_nil)))) (dk_nil)))
 (dss_one (ds_for (passes_of rfl) rfl (di_any (d_lst (da_cons (dv 5) (da_cons (dv 6) (da_nil))))) (dg_name (i := 1) nd (by rfl)) (dss_cons (ds_set 7 nd ((d_cmp (op_eqA hu) eq_v (DO.z (o_lcx (gName 9) rfl nd (di_any (dv 1)) (own := [("_law_sign", 9)]) (blkOk_by (by rfl)) (fun _ _ _ _ _ => dk_name (dg_name (i := 9) nd (by rfl)) (by decide)) (fun _ _ _ _ _ => ⟨_, dts_one (t_cmp (op_ninA hu5) nin_v (dv 9) (d_str))⟩) (fun _ _ _ _ _ => ⟨_, dv 9⟩))) (d_lst (da_nil))).o))
 (dss_one (ds_if (t_not (t_tru (DO.z (o_callG (js := []) (ks := []) (ok__law_checks_right T) (hr.mono (by decide)) (takes_of rfl rfl rfl rfl) T.g1 T.f1.kp T.b3 (db_of (da_cons (dv 1) (da_cons (d_lst (da_cons (d_bl) (da_cons (d_cmp (op_inA hu5) in_v (dv 1) (d_lst (da_cons (d_str) (da_cons (d_str) (da_cons (d_str) (da_cons (d_str) (da_nil))))))) (da_cons (dv 7) (da_nil))))) (da_nil)))) (dk_nil))))) (dss_one (ds_ret ((d_bl).o))) (dss_nil))))))))))
 (dss_one (ds_ret ((d_bl).o)))))))⟩
end
end Lw
set_option Elab.async false
set_option linter.all false
set_option maxRecDepth 100000
set_option maxHeartbeats 4000000
namespace Lw
open PySem PySem.Spec PyProof.Rows L2 DL
/-! ### what the top has written -/
theorem all_mk {l : PySem.W.OpenLaw} {w : World} {K : PySem.W.Frag} {h : Heap} {mg : Str → Option Value} {fa : Addr} (X : K.In h) (G : h.Ns mainGlobals mg) (hfa : mg "law" = some (.ref fa))
    {f0 : Addr} {od0 an0 : Option Addr} {sl0 : Array (Option Value)} {oc0 kV0 dc0 pm0 cd0 ct0 : Value}
    (a0 : PySem.W.nsIn K mainGlobals "law" = some (some (.ref f0)))
    (l0 : K.lookup f0 = some ⟨oc0, od0, .func (PySem.W.fnOf "law" "law" (defArgs s_law) (defBody s_law) (defScope s_law) .none kV0 dc0 pm0 an0 cd0 ct0), sl0⟩)
    (c0 : PySem.W.codeIn K cd0 "law" = true)
    (k0 : PySem.W.keepIn K (.ref f0) = true)
    {f1 : Addr} {od1 an1 : Option Addr} {sl1 : Array (Option Value)} {oc1 kV1 dc1 pm1 cd1 ct1 : Value}
    (a1 : PySem.W.nsIn K mainGlobals "_law_checks_right" = some (some (.ref f1)))
    (l1 : K.lookup f1 = some ⟨oc1, od1, .func (PySem.W.fnOf "_law_checks_right" "_law_checks_right" (defArgs s__law_checks_right) (defBody s__law_checks_right) (defScope s__law_checks_right) .none kV1 dc1 pm1 an1 cd1 ct1), sl1⟩)
    (c1 : PySem.W.codeIn K cd1 "_law_checks_right" = true)
    (k1 : PySem.W.keepIn K (.ref f1) = true)
    {f2 : Addr} {od2 an2 : Option Addr} {sl2 : Array (Option Value)} {oc2 kV2 dc2 pm2 cd2 ct2 : Value}
    (a2 : PySem.W.nsIn K mainGlobals "is_path" = some (some (.ref f2)))
    (l2 : K.lookup f2 = some ⟨oc2, od2, .func (PySem.W.fnOf "is_path" "is_path" (defArgs s_is_path) (defBody s_is_path) (defScope s_is_path) .none kV2 dc2 pm2 an2 cd2 ct2), sl2⟩)
    (c2 : PySem.W.codeIn K cd2 "is_path" = true)
    (k2 : PySem.W.keepIn K (.ref f2) = true)
    {f3 : Addr} {od3 an3 : Option Addr} {sl3 : Array (Option Value)} {oc3 kV3 dc3 pm3 cd3 ct3 : Value}
    (a3 : PySem.W.nsIn K mainGlobals "is_step" = some (some (.ref f3)))
    (l3 : K.lookup f3 = some ⟨oc3, od3, .func (PySem.W.fnOf "is_step" "is_step" (defArgs s_is_step) (defBody s_is_step) (defScope s_is_step) .none kV3 dc3 pm3 an3 cd3 ct3), sl3⟩)
    (c3 : PySem.W.codeIn K cd3 "is_step" = true)
    (k3 : PySem.W.keepIn K (.ref f3) = true)
    {f4 : Addr} {od4 an4 : Option Addr} {sl4 : Array (Option Value)} {oc4 kV4 dc4 pm4 cd4 ct4 : Value}
    (a4 : PySem.W.nsIn K mainGlobals "is_integer" = some (some (.ref f4)))
    (l4 : K.lookup f4 = some ⟨oc4, od4, .func (PySem.W.fnOf "is_integer" "is_integer" (defArgs s_is_integer) (defBody s_is_integer) (defScope s_is_integer) .none kV4 dc4 pm4 an4 cd4 ct4), sl4⟩)
    (c4 : PySem.W.codeIn K cd4 "is_integer" = true)
    (k4 : PySem.W.keepIn K (.ref f4) = true)
    {f5 : Addr} {od5 an5 : Option Addr} {sl5 : Array (Option Value)} {oc5 kV5 dc5 pm5 cd5 ct5 : Value}
    (a5 : PySem.W.nsIn K mainGlobals "_law_changed_path" = some (some (.ref f5)))
    (l5 : K.lookup f5 = some ⟨oc5, od5, .func (PySem.W.fnOf "_law_changed_path" "_law_changed_path" (defArgs s__law_changed_path) (defBody s__law_changed_path) (defScope s__law_changed_path) .none kV5 dc5 pm5 an5 cd5 ct5), sl5⟩)
    (c5 : PySem.W.codeIn K cd5 "_law_changed_path" = true)
    (k5 : PySem.W.keepIn K (.ref f5) = true)
    {f6 : Addr} {od6 an6 : Option Addr} {sl6 : Array (Option Value)} {oc6 kV6 dc6 pm6 cd6 ct6 : Value}
    (a6 : PySem.W.nsIn K mainGlobals "_law_draw" = some (some (.ref f6)))
    (l6 : K.lookup f6 = some ⟨oc6, od6, .func (PySem.W.fnOf "_law_draw" "_law_draw" (defArgs s__law_draw) (defBody s__law_draw) (defScope s__law_draw) .none kV6 dc6 pm6 an6 cd6 ct6), sl6⟩)
    (c6 : PySem.W.codeIn K cd6 "_law_draw" = true)
    (k6 : PySem.W.keepIn K (.ref f6) = true)
    {f7 : Addr} {od7 an7 : Option Addr} {sl7 : Array (Option Value)} {oc7 kV7 dc7 pm7 cd7 ct7 : Value}
    (a7 : PySem.W.nsIn K mainGlobals "_law_path" = some (some (.ref f7)))
    (l7 : K.lookup f7 = some ⟨oc7, od7, .func (PySem.W.fnOf "_law_path" "_law_path" (defArgs s__law_path) (defBody s__law_path) (defScope s__law_path) .none kV7 dc7 pm7 an7 cd7 ct7), sl7⟩)
    (c7 : PySem.W.codeIn K cd7 "_law_path" = true)
    (k7 : PySem.W.keepIn K (.ref f7) = true)
    {f8 : Addr} {od8 an8 : Option Addr} {sl8 : Array (Option Value)} {oc8 kV8 dc8 pm8 cd8 ct8 : Value}
    (a8 : PySem.W.nsIn K mainGlobals "_law_draws" = some (some (.ref f8)))
    (l8 : K.lookup f8 = some ⟨oc8, od8, .func (PySem.W.fnOf "_law_draws" "_law_draws" (defArgs s__law_draws) (defBody s__law_draws) (defScope s__law_draws) .none kV8 dc8 pm8 an8 cd8 ct8), sl8⟩)
    (c8 : PySem.W.codeIn K cd8 "_law_draws" = true)
    (k8 : PySem.W.keepIn K (.ref f8) = true)
    {f9 : Addr} {od9 an9 : Option Addr} {sl9 : Array (Option Value)} {oc9 kV9 dc9 pm9 cd9 ct9 : Value}
    (a9 : PySem.W.nsIn K mainGlobals "_law_is_rejected" = some (some (.ref f9)))
    (l9 : K.lookup f9 = some ⟨oc9, od9, .func (PySem.W.fnOf "_law_is_rejected" "_law_is_rejected" (defArgs s__law_is_rejected) (defBody s__law_is_rejected) (defScope s__law_is_rejected) .none kV9 dc9 pm9 an9 cd9 ct9), sl9⟩)
    (c9 : PySem.W.codeIn K cd9 "_law_is_rejected" = true)
    (k9 : PySem.W.keepIn K (.ref f9) = true)
    {f10 : Addr} {od10 an10 : Option Addr} {sl10 : Array (Option Value)} {oc10 kV10 dc10 pm10 cd10 ct10 : Value}
    (a10 : PySem.W.nsIn K mainGlobals "opposite" = some (some (.ref f10)))
    (l10 : K.lookup f10 = some ⟨oc10, od10, .func (PySem.W.fnOf "opposite" "opposite" (defArgs s_opposite) (defBody s_opposite) (defScope s_opposite) .none kV10 dc10 pm10 an10 cd10 ct10), sl10⟩)
    (c10 : PySem.W.codeIn K cd10 "opposite" = true)
    (k10 : PySem.W.keepIn K (.ref f10) = true)
    {t0_STEPS t1_STEPS t2_STEPS t3_STEPS : Tok} {a_STEPS : Addr} {d_STEPS : Option Addr} {m_STEPS : Nat} {s_STEPS : Array (Option Value)}
    (g_STEPS : PySem.W.nsIn K mainGlobals "STEPS" = some (some (.ref a_STEPS)))
    (h_STEPS : K.lookup a_STEPS = some ⟨.type "tuple", d_STEPS, .seq #[.str "E" t0_STEPS, .str "W" t1_STEPS, .str "U" t2_STEPS, .str "D" t3_STEPS] m_STEPS, s_STEPS⟩)
    {a_OPPOSITES : Addr} {e_OPPOSITES : Array DictEntry} {m_OPPOSITES : Nat} {u0_OPPOSITES u1_OPPOSITES u2_OPPOSITES u3_OPPOSITES : Tok}
    (g_OPPOSITES : PySem.W.nsIn K mainGlobals "OPPOSITES" = some (some (.ref a_OPPOSITES)))
    (h_OPPOSITES : K.lookup a_OPPOSITES = some ⟨.type "dict", none, .dict e_OPPOSITES m_OPPOSITES, #[]⟩)
    (j_OPPOSITES : PySem.W.KeysLit w.params e_OPPOSITES.toList)
    (v0_OPPOSITES : PySem.W.nsIn K a_OPPOSITES "E" = some (some (.str "W" u0_OPPOSITES)))
    (v1_OPPOSITES : PySem.W.nsIn K a_OPPOSITES "W" = some (some (.str "E" u1_OPPOSITES)))
    (v2_OPPOSITES : PySem.W.nsIn K a_OPPOSITES "U" = some (some (.str "D" u2_OPPOSITES)))
    (v3_OPPOSITES : PySem.W.nsIn K a_OPPOSITES "D" = some (some (.str "U" u3_OPPOSITES)))
    (z0 : PySem.W.nsIn K mainGlobals "len" = some none)
    (z1 : PySem.W.nsIn K mainGlobals "max" = some none)
    (z2 : PySem.W.nsIn K mainGlobals "range" = some none)
    (z3 : PySem.W.nsIn K mainGlobals "all" = some none)
    (z4 : PySem.W.nsIn K mainGlobals "str" = some none)
    (z5 : PySem.W.nsIn K mainGlobals "isinstance" = some none)
    (z6 : PySem.W.nsIn K mainGlobals "bool" = some none)
    (z7 : PySem.W.nsIn K mainGlobals "int" = some none)
    (z8 : PySem.W.nsIn K mainGlobals "repr" = some none)
    (z9 : PySem.W.nsIn K mainGlobals "KeyError" = some none)
    {X0 : Addr}
    (XA0 : PySem.W.nsIn K mainGlobals "InvalidStep" = some (some (.ref X0)))
    (XK0 : PySem.W.keepIn K (.ref X0) = true)
    (XS0 : PySem.W.subIn K (.ref X0) (.type "BaseException") = some true)
    (XY0 : PySem.W.typeIn K (.ref X0) = some (.type "type"))
    (XI0 : PySem.W.isClsIn K X0 = true)
    {Y0 : Addr} {nm0x qn0x : Str} {NN0x : Addr} {bs0x bm0x : List Value} {sn0x : List Str} {sb0x : List Value} {ab0x : Bool} {co0x : Option Bool} {dd0x : Option Addr} {k00x k10x k20x k30x k50x : Option Value}
    (XL0 : K.lookup X0 = some (excClassObj nm0x qn0x X0 NN0x bs0x bm0x true sn0x sb0x ab0x co0x dd0x k00x k10x k20x k30x k50x "LookupError.__new__"))
    (XT0 : stripR bm0x = tlK)
    (Xa0 : PySem.W.findIn K (.ref X0) "__setattr__" = some (some (.builtin "object.__setattr__")))
    (Xn0 : PySem.W.findIn K (.ref X0) "step" = some none)
    (Xi0 : PySem.W.findIn K (.ref X0) "__init__" = some (some (.ref Y0)))
    (Xt0 : PySem.W.typeIn K (.ref Y0) = some (.type "function"))
    {yo0 ykV0 ydc0 ypm0 ycd0 yct0 : Value} {yod0 yan0 : Option Addr} {ysl0 : Array (Option Value)}
    (Xl0 : K.lookup Y0 = some ⟨yo0, yod0, .func (PySem.W.fnOf "__init__" "InvalidStep.__init__" (defArgs sx_InvalidStep) (defBody sx_InvalidStep) (defScope sx_InvalidStep) .none ykV0 ydc0 ypm0 yan0 ycd0 yct0), ysl0⟩)
    (Xc0 : PySem.W.codeIn K ycd0 "InvalidStep.__init__" = true)
    {X1 : Addr}
    (XA1 : PySem.W.nsIn K mainGlobals "WalkError" = some (some (.ref X1)))
    (XK1 : PySem.W.keepIn K (.ref X1) = true)
    (XS1 : PySem.W.subIn K (.ref X1) (.type "BaseException") = some true)
    (XY1 : PySem.W.typeIn K (.ref X1) = some (.type "type"))
    (XI1 : PySem.W.isClsIn K X1 = true)
    (Xq : PySem.W.specialIn K (.builtin "object.__class__") "__get__" = some (some (.builtin "getset_descriptor.__get__")))
    (Xr : PySem.W.takesIn K (.builtin "object.__class__") = some true)
    (Xcc0 : PySem.W.findIn K (.ref X0) "__class__" = some (some (.builtin "object.__class__")))
    (Xo0 : PySem.W.mroIn K X0 (.type "object") = some true)
    (Xz0_0 : PySem.W.kitOne K (.ref X0) (.ref X1) = some false)
    (Xz1_0 : PySem.W.kitOne K (.ref X0) (.type "KeyError") = some true)
    (Xg0 : PySem.W.findIn K (.ref X0) "__getattribute__" = some (some (.builtin "BaseException.__getattribute__")))
    (Xh0 : PySem.W.findIn K (.ref X0) "__getattr__" = some none)
    (Xd0 : PySem.W.hasDictIn K X0 = true)
    (Xf0_step : PySem.W.findIn K (.ref X0) "step" = some none)
    (P0 : PySem.W.subIn K (.ref X0) (.ref X0) = some true)
    : ∃ fd : FuncData, (∀ (s : Shared) (v : Value), BindsTo s fd ⟨[v], []⟩ [("_law_script", v)]) ∧ ∀ base : Heap, K.In base → base.Ns mainGlobals mg → FnG l.prog w K mg base 4 fa fd ["_law_script"] (spOf K 0 1 m_law) := by
  have e : fa = f0 := by
    have e := hfa.symm.trans (PySem.W.mg_of X G a0)
    cases e
    rfl
  subst e
  have F0 : FunD K "law" "law" (defArgs s_law) (defBody s_law) (defScope s_law) [] [] fa _ := ⟨⟨_, _, _, _, _, _, _, _, _, _, rfl, l0, c0, .inl ⟨rfl, rfl⟩, .inl rfl⟩, k0⟩
  have F1 : FunD K "_law_checks_right" "_law_checks_right" (defArgs s__law_checks_right) (defBody s__law_checks_right) (defScope s__law_checks_right) [] [] f1 _ := ⟨⟨_, _, _, _, _, _, _, _, _, _, rfl, l1, c1, .inl ⟨rfl, rfl⟩, .inl rfl⟩, k1⟩
  have F2 : FunD K "is_path" "is_path" (defArgs s_is_path) (defBody s_is_path) (defScope s_is_path) [] [] f2 _ := ⟨⟨_, _, _, _, _, _, _, _, _, _, rfl, l2, c2, .inl ⟨rfl, rfl⟩, .inl rfl⟩, k2⟩
  have F3 : FunD K "is_step" "is_step" (defArgs s_is_step) (defBody s_is_step) (defScope s_is_step) [] [] f3 _ := ⟨⟨_, _, _, _, _, _, _, _, _, _, rfl, l3, c3, .inl ⟨rfl, rfl⟩, .inl rfl⟩, k3⟩
  have F4 : FunD K "is_integer" "is_integer" (defArgs s_is_integer) (defBody s_is_integer) (defScope s_is_integer) [] [] f4 _ := ⟨⟨_, _, _, _, _, _, _, _, _, _, rfl, l4, c4, .inl ⟨rfl, rfl⟩, .inl rfl⟩, k4⟩
  have F5 : FunD K "_law_changed_path" "_law_changed_path" (defArgs s__law_changed_path) (defBody s__law_changed_path) (defScope s__law_changed_path) [] [] f5 _ := ⟨⟨_, _, _, _, _, _, _, _, _, _, rfl, l5, c5, .inl ⟨rfl, rfl⟩, .inl rfl⟩, k5⟩
  have F6 : FunD K "_law_draw" "_law_draw" (defArgs s__law_draw) (defBody s__law_draw) (defScope s__law_draw) [] [] f6 _ := ⟨⟨_, _, _, _, _, _, _, _, _, _, rfl, l6, c6, .inl ⟨rfl, rfl⟩, .inl rfl⟩, k6⟩
  have F7 : FunD K "_law_path" "_law_path" (defArgs s__law_path) (defBody s__law_path) (defScope s__law_path) [] [] f7 _ := ⟨⟨_, _, _, _, _, _, _, _, _, _, rfl, l7, c7, .inl ⟨rfl, rfl⟩, .inl rfl⟩, k7⟩
  have F8 : FunD K "_law_draws" "_law_draws" (defArgs s__law_draws) (defBody s__law_draws) (defScope s__law_draws) [] [] f8 _ := ⟨⟨_, _, _, _, _, _, _, _, _, _, rfl, l8, c8, .inl ⟨rfl, rfl⟩, .inl rfl⟩, k8⟩
  have F9 : FunD K "_law_is_rejected" "_law_is_rejected" (defArgs s__law_is_rejected) (defBody s__law_is_rejected) (defScope s__law_is_rejected) [] [] f9 _ := ⟨⟨_, _, _, _, _, _, _, _, _, _, rfl, l9, c9, .inl ⟨rfl, rfl⟩, .inl rfl⟩, k9⟩
  have F10 : FunD K "opposite" "opposite" (defArgs s_opposite) (defBody s_opposite) (defScope s_opposite) [] [] f10 _ := ⟨⟨_, _, _, _, _, _, _, _, _, _, rfl, l10, c10, .inl ⟨rfl, rfl⟩, .inl rfl⟩, k10⟩
  have b0 : BP K _ ["value"] 0 1 [] (fun as _ => as) := bp_all F2 fun _ _ _ _ _ _ us hl => match us, hl with | [_], _ => rfl
  have b1 : BP K _ ["value"] 0 1 [] (fun as _ => as) := bp_all F3 fun _ _ _ _ _ _ us hl => match us, hl with | [_], _ => rfl
  have b2 : BP K _ ["value"] 0 1 [] (fun as _ => as) := bp_all F4 fun _ _ _ _ _ _ us hl => match us, hl with | [_], _ => rfl
  have b3 : BP K _ ["_law_value", "_law_expected"] 0 2 [] (fun as _ => as) := bp_all F1 fun _ _ _ _ _ _ us hl => match us, hl with | [_, _], _ => rfl
  have b4 : BP K _ ["_law_draws_here", "_law_upto"] 1 1 [] (fun as _ => as) := bp_all F6 fun _ _ _ _ _ _ us hl => match us, hl with | [_, _], _ => rfl
  have b5 : BP K _ ["_law_draws_here", "_law_path_here"] 1 1 [] (fun as _ => as) := bp_all F5 fun _ _ _ _ _ _ us hl => match us, hl with | [_, _], _ => rfl
  have b6 : BP K _ ["_law_draws_here", "_law_most"] 1 1 [] (fun as _ => as) := bp_all F7 fun _ _ _ _ _ _ us hl => match us, hl with | [_, _], _ => rfl
  have b7 : BP K _ ["_law_script", "_law_k"] 0 2 [] (fun as _ => as) := bp_all F8 fun _ _ _ _ _ _ us hl => match us, hl with | [_, _], _ => rfl
  have b8 : BP K _ ["step"] 0 1 [] (fun as _ => as) := bp_all F10 fun _ _ _ _ _ _ us hl => match us, hl with | [_], _ => rfl
  have b9 : BP K _ ["_law_value"] 0 1 [] (fun as _ => as) := bp_all F9 fun _ _ _ _ _ _ us hl => match us, hl with | [_], _ => rfl
  have T : Txt K w mg (fun i => [fa, f1, f2, f3, f4, f5, f6, f7, f8, f9, f10].getD i 0) (fun i => [PySem.W.fnOf "law" "law" (defArgs s_law) (defBody s_law) (defScope s_law) .none kV0 dc0 pm0 an0 cd0 ct0, PySem.W.fnOf "_law_checks_right" "_law_checks_right" (defArgs s__law_checks_right) (defBody s__law_checks_right) (defScope s__law_checks_right) .none kV1 dc1 pm1 an1 cd1 ct1, PySem.W.fnOf "is_path" "is_path" (defArgs s_is_path) (defBody s_is_path) (defScope s_is_path) .none kV2 dc2 pm2 an2 cd2 ct2, PySem.W.fnOf "is_step" "is_step" (defArgs s_is_step) (defBody s_is_step) (defScope s_is_step) .none kV3 dc3 pm3 an3 cd3 ct3, PySem.W.fnOf "is_integer" "is_integer" (defArgs s_is_integer) (defBody s_is_integer) (defScope s_is_integer) .none kV4 dc4 pm4 an4 cd4 ct4, PySem.W.fnOf "_law_changed_path" "_law_changed_path" (defArgs s__law_changed_path) (defBody s__law_changed_path) (defScope s__law_changed_path) .none kV5 dc5 pm5 an5 cd5 ct5, PySem.W.fnOf "_law_draw" "_law_draw" (defArgs s__law_draw) (defBody s__law_draw) (defScope s__law_draw) .none kV6 dc6 pm6 an6 cd6 ct6, PySem.W.fnOf "_law_path" "_law_path" (defArgs s__law_path) (defBody s__law_path) (defScope s__law_path) .none kV7 dc7 pm7 an7 cd7 ct7, PySem.W.fnOf "_law_draws" "_law_draws" (defArgs s__law_draws) (defBody s__law_draws) (defScope s__law_draws) .none kV8 dc8 pm8 an8 cd8 ct8, PySem.W.fnOf "_law_is_rejected" "_law_is_rejected" (defArgs s__law_is_rejected) (defBody s__law_is_rejected) (defScope s__law_is_rejected) .none kV9 dc9 pm9 an9 cd9 ct9, PySem.W.fnOf "opposite" "opposite" (defArgs s_opposite) (defBody s_opposite) (defScope s_opposite) .none kV10 dc10 pm10 an10 cd10 ct10].getD i (PySem.W.fnOf "law" "law" (defArgs s_law) (defBody s_law) (defScope s_law) .none kV0 dc0 pm0 an0 cd0 ct0)) (fun i => [].getD i 0) (fun i => [X0, X1].getD i 0) (fun i => [Y0, 0].getD i 0) (fun i => []) :=
    { f0 := F0,
      g0 := PySem.W.mg_of X G a0,
      f1 := F1,
      g1 := PySem.W.mg_of X G a1,
      f2 := F2,
      g2 := PySem.W.mg_of X G a2,
      f3 := F3,
      g3 := PySem.W.mg_of X G a3,
      f4 := F4,
      g4 := PySem.W.mg_of X G a4,
      f5 := F5,
      g5 := PySem.W.mg_of X G a5,
      f6 := F6,
      g6 := PySem.W.mg_of X G a6,
      f7 := F7,
      g7 := PySem.W.mg_of X G a7,
      f8 := F8,
      g8 := PySem.W.mg_of X G a8,
      f9 := F9,
      g9 := PySem.W.mg_of X G a9,
      f10 := F10,
      g10 := PySem.W.mg_of X G a10,
      b0 := b0,
      b1 := b1,
      b2 := b2,
      b3 := b3,
      b4 := b4,
      b5 := b5,
      b6 := b6,
      b7 := b7,
      b8 := b8,
      b9 := b9,
      xf0 := xfl_cons XA0 ⟨Xg0, Xh0, XS0, Xd0⟩ Xf0_step (xfl_nil),
      ix0 := xis_cons XA0 ⟨⟨⟨Xg0, Xh0, XS0, Xd0⟩, Xcc0, Xo0⟩, Xz0_0⟩ (xis_nil ⟨Xq, Xr⟩),
      ix1 := xis_cons XA0 ⟨⟨⟨Xg0, Xh0, XS0, Xd0⟩, Xcc0, Xo0⟩, Xz1_0⟩ (xis_nil ⟨Xq, Xr⟩),
      g_STEPS := gc_ref (PySem.W.mg_of X G g_STEPS) (is_mtup (vs := [.str "E", .str "W", .str "U", .str "D"]) (its := [.str "E" t0_STEPS, .str "W" t1_STEPS, .str "U" t2_STEPS, .str "D" t3_STEPS]) (.head _) g_STEPS h_STEPS rfl rfl (by rw [sizeLine_eq]; exact (by decide : 4 ≤ 16777216)) (.cons ⟨t0_STEPS, rfl⟩ (.cons ⟨t1_STEPS, rfl⟩ (.cons ⟨t2_STEPS, rfl⟩ (.cons ⟨t3_STEPS, rfl⟩ (.nil))))) (fun _ => .cons (.str _) (.cons (.str _) (.cons (.str _) (.cons (.str _) (.nil)))))),
      d_OPPOSITES := ⟨_, PySem.W.mg_of X G g_OPPOSITES, kd_cons ⟨_, _, _, h_OPPOSITES, j_OPPOSITES, v0_OPPOSITES, ⟨_, rfl⟩⟩ (kd_cons ⟨_, _, _, h_OPPOSITES, j_OPPOSITES, v1_OPPOSITES, ⟨_, rfl⟩⟩ (kd_cons ⟨_, _, _, h_OPPOSITES, j_OPPOSITES, v2_OPPOSITES, ⟨_, rfl⟩⟩ (kd_cons ⟨_, _, _, h_OPPOSITES, j_OPPOSITES, v3_OPPOSITES, ⟨_, rfl⟩⟩ (kd_nil))))⟩,
      n_len := PySem.W.mg_none_of X G z0,
      n_max := PySem.W.mg_none_of X G z1,
      n_range := PySem.W.mg_none_of X G z2,
      n_all := PySem.W.mg_none_of X G z3,
      n_str := PySem.W.mg_none_of X G z4,
      n_isinstance := PySem.W.mg_none_of X G z5,
      n_bool := PySem.W.mg_none_of X G z6,
      n_int := PySem.W.mg_none_of X G z7,
      n_repr := PySem.W.mg_none_of X G z8,
      n_KeyError := PySem.W.mg_none_of X G z9,
      c_InvalidStep := ⟨XA0, PySem.W.mg_of X G XA0, XK0, XS0, XY0, XI0⟩,
      lo_InvalidStep := ⟨PySem.W.mg_of X G XA0, XA0, ⟨_, _, _, _, _, _, _, _, _, _, _, _, _, _, _, XL0, by rw [XT0]; exact tail_K⟩, Xa0, Xn0, Xi0, Xt0, XK0, XS0, XY0, ⟨_, _, _, _, _, _, _, _, _, Xl0, Xc0⟩⟩,
      c_WalkError := ⟨XA1, PySem.W.mg_of X G XA1, XK1, XS1, XY1, XI1⟩,
      s_InvalidStep_InvalidStep := P0 }
  exact ⟨_, fun s v => .of_eq rfl, fun base _ _ => ok_law T⟩
end Lw
open PySem PySem.W PyProof.Rows
set_option maxHeartbeats 0 in
theorem PySem.Challenge.cw_heightsums_k01_steps_and_paths_holds : PySem.Challenge.rw_heightsums_k01_steps_and_paths.Holds := by
  w_on; o_law; k_head; (case hw => w_witness2)
  k_fill
  refine DL.walkG (l := PySem.Challenge.rw_heightsums_k01_steps_and_paths) (n := 63) (k := 4) (x := "_law_script") (sp := fun w => DL.spOf _ 0 1 Lw.m_law) rfl (by decide) rfl ⟨⟨rfl, by decide, by decide⟩, rfl⟩ (fun w h Y => PySem.W.kIn_of Y) ?F (fun w H a ns hl hb hS => DL.law_sp Lw.wins _ H a ns hl hb hS) (fun _ _ _ _ _ h => DL.cx_no h)
  case F =>
    intro w mg fa h KX G hmg
    refine' Lw.all_mk KX G hmg ?a0 ?l0 ?c0 ?k0 ?a1 ?l1 ?c1 ?k1 ?a2 ?l2 ?c2 ?k2 ?a3 ?l3 ?c3 ?k3 ?a4 ?l4 ?c4 ?k4 ?a5 ?l5 ?c5 ?k5 ?a6 ?l6 ?c6 ?k6 ?a7 ?l7 ?c7 ?k7 ?a8 ?l8 ?c8 ?k8 ?a9 ?l9 ?c9 ?k9 ?a10 ?l10 ?c10 ?k10 ?g_STEPS ?h_STEPS ?g_OPPOSITES ?h_OPPOSITES ?j_OPPOSITES ?v0_OPPOSITES ?v1_OPPOSITES ?v2_OPPOSITES ?v3_OPPOSITES ?z0 ?z1 ?z2 ?z3 ?z4 ?z5 ?z6 ?z7 ?z8 ?z9 ?XA0 ?XK0 ?XS0 ?XY0 ?XI0 ?XL0 ?XT0 ?Xa0 ?Xn0 ?Xi0 ?Xt0 ?Xl0 ?Xc0 ?XA1 ?XK1 ?XS1 ?XY1 ?XI1 ?Xq ?Xr ?Xcc0 ?Xo0 ?Xz0_0 ?Xz1_0 ?Xg0 ?Xh0 ?Xd0 ?Xf0_step ?P0
    (case a0 => k_is)
    (case l0 => k_is)
    (case c0 => k_is)
    (case k0 => k_is)
    (case a1 => k_is)
    (case l1 => k_is)
    (case c1 => k_is)
    (case k1 => k_is)
    (case a2 => k_is)
    (case l2 => k_is)
    (case c2 => k_is)
    (case k2 => k_is)
    (case a3 => k_is)
    (case l3 => k_is)
    (case c3 => k_is)
    (case k3 => k_is)
    (case a4 => k_is)
    (case l4 => k_is)
    (case c4 => k_is)
    (case k4 => k_is)
    (case a5 => k_is)
    (case l5 => k_is)
    (case c5 => k_is)
    (case k5 => k_is)
    (case a6 => k_is)
    (case l6 => k_is)
    (case c6 => k_is)
    (case k6 => k_is)
    (case a7 => k_is)
    (case l7 => k_is)
    (case c7 => k_is)
    (case k7 => k_is)
    (case a8 => k_is)
    (case l8 => k_is)
    (case c8 => k_is)
    (case k8 => k_is)
    (case a9 => k_is)
    (case l9 => k_is)
    (case c9 => k_is)
    (case k9 => k_is)
    (case a10 => k_is)
    (case l10 => k_is)
    (case c10 => k_is)
    (case k10 => k_is)
    (case g_STEPS => k_is)
    (case h_STEPS => k_is)
    (case g_OPPOSITES => k_is)
    (case h_OPPOSITES => k_is)
    (case j_OPPOSITES => exact ⟨⟨_, _, rfl, rfl⟩, ⟨⟨_, _, rfl, rfl⟩, ⟨⟨_, _, rfl, rfl⟩, ⟨⟨_, _, rfl, rfl⟩, trivial⟩⟩⟩⟩)
    (case v0_OPPOSITES => k_is)
    (case v1_OPPOSITES => k_is)
    (case v2_OPPOSITES => k_is)
    (case v3_OPPOSITES => k_is)
    (case z0 => k_is)
    (case z1 => k_is)
    (case z2 => k_is)
    (case z3 => k_is)
    (case z4 => k_is)
    (case z5 => k_is)
    (case z6 => k_is)
    (case z7 => k_is)
    (case z8 => k_is)
    (case z9 => k_is)
    (case XA0 => k_is)
    (case XK0 => k_is)
    (case XS0 => k_is)
    (case XY0 => k_is)
    (case XI0 => k_is)
    (case XL0 => k_is)
    (case XT0 => rfl)
    (case Xa0 => k_is)
    (case Xn0 => k_is)
    (case Xi0 => k_is)
    (case Xt0 => k_is)
    (case Xl0 => k_is)
    (case Xc0 => k_is)
    (case XA1 => k_is)
    (case XK1 => k_is)
    (case XS1 => k_is)
    (case XY1 => k_is)
    (case XI1 => k_is)
    (case Xq => k_is)
    (case Xr => k_is)
    (case Xcc0 => k_is)
    (case Xo0 => k_is)
    (case Xz0_0 => first | kernel_rfl | rfl | k_is)
    (case Xz1_0 => first | kernel_rfl | rfl | k_is)
    (case Xg0 => k_is)
    (case Xh0 => k_is)
    (case Xd0 => k_is)
    (case Xf0_step => k_is)
    (case P0 => k_is)
