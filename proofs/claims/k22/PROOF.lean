import PyProof.Rows.All
import Wide.All
import OpenK.AllK
import Wide.FinOn
import HandS.Evl
import HandS.ForMost
import HandS.ForExc
import HandS.CallSlots
import HandS.IsInst
import HandS.Property
import HandS.OwnEq
import HandS.Conv
import HandS.Dict
import HandS.EndBits
import KE.KUnpackStar
import PyProof.InstNe
import HandS.Wide
import HandS.WideBits
import HandS.TupAny
import HandS.Style
import HandS.Deep
import HandS.Star
import HandS.TupLen
import KE.KDictKeyed
import KE.KeyNested
import HandS.ClsMeth
import HandS.SortKw
import KE.GoesZip
import KE.GoesMore
import KE.GoesEnum
import HandS.Strs
import HandS.ExcInit
import KE.KExcInit
import HandS.ExcField
import HandS.ExcIs
import KE.KExcIs
import HandS.TryOnly
import HandS.TryMany
import HandS.SetBool
import HandS.SetFor
import HandS.SortInts
import HandS.TupSets
import PyProof.Rows.SumAny
import PyProof.WalksMore
import PyProof.DictRoadsH
import KE.KDictWalk
import KE.SortData
import KE.DataCmp
import KE.DataMinMax
import KE.DataFind
import HandS.Small
import KE.KDictSum
import KE.KDictItemsList
import KE.KDictDisplayH
import HandS.RevRange
import PyProof.ReprRoads
import PyProof.CallFns
import HandS.Defaults
import HandS.Flow
import HandS.TupLe
import KE.OsRunLaw
import PySem.Challenge.RW_beanjars_k22_powers_and_counts
section
set_option Elab.async false
set_option linter.all false
local macro_rules | `(tactic| refine $head:ident ($n1:ident := $q) ($n2:ident := $l) ($n3:ident := $xt) ($n4:ident := $xp) ($n5:ident := $yf) ($n6:ident := $ya) ($n7:ident := $yp) ($n8:ident := $n) $hl $a1 $a2 $a3 $a4 $b1 $b2 $b3 $c1 $c2 $c3 $c4 $c5 $hw $hc) => `(tactic| refine' $head (q := $q) (loose := $l) (Xt := $xt) (XP := $xp) (Yf := $yf) (Ya := $ya) (YP := $yp) (N := $n) $(Lean.mkIdent `hl) $a1 $a2 $a3 $a4 $b1 $b2 $b3 $c1 $c2 $c3 $c4 $c5 $hw $(Lean.mkIdent `hc))
open PySem PySem.W PyProof.Rows in
set_option maxRecDepth 100000 in
set_option maxHeartbeats 0 in
noncomputable def K22.box : (L : Prop) ×' (W : Prop) ×' (PySem.W.OpenLaw.wellSaid PySem.Challenge.rw_beanjars_k22_powers_and_counts = true → L → W → PySem.Challenge.rw_beanjars_k22_powers_and_counts.Holds) := by
  refine' ⟨_, _, fun hs hl hc => ?_⟩
  rotate_left 2
  w_on; (refine PySem.W.holds_law hs fun said => ?_); k_headL; (case hw => w_witness2)
end
section
set_option Elab.async false
set_option linter.all false
open PySem PySem.W PyProof.Rows in
set_option maxRecDepth 100000 in
set_option maxHeartbeats 0 in
theorem K22.left : K22.box.1 := by
  delta K22.box; dsimp only
  refine HeadRun.left_oneK (M := 4577) (by kernel_rfl) (by rfl) (fun s => by kernel_rfl) (by rfl) ?_
  intro w os; kernel_rfl
end
section
set_option Elab.async false
set_option linter.all false
open PySem PySem.W PyProof.Rows in
set_option maxRecDepth 100000 in
set_option maxHeartbeats 0 in
theorem K22.said : PySem.W.OpenLaw.wellSaid PySem.Challenge.rw_beanjars_k22_powers_and_counts = true := by decide +kernel
end
section
set_option Elab.async false
set_option linter.all false
set_option maxRecDepth 100000
set_option autoImplicit false
/-! a def's promise where no repr is under way -/
namespace Dl
open PySem PySem.Spec L2 PyProof.Rows
/-- room, and no guard held -/
structure Room (k : Nat) (A : Around) : Prop extends L2.Room k A where
  gd : A.guards = some []
theorem make_guards {A : Around} {C : Addr} {us : List Value} {kw : List (Str × Value)} : (A.under (.builtin "type.__call__" ⟨.ref C :: us, kw⟩)).guards = A.guards := by
  first | rfl | simp [Around.under, Code.guards, Code.isGuard, guardIds, pushGuards]
namespace Room
variable {j k : Nat} {A : Around}
theorem mono (r : Room k A) (h : j ≤ k) : Room j A := ⟨r.toRoom.mono h, r.gd⟩
theorem deeper (r : Room (k + 1) A) (env : Env) : Room k (A.deeper env) := ⟨r.toRoom.deeper env, r.gd⟩
theorem in1 (r : Room (k + 1) A) : Room k A.in1 := ⟨r.toRoom.in1, r.gd⟩
theorem make (r : Room (k + 1) A) (C : Addr) (us : List Value) (kw : List (Str × Value)) : Room k (A.under (.builtin "type.__call__" ⟨.ref C :: us, kw⟩)) := ⟨r.toRoom.make C us kw, make_guards.trans r.gd⟩
end Room
structure Sub (X : Cx) (n : Nat) (A : Around) : Prop where
  room : Room n A
  fr : A.frames = X.A.frames
theorem Sub.in1 {X : Cx} {n : Nat} {A : Around} (s : Sub X (n + 1) A) : Sub X n A.in1 := ⟨s.room.in1, s.fr⟩
theorem Sub.mono {X : Cx} {n m : Nat} {A : Around} (s : Sub X n A) (h : m ≤ n) : Sub X m A := ⟨s.room.mono h, s.fr⟩
/-- the promise of a def -/
structure FnOk (P : Program) (w : World) (K : PySem.W.Frag) (mg : Str → Option Value) (base : Heap) (CX : CXT) (k : Nat) (f : Addr) (fd : FuncData) (ps : List Str) (sp : Sp) : Prop where
  len : ∀ vs H Q E, sp vs H Q E → vs.length = ps.length
  run : ∀ (A : Around) (outer : List Env) (s : Shared) (H : Hp) (args : Args) (us : List Value) (vs : List V) (Q : VK) (E : XK), Dl.Room k A → Env0 P w K mg base A outer s H → BindsTo s fd args (ps.zip us) → Vals vs us → sp vs H Q E →
    codeAny (model P w) A (.call (.ref f) args) (CR CX outer P w H s Q E) s
section
variable {P : Program} {w : World} {K : PySem.W.Frag} {mg : Str → Option Value} {base : Heap} {CX : CXT} {j k : Nat} {f : Addr} {fd : FuncData} {ps : List Str} {sp sp' : Sp}
theorem FnOk.mono (F : FnOk P w K mg base CX j f fd ps sp) (h : j ≤ k) : FnOk P w K mg base CX k f fd ps sp := ⟨F.len, fun A o s H args us vs Q E hr => F.run A o s H args us vs Q E (hr.mono h)⟩
theorem FnOk.imp (F : FnOk P w K mg base CX k f fd ps sp) (h : ∀ vs H Q E, sp' vs H Q E → sp vs H Q E) : FnOk P w K mg base CX k f fd ps sp' :=
  ⟨fun vs H Q E q => F.len vs H Q E (h _ _ _ _ q), fun A o s H args us vs Q E hr e b r q => F.run A o s H args us vs Q E hr e b r (h _ _ _ _ q)⟩
theorem fn_of {name qual : Str} {params : Arguments} {body : List Stmt} {scope : Scope} {dV kV doc pm cdv ct oc : Value} {an od : Option Addr} {osl : Array (Option Value)} {N : List Str}
    (lk : K.lookup f = some ⟨oc, od, .func (PySem.W.fnOf name qual params body scope dV kV doc pm an cdv ct), osl⟩) (hcd : PySem.W.codeIn K cdv qual = true) (S : FnScope N ps scope) (ln : ∀ vs H Q E, sp vs H Q E → vs.length = ps.length)
    (bd : ∀ (A : Around) (outer : List Env) (s : Shared) (H : Hp) (vs : List V) (Q : VK) (E : XK), Dl.Room k (A.deeper (envOfC qual scope s.heap.objs.size f cdv)) → sp vs H Q E →
      ∃ t, PSs (cxOf CX P w K mg base N qual scope f cdv A outer s H E) body t ∧ t { nx := fun _ H' => Q .non H', rt := Q } (start N vs) H) :
    FnOk P w K mg base CX (k + 1) f (PySem.W.fnOf name qual params body scope dV kV doc pm an cdv ct) ps sp := by
  refine ⟨ln, fun A outer s H args us vs Q E hr e0 hb r q => ?_⟩
  have kin : K.In s.heap := e0.mod.kin.keeps fun b o e => (e0.bs b o e).1
  have nol : s.heap.NoLimit := e0.mod.nolimit.keeps fun b o e => (e0.bs b o e).1
  refine codeAny_call_function hr.depth (kin _ _ lk) rfl S.co S.gen rfl (PySem.W.codeRec_of kin hcd) (hb _ _ _ _ ?_)
  refine wpAny_newFunctionEnv_cells S.kind (fun z hz => ?_) fun env he s1 x => ?_
  · obtain ⟨n, v⟩ := z
    exact (S.par n (List.of_mem_zip hz).1).imp id fun c => ⟨c, PySem.W.cellsFrom_some _ _ _ (.inl c)⟩
  · subst he
    refine ⟨nol.keeps x.toInCall.keep, codeAny_func ?_⟩
    obtain ⟨t, ht, q2⟩ := bd A outer s H vs Q E (hr.deeper _) q
    refine wpAny_mono (ht.run [] s1 (start N vs) H _ (inv_start S hr.hd e0 (ln _ _ _ _ q) r x) q2) (fun fl s' hs => ?_) fun e s' hs => hs
    have out : ∀ {σ' : L2.St} {H' : Hp} {v : V} {u : Value}, Inv (cxOf CX P w K mg base N qual scope f cdv A outer s H E) [] σ' H' s' → RelV v u → Q v H' → CE outer P w H s Q u s' := fun J rv z => ⟨_, _, J.os, J.bare, J.base, J.hok, rv, z⟩
    cases fl with
    | ret u => obtain ⟨v, σ', H', J, rv, z⟩ := hs; exact out J rv z
    | next => obtain ⟨σ', H', J, z⟩ := hs; exact out (v := V.non) (u := Value.none) J rfl z
    | brk => obtain ⟨_, _, _, z⟩ := hs; exact z.elim
    | cont => obtain ⟨_, _, _, z⟩ := hs; exact z.elim
end
/-! ### the law's end -/
section
variable {P : Program} {w : World} {K : PySem.W.Frag} {mg mb : Str → Option Value} {CX : CXT} {k : Nat} {fa a : Addr} {fd : FuncData} {x : Str} {sp : Sp} {s1 : Shared} {vs : List Value} {ns : List Int}
/-- what the law's call ends with -/
noncomputable abbrev LawEnd (s1 : Shared) (r : Result) (s' : Shared) : Prop := r = .ok (.ret (.bool true)) ∧ OldK s1.heap s'.heap ∧ s'.os = s1.os ∧ AllBare s'.gens
theorem end_core {H : Hp} (kin : K.In s1.heap) (hns : s1.heap.Ns mainGlobals mg) (hb : s1.heap.Ns builtinsNs mb) (hbb : ∀ y : Str, y ≠ "__name__" → mb y = bootBuiltins y) (hlim : s1.heap.NoLimit) (hg : s1.gens = #[])
    (ha : s1.heap.get? a = some { cls := .type "list", data := .seq vs.toArray }) (hr : Dl.Room k callerA)
    (F : ∀ base : Heap, K.In base → base.Ns mainGlobals mg → FnOk P w K mg base CX k fa fd [x] sp) (hbind : ∀ (s : Shared) (u : Value), BindsTo s fd ⟨[u], []⟩ [(x, u)])
    (hCX : ∀ H e s', CX [] H s1 (fun _ _ _ => False) e s' → False) (hO : Only H) (hok : HOk P w H s1.heap) (hA : ∀ b, H b ≠ none → b = a) (hK : H a ≠ none → K.lookup a = none) (q0 : sp [.ref a] H (fun v _ => v = .bl true) fun _ _ _ => False) :
    codeAny (model P w) callerA (.call (.ref fa) ⟨[.ref a], []⟩) (LawEnd s1) s1 := by
  have bo : ∀ {b : Addr} {o : Obj}, s1.heap.get? b = some o → H b = none → (hidT s1.heap H).get? b = some o := fun e n => hidT_get e n
  have own : ∀ {b : Addr} {P : Prop}, (b = a → P) → (H b = none → P) → P := fun {b P} h1 h2 => by
    cases q : H b with
    | none => exact h2 q
    | some u => exact h1 (hA b (by rw [q]; simp))
  have nsK : ∀ {b : Addr} {m : Str → Option Value}, s1.heap.Ns b m → (hidT s1.heap H).Ns b m := fun {b m} ⟨o, es, ep, e, d, r⟩ => ⟨o, es, ep, bo e (own (fun z => by
    subst z
    rw [ha] at e; cases e
    have d' : Data.seq vs.toArray _ = Data.dict es ep := d
    cases d') id), d, r⟩
  have kb : K.In (hidT s1.heap H) := fun b o e => bo (kin b o e) (by
    cases q : H b with
    | none => rfl
    | some u =>
      have z : b = a := hA b (by rw [q]; simp)
      subst z
      rw [hK (by rw [q]; simp)] at e; cases e)
  have md : Mod K mg (hidT s1.heap H) := ⟨kb, nsK hns, ⟨mb, nsK hb, hbb⟩, let ⟨mc, h1, h2⟩ := hlim; ⟨mc, nsK h1, h2⟩⟩
  have e0 : Env0 P w K mg (hidT s1.heap H) callerA [] s1 H := ⟨rfl, md, fun b o e => of_hidT e, Nat.le_of_eq (hidT_size _ _), trivial, fun b hb => by simp [frs] at hb, hok, .of_eq hg⟩
  refine codeAny_mono ((F _ kb (nsK hns)).run callerA [] s1 H ⟨[.ref a], []⟩ [.ref a] [.ref a] _ _ hr e0 (hbind s1 (.ref a)) (.cons rfl .nil) q0) fun r s' h => ?_
  cases r with
  | error e => exact (hCX H e s' h).elim
  | ok fl =>
    cases fl with
    | next => exact h.elim
    | brk => exact h.elim
    | cont => exact h.elim
    | ret u =>
      obtain ⟨v, H', os, bare, un, hok', r', q⟩ := h
      obtain rfl : v = .bl true := q
      obtain rfl : u = Value.bool true := r'
      refine ⟨rfl, OldK.of_keep fun b o e => ?_, os, bare⟩
      cases q : H b with
      | none => exact un.keep b o e q (by simp [frs]) (by simp)
      | some u =>
        rcases hO b with z | ⟨ob, xs, z⟩
        · rw [q] at z; cases z
        · have z2 := un.frzs b ob _ z
          have e1 := (hok b _ z).1
          rw [e] at e1; cases e1
          exact (hok' b _ z2).1
theorem end_call (kin : K.In s1.heap) (hns : s1.heap.Ns mainGlobals mg) (hb : s1.heap.Ns builtinsNs mb) (hbb : ∀ y : Str, y ≠ "__name__" → mb y = bootBuiltins y) (hlim : s1.heap.NoLimit) (hg : s1.gens = #[])
    (ha : s1.heap.get? a = some { cls := .type "list", data := .seq vs.toArray }) (hi : IntsAre vs ns) (hl : ns.length ≤ sizeLine) (hr : Dl.Room k callerA)
    (F : ∀ base : Heap, K.In base → base.Ns mainGlobals mg → FnOk P w K mg base CX k fa fd [x] sp) (hbind : ∀ (s : Shared) (u : Value), BindsTo s fd ⟨[u], []⟩ [(x, u)])
    (hsp : ∀ H : Hp, Only H → SqL K H a (ns.map V.int) → sp [.ref a] H (fun v _ => v = .bl true) fun _ _ _ => False) (hCX : ∀ H e s', CX [] H s1 (fun _ _ _ => False) e s' → False) :
    codeAny (model P w) callerA (.call (.ref fa) ⟨[.ref a], []⟩) (LawEnd s1) s1 := by
  have rv := vals_ints hi
  have lenV := hi.length
  cases hk : K.lookup a with
  | some o =>
    have e := kin a o hk
    rw [ha] at e; cases e
    have O : Only (fun _ => none) := fun _ => .inl rfl
    exact end_core kin hns hb hbb hlim hg ha hr F hbind hCX O (fun b u z => by cases z) (fun b z => absurd rfl z) (fun z => absurd rfl z) (hsp _ O (.inr ⟨_, vs.toArray, _, hk, rfl, rfl, rfl, by rw [List.size_toArray, lenV]; exact hl, by simpa using rv⟩))
  | none =>
    have one : ∀ {b : Addr}, (fun b => if b = a then some (HO.frz { cls := .type "list", data := .seq vs.toArray } (.lst (ns.map V.int))) else none : Hp) b ≠ none → b = a := fun {b} z => by
      by_cases h : b = a
      · exact h
      · exact absurd (if_neg h) z
    have O : Only (fun b => if b = a then some (.frz { cls := .type "list", data := .seq vs.toArray } (.lst (ns.map V.int))) else none) := fun b => by
      by_cases h : b = a
      · exact .inr ⟨_, _, if_pos h⟩
      · exact .inl (if_neg h)
    refine end_core kin hns hb hbb hlim hg ha hr F hbind hCX O (fun b u z => ?_) (fun b z => one z) (fun _ => hk) (hsp _ O (.inl (.inr ⟨{ cls := .type "list", data := .seq vs.toArray }, if_pos rfl⟩)))
    have h := one (b := b) fun z2 => by cases z2.symm.trans z
    have z' := (if_pos h).symm.trans z
    cases z'
    subst h
    exact ⟨ha, by rw [List.length_map]; exact hl, vs, _, rv, ha⟩
end
theorem walk_end {l : PySem.W.OpenLaw} {n k : Nat} {q : Program} {loose : List Str} {XP : (Str → Option Value) → Heap → Prop} {YP : World → Heap → Prop} {d : DefRec} {K : Params → PySem.W.Frag} {CX : World → CXT} {sp : World → Sp} {x : Str}
    (hn : l.most = some n) (hn2 : n ≤ sizeLine) (hdf : d.params.defaults = []) (hr : Dl.Room k callerA) (hY : ∀ (w : World) (h : Heap), YP w h → (K w.params).In h)
    (F : ∀ (w : World) (mg : Str → Option Value) (fa : Addr) (h : Heap), (K w.params).In h → h.Ns mainGlobals mg → mg d.name = some (.ref fa) →
      ∃ fd : FuncData, (∀ (s : Shared) (u : Value), BindsTo s fd ⟨[u], []⟩ [(x, u)]) ∧ ∀ base : Heap, (K w.params).In base → base.Ns mainGlobals mg → FnOk l.prog w (K w.params) mg base (CX w) k fa fd [x] (sp w))
    (hsp : ∀ (w : World) (H : Hp) (a : Addr) (ns : List Int), ns.length ≤ n → (∀ z ∈ ns, Builtin.Int.intBits z ≤ 1048576) → Only H → SqL (K w.params) H a (ns.map V.int) → sp w [.ref a] H (fun v _ => v = .bl true) fun _ _ _ => False)
    (hCX : ∀ (w : World) (H : Hp) (s : Shared) (e : Value) (s' : Shared), CX w [] H s (fun _ _ _ => False) e s' → False) : PySem.W.WalkO q loose XP YP l.row.toRowW d [] (fun f vs => PySem.call f vs) := by
  refine Att.attach_callB hn hdf fun w s₀ s₁ mg mb fa o pm cd doc a vs ns G Y ho hd hcd hmg hobj hints hlen hbits hg => ?_
  obtain ⟨fd, hb, hF⟩ := F w mg fa _ (hY w _ Y) G.T.g hmg
  exact end_call (hY w _ Y) G.T.g G.T.b G.T.builtins G.T.nolimit hg hobj hints (Nat.le_trans hlen hn2) hr hF hb (fun H hO hS => hsp w H a ns hlen hbits hO hS) fun H e s' => hCX w H s₁ e s'
end Dl
end
section
set_option Elab.async false
set_option linter.all false
set_option maxRecDepth 100000
/-! the data layer: values as trees, a store of the changeable things -/
namespace Dl
open PySem PySem.Spec L2
inductive D where
  | non | bl (b : Bool) | int (i : Int) | str (x : Str) | ty (n : String) | fn (a : Addr) | gl (c : Str)
  | lst (xs : List D) | lstR (xs : List D) | tup (xs : List D)
  | ins (c : Str) (ns : List Str) (ds : List D)
  | dK (ks : List Key) (ds : List D) | dT (ks : List (List Key)) (ds : List D) | dN (ks : List NestedKey) (ds : List D)
  | obj (i : Nat)
noncomputable abbrev En := List (Option D)
noncomputable abbrev Sto := List D
/-- a tuple's own object: it has no attributes of its own -/
noncomputable def TupO (o : Obj) : Prop := o.cls = .type "tuple" ∧ o.dict = none
structure TupX (K : PySem.W.Frag) (F : Hp) (a : Addr) (xs : List V) : Prop where
  sq : SqT K F a xs
  ex : (∃ o u, F a = some (.frz o u) ∧ TupO o) ∨ ∃ o, K.lookup a = some o ∧ TupO o
theorem TupX.ext {K : PySem.W.Frag} {F F' : Hp} {a : Addr} {xs : List V} (h : TupX K F a xs) (e : Ext F F') : TupX K F' a xs := ⟨h.sq.ext e, h.ex.imp (fun ⟨o, u, h1, h2⟩ => ⟨o, u, e _ _ h1, h2⟩) id⟩
theorem TupX.of {K : PySem.W.Frag} {F : Hp} {a : Addr} {xs : List V} {o : Obj} (h : F a = some (.frz o (.tup xs))) (ho : TupO o) : TupX K F a xs := ⟨.inl (.inr ⟨o, h⟩), .inl ⟨o, _, h, ho⟩⟩
mutual
/-- a key: ints, bools, None, tuples of such; its own tuples are frozen -/
inductive NkR (K : PySem.W.Frag) (F : Hp) : V → NestedKey → Prop
  | non : NkR K F .non .none
  | int (i : Int) : NkR K F (.int i) (.num i)
  | tup {a : Addr} {xs : List V} {ks : List NestedKey} (h : TupX K F a xs) (r : NkA K F xs ks) : NkR K F (.ref a) (.tup ks)
inductive NkA (K : PySem.W.Frag) (F : Hp) : List V → List NestedKey → Prop
  | nil : NkA K F [] []
  | cons {v : V} {k : NestedKey} {vs : List V} {ks : List NestedKey} (h : NkR K F v k) (t : NkA K F vs ks) : NkA K F (v :: vs) (k :: ks)
end
mutual
theorem NkR.ext {K : PySem.W.Frag} {F F' : Hp} (e : Ext F F') : ∀ {v : V} {k : NestedKey}, NkR K F v k → NkR K F' v k
  | _, _, .non => .non
  | _, _, .int i => .int i
  | _, _, .tup h r => .tup (h.ext e) (NkA.ext e r)
theorem NkA.ext {K : PySem.W.Frag} {F F' : Hp} (e : Ext F F') : ∀ {vs : List V} {ks : List NestedKey}, NkA K F vs ks → NkA K F' vs ks
  | _, _, .nil => .nil
  | _, _, .cons h t => .cons (NkR.ext e h) (NkA.ext e t)
end
/-- the dict at a with these entries (the keys' own tuples stand elsewhere) -/
noncomputable def RawE (w : World) (a : Addr) (o : Obj) (xs : List (NestedKey × Addr × Value)) : HO := .ext fun h => (a == sysModules) = false ∧ h.get? a = some o ∧ ∃ es ep, o.ExactDict ∧ o.data = .dict es ep ∧ es.toList = xs.map (fun x => (⟨x.1.hash w, .ref x.2.1, x.2.2⟩ : DictEntry)) ∧ (xs.map (·.1)).Nodup
structure DnO (K : PySem.W.Frag) (F H : Hp) (a : Addr) (ks : List NestedKey) (vs : List V) : Prop where
  dp : ∀ k ∈ ks, k.depth ≤ 8
  ex : ∃ (w : World) (o : Obj) (xs : List (NestedKey × Addr × Value)), H a = some (RawE w a o xs) ∧ xs.map (·.1) = ks ∧ (∀ x ∈ xs, NkR K F (.ref x.2.1) x.1) ∧ Vals vs (xs.map (·.2.2))
theorem DnO.mono {K : PySem.W.Frag} {F F' H H' : Hp} {a : Addr} {ks : List NestedKey} {vs : List V} (h : DnO K F H a ks vs) (x : Ext F F') (e : ∀ o, H a = some o → H' a = some o) : DnO K F' H' a ks vs :=
  let ⟨w, o, xs, h1, h2, h3, h4⟩ := h.ex
  ⟨h.dp, w, o, xs, e _ h1, h2, fun y hy => (h3 y hy).ext x, h4⟩
mutual
inductive Rep (K : PySem.W.Frag) (mg : Str → Option Value) (as : List Addr) (F : Hp) : V → D → Prop
  | non : Rep K mg as F .non .non
  | bl (b : Bool) : Rep K mg as F (.bl b) (.bl b)
  | int (i : Int) : Rep K mg as F (.int i) (.int i)
  | str (x : Str) : Rep K mg as F (.str x) (.str x)
  | ty (n : String) : Rep K mg as F (.ty n) (.ty n)
  | fn (a : Addr) : Rep K mg as F (.ref a) (.fn a)
  | gl {a : Addr} {c : Str} (h : mg c = some (.ref a)) : Rep K mg as F (.ref a) (.gl c)
  | obj {i : Nat} {a : Addr} (h : as[i]? = some a) : Rep K mg as F (.ref a) (.obj i)
  | lst {a : Addr} {xs : List V} {ds : List D} (h : F a = some (.lst xs)) (r : Reps K mg as F xs ds) : Rep K mg as F (.ref a) (.lst ds)
  | lstR {a : Addr} {xs : List V} {ds : List D} (h : SqL K F a xs) (r : Reps K mg as F xs ds) : Rep K mg as F (.ref a) (.lstR ds)
  | tup {a : Addr} {xs : List V} {ds : List D} (h : TupX K F a xs) (r : Reps K mg as F xs ds) : Rep K mg as F (.ref a) (.tup ds)
  | ins {a C dx : Addr} {c : Str} {fs : List (Str × V)} {ds : List D} (hc : mg c = some (.ref C)) (h : F a = some (.ins C dx fs)) (r : Reps K mg as F (fs.map (·.2)) ds) : Rep K mg as F (.ref a) (.ins c (fs.map (·.1)) ds)
  | dK {a : Addr} {kvs : List (Key × V)} {ds : List D} (h : F a = some (.dK kvs)) (r : Reps K mg as F (kvs.map (·.2)) ds) : Rep K mg as F (.ref a) (.dK (kvs.map (·.1)) ds)
  | dT {a : Addr} {kvs : List (List Key × V)} {ds : List D} (h : F a = some (.dT kvs)) (r : Reps K mg as F (kvs.map (·.2)) ds) : Rep K mg as F (.ref a) (.dT (kvs.map (·.1)) ds)
  | dN {a : Addr} {ks : List NestedKey} {vs : List V} {ds : List D} (h : DnO K F F a ks vs) (r : Reps K mg as F vs ds) : Rep K mg as F (.ref a) (.dN ks ds)
inductive Reps (K : PySem.W.Frag) (mg : Str → Option Value) (as : List Addr) (F : Hp) : List V → List D → Prop
  | nil : Reps K mg as F [] []
  | cons {v : V} {d : D} {vs : List V} {ds : List D} (h : Rep K mg as F v d) (t : Reps K mg as F vs ds) : Reps K mg as F (v :: vs) (d :: ds)
end
/-- the tracked list and the frozen heap have grown -/
structure Xt (as : List Addr) (F : Hp) (as' : List Addr) (F' : Hp) : Prop where
  pre : ∀ (i : Nat) (a : Addr), as[i]? = some a → as'[i]? = some a
  sub : Ext F F'
theorem Xt.rfl' {as : List Addr} {F : Hp} : Xt as F as F := ⟨fun _ _ h => h, Ext.rfl'⟩
theorem Xt.trans {as as1 as2 : List Addr} {F F1 F2 : Hp} (a : Xt as F as1 F1) (b : Xt as1 F1 as2 F2) : Xt as F as2 F2 := ⟨fun i x h => b.pre i x (a.pre i x h), a.sub.trans b.sub⟩
section
variable {K : PySem.W.Frag} {mg : Str → Option Value} {as as' : List Addr} {F F' : Hp}
mutual
theorem Rep.mono (x : Xt as F as' F') : ∀ {v : V} {d : D}, Rep K mg as F v d → Rep K mg as' F' v d
  | _, _, .non => .non
  | _, _, .bl b => .bl b
  | _, _, .int i => .int i
  | _, _, .str i => .str i
  | _, _, .ty i => .ty i
  | _, _, .fn i => .fn i
  | _, _, .gl h => .gl h
  | _, _, .obj h => .obj (x.pre _ _ h)
  | _, _, .lst h r => .lst (x.sub _ _ h) (Reps.mono x r)
  | _, _, .lstR h r => .lstR (h.ext x.sub) (Reps.mono x r)
  | _, _, .tup h r => .tup (h.ext x.sub) (Reps.mono x r)
  | _, _, .ins c h r => .ins c (x.sub _ _ h) (Reps.mono x r)
  | _, _, .dK h r => .dK (x.sub _ _ h) (Reps.mono x r)
  | _, _, .dT h r => .dT (x.sub _ _ h) (Reps.mono x r)
  | _, _, .dN h r => .dN (h.mono x.sub fun o e => x.sub _ _ e) (Reps.mono x r)
theorem Reps.mono (x : Xt as F as' F') : ∀ {vs : List V} {ds : List D}, Reps K mg as F vs ds → Reps K mg as' F' vs ds
  | _, _, .nil => .nil
  | _, _, .cons h t => .cons (Rep.mono x h) (Reps.mono x t)
end
theorem Reps.length : ∀ {vs : List V} {ds : List D}, Reps K mg as F vs ds → vs.length = ds.length
  | _, _, .nil => rfl
  | _, _, .cons _ t => by simp [Reps.length t]
theorem Reps.append : ∀ {vs ws : List V} {ds es : List D}, Reps K mg as F vs ds → Reps K mg as F ws es → Reps K mg as F (vs ++ ws) (ds ++ es)
  | _, _, _, _, .nil, s => s
  | _, _, _, _, .cons h t, s => .cons h (Reps.append t s)
theorem Reps.get : ∀ {vs : List V} {ds : List D} {i : Nat} {d : D}, Reps K mg as F vs ds → ds[i]? = some d → ∃ v, vs[i]? = some v ∧ Rep K mg as F v d
  | _, _, i, _, .nil, e => by simp at e
  | _, _, 0, _, .cons h _, e => by simp at e; subst e; exact ⟨_, rfl, h⟩
  | _, _, i + 1, d, .cons _ t, e => by
    obtain ⟨u, h1, h2⟩ := Reps.get (i := i) (d := d) t (by simpa using e)
    exact ⟨u, by simpa using h1, h2⟩
theorem Reps.getV : ∀ {vs : List V} {ds : List D} {i : Nat} {v : V}, Reps K mg as F vs ds → vs[i]? = some v → ∃ d, ds[i]? = some d ∧ Rep K mg as F v d
  | _, _, i, _, .nil, e => by simp at e
  | _, _, 0, _, .cons h _, e => by simp at e; subst e; exact ⟨_, rfl, h⟩
  | _, _, i + 1, d, .cons _ t, e => by
    obtain ⟨u, h1, h2⟩ := Reps.getV (i := i) (v := d) t (by simpa using e)
    exact ⟨u, by simpa using h1, h2⟩
theorem Reps.take : ∀ {vs : List V} {ds : List D} (n : Nat), Reps K mg as F vs ds → Reps K mg as F (vs.take n) (ds.take n)
  | _, _, 0, _ => .nil
  | _, _, _ + 1, .nil => .nil
  | _, _, n + 1, .cons r t => .cons r (Reps.take n t)
theorem Reps.drop : ∀ {vs : List V} {ds : List D} (n : Nat), Reps K mg as F vs ds → Reps K mg as F (vs.drop n) (ds.drop n)
  | _, _, 0, r => r
  | _, _, _ + 1, .nil => .nil
  | _, _, n + 1, .cons _ t => Reps.drop n t
theorem Reps.set {v : V} {d : D} (r : Rep K mg as F v d) : ∀ {vs : List V} {ds : List D} (i : Nat), Reps K mg as F vs ds → Reps K mg as F (vs.set i v) (ds.set i d)
  | _, _, _, .nil => .nil
  | _, _, 0, .cons _ t => .cons r t
  | _, _, i + 1, .cons q t => .cons q (Reps.set r i t)
theorem Reps.ints : ∀ (ns : List Int), Reps K mg as F (ns.map V.int) (ns.map D.int)
  | [] => .nil
  | n :: ns => .cons (.int n) (Reps.ints ns)
theorem Reps.strs : ∀ (ns : List Str), Reps K mg as F (ns.map V.str) (ns.map D.str)
  | [] => .nil
  | n :: ns => .cons (.str n) (Reps.strs ns)
theorem Reps.of_ints : ∀ {vs : List V} {ns : List Int}, Reps K mg as F vs (ns.map D.int) → vs = ns.map V.int
  | _, [], .nil => rfl
  | _, n :: ns, .cons h t => by cases h; rw [Reps.of_ints t]; rfl
theorem Reps.of_bls : ∀ {vs : List V} {ns : List Bool}, Reps K mg as F vs (ns.map D.bl) → vs = ns.map V.bl
  | _, [], .nil => rfl
  | _, n :: ns, .cons h t => by cases h; rw [Reps.of_bls t]; rfl
end
theorem nodup_ixA {N : List Addr} (hN : N.Nodup) {i j : Nat} {x : Addr} (a : N[i]? = some x) (b : N[j]? = some x) : i = j := by
  obtain ⟨h1, e1⟩ := List.getElem?_eq_some_iff.mp a
  obtain ⟨h2, e2⟩ := List.getElem?_eq_some_iff.mp b
  exact (List.getElem_inj hN).mp (e1.trans e2.symm)
/-- what a tracked thing holds -/
inductive Own (K : PySem.W.Frag) (mg : Str → Option Value) (as : List Addr) (F H : Hp) (a : Addr) : D → Prop
  | lst {xs : List V} {ds : List D} (h : H a = some (.lst xs)) (r : Reps K mg as F xs ds) : Own K mg as F H a (.lst ds)
  | ins {C dx : Addr} {c : Str} {fs : List (Str × V)} {ds : List D} (hc : mg c = some (.ref C)) (h : H a = some (.ins C dx fs)) (r : Reps K mg as F (fs.map (·.2)) ds) : Own K mg as F H a (.ins c (fs.map (·.1)) ds)
  | dK {kvs : List (Key × V)} {ds : List D} (h : H a = some (.dK kvs)) (r : Reps K mg as F (kvs.map (·.2)) ds) : Own K mg as F H a (.dK (kvs.map (·.1)) ds)
  | dT {kvs : List (List Key × V)} {ds : List D} (h : H a = some (.dT kvs)) (r : Reps K mg as F (kvs.map (·.2)) ds) : Own K mg as F H a (.dT (kvs.map (·.1)) ds)
  | dN {ks : List NestedKey} {vs : List V} {ds : List D} (h : DnO K F H a ks vs) (r : Reps K mg as F vs ds) : Own K mg as F H a (.dN ks ds)
structure Frm (K : PySem.W.Frag) (mg : Str → Option Value) (as : List Addr) (F : Hp) (st : Sto) (H : Hp) : Prop where
  sub : Ext F H
  len : as.length = st.length
  nod : as.Nodup
  own : ∀ (i : Nat) (a : Addr) (d : D), as[i]? = some a → st[i]? = some d → F a = none ∧ Own K mg as F H a d
section
variable {K : PySem.W.Frag} {mg : Str → Option Value} {as as' : List Addr} {F F' H H' : Hp} {st : Sto} {a p : Addr} {o : HO} {d : D}
theorem Own.there (w : Own K mg as F H a d) : ∃ o, H a = some o := by
  cases w with
  | lst h r => exact ⟨_, h⟩
  | ins c h r => exact ⟨_, h⟩
  | dK h r => exact ⟨_, h⟩
  | dT h r => exact ⟨_, h⟩
  | dN h r => obtain ⟨w, o, xs, h1, _⟩ := h.ex; exact ⟨_, h1⟩
theorem Own.mono (w : Own K mg as F H a d) (x : Xt as F as' F') (e : H' a = H a) : Own K mg as' F' H' a d := by
  cases w with
  | lst h r => exact .lst (e.trans h) (r.mono x)
  | ins c h r => exact .ins c (e.trans h) (r.mono x)
  | dK h r => exact .dK (e.trans h) (r.mono x)
  | dT h r => exact .dT (e.trans h) (r.mono x)
  | dN h r => exact .dN (h.mono x.sub fun o q => e.trans q) (r.mono x)
theorem Frm.has (f : Frm K mg as F st H) {i : Nat} (e : as[i]? = some a) : ∃ d, st[i]? = some d ∧ F a = none ∧ Own K mg as F H a d := by
  have h1 : i < as.length := (List.getElem?_eq_some_iff.mp e).1
  have h2 : i < st.length := by rw [← f.len]; exact h1
  exact ⟨st[i], List.getElem?_eq_getElem h2, f.own i a _ e (List.getElem?_eq_getElem h2)⟩
theorem Frm.adr (f : Frm K mg as F st H) {i : Nat} (e : st[i]? = some d) : ∃ a, as[i]? = some a ∧ F a = none ∧ Own K mg as F H a d := by
  have h1 : i < st.length := (List.getElem?_eq_some_iff.mp e).1
  have h2 : i < as.length := by rw [f.len]; exact h1
  exact ⟨as[i], List.getElem?_eq_getElem h2, f.own i _ d (List.getElem?_eq_getElem h2) e⟩
theorem Frm.fresh (f : Frm K mg as F st H) (hp : H p = none) : F p = none ∧ ∀ (i : Nat), as[i]? ≠ some p := by
  refine ⟨?_, fun i e => ?_⟩
  · cases q : F p with
    | none => rfl
    | some u => have := f.sub _ _ q; rw [hp] at this; cases this
  · obtain ⟨d, _, _, w⟩ := f.has e
    obtain ⟨o, h⟩ := w.there
    rw [hp] at h; cases h
/-- something new, untracked and unfrozen -/
theorem Frm.grow (f : Frm K mg as F st H) (hp : H p = none) : Frm K mg as F st (upd H p o) := by
  obtain ⟨h1, h2⟩ := f.fresh hp
  refine ⟨f.sub.trans (Ext.upd hp), f.len, f.nod, fun i a d e e' => ?_⟩
  obtain ⟨n, w⟩ := f.own i a d e e'
  exact ⟨n, w.mono Xt.rfl' (upd_ne fun z => h2 i (z ▸ e))⟩
/-- something new, frozen -/
theorem Frm.newF (f : Frm K mg as F st H) (hp : H p = none) : Frm K mg as (upd F p o) st (upd H p o) ∧ Xt as F as (upd F p o) := by
  obtain ⟨h1, h2⟩ := f.fresh hp
  have x : Xt as F as (upd F p o) := ⟨fun _ _ h => h, Ext.upd h1⟩
  refine ⟨⟨fun b u e => ?_, f.len, f.nod, fun i a d e e' => ?_⟩, x⟩
  · by_cases hb : b = p
    · subst hb; rw [upd_same] at e ⊢; exact e
    · rw [upd_ne hb] at e ⊢; exact f.sub _ _ e
  · obtain ⟨n, w⟩ := f.own i a d e e'
    have ne : a ≠ p := fun z => h2 i (z ▸ e)
    exact ⟨by rw [upd_ne ne]; exact n, w.mono x (upd_ne ne)⟩
/-- something new, tracked -/
theorem Frm.newO (f : Frm K mg as F st H) (hp : H p = none) (w : Own K mg as F (upd H p o) p d) : Frm K mg (as ++ [p]) F (st ++ [d]) (upd H p o) ∧ Xt as F (as ++ [p]) F := by
  obtain ⟨h1, h2⟩ := f.fresh hp
  have x : Xt as F (as ++ [p]) F := ⟨fun i a h => by
    have := (List.getElem?_eq_some_iff.mp h).1
    rw [List.getElem?_append_left this]; exact h, Ext.rfl'⟩
  refine ⟨⟨f.sub.trans (Ext.upd hp), by simp [f.len], ?_, fun i a d' e e' => ?_⟩, x⟩
  · refine List.nodup_append.mpr ⟨f.nod, by simp, fun b hb c hc => ?_⟩
    have e : c = p := by simpa using hc
    subst e
    obtain ⟨i, hi, e⟩ := List.mem_iff_getElem.mp hb
    intro z
    subst z
    exact h2 i (by rw [List.getElem?_eq_getElem hi, e])
  · by_cases hi : i < as.length
    · rw [List.getElem?_append_left hi] at e
      rw [List.getElem?_append_left (by rw [← f.len]; exact hi)] at e'
      obtain ⟨n, w'⟩ := f.own i a d' e e'
      exact ⟨n, w'.mono x (upd_ne fun z => h2 i (z ▸ e))⟩
    · have hl : i = as.length := by
        have := (List.getElem?_eq_some_iff.mp e).1
        simp at this
        omega
      subst hl
      have e1 : a = p := by simpa using e.symm
      subst e1
      rw [f.len] at e'
      have e2 : d' = d := by simpa using e'.symm
      subst e2
      exact ⟨h1, w.mono x rfl⟩
/-- a tracked thing changed -/
theorem Frm.setO (f : Frm K mg as F st H) {i : Nat} (ha : as[i]? = some a) (w : Own K mg as F (upd H a o) a d) : Frm K mg as F (st.set i d) (upd H a o) := by
  obtain ⟨d0, hd0, n0, w0⟩ := f.has ha
  have hi : i < st.length := (List.getElem?_eq_some_iff.mp hd0).1
  refine ⟨fun b u e => ?_, by simp [f.len], f.nod, fun j b d' e e' => ?_⟩
  · have ne : b ≠ a := fun z => by subst z; rw [n0] at e; cases e
    rw [upd_ne ne]; exact f.sub _ _ e
  · by_cases hj : j = i
    · subst hj
      rw [ha] at e; cases e
      rw [List.getElem?_set_self hi] at e'
      cases e'
      exact ⟨n0, w⟩
    · rw [List.getElem?_set_ne (Ne.symm hj)] at e'
      obtain ⟨n, w'⟩ := f.own j b d' e e'
      refine ⟨n, w'.mono Xt.rfl' (upd_ne fun z => ?_)⟩
      subst z
      exact hj (nodup_ixA f.nod e ha)
end
/-- what is neither frozen nor tracked is left alone -/
noncomputable def Kp (as : List Addr) (F H : Hp) (as' : List Addr) (F' H' : Hp) : Prop := ∀ b o, H b = some o → F b = none → b ∉ as → H' b = some o ∧ F' b = none ∧ b ∉ as'
/-- a step -/
structure Go (K : PySem.W.Frag) (mg : Str → Option Value) (as : List Addr) (F H : Hp) (as' : List Addr) (F' : Hp) (st' : Sto) (H' : Hp) : Prop where
  xt : Xt as F as' F'
  kp : Kp as F H as' F' H'
  frm : Frm K mg as' F' st' H'
section
variable {K : PySem.W.Frag} {mg : Str → Option Value} {as as1 as2 : List Addr} {F F1 F2 H H1 H2 : Hp} {st st1 st2 : Sto} {a p : Addr} {o : HO} {d : D}
theorem Kp.trans (x : Kp as F H as1 F1 H1) (y : Kp as1 F1 H1 as2 F2 H2) : Kp as F H as2 F2 H2 := fun b o h1 h2 h3 =>
  let ⟨e1, e2, e3⟩ := x b o h1 h2 h3
  y b o e1 e2 e3
theorem Go.rfl (f : Frm K mg as F st H) : Go K mg as F H as F st H := ⟨Xt.rfl', fun _ _ h1 h2 h3 => ⟨h1, h2, h3⟩, f⟩
theorem Go.trans (x : Go K mg as F H as1 F1 st1 H1) (y : Go K mg as1 F1 H1 as2 F2 st2 H2) : Go K mg as F H as2 F2 st2 H2 := ⟨x.xt.trans y.xt, x.kp.trans y.kp, y.frm⟩
theorem Go.grow (f : Frm K mg as F st H) (hp : H p = none) : Go K mg as F H as F st (upd H p o) :=
  ⟨Xt.rfl', fun b u h1 h2 h3 => ⟨by rw [upd_ne (ne_of_none h1 hp)]; exact h1, h2, h3⟩, f.grow hp⟩
theorem Go.newF (f : Frm K mg as F st H) (hp : H p = none) : Go K mg as F H as (upd F p o) st (upd H p o) :=
  ⟨(f.newF hp).2, fun b u h1 h2 h3 => ⟨by rw [upd_ne (ne_of_none h1 hp)]; exact h1, by rw [upd_ne (ne_of_none h1 hp)]; exact h2, h3⟩, (f.newF hp).1⟩
theorem Go.newO (f : Frm K mg as F st H) (hp : H p = none) (w : Own K mg as F (upd H p o) p d) : Go K mg as F H (as ++ [p]) F (st ++ [d]) (upd H p o) :=
  ⟨(f.newO hp w).2, fun b u h1 h2 h3 => ⟨by rw [upd_ne (ne_of_none h1 hp)]; exact h1, h2, fun z => by
    rcases List.mem_append.mp z with z | z
    · exact h3 z
    · exact ne_of_none h1 hp (by simpa using z)⟩, (f.newO hp w).1⟩
theorem Go.setO (f : Frm K mg as F st H) {i : Nat} (ha : as[i]? = some a) (w : Own K mg as F (upd H a o) a d) : Go K mg as F H as F (st.set i d) (upd H a o) :=
  ⟨Xt.rfl', fun b u h1 h2 h3 => ⟨by rw [upd_ne (fun (z : b = a) => h3 (by rw [z]; exact List.mem_of_getElem? ha))]; exact h1, h2, h3⟩, f.setO ha w⟩
end
/-- the slots hold the environment -/
structure ER (K : PySem.W.Frag) (mg : Str → Option Value) (as : List Addr) (F : Hp) (σ : St) (env : En) : Prop where
  len : σ.length = env.length
  at_ : ∀ (i : Nat) (d : D), env[i]? = some (some d) → ∃ v, σ[i]? = some (some v) ∧ Rep K mg as F v d
section
variable {K : PySem.W.Frag} {mg : Str → Option Value} {as as' : List Addr} {F F' : Hp} {σ : St} {env : En}
theorem ER.mono (h : ER K mg as F σ env) (x : Xt as F as' F') : ER K mg as' F' σ env := ⟨h.len, fun i d e => let ⟨v, h1, h2⟩ := h.at_ i d e; ⟨v, h1, h2.mono x⟩⟩
theorem ER.set (h : ER K mg as F σ env) {i : Nat} {v : V} {d : D} (r : Rep K mg as F v d) : ER K mg as F (σ.set i (some v)) (env.set i (some d)) := by
  refine ⟨by simp [h.len], fun j d' e => ?_⟩
  by_cases hj : j = i
  · subst hj
    by_cases hl : j < env.length
    · rw [List.getElem?_set_self hl] at e
      cases e
      exact ⟨v, by rw [List.getElem?_set_self (by rw [h.len]; exact hl)], r⟩
    · rw [List.getElem?_eq_none (by simp; omega)] at e
      cases e
  · rw [List.getElem?_set_ne (Ne.symm hj)] at e
    obtain ⟨w, h1, h2⟩ := h.at_ j d' e
    exact ⟨w, by rw [List.getElem?_set_ne (Ne.symm hj)]; exact h1, h2⟩
end
inductive R (α : Type) where
  | ok (a : α) (st : Sto)
  | ex (c : Str) (ns : List Str) (ds : List D) (st : Sto)
noncomputable abbrev FX (α : Type) := En → Sto → Option (R α)
noncomputable abbrev FE := FX D
noncomputable abbrev FA := FX (List D)
noncomputable abbrev FT := FX Bool
noncomputable abbrev Rl (β α : Type) := List Addr → Hp → β → α → Prop
noncomputable abbrev rB : Rl Bool Bool := fun _ _ b c => b = c
noncomputable def XD (H : Hp) (od : Option Addr) (ns : List Str) (vs : List V) : Prop := (ns = [] ∧ od = none) ∨ ∃ dd, od = some dd ∧ H dd = some (.xd (ns.zip vs))
noncomputable def PostR (K : PySem.W.Frag) (mg : Str → Option Value) {β α : Type} (rel : Rl β α) (W : WX) (as : List Addr) (F H : Hp) (σ : St) (Q : β → Hp → Prop) : R α → Prop
  | .ok d st => ∀ as' F' H' v, Go K mg as F H as' F' st H' → rel as' F' v d → Q v H'
  | .ex c ns ds st => ∀ as' F' H' C od vs, Go K mg as F H as' F' st H' → mg c = some (.ref C) → XD H' od ns vs → Reps K mg as' F' vs ds → W (.ref C) od σ H'
structure AtR (K : PySem.W.Frag) (mg : Str → Option Value) {β α : Type} (rel : Rl β α) (W : WX) (f : FX α) (as : List Addr) (F : Hp) (env : En) (st : Sto) (σ : St) (H : Hp) (Q : β → Hp → Prop) : Prop where
  frm : Frm K mg as F st H
  er : ER K mg as F σ env
  run : ∃ r, f env st = some r ∧ PostR K mg rel W as F H σ Q r
noncomputable def tR (K : PySem.W.Frag) (mg : Str → Option Value) {β α : Type} (rel : Rl β α) (W : WX) (f : FX α) : St → Hp → (β → Hp → Prop) → Prop := fun σ H Q => ∃ as F env st, AtR K mg rel W f as F env st σ H Q
noncomputable abbrev tD (K : PySem.W.Frag) (mg : Str → Option Value) (W : WX) (f : FE) : TE := tR K mg (Rep K mg) W f
noncomputable abbrev tDA (K : PySem.W.Frag) (mg : Str → Option Value) (W : WX) (f : FA) : TA := tR K mg (Reps K mg) W f
noncomputable abbrev tDT (K : PySem.W.Frag) (mg : Str → Option Value) (W : WX) (f : FT) : TT := tR K mg rB W f
noncomputable def DE (X : Cx) (W : WX) (e : Expr) (f : FE) : Prop := PE X e (tD X.K X.mg W f)
noncomputable def DT (X : Cx) (W : WX) (e : Expr) (f : FT) : Prop := PT X e (tDT X.K X.mg W f)
noncomputable def DA (X : Cx) (W : WX) (es : List Expr) (f : FA) : Prop := PA X es (tDA X.K X.mg W f)
theorem pe_imp {X : Cx} {e : Expr} {t t' : TE} (h : PE X e t) (i : ∀ σ H Q, t' σ H Q → t σ H Q) : PE X e t' := ⟨fun pins s σ H Q I w => h.run pins s σ H Q I (i σ H Q w)⟩
theorem pt_imp {X : Cx} {e : Expr} {t t' : TT} (h : PT X e t) (i : ∀ σ H Q, t' σ H Q → t σ H Q) : PT X e t' := ⟨fun pins s σ H Q I w => h.run pins s σ H Q I (i σ H Q w)⟩
theorem pa_imp {X : Cx} {e : List Expr} {t t' : TA} (h : PA X e t) (i : ∀ σ H Q, t' σ H Q → t σ H Q) : PA X e t' := ⟨fun pos pins s σ H Q I w => h.run pos pins s σ H Q I (i σ H Q w)⟩
noncomputable def fC (d : D) : FE := fun _ st => some (.ok d st)
noncomputable def fVar (i : Nat) : FE := fun env st => match env[i]? with | some (some d) => some (.ok d st) | _ => none
noncomputable def fBind {α γ : Type} (fa : FX α) (k : α → FX γ) : FX γ := fun env st => match fa env st with
  | some (.ok d st') => k d env st'
  | some (.ex c ns ds st') => some (.ex c ns ds st')
  | none => none
/-- what the store tells -/
noncomputable def fP {α : Type} (o : Sto → Option α) : FX α := fun _ st => match o st with | some d => some (.ok d st) | none => none
section
variable {K : PySem.W.Frag} {mg : Str → Option Value} {β α β' γ : Type} {rel : Rl β α} {rel' : Rl β' γ} {W : WX} {fa : FX α} {k : α → FX γ} {as : List Addr} {F : Hp} {env : En} {st : Sto} {σ : St} {H : Hp} {Q : β → Hp → Prop} {Q' : β' → Hp → Prop}
theorem PostR.mono {as1 : List Addr} {F1 H1 : Hp} {st1 : Sto} {r : R α} (p : PostR K mg rel W as F H σ Q r) (x : Go K mg as F H as1 F1 st1 H1) : PostR K mg rel W as1 F1 H1 σ Q r := by
  cases r with
  | ok d st => exact fun as' F' H' v y => p as' F' H' v (x.trans y)
  | ex c ns ds st => exact fun as' F' H' C od vs y => p as' F' H' C od vs (x.trans y)
theorem AtR.bind (h : AtR K mg rel' W (fBind fa k) as F env st σ H Q') {R : β → Hp → Prop}
    (hk : ∀ as1 F1 st1 d v H1, fa env st = some (.ok d st1) → Xt as F as1 F1 → rel as1 F1 v d → AtR K mg rel' W (k d) as1 F1 env st1 σ H1 Q' → R v H1) : tR K mg rel W fa σ H R := by
  obtain ⟨fr, er, r, e, p⟩ := h
  unfold fBind at e
  refine ⟨as, F, env, st, fr, er, ?_⟩
  cases q : fa env st with
  | none => rw [q] at e; cases e
  | some z =>
    rw [q] at e
    refine ⟨z, rfl, ?_⟩
    cases z with
    | ok d st1 => exact fun as1 F1 H1 v x rp => hk as1 F1 st1 d v H1 q x.xt rp ⟨x.frm, er.mono x.xt, r, e, p.mono x⟩
    | ex c ns ds st1 => cases e; exact p
theorem AtR.fin {r : R α} {f : FX α} (h : AtR K mg rel W f as F env st σ H Q) (e : f env st = some r) : PostR K mg rel W as F H σ Q r := by
  obtain ⟨_, _, r', e', p⟩ := h
  rw [e] at e'; cases e'; exact p
theorem AtR.ok {d : α} {v : β} {f : FX α} (h : AtR K mg rel W f as F env st σ H Q) (e : f env st = some (.ok d st)) (r : rel as F v d) : Q v H := h.fin e as F H v (Go.rfl h.frm) r
theorem AtR.pure {o : Sto → Option α} (h : AtR K mg rel W (fP o) as F env st σ H Q) : ∃ d, o st = some d ∧ ∀ as' F' H' v, Go K mg as F H as' F' st H' → rel as' F' v d → Q v H' := by
  cases e : o st with
  | none =>
    obtain ⟨_, _, r, e', _⟩ := h
    simp only [fP, e] at e'
    cases e'
  | some d => exact ⟨d, rfl, h.fin (r := .ok d st) (by simp only [fP, e])⟩
end
end Dl
end
section
set_option Elab.async false
set_option linter.all false
set_option maxRecDepth 100000
set_option autoImplicit false
/-! tuples with their own objects -/
namespace Dl
open PySem PySem.Spec L2 PyProof.Rows
section
variable {X : Cx} {es : List Expr} {x1 : Nat} {pos : Pos} {t : TA}
theorem tupO (its : Array Value) : TupO { cls := .type "tuple", data := .seq its } := ⟨rfl, rfl⟩
theorem lay_tup {pins : List (Addr × Obj)} {σ : L2.St} {H : Hp} {s : Shared} {xs : List V} {us : List Value} (I : L2.Inv X pins σ H s) (r : Vals xs us) (hz : xs.length ≤ sizeLine) :
    L2.Inv X pins σ (upd H s.heap.objs.size (.frz { cls := .type "tuple", data := .seq us.toArray } (.tup xs))) { s with heap := s.heap.push { cls := .type "tuple", data := .seq us.toArray } } :=
  I.laid (t' := s.toks) (fun b u e => Heap.get?_push_of_some _ e) (Nat.le_refl _) ⟨Heap.get?_push_size _ rfl, hz, us, r, IsTup.new _ _⟩
noncomputable def tTupX (t : TA) : TE := fun σ H Q => t σ H fun xs H1 => xs.length ≤ sizeLine ∧ ∀ p o, H1 p = none → TupO o → Q (.ref p) (upd H1 p (.frz o (.tup xs)))
theorem pe_tupX (h : PA X es t) : PE X (.Tuple es x1 pos) (tTupX t) := by
  refine ⟨fun pins s σ H Q I hq => ?_⟩
  refine wpAny_Tuple_spliced (thn (h.run pos pins s σ H _ I hq) fun us s1 ⟨xs, H1, I1, r, z, q⟩ => ⟨by rw [← r.length]; exact z, ?_⟩)
  exact ⟨.ref s1.heap.objs.size, _, lay_tup I1 r z, rfl, q _ _ (I1.hok.fresh (Nat.le_refl _)) (tupO _)⟩
noncomputable def rCatX (K : PySem.W.Frag) : R2 := fun x y H Q => ∃ a b xs ys, x = .ref a ∧ y = .ref b ∧ SqT K H a xs ∧ SqT K H b ys ∧ xs.length + ys.length ≤ sizeLine ∧
  (xs = [] → Q (.ref b) H) ∧ (xs ≠ [] → ys = [] → Q (.ref a) H) ∧ (xs ≠ [] → ys ≠ [] → ∀ p o, H p = none → TupO o → Q (.ref p) (upd H p (.frz o (.tup (xs ++ ys)))))
theorem op_catX : OpR X (binaryOp .Add) (rCatX X.K) := by
  intro pins s σ H x y v u Q I rx ry h
  obtain ⟨a, b, xs, ys, rfl, rfl, ha, hb, hz, q0, q1, q2⟩ := h
  cases rx
  cases ry
  obtain ⟨its, r1, p1, _⟩ := I.tuple ha
  obtain ⟨its2, r2, p2, _⟩ := I.tuple hb
  by_cases hx : xs = []
  · subst hx
    cases r1
    exact cat_tup0 p1 p2 ⟨.ref b, H, I, rfl, q0 rfl⟩
  · refine HT.cat_tup p1 p2 (fun z => hx (r1.nil_iff.mp z)) (fun z => ⟨.ref a, H, I, rfl, q1 hx (r2.nil_iff.mp z)⟩) (fun z => ?_) (by rw [← r1.length, ← r2.length]; exact hz)
    exact ⟨.ref s.heap.objs.size, _, lay_tup I (r1.append r2) (by rw [List.length_append]; exact hz), rfl, q2 hx (fun w => z (r2.nil_iff.mpr w)) _ _ (I.hok.fresh (Nat.le_refl _)) (tupO _)⟩
noncomputable def rSlX (K : PySem.W.Frag) : V → Option Int → Option Int → Hp → VK → Prop := fun x lo hi H Q => ∃ a xs, x = .ref a ∧ SqT K H a xs ∧
  (HT.sIx xs.length 0 lo = 0 ∧ HT.sIx xs.length xs.length hi = xs.length → Q (.ref a) H) ∧ (¬ (HT.sIx xs.length 0 lo = 0 ∧ HT.sIx xs.length xs.length hi = xs.length) → ∀ p o, H p = none → TupO o → Q (.ref p) (upd H p (.frz o (.tup (cutV xs lo hi)))))
theorem sl_tupX : SlR X (rSlX X.K) := by
  intro pins s σ H x v vl vu lo hi sl Q I rx hs pl pu h
  obtain ⟨a, xs, rfl, hx, q1, q2⟩ := h
  cases rx
  obtain ⟨its, r, ht, hz⟩ := I.tuple hx
  have hlen : its.toArray.size = xs.length := by rw [List.size_toArray]; exact r.length.symm
  refine ⟨"tuple", _, PyProof.Rows.slot_tuple_getitem.lookup, ht.typeIs, ?_⟩
  by_cases hw : HT.sIx xs.length 0 lo = 0 ∧ HT.sIx xs.length xs.length hi = xs.length
  · exact getItem_tuple_whole ht hs pl pu (by rw [hlen]; exact hw) ⟨.ref a, H, I, rfl, q1 hw⟩
  · refine HT.getItem_tuple_cut ht hs pl pu (by rw [hlen]; exact hw) ?_ (by rw [hlen]; exact hz)
    rw [hlen]
    exact ⟨.ref s.heap.objs.size, _, lay_tup I ((r.drop (HT.sIx xs.length 0 lo)).take (HT.sIx xs.length xs.length hi - HT.sIx xs.length 0 lo)) (Nat.le_trans (cutV_length xs lo hi) hz), rfl, q2 hw _ _ (I.hok.fresh (Nat.le_refl _)) (tupO _)⟩
end
end Dl
end
section
set_option Elab.async false
set_option linter.all false
set_option maxRecDepth 100000
namespace Dl
open PySem PySem.Spec L2
/-! ### looking through the store -/
noncomputable def look (st : Sto) : D → Option D
  | .obj i => st[i]?
  | d => some d
noncomputable def items (st : Sto) (d : D) : Option (List D) := match look st d with
  | some (.lst xs) => some xs
  | some (.lstR xs) => some xs
  | some (.tup xs) => some xs
  | _ => none
section
variable {K : PySem.W.Frag} {mg : Str → Option Value} {as : List Addr} {F : Hp} {env : En} {st : Sto} {σ : St} {H : Hp} {v : V} {d : D} {ds : List D}
theorem lkL (fr : Frm K mg as F st H) (r : Rep K mg as F v d) (e : look st d = some (.lst ds)) : ∃ a xs, v = .ref a ∧ H a = some (.lst xs) ∧ Reps K mg as F xs ds := by
  cases r <;> simp only [look, Option.some.injEq, reduceCtorEq, D.lst.injEq] at e
  · rename_i i a h
    obtain ⟨d', e', _, w⟩ := fr.has h
    rw [e] at e'; cases e'
    cases w with
    | lst h2 r2 => exact ⟨_, _, rfl, h2, r2⟩
  · rename_i h r
    subst e
    exact ⟨_, _, rfl, fr.sub _ _ h, r⟩
theorem lkT (fr : Frm K mg as F st H) (r : Rep K mg as F v d) (e : look st d = some (.tup ds)) : ∃ a xs, v = .ref a ∧ SqT K H a xs ∧ Reps K mg as F xs ds := by
  cases r <;> simp only [look, Option.some.injEq, reduceCtorEq, D.tup.injEq] at e
  · rename_i i a h
    obtain ⟨d', e', _, w⟩ := fr.has h
    rw [e] at e'; cases e'
    cases w
  · rename_i h r
    subst e
    exact ⟨_, _, rfl, h.sq.ext fr.sub, r⟩
theorem lkR (fr : Frm K mg as F st H) (r : Rep K mg as F v d) (e : look st d = some (.lstR ds)) : ∃ a xs, v = .ref a ∧ SqL K H a xs ∧ Reps K mg as F xs ds := by
  cases r <;> simp only [look, Option.some.injEq, reduceCtorEq, D.lstR.injEq] at e
  · rename_i i a h
    obtain ⟨d', e', _, w⟩ := fr.has h
    rw [e] at e'; cases e'
    cases w
  · rename_i h r
    subst e
    exact ⟨_, _, rfl, h.ext fr.sub, r⟩
theorem lkS (fr : Frm K mg as F st H) (r : Rep K mg as F v d) (e : items st d = some ds) : ∃ a xs, v = .ref a ∧ (SqL K H a xs ∨ SqT K H a xs) ∧ Reps K mg as F xs ds := by
  unfold items at e
  split at e
  · rename_i q
    cases e
    obtain ⟨a, xs, h1, h2, h3⟩ := lkL fr r q
    exact ⟨a, xs, h1, .inl (SqL.of h2), h3⟩
  · rename_i q
    cases e
    obtain ⟨a, xs, h1, h2, h3⟩ := lkR fr r q
    exact ⟨a, xs, h1, .inl h2, h3⟩
  · rename_i q
    cases e
    obtain ⟨a, xs, h1, h2, h3⟩ := lkT fr r q
    exact ⟨a, xs, h1, .inr h2, h3⟩
  · cases e
end
/-! ### new things -/
noncomputable def fNew (own : Bool) (d : D) : FE := fun _ st => match own with
  | true => some (.ok (.obj st.length) (st ++ [d]))
  | false => some (.ok d st)
noncomputable def fGd {α : Type} (c : Bool) (f : FX α) : FX α := match c with
  | true => f
  | false => fun _ _ => none
section
variable {K : PySem.W.Frag} {mg : Str → Option Value} {W : WX} {as : List Addr} {F : Hp} {env : En} {st : Sto} {σ : St} {H : Hp} {Q : VK} {p : Addr} {ds : List D} {xs : List V} {own : Bool}
theorem AtR.newX {d : D} {o : HO} (h : AtR K mg (Rep K mg) W (fNew own d) as F env st σ H Q) (hp : H p = none)
    (hF : own = false → Rep K mg as (upd F p o) (.ref p) d) (hO : own = true → Own K mg as F (upd H p o) p d) : Q (.ref p) (upd H p o) := by
  cases own with
  | true =>
    have q := h.fin (r := .ok (.obj st.length) (st ++ [d])) rfl
    exact q (as ++ [p]) F _ (.ref p) (Go.newO h.frm hp (hO rfl)) (.obj (by rw [← h.frm.len]; simp))
  | false =>
    have q := h.fin (r := .ok d st) rfl
    exact q as (upd F p o) _ (.ref p) (Go.newF h.frm hp) (hF rfl)
theorem xtF (h : Frm K mg as F st H) (hp : H p = none) {o : HO} : Xt as F as (upd F p o) := (h.newF (o := o) hp).2
theorem AtR.newL (h : AtR K mg (Rep K mg) W (fNew own (.lst ds)) as F env st σ H Q) (hp : H p = none) (r : Reps K mg as F xs ds) : Q (.ref p) (upd H p (.lst xs)) :=
  h.newX hp (fun _ => .lst upd_same (r.mono (xtF h.frm hp))) (fun _ => .lst upd_same r)
theorem AtR.newT (h : AtR K mg (Rep K mg) W (fNew false (.tup ds)) as F env st σ H Q) (hp : H p = none) (r : Reps K mg as F xs ds) {o : Obj} (ho : TupO o) : Q (.ref p) (upd H p (.frz o (.tup xs))) :=
  h.newX hp (fun _ => .tup (.of upd_same ho) (r.mono (xtF h.frm hp))) (fun z => by cases z)
theorem AtR.gd {α β : Type} {rel : Rl β α} {Q : β → Hp → Prop} {c : Bool} {f : FX α} (h : AtR K mg rel W (fGd c f) as F env st σ H Q) : c = true ∧ AtR K mg rel W f as F env st σ H Q := by
  cases c with
  | true => exact ⟨rfl, h⟩
  | false => obtain ⟨_, _, r, e, _⟩ := h; cases e
end
/-! ### names, constants, arguments -/
section
variable {X : Cx} {W : WX} {e : Expr} {es : List Expr} {pos : Pos}
theorem dv (i : Nat) {x : Str} {pos : Pos} (hN : X.N[i]? = some x := by rfl) (hv : Vis X.env.scope x := by first | exact Or.inl rfl | exact Or.inr (Or.inl rfl) | exact Or.inr (Or.inr rfl)) (hd : (x == ("__debug__" : Str)) = false := by decide)
    (hcd : (x == ("__classdict__" : Str)) = false := by decide) : DE X W (.Name x pos) (fVar i) := by
  refine pe_imp (pe_var hN hv hd hcd) fun σ H Q ⟨as, F, env, st, h⟩ => ?_
  obtain ⟨fr, er, r, e, p⟩ := id h
  unfold fVar at e
  split at e
  · rename_i d q
    cases e
    obtain ⟨v, h1, h2⟩ := er.at_ i d q
    exact ⟨v, h1, p as F H v (Go.rfl fr) h2⟩
  · cases e
theorem dc {e : Expr} {v : V} {d : D} (h : PE X e (tC v)) (r : ∀ as F, Rep X.K X.mg as F v d) : DE X W e (fC d) :=
  pe_imp h fun σ H Q ⟨as, F, env, st, h⟩ => h.ok rfl (r as F)
theorem de_int {i j pos} : DE X W (.Constant (.int i) j pos) (fC (.int i)) := dc pe_int fun _ _ => .int i
theorem de_bl {i j pos} : DE X W (.Constant (.bool i) j pos) (fC (.bl i)) := dc pe_bl fun _ _ => .bl i
theorem de_non {j pos} : DE X W (.Constant .none j pos) (fC .non) := dc pe_non fun _ _ => .non
theorem de_gint {x : Str} {i : Int} {t : Tok} {pos : Pos} (hm : X.mg x = some (.int i t)) (hg : Gl X x := by rfl) (hd : (x == ("__debug__" : Str)) = false := by decide) : DE X W (.Name x pos) (fC (.int i)) :=
  dc (v := .int i) (pe_glob hg hm ⟨_, rfl⟩ hd) fun _ _ => .int i
noncomputable def aNil : FA := fun _ st => some (.ok [] st)
noncomputable def aCons (fa : FE) (fr : FA) : FA := fBind fa fun d => fBind fr fun ds => fun _ st => some (.ok (d :: ds) st)
theorem da_nil : DA X W [] aNil := pa_imp pa_nil fun σ H Q ⟨as, F, env, st, h⟩ => h.ok rfl .nil
theorem da_cons {fa : FE} {fr : FA} (ha : DE X W e fa) (hr : DA X W es fr) (hs : starEach (e :: es) X.env = (false, eval e X.env) :: starEach es X.env := by rfl) : DA X W (e :: es) (aCons fa fr) := by
  refine pa_imp (pa_cons ha hr hs) fun σ H Q ⟨as, F, env, st, h⟩ => ?_
  refine h.bind fun as1 F1 st1 d v H1 _ x1 r1 h1 => ?_
  refine h1.bind fun as2 F2 st2 ds vs H2 _ x2 r2 h2 => ?_
  exact h2.ok rfl (.cons (r1.mono x2) r2)
/-! ### operations by values -/
/-- a binary operation of the machine does what g says -/
noncomputable def O2 (X : Cx) (W : WX) (f : Value → Value → Sem Value) (g : D → D → FE) : Prop :=
  ∀ (pins : List (Addr × Obj)) (s : Shared) (σ : St) (H : Hp) (as : List Addr) (F : Hp) (env : En) (st : Sto) (x y : V) (v u : Value) (dx dy : D) (Q : VK), Inv X pins σ H s → RelV x v → RelV y u → Rep X.K X.mg as F x dx → Rep X.K X.mg as F y dy →
    AtR X.K X.mg (Rep X.K X.mg) W (g dx dy) as F env st σ H Q → wpAny (model X.prog X.w) X.A (f v u) (EP X pins σ Q) X.xe s
theorem O2.of {f : Value → Value → Sem Value} {r : R2} {g : D → D → FE} (h : OpR X f r)
    (hr : ∀ as F env st σ H x y dx dy Q, Rep X.K X.mg as F x dx → Rep X.K X.mg as F y dy → AtR X.K X.mg (Rep X.K X.mg) W (g dx dy) as F env st σ H Q → r x y H Q) : O2 X W f g :=
  fun pins s σ H as F env st x y v u dx dy Q I rx ry px py a => h pins s σ H x y v u Q I rx ry (hr as F env st σ H x y dx dy Q px py a)
noncomputable def fOp2 (g : D → D → FE) (fa fb : FE) : FE := fBind fa fun x => fBind fb fun y => g x y
variable {a b c : Expr} {fa fb fc : FE}
theorem de_bin {op : Operator} {g : D → D → FE} (ho : O2 X W (binaryOp op) g) (ha : DE X W a fa) (hb : DE X W b fb) : DE X W (.BinOp a op b pos) (fOp2 g fa fb) := by
  refine ⟨fun pins s σ H Q I ⟨as, F, env, st, h⟩ => ?_⟩
  refine wpAny_BinOp (bin ha hb (R := fun x y H2 => ∃ as F env st dx dy, Rep X.K X.mg as F x dx ∧ Rep X.K X.mg as F y dy ∧ AtR X.K X.mg (Rep X.K X.mg) W (g dx dy) as F env st σ H2 Q) I ?_ fun v u s2 x y H2 I2 rx ry q => ?_)
  · refine h.bind fun as1 F1 st1 d v H1 _ x1 r1 h1 => ?_
    exact h1.bind fun as2 F2 st2 d2 v2 H2 _ x2 r2 h2 => ⟨as2, F2, env, st2, d, d2, r1.mono x2, r2, h2⟩
  · obtain ⟨as, F, env, st, dx, dy, h1, h2, h3⟩ := q
    exact ho pins s2 σ H2 as F env st x y v u dx dy Q I2 rx ry h1 h2 h3
theorem de_cmp {op : CmpOp} {g : D → D → FE} (ho : O2 X W (compareOp op) g) (ha : DE X W a fa) (hb : DE X W b fb) (hm : behindInMarks op b = false := by first | exact nomark _ | rfl) : DE X W (.Compare a [op] [b] pos) (fOp2 g fa fb) := by
  refine ⟨fun pins s σ H Q I ⟨as, F, env, st, h⟩ => ?_⟩
  refine wpAny_Compare1 (bin ha hb (R := fun x y H2 => ∃ as F env st dx dy, Rep X.K X.mg as F x dx ∧ Rep X.K X.mg as F y dy ∧ AtR X.K X.mg (Rep X.K X.mg) W (g dx dy) as F env st σ H2 Q) I ?_ fun v u s2 x y H2 I2 rx ry q => ?_) hm
  · refine h.bind fun as1 F1 st1 d v H1 _ x1 r1 h1 => ?_
    exact h1.bind fun as2 F2 st2 d2 v2 H2 _ x2 r2 h2 => ⟨as2, F2, env, st2, d, d2, r1.mono x2, r2, h2⟩
  · obtain ⟨as, F, env, st, dx, dy, h1, h2, h3⟩ := q
    exact ho pins s2 σ H2 as F env st x y v u dx dy Q I2 rx ry h1 h2 h3
noncomputable def asB : D → Option Bool
  | .bl b => some b
  | _ => none
noncomputable def fAsB (f : FE) : FT := fBind f fun d => fP fun _ => asB d
theorem asB_of {K : PySem.W.Frag} {mg : Str → Option Value} {as : List Addr} {F : Hp} {v : V} {d : D} {c : Bool} (r : Rep K mg as F v d) (e : asB d = some c) : v = .bl c := by
  cases d <;> simp only [asB, reduceCtorEq, Option.some.injEq] at e
  subst e; cases r; rfl
theorem dt_cmp {op : CmpOp} {g : D → D → FE} (ho : O2 X W (compareOp op) g) (ha : DE X W a fa) (hb : DE X W b fb) (hm : behindInMarks op b = false := by first | exact nomark _ | rfl) : DT X W (.Compare a [op] [b] pos) (fAsB (fOp2 g fa fb)) := by
  refine ⟨fun pins s σ H Q I ⟨as, F, env, st, h⟩ => ?_⟩
  refine wpAny_isTrue_Compare1 (bin ha hb (R := fun x y H2 => ∃ as F env st dx dy, Rep X.K X.mg as F x dx ∧ Rep X.K X.mg as F y dy ∧ AtR X.K X.mg (Rep X.K X.mg) W (g dx dy) as F env st σ H2 (fun v H' => ∃ k, v = .bl k ∧ Q k H')) I ?_ fun v u s2 x y H2 I2 rx ry q => ?_) hm
  · have h' : tD X.K X.mg W (fOp2 g fa fb) σ H (fun v H' => ∃ k, v = .bl k ∧ Q k H') := h.bind fun as1 F1 st1 d v H1 _ x1 r1 h1 => by
      obtain ⟨c, e, q⟩ := h1.pure
      exact ⟨c, asB_of r1 e, q as1 F1 H1 c (Go.rfl h1.frm) rfl⟩
    obtain ⟨as, F, env, st, h⟩ := h'
    refine h.bind fun as1 F1 st1 d v H1 _ x1 r1 h1 => ?_
    exact h1.bind fun as2 F2 st2 d2 v2 H2 _ x2 r2 h2 => ⟨as2, F2, env, st2, d, d2, r1.mono x2, r2, h2⟩
  · obtain ⟨as, F, env, st, dx, dy, h1, h2, h3⟩ := q
    refine thn (ho pins s2 σ H2 as F env st x y v u dx dy _ I2 rx ry h1 h2 h3) fun z s3 ⟨zv, H3, I3, r3, k, e3, q3⟩ => ?_
    subst e3
    cases r3
    exact wpAny_truthy_bool ⟨H3, I3, q3⟩
/-- a < b < c -/
noncomputable def fChain (g g' : D → D → FE) (fa fb fc : FE) : FE := fBind fa fun x => fBind fb fun y => fBind (fAsB (g x y)) fun k => match k with
  | true => fBind fc fun z => g' y z
  | false => fC (.bl false)
theorem AtR.asB {K : PySem.W.Frag} {mg : Str → Option Value} {W : WX} {f : FE} {γ β : Type} {rel : Rl β γ} {k : Bool → FX γ} {as : List Addr} {F : Hp} {env : En} {st : Sto} {σ : St} {H : Hp} {Q : β → Hp → Prop} (h : AtR K mg rel W (fBind (fAsB f) k) as F env st σ H Q) {R : VK}
    (hk : ∀ as1 F1 st1 c H1, Xt as F as1 F1 → AtR K mg rel W (k c) as1 F1 env st1 σ H1 Q → R (.bl c) H1) : AtR K mg (Rep K mg) W f as F env st σ H R := by
  obtain ⟨fr, er, r, e, p⟩ := h
  refine ⟨fr, er, ?_⟩
  simp only [fBind, fAsB] at e
  cases q : f env st with
  | none => rw [q] at e; cases e
  | some z =>
    rw [q] at e
    refine ⟨z, rfl, ?_⟩
    cases z with
    | ok d st1 =>
      intro as1 F1 H1 v x rp
      cases q2 : Dl.asB d with
      | none => simp only [fP, q2] at e; cases e
      | some c =>
        simp only [fP, q2] at e
        rw [asB_of rp q2]
        exact hk as1 F1 st1 c H1 x.xt ⟨x.frm, er.mono x.xt, r, e, p.mono x⟩
    | ex c ns ds st1 => cases e; exact p
noncomputable def rOp (X : Cx) (W : WX) (σ : St) (g : D → D → FE) (x y : V) (H : Hp) (Q : VK) : Prop := ∃ as F env st dx dy, Rep X.K X.mg as F x dx ∧ Rep X.K X.mg as F y dy ∧ AtR X.K X.mg (Rep X.K X.mg) W (g dx dy) as F env st σ H Q
theorem O2.run {f : Value → Value → Sem Value} {g : D → D → FE} (h : O2 X W f g) {pins : List (Addr × Obj)} {s : Shared} {σ : St} {H : Hp} {x y : V} {v u : Value} {Q : VK} (I : Inv X pins σ H s) (rx : RelV x v) (ry : RelV y u) (q : rOp X W σ g x y H Q) :
    wpAny (model X.prog X.w) X.A (f v u) (EP X pins σ Q) X.xe s := by
  obtain ⟨as, F, env, st, dx, dy, h1, h2, h3⟩ := q
  exact h pins s σ H as F env st x y v u dx dy Q I rx ry h1 h2 h3
theorem chain_core {op op' : CmpOp} {g g' : D → D → FE} (ho : O2 X W (compareOp op) g) (ho' : O2 X W (compareOp op') g') (ha : DE X W a fa) (hb : DE X W b fb) (hc : DE X W c fc) {σ : St} {H : Hp} {Q : VK} (h : tD X.K X.mg W (fChain g g' fa fb fc) σ H Q) :
    tD X.K X.mg W fa σ H fun x H1 => tD X.K X.mg W fb σ H1 fun y H2 => rOp X W σ g x y H2 fun z H3 => ∃ k, z = .bl k ∧ (if k = true then tD X.K X.mg W fc σ H3 fun w' H4 => rOp X W σ g' y w' H4 Q else Q (.bl false) H3) := by
  obtain ⟨as, F, env, st, h⟩ := h
  refine h.bind fun as1 F1 st1 d v H1 _ x1 r1 h1 => ?_
  refine h1.bind fun as2 F2 st2 d2 v2 H2 _ x2 r2 h2 => ?_
  refine ⟨as2, F2, env, st2, d, d2, r1.mono x2, r2, h2.asB fun as3 F3 st3 k H3 x3 h3 => ⟨k, rfl, ?_⟩⟩
  cases k with
  | false =>
    rw [if_neg Bool.false_ne_true]
    exact h3.ok rfl (.bl false)
  | true =>
    rw [if_pos rfl]
    exact h3.bind fun as4 F4 st4 d4 v4 H4 _ x4 r4 h4 => ⟨as4, F4, env, st4, d2, d4, r2.mono (x3.trans x4), r4, h4⟩
end
end Dl
end
section
set_option Elab.async false
set_option linter.all false
set_option maxRecDepth 100000
namespace Dl
open PySem PySem.Spec L2
section
variable {X : Cx} {W : WX} {e : Expr} {es : List Expr} {pos : Pos} {a b c : Expr} {fa fb fc : FE} {ft ft' : FT}
/-! ### chains -/
theorem de_chain {op op' : CmpOp} {g g' : D → D → FE} (ho : O2 X W (compareOp op) g) (ho' : O2 X W (compareOp op') g') (ha : DE X W a fa) (hb : DE X W b fb) (hc : DE X W c fc)
    (hm : lastMarks [op, op'] [b, c] = false := by with_unfolding_all rfl) : DE X W (.Compare a [op, op'] [b, c] pos) (fChain g g' fa fb fc) := by
  refine ⟨fun pins s σ H Q I h0 => ?_⟩
  have h := chain_core ho ho' ha hb hc h0
  refine PyProof.Rows.Compare_chain (thn (ha.run pins s σ H _ I h) fun v s1 ⟨x, H1, I1, r1, q1⟩ => PyProof.Rows.chain_link (thn (hb.run pins s1 σ H1 _ I1 q1) fun u s2 ⟨y, H2, I2, r2, q2⟩ =>
    thn (ho.run I2 r1 r2 q2) fun d s3 ⟨z, H3, I3, r3, k, e, q3⟩ => ?_)) hm
  subst e
  cases r3
  refine wpAny_truthy_bool ?_
  cases k with
  | false => exact PyProof.Rows.ite_ff ⟨.bl false, H3, I3, rfl, q3⟩
  | true => exact PyProof.Rows.ite_tt (PyProof.Rows.chain_last (thn (hc.run pins s3 σ H3 _ I3 q3) fun w' s4 ⟨z', H4, I4, r4, q4⟩ => ho'.run I4 r2 r4 q4))
theorem dt_chain {op op' : CmpOp} {g g' : D → D → FE} (ho : O2 X W (compareOp op) g) (ho' : O2 X W (compareOp op') g') (ha : DE X W a fa) (hb : DE X W b fb) (hc : DE X W c fc)
    (hm : lastMarks [op, op'] [b, c] = false := by with_unfolding_all rfl) : DT X W (.Compare a [op, op'] [b, c] pos) (fAsB (fChain g g' fa fb fc)) := by
  refine ⟨fun pins s σ H Q I ⟨as, F, env, st, h0⟩ => ?_⟩
  have h1 : tD X.K X.mg W (fChain g g' fa fb fc) σ H (fun v H' => ∃ k, v = .bl k ∧ Q k H') := h0.bind fun as1 F1 st1 d v H1 _ x1 r1 h1 => by
    obtain ⟨c, e, q⟩ := h1.pure
    exact ⟨c, asB_of r1 e, q as1 F1 H1 c (Go.rfl h1.frm) rfl⟩
  have h := chain_core ho ho' ha hb hc h1
  refine PyProof.Rows.isTrue_chain (thn (ha.run pins s σ H _ I h) fun v s1 ⟨x, H1, I1, r1, q1⟩ => PyProof.Rows.test_link (thn (hb.run pins s1 σ H1 _ I1 q1) fun u s2 ⟨y, H2, I2, r2, q2⟩ =>
    thn (ho.run I2 r1 r2 q2) fun d s3 ⟨z, H3, I3, r3, k, e, q3⟩ => ?_)) hm
  subst e
  cases r3
  refine wpAny_truthy_bool ?_
  cases k with
  | false =>
    obtain ⟨k', e', q'⟩ := q3
    cases e'
    exact PyProof.Rows.ite_ff ⟨H3, I3, q'⟩
  | true =>
    refine PyProof.Rows.ite_tt (PyProof.Rows.test_last (thn (hc.run pins s3 σ H3 _ I3 q3) fun w' s4 ⟨z', H4, I4, r4, q4⟩ => thn (ho'.run I4 r2 r4 q4) fun d' s5 ⟨z2, H5, I5, r5, k2, e2, q5⟩ => ?_))
    subst e2
    cases r5
    exact wpAny_truthy_bool ⟨H5, I5, q5⟩
/-! ### tests -/
noncomputable def gTru (st : Sto) (d : D) : Option Bool := match look st d with
  | some .non => some false
  | some (.bl b) => some b
  | some (.int i) => some (i != 0)
  | some (.str y) => if y.length ≤ sizeLine then some ((y.length : Int) != 0) else none
  | some (.lst xs) => some (!xs.isEmpty)
  | some (.lstR xs) => some (!xs.isEmpty)
  | some (.tup xs) => some (!xs.isEmpty)
  | some (.dK ks _) => some (!ks.isEmpty)
  | _ => none
theorem Reps.isEmpty {K : PySem.W.Frag} {mg : Str → Option Value} {as : List Addr} {F : Hp} {xs : List V} {ds : List D} (r : Reps K mg as F xs ds) : xs.isEmpty = ds.isEmpty := by cases r <;> rfl
theorem tru_of {K : PySem.W.Frag} {mg : Str → Option Value} {as : List Addr} {F H : Hp} {st : Sto} {v : V} {d : D} {k : Bool} (fr : Frm K mg as F st H) (r : Rep K mg as F v d) (e : gTru st d = some k) : TruV K v H k := by
  unfold gTru at e
  split at e
  · rename_i q; cases e
    cases r <;> simp only [look, Option.some.injEq, reduceCtorEq] at q
    · rfl
    · rename_i h; obtain ⟨d', e', _, w⟩ := fr.has h; rw [q] at e'; cases e'; cases w
  · rename_i b q; cases e
    cases r <;> simp only [look, Option.some.injEq, reduceCtorEq, D.bl.injEq] at q
    · subst q; rfl
    · rename_i h; obtain ⟨d', e', _, w⟩ := fr.has h; rw [q] at e'; cases e'; cases w
  · rename_i i q; cases e
    cases r <;> simp only [look, Option.some.injEq, reduceCtorEq, D.int.injEq] at q
    · subst q; rfl
    · rename_i h; obtain ⟨d', e', _, w⟩ := fr.has h; rw [q] at e'; cases e'; cases w
  · rename_i y q
    split at e
    · rename_i hy
      cases e
      cases r <;> simp only [look, Option.some.injEq, reduceCtorEq, D.str.injEq] at q
      · subst q; exact ⟨hy, rfl⟩
      · rename_i h; obtain ⟨d', e', _, w⟩ := fr.has h; rw [q] at e'; cases e'; cases w
    · cases e
  · rename_i xs q; cases e
    obtain ⟨a, ys, rfl, h1, h2⟩ := lkL fr r q
    exact .inl ⟨ys, SqL.of h1, by rw [h2.isEmpty]⟩
  · rename_i xs q; cases e
    obtain ⟨a, ys, rfl, h1, h2⟩ := lkR fr r q
    exact .inl ⟨ys, h1, by rw [h2.isEmpty]⟩
  · rename_i xs q; cases e
    obtain ⟨a, ys, rfl, h1, h2⟩ := lkT fr r q
    exact .inr (.inl ⟨ys, h1, by rw [h2.isEmpty]⟩)
  · rename_i ks q; cases e
    cases r <;> simp only [look, Option.some.injEq, reduceCtorEq] at q
    · rename_i h; obtain ⟨d', e', _, w⟩ := fr.has h; rw [q] at e'; cases e'
      cases w with
      | dK h2 r2 => exact .inr (.inr ⟨_, h2, by cases ‹List (Key × V)› <;> rfl⟩)
    · rename_i kvs _ h r
      obtain ⟨q1, q2⟩ := D.dK.inj q
      subst q1
      exact .inr (.inr ⟨_, fr.sub _ _ h, by cases kvs <;> rfl⟩)
  · cases e
noncomputable def fTru (f : FE) : FT := fBind f fun d => fP fun st => gTru st d
theorem dt_tru (h : DE X W e fa) (he : ∀ whole, isTrue e X.env whole = (do let v ← whole; standAt e.pos; holding [v] (truthy v)) := by intro _; rfl) : DT X W e (fTru fa) := by
  refine pt_imp (pt_truth h he) fun σ H Q ⟨as, F, env, st, h⟩ => ?_
  refine h.bind fun as1 F1 st1 d v H1 _ x1 r1 h1 => ?_
  obtain ⟨k, e, q⟩ := h1.pure
  exact ⟨k, tru_of h1.frm r1 e, q as1 F1 H1 k (Go.rfl h1.frm) rfl⟩
noncomputable def fNot (f : FT) : FT := fBind f fun b => fP fun _ => some (!b)
theorem dt_not (h : DT X W e ft) : DT X W (.UnaryOp .Not e pos) (fNot ft) := by
  refine pt_imp (pt_not h) fun σ H Q ⟨as, F, env, st, h⟩ => ?_
  refine h.bind fun as1 F1 st1 d v H1 _ x1 r1 h1 => ?_
  cases r1
  obtain ⟨k, e, q⟩ := h1.pure
  cases e
  exact q as1 F1 H1 _ (Go.rfl h1.frm) rfl
noncomputable def fAnd (f g : FT) : FT := fBind f fun b => match b with | true => g | false => fP fun _ => some false
noncomputable def fOr (f g : FT) : FT := fBind f fun b => match b with | true => fP fun _ => some true | false => g
noncomputable def DW (X : Cx) (W : WX) (e : Expr) (f : FT) : Prop := PW X e (tDT X.K X.mg W f)
theorem pw_imp {X : Cx} {e : Expr} {t t' : TT} (h : PW X e t) (i : ∀ σ H Q, t' σ H Q → t σ H Q) : PW X e t' := ⟨fun wh pins s σ H Q I w => h.run wh pins s σ H Q I (i σ H Q w)⟩
theorem DW.pt (h : DW X W e ft) : DT X W e ft := PW.pt h
theorem dw_and1 (h : DT X W a ft) : DW X W (.BoolOp .And [a] pos) ft := pw_and1 h
theorem dw_or1 (h : DT X W a ft) : DW X W (.BoolOp .Or [a] pos) ft := pw_or1 h
theorem dw_and {rest : List Expr} (ha : DT X W a ft) (hb : DW X W (.BoolOp .And (b :: rest) pos) ft') : DW X W (.BoolOp .And (a :: b :: rest) pos) (fAnd ft ft') := by
  refine pw_imp (pw_and ha hb) fun σ H Q ⟨as, F, env, st, h⟩ => ?_
  refine h.bind fun as1 F1 st1 d v H1 _ x1 r1 h1 => ?_
  cases r1
  cases d with
  | true => exact ⟨as1, F1, env, st1, h1⟩
  | false =>
    rw [if_neg Bool.false_ne_true]
    exact h1.ok rfl rfl
theorem dw_or {rest : List Expr} (ha : DT X W a ft) (hb : DW X W (.BoolOp .Or (b :: rest) pos) ft') : DW X W (.BoolOp .Or (a :: b :: rest) pos) (fOr ft ft') := by
  refine pw_imp (pw_or ha hb) fun σ H Q ⟨as, F, env, st, h⟩ => ?_
  refine h.bind fun as1 F1 st1 d v H1 _ x1 r1 h1 => ?_
  cases r1
  cases d with
  | true => exact h1.ok rfl rfl
  | false => exact ⟨as1, F1, env, st1, h1⟩
/-- as values -/
noncomputable def fAndV (f g : FE) : FE := fBind (fAsB f) fun b => match b with | true => g | false => fC (.bl false)
noncomputable def fOrV (f g : FE) : FE := fBind (fAsB f) fun b => match b with | true => fC (.bl true) | false => g
noncomputable def fNotV (f : FE) : FE := fBind (fAsB f) fun b => fC (.bl !b)
theorem de_one {op} (h : DE X W a fa) : DE X W (.BoolOp op [a] pos) fa := pe_one h
theorem de_and {rest : List Expr} (ha : DE X W a fa) (hb : DE X W (.BoolOp .And (b :: rest) pos) fb) : DE X W (.BoolOp .And (a :: b :: rest) pos) (fAndV fa fb) := by
  refine pe_imp (pe_and ha hb) fun σ H Q ⟨as, F, env, st, h⟩ => ⟨as, F, env, st, h.asB fun as1 F1 st1 c H1 x1 h1 => ⟨c, rfl, ?_⟩⟩
  cases c with
  | true => exact ⟨as1, F1, env, st1, h1⟩
  | false =>
    rw [if_neg Bool.false_ne_true]
    exact h1.ok rfl (.bl false)
theorem de_not (ha : DE X W a fa) : DE X W (.UnaryOp .Not a pos) (fNotV fa) :=
  pe_imp (pe_not ha) fun σ H Q ⟨as, F, env, st, h⟩ => ⟨as, F, env, st, h.asB fun as1 F1 st1 c H1 x1 h1 => ⟨c, rfl, h1.ok rfl (.bl _)⟩⟩
noncomputable def fIf {α : Type} (t : FT) (f g : FX α) : FX α := fBind t fun b => match b with | true => f | false => g
theorem de_if (hc : DT X W c ft) (ha : DE X W a fa) (hb : DE X W b fb) : DE X W (.IfExp c a b pos) (fIf ft fa fb) := by
  refine pe_imp (pe_ifExp hc ha hb) fun σ H Q ⟨as, F, env, st, h⟩ => ?_
  refine h.bind fun as1 F1 st1 d v H1 _ x1 r1 h1 => ?_
  cases r1
  cases d with
  | true => exact ⟨as1, F1, env, st1, h1⟩
  | false => exact ⟨as1, F1, env, st1, h1⟩
end
/-! ### arithmetic -/
section
variable {X : Cx} {W : WX}
theorem Rep.ints {K : PySem.W.Frag} {mg : Str → Option Value} {as : List Addr} {F : Hp} {v : V} {i : Int} (r : Rep K mg as F v (.int i)) : v = .int i := by cases r; rfl
theorem Rep.strs {K : PySem.W.Frag} {mg : Str → Option Value} {as : List Addr} {F : Hp} {v : V} {i : Str} (r : Rep K mg as F v (.str i)) : v = .str i := by cases r; rfl
/-- a pure function of two ints -/
noncomputable def gI (g : Int → Int → Option D) : D → D → FE := fun x y => match x, y with
  | .int i, .int j => fP fun _ => g i j
  | _, _ => fun _ _ => none
theorem O2.ints {f : Value → Value → Sem Value} {g : Int → Int → Option D} {r : R2} (h : OpR X f r) (hg : ∀ i j d, g i j = some d → ∃ v, (∀ as F, Rep X.K X.mg as F v d) ∧ ∀ H Q, Q v H → r (.int i) (.int j) H Q) : O2 X W f (gI g) :=
  .of h fun as F env st σ H x y dx dy Q px py at_ => by
    unfold gI at at_
    split at at_
    · rename_i i j
      obtain ⟨d, e, q⟩ := at_.pure
      obtain ⟨v, rv, hr⟩ := hg i j d e
      rw [px.ints, py.ints]
      exact hr H Q (q as F H v (Go.rfl at_.frm) (rv as F))
    · obtain ⟨_, _, r, e, _⟩ := at_; cases e
noncomputable def cMulB (i j : Int) : Bool := decide (i.natAbs < 2 ^ 64) || decide (j.natAbs < 2 ^ 64) || decide (Builtin.Int.intBits i + Builtin.Int.intBits j ≤ 134217728)
noncomputable def gSub : D → D → FE := gI fun i j => some (.int (i - j))
noncomputable def gMulI (i j : Int) : Option D := if cMulB i j then some (.int (i * j)) else none
noncomputable def gDiv : D → D → FE := gI fun i j => if 0 < j ∧ j.natAbs.log2 < 9000 then some (.int (i / j)) else none
noncomputable def gMod : D → D → FE := gI fun i j => if 0 < j then some (.int (i % j)) else none
noncomputable def gPow : D → D → FE := gI fun i j => if 0 ≤ j ∧ (Builtin.Int.intBits i : Int) * j ≤ 2 ^ 27 then some (.int (i ^ j.toNat)) else none
theorem O2.sub : O2 X W (binaryOp .Sub) gSub := .ints op_sub fun i j d e => by
  cases e
  exact ⟨_, fun _ _ => .int _, fun H Q q => ⟨i, j, rfl, rfl, q⟩⟩
theorem O2.div : O2 X W (binaryOp .FloorDiv) gDiv := .ints op_fdivW fun i j d e => by
  split at e
  · rename_i h
    cases e
    exact ⟨_, fun _ _ => .int _, fun H Q q => ⟨i, j, rfl, rfl, h, q⟩⟩
  · cases e
theorem O2.mod : O2 X W (binaryOp .Mod) gMod := .ints op_mod fun i j d e => by
  split at e
  · rename_i h
    cases e
    exact ⟨_, fun _ _ => .int _, fun H Q q => ⟨i, j, rfl, rfl, h, q⟩⟩
  · cases e
theorem op_powW : OpR X (binaryOp .Pow) (rI (fun i j => 0 ≤ j ∧ (Builtin.Int.intBits i : Int) * j ≤ 2 ^ 27) fun i j => .int (i ^ j.toNat)) := opI fun _ _ _ _ _ _ _ hc q => PyProof.Rows.pow_int hc.1 hc.2 q
theorem O2.pow : O2 X W (binaryOp .Pow) gPow := .ints op_powW fun i j d e => by
  split at e
  · rename_i h
    cases e
    exact ⟨_, fun _ _ => .int _, fun H Q q => ⟨i, j, rfl, rfl, h, q⟩⟩
  · cases e
/-- a + b: ints, texts, lists, tuples -/
noncomputable def gAdd (own : Bool) : D → D → FE := fun x y => match x, y with
  | .int i, .int j => fC (.int (i + j))
  | .str i, .str j => fGd (Nat.ble (i.length + j.length) 16777216) (fC (.str (i ++ j)))
  | x, y => fun env st => match look st x, look st y with
    | some (.lst xs), some (.lst ys) => fGd (Nat.ble (xs.length + ys.length) 16777216) (fNew own (.lst (xs ++ ys))) env st
    | some (.tup xs), some (.tup ys) => fGd (Nat.ble (xs.length + ys.length) 16777216) (fC (.tup (xs ++ ys))) env st
    | _, _ => none
theorem AtR.congr {K : PySem.W.Frag} {mg : Str → Option Value} {α β : Type} {rel : Rl β α} {f f' : FX α} {as : List Addr} {F : Hp} {env : En} {st : Sto} {σ : St} {H : Hp} {Q : β → Hp → Prop} (h : AtR K mg rel W f as F env st σ H Q) (e : f env st = f' env st) : AtR K mg rel W f' as F env st σ H Q := by
  obtain ⟨h1, h2, r, h3, h4⟩ := h
  exact ⟨h1, h2, r, e ▸ h3, h4⟩
theorem szL {n : Nat} (h : Nat.ble n 16777216 = true) : n ≤ sizeLine := by rw [sizeLine_eq]; exact Nat.le_of_ble_eq_true h
theorem O2.add {own : Bool} : O2 X W (binaryOp .Add) (gAdd own) := .of (OpR.or op_add (OpR.or op_add_str (OpR.or op_cat op_catX))) fun as F env st σ H x y dx dy Q px py at_ => by
  unfold gAdd at at_
  split at at_
  · rename_i i j
    rw [px.ints, py.ints]
    exact .inl ⟨i, j, rfl, rfl, at_.ok rfl (.int _)⟩
  · rename_i i j
    rw [px.strs, py.strs]
    obtain ⟨hc, at1⟩ := at_.gd
    exact .inr (.inl ⟨i, j, rfl, rfl, szL hc, at1.ok rfl (.str _)⟩)
  · refine .inr (.inr ?_)
    cases q1 : look st dx with
    | none =>
      obtain ⟨_, _, r, e, _⟩ := at_
      simp only [q1] at e; cases e
    | some zx =>
      cases q2 : look st dy with
      | none =>
        obtain ⟨_, _, r, e, _⟩ := at_
        simp only [q1, q2] at e
        cases zx <;> cases e
      | some zy =>
        cases zx with
        | lst xs =>
          cases zy with
          | lst ys =>
            have at1 := at_.congr (f' := fGd (Nat.ble (xs.length + ys.length) 16777216) (fNew own (.lst (xs ++ ys)))) (by simp only [q1, q2])
            obtain ⟨hc, at2⟩ := at1.gd
            obtain ⟨l, vs, rfl, h1, r1⟩ := lkL at_.frm px q1
            obtain ⟨l2, vs2, rfl, h2, r2⟩ := lkL at_.frm py q2
            refine .inl ⟨l, l2, vs, vs2, rfl, rfl, h1, h2, by rw [r1.length, r2.length]; exact szL hc, fun p hp => at2.newL hp (r1.append r2)⟩
          | _ => obtain ⟨_, _, r, e, _⟩ := at_; simp only [q1, q2] at e; cases e
        | tup xs =>
          cases zy with
          | tup ys =>
            have at1 := at_.congr (f' := fGd (Nat.ble (xs.length + ys.length) 16777216) (fC (.tup (xs ++ ys)))) (by simp only [q1, q2])
            obtain ⟨hc, at2⟩ := at1.gd
            obtain ⟨l, vs, rfl, h1, r1⟩ := lkT at_.frm px q1
            obtain ⟨l2, vs2, rfl, h2, r2⟩ := lkT at_.frm py q2
            refine .inr ⟨l, l2, vs, vs2, rfl, rfl, h1, h2, by rw [r1.length, r2.length]; exact szL hc, fun e => ?_, fun _ e => ?_, fun _ _ p o hp ho => ?_⟩
            · subst e
              cases r1
              exact at2.ok rfl (by cases py with
                | tup h r => simp only [look, Option.some.injEq, D.tup.injEq] at q2; subst q2; exact .tup h r
                | obj h => simp only [look] at q2; obtain ⟨d', e', _, w⟩ := at_.frm.has h; rw [q2] at e'; cases e'; cases w
                | fn a => simp [look] at q2
                | _ => simp [look] at q2)
            · subst e
              cases r2
              rw [List.append_nil] at at2
              exact at2.ok rfl (by cases px with
                | tup h r => simp only [look, Option.some.injEq, D.tup.injEq] at q1; subst q1; exact .tup h r
                | obj h => simp only [look] at q1; obtain ⟨d', e', _, w⟩ := at_.frm.has h; rw [q1] at e'; cases e'; cases w
                | fn a => simp [look] at q1
                | _ => simp [look] at q1)
            · have q := at2.fin (r := .ok (.tup (xs ++ ys)) st) rfl
              obtain ⟨f', x⟩ := at2.frm.newF (o := .frz o (.tup (vs ++ vs2))) hp
              exact q as _ _ (.ref p) ⟨x, (Go.newF at2.frm hp).kp, f'⟩ (.tup (.of upd_same ho) ((r1.append r2).mono x))
          | _ => obtain ⟨_, _, r, e, _⟩ := at_; simp only [q1, q2] at e; cases e
        | _ => obtain ⟨_, _, r, e, _⟩ := at_; simp only [q1, q2] at e; cases e
/-- a * b: ints, a list by an int -/
noncomputable def gMul (own : Bool) : D → D → FE := fun x y => match x, y with
  | .int i, .int j => fP fun _ => gMulI i j
  | x, .int k => fun env st => match look st x with
    | some (.lst xs) => fGd (decide (-(2 ^ 63) ≤ k ∧ k < 2 ^ 63) && Nat.ble (xs.length * k.toNat) 16777216) (fNew own (.lst (List.replicate k.toNat xs).flatten)) env st
    | _ => none
  | _, _ => fun _ _ => none
theorem Reps.rep {K : PySem.W.Frag} {mg : Str → Option Value} {as : List Addr} {F : Hp} {xs : List V} {ds : List D} (r : Reps K mg as F xs ds) : ∀ n : Nat, Reps K mg as F (List.replicate n xs).flatten (List.replicate n ds).flatten
  | 0 => .nil
  | n + 1 => by rw [List.replicate_succ, List.replicate_succ, List.flatten_cons, List.flatten_cons]; exact r.append (Reps.rep r n)
theorem op_mulA : OpR X (binaryOp .Mult) (rI (fun i j => cMulB i j = true) fun i j => .int (i * j)) := opI fun i j _ _ _ _ _ hc q => PyProof.Rows.mul_int q (by
  have hc : cMulB i j = true := hc
  unfold cMulB at hc
  simp only [Bool.or_eq_true, decide_eq_true_eq] at hc
  rcases hc with (h | h) | h
  · exact .of_left (PyProof.Rows.intBits_le h)
  · exact .of_right (PyProof.Rows.intBits_le h)
  · exact CMulX.ok (i := i) (j := j) (by unfold CMulX; omega))
theorem O2.mul {own : Bool} : O2 X W (binaryOp .Mult) (gMul own) := .of (OpR.or op_mulA op_rep) fun as F env st σ H x y dx dy Q px py at_ => by
  unfold gMul at at_
  split at at_
  · rename_i i j
    obtain ⟨d, e, q⟩ := at_.pure
    unfold gMulI at e
    split at e
    · rename_i h
      cases e
      rw [px.ints, py.ints]
      exact .inl ⟨i, j, rfl, rfl, h, q as F H _ (Go.rfl at_.frm) (.int _)⟩
    · cases e
  · rename_i k _
    rw [py.ints]
    refine .inr ?_
    cases q1 : look st dx with
    | none => obtain ⟨_, _, r, e, _⟩ := at_; simp only [q1] at e; cases e
    | some zx =>
      cases zx with
      | lst xs =>
        have at1 := at_.congr (f' := fGd (decide (-(2 ^ 63) ≤ k ∧ k < 2 ^ 63) && Nat.ble (xs.length * k.toNat) 16777216) (fNew own (.lst (List.replicate k.toNat xs).flatten))) (by simp only [q1])
        obtain ⟨hc, at2⟩ := at1.gd
        rw [Bool.and_eq_true, decide_eq_true_eq] at hc
        obtain ⟨l, vs, rfl, h1, r1⟩ := lkL at_.frm px q1
        exact ⟨l, k, vs, rfl, rfl, h1, hc.1.1, hc.1.2, by rw [r1.length]; exact szL hc.2, fun p hp => at2.newL hp (r1.rep _)⟩
      | _ => obtain ⟨_, _, r, e, _⟩ := at_; simp only [q1] at e; cases e
  · obtain ⟨_, _, r, e, _⟩ := at_; cases e
/-- -a -/
noncomputable def gNeg (st : Sto) : D → Option D
  | .int i => some (.int (-i))
  | _ => none
noncomputable def fNeg (f : FE) : FE := fBind f fun d => fP fun st => gNeg st d
theorem de_neg {a : Expr} {fa : FE} {pos : Pos} (ha : DE X W a fa) : DE X W (.UnaryOp .USub a pos) (fNeg fa) := by
  refine pe_imp (pe_un un_neg ha) fun σ H Q ⟨as, F, env, st, h⟩ => ?_
  refine h.bind fun as1 F1 st1 d v H1 _ x1 r1 h1 => ?_
  obtain ⟨k, e, q⟩ := h1.pure
  cases d <;> simp only [gNeg, reduceCtorEq, Option.some.injEq] at e
  subst e
  rw [r1.ints]
  exact ⟨_, rfl, q as1 F1 H1 _ (Go.rfl h1.frm) (.int _)⟩
end
end Dl
end
section
set_option Elab.async false
set_option linter.all false
set_option maxRecDepth 100000
namespace Dl
open PySem PySem.Spec L2
section
variable {X : Cx} {W : WX}
/-! ### comparisons -/
noncomputable def gLt : D → D → FE := gI fun i j => some (.bl (decide (i < j)))
noncomputable def gLe : D → D → FE := gI fun i j => some (.bl (decide (i ≤ j)))
noncomputable def gGt : D → D → FE := gI fun i j => some (.bl (decide (j < i)))
noncomputable def gGe : D → D → FE := gI fun i j => some (.bl (decide (j ≤ i)))
theorem O2.lt : O2 X W (compareOp .Lt) gLt := .ints op_lt fun i j d e => by
  cases e; exact ⟨_, fun _ _ => .bl _, fun H Q q => ⟨i, j, rfl, rfl, q⟩⟩
theorem O2.le : O2 X W (compareOp .LtE) gLe := .ints op_le fun i j d e => by
  cases e; exact ⟨_, fun _ _ => .bl _, fun H Q q => ⟨i, j, rfl, rfl, q⟩⟩
theorem O2.gt : O2 X W (compareOp .Gt) gGt := .ints op_gt fun i j d e => by
  cases e; exact ⟨_, fun _ _ => .bl _, fun H Q q => ⟨i, j, rfl, rfl, q⟩⟩
theorem O2.ge : O2 X W (compareOp .GtE) gGe := .ints op_ge fun i j d e => by
  cases e; exact ⟨_, fun _ _ => .bl _, fun H Q q => ⟨i, j, rfl, rfl, q⟩⟩
/-- plain data -/
noncomputable def dOk : Nat → D → Bool
  | 0, _ => false
  | _ + 1, .non => true
  | _ + 1, .bl _ => true
  | _ + 1, .int _ => true
  | _ + 1, .str x => PySem.PyData.strOk x
  | n + 1, .lst xs => xs.all (dOk n)
  | n + 1, .lstR xs => xs.all (dOk n)
  | n + 1, .tup xs => xs.all (dOk n)
  | _, _ => false
noncomputable def toPy : Nat → D → PyData
  | 0, _ => .none
  | _ + 1, .bl b => .bool b
  | _ + 1, .int i => .int i
  | _ + 1, .str x => .str x
  | n + 1, .lst xs => .list (xs.map (toPy n))
  | n + 1, .lstR xs => .list (xs.map (toPy n))
  | n + 1, .tup xs => .tuple (xs.map (toPy n))
  | _ + 1, _ => .none
theorem lay_all {f : D → PyData} : ∀ {xs : List D}, (∀ x ∈ xs, (f x).canLay0 = true) → PyData.canLayAll0 (xs.map f) = true
  | [], _ => by simp [PyData.canLayAll0]
  | x :: xs, h => by
    simp only [List.map_cons, PyData.canLayAll0, Bool.and_eq_true]
    exact ⟨h x (by simp), lay_all fun y hy => h y (by simp [hy])⟩
theorem dep_all {f : D → PyData} {n : Nat} : ∀ {xs : List D}, (∀ x ∈ xs, (f x).depth ≤ n) → PyData.depthAll (xs.map f) ≤ n
  | [], _ => by simp [PyData.depthAll]
  | x :: xs, h => by
    simp only [List.map_cons, PyData.depthAll]
    exact Nat.max_le.mpr ⟨h x (by simp), dep_all fun y hy => h y (by simp [hy])⟩
theorem dOk_lay : ∀ (n : Nat) (d : D), dOk n d = true → (toPy n d).canLay0 = true ∧ (toPy n d).depth ≤ n
  | 0, d, h => by simp [dOk] at h
  | n + 1, d, h => by
    cases d <;> simp only [dOk, reduceCtorEq, Bool.false_eq_true] at h
    · exact ⟨by simp [toPy, PyData.canLay0], by simp [toPy, PyData.depth]⟩
    · exact ⟨by simp [toPy, PyData.canLay0], by simp [toPy, PyData.depth]⟩
    · exact ⟨by simp [toPy, PyData.canLay0], by simp [toPy, PyData.depth]⟩
    · exact ⟨by simpa [toPy, PyData.canLay0] using h, by simp [toPy, PyData.depth]⟩
    all_goals
      rw [List.all_eq_true] at h
      exact ⟨by simpa [toPy, PyData.canLay0] using lay_all fun x hx => (dOk_lay n x (h x hx)).1, by simpa [toPy, PyData.depth] using dep_all fun x hx => (dOk_lay n x (h x hx)).2⟩
theorem dOk_shaped {n : Nat} {d : D} (hn : n ≤ 64) (h : dOk n d = true) : SeqAt.shaped (toPy n d) = true := by
  obtain ⟨h1, h2⟩ := dOk_lay n d h
  unfold SeqAt.shaped
  rw [h1, decide_eq_true (by omega)]; rfl
theorem dpAll_of {K : PySem.W.Frag} {mg : Str → Option Value} {as : List Addr} {F H : Hp} {f : D → PyData} : ∀ {xs : List V} {ds : List D}, Reps K mg as F xs ds → (∀ v d, d ∈ ds → Rep K mg as F v d → Dp K H v (f d)) → DpAll K H xs (ds.map f)
  | _, _, .nil, _ => .nil
  | _, _, .cons h t, k => .cons (k _ _ (by simp) h) (dpAll_of t fun v d hd => k v d (by simp [hd]))
theorem dp_of {K : PySem.W.Frag} {mg : Str → Option Value} {as : List Addr} {F H : Hp} (sub : Ext F H) : ∀ (n : Nat) (d : D) (v : V), dOk n d = true → Rep K mg as F v d → Dp K H v (toPy n d)
  | 0, d, v, h, _ => by simp [dOk] at h
  | n + 1, d, v, h, r => by
    cases r <;> simp only [dOk, reduceCtorEq, Bool.false_eq_true] at h
    · exact .non
    · exact .bl _
    · exact .int _
    · exact .str _
    · rename_i hl r
      rw [List.all_eq_true] at h
      exact .lst (SqL.of (sub _ _ hl)) (dpAll_of r fun v d hd r => dp_of sub n d v (h d hd) r)
    · rename_i hl r
      rw [List.all_eq_true] at h
      exact .lst (hl.ext sub) (dpAll_of r fun v d hd r => dp_of sub n d v (h d hd) r)
    · rename_i hl r
      rw [List.all_eq_true] at h
      exact .tup (hl.sq.ext sub) (dpAll_of r fun v d hd r => dp_of sub n d v (h d hd) r)
theorem look_self {st : Sto} {d : D} (h : ∀ i, d ≠ .obj i) : look st d = some d := by
  cases d <;> first | rfl | exact absurd rfl (h _)
theorem dp_look {K : PySem.W.Frag} {mg : Str → Option Value} {as : List Addr} {F H : Hp} {st : Sto} {v : V} {d d' : D} {n : Nat} (fr : Frm K mg as F st H) (r : Rep K mg as F v d) (e : look st d = some d') (h : dOk n d' = true) : Dp K H v (toPy n d') := by
  by_cases ho : ∃ i, d = .obj i
  · obtain ⟨i, rfl⟩ := ho
    cases r
    rename_i a hi
    simp only [look] at e
    obtain ⟨d2, e2, _, w⟩ := fr.has hi
    rw [e] at e2; cases e2
    cases n with
    | zero => simp [dOk] at h
    | succ n =>
      cases w <;> simp only [dOk, reduceCtorEq, Bool.false_eq_true] at h
      rename_i hl r
      rw [List.all_eq_true] at h
      exact .lst (SqL.of hl) (dpAll_of r fun v d hd r => dp_of fr.sub n d v (h d hd) r)
  · rw [look_self (fun i z => ho ⟨i, z⟩)] at e
    cases e
    exact dp_of fr.sub n _ _ h r
/-- x == y of plain data -/
noncomputable def eqD (x y : D) : Bool := PyData.eqv (toPy 60 x) (toPy 60 y)
noncomputable def eqS (neg : Bool) (st : Sto) (x y : D) : Option D := match look st x, look st y with
  | some x', some y' => if dOk 60 x' = true ∧ dOk 60 y' = true then some (.bl (if neg then !eqD x' y' else eqD x' y')) else none
  | _, _ => none
noncomputable def gEq : D → D → FE := fun x y => fP fun st => eqS false st x y
noncomputable def gNe : D → D → FE := fun x y => fP fun st => eqS true st x y
theorem eqS_of {neg : Bool} {st : Sto} {x y d : D} (e : eqS neg st x y = some d) : ∃ x' y', look st x = some x' ∧ look st y = some y' ∧ dOk 60 x' = true ∧ dOk 60 y' = true ∧ d = .bl (if neg then !eqD x' y' else eqD x' y') := by
  unfold eqS at e
  split at e
  · rename_i x' y' h1 h2
    split at e
    · rename_i h
      cases e
      exact ⟨x', y', h1, h2, h.1, h.2, rfl⟩
    · cases e
  · cases e
theorem O2.eq (hu : X.A.units + 64 < cLine) : O2 X W (compareOp .Eq) gEq := .of (op_eqD hu) fun as F env st σ H x y dx dy Q px py at_ => by
  obtain ⟨d, e, q⟩ := at_.pure
  obtain ⟨x', y', h1, h2, h3, h4, rfl⟩ := eqS_of e
  exact ⟨_, _, dp_look at_.frm px h1 h3, dp_look at_.frm py h2 h4, dOk_shaped (by omega) h3, dOk_shaped (by omega) h4, q as F H _ (Go.rfl at_.frm) (.bl _)⟩
theorem O2.ne (hu : X.A.units + 64 < cLine) : O2 X W (compareOp .NotEq) gNe := .of (op_neD hu) fun as F env st σ H x y dx dy Q px py at_ => by
  obtain ⟨d, e, q⟩ := at_.pure
  obtain ⟨x', y', h1, h2, h3, h4, rfl⟩ := eqS_of e
  exact ⟨_, _, dp_look at_.frm px h1 h3, dp_look at_.frm py h2 h4, dOk_shaped (by omega) h3, dOk_shaped (by omega) h4, q as F H _ (Go.rfl at_.frm) (.bl _)⟩
/-- is, is not: None and bools -/
noncomputable def isNon : D → Bool
  | .non => true
  | _ => false
theorem isNon_of {K : PySem.W.Frag} {mg : Str → Option Value} {as : List Addr} {F : Hp} {v : V} {d : D} (r : Rep K mg as F v d) : decide (v = .non) = isNon d := by
  cases r <;> simp [isNon]
noncomputable def gIs (neg : Bool) : D → D → FE := fun x y => match y with
  | .non => fC (.bl (if neg then !isNon x else isNon x))
  | .bl b => match x with
    | .bl a => fC (.bl (if neg then !decide (a = b) else decide (a = b)))
    | _ => fun _ _ => none
  | _ => fun _ _ => none
theorem O2.is_ : O2 X W (compareOp .Is) (gIs false) := .of (OpR.or op_isN op_isBl) fun as F env st σ H x y dx dy Q px py at_ => by
  unfold gIs at at_
  split at at_
  · cases py
    exact .inl ⟨rfl, by rw [isNon_of px]; exact at_.ok rfl (.bl _)⟩
  · split at at_
    · cases px
      cases py
      exact .inr ⟨_, _, rfl, rfl, at_.ok rfl (.bl _)⟩
    · obtain ⟨_, _, r, e, _⟩ := at_; cases e
  · obtain ⟨_, _, r, e, _⟩ := at_; cases e
theorem O2.isnt : O2 X W (compareOp .IsNot) (gIs true) := .of (OpR.or op_notN op_notBl) fun as F env st σ H x y dx dy Q px py at_ => by
  unfold gIs at at_
  split at at_
  · cases py
    exact .inl ⟨rfl, by rw [isNon_of px]; exact at_.ok rfl (.bl _)⟩
  · split at at_
    · cases px
      cases py
      exact .inr ⟨_, _, rfl, rfl, at_.ok rfl (.bl _)⟩
    · obtain ⟨_, _, r, e, _⟩ := at_; cases e
  · obtain ⟨_, _, r, e, _⟩ := at_; cases e
/-- x in xs: a list of plain data, a tuple of flat things -/
noncomputable def flatD : D → Bool
  | .non => true
  | .bl _ => true
  | .int _ => true
  | .str _ => true
  | _ => false
noncomputable def inS (neg : Bool) (st : Sto) (x y : D) : Option D := match look st y with
  | some (.tup ys) => if flatD x = true ∧ ys.all flatD = true then some (.bl (if neg then !ys.any (fun z => eqD z x) else ys.any (fun z => eqD z x))) else none
  | some y' => match look st x with
    | some x' => match y' with
      | .lst ys => if dOk 58 x' = true ∧ ys.all (dOk 58) = true then some (.bl (if neg then !ys.any (fun z => PyData.eqv (toPy 58 z) (toPy 58 x')) else ys.any (fun z => PyData.eqv (toPy 58 z) (toPy 58 x')))) else none
      | .lstR ys => if dOk 58 x' = true ∧ ys.all (dOk 58) = true then some (.bl (if neg then !ys.any (fun z => PyData.eqv (toPy 58 z) (toPy 58 x')) else ys.any (fun z => PyData.eqv (toPy 58 z) (toPy 58 x')))) else none
      | _ => none
    | none => none
  | none => none
noncomputable def gIn (neg : Bool) : D → D → FE := fun x y => fP fun st => inS neg st x y
theorem flat_of {K : PySem.W.Frag} {mg : Str → Option Value} {as : List Addr} {F : Hp} {v : V} {d : D} (r : Rep K mg as F v d) (h : flatD d = true) : flatV v = true := by
  cases r <;> simp only [flatD, Bool.false_eq_true] at h <;> rfl
theorem flat_all {K : PySem.W.Frag} {mg : Str → Option Value} {as : List Addr} {F : Hp} : ∀ {vs : List V} {ds : List D}, Reps K mg as F vs ds → ds.all flatD = true → vs.all flatV = true
  | _, _, .nil, _ => rfl
  | _, _, .cons h t, e => by
    simp only [List.all_cons, Bool.and_eq_true] at e ⊢
    exact ⟨flat_of h e.1, flat_all t e.2⟩
theorem eqV_of {K : PySem.W.Frag} {mg : Str → Option Value} {as : List Addr} {F : Hp} {v u : V} {d e : D} (r : Rep K mg as F v d) (q : Rep K mg as F u e) (h : flatD d = true) (h' : flatD e = true) : eqV v u = eqD d e := by
  cases r <;> simp only [flatD, Bool.false_eq_true] at h <;> cases q <;> simp only [flatD, Bool.false_eq_true] at h' <;> simp [eqV, eqD, toPy, PyData.eqv]
theorem inV_of {K : PySem.W.Frag} {mg : Str → Option Value} {as : List Addr} {F : Hp} {u : V} {e : D} (q : Rep K mg as F u e) (h' : flatD e = true) : ∀ {vs : List V} {ds : List D}, Reps K mg as F vs ds → ds.all flatD = true → inV u vs = ds.any (fun z => eqD z e)
  | _, _, .nil, _ => rfl
  | _, _, .cons h t, k => by
    simp only [List.all_cons, Bool.and_eq_true] at k
    have := inV_of q h' t k.2
    unfold inV at this ⊢
    simp only [List.any_cons]
    rw [eqV_of h q k.1 h', this]
theorem in_core {neg : Bool} {K : PySem.W.Frag} {mg : Str → Option Value} {as : List Addr} {F : Hp} {env : En} {st : Sto} {σ : St} {H : Hp} {x y : V} {dx dy : D} {Q : VK} (px : Rep K mg as F x dx) (py : Rep K mg as F y dy) (at_ : AtR K mg (Rep K mg) W (gIn neg dx dy) as F env st σ H Q) :
    rIn K neg x y H Q ∨ (∃ d ds, Dp K H x d ∧ Dp K H y (.list ds) ∧ SeqAt.shaped d = true ∧ SeqAt.shaped (.list ds) = true ∧ Q (.bl (if neg then !ds.any (fun z => PyData.eqv z d) else ds.any (fun z => PyData.eqv z d))) H) := by
  obtain ⟨d, e, q⟩ := at_.pure
  unfold inS at e
  split at e
  · rename_i ys h1
    split at e
    · rename_i h
      cases e
      obtain ⟨l, vs, rfl, hl, r⟩ := lkT at_.frm py h1
      refine .inl ⟨l, vs, rfl, .inr hl, flat_of px h.1, flat_all r h.2, ?_⟩
      rw [inV_of px h.1 r h.2]
      exact q as F H _ (Go.rfl at_.frm) (.bl _)
    · cases e
  · rename_i y' _ h1
    split at e
    · rename_i x' h2
      split at e
      · rename_i ys _
        split at e
        · rename_i h
          cases e
          have hy : dOk 59 (.lst ys) = true := h.2
          have dy' := dp_look at_.frm py h1 hy
          refine .inr ⟨_, _, dp_look at_.frm px h2 h.1, dy', dOk_shaped (by omega) h.1, dOk_shaped (n := 59) (d := .lst ys) (by omega) hy, ?_⟩
          rw [List.any_map]
          exact q as F H _ (Go.rfl at_.frm) (.bl _)
        · cases e
      · rename_i ys _
        split at e
        · rename_i h
          cases e
          have hy : dOk 59 (.lstR ys) = true := h.2
          have dy' := dp_look at_.frm py h1 hy
          refine .inr ⟨_, _, dp_look at_.frm px h2 h.1, dy', dOk_shaped (by omega) h.1, dOk_shaped (n := 59) (d := .lstR ys) (by omega) hy, ?_⟩
          rw [List.any_map]
          exact q as F H _ (Go.rfl at_.frm) (.bl _)
        · cases e
      · cases e
    · cases e
  · cases e
theorem O2.notIn (hu : X.A.units + 65 < cLine) : O2 X W (compareOp .NotIn) (gIn true) := .of (OpR.or op_notIn_seq (op_notInD hu)) fun as F env st σ H x y dx dy Q px py at_ => by
  rcases in_core px py at_ with h | ⟨d, ds, h1, h2, h3, h4, h5⟩
  · exact .inl h
  · exact .inr ⟨d, ds, h1, h2, h3, h4, h5⟩
end
end Dl
end
section
set_option Elab.async false
set_option linter.all false
set_option maxRecDepth 100000
namespace Dl
open PySem PySem.Spec L2
section
variable {X : Cx} {W : WX} {e : Expr} {es : List Expr} {pos : Pos} {a b c : Expr} {fa fb fc : FE} {fs : FA}
/-! ### subscripts, slices -/
theorem Reps.atI {K : PySem.W.Frag} {mg : Str → Option Value} {as : List Addr} {F : Hp} {xs : List V} {ds : List D} {i : Int} {d : D} (r : Reps K mg as F xs ds) (e : atI ds i = some d) : ∃ v, L2.atI xs i = some v ∧ Rep K mg as F v d := by
  unfold L2.atI at e ⊢
  rw [r.length]
  cases q : ixN ds.length i with
  | none => rw [q] at e; cases e
  | some j =>
    rw [q] at e
    exact r.get e
noncomputable def ixS (st : Sto) (x y : D) : Option D := match y with
  | .int i => match look st x with
    | some (.lst xs) => atI xs i
    | some (.lstR xs) => atI xs i
    | some (.tup xs) => atI xs i
    | some (.str z) => if z.length ≤ sizeLine then (atI z.cps.toList i).map (fun c => .str ⟨#[c]⟩) else none
    | _ => none
  | _ => none
noncomputable def gIx : D → D → FE := fun x y => fP fun st => ixS st x y
theorem de_ix (ha : DE X W a fa) (hb : DE X W b fb) (hs : PlainIx b := by exact fun _ _ => rfl) : DE X W (.Subscript a b pos) (fOp2 gIx fa fb) := by
  refine pe_imp (pe_ix ix_seq ha hb hs) fun σ H Q ⟨as, F, env, st, h⟩ => ?_
  refine h.bind fun as1 F1 st1 d v H1 e1 x1 r1 h1 => ?_
  refine h1.bind fun as2 F2 st2 d2 v2 H2 e2 x2 r2 h2 => ?_
  clear e1 e2
  obtain ⟨w0, e, q⟩ := h2.pure
  have r1' := r1.mono x2
  unfold ixS at e
  split at e
  · rename_i i
    rw [r2.ints]
    split at e
    · rename_i xs hl
      obtain ⟨l, vs, rfl, h3, h4⟩ := lkL h2.frm r1' hl
      obtain ⟨v, ev, rv⟩ := h4.atI e
      exact .inl ⟨l, vs, i, v, rfl, rfl, SqL.of h3, ev, q as2 F2 H2 v (Go.rfl h2.frm) rv⟩
    · rename_i xs hl
      obtain ⟨l, vs, rfl, h3, h4⟩ := lkR h2.frm r1' hl
      obtain ⟨v, ev, rv⟩ := h4.atI e
      exact .inl ⟨l, vs, i, v, rfl, rfl, h3, ev, q as2 F2 H2 v (Go.rfl h2.frm) rv⟩
    · rename_i xs hl
      obtain ⟨l, vs, rfl, h3, h4⟩ := lkT h2.frm r1' hl
      obtain ⟨v, ev, rv⟩ := h4.atI e
      exact .inr (.inl ⟨l, vs, i, v, rfl, rfl, h3, ev, q as2 F2 H2 v (Go.rfl h2.frm) rv⟩)
    · rename_i z hl
      split at e
      · rename_i hz
        cases r1' <;> simp only [look, Option.some.injEq, reduceCtorEq, D.str.injEq] at hl
        · rename_i z0
          subst hl
          cases q3 : L2.atI z0.cps.toList i with
          | none => rw [q3] at e; cases e
          | some c =>
            rw [q3] at e
            cases e
            exact .inr (.inr ⟨_, i, c, rfl, rfl, hz, q3, q as2 F2 H2 _ (Go.rfl h2.frm) (.str _)⟩)
        · rename_i hh; obtain ⟨d', e', _, w⟩ := h2.frm.has hh; rw [hl] at e'; cases e'; cases w
      · cases e
    · cases e
  · cases e
noncomputable abbrev FO := FX (Option Int)
noncomputable abbrev rOI : Rl (Option Int) (Option Int) := fun _ _ b c => b = c
noncomputable def DO (X : Cx) (W : WX) (e : Option Expr) (f : FO) : Prop := PO X e (tR X.K X.mg rOI W f)
noncomputable def oNone : FO := fun _ st => some (.ok none st)
noncomputable def asI : D → Option Int
  | .int i => some i
  | _ => none
noncomputable def oSome (f : FE) : FO := fBind f fun d => fP fun _ => (asI d).map some
theorem po_imp {X : Cx} {e : Option Expr} {t t' : TO} (h : PO X e t) (i : ∀ σ H Q, t' σ H Q → t σ H Q) : PO X e t' := ⟨fun pins s σ H Q I w => h.run pins s σ H Q I (i σ H Q w)⟩
theorem do_none : DO X W none oNone := po_imp po_none fun σ H Q ⟨as, F, env, st, h⟩ => h.ok rfl rfl
theorem do_some (h : DE X W e fa) : DO X W (some e) (oSome fa) := by
  refine po_imp (po_some h) fun σ H Q ⟨as, F, env, st, h⟩ => ?_
  refine h.bind fun as1 F1 st1 d v H1 _ x1 r1 h1 => ?_
  obtain ⟨z, e, q⟩ := h1.pure
  cases d <;> simp only [asI, Option.map_none, Option.map_some, reduceCtorEq, Option.some.injEq] at e
  subst e
  exact ⟨_, r1.ints, q as1 F1 H1 _ (Go.rfl h1.frm) rfl⟩
noncomputable def cutD (xs : List D) (lo hi : Option Int) : List D := (xs.drop (HT.sIx xs.length 0 lo)).take (HT.sIx xs.length xs.length hi - HT.sIx xs.length 0 lo)
theorem Reps.cut {K : PySem.W.Frag} {mg : Str → Option Value} {as : List Addr} {F : Hp} {xs : List V} {ds : List D} (r : Reps K mg as F xs ds) (lo hi : Option Int) : Reps K mg as F (cutV xs lo hi) (cutD ds lo hi) := by
  unfold cutV cutD
  rw [r.length]
  exact (r.drop _).take _
noncomputable def slS (own : Bool) (x : D) (lo hi : Option Int) : FE := fun env st => match look st x with
  | some (.lst xs) => fNew own (.lst (cutD xs lo hi)) env st
  | some (.lstR xs) => fNew own (.lst (cutD xs lo hi)) env st
  | some (.tup xs) => fC (.tup (cutD xs lo hi)) env st
  | some (.str z) => fGd (Nat.ble z.length 16777216) (fC (.str (cutS z lo hi))) env st
  | _ => none
noncomputable def fSl (own : Bool) (fe : FE) (fl fh : FO) : FE := fBind fe fun x => fBind fl fun lo => fBind fh fun hi => slS own x lo hi
theorem cut_all {xs : List D} {lo hi : Option Int} (h : HT.sIx xs.length 0 lo = 0 ∧ HT.sIx xs.length xs.length hi = xs.length) : cutD xs lo hi = xs := by
  unfold cutD
  rw [h.1, h.2]
  simp
theorem Rep.tup_look {K : PySem.W.Frag} {mg : Str → Option Value} {as : List Addr} {F H : Hp} {st : Sto} {v : V} {d : D} {xs : List D} (fr : Frm K mg as F st H) (r : Rep K mg as F v d) (e : look st d = some (.tup xs)) : Rep K mg as F v (.tup xs) := by
  by_cases ho : ∃ i, d = .obj i
  · obtain ⟨i, rfl⟩ := ho
    cases r
    rename_i a hi
    simp only [look] at e
    obtain ⟨d2, e2, _, w⟩ := fr.has hi
    rw [e] at e2; cases e2; cases w
  · rw [look_self (fun i z => ho ⟨i, z⟩)] at e
    cases e
    exact r
theorem de_slice {lo hi : Option Expr} {fl fh : FO} {own : Bool} {p2 : Pos} (he : DE X W e fa) (hl : DO X W lo fl) (hh : DO X W hi fh) : DE X W (.Subscript e (.Slice lo hi none p2) pos) (fSl own fa fl fh) := by
  refine pe_imp (pe_slice (SlR.or sl_list (SlR.or sl_tupX sl_str)) he hl hh) fun σ H Q ⟨as, F, env, st, h⟩ => ?_
  refine h.bind fun as1 F1 st1 d v H1 e1 x1 r1 h1 => ?_
  refine h1.bind fun as2 F2 st2 l2 v2 H2 e2 x2 r2 h2 => ?_
  refine h2.bind fun as3 F3 st3 l3 v3 H3 e3 x3 r3 h3 => ?_
  clear e1 e2 e3
  cases r2
  cases r3
  have r1' := r1.mono (x2.trans x3)
  cases q : look st3 d with
  | none => obtain ⟨_, _, r, e, _⟩ := h3; simp only [slS, q] at e; cases e
  | some z =>
    cases z with
    | lst xs =>
      have h4 := h3.congr (f' := fNew own (.lst (cutD xs l2 l3))) (by simp only [slS, q])
      obtain ⟨l, vs, rfl, h5, h6⟩ := lkL h3.frm r1' q
      exact .inl ⟨l, vs, rfl, SqL.of h5, fun p hp => h4.newL hp (h6.cut _ _)⟩
    | lstR xs =>
      have h4 := h3.congr (f' := fNew own (.lst (cutD xs l2 l3))) (by simp only [slS, q])
      obtain ⟨l, vs, rfl, h5, h6⟩ := lkR h3.frm r1' q
      exact .inl ⟨l, vs, rfl, h5, fun p hp => h4.newL hp (h6.cut _ _)⟩
    | tup xs =>
      have h4 := h3.congr (f' := fC (.tup (cutD xs l2 l3))) (by simp only [slS, q])
      obtain ⟨l, vs, rfl, h5, h6⟩ := lkT h3.frm r1' q
      refine .inr (.inl ⟨l, vs, rfl, h5, fun hc => ?_, fun _ p o hp ho => ?_⟩)
      · rw [h6.length] at hc
        rw [cut_all hc] at h4
        exact h4.ok rfl (r1'.tup_look h3.frm q)
      · have q' := h4.fin (r := .ok (.tup (cutD xs l2 l3)) st3) rfl
        obtain ⟨f', x⟩ := h4.frm.newF (o := .frz o (.tup (cutV vs l2 l3))) hp
        exact q' as3 _ _ (.ref p) ⟨x, (Go.newF h4.frm hp).kp, f'⟩ (.tup (.of upd_same ho) ((h6.cut _ _).mono x))
    | str z =>
      have h4 := h3.congr (f' := fGd (Nat.ble z.length 16777216) (fC (.str (cutS z l2 l3)))) (by simp only [slS, q])
      obtain ⟨hc, h5⟩ := h4.gd
      cases r1' <;> simp only [look, Option.some.injEq, reduceCtorEq, D.str.injEq] at q
      · subst q
        exact .inr (.inr ⟨_, rfl, szL hc, h5.ok rfl (.str _)⟩)
      · rename_i hh; obtain ⟨d', e', _, w⟩ := h3.frm.has hh; rw [q] at e'; cases e'; cases w
    | _ => obtain ⟨_, _, r, e, _⟩ := h3; simp only [slS, q] at e; cases e
/-! ### displays -/
noncomputable def fLst (own : Bool) (f : FA) : FE := fBind f fun ds => fGd (Nat.ble ds.length 16777216) (fNew own (.lst ds))
noncomputable def fTup (f : FA) : FE := fBind f fun ds => fGd (Nat.ble ds.length 16777216) (fNew false (.tup ds))
theorem de_lst {own : Bool} (h : DA X W es fs) : DE X W (.List es pos) (fLst own fs) := by
  refine pe_imp (pe_lst h) fun σ H Q ⟨as, F, env, st, h⟩ => ?_
  refine h.bind fun as1 F1 st1 d v H1 _ x1 r1 h1 => ?_
  obtain ⟨hc, h2⟩ := h1.gd
  exact ⟨by rw [r1.length]; exact szL hc, fun p hp => h2.newL hp r1⟩
theorem de_tup {k} (h : DA X W es fs) : DE X W (.Tuple es k pos) (fTup fs) := by
  refine pe_imp (pe_tupX h) fun σ H Q ⟨as, F, env, st, h⟩ => ?_
  refine h.bind fun as1 F1 st1 d v H1 _ x1 r1 h1 => ?_
  obtain ⟨hc, h2⟩ := h1.gd
  exact ⟨by rw [r1.length]; exact szL hc, fun p o hp ho => h2.newT hp r1 ho⟩
/-! ### calls of what is known -/
noncomputable def C1 (X : Cx) (W : WX) (f : Value) (g : List D → FE) : Prop :=
  ∀ (pins : List (Addr × Obj)) (s : Shared) (σ : St) (H : Hp) (as : List Addr) (F : Hp) (env : En) (st : Sto) (xs : List V) (us : List Value) (ds : List D) (Q : VK), Inv X pins σ H s → Vals xs us → Reps X.K X.mg as F xs ds →
    AtR X.K X.mg (Rep X.K X.mg) W (g ds) as F env st σ H Q → wpAny (model X.prog X.w) X.A (call f us) (EP X pins σ Q) X.xe s
theorem C1.of {f : Value} {r : List V → Hp → VK → Prop} {g : List D → FE} (h : CallR X f r)
    (hr : ∀ as F env st σ H xs ds Q, Reps X.K X.mg as F xs ds → AtR X.K X.mg (Rep X.K X.mg) W (g ds) as F env st σ H Q → r xs H Q) : C1 X W f g :=
  fun pins s σ H as F env st xs us ds Q I rx px a => h pins s σ H xs us Q I rx (hr as F env st σ H xs ds Q px a)
noncomputable def fCB (g : List D → FE) (f : FA) : FE := fBind f g
theorem de_callB {x : Str} {id : String} {p pos : Pos} {g : List D → FE} (hc : C1 X W (.builtin id) g) (hm : X.mg x = none) (hv : bootBuiltins x = some (.builtin id)) (ha : DA X W (e :: es) fs) (hg : Gl X x := by rfl) (hn : x ≠ "__name__" := by decide) (hdb : (x == ("__debug__" : Str)) = false := by decide)
    (he : starEach (e :: es) X.env = (false, eval e X.env) :: starEach es X.env := by rfl) (hpl : (backTo pos (starEach es X.env)).any (·.1) = false := by rfl) : DE X W (.Call (.Name x p) (e :: es) [] pos) (fCB g fs) := by
  refine ⟨fun pins s σ H Q I ⟨as, F, env, st, h⟩ => ?_⟩
  refine wpAny_Call_Name_kw (ld_blt I hg hm hv ?_ hn hdb)
  have h' : tDA X.K X.mg W fs σ H (fun vs H1 => ∃ as F env st ds, Reps X.K X.mg as F vs ds ∧ AtR X.K X.mg (Rep X.K X.mg) W (g ds) as F env st σ H1 Q) :=
    h.bind fun as1 F1 st1 d v H1 _ x1 r1 h1 => ⟨as1, F1, env, st1, d, r1, h1⟩
  exact PyProof.Rows.callWith_builtin1 (thn (ha.run pos pins s σ H _ I h') fun us s1 ⟨vs, H1, I1, r1, as, F, env, st, ds, q1, q2⟩ => hc pins s1 σ H1 as F env st vs us ds Q I1 r1 q1 q2) he hpl
theorem de_callTy {x : Str} {T : String} {p pos : Pos} {g : List D → FE} (hc : C1 X W (.type T) g) (hm : X.mg x = none) (hv : bootBuiltins x = some (.type T)) (ha : DA X W (e :: es) fs) (hg : Gl X x := by rfl) (hn : x ≠ "__name__" := by decide) (hdb : (x == ("__debug__" : Str)) = false := by decide)
    (he : starEach (e :: es) X.env = (false, eval e X.env) :: starEach es X.env := by rfl) (hpl : (backTo pos (starEach es X.env)).any (·.1) = false := by rfl) : DE X W (.Call (.Name x p) (e :: es) [] pos) (fCB g fs) := by
  refine ⟨fun pins s σ H Q I ⟨as, F, env, st, h⟩ => ?_⟩
  refine wpAny_Call_Name_kw (ld_blt I hg hm hv ?_ hn hdb)
  have h' : tDA X.K X.mg W fs σ H (fun vs H1 => ∃ as F env st ds, Reps X.K X.mg as F vs ds ∧ AtR X.K X.mg (Rep X.K X.mg) W (g ds) as F env st σ H1 Q) :=
    h.bind fun as1 F1 st1 d v H1 _ x1 r1 h1 => ⟨as1, F1, env, st1, d, r1, h1⟩
  exact PyProof.Rows.callWith_type1 (thn (ha.run pos pins s σ H _ I h') fun us s1 ⟨vs, H1, I1, r1, as, F, env, st, ds, q1, q2⟩ => hc pins s1 σ H1 as F env st vs us ds Q I1 r1 q1 q2) he hpl
/-- one argument, a function of the store -/
noncomputable def g1 (g : Sto → D → Option D) : List D → FE := fun ds => match ds with
  | [d] => fP fun st => g st d
  | _ => fun _ _ => none
noncomputable def g2 (g : Sto → D → D → Option D) : List D → FE := fun ds => match ds with
  | [d, e] => fP fun st => g st d e
  | _ => fun _ _ => none
noncomputable def lenS (st : Sto) (d : D) : Option D := match look st d with
  | some (.lst xs) => some (.int xs.length)
  | some (.lstR xs) => some (.int xs.length)
  | some (.tup xs) => some (.int xs.length)
  | some (.str z) => if z.length ≤ sizeLine then some (.int z.length) else none
  | some (.dK ks _) => some (.int ks.length)
  | some (.dT ks _) => some (.int ks.length)
  | _ => none
theorem AtR.bad {K : PySem.W.Frag} {mg : Str → Option Value} {α β : Type} {rel : Rl β α} {as : List Addr} {F : Hp} {env : En} {st : Sto} {σ : St} {H : Hp} {Q : β → Hp → Prop} {f : FX α} (h : AtR K mg rel W f as F env st σ H Q) (e : f env st = none) {p : Prop} : p := by
  obtain ⟨_, _, r, e', _⟩ := h
  rw [e] at e'; cases e'
theorem C1.one {f : Value} {r : List V → Hp → VK → Prop} {g : Sto → D → Option D} (h : CallR X f r)
    (hr : ∀ as F st H v d z Q, Frm X.K X.mg as F st H → Rep X.K X.mg as F v d → g st d = some z → (∀ as' F' H' v, Go X.K X.mg as F H as' F' st H' → Rep X.K X.mg as' F' v z → Q v H') → r [v] H Q) : C1 X W f (g1 g) :=
  .of h fun as F env st σ H xs ds Q px at_ => by
    unfold g1 at at_
    split at at_
    · cases px with
      | cons p t =>
        cases t
        obtain ⟨z, e, q⟩ := at_.pure
        exact hr as F st H _ _ z Q at_.frm p e q
    · exact at_.bad rfl
theorem C1.two {f : Value} {r : List V → Hp → VK → Prop} {g : Sto → D → D → Option D} (h : CallR X f r)
    (hr : ∀ as F st H v d u e z Q, Frm X.K X.mg as F st H → Rep X.K X.mg as F v d → Rep X.K X.mg as F u e → g st d e = some z → (∀ as' F' H' v, Go X.K X.mg as F H as' F' st H' → Rep X.K X.mg as' F' v z → Q v H') → r [v, u] H Q) : C1 X W f (g2 g) :=
  .of h fun as F env st σ H xs ds Q px at_ => by
    unfold g2 at at_
    split at at_
    · cases px with
      | cons p t =>
        cases t with
        | cons p' t' =>
          cases t'
          obtain ⟨z, e, q⟩ := at_.pure
          exact hr as F st H _ _ _ _ z Q at_.frm p p' e q
    · exact at_.bad rfl
theorem C1.len : C1 X W (.builtin "len") (g1 lenS) := .one (CallR.or call_len (CallR.or call_lenD call_len_dT)) fun as F st H v d z Q fr r e q => by
  unfold lenS at e
  split at e
  · rename_i xs hl
    cases e
    obtain ⟨l, vs, rfl, h1, h2⟩ := lkL fr r hl
    exact .inl ⟨_, xs.length, rfl, .inl ⟨vs, SqL.of h1, h2.length.symm⟩, q as F H _ (Go.rfl fr) (.int _)⟩
  · rename_i xs hl
    cases e
    obtain ⟨l, vs, rfl, h1, h2⟩ := lkR fr r hl
    exact .inl ⟨_, xs.length, rfl, .inl ⟨vs, h1, h2.length.symm⟩, q as F H _ (Go.rfl fr) (.int _)⟩
  · rename_i xs hl
    cases e
    obtain ⟨l, vs, rfl, h1, h2⟩ := lkT fr r hl
    exact .inl ⟨_, xs.length, rfl, .inr ⟨vs, h1, h2.length.symm⟩, q as F H _ (Go.rfl fr) (.int _)⟩
  · rename_i y hl
    split at e
    · rename_i hz
      cases e
      cases r <;> simp only [look, Option.some.injEq, reduceCtorEq, D.str.injEq] at hl
      · subst hl
        exact .inl ⟨_, _, rfl, ⟨hz, rfl⟩, q as F H _ (Go.rfl fr) (.int _)⟩
      · rename_i hh; obtain ⟨d', e', _, w⟩ := fr.has hh; rw [hl] at e'; cases e'; cases w
    · cases e
  · rename_i ks _ hl
    cases e
    cases r <;> simp only [look, Option.some.injEq, reduceCtorEq] at hl
    · rename_i hh; obtain ⟨d', e', _, w⟩ := fr.has hh; rw [hl] at e'; cases e'
      cases w with
      | dK h2 r2 => exact .inr (.inl ⟨_, _, rfl, h2, q as F H _ (Go.rfl fr) (by rw [List.length_map]; exact .int _)⟩)
    · rename_i kvs _ h r
      obtain ⟨q1, q2⟩ := D.dK.inj hl
      subst q1
      exact .inr (.inl ⟨_, _, rfl, fr.sub _ _ h, q as F H _ (Go.rfl fr) (by rw [List.length_map]; exact .int _)⟩)
  · rename_i ks _ hl
    cases e
    cases r <;> simp only [look, Option.some.injEq, reduceCtorEq] at hl
    · rename_i hh; obtain ⟨d', e', _, w⟩ := fr.has hh; rw [hl] at e'; cases e'
      cases w with
      | dT h2 r2 => exact .inr (.inr ⟨_, _, rfl, h2, q as F H _ (Go.rfl fr) (by rw [List.length_map]; exact .int _)⟩)
    · rename_i kvs _ h r
      obtain ⟨q1, q2⟩ := D.dT.inj hl
      subst q1
      exact .inr (.inr ⟨_, _, rfl, fr.sub _ _ h, q as F H _ (Go.rfl fr) (by rw [List.length_map]; exact .int _)⟩)
  · cases e
noncomputable def maxS (_ : Sto) : D → D → Option D
  | .int i, .int j => some (.int (if j > i then j else i))
  | _, _ => none
noncomputable def minS (_ : Sto) : D → D → Option D
  | .int i, .int j => some (.int (if j < i then j else i))
  | _, _ => none
theorem C1.max2 (hc : X.calm = true) : C1 X W (.builtin "max") (g2 maxS) := .two (call_max2 hc) fun as F st H v d u e z Q fr r r' h q => by
  cases d <;> simp only [maxS, reduceCtorEq] at h
  cases e <;> simp only [maxS, reduceCtorEq, Option.some.injEq] at h
  subst h
  rw [r.ints, r'.ints]
  exact ⟨_, _, rfl, q as F H _ (Go.rfl fr) (.int _)⟩
theorem C1.min2 (hc : X.calm = true) : C1 X W (.builtin "min") (g2 minS) := .two (call_min2 hc) fun as F st H v d u e z Q fr r r' h q => by
  cases d <;> simp only [minS, reduceCtorEq] at h
  cases e <;> simp only [minS, reduceCtorEq, Option.some.injEq] at h
  subst h
  rw [r.ints, r'.ints]
  exact ⟨_, _, rfl, q as F H _ (Go.rfl fr) (.int _)⟩
noncomputable def intS (_ : Sto) : D → Option D
  | .int i => some (.int i)
  | .bl k => some (.int (if k then 1 else 0))
  | _ => none
/-- list(x), tuple(x) -/
noncomputable def gList (own : Bool) : List D → FE := fun ds => match ds with
  | [d] => fun env st => match items st d with
    | some xs => fNew own (.lst xs) env st
    | none => none
  | _ => fun _ _ => none
noncomputable def gTuple : List D → FE := fun ds => match ds with
  | [d] => fun env st => match items st d with
    | some xs => fC (.tup xs) env st
    | none => none
  | _ => fun _ _ => none
theorem C1.list_ {own : Bool} : C1 X W (.type "list") (gList own) := .of call_list_of fun as F env st σ H xs ds Q px at_ => by
  unfold gList at at_
  split at at_
  · rename_i d
    cases px with
    | cons p t =>
      cases t
      cases q : items st d with
      | none => exact at_.bad (by simp only [q])
      | some ys =>
        have h1 := at_.congr (f' := fNew own (.lst ys)) (by simp only [q])
        obtain ⟨l, vs, rfl, h2, h3⟩ := lkS at_.frm p q
        exact ⟨l, vs, rfl, h2, fun z hz => h1.newL hz h3⟩
  · exact at_.bad rfl
/-- lists of boolsD, of intsD -/
noncomputable def boolsD : List D → Option (List Bool)
  | [] => some []
  | .bl b :: r => (boolsD r).map (b :: ·)
  | _ => none
noncomputable def intsD : List D → Option (List Int)
  | [] => some []
  | .int b :: r => (intsD r).map (b :: ·)
  | _ => none
theorem bools_of : ∀ {ds : List D} {bs : List Bool}, boolsD ds = some bs → ds = bs.map .bl
  | [], bs, e => by simp only [boolsD, Option.some.injEq] at e; subst e; rfl
  | d :: r, bs, e => by
    cases d <;> simp only [boolsD, reduceCtorEq] at e
    cases q : boolsD r with
    | none => rw [q] at e; cases e
    | some cs => rw [q] at e; cases e; rw [bools_of q]; rfl
theorem ints_of : ∀ {ds : List D} {bs : List Int}, intsD ds = some bs → ds = bs.map .int
  | [], bs, e => by simp only [intsD, Option.some.injEq] at e; subst e; rfl
  | d :: r, bs, e => by
    cases d <;> simp only [intsD, reduceCtorEq] at e
    cases q : intsD r with
    | none => rw [q] at e; cases e
    | some cs => rw [q] at e; cases e; rw [ints_of q]; rfl
theorem bools_map : ∀ bs : List Bool, boolsD (bs.map .bl) = some bs
  | [] => rfl
  | b :: bs => by simp only [List.map_cons, boolsD, bools_map bs, Option.map_some]
theorem ints_map : ∀ bs : List Int, intsD (bs.map .int) = some bs
  | [] => rfl
  | b :: bs => by simp only [List.map_cons, intsD, ints_map bs, Option.map_some]
noncomputable def lstI (st : Sto) (d : D) : Option (List D) := match look st d with
  | some (.lst xs) => some xs
  | some (.lstR xs) => some xs
  | _ => none
theorem lkLI {K : PySem.W.Frag} {mg : Str → Option Value} {as : List Addr} {F H : Hp} {st : Sto} {v : V} {d : D} {ds : List D} (fr : Frm K mg as F st H) (r : Rep K mg as F v d) (e : lstI st d = some ds) : ∃ a xs, v = .ref a ∧ SqL K H a xs ∧ Reps K mg as F xs ds := by
  unfold lstI at e
  split at e
  · rename_i q
    cases e
    obtain ⟨a, xs, h1, h2, h3⟩ := lkL fr r q
    exact ⟨a, xs, h1, SqL.of h2, h3⟩
  · rename_i q
    cases e
    exact lkR fr r q
  · cases e
noncomputable def allS (st : Sto) (d : D) : Option D := ((lstI st d).bind boolsD).map fun bs => .bl (bs.all id)
noncomputable def anyS (st : Sto) (d : D) : Option D := ((lstI st d).bind boolsD).map fun bs => .bl (bs.any id)
noncomputable def sumS (st : Sto) (d : D) : Option D := ((lstI st d).bind intsD).map fun bs => .int bs.sum
theorem C1.all_ (hc : X.calm = true) : C1 X W (.builtin "all") (g1 allS) := .one (cr_all hc) fun as F st H v d z Q fr r e q => by
  unfold allS at e
  cases q1 : lstI st d with
  | none => rw [q1] at e; cases e
  | some ds =>
    cases q2 : boolsD ds with
    | none => rw [q1] at e; simp only [Option.bind_some, q2, Option.map_none] at e; cases e
    | some bs =>
      rw [q1] at e
      simp only [Option.bind_some, q2, Option.map_some, Option.some.injEq] at e
      subst e
      obtain ⟨l, vs, rfl, h2, h3⟩ := lkLI fr r q1
      rw [bools_of q2] at h3
      exact ⟨l, bs, rfl, h3.of_bls ▸ h2, q as F H _ (Go.rfl fr) (.bl _)⟩
theorem C1.sum_ (hc : X.calm = true) : C1 X W (.builtin "sum") (g1 sumS) := .one (cr_sum hc) fun as F st H v d z Q fr r e q => by
  unfold sumS at e
  cases q1 : lstI st d with
  | none => rw [q1] at e; cases e
  | some ds =>
    cases q2 : intsD ds with
    | none => rw [q1] at e; simp only [Option.bind_some, q2, Option.map_none] at e; cases e
    | some bs =>
      rw [q1] at e
      simp only [Option.bind_some, q2, Option.map_some, Option.some.injEq] at e
      subst e
      obtain ⟨l, vs, rfl, h2, h3⟩ := lkLI fr r q1
      rw [ints_of q2] at h3
      exact ⟨l, bs, rfl, h3.of_ints ▸ h2, q as F H _ (Go.rfl fr) (.int _)⟩
end
end Dl
end
section
set_option Elab.async false
set_option linter.all false
set_option maxRecDepth 100000
namespace Dl
open PySem PySem.Spec L2
/-! ### things that speak of few tracked ones -/
mutual
noncomputable def D.closed (n : Nat) : D → Bool
  | .obj i => decide (i < n)
  | .lst xs => closeds n xs
  | .lstR xs => closeds n xs
  | .tup xs => closeds n xs
  | .ins _ _ xs => closeds n xs
  | .dK _ xs => closeds n xs
  | .dT _ xs => closeds n xs
  | .dN _ xs => closeds n xs
  | _ => true
noncomputable def closeds (n : Nat) : List D → Bool
  | [] => true
  | x :: xs => D.closed n x && closeds n xs
end
section
variable {K : PySem.W.Frag} {mg : Str → Option Value} {as : List Addr} {F H : Hp} {st : Sto}
mutual
theorem Rep.closed : ∀ {v : V} {d : D}, Rep K mg as F v d → d.closed as.length = true
  | _, _, .non => rfl
  | _, _, .bl _ => rfl
  | _, _, .int _ => rfl
  | _, _, .str _ => rfl
  | _, _, .ty _ => rfl
  | _, _, .fn _ => rfl
  | _, _, .gl _ => rfl
  | _, _, .obj h => by simp only [D.closed]; exact decide_eq_true (List.getElem?_eq_some_iff.mp h).1
  | _, _, .lst h r => by simp only [D.closed]; exact Reps.closed r
  | _, _, .lstR h r => by simp only [D.closed]; exact Reps.closed r
  | _, _, .tup h r => by simp only [D.closed]; exact Reps.closed r
  | _, _, .ins c h r => by simp only [D.closed]; exact Reps.closed r
  | _, _, .dK h r => by simp only [D.closed]; exact Reps.closed r
  | _, _, .dT h r => by simp only [D.closed]; exact Reps.closed r
  | _, _, .dN h r => by simp only [D.closed]; exact Reps.closed r
theorem Reps.closed : ∀ {vs : List V} {ds : List D}, Reps K mg as F vs ds → closeds as.length ds = true
  | _, _, .nil => rfl
  | _, _, .cons h t => by simp only [closeds, Rep.closed h, Reps.closed t, Bool.and_self]
end
mutual
theorem Rep.shrink (n : Nat) : ∀ {v : V} {d : D}, Rep K mg as F v d → d.closed n = true → Rep K mg (as.take n) F v d
  | _, _, .non, _ => .non
  | _, _, .bl _, _ => .bl _
  | _, _, .int _, _ => .int _
  | _, _, .str _, _ => .str _
  | _, _, .ty _, _ => .ty _
  | _, _, .fn _, _ => .fn _
  | _, _, .gl h, _ => .gl h
  | _, _, .obj h, c => by
    simp only [D.closed, decide_eq_true_eq] at c
    exact .obj (by rw [List.getElem?_take_of_lt c]; exact h)
  | _, _, .lst h r, c => .lst h (Reps.shrink n r (by simpa only [D.closed] using c))
  | _, _, .lstR h r, c => .lstR h (Reps.shrink n r (by simpa only [D.closed] using c))
  | _, _, .tup h r, c => .tup h (Reps.shrink n r (by simpa only [D.closed] using c))
  | _, _, .ins k h r, c => .ins k h (Reps.shrink n r (by simpa only [D.closed] using c))
  | _, _, .dK h r, c => .dK h (Reps.shrink n r (by simpa only [D.closed] using c))
  | _, _, .dT h r, c => .dT h (Reps.shrink n r (by simpa only [D.closed] using c))
  | _, _, .dN h r, c => .dN h (Reps.shrink n r (by simpa only [D.closed] using c))
theorem Reps.shrink (n : Nat) : ∀ {vs : List V} {ds : List D}, Reps K mg as F vs ds → closeds n ds = true → Reps K mg (as.take n) F vs ds
  | _, _, .nil, _ => .nil
  | _, _, .cons h t, c => by
    simp only [closeds, Bool.and_eq_true] at c
    exact .cons (Rep.shrink n h c.1) (Reps.shrink n t c.2)
end
theorem Own.closed {a : Addr} {d : D} (w : Own K mg as F H a d) : d.closed as.length = true := by
  cases w <;> simp only [D.closed] <;> exact Reps.closed (by assumption)
theorem Own.shrink {a : Addr} {d : D} (n : Nat) (w : Own K mg as F H a d) (c : d.closed n = true) : Own K mg (as.take n) F H a d := by
  cases w with
  | lst h r => exact .lst h (r.shrink n (by simpa only [D.closed] using c))
  | ins k h r => exact .ins k h (r.shrink n (by simpa only [D.closed] using c))
  | dK h r => exact .dK h (r.shrink n (by simpa only [D.closed] using c))
  | dT h r => exact .dT h (r.shrink n (by simpa only [D.closed] using c))
  | dN h r => exact .dN h (r.shrink n (by simpa only [D.closed] using c))
theorem Frm.closed (f : Frm K mg as F st H) {i : Nat} {d : D} (e : st[i]? = some d) : d.closed st.length = true := by
  obtain ⟨a, _, _, w⟩ := f.adr e
  rw [← f.len]
  exact w.closed
/-- the last tracked things are no longer tracked -/
theorem Frm.cut {n : Nat} (f : Frm K mg as F st H) (c : ∀ (i : Nat) (d : D), i < n → st[i]? = some d → d.closed n = true) : Frm K mg (as.take n) F (st.take n) H := by
  refine ⟨f.sub, by simp [f.len], f.nod.sublist (List.take_sublist _ _), fun i a d e e' => ?_⟩
  by_cases hi : i < n
  · rw [List.getElem?_take_of_lt hi] at e e'
    obtain ⟨h1, h2⟩ := f.own i a d e e'
    exact ⟨h1, h2.shrink n (c i d hi e')⟩
  · rw [List.getElem?_take_eq_none (Nat.le_of_not_lt hi)] at e
    cases e
end
/-! ### a def as a function of data -/
noncomputable abbrev G := List D → Sto → Option (R D)
noncomputable def dSp (K : PySem.W.Frag) (mg : Str → Option Value) (n : Nat) (g : G) : Sp := fun vs H Q E => vs.length = n ∧ ∃ as F ds st r, Frm K mg as F st H ∧ Reps K mg as F vs ds ∧ g ds st = some r ∧ PostR K mg (Rep K mg) (fun c od _ H => E c od H) as F H [] Q r
noncomputable def Fk (P : Program) (w : World) (K : PySem.W.Frag) (mg : Str → Option Value) (base : Heap) (k : Nat) (f : Addr) (n : Nat) (g : G) : Prop :=
  ∃ fd ps, ps.length = n ∧ FnOk P w K mg base (L2.CX P w) k f fd ps (dSp K mg n g) ∧ Binds K fd ps []
theorem Fk.mono {P : Program} {w : World} {K : PySem.W.Frag} {mg : Str → Option Value} {base : Heap} {j k : Nat} {f : Addr} {n : Nat} {g : G} (F : Fk P w K mg base j f n g) (h : j ≤ k) : Fk P w K mg base k f n g :=
  let ⟨fd, ps, h1, h2, h3⟩ := F; ⟨fd, ps, h1, h2.mono h, h3⟩
section
variable {X : Cx} {W : WX} {k n : Nat} {f : Addr} {g : G}
theorem Fk.code (F : Fk X.prog X.w X.K X.mg X.base k f n g) {A : Around} (sb : Sub X k A) (tk : Takes X W) {pins : List (Addr × Obj)} {s : Shared} {σ : St} {H : Hp} {as : List Addr} {Fz : Hp} {env : En} {st : Sto} {vs : List V} {us : List Value} {ds : List D} {Q : VK}
    (I : Inv X pins σ H s) (r : Vals vs us) (rp : Reps X.K X.mg as Fz vs ds) (hl : ds.length = n) (at_ : AtR X.K X.mg (Rep X.K X.mg) W (fun _ st => g ds st) as Fz env st σ H Q) :
    codeAny (model X.prog X.w) A (.call (.ref f) ⟨us, []⟩) (fun r s' => match r with | .ok (.ret v) => EP X pins σ Q v s' | .ok _ => False | .error e => X.xe e s') s := by
  obtain ⟨fd, ps, hn, F, hb⟩ := F
  obtain ⟨fr, _, z, ez, pz⟩ := at_
  have hsp : dSp X.K X.mg n g vs H Q (WE W σ) := by
    refine ⟨by rw [rp.length]; exact hl, as, Fz, ds, st, z, fr, rp, ez, ?_⟩
    cases z with
    | ok d st' => exact pz
    | ex c ns ds st' => exact pz
  have e0 : Env0 X.prog X.w X.K X.mg X.base A X.stack s H := by
    have e := I.env0
    exact ⟨by rw [sb.fr]; exact e.frames, e.mod, e.bs, e.bsz, e.funs, e.frf, e.hok, e.bare⟩
  have hl2 : us.length = ps.length := by rw [← r.length]; exact F.len _ _ _ _ hsp
  have b := hb s us I.kIn (by rw [List.append_nil]; exact hl2)
  rw [List.append_nil] at b
  refine codeAny_mono (F.run A X.stack s H ⟨us, []⟩ us vs Q (WE W σ) sb.room e0 b r hsp) fun r s' hq => ?_
  cases r with
  | error e => exact passAt tk σ pins H s e s' I hq
  | ok fl =>
    cases fl with
    | ret u => exact I.after hq
    | next => exact False.elim hq
    | brk => exact False.elim hq
    | cont => exact False.elim hq
theorem Fk.run (F : Fk X.prog X.w X.K X.mg X.base k f n g) {A : Around} (sb : Sub X k A) (tk : Takes X W) {pins : List (Addr × Obj)} {s : Shared} {σ : St} {H : Hp} {as : List Addr} {Fz : Hp} {env : En} {st : Sto} {vs : List V} {us : List Value} {ds : List D} {Q : VK}
    (I : Inv X pins σ H s) (r : Vals vs us) (rp : Reps X.K X.mg as Fz vs ds) (hl : ds.length = n) (at_ : AtR X.K X.mg (Rep X.K X.mg) W (fun _ st => g ds st) as Fz env st σ H Q) :
    wpAny (model X.prog X.w) A (call (.ref f) us) (EP X pins σ Q) X.xe s := wpAny_call (F.code sb tk I r rp hl at_)
variable {x m : Str} {p pos apos : Pos} {e o : Expr} {es : List Expr} {fa : FA} {fo : FE}
noncomputable def fCall (n : Nat) (g : G) (fa : FA) : FE := fBind fa fun ds => fGd (Nat.beq ds.length n) (fun _ st => g ds st)
theorem de_call {j : Nat} (F : Fk X.prog X.w X.K X.mg X.base j f n g) (hm : X.mg x = some (.ref f)) (hk : PySem.W.keepIn X.K (.ref f) = true) (hr : Room k X.A) (tk : Takes X W) (ha : DA X W (e :: es) fa) (hj : j ≤ k := by decide)
    (hg : Gl X x := by rfl) (hdb : (x == ("__debug__" : Str)) = false := by decide) (he : starEach (e :: es) X.env = (false, eval e X.env) :: starEach es X.env := by rfl) (hpl : (backTo pos (starEach es X.env)).any (·.1) = false := by rfl) :
    DE X W (.Call (.Name x p) (e :: es) [] pos) (fCall n g fa) := by
  refine ⟨fun pins s σ H Q I ⟨as, F0, env, st, h⟩ => ?_⟩
  refine wpAny_Call_Name_kw (ld_glob I hg hm ?_ hdb)
  have h' : tDA X.K X.mg W fa σ H (fun vs H1 => ∃ as F env st ds, Reps X.K X.mg as F vs ds ∧ ds.length = n ∧ AtR X.K X.mg (Rep X.K X.mg) W (fun _ st => g ds st) as F env st σ H1 Q) :=
    h.bind fun as1 F1 st1 d v H1 _ x1 r1 h1 => by
      obtain ⟨hc, h2⟩ := h1.gd
      exact ⟨as1, F1, env, st1, d, r1, Nat.eq_of_beq_eq_true hc, h2⟩
  refine PySem.W.callWith_K (h₀ := X.base) I.ok.mod.kin hk (thn (ha.run pos pins s σ H _ I h') fun us s1 ⟨vs, H1, I1, r, as, F1, env, st, ds, q1, q2, q3⟩ => ⟨I1.kIn, ?_⟩) he hpl
  exact (F.mono hj).run ⟨hr, rfl⟩ tk I1 r q1 q2 q3
/-! ### instances -/
theorem lkI {K : PySem.W.Frag} {mg : Str → Option Value} {as : List Addr} {F H : Hp} {st : Sto} {v : V} {d : D} {c : Str} {ns : List Str} {ds : List D} (fr : Frm K mg as F st H) (r : Rep K mg as F v d) (e : look st d = some (.ins c ns ds)) :
    ∃ a C dx fs, v = .ref a ∧ mg c = some (.ref C) ∧ H a = some (.ins C dx fs) ∧ fs.map (·.1) = ns ∧ Reps K mg as F (fs.map (·.2)) ds := by
  by_cases ho : ∃ i, d = .obj i
  · obtain ⟨i, rfl⟩ := ho
    cases r
    rename_i a hi
    simp only [look] at e
    obtain ⟨d2, e2, _, w⟩ := fr.has hi
    rw [e] at e2; cases e2
    cases w with
    | ins k h r => exact ⟨a, _, _, _, rfl, k, h, rfl, r⟩
  · rw [look_self (fun i z => ho ⟨i, z⟩)] at e
    cases e
    cases r with
    | ins k h r => exact ⟨_, _, _, _, rfl, k, fr.sub _ _ h, rfl, r⟩
/-- the attribute f -/
noncomputable def lookN (f : Str) : List Str → List D → Option D
  | n :: ns, d :: ds => if f = n then some d else lookN f ns ds
  | _, _ => none
theorem lookN_of {K : PySem.W.Frag} {mg : Str → Option Value} {as : List Addr} {F : Hp} {f : Str} : ∀ {fs : List (Str × V)} {ds : List D} {d : D}, Reps K mg as F (fs.map (·.2)) ds → lookN f (fs.map (·.1)) ds = some d → ∃ v, fs.lookup f = some v ∧ Rep K mg as F v d
  | [], _, _, r, e => by cases r; simp [lookN] at e
  | (n, v) :: fs, _, d, r, e => by
    cases r with
    | cons h t =>
      simp only [List.map_cons, lookN] at e
      by_cases hn : f = n
      · rw [if_pos hn] at e
        cases e
        exact ⟨v, by simp [List.lookup, hn], h⟩
      · rw [if_neg hn] at e
        obtain ⟨u, h1, h2⟩ := lookN_of t e
        have hb : (f == n) = false := beq_eq_false_iff_ne.mpr hn
        exact ⟨u, by simp only [List.lookup, hb]; exact h1, h2⟩
theorem lookup_none {f : Str} : ∀ {fs : List (Str × V)}, (fs.map (·.1)).contains f = false → fs.lookup f = none
  | [], _ => rfl
  | (n, v) :: fs, h => by
    simp only [List.map_cons, List.contains_cons, Bool.or_eq_false_iff] at h
    simp only [List.lookup, h.1]
    exact lookup_none h.2
variable {C : Addr} {c : Str}
noncomputable def fldS (c f : Str) (st : Sto) (d : D) : Option D := match look st d with
  | some (.ins c' ns ds) => if c' = c then lookN f ns ds else none
  | _ => none
noncomputable def fFld (c f : Str) (fo : FE) : FE := fBind fo fun d => fP fun st => fldS c f st d
theorem de_fld {f : Str} (hC : X.mg c = some (.ref C)) (cl : Cls X.K C) (na : NoAttr X.K C f) (he : DE X W e fo) (hb : attributeBase e f X.env (eval e X.env) = eval e X.env := by rfl) : DE X W (.Attribute e f pos) (fFld c f fo) := by
  refine pe_imp (pe_fld he hb) fun σ H Q ⟨as, F, env, st, h⟩ => ?_
  refine h.bind fun as1 F1 st1 d v H1 e1 x1 r1 h1 => ?_
  obtain ⟨z, e, q⟩ := h1.pure
  unfold fldS at e
  split at e
  · rename_i c' ns ds hl
    split at e
    · rename_i hc
      subst hc
      obtain ⟨a, C', dx, fs, rfl, h2, h3, h4, h5⟩ := lkI h1.frm r1 hl
      rw [hC] at h2; cases h2
      rw [← h4] at e
      obtain ⟨v, ev, rv⟩ := lookN_of h5 e
      exact ⟨a, C, dx, fs, v, rfl, h3, cl, na, ev, q as1 F1 H1 v (Go.rfl h1.frm) rv⟩
    · cases e
  · cases e
/-- o.m(..): the class's own def -/
noncomputable def isIns (c m : Str) (st : Sto) (d : D) : Bool := match look st d with
  | some (.ins c' ns _) => decide (c' = c) && !ns.contains m
  | _ => false
theorem isIns_of {c m : Str} {st : Sto} {d : D} (h : isIns c m st d = true) : ∃ ns ds, look st d = some (.ins c ns ds) ∧ ns.contains m = false := by
  unfold isIns at h
  split at h
  · rename_i c' ns ds hl
    simp only [Bool.and_eq_true, decide_eq_true_eq, Bool.not_eq_true'] at h
    obtain ⟨rfl, h2⟩ := h
    exact ⟨ns, ds, hl, h2⟩
  · cases h
noncomputable def fMeth (c m : Str) (n : Nat) (g : G) (fo : FE) (fa : FA) : FE := fBind fo fun d => fun env st => fGd (isIns c m st d) (fBind fa fun ds => fGd (Nat.beq (ds.length + 1) n) (fun _ st => g (d :: ds) st)) env st
theorem AtR.gdS {K : PySem.W.Frag} {mg : Str → Option Value} {W : WX} {α β : Type} {rel : Rl β α} {as : List Addr} {F : Hp} {env : En} {st : Sto} {σ : St} {H : Hp} {Q : β → Hp → Prop} {cnd : Sto → Bool} {f : FX α} (h : AtR K mg rel W (fun env st => fGd (cnd st) f env st) as F env st σ H Q) : cnd st = true ∧ AtR K mg rel W f as F env st σ H Q := by
  have h1 := h.congr (f' := fGd (cnd st) f) rfl
  exact h1.gd
theorem de_meth {j : Nat} {pl : Sem Bool} (F : Fk X.prog X.w X.K X.mg X.base j f n g) (hC : X.mg c = some (.ref C)) (cl : Cls X.K C) (hm : Meth X.K C m f) (hr : Room k X.A) (tk : Takes X W) (he : DE X W o fo) (ha : DA X W (e :: es) fa) (hj : j ≤ k := by decide)
    (hst : starEach (e :: es) X.env = (false, eval e X.env) :: starEach es X.env := by rfl) (hpl : (backTo pos (starEach es X.env)).any (·.1) = false := by rfl)
    (ht : eval (.Call (.Attribute o m apos) (e :: es) [] pos) X.env = (do
      let ov ← eval o X.env
      standAt apos.atName
      let (f, first) ← holding [ov] (getMethod ov m pl)
      callWith pos f first (backTo pos (starEach (e :: es) X.env)) (backToKw pos (keywordEach [] X.env))) := by rfl) :
    DE X W (.Call (.Attribute o m apos) (e :: es) [] pos) (fMeth c m n g fo fa) := by
  refine ⟨fun pins s σ H Q I ⟨as, F0, env, st, h⟩ => ?_⟩
  have h' : tD X.K X.mg W fo σ H (fun x H1 => ∃ a dx fs, x = .ref a ∧ H1 a = some (.ins C dx fs) ∧ fs.lookup m = none ∧ tDA X.K X.mg W fa σ H1 (fun vs H2 => ∃ as F env st ds, Reps X.K X.mg as F (x :: vs) ds ∧ ds.length = n ∧ AtR X.K X.mg (Rep X.K X.mg) W (fun _ st => g ds st) as F env st σ H2 Q)) :=
    h.bind fun as1 F1 st1 d v H1 e1 x1 r1 h1 => by
      obtain ⟨hi, h2⟩ := h1.gdS
      obtain ⟨ns, ds, hl, hn⟩ := isIns_of hi
      obtain ⟨a, C', dx, fs, rfl, h3, h4, h5, h6⟩ := lkI h1.frm r1 hl
      rw [hC] at h3; cases h3
      refine ⟨a, dx, fs, rfl, h4, lookup_none (by rw [h5]; exact hn), h2.bind fun as2 F2 st2 d2 v2 H2 e2 x2 r2 h3 => ?_⟩
      obtain ⟨hc, h7⟩ := h3.gd
      exact ⟨as2, F2, env, st2, d :: d2, .cons (r1.mono x2) r2, Nat.eq_of_beq_eq_true hc, h7⟩
  refine PySem.W.methodCall_KW (pl := pl) (thn (he.run pins s σ H _ I h') fun u s1 ⟨x, H1, I1, rx, a, dx, fs, ex, ea, l, q⟩ => ?_) ht
  subst ex
  obtain rfl : u = Value.ref a := rx
  refine getmeth_ok I1 ea cl hm l ?_
  refine PySem.W.callWith_K (first := [.ref a]) (h₀ := X.base) I.ok.mod.kin hm.kp (thn (ha.run pos pins s1 σ H1 _ I1 q) fun us s2 ⟨vs, H2, I2, r, as, F2, env, st, ds, q1, q2, q3⟩ => ⟨I2.kIn, ?_⟩) hst hpl
  exact (F.mono hj).run (us := .ref a :: us) (vs := .ref a :: vs) ⟨hr, rfl⟩ tk I2 (.cons rfl r) q1 q2 q3
noncomputable def fMeth0 (c m : Str) (g : G) (fo : FE) : FE := fBind fo fun d => fun env st => fGd (isIns c m st d) (fun _ st => g [d] st) env st
theorem de_meth0 {j : Nat} {pl : Sem Bool} (F : Fk X.prog X.w X.K X.mg X.base j f 1 g) (hC : X.mg c = some (.ref C)) (cl : Cls X.K C) (hm : Meth X.K C m f) (hr : Room k X.A) (tk : Takes X W) (he : DE X W o fo) (hj : j ≤ k := by decide)
    (ht : eval (.Call (.Attribute o m apos) [] [] pos) X.env = (do
      let ov ← eval o X.env
      standAt apos.atName
      let (f, first) ← holding [ov] (getMethod ov m pl)
      callWith pos f first (backTo pos (starEach [] X.env)) (backToKw pos (keywordEach [] X.env))) := by rfl) :
    DE X W (.Call (.Attribute o m apos) [] [] pos) (fMeth0 c m g fo) := by
  refine ⟨fun pins s σ H Q I ⟨as, F0, env, st, h⟩ => ?_⟩
  have h' : tD X.K X.mg W fo σ H (fun x H1 => ∃ a dx fs, x = .ref a ∧ H1 a = some (.ins C dx fs) ∧ fs.lookup m = none ∧ ∃ as F env st ds, Reps X.K X.mg as F [x] ds ∧ ds.length = 1 ∧ AtR X.K X.mg (Rep X.K X.mg) W (fun _ st => g ds st) as F env st σ H1 Q) :=
    h.bind fun as1 F1 st1 d v H1 e1 x1 r1 h1 => by
      obtain ⟨hi, h2⟩ := h1.gdS
      obtain ⟨ns, ds, hl, hn⟩ := isIns_of hi
      obtain ⟨a, C', dx, fs, rfl, h3, h4, h5, h6⟩ := lkI h1.frm r1 hl
      rw [hC] at h3; cases h3
      exact ⟨a, dx, fs, rfl, h4, lookup_none (by rw [h5]; exact hn), as1, F1, env, st1, [d], .cons r1 .nil, rfl, h2⟩
  refine PySem.W.methodCall_KW (pl := pl) (thn (he.run pins s σ H _ I h') fun u s1 ⟨x, H1, I1, rx, a, dx, fs, ex, ea, l, as, F2, env, st, ds, q1, q2, q3⟩ => ?_) ht
  subst ex
  obtain rfl : u = Value.ref a := rx
  refine getmeth_ok I1 ea cl hm l ?_
  exact PySem.W.callWith_K0 (first := [.ref a]) I1.kIn hm.kp ((F.mono hj).run (us := [.ref a]) (vs := [.ref a]) ⟨hr, rfl⟩ tk I1 (.cons rfl .nil) q1 q2 q3)
/-- e.f, a property -/
noncomputable def isCls (c : Str) (st : Sto) (d : D) : Bool := match look st d with
  | some (.ins c' _ _) => decide (c' = c)
  | _ => false
theorem isCls_of {c : Str} {st : Sto} {d : D} (h : isCls c st d = true) : ∃ ns ds, look st d = some (.ins c ns ds) := by
  unfold isCls at h
  split at h
  · rename_i c' ns ds hl
    have := of_decide_eq_true h
    subst this
    exact ⟨ns, ds, hl⟩
  · cases h
/-- what raises is not spoken of -/
noncomputable def noEx {α : Type} (f : FX α) : FX α := fun env st => match f env st with
  | some (.ok d st') => some (.ok d st')
  | _ => none
theorem AtR.noEx {K : PySem.W.Frag} {mg : Str → Option Value} {W W' : WX} {α β : Type} {rel : Rl β α} {as : List Addr} {F : Hp} {env : En} {st : Sto} {σ : St} {H : Hp} {Q : β → Hp → Prop} {f : FX α} (h : AtR K mg rel W (Dl.noEx f) as F env st σ H Q) : AtR K mg rel W' f as F env st σ H Q := by
  obtain ⟨h1, h2, r, e, p⟩ := h
  unfold Dl.noEx at e
  split at e
  · rename_i d st' q
    cases e
    exact ⟨h1, h2, _, q, p⟩
  · cases e
noncomputable def fProp (c : Str) (g : G) (fo : FE) : FE := fBind fo fun d => fun env st => fGd (isCls c st d) (noEx fun _ st => g [d] st) env st
theorem de_prop {j : Nat} {pa : Addr} {q : Str} (F : Fk X.prog X.w X.K X.mg X.base j f 1 g) (hC : X.mg c = some (.ref C)) (cl : Cls X.K C) (hp : PropOf X.K C q pa f) (hr : Room k X.A) (he : DE X W e fo) (hj : j + 1 ≤ k := by decide)
    (hab : attributeBase e q X.env (eval e X.env) = eval e X.env := by rfl) : DE X W (.Attribute e q pos) (fProp c g fo) := by
  refine ⟨fun pins s σ H Q I ⟨as, F0, env, st, h⟩ => ?_⟩
  have h' : tD X.K X.mg W fo σ H (fun x H1 => ∃ a dx fs, x = .ref a ∧ H1 a = some (.ins C dx fs) ∧ ∃ as F env st ds, Reps X.K X.mg as F [x] ds ∧ ds.length = 1 ∧ AtR X.K X.mg (Rep X.K X.mg) (fun _ _ _ _ => False) (fun _ st => g ds st) as F env st σ H1 Q) :=
    h.bind fun as1 F1 st1 d v H1 e1 x1 r1 h1 => by
      obtain ⟨hi, h2⟩ := h1.gdS
      obtain ⟨ns, ds, hl⟩ := isCls_of hi
      obtain ⟨a, C', dx, fs, rfl, h3, h4, h5, h6⟩ := lkI h1.frm r1 hl
      rw [hC] at h3; cases h3
      exact ⟨a, dx, fs, rfl, h4, as1, F1, env, st1, [d], .cons r1 .nil, rfl, h2.noEx⟩
  refine attr_of hab (thn (he.run pins s σ H _ I h') fun u s1 ⟨x, H1, I1, rx, a, dx, fs, ex, ea, as, F2, env, st, ds, q1, q2, q3⟩ => ?_)
  subst ex
  obtain rfl : u = Value.ref a := rx
  obtain ⟨mA, O, _, _, _, _⟩ := ins_get I1.hok ea
  obtain ⟨od, J, _⟩ := O.look
  obtain ⟨rest, hrec⟩ := hp.rec_
  have I2 := I1.tok (s1.toks + 1)
  have hc : (PySem.W.clsIn X.K C).isSome = true := by
    obtain ⟨cd, hc, _⟩ := PySem.W.any_some cl.hd
    rw [hc]
    rfl
  have sb : Sub X.nox j X.A.in1 := ⟨(hr.mono hj).in1, rfl⟩
  have run := Fk.code (X := X.nox) F (us := [.ref a]) (vs := [.ref a]) sb takes0 (I2.wish _) (.cons rfl .nil) q1 q2 q3
  refine PySem.W.get_bind I1.kIn J (PySem.W.plainGet_of (cl.get q)).1 (PySem.W.findObj_data hc hp.at_ hp.get hp.tak) (PySem.W.plainGet_of (cl.get q)).2 (wpAny_call (PySem.W.prop_get (s := { s1 with toks := s1.toks + 1 }) I1.kIn hrec ?_))
  refine codeAny_mono run fun r s' hq => ?_
  cases r with
  | error er => exact hq.elim
  | ok fl =>
    cases fl with
    | ret u =>
      obtain ⟨v, H', I3, rv, q3⟩ := hq
      show wpAny _ _ (handedOut u) _ _ _
      rw [PySem.W.handedOut_of (handed_of rv)]
      exact wpAny_pure ⟨v, H', I3.unwish, rv, q3⟩
    | next => exact hq.elim
    | brk => exact hq.elim
    | cont => exact hq.elim
end
end Dl
end
section
set_option Elab.async false
set_option linter.all false
set_option maxRecDepth 100000
namespace Dl
open PySem PySem.Spec L2
/-! ### classes: what of the text is wanted -/
noncomputable def btys : List String := ["NoneType", "bool", "int", "str", "list", "tuple", "dict"]
structure CI (K : PySem.W.Frag) (C : Addr) : Prop where
  cl : Cls K C
  ha : PySem.W.findIn K (.ref C) "__class__" = some (some (.builtin "object.__class__"))
  hn : PySem.W.specialIn K (.builtin "object.__class__") "__get__" = some (some (.builtin "getset_descriptor.__get__"))
  htk : PySem.W.takesIn K (.builtin "object.__class__") = some true
  hm : PySem.W.mroIn K C (.type "object") = some true
  kt : (btys.all fun T => PySem.W.kitOne K (.ref C) (.type T) == some false) = true
  tk : (btys.all fun T => PySem.W.kitOne K (.type T) (.ref C) == some false) = true
  nf : (btys.all fun T => PySem.W.notFirst K C (.type T)) = true
  ne : PySem.W.findIn K (.ref C) "__ne__" = some (some (.builtin "object.__ne__"))
  so : PySem.W.subIn K (.ref C) (.type "object") = some true
/-- the classes that may come up: each with its facts, two of them are not one -/
structure CS (K : PySem.W.Frag) (mg : Str → Option Value) (cs : List Str) : Prop where
  ci : ∀ c ∈ cs, ∀ C, mg c = some (.ref C) → CI K C
  two : ∀ c ∈ cs, ∀ c' ∈ cs, ∀ C C', mg c = some (.ref C) → mg c' = some (.ref C') → PySem.W.kitOne K (.ref C) (.ref C') = some (decide (c = c')) ∧ PySem.W.notFirst K C (.ref C') = true
noncomputable def tyN : D → Option String
  | .non => some "NoneType"
  | .bl _ => some "bool"
  | .int _ => some "int"
  | .str _ => some "str"
  | .lst _ => some "list"
  | .lstR _ => some "list"
  | .tup _ => some "tuple"
  | .dK _ _ => some "dict"
  | .dT _ _ => some "dict"
  | _ => none
theorem tyN_mem {d : D} {T : String} (e : tyN d = some T) : T ∈ btys := by
  cases d <;> simp only [tyN, reduceCtorEq, Option.some.injEq] at e <;> subst e <;> decide
section
variable {K : PySem.W.Frag} {mg : Str → Option Value} {as : List Addr} {F H : Hp} {st : Sto} {v : V} {d d' : D}
theorem tyL {a : Addr} {xs : List V} (h : SqL K H a xs) : TyX K H (.ref a) (.type "list") := by
  rcases h with (h | ⟨o, h⟩) | ⟨o, its, n, h, c, _⟩
  · exact .base (.lst h)
  · exact .base (.frz h)
  · exact .kList h c
theorem tyT {a : Addr} {xs : List V} (h : SqT K H a xs) : TyX K H (.ref a) (.type "tuple") := by
  rcases h with (h | ⟨o, h⟩) | ⟨o, its, n, h, c, _⟩
  · exact .base (.tup h)
  · exact .fTuple h
  · exact .kTuple h c
theorem tyX_of {T : String} (fr : Frm K mg as F st H) (r : Rep K mg as F v d) (e : look st d = some d') (t : tyN d' = some T) : TyX K H v (.type T) := by
  by_cases ho : ∃ i, d = .obj i
  · obtain ⟨i, rfl⟩ := ho
    cases r
    rename_i a hi
    simp only [look] at e
    obtain ⟨d2, e2, _, w⟩ := fr.has hi
    rw [e] at e2; cases e2
    cases w <;> simp only [tyN, reduceCtorEq, Option.some.injEq] at t <;> subst t
    · exact .base (.lst (by assumption))
    · exact .base (.dK (by assumption))
    · exact .base (.dT (by assumption))
  · rw [look_self (fun i z => ho ⟨i, z⟩)] at e
    cases e
    cases r <;> simp only [tyN, reduceCtorEq, Option.some.injEq] at t <;> subst t
    · exact .base .non
    · exact .base (.bl _)
    · exact .base (.int _)
    · exact .base (.str _)
    · rename_i h _; exact .base (.lst (fr.sub _ _ h))
    · rename_i h _; exact tyL (h.ext fr.sub)
    · rename_i h _; exact tyT (h.sq.ext fr.sub)
    · rename_i h _; exact .base (.dK (fr.sub _ _ h))
    · rename_i h _; exact .base (.dT (fr.sub _ _ h))
theorem CI.ty {C a dx : Addr} {fs : List (Str × V)} (ci : CI K C) (h : H a = some (.ins C dx fs)) : TyX K H (.ref a) (.ref C) := .base (.ins h ci.cl ci.ha ci.hn ci.htk ci.hm)
end
noncomputable def isB (a b : String) : Bool := a == b || (a == "bool" && b == "int")
theorem kitB_all : (btys.all fun a => btys.all fun b => kitB a b == some (isB a b)) = true := by decide +kernel
theorem kitB_of {a b : String} (ha : a ∈ btys) (hb : b ∈ btys) : kitB a b = some (isB a b) := by
  have h := List.all_eq_true.mp kitB_all a ha
  exact beq_iff_eq.mp (List.all_eq_true.mp h b hb)
section
variable {X : Cx} {W : WX} {e : Expr} {es : List Expr} {pos p : Pos} {fe : FE}
/-! ### isinstance -/
/-- of a built-in class, of one of two -/
noncomputable def isiS (cs : List Str) (Ts : List String) (st : Sto) (d : D) : Option D := match look st d with
  | some (.ins c _ _) => if c ∈ cs then some (.bl false) else none
  | some d' => (tyN d').map fun a => .bl (Ts.any (isB a))
  | none => none
noncomputable def isiO (cs : List Str) (c0 : Str) (st : Sto) (d : D) : Option D := match look st d with
  | some (.ins c _ _) => if c ∈ cs then some (.bl (decide (c = c0))) else none
  | some d' => (tyN d').map fun _ => .bl false
  | none => none
theorem look_cases {cs : List Str} {K : PySem.W.Frag} {mg : Str → Option Value} {as : List Addr} {F H : Hp} {st : Sto} {v : V} {d : D} {z : D} {f : D → Option D} {g : Str → Option D} (S : CS K mg cs) (fr : Frm K mg as F st H) (r : Rep K mg as F v d)
    (e : (match look st d with | some (.ins c _ _) => if c ∈ cs then g c else none | some d' => f d' | none => none) = some z) (hf : ∀ d', f d' = some z → ∃ T, tyN d' = some T) :
    (∃ c C, c ∈ cs ∧ mg c = some (.ref C) ∧ CI K C ∧ TyX K H v (.ref C) ∧ g c = some z) ∨ ∃ d' T, tyN d' = some T ∧ T ∈ btys ∧ TyX K H v (.type T) ∧ f d' = some z := by
  split at e
  · rename_i c ns ds hl
    split at e
    · rename_i hc
      obtain ⟨a, C, dx, fs, rfl, h1, h2, _⟩ := lkI fr r hl
      have ci := S.ci c hc C h1
      exact .inl ⟨c, C, hc, h1, ci, ci.ty h2, e⟩
    · cases e
  · rename_i d' _ hl
    obtain ⟨T, hT⟩ := hf d' e
    exact .inr ⟨d', T, hT, tyN_mem hT, tyX_of fr r hl hT, e⟩
  · cases e
noncomputable def fIsi (cs : List Str) (Ts : List String) (fe : FE) : FE := fBind fe fun d => fP fun st => isiS cs Ts st d
noncomputable def fIsiO (cs : List Str) (c0 : Str) (fe : FE) : FE := fBind fe fun d => fP fun st => isiO cs c0 st d
theorem kt_of {K : PySem.W.Frag} {C : Addr} (ci : CI K C) {T : String} (h : T ∈ btys) : PySem.W.kitOne K (.ref C) (.type T) = some false := beq_iff_eq.mp (List.all_eq_true.mp ci.kt T h)
theorem de_isi {cs : List Str} {t : Expr} {T : String} (S : CS X.K X.mg cs) (hm : X.mg "isinstance" = none) (he : DE X W e fe) (ht : PE X t (tC (.ty T))) (hT : T ∈ btys := by decide) (hg : Gl X "isinstance" := by rfl)
    (hs : starEach [e, t] X.env = (false, eval e X.env) :: starEach [t] X.env := by rfl) (hs2 : starEach [t] X.env = (false, eval t X.env) :: starEach [] X.env := by rfl) (hpl : (backTo pos (starEach [t] X.env)).any (·.1) = false := by rfl) :
    DE X W (.Call (.Name "isinstance" p) [e, t] [] pos) (fIsi cs [T] fe) := by
  refine pe_imp (pe_callB call_isi hg hm (by decide +kernel) (pa_cons he (pa_cons ht pa_nil hs2) hs) (by decide) (by decide) hs hpl) fun σ H Q ⟨as, F, env, st, h⟩ => ?_
  refine h.bind fun as1 F1 st1 d v H1 e1 x1 r1 h1 => ?_
  obtain ⟨z, ez, q⟩ := h1.pure
  rcases look_cases (g := fun _ => some (.bl false)) (f := fun d' => (tyN d').map fun a => .bl ([T].any (isB a))) S h1.frm r1 ez (fun d' e' => by cases q' : tyN d' with | none => rw [q'] at e'; cases e' | some T' => exact ⟨T', rfl⟩) with ⟨c, C, hc, hC, ci, ty, e2⟩ | ⟨d', T', hT', hb, ty, e2⟩
  · cases e2
    exact ⟨v, .ty T, _, _, false, rfl, .ty T, ty, kt_of ci hT, q as1 F1 H1 _ (Go.rfl h1.frm) (.bl _)⟩
  · rw [hT'] at e2
    simp only [Option.map_some, Option.some.injEq, List.any_cons, List.any_nil, Bool.or_false] at e2
    subst e2
    exact ⟨v, .ty T, _, _, _, rfl, .ty T, ty, kit_ty (kitB_of hb hT), q as1 F1 H1 _ (Go.rfl h1.frm) (.bl _)⟩
theorem de_isi2 {cs : List Str} {t u : Expr} {T U : String} {k : Nat} {pt : Pos} (S : CS X.K X.mg cs) (hm : X.mg "isinstance" = none) (he : DE X W e fe) (ht : PE X t (tC (.ty T))) (hu : PE X u (tC (.ty U))) (hT : T ∈ btys := by decide) (hU : U ∈ btys := by decide) (hg : Gl X "isinstance" := by rfl)
    (hs : starEach [e, .Tuple [t, u] k pt] X.env = (false, eval e X.env) :: starEach [.Tuple [t, u] k pt] X.env := by rfl) (hs2 : starEach [.Tuple [t, u] k pt] X.env = (false, eval (.Tuple [t, u] k pt) X.env) :: starEach [] X.env := by rfl)
    (hs3 : starEach [t, u] X.env = (false, eval t X.env) :: starEach [u] X.env := by rfl) (hs4 : starEach [u] X.env = (false, eval u X.env) :: starEach [] X.env := by rfl) (hpl : (backTo pos (starEach [.Tuple [t, u] k pt] X.env)).any (·.1) = false := by rfl) :
    DE X W (.Call (.Name "isinstance" p) [e, .Tuple [t, u] k pt] [] pos) (fIsi cs [T, U] fe) := by
  refine pe_imp (pe_callB call_isiT hg hm (by decide +kernel) (pa_cons he (pa_cons (pe_tup (pa_cons ht (pa_cons hu pa_nil hs4) hs3)) pa_nil hs2) hs) (by decide) (by decide) hs hpl) fun σ H Q ⟨as, F, env, st, h⟩ => ?_
  refine h.bind fun as1 F1 st1 d v H1 e1 x1 r1 h1 => ?_
  refine ⟨by show 2 ≤ sizeLine; decide, fun tp htp => ?_⟩
  obtain ⟨z, ez, q⟩ := h1.pure
  have fr2 := h1.frm.grow (o := .tup [.ty T, .ty U]) htp
  rcases look_cases (g := fun _ => some (.bl false)) (f := fun d' => (tyN d').map fun a => .bl ([T, U].any (isB a))) S fr2 r1 ez (fun d' e' => by cases q' : tyN d' with | none => rw [q'] at e'; cases e' | some T' => exact ⟨T', rfl⟩) with ⟨c, C, hc, hC, ci, ty, e2⟩ | ⟨d', T', hT', hb, ty, e2⟩
  · cases e2
    exact ⟨v, tp, _, _, _, false, rfl, upd_same, .cons (.ty T) (.cons (.ty U) .nil), ty, kitAny_cons (kt_of ci hT) (fun _ => kitAny_cons (kt_of ci hU) (fun _ => rfl) (fun z => by cases z)) (fun z => by cases z), q as1 F1 _ _ (Go.grow h1.frm htp) (.bl _)⟩
  · rw [hT'] at e2
    simp only [Option.map_some, Option.some.injEq, List.any_cons, List.any_nil, Bool.or_false] at e2
    subst e2
    refine ⟨v, tp, _, _, _, (isB T' T || isB T' U), rfl, upd_same, .cons (.ty T) (.cons (.ty U) .nil), ty, kitAny_cons (kit_ty (kitB_of hb hT)) (fun h0 => ?_) (fun h0 => by rw [h0]; rfl), q as1 F1 _ _ (Go.grow h1.frm htp) (.bl _)⟩
    rw [h0, Bool.false_or]
    exact kitAny_cons (kit_ty (kitB_of hb hU)) (fun h1 => by rw [h1]; rfl) (fun h1 => h1)
/-! ### operations of an own class -/
variable {k j n : Nat} {f C : Addr} {g : G} {c : Str} {a b : Expr} {fa fb : FE}
/-- an own def with the object and one more thing -/
noncomputable def gOwn (c : Str) (g : G) : D → D → FE := fun x y => fun env st => fGd (isCls c st x) (fun _ st => g [x, y] st) env st
theorem own_at {K : PySem.W.Frag} {mg : Str → Option Value} {W : WX} {as : List Addr} {F : Hp} {env : En} {st : Sto} {σ : St} {H : Hp} {Q : VK} {v : V} {d : D} {f : FE} (hC : mg c = some (.ref C)) (r : Rep K mg as F v d) (h : AtR K mg (Rep K mg) W (fun env st => fGd (isCls c st d) f env st) as F env st σ H Q) :
    (∃ a dx fs, v = .ref a ∧ H a = some (.ins C dx fs)) ∧ AtR K mg (Rep K mg) W f as F env st σ H Q := by
  obtain ⟨hi, h2⟩ := h.gdS
  obtain ⟨ns, ds, hl⟩ := isCls_of hi
  obtain ⟨a, C', dx, fs, rfl, h3, h4, h5, h6⟩ := lkI h.frm r hl
  rw [hC] at h3; cases h3
  exact ⟨⟨a, dx, fs, rfl, h4⟩, h2⟩
/-- x[i] -/
theorem de_ixOwn (F : Fk X.prog X.w X.K X.mg X.base j f 2 g) (hC : X.mg c = some (.ref C)) (hs : PySem.W.findIn X.K (.ref C) "__getitem__" = some (some (.ref f))) (hf : PySem.W.fnIn X.K f = true) (hfn : PySem.W.isFn X.K (.ref f) = true) (hr : Room k X.A) (tk : Takes X W)
    (ha : DE X W a fa) (hb : DE X W b fb) (hj : j + 1 ≤ k := by decide) (hsl : ∀ x i, subscripted b true (.ref x) i = runValue (.builtin "lifetime.subscript" ⟨[.ref x, i], []⟩) := by (intro _ _; with_unfolding_all rfl)) : DE X W (.Subscript a b pos) (fOp2 (gOwn c g) fa fb) := by
  refine ⟨fun pins s σ H Q I ⟨as, F0, env, st, h⟩ => ?_⟩
  refine PyProof.Rows.Subscript_ (bin ha hb (R := fun x y H2 => rOp X W σ (gOwn c g) x y H2 Q) I ?_ fun v u s2 x y H2 I2 rx ry q => ?_)
  · refine h.bind fun as1 F1 st1 d v H1 _ x1 r1 h1 => ?_
    exact h1.bind fun as2 F2 st2 d2 v2 H2 _ x2 r2 h2 => ⟨as2, F2, env, st2, d, d2, r1.mono x2, r2, h2⟩
  · obtain ⟨as, F2, env, st, dx, dy, h1, h2, h3⟩ := q
    obtain ⟨⟨p, dd, fs, ex, hp⟩, h4⟩ := own_at hC h1 h3
    subst ex
    obtain rfl : v = Value.ref p := rx
    obtain ⟨mA, O, _⟩ := ins_get I2.hok hp
    obtain ⟨od, J, _⟩ := O.look
    obtain ⟨m, hF⟩ := I2.fr
    exact PySem.W.sub_K hF I2.ok.mod.kin J hs hf hfn (F.run (us := [.ref p, u]) (vs := [.ref p, y]) ⟨(hr.mono hj).in1, rfl⟩ tk I2 (.cons rfl (.cons ry .nil)) (.cons h1 (.cons h2 .nil)) rfl h4) (hsl p u)
/-- y in x -/
noncomputable def gInOwn (neg : Bool) (c : Str) (g : G) : D → D → FE := fun y x => fun env st => fGd (isCls c st x) (fBind (fAsB (fun _ st => g [x, y] st)) fun b => fC (.bl (if neg then !b else b))) env st
theorem AtR.bindR {K : PySem.W.Frag} {mg : Str → Option Value} {β α β' γ : Type} {rel : Rl β α} {rel' : Rl β' γ} {W : WX} {fa : FX α} {k : α → FX γ} {as : List Addr} {F : Hp} {env : En} {st : Sto} {σ : St} {H : Hp} {Q' : β' → Hp → Prop} (h : AtR K mg rel' W (fBind fa k) as F env st σ H Q') {R : β → Hp → Prop}
    (hk : ∀ as1 F1 st1 d v H1, fa env st = some (.ok d st1) → Xt as F as1 F1 → rel as1 F1 v d → AtR K mg rel' W (k d) as1 F1 env st1 σ H1 Q' → R v H1) : AtR K mg rel W fa as F env st σ H R := by
  obtain ⟨fr, er, r, e, p⟩ := h
  unfold fBind at e
  refine ⟨fr, er, ?_⟩
  cases q : fa env st with
  | none => rw [q] at e; cases e
  | some z =>
    rw [q] at e
    refine ⟨z, rfl, ?_⟩
    cases z with
    | ok d st1 => exact fun as1 F1 H1 v x rp => hk as1 F1 st1 d v H1 q x.xt rp ⟨x.frm, er.mono x.xt, r, e, p.mono x⟩
    | ex c ns ds st1 => cases e; exact p
/-- the truth of x -/
noncomputable def gTruOwn (c : Str) (g : G) (x : D) : FT := fun env st => fGd (isCls c st x) (fAsB (fun _ st => g [x] st)) env st
theorem dt_truOwn (F : Fk X.prog X.w X.K X.mg X.base j f 1 g) (hC : X.mg c = some (.ref C)) (hs : PySem.W.findIn X.K (.ref C) "__bool__" = some (some (.ref f))) (hfn : PySem.W.isFn X.K (.ref f) = true) (hr : Room k X.A) (tk : Takes X W) (he : DE X W e fe) (hj : j ≤ k := by decide)
    (het : ∀ whole, isTrue e X.env whole = (do let v ← whole; standAt e.pos; holding [v] (truthy v)) := by intro _; rfl) : DT X W e (fBind fe (gTruOwn c g)) := by
  refine ⟨fun pins s σ H Q I ⟨as, F0, env, st, h⟩ => ?_⟩
  have h' : tD X.K X.mg W fe σ H (fun x H1 => ∃ p dx fs as F env st d, x = .ref p ∧ H1 p = some (.ins C dx fs) ∧ Rep X.K X.mg as F x d ∧ AtR X.K X.mg (Rep X.K X.mg) W (fun _ st => g [d] st) as F env st σ H1 (fun v H' => ∃ b, v = .bl b ∧ Q b H')) :=
    h.bind fun as1 F1 st1 d v H1 e1 x1 r1 h1 => by
      obtain ⟨hi, h2⟩ := h1.gdS
      obtain ⟨ns, ds, hl⟩ := isCls_of hi
      obtain ⟨a, C', dx, fs, rfl, h3, h4, h5, h6⟩ := lkI h1.frm r1 hl
      rw [hC] at h3; cases h3
      refine ⟨a, dx, fs, as1, F1, env, st1, d, rfl, h4, r1, ?_⟩
      exact h2.bindR fun as2 F2 st2 d2 v2 H2 e2 x2 r2 h7 => by
        obtain ⟨z, ez, q⟩ := h7.pure
        exact ⟨z, asB_of r2 ez, q as2 F2 H2 _ (Go.rfl h7.frm) rfl⟩
  refine PyProof.Rows.isTrue_plain (thn (he.run pins s σ H _ I h') fun u s1 ⟨x, H1, I1, rx, p, dx, fs, as, F2, env, st, d, ex, hp, q1, q2⟩ => ?_) (het _)
  subst ex
  obtain rfl : u = Value.ref p := rx
  obtain ⟨mA, O, _⟩ := ins_get I1.hok hp
  obtain ⟨od, J, _⟩ := O.look
  obtain ⟨m, hF⟩ := I1.fr
  refine PySem.W.truthy_K hF I1.ok.mod.kin J hs hfn (thn ((F.mono hj).run (us := [.ref p]) (vs := [.ref p]) ⟨hr, rfl⟩ tk I1 (.cons rfl .nil) (.cons q1 .nil) rfl q2) fun r s' ⟨z, H', I', rz, b, ez, q⟩ => ?_)
  subst ez
  cases rz
  exact ⟨H', I', q⟩
/-- x == y, x != y by an own __eq__ -/
noncomputable def gEqOwn (cs : List Str) (neg : Bool) (c : Str) (g : G) : D → D → FE := fun x y => fun env st => fGd (isCls c st x && (isiS cs [] st y).isSome) (fBind (fAsB (fun _ st => g [x, y] st)) fun b => fC (.bl (if neg then !b else b))) env st
end
end Dl
end
section
set_option Elab.async false
set_option linter.all false
set_option maxRecDepth 100000
namespace Dl
open PySem PySem.Spec L2
/-! ### statements -/
inductive Out where
  | nx (env : En) (st : Sto)
  | rt (d : D) (st : Sto)
  | bk (env : En) (st : Sto)
  | ct (env : En) (st : Sto)
  | ex (c : Str) (ns : List Str) (ds : List D) (env : En) (st : Sto)
noncomputable abbrev FS := En → Sto → Option Out
noncomputable def PostS (K : PySem.W.Frag) (mg : Str → Option Value) (W : WX) (as : List Addr) (F H : Hp) (E : Ends) : Out → Prop
  | .nx env st => ∀ as' F' σ' H', Go K mg as F H as' F' st H' → ER K mg as' F' σ' env → E.nx σ' H'
  | .rt d st => ∀ as' F' H' v, Go K mg as F H as' F' st H' → Rep K mg as' F' v d → E.rt v H'
  | .bk env st => ∀ as' F' σ' H', Go K mg as F H as' F' st H' → ER K mg as' F' σ' env → E.bk σ' H'
  | .ct env st => ∀ as' F' σ' H', Go K mg as F H as' F' st H' → ER K mg as' F' σ' env → E.ct σ' H'
  | .ex c ns ds env st => ∀ as' F' σ' H' C od vs, Go K mg as F H as' F' st H' → ER K mg as' F' σ' env → mg c = some (.ref C) → XD H' od ns vs → Reps K mg as' F' vs ds → W (.ref C) od σ' H'
structure AtS (K : PySem.W.Frag) (mg : Str → Option Value) (W : WX) (f : FS) (as : List Addr) (F : Hp) (env : En) (st : Sto) (σ : St) (H : Hp) (E : Ends) : Prop where
  frm : Frm K mg as F st H
  er : ER K mg as F σ env
  run : ∃ r, f env st = some r ∧ PostS K mg W as F H E r
noncomputable def tS (K : PySem.W.Frag) (mg : Str → Option Value) (W : WX) (f : FS) : TS := fun E σ H => ∃ as F env st, AtS K mg W f as F env st σ H E
noncomputable def DS (X : Cx) (W : WX) (s : Stmt) (f : FS) : Prop := PS X s (tS X.K X.mg W f)
noncomputable def DSs (X : Cx) (W : WX) (s : List Stmt) (f : FS) : Prop := PSs X s (tS X.K X.mg W f)
theorem ps_imp {X : Cx} {s : Stmt} {t t' : TS} (h : PS X s t) (i : ∀ E σ H, t' E σ H → t E σ H) : PS X s t' := ⟨fun pins s σ H E I w => h.run pins s σ H E I (i E σ H w)⟩
theorem pss_imp {X : Cx} {s : List Stmt} {t t' : TS} (h : PSs X s t) (i : ∀ E σ H, t' E σ H → t E σ H) : PSs X s t' := ⟨fun pins s σ H E I w => h.run pins s σ H E I (i E σ H w)⟩
noncomputable def fBindS {α : Type} (fa : FX α) (k : α → FS) : FS := fun env st => match fa env st with
  | some (.ok d st') => k d env st'
  | some (.ex c ns ds st') => some (.ex c ns ds env st')
  | none => none
section
variable {K : PySem.W.Frag} {mg : Str → Option Value} {β α : Type} {rel : Rl β α} {W : WX} {fa : FX α} {k : α → FS} {as : List Addr} {F : Hp} {env : En} {st : Sto} {σ : St} {H : Hp} {E : Ends} {f : FS}
theorem PostS.mono {as1 : List Addr} {F1 H1 : Hp} {st1 : Sto} {r : Out} (p : PostS K mg W as F H E r) (x : Go K mg as F H as1 F1 st1 H1) : PostS K mg W as1 F1 H1 E r := by
  cases r with
  | nx env st => exact fun as' F' σ' H' y => p as' F' σ' H' (x.trans y)
  | rt d st => exact fun as' F' H' v y => p as' F' H' v (x.trans y)
  | bk env st => exact fun as' F' σ' H' y => p as' F' σ' H' (x.trans y)
  | ct env st => exact fun as' F' σ' H' y => p as' F' σ' H' (x.trans y)
  | ex c ns ds env st => exact fun as' F' σ' H' C od vs y => p as' F' σ' H' C od vs (x.trans y)
theorem AtS.bind (h : AtS K mg W (fBindS fa k) as F env st σ H E) {R : β → Hp → Prop}
    (hk : ∀ as1 F1 st1 d v H1, fa env st = some (.ok d st1) → Go K mg as F H as1 F1 st1 H1 → rel as1 F1 v d → AtS K mg W (k d) as1 F1 env st1 σ H1 E → R v H1) : tR K mg rel W fa σ H R := by
  obtain ⟨fr, er, r, e, p⟩ := h
  unfold fBindS at e
  refine ⟨as, F, env, st, fr, er, ?_⟩
  cases q : fa env st with
  | none => rw [q] at e; cases e
  | some z =>
    rw [q] at e
    refine ⟨z, rfl, ?_⟩
    cases z with
    | ok d st1 => exact fun as1 F1 H1 v x rp => hk as1 F1 st1 d v H1 q x rp ⟨x.frm, er.mono x.xt, r, e, p.mono x⟩
    | ex c ns ds st1 =>
      cases e
      exact fun as' F' H' C od vs x h1 h2 h3 => p as' F' σ H' C od vs x (er.mono x.xt) h1 h2 h3
theorem AtS.fin {r : Out} (h : AtS K mg W f as F env st σ H E) (e : f env st = some r) : PostS K mg W as F H E r := by
  obtain ⟨_, _, r', e', p⟩ := h
  rw [e] at e'; cases e'; exact p
theorem AtS.bad (h : AtS K mg W f as F env st σ H E) (e : f env st = none) {p : Prop} : p := by
  obtain ⟨_, _, r, e', _⟩ := h
  rw [e] at e'; cases e'
theorem AtS.congr {f' : FS} (h : AtS K mg W f as F env st σ H E) (e : f env st = f' env st) : AtS K mg W f' as F env st σ H E := by
  obtain ⟨h1, h2, r, h3, h4⟩ := h
  exact ⟨h1, h2, r, e ▸ h3, h4⟩
theorem AtS.next (h : AtS K mg W f as F env st σ H E) (e : f env st = some (.nx env st)) : E.nx σ H := h.fin e as F σ H (Go.rfl h.frm) h.er
end
section
variable {X : Cx} {W : WX} {e : Expr} {es : List Expr} {pos : Pos} {fe : FE} {ft : FT} {s : Stmt} {ss : List Stmt} {f g : FS}
noncomputable def sNil : FS := fun env st => some (.nx env st)
noncomputable def sSeq (f g : FS) : FS := fun env st => match f env st with
  | some (.nx env' st') => g env' st'
  | o => o
theorem dss_nil : DSs X W [] sNil := pss_imp pss_nil fun E σ H ⟨as, F, env, st, h⟩ => h.next rfl
theorem dss_one (h : DS X W s f) : DSs X W [s] f := pss_one h
theorem dss_cons (h1 : DS X W s f) (h2 : DSs X W ss g) : DSs X W (s :: ss) (sSeq f g) := by
  refine pss_imp (pss_cons h1 h2) fun E σ H ⟨as, F, env, st, h⟩ => ?_
  obtain ⟨fr, er, r, e, p⟩ := h
  unfold sSeq at e
  refine ⟨as, F, env, st, fr, er, ?_⟩
  cases q : f env st with
  | none => rw [q] at e; cases e
  | some z =>
    rw [q] at e
    refine ⟨z, rfl, ?_⟩
    cases z with
    | nx env1 st1 => exact fun as' F' σ' H' x er' => ⟨as', F', env1, st1, x.frm, er', r, e, p.mono x⟩
    | rt d st => cases e; exact p
    | bk env st => cases e; exact p
    | ct env st => cases e; exact p
    | ex c ns ds env st => cases e; exact p
noncomputable def sBreak : FS := fun env st => some (.bk env st)
noncomputable def sCont : FS := fun env st => some (.ct env st)
noncomputable def sExpr (f : FE) : FS := fBindS f fun _ env st => some (.nx env st)
theorem ds_expr (he : DE X W e fe) (hs : swapsWith e none pos.line X.env = pure false := by rfl) : DS X W (.Expr e pos) (sExpr fe) := by
  refine ps_imp (ps_expr he hs) fun E σ H ⟨as, F, env, st, h⟩ => ?_
  exact h.bind fun as1 F1 st1 d v H1 _ x1 r1 h1 => h1.next rfl
noncomputable def sRet (f : FE) : FS := fBindS f fun d _ st => some (.rt d st)
theorem ds_ret (he : DE X W e fe) : DS X W (.Return (some e) pos) (sRet fe) := by
  refine ps_imp (ps_ret he) fun E σ H ⟨as, F, env, st, h⟩ => ?_
  exact h.bind fun as1 F1 st1 d v H1 _ x1 r1 h1 => h1.fin rfl as1 F1 H1 v (Go.rfl h1.frm) r1
noncomputable def sRetN : FS := fun _ st => some (.rt .non st)
noncomputable def sIf (t : FT) (f g : FS) : FS := fBindS t fun b => match b with | true => f | false => g
theorem ds_if {a b : List Stmt} {c : Expr} (hc : DT X W c ft) (ha : DSs X W a f) (hb : DSs X W b g) : DS X W (.If c a b pos) (sIf ft f g) := by
  refine ps_imp (ps_if hc ha hb) fun E σ H ⟨as, F, env, st, h⟩ => ?_
  refine h.bind fun as1 F1 st1 d v H1 _ x1 r1 h1 => ?_
  cases r1
  cases d with
  | true => exact ⟨as1, F1, env, st1, h1⟩
  | false => exact ⟨as1, F1, env, st1, h1⟩
/-! ### targets -/
noncomputable abbrev FG := D → En → Sto → Option (En × Sto)
noncomputable def tG (K : PySem.W.Frag) (mg : Str → Option Value) (ws : List Nat) (f : FG) : TG := fun v σ H Q => ∃ as F env st d, Frm K mg as F st H ∧ ER K mg as F σ env ∧ Rep K mg as F v d ∧ ∃ env' st', f d env st = some (env', st') ∧ ∀ as' F' σ' H', Go K mg as F H as' F' st' H' → ER K mg as' F' σ' env' → wipe σ' ws = wipe σ ws → Q σ' H'
noncomputable def DG (X : Cx) (ws : List Nat) (t : Expr) (f : FG) : Prop := PG X t (tG X.K X.mg ws f)
theorem wipe_set {i : Nat} {o : Option V} : ∀ {ws : List Nat} {σ : St}, i ∈ ws → wipe (σ.set i o) ws = wipe σ ws
  | w :: ws, σ, h => by
    unfold wipe
    by_cases hi : i = w
    · subst hi
      by_cases hm : i ∈ ws
      · rw [wipe_set hm]
      · rw [wipe_comm hm, List.set_set]
    · have hm : i ∈ ws := by
        rcases List.mem_cons.mp h with z | z
        · exact absurd z hi
        · exact z
      rw [wipe_set hm]
  | [], _, h => by cases h
where wipe_comm {i : Nat} {o : Option V} : ∀ {ws : List Nat} {σ : St}, i ∉ ws → wipe (σ.set i o) ws = (wipe σ ws).set i o
  | [], _, _ => rfl
  | w :: ws, σ, h => by
    have h1 : i ≠ w := fun z => h (by simp [z])
    have h2 : i ∉ ws := fun z => h (by simp [z])
    unfold wipe
    rw [wipe_comm h2, List.set_comm _ _ h1]
theorem pg_imp {X : Cx} {e : Expr} {t t' : TG} (h : PG X e t) (i : ∀ v σ H Q, t' v σ H Q → t v σ H Q) : PG X e t' := ⟨fun pins s σ H v u Q I r w => h.run pins s σ H v u Q I r (i v σ H Q w)⟩
noncomputable def gSet (i : Nat) : FG := fun d env st => some (env.set i (some d), st)
theorem dg_name (i : Nat) {x : Str} {ws : List Nat} (hN : X.N.Nodup) (hi : X.N[i]? = some x := by rfl) (hx : Loc X.env.scope x := by first | exact Or.inl rfl | exact Or.inr rfl) (hf : X.fn x = true ∨ X.env.scope.names.lookup x = some .local := by first | exact .inl rfl | exact .inr rfl | assumption)   (hw : i ∈ ws := by decide) : DG X ws (.Name x pos) (gSet i) := by
  refine pg_imp (pg_name hN hi hx hf) fun v σ H Q h => ?_
  obtain ⟨as, F, env, st, d, fr, er, rp, env', st', e, q⟩ := h
  cases e
  exact q as F _ H (Go.rfl fr) (er.set rp) (wipe_set hw)
noncomputable abbrev FGs := List D → En → Sto → Option (En × Sto)
noncomputable def tGs (K : PySem.W.Frag) (mg : Str → Option Value) (ws : List Nat) (f : FGs) : TGs := fun vs σ H Q => ∃ as F env st ds, Frm K mg as F st H ∧ ER K mg as F σ env ∧ Reps K mg as F vs ds ∧ ∃ env' st', f ds env st = some (env', st') ∧ ∀ as' F' σ' H', Go K mg as F H as' F' st' H' → ER K mg as' F' σ' env' → wipe σ' ws = wipe σ ws → Q σ' H'
noncomputable def DGs (X : Cx) (ws : List Nat) (ts : List Expr) (f : FGs) : Prop := PGs X ts (tGs X.K X.mg ws f)
theorem pgs_imp {X : Cx} {e : List Expr} {t t' : TGs} (h : PGs X e t) (i : ∀ v σ H Q, t' v σ H Q → t v σ H Q) : PGs X e t' := ⟨fun pins s σ H v u Q I r w => h.run pins s σ H v u Q I r (i v σ H Q w)⟩
noncomputable def gsNil : FGs := fun ds env st => match ds with | [] => some (env, st) | _ => none
noncomputable def gsCons (f : FG) (g : FGs) : FGs := fun ds env st => match ds with
  | d :: r => match f d env st with
    | some (env', st') => g r env' st'
    | none => none
  | [] => none
theorem dgs_nil {ws : List Nat} : DGs X ws [] gsNil := by
  refine pgs_imp pgs_nil fun v σ H Q h => ?_
  obtain ⟨as, F, env, st, d, fr, er, rp, env', st', e, q⟩ := h
  cases rp with
  | nil =>
    cases e
    exact ⟨rfl, q as F σ H (Go.rfl fr) er rfl⟩
  | cons => cases e
theorem dgs_cons {f : FG} {g : FGs} {ws : List Nat} (h1 : DG X ws e f) (h2 : DGs X ws es g) (hs : (assignEach (e :: es) X.env).map (·.2) = assign e X.env :: (assignEach es X.env).map (·.2) := by rfl) : DGs X ws (e :: es) (gsCons f g) := by
  refine pgs_imp (pgs_cons h1 h2 hs) fun v σ H Q h => ?_
  obtain ⟨as, F, env, st, d, fr, er, rp, env', st', e, q⟩ := h
  cases rp with
  | nil => cases e
  | @cons v d vs ds p t =>
    simp only [gsCons] at e
    cases q1 : f d env st with
    | none => rw [q1] at e; cases e
    | some z =>
      obtain ⟨env1, st1⟩ := z
      rw [q1] at e
      exact ⟨v, vs, rfl, as, F, env, st, d, fr, er, p, env1, st1, q1, fun as1 F1 σ1 H1 x1 er1 w1 => ⟨as1, F1, env1, st1, ds, x1.frm, er1, t.mono x1.xt, env', st', e, fun as2 F2 σ2 H2 x2 er2 w2 => q as2 F2 σ2 H2 (x1.trans x2) er2 (w2.trans w1)⟩⟩
noncomputable def gTupS (n : Nat) (f : FGs) : FG := fun d env st => match look st d with
  | some (.tup ds) => match Nat.beq ds.length n with | true => f ds env st | false => none
  | _ => none
theorem dg_tup {k : Nat} {f : FGs} {n : Nat} {ws : List Nat} (h : DGs X ws es f) (hc : X.calm = true := by rfl) (hn : (assignEach es X.env).length = n := by rfl) (hst : (assignEach es X.env).findIdx? (·.1) = none := by rfl) : DG X ws (.Tuple es k pos) (gTupS n f) := by
  refine pg_imp (pg_tup hc h hn hst) fun v σ H Q h => ?_
  obtain ⟨as, F, env, st, d, fr, er, rp, env', st', e, q⟩ := h
  unfold gTupS at e
  split at e
  · rename_i ds hl
    obtain ⟨a, xs, rfl, h1, h2⟩ := lkT fr rp hl
    split at e
    · rename_i hb
      exact ⟨a, xs, rfl, h1, by rw [h2.length]; exact Nat.eq_of_beq_eq_true hb, as, F, env, st, ds, fr, er, h2, env', st', e, q⟩
    · cases e
  · cases e
/-- target = value -/
noncomputable def sAsg (f : FE) (g : FG) : FS := fBindS f fun d env st => match g d env st with
  | some (env', st') => some (.nx env' st')
  | none => none
theorem asg_core {K : PySem.W.Frag} {mg : Str → Option Value} {as : List Addr} {F : Hp} {env : En} {st : Sto} {σ : St} {H : Hp} {E : Ends} {g : FG} {d : D} {v : V} {ws : List Nat} (r : Rep K mg as F v d) (h : AtS K mg W (fun env st => match g d env st with | some (env', st') => some (.nx env' st') | none => none) as F env st σ H E) : tG K mg ws g v σ H E.nx := by
  obtain ⟨fr, er, o, e, p⟩ := h
  split at e
  · rename_i env' st' q
    cases e
    exact ⟨as, F, env, st, d, fr, er, r, env', st', q, fun as' F' σ' H' x er' _ => p as' F' σ' H' x er'⟩
  · cases e
theorem ds_asg {tg : Expr} {g : FG} {ws : List Nat} (he : DE X W e fe) (hg : DG X ws tg g) (hs : swapsWithSole [tg] e pos.line X.env = pure false := by rfl) (hw : swappedStores [tg] e X.env = pure none := by rfl)
    (h1 : (assignEach [tg] X.env).map (·.2) = [assign tg X.env] := by rfl) : DS X W (.Assign [tg] e pos) (sAsg fe g) := by
  refine ps_imp (ps_asg he hg hs hw h1) fun E σ H ⟨as, F, env, st, h⟩ => ?_
  exact h.bind fun as1 F1 st1 d v H1 _ x1 r1 h1 => asg_core r1 h1
theorem ds_set (i : Nat) {x : Str} {pos' : Pos} (hN : X.N.Nodup) (he : DE X W e fe) (hi : X.N[i]? = some x := by rfl) (hx : Loc X.env.scope x := by first | exact Or.inl rfl | exact Or.inr rfl) (hs : swapsWith e (some (.Name x pos')) pos.line X.env = pure false := by rfl) (hf : X.fn x = true ∨ X.env.scope.names.lookup x = some .local := by first | exact .inl rfl | exact .inr rfl | assumption) :
    DS X W (.Assign [.Name x pos'] e pos) (sAsg fe (gSet i)) := by
  refine ps_imp (ps_set hN hi hx he hs hf) fun E σ H ⟨as, F, env, st, h⟩ => ?_
  refine h.bind fun as1 F1 st1 d v H1 _ x1 r1 h1 => ?_
  exact h1.fin rfl as1 F1 _ H1 (Go.rfl h1.frm) (h1.er.set r1)
/-- o[i] = v, o a tracked list -/
noncomputable def setS (o i v : D) (st : Sto) : Option Sto := match o, i with
  | .obj k, .int j => match st[k]? with
    | some (.lst xs) => match ixN xs.length j with
      | some m => some (st.set k (.lst (xs.set m v)))
      | none => none
    | _ => none
  | _, _ => none
noncomputable def okE (f : FE) (env : En) (st : Sto) : Option (D × Sto) := match f env st with
  | some (.ok d st') => some (d, st')
  | _ => none
noncomputable def gSubS (fo fi : FE) : FG := fun v env st => match okE fo env st with
  | some (o, st1) => match okE fi env st1 with
    | some (i, st2) => (setS o i v st2).map fun st3 => (env, st3)
    | none => none
  | none => none
theorem okE_of {f : FE} {env : En} {st : Sto} {d : D} {st' : Sto} (e : okE f env st = some (d, st')) : f env st = some (.ok d st') := by
  unfold okE at e
  split at e
  · rename_i q; cases e; exact q
  · cases e
theorem dg_sub {o i : Expr} {fo fi : FE} {ws : List Nat} (ho : DE X W o fo) (hi : DE X W i fi)
    (ha : ∀ v, assign (.Subscript o i pos) X.env v = (do
      let ov ← holding [v] (eval o X.env)
      let iv ← holding [v, ov] (eval i X.env)
      standAt pos
      holding [v, ov, iv] (setItem ov iv v)
      release [v, ov, iv] []) := by intro _; rfl) : DG X ws (.Subscript o i pos) (gSubS fo fi) := by
  refine pg_imp (pg_sub ho hi set_list ha) fun v σ H Q h => ?_
  obtain ⟨as, F, env, st, d, fr, er, rp, env', st', e, q⟩ := h
  unfold gSubS at e
  split at e
  · rename_i o' st1 q1
    split at e
    · rename_i i' st2 q2
      refine ⟨as, F, env, st, fr, er, _, okE_of q1, fun as1 F1 H1 v1 x1 r1 => ?_⟩
      refine ⟨as1, F1, env, st1, x1.frm, er.mono x1.xt, _, okE_of q2, fun as2 F2 H2 v2 x2 r2 => ?_⟩
      cases q3 : setS o' i' d st2 with
      | none => rw [q3] at e; cases e
      | some st3 =>
        rw [q3] at e
        cases e
        unfold setS at q3
        split at q3
        · rename_i k j
          split at q3
          · rename_i xs hk
            split at q3
            · rename_i m hm
              cases q3
              rw [r2.ints]
              have r1' := r1.mono x2.xt
              cases r1' with
              | obj ha =>
                obtain ⟨d2, e2, n2, w⟩ := x2.frm.has ha
                rw [hk] at e2; cases e2
                cases w with
                | lst h2 r3 =>
                  refine ⟨_, _, j, m, rfl, rfl, h2, by rw [r3.length]; exact hm, ?_⟩
                  have x3 := Go.setO (o := .lst _) x2.frm ha (.lst upd_same (r3.set (rp.mono (x1.xt.trans x2.xt)) m))
                  exact q as2 F2 σ _ ((x1.trans x2).trans x3) (er.mono ((x1.xt.trans x2.xt).trans x3.xt)) rfl
            · cases q3
          · cases q3
        · cases q3
    · cases e
  · cases e
end
end Dl
end
section
set_option Elab.async false
set_option linter.all false
set_option maxRecDepth 100000
namespace Dl
open PySem PySem.Spec L2
/-! ### what is walked -/
structure ItD where
  items : List D
  ok : Sto → Prop
noncomputable def rIt (K : PySem.W.Frag) (mg : Str → Option Value) : Rl It ItD := fun as F J it => ∀ as' F' st' H', Xt as F as' F' → Frm K mg as' F' st' H' → it.ok st' →
  (∀ i, i < it.items.length → J.go i H') ∧ (∀ i, i = it.items.length → J.stop i H') ∧ ∀ i x H'', J.yld i H' x H'' → i < it.items.length → ∃ d F'', it.items[i]? = some d ∧ Go K mg as' F' H' as' F'' st' H'' ∧ Rep K mg as' F'' x d
noncomputable abbrev FI := FX ItD
noncomputable def DI (X : Cx) (W : WX) (tg iter : Expr) (f : FI) : Prop := PI X tg iter (tR X.K X.mg (rIt X.K X.mg) W f)
theorem pi_imp {X : Cx} {tg e : Expr} {t t' : TI} (h : PI X tg e t) (i : ∀ σ H R, t' σ H R → t σ H R) : PI X tg e t' := ⟨fun pins s σ H R I w => h.run pins s σ H R I (i σ H R w)⟩
section
variable {X : Cx} {W : WX} {tg e : Expr} {fe : FE} {fs : FA} {pos p : Pos}
noncomputable def iSeq (K : PySem.W.Frag) (tl : TE) : TI := fun σ H R => tl σ H fun x H1 => ∃ a, x = .ref a ∧ (((∃ xs, SqL K H1 a xs) ∧ R (Itl K a) H1) ∨ ((∃ xs, SqT K H1 a xs) ∧ R (Itt K a) H1))
theorem pi_seq {l : Expr} {tl : TE} (hl : PE X l tl) : PI X tg l (iSeq X.K tl) := by
  refine ⟨fun pins s σ H R I h => ?_⟩
  refine thn (hl.run pins s σ H _ I h) fun v s1 ⟨x, H1, I1, r1, q1⟩ => ?_
  obtain ⟨a, e, q1⟩ := q1
  subst e
  cases r1
  rcases q1 with ⟨⟨xs, hq⟩, q⟩ | ⟨⟨xs, hq⟩, q⟩
  · obtain ⟨its, rv, p, hz⟩ := I1.list hq
    refine wpAny_pyIter_list p.isList ?_
    refine ⟨s1.heap.objs.size, [s1.heap.objs.size], _, _, H1, rfl, I1.kept (t' := s1.toks) fun b o e => Heap.get?_push_of_some _ e, turn_list a _, ⟨_, Heap.get?_push_size _ rfl, rfl, rfl⟩, fun b hb => ?_, q⟩
    have e : b = s1.heap.objs.size := by simpa using hb
    subst e
    exact I1.fpOk (Nat.le_refl _) (I1.hok.fresh (Nat.le_refl _))
  · obtain ⟨its, rv, p, hz⟩ := I1.tuple hq
    refine wpAny_pyIter_tuple (show s1.heap.IsTuple a its.toArray from p) ?_
    refine ⟨s1.heap.objs.size, [s1.heap.objs.size], _, _, H1, rfl, I1.kept (t' := s1.toks) fun b o e => Heap.get?_push_of_some _ e, turn_tuple a _, ⟨_, Heap.get?_push_size _ rfl, rfl, rfl⟩, fun b hb => ?_, q⟩
    have e : b = s1.heap.objs.size := by simpa using hb
    subst e
    exact I1.fpOk (Nat.le_refl _) (I1.hok.fresh (Nat.le_refl _))
noncomputable def tupI (st : Sto) (d : D) : Option (List D) := match look st d with
  | some (.tup xs) => some xs
  | _ => none
theorem lkTI {K : PySem.W.Frag} {mg : Str → Option Value} {as : List Addr} {F H : Hp} {st : Sto} {v : V} {d : D} {ds : List D} (fr : Frm K mg as F st H) (r : Rep K mg as F v d) (e : tupI st d = some ds) : ∃ a xs, v = .ref a ∧ SqT K H a xs ∧ Reps K mg as F xs ds := by
  unfold tupI at e
  split at e
  · rename_i q
    cases e
    exact lkT fr r q
  · cases e
noncomputable def itOf (st : Sto) (d : D) : Option ItD := match lstI st d with
  | some ds => some ⟨ds, fun st' => lstI st' d = some ds⟩
  | none => (tupI st d).map fun ds => ⟨ds, fun st' => tupI st' d = some ds⟩
noncomputable def fItS (fe : FE) : FI := fBind fe fun d => fP fun st => itOf st d
theorem di_seq (he : DE X W e fe) : DI X W tg e (fItS fe) := by
  refine pi_imp (pi_seq he) fun σ H R ⟨as, F, env, st, h⟩ => ?_
  refine h.bind fun as1 F1 st1 d v H1 _ x1 r1 h1 => ?_
  obtain ⟨it, ei, q⟩ := h1.pure
  unfold itOf at ei
  cases q1 : lstI st1 d with
  | some ds =>
    rw [q1] at ei
    cases ei
    obtain ⟨a, xs, rfl, h2, h3⟩ := lkLI h1.frm r1 q1
    refine ⟨a, rfl, .inl ⟨⟨xs, h2⟩, q as1 F1 H1 _ (Go.rfl h1.frm) fun as' F' st' H' x fr ok => ?_⟩⟩
    obtain ⟨a', ys, ea, key, hr⟩ := lkLI fr (r1.mono x) ok
    cases ea
    refine ⟨fun i hi => ⟨ys, ys[i]'(by rw [hr.length]; exact hi), key, by simp⟩, fun i hi => ⟨ys, key, by rw [hr.length]; exact Nat.le_of_eq hi.symm⟩, fun i z H'' hy hi => ?_⟩
    obtain ⟨e1, e2⟩ := hy
    subst e1
    obtain ⟨dz, e3, e4⟩ := hr.getV (e2 ys key)
    exact ⟨dz, F', e3, Go.rfl fr, e4⟩
  | none =>
    rw [q1] at ei
    cases q2 : tupI st1 d with
    | none => simp only [q2, Option.map_none] at ei; cases ei
    | some ds =>
      simp only [q2, Option.map_some, Option.some.injEq] at ei
      subst ei
      obtain ⟨a, xs, rfl, h2, h3⟩ := lkTI h1.frm r1 q2
      refine ⟨a, rfl, .inr ⟨⟨xs, h2⟩, q as1 F1 H1 _ (Go.rfl h1.frm) fun as' F' st' H' x fr ok => ?_⟩⟩
      obtain ⟨a', ys, ea, key, hr⟩ := lkTI fr (r1.mono x) ok
      cases ea
      refine ⟨fun i hi => ⟨ys, ys[i]'(by rw [hr.length]; exact hi), key, by simp⟩, fun i hi => ⟨ys, key, by rw [hr.length]; exact Nat.le_of_eq hi.symm⟩, fun i z H'' hy hi => ?_⟩
      obtain ⟨e1, e2⟩ := hy
      subst e1
      obtain ⟨dz, e3, e4⟩ := hr.getV (e2 ys key)
      exact ⟨dz, F', e3, Go.rfl fr, e4⟩
/-- lo, lo + 1, .. below hi -/
noncomputable def upTo (lo : Int) (n : Nat) : List D := (List.range n).map fun i => .int (lo + (i : Nat))
theorem upTo_len (lo : Int) (n : Nat) : (upTo lo n).length = n := by simp [upTo]
theorem upTo_get {lo : Int} {n i : Nat} (h : i < n) : (upTo lo n)[i]? = some (.int (lo + (i : Nat))) := by simp [upTo, h]
theorem rng_it {K : PySem.W.Frag} {mg : Str → Option Value} {as : List Addr} {F : Hp} (lo : Int) (n : Nat) : rIt K mg as F (Itr lo n) ⟨upTo lo n, fun _ => True⟩ := by
  intro as' F' st' H' x fr _
  refine ⟨fun i hi => by rw [upTo_len] at hi; exact hi, fun i hi => by rw [upTo_len] at hi; exact Nat.le_of_eq hi.symm, fun i z H'' hy hi => ?_⟩
  rw [upTo_len] at hi
  obtain ⟨e1, e2⟩ := hy
  subst e1
  subst e2
  exact ⟨_, F', upTo_get hi, Go.rfl fr, .int _⟩
noncomputable def rng1S (ds : List D) : Option ItD := match ds with
  | [.int j] => if -(2 ^ 62) ≤ j ∧ j < 2 ^ 62 then some ⟨upTo 0 j.toNat, fun _ => True⟩ else none
  | _ => none
noncomputable def rng2S (ds : List D) : Option ItD := match ds with
  | [.int i, .int j] => if -(2 ^ 62) ≤ i ∧ i < 2 ^ 62 ∧ -(2 ^ 62) ≤ j ∧ j < 2 ^ 62 then some ⟨upTo i (j - i).toNat, fun _ => True⟩ else none
  | _ => none
noncomputable def fItR1 (fs : FA) : FI := fBind fs fun ds => fP fun _ => rng1S ds
noncomputable def fItR2 (fs : FA) : FI := fBind fs fun ds => fP fun _ => rng2S ds
theorem di_range1 {a : Expr} (hm : X.mg "range" = none) (ha : DA X W [a] fs) (hg : Gl X "range" := by rfl) (hs : starEach [a] X.env = [(false, eval a X.env)] := by rfl) : DI X W tg (.Call (.Name "range" p) [a] [] pos) (fItR1 fs) := by
  refine pi_imp (pi_range1 hg hm ha hs) fun σ H R ⟨as, F, env, st, h⟩ => ?_
  refine h.bind fun as1 F1 st1 d v H1 e1 x1 r1 h1 => ?_
  clear e1
  obtain ⟨it, ei, q⟩ := h1.pure
  unfold rng1S at ei
  split at ei
  · rename_i j
    split at ei
    · rename_i hj
      cases ei
      cases r1 with
      | cons p t =>
        cases t
        rw [p.ints]
        exact ⟨j, rfl, hj.1, hj.2, q as1 F1 H1 _ (Go.rfl h1.frm) (rng_it _ _)⟩
    · cases ei
  · cases ei
theorem di_range2 {a b : Expr} (hm : X.mg "range" = none) (ha : DA X W [a, b] fs) (hg : Gl X "range" := by rfl) (hs : starEach [a, b] X.env = [(false, eval a X.env), (false, eval b X.env)] := by rfl) (hs2 : starEach [b] X.env = [(false, eval b X.env)] := by rfl) : DI X W tg (.Call (.Name "range" p) [a, b] [] pos) (fItR2 fs) := by
  refine pi_imp (pi_range2 hg hm ha hs hs2) fun σ H R ⟨as, F, env, st, h⟩ => ?_
  refine h.bind fun as1 F1 st1 d v H1 e1 x1 r1 h1 => ?_
  clear e1
  obtain ⟨it, ei, q⟩ := h1.pure
  unfold rng2S at ei
  split at ei
  · rename_i i j
    split at ei
    · rename_i hj
      cases ei
      cases r1 with
      | cons p t =>
        cases t with
        | cons p' t' =>
          cases t'
          rw [p.ints, p'.ints]
          exact ⟨i, j, rfl, hj, q as1 F1 H1 _ (Go.rfl h1.frm) (rng_it _ _)⟩
    · cases ei
  · cases ei
/-! ### for -/
open Classical in
noncomputable def loopS (ok : Sto → Prop) (tgt : FG) (body : FS) : List D → FS
  | [], env, st => if ok st then some (.nx env st) else none
  | d :: r, env, st => if ok st then (match tgt d env st with
    | some (env1, st1) => match body env1 st1 with
      | some (.nx env2 st2) => loopS ok tgt body r env2 st2
      | some (.ct env2 st2) => loopS ok tgt body r env2 st2
      | some (.bk env2 st2) => some (.nx env2 st2)
      | o => o
    | none => none) else none
noncomputable def sFor (fi : FI) (tgt : FG) (body : FS) : FS := fBindS fi fun it => loopS it.ok tgt body it.items
theorem ds_for {iter : Expr} {body : List Stmt} {fi : FI} {g : FG} {f : FS} {ws : List Nat} (hp : PassesOwn (model X.prog X.w) X.A X.env X.xe) (hi : DI X W tg iter fi) (hg : DG X ws tg g) (hb : DSs X W body f) (hc : X.calm = true := by rfl)
    (hs : ∀ x, foldedSetIterable iter X.env x = pure x := by intro _; rfl) : DS X W (.For tg iter body [] pos) (sFor fi g f) := by
  refine ps_imp (ps_for hp hc hi hg hb hs) fun E σ H ⟨as, F, env, st, h⟩ => ?_
  refine h.bind fun as1 F1 st1 it J H1 _ x1 r1 h1 => ?_
  have r1 : rIt X.K X.mg as1 F1 J it := r1
  refine ⟨fun i m σ H => m = it.items.length - i ∧ i ≤ it.items.length ∧ ∃ as2 F2 env2 st2, Xt as1 F1 as2 F2 ∧ AtS X.K X.mg W (loopS it.ok g f (it.items.drop i)) as2 F2 env2 st2 σ H E, ⟨it.items.length, by simp, Nat.zero_le _, as1, F1, env, st1, Xt.rfl', h1⟩, ?_⟩
  rintro i m σ2 H2 ⟨rfl, hi, as2, F2, env2, st2, x2, h2⟩
  by_cases hlt : i < it.items.length
  · have ed : it.items.drop i = it.items[i] :: it.items.drop (i + 1) := List.drop_eq_getElem_cons hlt
    rw [ed] at h2
    obtain ⟨fr2, er2, o, eo, po⟩ := id h2
    unfold loopS at eo
    split at eo
    · rename_i ok
      obtain ⟨g1, g2, g3⟩ := r1 as2 F2 st2 H2 x2 fr2 ok
      split at eo
      · rename_i env3 st3 q3
        refine .inr ⟨g1 i hlt, fun σ' H' => ∃ as2 F2 env2 st2, Xt as1 F1 as2 F2 ∧ AtS X.K X.mg W (loopS it.ok g f (it.items.drop (i + 1))) as2 F2 env2 st2 σ' H' E, fun σ' H' ⟨as', F', env', st', x', h'⟩ => ⟨it.items.length - (i + 1), by omega, rfl, hlt, as', F', env', st', x', h'⟩, fun x H' hy => ?_⟩
        obtain ⟨d, F', ed', x3, rp⟩ := g3 i x H' hy hlt
        have ed2 : d = it.items[i] := by rw [List.getElem?_eq_getElem hlt] at ed'; exact (Option.some.inj ed').symm
        subst ed2
        refine ⟨as2, F', env2, st2, _, x3.frm, er2.mono x3.xt, rp, env3, st3, q3, fun as4 F4 σ4 H4 x4 er4 _ => ?_⟩
        refine ⟨as4, F4, env3, st3, x4.frm, er4, ?_⟩
        have xx : Go X.K X.mg as2 F2 H2 as4 F4 st3 H4 := x3.trans x4
        cases q5 : f env3 st3 with
        | none => rw [q5] at eo; cases eo
        | some z =>
          rw [q5] at eo
          refine ⟨z, rfl, ?_⟩
          cases z with
          | nx e s => exact fun as' F' σ' H' y er' => ⟨as', F', e, s, x2.trans (xx.xt.trans y.xt), y.frm, er', o, eo, po.mono (xx.trans y)⟩
          | ct e s => exact fun as' F' σ' H' y er' => ⟨as', F', e, s, x2.trans (xx.xt.trans y.xt), y.frm, er', o, eo, po.mono (xx.trans y)⟩
          | bk e s => cases eo; exact fun as' F' σ' H' y er' => po as' F' σ' H' (xx.trans y) er'
          | rt d s => cases eo; exact fun as' F' H' v y r => po as' F' H' v (xx.trans y) r
          | ex c ns ds e s => cases eo; exact fun as' F' σ' H' C od vs y => po as' F' σ' H' C od vs (xx.trans y)
      · cases eo
    · cases eo
  · have ei : i = it.items.length := by omega
    subst ei
    rw [List.drop_length] at h2
    obtain ⟨fr2, er2, o, eo, po⟩ := id h2
    unfold loopS at eo
    split at eo
    · rename_i ok
      cases eo
      obtain ⟨g1, g2, g3⟩ := r1 as2 F2 st2 H2 x2 fr2 ok
      exact .inl ⟨g2 _ rfl, po as2 F2 σ2 H2 (Go.rfl fr2) er2⟩
    · cases eo
/-! ### while -/
noncomputable def whileN (t : FT) (b : FS) : Nat → FS
  | 0, _, _ => none
  | n + 1, env, st => match t env st with
    | some (.ok true st1) => match b env st1 with
      | some (.nx env2 st2) => whileN t b n env2 st2
      | some (.ct env2 st2) => whileN t b n env2 st2
      | some (.bk env2 st2) => some (.nx env2 st2)
      | o => o
    | some (.ok false st1) => some (.nx env st1)
    | some (.ex c ns ds st1) => some (.ex c ns ds env st1)
    | none => none
theorem whileN_succ {t : FT} {b : FS} : ∀ {n : Nat} {env : En} {st : Sto} {o : Out}, whileN t b n env st = some o → whileN t b (n + 1) env st = some o
  | 0, _, _, _, h => by simp [whileN] at h
  | n + 1, env, st, o, h => by
    rw [whileN] at h ⊢
    cases q : t env st with
    | none => rw [q] at h; cases h
    | some z =>
      rw [q] at h
      cases z with
      | ex c ns ds s => exact h
      | ok c s =>
        cases c with
        | false => exact h
        | true =>
          simp only at h ⊢
          cases q2 : b env s with
          | none => rw [q2] at h; cases h
          | some y =>
            rw [q2] at h
            cases y with
            | nx e2 s2 => exact whileN_succ h
            | ct e2 s2 => exact whileN_succ h
            | bk e2 s2 => exact h
            | rt d s2 => exact h
            | ex c ns ds e2 s2 => exact h
theorem whileN_le {t : FT} {b : FS} {n m : Nat} {env : En} {st : Sto} {o : Out} (h : whileN t b n env st = some o) (hm : n ≤ m) : whileN t b m env st = some o := by
  induction hm with
  | refl => exact h
  | step _ ih => exact whileN_succ ih
open Classical in
noncomputable def sWhile (t : FT) (b : FS) : FS := fun env st => if h : ∃ n o, whileN t b n env st = some o then some (Classical.choose (Classical.choose_spec h)) else none
theorem sWhile_eq {t : FT} {b : FS} {n : Nat} {env : En} {st : Sto} {o : Out} (h : whileN t b n env st = some o) : sWhile t b env st = some o := by
  have hex : ∃ n o, whileN t b n env st = some o := ⟨n, o, h⟩
  unfold sWhile
  rw [dif_pos hex]
  have h2 := Classical.choose_spec (Classical.choose_spec hex)
  generalize Classical.choose (Classical.choose_spec hex) = o2 at h2
  generalize Classical.choose hex = n2 at h2
  have a := whileN_le h (Nat.le_max_left n n2)
  have b := whileN_le h2 (Nat.le_max_right n n2)
  rw [a] at b
  exact b.symm
theorem sWhile_of {t : FT} {b : FS} {env : En} {st : Sto} {o : Out} (h : sWhile t b env st = some o) : ∃ n, whileN t b n env st = some o := by
  unfold sWhile at h
  split at h
  · rename_i hex
    have h2 := Classical.choose_spec (Classical.choose_spec hex)
    cases h
    exact ⟨_, h2⟩
  · cases h
theorem ds_while {c : Expr} {body : List Stmt} {t : FT} {b : FS} (hp : PassesOwn (model X.prog X.w) X.A X.env X.xe) (hc : DT X W c t) (hb : DSs X W body b) : DS X W (.While c body [] pos) (sWhile t b) := by
  refine ps_imp (ps_while hp hc hb) fun E σ H ⟨as, F, env, st, h⟩ => ?_
  obtain ⟨fr, er, o, eo, po⟩ := h
  obtain ⟨n, hn⟩ := sWhile_of eo
  refine ⟨fun m σ H => ∃ as F env st, AtS X.K X.mg W (whileN t b m) as F env st σ H E, ⟨n, as, F, env, st, fr, er, o, hn, po⟩, ?_⟩
  rintro m σ1 H1 ⟨as1, F1, env1, st1, fr1, er1, o1, e1, p1⟩
  cases m with
  | zero => simp [whileN] at e1
  | succ m =>
    rw [whileN] at e1
    refine ⟨as1, F1, env1, st1, fr1, er1, ?_⟩
    cases q : t env1 st1 with
    | none => rw [q] at e1; cases e1
    | some z =>
      rw [q] at e1
      refine ⟨z, rfl, ?_⟩
      cases z with
      | ex c ns ds s =>
        cases e1
        exact fun as' F' H' C od vs x h1 h2 h3 => p1 as' F' σ1 H' C od vs x (er1.mono x.xt) h1 h2 h3
      | ok c s =>
        intro as2 F2 H2 v x2 rv
        have rv : v = c := rv
        subst rv
        cases v with
        | false =>
          cases e1
          rw [if_neg Bool.false_ne_true]
          exact p1 as2 F2 σ1 H2 x2 (er1.mono x2.xt)
        | true =>
          rw [if_pos rfl]
          simp only at e1
          refine ⟨fun σ' H' => ∃ as F env st, AtS X.K X.mg W (whileN t b m) as F env st σ' H' E, fun σ' H' h' => ⟨m, Nat.lt_succ_self m, h'⟩, as2, F2, env1, s, x2.frm, er1.mono x2.xt, ?_⟩
          cases q2 : b env1 s with
          | none => rw [q2] at e1; cases e1
          | some y =>
            rw [q2] at e1
            refine ⟨y, rfl, ?_⟩
            cases y with
            | nx e s => exact fun as' F' σ' H' y er' => ⟨as', F', e, s, y.frm, er', o1, e1, p1.mono (x2.trans y)⟩
            | ct e s => exact fun as' F' σ' H' y er' => ⟨as', F', e, s, y.frm, er', o1, e1, p1.mono (x2.trans y)⟩
            | bk e s => cases e1; exact fun as' F' σ' H' y er' => p1 as' F' σ' H' (x2.trans y) er'
            | rt d s => cases e1; exact fun as' F' H' v y r => p1 as' F' H' v (x2.trans y) r
            | ex c ns ds e s => cases e1; exact fun as' F' σ' H' C od vs y => p1 as' F' σ' H' C od vs (x2.trans y)
end
end Dl
end
section
set_option Elab.async false
set_option linter.all false
set_option maxRecDepth 100000
namespace Dl
open PySem PySem.Spec L2
/-! ### comprehensions -/
noncomputable def wipeE (env : En) : List Nat → En
  | [] => env
  | v :: vs => (wipeE env vs).set v none
section
variable {K : PySem.W.Frag} {mg : Str → Option Value} {as : List Addr} {F H : Hp} {st : Sto} {σ : St} {env : En}
theorem ER.wipe (h : ER K mg as F σ env) : ∀ vs : List Nat, ER K mg as F (L2.wipe σ vs) (wipeE env vs)
  | [] => h
  | v :: vs => by
    have h' := ER.wipe h vs
    unfold L2.wipe wipeE
    refine ⟨by simp [h'.len], fun j d e => ?_⟩
    by_cases hj : j = v
    · subst hj
      by_cases hl : j < (wipeE env vs).length
      · rw [List.getElem?_set_self hl] at e; cases e
      · rw [List.getElem?_eq_none (by simp; omega)] at e; cases e
    · rw [List.getElem?_set_ne (Ne.symm hj)] at e
      obtain ⟨w, h1, h2⟩ := h'.at_ j d e
      exact ⟨w, by rw [List.getElem?_set_ne (Ne.symm hj)]; exact h1, h2⟩
/-- a thing that is neither tracked nor frozen changes -/
theorem Frm.other {b : Addr} {o : HO} (f : Frm K mg as F st H) (h1 : F b = none) (h2 : b ∉ as) : Frm K mg as F st (upd H b o) := by
  refine ⟨fun c u e => ?_, f.len, f.nod, fun i a d e e' => ?_⟩
  · have ne : c ≠ b := fun z => by subst z; rw [h1] at e; cases e
    rw [upd_ne ne]; exact f.sub _ _ e
  · obtain ⟨n, w⟩ := f.own i a d e e'
    exact ⟨n, w.mono Xt.rfl' (upd_ne fun z => h2 (z ▸ List.mem_of_getElem? e))⟩
theorem Frm.iceB {b : Addr} {o : HO} (f : Frm K mg as F st H) (h1 : F b = none) (h2 : b ∉ as) (hb : H b = some o) : Frm K mg as (upd F b o) st H := by
  have x : Xt as F as (upd F b o) := ⟨fun _ _ h => h, Ext.upd h1⟩
  refine ⟨fun c u e => ?_, f.len, f.nod, fun i a d e e' => ?_⟩
  · by_cases hc : c = b
    · subst hc; rw [upd_same] at e; cases e; exact hb
    · rw [upd_ne hc] at e; exact f.sub _ _ e
  · obtain ⟨n, w⟩ := f.own i a d e e'
    have ne : a ≠ b := fun z => h2 (z ▸ List.mem_of_getElem? e)
    exact ⟨by rw [upd_ne ne]; exact n, w.mono x rfl⟩
theorem Frm.ownB {b : Addr} {d : D} (f : Frm K mg as F st H) (h1 : F b = none) (h2 : b ∉ as) (w : Own K mg as F H b d) : Frm K mg (as ++ [b]) F (st ++ [d]) H := by
  have x : Xt as F (as ++ [b]) F := ⟨fun i a h => by
    have := (List.getElem?_eq_some_iff.mp h).1
    rw [List.getElem?_append_left this]; exact h, Ext.rfl'⟩
  refine ⟨f.sub, by simp [f.len], ?_, fun i a d' e e' => ?_⟩
  · refine List.nodup_append.mpr ⟨f.nod, by simp, fun c hc z hz => ?_⟩
    have e : z = b := by simpa using hz
    subst e
    intro q
    subst q
    exact h2 hc
  · by_cases hi : i < as.length
    · rw [List.getElem?_append_left hi] at e
      rw [List.getElem?_append_left (by rw [← f.len]; exact hi)] at e'
      obtain ⟨n, w'⟩ := f.own i a d' e e'
      exact ⟨n, w'.mono x rfl⟩
    · have hl : i = as.length := by
        have := (List.getElem?_eq_some_iff.mp e).1
        simp at this
        omega
      subst hl
      have e1 : a = b := by simpa using e.symm
      subst e1
      rw [f.len] at e'
      have e2 : d' = d := by simpa using e'.symm
      subst e2
      exact ⟨h1, w.mono x rfl⟩
end
open Classical in
noncomputable def lcS (ok : Sto → Prop) (tgt : FG) (cond : FT) (elt : FE) (env0 : En) : List D → List D → Sto → Option (List D × Sto)
  | [], acc, st => if ok st then some (acc, st) else none
  | d :: r, acc, st => if ok st then (match tgt d env0 st with
    | some (env1, st1) => match cond env1 st1 with
      | some (.ok true st2) => match elt env1 st2 with
        | some (.ok y st3) => if acc.length < sizeLine then lcS ok tgt cond elt env0 r (acc ++ [y]) st3 else none
        | _ => none
      | some (.ok false st2) => lcS ok tgt cond elt env0 r acc st2
      | _ => none
    | none => none) else none
noncomputable def fLc (own : Bool) (ws : List Nat) (fi : FI) (tgt : FG) (cond : FT) (elt : FE) : FE := fBind fi fun it env st => match lcS it.ok tgt cond elt (wipeE env ws) it.items [] st with
  | some (acc, st') => fNew own (.lst acc) env st'
  | none => none
noncomputable def tYesF : FT := fun _ st => some (.ok true st)
/-- the state of a comprehension's list: at the address b, made since the start -/
structure Mid (K : PySem.W.Frag) (mg : Str → Option Value) (as1 : List Addr) (F1 H1 : Hp) (b : Addr) (as : List Addr) (F : Hp) (st : Sto) (H : Hp) (acc : List D) : Prop where
  xt : Xt as1 F1 as F
  kp : Kp as1 F1 H1 as F H
  frm : Frm K mg as F st H
  nF : F b = none
  nA : b ∉ as
  at_ : ∃ xs, H b = some (.lst xs) ∧ Reps K mg as F xs acc
section
variable {K : PySem.W.Frag} {mg : Str → Option Value} {as1 as as' : List Addr} {F1 H1 F H F' H' : Hp} {st st' : Sto} {b : Addr} {acc : List D}
theorem Mid.go (m : Mid K mg as1 F1 H1 b as F st H acc) (x : Go K mg as F H as' F' st' H') : Mid K mg as1 F1 H1 b as' F' st' H' acc := by
  obtain ⟨xs, h1, h2⟩ := m.at_
  obtain ⟨e1, e2, e3⟩ := x.kp b _ h1 m.nF m.nA
  exact ⟨m.xt.trans x.xt, m.kp.trans x.kp, x.frm, e2, e3, xs, e1, h2.mono x.xt⟩
theorem Mid.app (hb : H1 b = none) (m : Mid K mg as1 F1 H1 b as F st H acc) {xs : List V} {v : V} {d : D} (h : H b = some (.lst xs)) (r : Reps K mg as F xs acc) (rv : Rep K mg as F v d) : Mid K mg as1 F1 H1 b as F st (upd H b (.lst (xs ++ [v]))) (acc ++ [d]) := by
  refine ⟨m.xt, fun c o h1 h2 h3 => ?_, m.frm.other m.nF m.nA, m.nF, m.nA, _, upd_same, r.append (.cons rv .nil)⟩
  obtain ⟨e1, e2, e3⟩ := m.kp c o h1 h2 h3
  exact ⟨by rw [upd_ne (ne_of_none h1 hb)]; exact e1, e2, e3⟩
theorem Mid.start (fr : Frm K mg as1 F1 st H1) (hb : H1 b = none) : Mid K mg as1 F1 H1 b as1 F1 st (upd H1 b (.lst [])) [] := by
  obtain ⟨h1, h2⟩ := fr.fresh hb
  exact ⟨Xt.rfl', (Go.grow fr hb).kp, (Go.grow fr hb).frm, h1, fun z => by
    obtain ⟨i, hi, e⟩ := List.mem_iff_getElem.mp z
    exact h2 i (by rw [List.getElem?_eq_getElem hi, e]), [], upd_same, .nil⟩
theorem Mid.done {W : WX} {own : Bool} {env : En} {σ : St} {Q : VK} (hb : H1 b = none) (m : Mid K mg as1 F1 H1 b as F st H acc) {f : FE} {st1 : Sto} (h : AtR K mg (Rep K mg) W f as1 F1 env st1 σ H1 Q) (e : f env st1 = fNew own (.lst acc) env st) : Q (.ref b) H := by
  obtain ⟨xs, h1, h2⟩ := m.at_
  cases own with
  | false =>
    have q := h.fin (r := .ok (.lst acc) st) (by rw [e]; rfl)
    have x : Xt as F as (upd F b (.lst xs)) := ⟨fun _ _ h => h, Ext.upd m.nF⟩
    refine q as (upd F b (.lst xs)) H (.ref b) ⟨m.xt.trans x, fun c o h3 h4 h5 => ?_, m.frm.iceB m.nF m.nA h1⟩ (.lst upd_same (h2.mono x))
    obtain ⟨e1, e2, e3⟩ := m.kp c o h3 h4 h5
    exact ⟨e1, by rw [upd_ne (ne_of_none h3 hb)]; exact e2, e3⟩
  | true =>
    have q := h.fin (r := .ok (.obj st.length) (st ++ [.lst acc])) (by rw [e]; rfl)
    have fo := m.frm.ownB m.nF m.nA (.lst h1 h2)
    have x : Xt as F (as ++ [b]) F := ⟨fun i a h => by
      have := (List.getElem?_eq_some_iff.mp h).1
      rw [List.getElem?_append_left this]; exact h, Ext.rfl'⟩
    refine q (as ++ [b]) F H (.ref b) ⟨m.xt.trans x, fun c o h3 h4 h5 => ?_, fo⟩ (.obj (by rw [← m.frm.len]; simp))
    obtain ⟨e1, e2, e3⟩ := m.kp c o h3 h4 h5
    refine ⟨e1, e2, fun z => ?_⟩
    rcases List.mem_append.mp z with z | z
    · exact e3 z
    · exact ne_of_none h3 hb (by simpa using z)
end
noncomputable abbrev W0 : WX := fun _ _ _ _ => False
section
variable {X : Cx} {W : WX}
theorem wipe_idem : ∀ (ws : List Nat) (σ : St), L2.wipe (L2.wipe σ ws) ws = L2.wipe σ ws
  | [], _ => rfl
  | w :: ws, σ => by
    show (L2.wipe ((L2.wipe σ ws).set w none) ws).set w none = (L2.wipe σ ws).set w none
    by_cases hm : w ∈ ws
    · rw [wipe_set hm, wipe_idem ws σ]
    · rw [wipe_set.wipe_comm hm, wipe_idem ws σ, List.set_set]
/-- a clause's loop -/
theorem lc_loop {K : PySem.W.Frag} {mg : Str → Option Value} {asA as1 as : List Addr} {FA F1 H1 F H : Hp} {st : Sto} {b : Addr} {acc accE : List D} {stE : Sto} {ws : List Nat} {J : It} {it : ItD} {g : FG} {cond : FT} {elt : FE} {σ : St} {env : En} {Nx0 : Hp → Prop}
    (r1 : rIt K mg asA FA J it) (er : ER K mg asA FA σ env) (hb : H1 b = none) (md : Mid K mg as1 F1 H1 b as F st H acc) (xA : Xt asA FA as F) (e : lcS it.ok g cond elt (wipeE env ws) it.items acc st = some (accE, stE)) (fin : ∀ as F H, Mid K mg as1 F1 H1 b as F stE H accE → Xt asA FA as F → Nx0 H) :
    ∃ Wv : Nat → Nat → Hp → Prop, (∃ m, Wv 0 m H) ∧ ∀ i m H, Wv i m H → (J.stop i H ∧ Nx0 H) ∨ (J.go i H ∧ ∃ Nx : Hp → Prop, (∀ H', Nx H' → ∃ m', m' < m ∧ Wv (i + 1) m' H') ∧ ∀ x H', J.yld i H x H' → tG K mg ws g x (L2.wipe σ ws) H' fun σ2 H2 => L2.wipe σ2 ws = L2.wipe σ ws ∧ tDT K mg W0 cond σ2 H2 fun b' H3 =>
      if b' = true then tD K mg W0 elt σ2 H3 fun y H4 => ∃ acc, H4 b = some (.lst acc) ∧ acc.length < sizeLine ∧ Nx (upd H4 b (.lst (acc ++ [y]))) else Nx H3) := by
  refine ⟨fun i m H => m = it.items.length - i ∧ i ≤ it.items.length ∧ ∃ as F st acc, Mid K mg as1 F1 H1 b as F st H acc ∧ Xt asA FA as F ∧ lcS it.ok g cond elt (wipeE env ws) (it.items.drop i) acc st = some (accE, stE), ⟨it.items.length, by simp, Nat.zero_le _, as, F, st, acc, md, xA, by simpa using e⟩, ?_⟩
  clear e xA md
  rintro i m H2 ⟨rfl, hi, as2, F2, st2, acc, md, xA, e2⟩
  by_cases hlt : i < it.items.length
  · have ed : it.items.drop i = it.items[i] :: it.items.drop (i + 1) := List.drop_eq_getElem_cons hlt
    rw [ed] at e2
    unfold lcS at e2
    split at e2
    · rename_i ok
      obtain ⟨g1, g2, g3⟩ := r1 as2 F2 st2 H2 xA md.frm ok
      split at e2
      · rename_i env3 st3 q3
        refine .inr ⟨g1 i hlt, fun H' => ∃ as F st acc, Mid K mg as1 F1 H1 b as F st H' acc ∧ Xt asA FA as F ∧ lcS it.ok g cond elt (wipeE env ws) (it.items.drop (i + 1)) acc st = some (accE, stE), fun H' ⟨as', F', st', acc', m', x', e'⟩ => ⟨it.items.length - (i + 1), by omega, rfl, hlt, as', F', st', acc', m', x', e'⟩, fun x H' hy => ?_⟩
        obtain ⟨d, F', ed', x3, rp⟩ := g3 i x H' hy hlt
        have ed2 : d = it.items[i] := by rw [List.getElem?_eq_getElem hlt] at ed'; exact (Option.some.inj ed').symm
        subst ed2
        have m3 := md.go x3
        refine ⟨as2, F', wipeE env ws, st2, _, x3.frm, (er.mono (xA.trans x3.xt)).wipe ws, rp, env3, st3, q3, fun as4 F4 σ4 H4 x4 er4 hw => ⟨by rw [hw]; exact wipe_idem ws σ, ?_⟩⟩
        have m4 := m3.go x4
        have xB := (xA.trans x3.xt).trans x4.xt
        refine ⟨as4, F4, env3, st3, x4.frm, er4, ?_⟩
        cases q5 : cond env3 st3 with
        | none => rw [q5] at e2; cases e2
        | some z =>
          rw [q5] at e2
          cases z with
          | ex c ns ds s => cases e2
          | ok c s =>
            refine ⟨_, rfl, fun as5 F5 H5 v x5 rv => ?_⟩
            have rv : v = c := rv
            subst rv
            have m5 := m4.go x5
            cases v with
            | false => exact L2.iteF ⟨as5, F5, s, acc, m5, xB.trans x5.xt, e2⟩
            | true =>
              refine L2.iteT ?_
              simp only at e2
              refine ⟨as5, F5, env3, s, x5.frm, er4.mono x5.xt, ?_⟩
              cases q6 : elt env3 s with
              | none => rw [q6] at e2; cases e2
              | some y =>
                rw [q6] at e2
                cases y with
                | ex c ns ds s => cases e2
                | ok yd s6 =>
                  simp only at e2
                  split at e2
                  · rename_i hsz
                    refine ⟨_, rfl, fun as6 F6 H6 w x6 rw6 => ?_⟩
                    have m6 := m5.go x6
                    obtain ⟨xs, hx, rx⟩ := m6.at_
                    exact ⟨xs, hx, by rw [rx.length]; exact hsz, as6, F6, s6, _, m6.app hb hx rx rw6, (xB.trans x5.xt).trans x6.xt, e2⟩
                  · cases e2
      · cases e2
    · cases e2
  · have ei : i = it.items.length := by omega
    subst ei
    rw [List.drop_length] at e2
    unfold lcS at e2
    split at e2
    · rename_i ok
      cases e2
      obtain ⟨g1, g2, g3⟩ := r1 as2 F2 stE H2 xA md.frm ok
      exact .inl ⟨g2 _ rfl, fin as2 F2 H2 md xA⟩
    · cases e2
/-- the reading of a comprehension with one clause -/
theorem lc_read {K : PySem.W.Frag} {mg : Str → Option Value} {own : Bool} {ws : List Nat} {fi : FI} {g : FG} {cond : FT} {elt : FE} {σ : St} {H : Hp} {Q : VK} (h : tD K mg W (fLc own ws fi g cond elt) σ H Q) :
    tLc (tR K mg (rIt K mg) W fi) (tG K mg ws g) (tDT K mg W0 cond) (tD K mg W0 elt) ws σ H Q := by
  obtain ⟨as, F, env, st, h⟩ := h
  refine h.bind fun as1 F1 st1 it J H1 _ x1 r1 h1 => ?_
  have r1 : rIt K mg as1 F1 J it := r1
  intro b hb
  obtain ⟨fr1, er1, o, eo, po⟩ := id h1
  cases qa : lcS it.ok g cond elt (wipeE env ws) it.items [] st1 with
  | none => simp only [qa] at eo; cases eo
  | some z =>
    obtain ⟨accE, stE⟩ := z
    exact lc_loop r1 er1 hb (Mid.start fr1 hb) Xt.rfl' qa fun as2 F2 H2 md _ => md.done hb h1 (own := own) (by simp only [qa])
open Classical in
noncomputable def lc2S (ok : Sto → Prop) (tgt : FG) (cond : FT) (fi1 : FI) (tgt1 : FG) (cond1 : FT) (elt : FE) (ws1 : List Nat) (env0 : En) : List D → List D → Sto → Option (List D × Sto)
  | [], acc, st => if ok st then some (acc, st) else none
  | d :: r, acc, st => if ok st then (match tgt d env0 st with
    | some (env1, st1) => match cond env1 st1 with
      | some (.ok true st2) => match fi1 env1 st2 with
        | some (.ok it1 st3) => match lcS it1.ok tgt1 cond1 elt (wipeE env1 ws1) it1.items acc st3 with
          | some (acc', st4) => lc2S ok tgt cond fi1 tgt1 cond1 elt ws1 env0 r acc' st4
          | none => none
        | _ => none
      | some (.ok false st2) => lc2S ok tgt cond fi1 tgt1 cond1 elt ws1 env0 r acc st2
      | _ => none
    | none => none) else none
noncomputable def fLc2 (own : Bool) (ws ws1 : List Nat) (fi : FI) (tgt : FG) (cond : FT) (fi1 : FI) (tgt1 : FG) (cond1 : FT) (elt : FE) : FE := fBind fi fun it env st => match lc2S it.ok tgt cond fi1 tgt1 cond1 elt ws1 (wipeE env ws) it.items [] st with
  | some (acc, st') => fNew own (.lst acc) env st'
  | none => none
theorem lc2_read {K : PySem.W.Frag} {mg : Str → Option Value} {own : Bool} {ws ws1 : List Nat} {fi fi1 : FI} {g g1 : FG} {cond cond1 : FT} {elt : FE} {σ : St} {H : Hp} {Q : VK} (h : tD K mg W (fLc2 own ws ws1 fi g cond fi1 g1 cond1 elt) σ H Q) :
    tLc2 (tR K mg (rIt K mg) W fi) (tG K mg ws g) (tDT K mg W0 cond) (tR K mg (rIt K mg) W0 fi1) (tG K mg ws1 g1) (tDT K mg W0 cond1) (tD K mg W0 elt) ws ws1 σ H Q := by
  obtain ⟨as, F, env, st, h⟩ := h
  refine h.bind fun as1 F1 st1 it J H1 _ x1 r1 h1 => ?_
  have r1 : rIt K mg as1 F1 J it := r1
  intro b hb
  obtain ⟨fr1, er1, o, eo, po⟩ := id h1
  cases qa : lc2S it.ok g cond fi1 g1 cond1 elt ws1 (wipeE env ws) it.items [] st1 with
  | none => simp only [qa] at eo; cases eo
  | some z =>
    obtain ⟨accE, stE⟩ := z
    refine ⟨fun i m H => m = it.items.length - i ∧ i ≤ it.items.length ∧ ∃ as F st acc, Mid K mg as1 F1 H1 b as F st H acc ∧ lc2S it.ok g cond fi1 g1 cond1 elt ws1 (wipeE env ws) (it.items.drop i) acc st = some (accE, stE), ⟨it.items.length, by simp, Nat.zero_le _, as1, F1, st1, [], Mid.start fr1 hb, by simpa using qa⟩, ?_⟩
    rintro i m H2 ⟨rfl, hi, as2, F2, st2, acc, md, e2⟩
    by_cases hlt : i < it.items.length
    · have ed : it.items.drop i = it.items[i] :: it.items.drop (i + 1) := List.drop_eq_getElem_cons hlt
      rw [ed] at e2
      unfold lc2S at e2
      split at e2
      · rename_i ok
        obtain ⟨g1', g2, g3⟩ := r1 as2 F2 st2 H2 md.xt md.frm ok
        split at e2
        · rename_i env3 st3 q3
          refine .inr ⟨g1' i hlt, fun H' => ∃ as F st acc, Mid K mg as1 F1 H1 b as F st H' acc ∧ lc2S it.ok g cond fi1 g1 cond1 elt ws1 (wipeE env ws) (it.items.drop (i + 1)) acc st = some (accE, stE), fun H' ⟨as', F', st', acc', m', e'⟩ => ⟨it.items.length - (i + 1), by omega, rfl, hlt, as', F', st', acc', m', e'⟩, fun x H' hy => ?_⟩
          obtain ⟨d, F', ed', x3, rp⟩ := g3 i x H' hy hlt
          have ed2 : d = it.items[i] := by rw [List.getElem?_eq_getElem hlt] at ed'; exact (Option.some.inj ed').symm
          subst ed2
          have m3 := md.go x3
          refine ⟨as2, F', wipeE env ws, st2, _, x3.frm, (er1.mono m3.xt).wipe ws, rp, env3, st3, q3, fun as4 F4 σ4 H4 x4 er4 hw => ⟨by rw [hw]; exact wipe_idem ws σ, ?_⟩⟩
          have m4 := m3.go x4
          refine ⟨as4, F4, env3, st3, x4.frm, er4, ?_⟩
          cases q5 : cond env3 st3 with
          | none => rw [q5] at e2; cases e2
          | some z =>
            rw [q5] at e2
            cases z with
            | ex c ns ds s => cases e2
            | ok c s =>
              refine ⟨_, rfl, fun as5 F5 H5 v x5 rv => ?_⟩
              have rv : v = c := rv
              subst rv
              have m5 := m4.go x5
              cases v with
              | false => exact L2.iteF ⟨as5, F5, s, acc, m5, e2⟩
              | true =>
                refine L2.iteT ?_
                simp only at e2
                refine ⟨as5, F5, env3, s, x5.frm, er4.mono x5.xt, ?_⟩
                cases q6 : fi1 env3 s with
                | none => rw [q6] at e2; cases e2
                | some y =>
                  rw [q6] at e2
                  cases y with
                  | ex c ns ds s => cases e2
                  | ok it1 s6 =>
                    simp only at e2
                    cases q7 : lcS it1.ok g1 cond1 elt (wipeE env3 ws1) it1.items acc s6 with
                    | none => rw [q7] at e2; cases e2
                    | some w =>
                      obtain ⟨acc7, st7⟩ := w
                      rw [q7] at e2
                      refine ⟨_, rfl, fun as6 F6 H6 J1 x6 r6 => ?_⟩
                      have m6 := m5.go x6
                      exact lc_loop r6 (er4.mono (x5.xt.trans x6.xt)) hb m6 Xt.rfl' q7 fun as8 F8 H8 m8 _ => ⟨as8, F8, st7, acc7, m8, e2⟩
        · cases e2
      · cases e2
    · have ei : i = it.items.length := by omega
      subst ei
      rw [List.drop_length] at e2
      unfold lc2S at e2
      split at e2
      · rename_i ok
        cases e2
        obtain ⟨g1', g2, g3⟩ := r1 as2 F2 stE H2 md.xt md.frm ok
        exact .inl ⟨g2 _ rfl, md.done hb h1 (own := own) (by simp only [qa])⟩
      · cases e2
noncomputable def DTs (X : Cx) (W : WX) (ifs : List Expr) (f : FT) : Prop := PTs X ifs (tDT X.K X.mg W f)
theorem dts_nil : DTs X W [] tYesF := by
  refine ⟨fun pins s σ H Q I ⟨as, F, env, st, h⟩ => ?_⟩
  exact pts_nil.run pins s σ H Q I (h.ok rfl rfl)
theorem dts_one {c : Expr} {f : FT} (h : DT X W c f) : DTs X W [c] f := pts_one h
theorem de_lc {own : Bool} {elt tg iter : Expr} {ifs : List Expr} {scope : Scope} {ov : List (Str × Nat)} {pos : Pos} {fi : FI} {g : FG} {cond : FT} {fe : FE} (hN : X.N.Nodup) (hi : DI X W tg iter fi) (ok : BlkOk X.N X.env.scope scope ov)
    (hg : ∀ (s : Shared) (H : Hp) (C : Addr) (cl : List (Str × Addr)) (fp : List Addr), DG (X.blk s H scope (compEnvC scope cl C X.env) fp) (ov.map (·.2)) tg g) (ht : ∀ (s : Shared) (H : Hp) (C : Addr) (cl : List (Str × Addr)) (fp : List Addr), DTs (X.blk s H scope (compEnvC scope cl C X.env) fp) W0 ifs cond)
    (he : ∀ (s : Shared) (H : Hp) (C : Addr) (cl : List (Str × Addr)) (fp : List Addr), DE (X.blk s H scope (compEnvC scope cl C X.env) fp) W0 elt fe) (hc : X.calm = true := by rfl) (hs : ∀ x, foldedSetIterable iter X.env x = pure x := by intro _; rfl) :
    DE X W (.ListComp elt [⟨tg, iter, ifs, 0⟩] scope pos) (fLc own (ov.map (·.2)) fi g cond fe) :=
  pe_imp (pe_lc (g := tG X.K X.mg (ov.map (fun x : Str × Nat => x.2)) g) (tt := tDT X.K X.mg W0 cond) (te := tD X.K X.mg W0 fe) hc hN hi ok hg ht he hs) fun σ H Q h => lc_read h
theorem de_lc2 {own : Bool} {elt tg iter tg1 iter1 : Expr} {ifs ifs1 : List Expr} {scope : Scope} {ov : List (Str × Nat)} {ws1 : List Nat} {pos : Pos} {fi fi1 : FI} {g g1 : FG} {cond cond1 : FT} {fe : FE} (hN : X.N.Nodup) (hi : DI X W tg iter fi) (ok : BlkOk X.N X.env.scope scope ov) (hv : ∀ i ∈ ws1, i ∈ ov.map (·.2))
    (hg : ∀ (s : Shared) (H : Hp) (C : Addr) (cl : List (Str × Addr)) (fp : List Addr), DG (X.blk s H scope (compEnvC scope cl C X.env) fp) (ov.map (·.2)) tg g) (ht : ∀ (s : Shared) (H : Hp) (C : Addr) (cl : List (Str × Addr)) (fp : List Addr), DTs (X.blk s H scope (compEnvC scope cl C X.env) fp) W0 ifs cond)
    (hi1 : ∀ (s : Shared) (H : Hp) (C : Addr) (cl : List (Str × Addr)) (fp : List Addr), DI (X.blk s H scope (compEnvC scope cl C X.env) fp) W0 tg1 iter1 fi1)
    (hg1 : ∀ (s : Shared) (H : Hp) (C : Addr) (cl : List (Str × Addr)) (fp : List Addr), DG (X.blk s H scope (compEnvC scope cl C X.env) fp) ws1 tg1 g1) (ht1 : ∀ (s : Shared) (H : Hp) (C : Addr) (cl : List (Str × Addr)) (fp : List Addr), DTs (X.blk s H scope (compEnvC scope cl C X.env) fp) W0 ifs1 cond1)
    (he : ∀ (s : Shared) (H : Hp) (C : Addr) (cl : List (Str × Addr)) (fp : List Addr), DE (X.blk s H scope (compEnvC scope cl C X.env) fp) W0 elt fe) (hc : X.calm = true := by rfl) (hs : ∀ x, foldedSetIterable iter X.env x = pure x := by intro _; rfl) (hs1 : ∀ env x, foldedSetIterable iter1 env x = pure x := by intro _ _; rfl) :
    DE X W (.ListComp elt [⟨tg, iter, ifs, 0⟩, ⟨tg1, iter1, ifs1, 0⟩] scope pos) (fLc2 own (ov.map (·.2)) ws1 fi g cond fi1 g1 cond1 fe) :=
  pe_imp (pe_lc2 (g := tG X.K X.mg (ov.map (fun x : Str × Nat => x.2)) g) (tt := tDT X.K X.mg W0 cond) (wi1 := tR X.K X.mg (rIt X.K X.mg) W0 fi1) (g1 := tG X.K X.mg ws1 g1) (tt1 := tDT X.K X.mg W0 cond1) (te := tD X.K X.mg W0 fe) hc hN hi ok hv hg ht hi1 hg1 ht1 he hs hs1) fun σ H Q h => lc2_read h
end
end Dl
end
section
set_option Elab.async false
set_option linter.all false
set_option maxRecDepth 100000
namespace Dl
open PySem PySem.Spec L2
/-! ### first, *rest = a list or tuple -/
section
variable {X : Cx} {W : WX} {e : Expr} {es : List Expr} {pos : Pos} {fe fo : FE}
/-! ### o.f = e -/
noncomputable def putN (f : Str) (y : D) : List Str → List D → List Str × List D
  | n :: ns, d :: ds => if n = f then (n :: ns, y :: ds) else ((n :: (putN f y ns ds).1), (d :: (putN f y ns ds).2))
  | _, _ => ([f], [y])
theorem putN_of {K : PySem.W.Frag} {mg : Str → Option Value} {as : List Addr} {F : Hp} {f : Str} {v : V} {y : D} (rv : Rep K mg as F v y) : ∀ {fs : List (Str × V)} {ds : List D}, Reps K mg as F (fs.map (·.2)) ds → (putF f v fs).map (·.1) = (putN f y (fs.map (·.1)) ds).1 ∧ Reps K mg as F ((putF f v fs).map (·.2)) (putN f y (fs.map (·.1)) ds).2
  | [], _, r => by
    cases r
    exact ⟨rfl, .cons rv .nil⟩
  | (n, w) :: fs, _, r => by
    cases r with
    | cons h t =>
      obtain ⟨e1, e2⟩ := putN_of (f := f) rv t
      simp only [List.map_cons, putF, putN]
      by_cases hn : n = f
      · rw [if_pos hn, if_pos hn]
        exact ⟨rfl, .cons rv t⟩
      · rw [if_neg hn, if_neg hn]
        exact ⟨by simp only [List.map_cons, e1], .cons h e2⟩
noncomputable def fldPut (c f : Str) (x y : D) (st : Sto) : Option Sto := match x with
  | .obj k => match st[k]? with
    | some (.ins c' ns ds) => if c' = c ∧ ns.length < 1000 then some (st.set k (.ins c (putN f y ns ds).1 (putN f y ns ds).2)) else none
    | _ => none
  | _ => none
noncomputable def sFldS (c f : Str) (fo fv : FE) : FS := fBindS fv fun y => fBindS fo fun x => fun env st => match fldPut c f x y st with
  | some st' => some (.nx env st')
  | none => none
theorem ds_fld {C : Addr} {c f : Str} {o value : Expr} {fv : FE} {pos' : Pos} (hC : X.mg c = some (.ref C)) (cl : Cls X.K C) (na : NoAttr X.K C f) (ho : DE X W o fo) (hv : DE X W value fv) (hs : swapsWith value (some (.Attribute o f pos')) pos.line X.env = pure false := by rfl) : DS X W (.Assign [.Attribute o f pos'] value pos) (sFldS c f fo fv) := by
  refine ps_imp (ps_fld ho hv hs) fun E σ H ⟨as, F, env, st, h⟩ => ?_
  refine h.bind fun as1 F1 st1 d v H1 e1 x1 r1 h1 => ?_
  refine h1.bind fun as2 F2 st2 d2 v2 H2 e2 x2 r2 h2 => ?_
  clear e1 e2
  obtain ⟨fr, er, r, e, p⟩ := h2
  split at e
  · rename_i st' q
    cases e
    unfold fldPut at q
    split at q
    · rename_i k
      split at q
      · rename_i c' ns ds hk
        split at q
        · rename_i hc
          cases q
          obtain ⟨rfl, hlen⟩ := hc
          cases r2 with
          | obj ha =>
            obtain ⟨d3, e3, n3, w⟩ := fr.has ha
            rw [hk] at e3; cases e3
            cases w with
            | ins hc2 h3 r3 =>
              rw [hC] at hc2; cases hc2
              obtain ⟨p1, p2⟩ := putN_of (f := f) (r1.mono x2.xt) r3
              refine ⟨_, _, _, _, rfl, h3, cl, na, by simpa using hlen, ?_⟩
              refine p as2 F2 σ _ (Go.setO fr ha (d := .ins _ _ _) ?_) er
              rw [← p1]
              exact .ins hC upd_same p2
        · cases q
      · cases q
    · cases q
  · cases e
/-! ### methods of a tracked list -/
/-- what a method makes of the list: its answer, the new list -/
noncomputable def lmS (m : List D → List D → Option (D × List D)) (x : D) (ys : List D) : FE := fun _ st => match x with
  | .obj k => match st[k]? with
    | some (.lst xs) => match m xs ys with
      | some (z, xs') => some (.ok z (st.set k (.lst xs')))
      | none => none
    | _ => none
  | _ => none
noncomputable def isL (st : Sto) (x : D) : Bool := match x with
  | .obj k => match st[k]? with
    | some (.lst _) => true
    | _ => false
  | _ => false
noncomputable def fLm (m : List D → List D → Option (D × List D)) (fo : FE) (fa : FA) : FE := fBind fo fun x => fun env st => fGd (isL st x) (fBind fa fun ys => lmS m x ys) env st
theorem isL_of {st : Sto} {x : D} (h : isL st x = true) : ∃ k xs, x = .obj k ∧ st[k]? = some (.lst xs) := by
  unfold isL at h
  split at h
  · rename_i k
    split at h
    · rename_i xs hk
      exact ⟨k, xs, rfl, hk⟩
    · cases h
  · cases h
/-- the rule of a method by values -/
noncomputable def LmR (K : PySem.W.Frag) (mg : Str → Option Value) (m : List D → List D → Option (D × List D)) (r : V → List V → Hp → VK → Prop) : Prop :=
  ∀ as F st H l xs ds ys es z ds' Q, Frm K mg as F st H → H l = some (.lst xs) → Reps K mg as F xs ds → Reps K mg as F ys es → m ds es = some (z, ds') →
    (∀ xs' v, Reps K mg as F xs' ds' → Rep K mg as F v z → Q v (upd H l (.lst xs'))) → r (.ref l) ys H Q
theorem lm_core {K : PySem.W.Frag} {mg : Str → Option Value} {m : List D → List D → Option (D × List D)} {r : V → List V → Hp → VK → Prop} (hm : LmR K mg m r) {as : List Addr} {F : Hp} {env : En} {st : Sto} {σ : St} {H : Hp} {Q : VK} {v : V} {x : D} {vs : List V} {ys : List D} (rx : Rep K mg as F v x) (ry : Reps K mg as F vs ys) (h : AtR K mg (Rep K mg) W (lmS m x ys) as F env st σ H Q) : r v vs H Q := by
  obtain ⟨fr, er, o, e, p⟩ := h
  unfold lmS at e
  split at e
  · rename_i k
    split at e
    · rename_i xs hk
      split at e
      · rename_i z xs' hz
        cases e
        cases rx with
        | obj ha =>
          obtain ⟨d3, e3, n3, w⟩ := fr.has ha
          rw [hk] at e3; cases e3
          cases w with
          | lst h3 r3 =>
            refine hm as F st H _ _ _ _ _ z xs' Q fr h3 r3 ry hz fun xs2 v2 h4 h5 => ?_
            exact p as F _ v2 (Go.setO fr ha (.lst upd_same h4)) h5
      · cases e
    · cases e
  · cases e
theorem de_lm {m : List D → List D → Option (D × List D)} {r : V → List V → Hp → VK → Prop} {id : String} {name : Str} {o : Expr} {fa : FA} {apos cpos : Pos} (slot : Slot "list" name id) (hty : typeOf (.builtin id) = pure (.type "method_descriptor")) (hm : MtR X id r) (hr : LmR X.K X.mg m r) (ho : DE X W o fo) (ha : DA X W (e :: es) fa)
    (hbase : attributeBase o name X.env (eval o X.env) = eval o X.env := by rfl)
    (hfew : ((backTo cpos (starEach (e :: es) X.env)).all (fun x => !x.1) && (backToKw cpos (keywordEach [] X.env)).all (fun x => x.1.isSome)
      && decide ((e :: es).length + ([] : List Keyword).length + (if ([] : List Keyword).isEmpty then 0 else 1) < 30)) = true := by rfl)
    (hline : (apos.endLine == cpos.line) = true := by rfl) (hs : starEach (e :: es) X.env = (false, eval e X.env) :: starEach es X.env := by rfl) (hplain : (backTo cpos (starEach es X.env)).any (·.1) = false := by rfl) :
    DE X W (.Call (.Attribute o name apos) (e :: es) [] cpos) (fLm m fo fa) := by
  refine pe_imp (pe_bm PySem.F.plainAttrs_list slot hty hm ho ha hbase hfew hline hs hplain) fun σ H Q ⟨as, F, env, st, h⟩ => ?_
  refine h.bind fun as1 F1 st1 d v H1 _ x1 r1 h1 => ?_
  obtain ⟨hi, h2⟩ := h1.gdS
  obtain ⟨k, xs, rfl, hk⟩ := isL_of hi
  have ty : tyV X.K "list" v H1 := by
    cases r1 with
    | obj hh =>
      obtain ⟨d3, e3, n3, w⟩ := h1.frm.has hh
      rw [hk] at e3; cases e3
      cases w with
      | lst h3 r3 => exact Or.inl ⟨rfl, _, SqL.of h3⟩
  refine ⟨ty, h2.bind fun as2 F2 st2 ys vs H2 _ x2 r2 h3 => lm_core hr (r1.mono x2) r2 h3⟩
noncomputable def mAppend (xs ys : List D) : Option (D × List D) := match ys with
  | [y] => if xs.length < sizeLine then some (.non, xs ++ [y]) else none
  | _ => none
theorem LmR.append {K : PySem.W.Frag} {mg : Str → Option Value} : LmR K mg mAppend rAppend := by
  intro as F st H l xs ds ys es z ds' Q fr hl r1 r2 e q
  unfold mAppend at e
  split at e
  · split at e
    · rename_i hz
      cases e
      cases r2 with
      | cons p t =>
        cases t
        exact ⟨l, xs, _, rfl, rfl, hl, by rw [r1.length]; exact hz, q _ _ (r1.append (.cons p .nil)) .non⟩
    · cases e
  · cases e
theorem de_append {o : Expr} {fa : FA} {apos cpos : Pos} (ho : DE X W o fo) (ha : DA X W [e] fa) (hbase : attributeBase o "append" X.env (eval o X.env) = eval o X.env := by rfl)
    (hfew : ((backTo cpos (starEach [e] X.env)).all (fun x => !x.1) && (backToKw cpos (keywordEach [] X.env)).all (fun x => x.1.isSome)
      && decide ([e].length + ([] : List Keyword).length + (if ([] : List Keyword).isEmpty then 0 else 1) < 30)) = true := by rfl)
    (hline : (apos.endLine == cpos.line) = true := by rfl) (hs : starEach [e] X.env = (false, eval e X.env) :: starEach [] X.env := by rfl) (hplain : (backTo cpos (starEach [] X.env)).any (·.1) = false := by rfl) : DE X W (.Call (.Attribute o "append" apos) [e] [] cpos) (fLm mAppend fo fa) :=
  de_lm PySem.F.slot_list_append PySem.F.type_list_append mt_append LmR.append ho ha hbase hfew hline hs hplain
end
end Dl
end
section
set_option Elab.async false
set_option linter.all false
set_option maxRecDepth 100000
namespace Dl
open PySem PySem.Spec L2
/-! ### freezing the last tracked things -/
mutual
noncomputable def D.sub (n : Nat) (y : D) : D → D
  | .obj i => if i = n then y else .obj i
  | .lst xs => .lst (subs n y xs)
  | .lstR xs => .lstR (subs n y xs)
  | .tup xs => .tup (subs n y xs)
  | .ins c ns xs => .ins c ns (subs n y xs)
  | .dK ks xs => .dK ks (subs n y xs)
  | .dT ks xs => .dT ks (subs n y xs)
  | .dN ks xs => .dN ks (subs n y xs)
  | x => x
noncomputable def subs (n : Nat) (y : D) : List D → List D
  | [] => []
  | x :: xs => D.sub n y x :: subs n y xs
end
mutual
theorem D.sub_closed {n : Nat} {y : D} : ∀ {x : D}, x.closed n = true → D.sub n y x = x
  | .obj i, h => by
    simp only [D.closed, decide_eq_true_eq] at h
    simp only [D.sub]
    rw [if_neg (by omega)]
  | .lst xs, h => by simp only [D.closed] at h; simp only [D.sub, subs_closed h]
  | .lstR xs, h => by simp only [D.closed] at h; simp only [D.sub, subs_closed h]
  | .tup xs, h => by simp only [D.closed] at h; simp only [D.sub, subs_closed h]
  | .ins _ _ xs, h => by simp only [D.closed] at h; simp only [D.sub, subs_closed h]
  | .dK _ xs, h => by simp only [D.closed] at h; simp only [D.sub, subs_closed h]
  | .dT _ xs, h => by simp only [D.closed] at h; simp only [D.sub, subs_closed h]
  | .dN _ xs, h => by simp only [D.closed] at h; simp only [D.sub, subs_closed h]
  | .non, h => rfl
  | .bl _, h => rfl
  | .int _, h => rfl
  | .str _, h => rfl
  | .ty _, h => rfl
  | .fn _, h => rfl
  | .gl _, h => rfl
theorem subs_closed {n : Nat} {y : D} : ∀ {xs : List D}, closeds n xs = true → subs n y xs = xs
  | [], _ => rfl
  | x :: xs, h => by
    simp only [closeds, Bool.and_eq_true] at h
    simp only [subs, D.sub_closed h.1, subs_closed h.2]
end
theorem closeds_iff {n : Nat} : ∀ {xs : List D}, closeds n xs = true ↔ ∀ x ∈ xs, D.closed n x = true
  | [] => by simp [closeds]
  | x :: xs => by simp [closeds, closeds_iff (xs := xs)]
section
variable {K : PySem.W.Frag} {mg : Str → Option Value} {as : List Addr} {F F' H : Hp} {st : Sto} {n : Nat} {p : Addr} {y : D}
mutual
theorem Rep.sub (ha : as[n]? = some p) (hl : as.length = n + 1) (hx : Ext F F') (hy : Rep K mg (as.take n) F' (.ref p) y) : ∀ {v : V} {d : D}, Rep K mg as F v d → Rep K mg (as.take n) F' v (D.sub n y d)
  | _, _, .non => .non
  | _, _, .bl _ => .bl _
  | _, _, .int _ => .int _
  | _, _, .str _ => .str _
  | _, _, .ty _ => .ty _
  | _, _, .fn _ => .fn _
  | _, _, .gl h => .gl h
  | _, _, .obj (i := i) (a := a) h => by
    simp only [D.sub]
    by_cases hi : i = n
    · subst hi
      rw [ha] at h; cases h
      rw [if_pos rfl]; exact hy
    · rw [if_neg hi]
      have := (List.getElem?_eq_some_iff.mp h).1
      exact .obj (by rw [List.getElem?_take_of_lt (by omega)]; exact h)
  | _, _, .lst h r => .lst (hx _ _ h) (Reps.sub ha hl hx hy r)
  | _, _, .lstR h r => .lstR (h.ext hx) (Reps.sub ha hl hx hy r)
  | _, _, .tup h r => .tup (h.ext hx) (Reps.sub ha hl hx hy r)
  | _, _, .ins k h r => .ins k (hx _ _ h) (Reps.sub ha hl hx hy r)
  | _, _, .dK h r => .dK (hx _ _ h) (Reps.sub ha hl hx hy r)
  | _, _, .dT h r => .dT (hx _ _ h) (Reps.sub ha hl hx hy r)
  | _, _, .dN h r => .dN (h.mono hx fun o e => hx _ _ e) (Reps.sub ha hl hx hy r)
theorem Reps.sub (ha : as[n]? = some p) (hl : as.length = n + 1) (hx : Ext F F') (hy : Rep K mg (as.take n) F' (.ref p) y) : ∀ {vs : List V} {ds : List D}, Reps K mg as F vs ds → Reps K mg (as.take n) F' vs (subs n y ds)
  | _, _, .nil => .nil
  | _, _, .cons h t => .cons (Rep.sub ha hl hx hy h) (Reps.sub ha hl hx hy t)
end
theorem Own.sub {a : Addr} {d : D} (ha : as[n]? = some p) (hl : as.length = n + 1) (hx : Ext F F') (hy : Rep K mg (as.take n) F' (.ref p) y) (w : Own K mg as F H a d) : Own K mg (as.take n) F' H a (D.sub n y d) := by
  cases w with
  | lst h r => exact .lst h (Reps.sub ha hl hx hy r)
  | ins k h r => exact .ins k h (Reps.sub ha hl hx hy r)
  | dK h r => exact .dK h (Reps.sub ha hl hx hy r)
  | dT h r => exact .dT h (Reps.sub ha hl hx hy r)
  | dN h r => exact .dN (h.mono hx fun o e => e) (Reps.sub ha hl hx hy r)
theorem Frm.iceL (f : Frm K mg as F st H) (hl : st.length = n + 1) (hy : st[n]? = some y) (hc : y.closed n = true) :
    ∃ F' p, as[n]? = some p ∧ Frm K mg (as.take n) F' (subs n y (st.take n)) H ∧ Ext F F' ∧ (∀ b, b ≠ p → F' b = F b) ∧ Rep K mg (as.take n) F' (.ref p) y := by
  obtain ⟨p, ep, np, w⟩ := f.adr hy
  obtain ⟨o, ho⟩ := w.there
  have hx : Ext F (upd F p o) := Ext.upd np
  have x : Xt (as.take n) F (as.take n) (upd F p o) := ⟨fun _ _ h => h, hx⟩
  have hal : as.length = n + 1 := by rw [f.len, hl]
  have rp : Rep K mg (as.take n) (upd F p o) (.ref p) y := by
    have w' := w.shrink n hc
    cases w' with
    | lst h r => rw [ho] at h; cases h; exact .lst upd_same (r.mono x)
    | ins k h r => rw [ho] at h; cases h; exact .ins k upd_same (r.mono x)
    | dK h r => rw [ho] at h; cases h; exact .dK upd_same (r.mono x)
    | dT h r => rw [ho] at h; cases h; exact .dT upd_same (r.mono x)
    | dN h r => exact .dN (h.mono hx fun o2 e => by rw [ho] at e; cases e; exact upd_same) (r.mono x)
  have sl : ∀ xs : List D, subs n y xs = xs.map (D.sub n y) := fun xs => by
    induction xs with
    | nil => rfl
    | cons a xs ih => simp only [subs, List.map_cons, ih]
  refine ⟨upd F p o, p, ep, ⟨fun b u eb => ?_, ?_, f.nod.sublist (List.take_sublist _ _), fun i a z e1 e2 => ?_⟩, hx, fun b hb => upd_ne hb, rp⟩
  · by_cases hb : b = p
    · subst hb; rw [upd_same] at eb; cases eb; exact ho
    · rw [upd_ne hb] at eb; exact f.sub _ _ eb
  · rw [sl]; simp [f.len]
  · by_cases hi : i < n
    · rw [List.getElem?_take_of_lt hi] at e1
      rw [sl, List.getElem?_map, List.getElem?_take_of_lt hi] at e2
      cases q : st[i]? with
      | none => rw [q] at e2; cases e2
      | some z0 =>
        rw [q] at e2; cases e2
        obtain ⟨h1, h2⟩ := f.own i a z0 e1 q
        have ne : a ≠ p := fun q => by
          subst q
          have := nodup_ixA f.nod e1 ep
          omega
        exact ⟨by rw [upd_ne ne]; exact h1, h2.sub ep hal hx rp⟩
    · rw [List.getElem?_take_eq_none (Nat.le_of_not_lt hi)] at e1
      cases e1
noncomputable def fz (n0 : Nat) : Nat → List D → Sto → Option (List D × Sto)
  | 0, ds, st => some (ds, st)
  | k + 1, ds, st => match st[n0 + k]? with
    | some x => if x.closed (n0 + k) then fz n0 k (subs (n0 + k) x ds) (subs (n0 + k) x (st.take (n0 + k))) else none
    | none => none
theorem fz_ok {n0 : Nat} {vs : List V} {ds' : List D} {st' : Sto} : ∀ {k : Nat} {ds : List D} {as : List Addr} {F : Hp} {st : Sto}, Frm K mg as F st H → st.length = n0 + k → Reps K mg as F vs ds → fz n0 k ds st = some (ds', st') →
    ∃ F', Frm K mg (as.take n0) F' st' H ∧ Ext F F' ∧ (∀ b, b ∉ as.drop n0 → F' b = F b) ∧ Reps K mg (as.take n0) F' vs ds'
  | 0, ds, as, F, st, f, hl, r, e => by
    simp only [fz] at e; cases e
    have : as.take n0 = as := List.take_of_length_le (by rw [f.len]; omega)
    rw [this]
    exact ⟨F, f, Ext.rfl', fun _ _ => rfl, r⟩
  | k + 1, ds, as, F, st, f, hl, r, e => by
    simp only [fz] at e
    split at e
    · rename_i x hx
      split at e
      · rename_i hc
        obtain ⟨F1, p, ep, f1, x1, k1, rp⟩ := f.iceL (n := n0 + k) (by omega) hx hc
        have hal : as.length = n0 + k + 1 := by rw [f.len]; omega
        obtain ⟨F2, f2, x2, k2, r2⟩ := fz_ok f1 (by rw [← f1.len, List.length_take]; omega) (Reps.sub ep hal x1 rp r) e
        rw [List.take_take, Nat.min_eq_left (Nat.le_add_right _ _)] at f2 r2
        refine ⟨F2, f2, x1.trans x2, fun b hb => ?_, r2⟩
        rw [k2 b ?_, k1 b ?_]
        · intro z
          subst z
          apply hb
          obtain ⟨h1, h2⟩ := List.getElem?_eq_some_iff.mp ep
          rw [List.mem_iff_getElem?]
          exact ⟨k, by rw [List.getElem?_drop]; exact ep⟩
        · intro z
          apply hb
          obtain ⟨i, hi⟩ := List.mem_iff_getElem?.mp z
          rw [List.getElem?_drop] at hi
          have h1 := (List.getElem?_eq_some_iff.mp hi).1
          rw [List.length_take] at h1
          rw [List.getElem?_take_of_lt (by omega)] at hi
          rw [List.mem_iff_getElem?]
          exact ⟨i, by rw [List.getElem?_drop]; exact hi⟩
      · cases e
    · cases e
/-- back to the first tracked things -/
theorem Go.fz {as' : List Addr} {F' H' : Hp} {st st' st2 : Sto} {vs : List V} {ds ds2 : List D} (f : Frm K mg as F st H) (g : Go K mg as F H as' F' st' H') (hl : st.length ≤ st'.length) (r : Reps K mg as' F' vs ds) (e : fz st.length (st'.length - st.length) ds st' = some (ds2, st2)) :
    ∃ as2 F2, Go K mg as F H as2 F2 st2 H' ∧ Reps K mg as2 F2 vs ds2 := by
  obtain ⟨F2, f2, x2, k2, r2⟩ := fz_ok g.frm (by omega) r e
  refine ⟨as'.take st.length, F2, ⟨⟨fun i a h => ?_, g.xt.sub.trans x2⟩, fun b o h1 h2 h3 => ?_, f2⟩, r2⟩
  · have := (List.getElem?_eq_some_iff.mp h).1
    rw [List.getElem?_take_of_lt (by rw [← f.len]; exact this)]
    exact g.xt.pre i a h
  · obtain ⟨h4, h5, h6⟩ := g.kp b o h1 h2 h3
    refine ⟨h4, ?_, fun z => h6 (List.mem_of_mem_take z)⟩
    rw [k2 b fun z => h6 (List.mem_of_mem_drop z)]
    exact h5
end
theorem subs_app {n : Nat} {y : D} {xs ys : List D} : subs n y (xs ++ ys) = subs n y xs ++ subs n y ys := by
  induction xs with
  | nil => rfl
  | cons x xs ih => simp only [List.cons_append, subs, ih]
theorem subs_len {n : Nat} {y : D} {xs : List D} : (subs n y xs).length = xs.length := by
  induction xs with
  | nil => rfl
  | cons x xs ih => simp only [subs, List.length_cons, ih]
mutual
theorem closed_up {m n : Nat} (h : m ≤ n) : ∀ {d : D}, d.closed m = true → d.closed n = true
  | .obj i, c => by simp only [D.closed, decide_eq_true_eq] at c ⊢; omega
  | .lst _, c => by simp only [D.closed] at c ⊢; exact closeds_up h c
  | .lstR _, c => by simp only [D.closed] at c ⊢; exact closeds_up h c
  | .tup _, c => by simp only [D.closed] at c ⊢; exact closeds_up h c
  | .ins _ _ _, c => by simp only [D.closed] at c ⊢; exact closeds_up h c
  | .dK _ _, c => by simp only [D.closed] at c ⊢; exact closeds_up h c
  | .dT _ _, c => by simp only [D.closed] at c ⊢; exact closeds_up h c
  | .dN _ _, c => by simp only [D.closed] at c ⊢; exact closeds_up h c
  | .non, _ => rfl
  | .bl _, _ => rfl
  | .int _, _ => rfl
  | .str _, _ => rfl
  | .ty _, _ => rfl
  | .fn _, _ => rfl
  | .gl _, _ => rfl
theorem closeds_up {m n : Nat} (h : m ≤ n) : ∀ {ds : List D}, closeds m ds = true → closeds n ds = true
  | [], _ => rfl
  | d :: ds, c => by
    simp only [closeds, Bool.and_eq_true] at c ⊢
    exact ⟨closed_up h c.1, closeds_up h c.2⟩
end
/-- the new things alone -/
noncomputable def fzD (n0 : Nat) : Nat → List D → List D → Option (List D)
  | 0, ds, _ => some ds
  | k + 1, ds, new => match new[k]? with
    | some x => if x.closed (n0 + k) then fzD n0 k (subs (n0 + k) x ds) (subs (n0 + k) x (new.take k)) else none
    | none => none
theorem fz_of {n0 : Nat} {old : List D} (hc : closeds n0 old = true) (hl : old.length = n0) : ∀ {k : Nat} {ds new ds' : List D}, new.length = k → fzD n0 k ds new = some ds' → fz n0 k ds (old ++ new) = some (ds', old)
  | 0, ds, new, ds', hn, e => by
    have : new = [] := List.eq_nil_of_length_eq_zero hn
    subst this
    simp only [fzD] at e
    cases e
    simp [fz]
  | k + 1, ds, new, ds', hn, e => by
    simp only [fzD] at e
    split at e
    · rename_i x hx
      split at e
      · rename_i hcx
        simp only [fz]
        rw [List.getElem?_append_right (by omega)]
        have ek : n0 + k - old.length = k := by omega
        rw [ek, hx]
        simp only [hcx, if_true]
        rw [List.take_append, List.take_of_length_le (by omega), ek, subs_app, subs_closed (closeds_up (Nat.le_add_right _ _) hc)]
        exact fz_of hc hl (by rw [subs_len, List.length_take]; omega) e
      · cases e
    · cases e
/-! ### a def's end -/
open Classical in
/-- back to the things of st0: they are as they were, or speak of themselves alone -/
noncomputable def fzR (st0 : Sto) : R D → Option (R D)
  | .ok d st => if st.take st0.length = st0 ∨ closeds st0.length (st.take st0.length) = true then match fzD st0.length (st.length - st0.length) [d] (st.drop st0.length) with
    | some [d'] => some (.ok d' (st.take st0.length))
    | _ => none else none
  | .ex c ns ds st => if st.take st0.length = st0 ∨ closeds st0.length (st.take st0.length) = true then match fzD st0.length (st.length - st0.length) ds (st.drop st0.length) with
    | some ds' => some (.ex c ns ds' (st.take st0.length))
    | _ => none else none
theorem Go.long {K : PySem.W.Frag} {mg : Str → Option Value} {as as' : List Addr} {F F' H H' : Hp} {st st' : Sto} (f : Frm K mg as F st H) (g : Go K mg as F H as' F' st' H') : st.length ≤ st'.length := by
  rw [← f.len, ← g.frm.len]
  by_cases h : as.length = 0
  · omega
  · have e : as[as.length - 1]? = some as[as.length - 1] := List.getElem?_eq_getElem (by omega)
    have := (List.getElem?_eq_some_iff.mp (g.xt.pre _ _ e)).1
    omega
theorem Frm.closeds {K : PySem.W.Frag} {mg : Str → Option Value} {as : List Addr} {F H : Hp} {st : Sto} (f : Frm K mg as F st H) : Dl.closeds st.length st = true := by
  rw [closeds_iff]
  intro x hx
  obtain ⟨i, hi⟩ := List.mem_iff_getElem?.mp hx
  exact f.closed hi
theorem Go.fzN {K : PySem.W.Frag} {mg : Str → Option Value} {as as' : List Addr} {F F' H H' : Hp} {st st' : Sto} {vs : List V} {ds ds2 : List D} (f : Frm K mg as F st H) (g : Go K mg as F H as' F' st' H') (hc : st'.take st.length = st ∨ Dl.closeds st.length (st'.take st.length) = true) (r : Reps K mg as' F' vs ds)
    (e : fzD st.length (st'.length - st.length) ds (st'.drop st.length) = some ds2) : ∃ as2 F2, Go K mg as F H as2 F2 (st'.take st.length) H' ∧ Reps K mg as2 F2 vs ds2 := by
  have hl := Go.long f g
  have hc2 : Dl.closeds st.length (st'.take st.length) = true := by
    rcases hc with h | h
    · rw [h]; exact f.closeds
    · exact h
  have e2 := fz_of hc2 (by rw [List.length_take]; omega) (by rw [List.length_drop]) e
  rw [List.take_append_drop] at e2
  exact Go.fz f g hl r e2
noncomputable def exitR : Out → Option (R D)
  | .nx _ st => some (.ok .non st)
  | .rt d st => some (.ok d st)
  | .ex c ns ds _ st => some (.ex c ns ds st)
  | _ => none
noncomputable def startE (n : Nat) (ds : List D) : En := ds.map some ++ List.replicate (n - ds.length) none
/-- ice: what the def has made is frozen at its end -/
noncomputable def exitG (ice : Bool) (n : Nat) (f : FS) : G := fun ds st => match f (startE n ds) st with
  | some o => match exitR o with
    | some r => if ice then fzR st r else some r
    | none => none
  | none => none
theorem PostR.fz {K : PySem.W.Frag} {mg : Str → Option Value} {W : WX} {as : List Addr} {F H : Hp} {σ : St} {Q : VK} {st : Sto} {r r' : R D} (f : Frm K mg as F st H) (e : fzR st r = some r') (p : PostR K mg (Rep K mg) W as F H σ Q r') : PostR K mg (Rep K mg) W as F H σ Q r := by
  cases r with
  | ok d st1 =>
    simp only [fzR] at e
    split at e
    · rename_i hc
      split at e
      · rename_i d' h
        cases e
        intro as' F' H' v g rv
        obtain ⟨as2, F2, g2, r2⟩ := Go.fzN f g hc (.cons rv .nil) h
        cases r2 with
        | cons r2 _ => exact p as2 F2 H' v g2 r2
      · cases e
    · cases e
  | ex c ns ds st1 =>
    simp only [fzR] at e
    split at e
    · rename_i hc
      split at e
      · rename_i d' h
        cases e
        intro as' F' H' C od vs g h1 h2 rv
        obtain ⟨as2, F2, g2, r2⟩ := Go.fzN f g hc rv h
        exact p as2 F2 H' C od vs g2 h1 h2 r2
      · cases e
    · cases e
theorem er_start {K : PySem.W.Frag} {mg : Str → Option Value} {as : List Addr} {F : Hp} {N : List Str} {vs : List V} {ds : List D} (r : Reps K mg as F vs ds) : ER K mg as F (start N vs) (startE N.length ds) := by
  have hl := r.length
  refine ⟨by simp [L2.start, startE, hl], fun i d e => ?_⟩
  unfold startE at e
  by_cases hi : i < ds.length
  · rw [List.getElem?_append_left (by simpa using hi), List.getElem?_map] at e
    cases q : ds[i]? with
    | none => rw [q] at e; cases e
    | some d0 =>
      rw [q] at e; cases e
      obtain ⟨v, h1, h2⟩ := r.get q
      refine ⟨v, ?_, h2⟩
      unfold L2.start
      rw [List.getElem?_append_left (by simp [hl]; exact hi), List.getElem?_map, h1]
      rfl
  · rw [List.getElem?_append_right (by simpa using hi), List.getElem?_replicate] at e
    split at e <;> cases e
noncomputable abbrev cxD (P : Program) (w : World) (K : PySem.W.Frag) (mg : Str → Option Value) (base : Heap) (N : List Str) (qual : Str) (stm : Stmt) (f : Addr) (cdv : Value) (A : Around) (outer : List Env) (s : Shared) (H : Hp) (E : XK) : Cx := cxOf (L2.CX P w) P w K mg base N qual (defScope stm) f cdv A outer s H E
noncomputable abbrev wE (E : XK) : WX := fun c d _ H => E c d H
/-- a def's body has the meaning fb -/
noncomputable abbrev Bdy (P : Program) (w : World) (K : PySem.W.Frag) (mg : Str → Option Value) (base : Heap) (k : Nat) (N : List Str) (qual : Str) (stm : Stmt) (f : Addr) (fb : FS) (cdv : Value) (A : Around) (outer : List Env) (s : Shared) (H : Hp) (E : XK) : Prop :=
  Room k (cxD P w K mg base N qual stm f cdv A outer s H E).A → Takes (cxD P w K mg base N qual stm f cdv A outer s H E) (wE E) → PassesOwn (model P w) (cxD P w K mg base N qual stm f cdv A outer s H E).A (cxD P w K mg base N qual stm f cdv A outer s H E).env (cxD P w K mg base N qual stm f cdv A outer s H E).xe →
    DSs (cxD P w K mg base N qual stm f cdv A outer s H E) (wE E) (defBody stm) fb
theorem body_ok {P : Program} {w : World} {K : PySem.W.Frag} {mg : Str → Option Value} {base : Heap} {k : Nat} {f : Addr} {x qual : Str} {stm : Stmt} {fd : FuncData} {N ps : List Str} {fb : FS} (ice : Bool)
    (Fn : Fun K x qual stm f fd) (S : FnScope N ps (defScope stm))
    (body : ∀ (cdv : Value) (A : Around) (outer : List Env) (s : Shared) (H : Hp) (E : XK), Bdy P w K mg base k N qual stm f fb cdv A outer s H E) :
    FnOk P w K mg base (L2.CX P w) (k + 1) f fd ps (dSp K mg ps.length (exitG ice N.length fb)) := by
  obtain ⟨oc, od, kV, doc, pm, an, cdv, ct, osl, rfl, lk, hcd⟩ := Fn.ex
  refine fn_of lk hcd S (fun vs H Q E h => h.1) fun A outer s H vs Q E hr hsp => ?_
  refine ⟨_, body cdv A outer s H E hr (takes_of rfl rfl rfl rfl) (passes_of rfl), ?_⟩
  obtain ⟨hl, as, F, ds, st, r, fr, rp, e, p⟩ := hsp
  refine ⟨as, F, startE N.length ds, st, fr, er_start rp, ?_⟩
  unfold exitG at e
  split at e
  · rename_i o ho
    refine ⟨o, ho, ?_⟩
    split at e
    · rename_i r0 hr0
      have p2 : PostR K mg (Rep K mg) (fun c od _ H => E c od H) as F H [] Q r0 := by
        cases ice with
        | true => exact p.fz fr e
        | false => cases e; exact p
      clear p e
      cases o with
      | nx env st1 => simp only [exitR] at hr0; cases hr0; exact fun as' F' σ' H' g _ => p2 as' F' H' .non g .non
      | rt d st1 => simp only [exitR] at hr0; cases hr0; exact fun as' F' H' v g rv => p2 as' F' H' v g rv
      | bk env st1 => cases hr0
      | ct env st1 => cases hr0
      | ex c ns ds env st1 => simp only [exitR] at hr0; cases hr0; exact fun as' F' σ' H' C od vs g _ h1 h2 h3 => p2 as' F' H' C od vs g h1 h2 h3
    · cases e
  · cases e
theorem Fk.of {P : Program} {w : World} {K : PySem.W.Frag} {mg : Str → Option Value} {base : Heap} {k : Nat} {f : Addr} {x qual : Str} {stm : Stmt} {fd : FuncData} {N ps : List Str} {fb : FS} (ice : Bool)
    (Fn : Fun K x qual stm f fd) (S : FnScope N ps (defScope stm)) (hb : Binds K fd ps [])
    (body : ∀ (cdv : Value) (A : Around) (outer : List Env) (s : Shared) (H : Hp) (E : XK), Bdy P w K mg base k N qual stm f fb cdv A outer s H E) :
    Fk P w K mg base (k + 1) f ps.length (exitG ice N.length fb) := ⟨_, ps, rfl, body_ok ice Fn S body, hb⟩
noncomputable def Df (K : PySem.W.Frag) (x qual : Str) (stm : Stmt) (f : Addr) (ps : List Str) : Prop := ∃ fd, Fun K x qual stm f fd ∧ Binds K fd ps []
theorem Fk.df {P : Program} {w : World} {K : PySem.W.Frag} {mg : Str → Option Value} {base : Heap} {k : Nat} {f : Addr} {x qual : Str} {stm : Stmt} {N ps : List Str} {fb : FS} (ice : Bool) (d : Df K x qual stm f ps) (S : FnScope N ps (defScope stm))
    (body : ∀ (cdv : Value) (A : Around) (outer : List Env) (s : Shared) (H : Hp) (E : XK), Bdy P w K mg base k N qual stm f fb cdv A outer s H E) :
    Fk P w K mg base (k + 1) f ps.length (exitG ice N.length fb) :=
  let ⟨_, h1, h2⟩ := d
  Fk.of ice h1 S h2 body
/-! ### C(..) -/
section
variable {X : Cx} {W : WX} {k n : Nat} {f C : Addr} {g : G} {c x : Str} {p pos : Pos} {e : Expr} {es : List Expr} {fa : FA}
noncomputable def mkR (ice : Bool) (st0 : Sto) : R D → Option (R D)
  | .ok .non st => if ice then fzR st0 (.ok (.obj st0.length) st) else some (.ok (.obj st0.length) st)
  | .ex c ns ds st => fzR st0 (.ex c ns ds st)
  | _ => none
noncomputable def mkS (ice : Bool) (c : Str) (g : G) (ds : List D) : FE := fun _ st => match g (.obj st.length :: ds) (st ++ [.ins c [] []]) with
  | some r => mkR ice st r
  | none => none
theorem mk_run {ice : Bool} (F : Fk X.prog X.w X.K X.mg X.base k f n g) (M : Mk X.K C f) (hC : X.mg c = some (.ref C)) (hr : Room (k + 1) X.A) (tk : Takes X W) {pins : List (Addr × Obj)} {s : Shared} {σ : St} {H : Hp} {as : List Addr} {Fz : Hp} {env : En} {st : Sto} {vs : List V} {us : List Value} {ds : List D} {Q : VK}
    (I : Inv X pins σ H s) (r : Vals vs us) (rp : Reps X.K X.mg as Fz vs ds) (hl : ds.length + 1 = n) (at_ : AtR X.K X.mg (Rep X.K X.mg) W (mkS ice c g ds) as Fz env st σ H Q) :
    wpAny (model X.prog X.w) X.A (call (.ref C) us) (EP X pins σ Q) X.xe s := by
  obtain ⟨fd, ps, hn, F, hb⟩ := F
  obtain ⟨fr, er, z, ez, pz⟩ := at_
  have h1 : H (s.heap.objs.size + 1) = none := I.hok.fresh (Nat.le_succ _)
  have h0 : H s.heap.objs.size = none := I.hok.fresh (Nat.le_refl _)
  have h01 : s.heap.objs.size ≠ s.heap.objs.size + 1 := Nat.ne_of_lt (Nat.lt_succ_self _)
  have g0 : Go X.K X.mg as Fz H as Fz st (upd H s.heap.objs.size (.own (s.heap.objs.size + 1))) := Go.grow fr h0
  have g1 := Go.newO (p := s.heap.objs.size + 1) (o := .ins C s.heap.objs.size []) (d := .ins c [] []) g0.frm (by rw [upd_ne h01.symm]; exact h1) (.ins (fs := []) hC upd_same .nil)
  have g2 := g0.trans g1
  have I2 := Inv.made (C := C) I
  have ha : (as ++ [s.heap.objs.size + 1])[st.length]? = some (s.heap.objs.size + 1) := by rw [← fr.len]; simp
  unfold mkS at ez
  cases hg : g (.obj st.length :: ds) (st ++ [.ins c [] []]) with
  | none => rw [hg] at ez; cases ez
  | some r0 =>
  rw [hg] at ez
  have hq : dSp X.K X.mg n g (.ref (s.heap.objs.size + 1) :: vs) (upd (upd H s.heap.objs.size (.own (s.heap.objs.size + 1))) (s.heap.objs.size + 1) (.ins C s.heap.objs.size [])) (fun v H2 => v = .non ∧ Q (.ref (s.heap.objs.size + 1)) H2) (WE W σ) := by
    refine ⟨by rw [List.length_cons, rp.length]; exact hl, _, Fz, .obj st.length :: ds, _, r0, g2.frm, .cons (.obj ha) (rp.mono g2.xt), hg, ?_⟩
    cases r0 with
    | ok d st1 =>
      cases d with
      | non =>
        intro as' F' H' v g3 rv
        cases rv
        refine ⟨rfl, ?_⟩
        have g4 := g2.trans g3
        have ro : Rep X.K X.mg as' F' (.ref (s.heap.objs.size + 1)) (.obj st.length) := .obj (g3.xt.pre _ _ ha)
        have pz' : PostR X.K X.mg (Rep X.K X.mg) W as Fz H σ Q (.ok (.obj st.length) st1) := by
          cases ice with
          | true => exact pz.fz fr ez
          | false => cases ez; exact pz
        exact pz' as' F' H' _ g4 ro
      | _ => cases ez
    | ex cc ns dd st1 =>
      have ez' : fzR st (.ex cc ns dd st1) = some z := ez
      have pz' := pz.fz fr ez'
      exact fun as' F' H' C od vs g3 => pz' as' F' H' C od vs (g2.trans g3)
  have r2 : Vals (V.ref (s.heap.objs.size + 1) :: vs) (Value.ref (s.heap.objs.size + 1) :: us) := .cons rfl r
  have hl2 : (Value.ref (s.heap.objs.size + 1) :: us ++ []).length = ps.length := by
    have e := r2.length
    rw [F.len _ _ _ _ hq] at e
    simpa using e.symm
  have b := hb _ (Value.ref (s.heap.objs.size + 1) :: us) I2.kIn hl2
  rw [List.append_nil] at b
  refine wpAny_call (make_map (f := f) I.kIn M.makes M.init (beq_iff_eq.mp M.fn) (codeAny_mono (F.run _ X.stack _ _ ⟨Value.ref (s.heap.objs.size + 1) :: us, []⟩ (Value.ref (s.heap.objs.size + 1) :: us) _ _ (WE W σ) (hr.make C us [])
    (I2.env0.make C us []) b r2 hq) fun r s' hq' => ?_))
  cases r with
  | error e => exact passAt tk σ pins _ _ e s' I2 hq'
  | ok fl =>
    cases fl with
    | ret u =>
      obtain ⟨v, H', I3, rv, ev, q3⟩ := I2.after hq'
      subst ev
      exact ⟨rv, ⟨V.ref (s.heap.objs.size + 1), H', I3, rfl, q3⟩⟩
    | next => exact False.elim hq'
    | brk => exact False.elim hq'
    | cont => exact False.elim hq'
noncomputable def fMake (ice : Bool) (c : Str) (n : Nat) (g : G) (fa : FA) : FE := fBind fa fun ds => fGd (Nat.beq (ds.length + 1) n) (mkS ice c g ds)
theorem de_make (ice : Bool) {j : Nat} (F : Fk X.prog X.w X.K X.mg X.base j f n g) (M : Mk X.K C f) (hm : X.mg x = some (.ref C)) (hr : Room k X.A) (tk : Takes X W) (ha : DA X W (e :: es) fa) (hj : j + 1 ≤ k := by decide)
    (hg : Gl X x := by rfl) (hdb : (x == ("__debug__" : Str)) = false := by decide) (he : starEach (e :: es) X.env = (false, eval e X.env) :: starEach es X.env := by rfl) (hpl : (backTo pos (starEach es X.env)).any (·.1) = false := by rfl) :
    DE X W (.Call (.Name x p) (e :: es) [] pos) (fMake ice x n g fa) := by
  refine ⟨fun pins s σ H Q I ⟨as, F0, env, st, h⟩ => ?_⟩
  refine wpAny_Call_Name_kw (ld_glob I hg hm ?_ hdb)
  have h' : tDA X.K X.mg W fa σ H (fun vs H1 => ∃ as F env st ds, Reps X.K X.mg as F vs ds ∧ ds.length + 1 = n ∧ AtR X.K X.mg (Rep X.K X.mg) W (mkS ice x g ds) as F env st σ H1 Q) :=
    h.bind fun as1 F1 st1 d v H1 _ x1 r1 h1 => by
      obtain ⟨hc, h2⟩ := h1.gd
      exact ⟨as1, F1, env, st1, d, r1, Nat.eq_of_beq_eq_true hc, h2⟩
  refine PySem.W.callWith_K (h₀ := X.base) I.ok.mod.kin M.kp (thn (ha.run pos pins s σ H _ I h') fun us s1 ⟨vs, H1, I1, r, as, F1, env, st, ds, q1, q2, q3⟩ => ⟨I1.kIn, ?_⟩) he hpl
  exact mk_run F M hm (hr.mono hj) tk I1 r q1 q2 q3
end
/-! ### the law's end -/
noncomputable def spLaw (K : PySem.W.Frag) : Sp := fun vs H Q _ => ∃ (a : Addr) (ns : List Int), vs = [.ref a] ∧ SqL K H a (ns.map V.int) ∧ ns.length ≤ 63 ∧ (∀ z ∈ ns, Builtin.Int.intBits z ≤ 1048576) ∧ ∀ H', Q (.bl true) H'
theorem law_sp {K : PySem.W.Frag} {mg : Str → Option Value} {g : G} (h : ∀ ns : List Int, ns.length ≤ 63 → (∀ z ∈ ns, Builtin.Int.intBits z ≤ 1048576) → ∃ st, g [.lstR (ns.map .int)] [] = some (.ok (.bl true) st)) :
    ∀ vs H Q E, spLaw K vs H Q E → dSp K mg 1 g vs H Q E := by
  intro vs H Q E ⟨a, ns, e, hs, h1, h2, q⟩
  subst e
  obtain ⟨st, e⟩ := h ns h1 h2
  refine ⟨rfl, [], H, [.lstR (ns.map .int)], [], _, ⟨Ext.rfl', rfl, .nil, fun i a d e => by cases e⟩, .cons (.lstR hs (Reps.ints ns)) .nil, e, ?_⟩
  intro as' F' H' v g rv
  cases rv
  exact q H'
theorem walk_law {l : PySem.W.OpenLaw} {k : Nat} {q : Program} {loose : List Str} {XP : (Str → Option Value) → Heap → Prop} {YP : World → Heap → Prop} {d : DefRec} {K : Params → PySem.W.Frag} {x : Str} {g : G}
    (hn : l.most = some 63) (hdf : d.params.defaults = []) (hr : Room k callerA)
    (hY : ∀ (w : World) (h : Heap), YP w h → (K w.params).In h)
    (F : ∀ (w : World) (mg : Str → Option Value) (fa : Addr) (h : Heap), (K w.params).In h → h.Ns mainGlobals mg → mg d.name = some (.ref fa) →
      ∃ fd : FuncData, (∀ (s : Shared) (u : Value), BindsTo s fd ⟨[u], []⟩ [(x, u)]) ∧
        ∀ base : Heap, FnOk l.prog w (K w.params) mg base (L2.CX l.prog w) k fa fd [x] (dSp (K w.params) mg 1 g))
    (hg : ∀ ns : List Int, ns.length ≤ 63 → (∀ z ∈ ns, Builtin.Int.intBits z ≤ 1048576) → ∃ st, g [.lstR (ns.map .int)] [] = some (.ok (.bl true) st)) :
    PySem.W.WalkO q loose XP YP l.row.toRowW d [] (fun f vs => PySem.call f vs) := by
  refine walk_end (n := 63) (k := k) (x := x) (CX := fun w => L2.CX l.prog w) (sp := fun w => spLaw (K w.params)) hn (by decide) hdf hr hY (fun w mg fa h h1 h2 h3 => ?_) (fun w H a ns h1 h2 _ h4 => ⟨a, ns, rfl, h4, h1, h2, fun _ => rfl⟩) ?_
  · obtain ⟨fd, b1, b2⟩ := F w mg fa h h1 h2 h3
    exact ⟨fd, b1, fun base _ _ => (b2 base).imp (law_sp hg)⟩
  · rintro w H s e s' ⟨a, B, H', cls, dd, h1, h2, h3, h4, h5, h6, h7, h8⟩
    exact h8
end Dl
end
section
set_option Elab.async false
set_option linter.all false
set_option maxRecDepth 100000
namespace Dl
open PySem PySem.Spec L2
section
variable {X : Cx} {W : WX} {a b : Expr} {fa fb : FE} {p q pos pos' : Pos}
noncomputable def fDict0 (own : Bool) : FE := fNew own (.dK [] [])
theorem reps_rg {K : PySem.W.Frag} {mg : Str → Option Value} {as : List Addr} {F : Hp} (a b : Int) : Reps K mg as F (rgV a b) (upTo a (b - a).toNat) := by
  have e1 : rgV a b = ((List.range (b - a).toNat).map fun i => a + ((i : Nat) : Int)).map V.int := by simp [rgV]
  have e2 : upTo a (b - a).toNat = ((List.range (b - a).toNat).map fun i => a + ((i : Nat) : Int)).map D.int := by simp [upTo]
  rw [e1, e2]
  exact Reps.ints _
noncomputable def rgOk (a b : Int) : Bool := decide (-(2 ^ 62) ≤ a ∧ a < 2 ^ 62 ∧ -(2 ^ 62) ≤ b ∧ b < 2 ^ 62 ∧ (b - a).toNat ≤ 2 ^ 24)
noncomputable def fListRg (own : Bool) (a b : Int) : FE := fGd (rgOk a b) (fNew own (.lst (upTo a (b - a).toNat)))
noncomputable def lRg1 (own : Bool) (d : D) : FE := match d with
  | .int j => fListRg own 0 j
  | _ => fun _ _ => none
theorem at_rg {own : Bool} {as : List Addr} {F : Hp} {env : En} {st : Sto} {σ : St} {H : Hp} {Q : VK} {i j : Int} (h : AtR X.K X.mg (Rep X.K X.mg) W (fListRg own i j) as F env st σ H Q) : RgOk i j ∧ ∀ q, H q = none → Q (.ref q) (upd H q (.lst (rgV i j))) := by
  obtain ⟨hc, h2⟩ := h.gd
  refine ⟨by unfold RgOk; simpa only [rgOk, decide_eq_true_eq] using hc, fun q hq => ?_⟩
  exact AtR.newX h2 hq (fun _ => .lst upd_same (reps_rg i j)) (fun _ => .lst upd_same (reps_rg i j))
theorem de_listRg1 (own : Bool) (hl : X.mg "list" = none) (hm : X.mg "range" = none) (ha : DE X W a fa) (hc : X.calm = true := by rfl) (hg : Gl X "list" := by rfl) (hg2 : Gl X "range" := by rfl) (na : starEach [.Call (.Name "range" p) [a] [] pos] X.env = (false, eval (.Call (.Name "range" p) [a] [] pos) X.env) :: starEach [] X.env := by rfl)
    (nb : starEach [a] X.env = [(false, eval a X.env)] := by rfl) : DE X W (.Call (.Name "list" q) [.Call (.Name "range" p) [a] [] pos] [] pos') (fBind fa (lRg1 own)) := by
  refine pe_imp (pe_listRg hc hg hl (prg_1 hg2 hm ha nb) na) fun σ H Q ⟨as, F, env, st, h⟩ => ?_
  refine h.bind fun as1 F1 st1 d v H1 _ x1 r1 h1 => ?_
  cases r1 with
  | int j => exact ⟨j, rfl, at_rg h1⟩
  | _ => exact h1.bad rfl
theorem pe_tyN {x : Str} {T : String} {pos : Pos} (hm : X.mg x = none) (hv : bootBuiltins x = some (.type T)) (hg : Gl X x := by rfl) (hn : x ≠ "__name__" := by decide) (hd : (x == ("__debug__" : Str)) = false := by decide) : PE X (.Name x pos) (tC (.ty T)) :=
  pe_bltn hg hm hv rfl hn hd
theorem un65 {k : Nat} {A : Around} (hr : Room k A) : A.units + 65 < cLine := by have := hr.un; omega
theorem CS.of {K : PySem.W.Frag} {mg : Str → Option Value} (l : List (Str × Addr)) (h1 : ∀ p ∈ l, mg p.1 = some (.ref p.2)) (h2 : ∀ p ∈ l, CI K p.2)
    (h3 : ∀ p ∈ l, ∀ r ∈ l, PySem.W.kitOne K (.ref p.2) (.ref r.2) = some (decide (p.1 = r.1)) ∧ PySem.W.notFirst K p.2 (.ref r.2) = true) : CS K mg (l.map (·.1)) := by
  have un : ∀ p ∈ l, ∀ C, mg p.1 = some (.ref C) → C = p.2 := fun p hp C e => by
    rw [h1 p hp] at e; cases e; rfl
  refine ⟨fun c hc C e => ?_, fun c hc c' hc' C C' e e' => ?_⟩
  · obtain ⟨p, hp, rfl⟩ := List.mem_map.mp hc
    rw [un p hp C e]; exact h2 p hp
  · obtain ⟨p, hp, rfl⟩ := List.mem_map.mp hc
    obtain ⟨r, hr, rfl⟩ := List.mem_map.mp hc'
    rw [un p hp C e, un r hr C' e']; exact h3 p hp r hr
end
theorem kit_self {K : PySem.W.Frag} {C : Addr} : PySem.W.kitOne K (.ref C) (.ref C) = some true := by
  unfold PySem.W.kitOne
  rw [if_pos (by simp)]
theorem kit_ref {K : PySem.W.Frag} {t : Value} {C : Addr} {b : Bool} (ic : PySem.W.isClsIn K C = true) (ty : PySem.W.typeIn K (.ref C) = some (.type "type")) (ne : (t == Value.ref C) = false) (h : PySem.W.subIn K t (.ref C) = some b) : PySem.W.kitOne K t (.ref C) = some b := by
  have ic' : (PySem.W.clsIn K C).isSome = true := ic
  unfold PySem.W.kitOne PySem.W.kitCls
  rw [if_neg (by rw [ne]; decide)]
  exact (if_pos (by rw [ic', ty]; rfl)).trans h
theorem kit_typ {K : PySem.W.Frag} {C : Addr} {T : String} {b : Bool} (hk : PySem.W.kitMeta T = true) (h : PySem.W.subIn K (.ref C) (.type T) = some b) : PySem.W.kitOne K (.ref C) (.type T) = some b := by
  unfold PySem.W.kitOne PySem.W.kitCls
  rw [if_neg (by intro z; cases z)]
  exact (if_pos hk).trans h
theorem kit_btys : ∀ T ∈ btys, PySem.W.kitMeta T = true := by decide +kernel
theorem CI.of {K : PySem.W.Frag} {C : Addr} (cl : Cls K C) (ha : PySem.W.findIn K (.ref C) "__class__" = some (some (.builtin "object.__class__")))
    (hn : PySem.W.specialIn K (.builtin "object.__class__") "__get__" = some (some (.builtin "getset_descriptor.__get__"))) (htk : PySem.W.takesIn K (.builtin "object.__class__") = some true)
    (hm : PySem.W.mroIn K C (.type "object") = some true) (ne : PySem.W.findIn K (.ref C) "__ne__" = some (some (.builtin "object.__ne__"))) (so : PySem.W.subIn K (.ref C) (.type "object") = some true)
    (ic : PySem.W.isClsIn K C = true) (ty : PySem.W.typeIn K (.ref C) = some (.type "type")) (s1 : ∀ T ∈ btys, PySem.W.subIn K (.ref C) (.type T) = some false) (s2 : ∀ T ∈ btys, PySem.W.subIn K (.type T) (.ref C) = some false) : CI K C := by
  refine ⟨cl, ha, hn, htk, hm, ?_, ?_, ?_, ne, so⟩
  · rw [List.all_eq_true]; intro T hT; rw [kit_typ (kit_btys T hT) (s1 T hT)]; rfl
  · rw [List.all_eq_true]; intro T hT; rw [kit_ref ic ty rfl (s2 T hT)]; rfl
  · rw [List.all_eq_true]; intro T hT; unfold PySem.W.notFirst; rw [s2 T hT]; simp
theorem first_self {K : PySem.W.Frag} {C : Addr} : PySem.W.notFirst K C (.ref C) = true := by unfold PySem.W.notFirst; simp
theorem first_sub {K : PySem.W.Frag} {C C' : Addr} (h : PySem.W.subIn K (.ref C') (.ref C) = some false) : PySem.W.notFirst K C (.ref C') = true := by unfold PySem.W.notFirst; rw [h]; simp
theorem bt_int : bootBuiltins "int" = some (.type "int") := by decide +kernel
theorem bt_bool : bootBuiltins "bool" = some (.type "bool") := by decide +kernel
theorem bt_list : bootBuiltins "list" = some (.type "list") := by decide +kernel
theorem bt_tuple : bootBuiltins "tuple" = some (.type "tuple") := by decide +kernel
theorem bt_len : bootBuiltins "len" = some (.builtin "len") := by decide +kernel
theorem bt_all : bootBuiltins "all" = some (.builtin "all") := by decide +kernel
theorem bt_max : bootBuiltins "max" = some (.builtin "max") := by decide +kernel
theorem bt_min : bootBuiltins "min" = some (.builtin "min") := by decide +kernel
theorem bt_sum : bootBuiltins "sum" = some (.builtin "sum") := by decide +kernel
end Dl
end
section
set_option Elab.async false
set_option linter.all false
set_option maxRecDepth 100000
/-! what a data function comes to, from the end backwards -/
namespace Dl
open PySem
noncomputable abbrev XQ := Str → List Str → List D → Sto → Prop
noncomputable def postX {α : Type} (Q : α → Sto → Prop) (X : XQ) : R α → Prop
  | .ok a s => Q a s
  | .ex c ns ds s => X c ns ds s
noncomputable def wpX {α : Type} (f : FX α) (env : En) (st : Sto) (Q : α → Sto → Prop) (X : XQ) : Prop := ∃ r, f env st = some r ∧ postX Q X r
noncomputable def wpS (f : FS) (env : En) (st : Sto) (Q : Out → Prop) : Prop := ∃ o, f env st = some o ∧ Q o
noncomputable def wpG (g : G) (ds : List D) (st : Sto) (Q : D → Sto → Prop) (X : XQ) : Prop := ∃ r, g ds st = some r ∧ postX Q X r
section
variable {α γ : Type} {env : En} {st : Sto} {Q : α → Sto → Prop} {QD : D → Sto → Prop} {QB : Bool → Sto → Prop} {QA : List D → Sto → Prop} {QC : γ → Sto → Prop} {X : XQ} {f : FX α} {fe fa fb fc : FE} {fr : FA} {d x y : D} {g : D → D → FE} {ft ft' : FT}
theorem wp_monoX {Q' : α → Sto → Prop} {X' : XQ} (h : wpX f env st Q' X') (h1 : ∀ a s, Q' a s → Q a s) (h2 : ∀ c ns ds s, X' c ns ds s → X c ns ds s) : wpX f env st Q X := by
  obtain ⟨r, e, p⟩ := h
  refine ⟨r, e, ?_⟩
  cases r with
  | ok a s => exact h1 a s p
  | ex c ns ds s => exact h2 c ns ds s p
theorem wp_mono {Q' : α → Sto → Prop} (h : wpX f env st Q' X) (h1 : ∀ a s, Q' a s → Q a s) : wpX f env st Q X := wp_monoX h h1 fun _ _ _ _ h => h
theorem wpG_ok {g : G} {ds : List D} {d : D} {s : Sto} (e : g ds st = some (.ok d s)) (h : QD d s) : wpG g ds st QD X := ⟨_, e, h⟩
theorem wp_ok {a : α} {s : Sto} (e : f env st = some (.ok a s)) (h : Q a s) : wpX f env st Q X := ⟨_, e, h⟩
theorem wp_c (h : QD d st) : wpX (fC d) env st QD X := ⟨_, rfl, h⟩
theorem wp_var {i : Nat} (e : env[i]? = some (some d)) (h : QD d st) : wpX (fVar i) env st QD X := ⟨.ok d st, by simp only [fVar, e], h⟩
theorem wp_bind {k : α → FX γ} (h : wpX f env st (fun a s => wpX (k a) env s QC X) X) : wpX (fBind f k) env st QC X := by
  obtain ⟨r, e, p⟩ := h
  cases r with
  | ok a s =>
    obtain ⟨r2, e2, p2⟩ := p
    exact ⟨r2, by simp only [fBind, e, e2], p2⟩
  | ex c ns ds s => exact ⟨.ex c ns ds s, by simp only [fBind, e], p⟩
theorem wp_P {o : Sto → Option α} {a : α} (e : o st = some a) (h : Q a st) : wpX (fP o) env st Q X := ⟨.ok a st, by simp only [fP, e], h⟩
theorem wp_newF (h : QD d st) : wpX (fNew false d) env st QD X := ⟨_, rfl, h⟩
theorem wp_newT (h : QD (.obj st.length) (st ++ [d])) : wpX (fNew true d) env st QD X := ⟨_, rfl, h⟩
theorem wp_gd {c : Bool} (e : c = true) (h : wpX f env st Q X) : wpX (fGd c f) env st Q X := by subst e; exact h
theorem wp_anil (h : QA [] st) : wpX aNil env st QA X := ⟨_, rfl, h⟩
theorem wp_acons (h : wpX fa env st (fun a s => wpX fr env s (fun as s => QA (a :: as) s) X) X) : wpX (aCons fa fr) env st QA X := by
  refine wp_bind (wp_mono h fun a s h => wp_bind (wp_mono h fun as s h => ⟨_, rfl, h⟩))
theorem wp_op2 (h : wpX fa env st (fun x s => wpX fb env s (fun y s => wpX (g x y) env s QD X) X) X) : wpX (fOp2 g fa fb) env st QD X := wp_bind (wp_mono h fun a s h => wp_bind h)
/-- a truth -/
noncomputable def IsB (Q : Bool → Prop) : D → Prop
  | .bl b => Q b
  | _ => False
theorem wp_asB (h : wpX fe env st (fun d s => IsB (fun b => QB b s) d) X) : wpX (fAsB fe) env st QB X := by
  refine wp_bind (wp_mono h fun a s h => ?_)
  cases a with
  | bl b => exact wp_P rfl h
  | _ => exact h.elim
theorem wp_chain {g g' : D → D → FE} (h : wpX fa env st (fun x s => wpX fb env s (fun y s => wpX (g x y) env s (fun d s => IsB (fun b => (b = true → wpX fc env s (fun z s => wpX (g' y z) env s QD X) X) ∧ (b = false → QD (.bl false) s)) d) X) X) X) : wpX (fChain g g' fa fb fc) env st QD X := by
  refine wp_bind (wp_mono h fun a s h => wp_bind (wp_mono h fun b s h => wp_bind (wp_asB (wp_mono h fun d s h => ?_))))
  cases d with
  | bl k =>
    cases k with
    | true => exact wp_bind (h.1 rfl)
    | false => exact wp_c (h.2 rfl)
  | _ => exact h.elim
theorem wp_tru (h : wpX fe env st (fun d s => ∃ b, gTru s d = some b ∧ QB b s) X) : wpX (fTru fe) env st QB X := wp_bind (wp_mono h fun a s ⟨b, e, h⟩ => wp_P e h)
theorem wp_not (h : wpX ft env st (fun b s => QB (!b) s) X) : wpX (fNot ft) env st QB X := wp_bind (wp_mono h fun a s h => wp_P rfl h)
theorem wp_and (h : wpX ft env st (fun b s => (b = true → wpX ft' env s QB X) ∧ (b = false → QB false s)) X) : wpX (fAnd ft ft') env st QB X := by
  refine wp_bind (wp_mono h fun a s h => ?_)
  cases a with
  | true => exact h.1 rfl
  | false => exact wp_P rfl (h.2 rfl)
theorem wp_or (h : wpX ft env st (fun b s => (b = true → QB true s) ∧ (b = false → wpX ft' env s QB X)) X) : wpX (fOr ft ft') env st QB X := by
  refine wp_bind (wp_mono h fun a s h => ?_)
  cases a with
  | false => exact h.2 rfl
  | true => exact wp_P rfl (h.1 rfl)
theorem wp_andV (h : wpX fa env st (fun d s => IsB (fun b => (b = true → wpX fb env s QD X) ∧ (b = false → QD (.bl false) s)) d) X) : wpX (fAndV fa fb) env st QD X := by
  refine wp_bind (wp_asB (wp_mono h fun a s h => ?_))
  cases a with
  | bl b =>
    cases b with
    | true => exact h.1 rfl
    | false => exact wp_c (h.2 rfl)
  | _ => exact h.elim
theorem wp_orV (h : wpX fa env st (fun d s => IsB (fun b => (b = true → QD (.bl true) s) ∧ (b = false → wpX fb env s QD X)) d) X) : wpX (fOrV fa fb) env st QD X := by
  refine wp_bind (wp_asB (wp_mono h fun a s h => ?_))
  cases a with
  | bl b =>
    cases b with
    | false => exact h.2 rfl
    | true => exact wp_c (h.1 rfl)
  | _ => exact h.elim
theorem wp_notV (h : wpX fa env st (fun d s => IsB (fun b => QD (.bl !b) s) d) X) : wpX (fNotV fa) env st QD X := by
  refine wp_bind (wp_asB (wp_mono h fun a s h => ?_))
  cases a with
  | bl b => exact wp_c h
  | _ => exact h.elim
theorem wp_ifE {f g : FX α} (h : wpX ft env st (fun b s => (b = true → wpX f env s Q X) ∧ (b = false → wpX g env s Q X)) X) : wpX (fIf ft f g) env st Q X := by
  refine wp_bind (wp_mono h fun a s h => ?_)
  cases a with
  | true => exact h.1 rfl
  | false => exact h.2 rfl
/-! ### operations -/
theorem wp_sub {i j : Int} (h : QD (.int (i - j)) st) : wpX (gSub (.int i) (.int j)) env st QD X := ⟨_, rfl, h⟩
theorem wp_add {own : Bool} {i j : Int} (h : QD (.int (i + j)) st) : wpX (gAdd own (.int i) (.int j)) env st QD X := ⟨_, rfl, h⟩
theorem wp_mul {own : Bool} {i j : Int} (hc : cMulB i j = true) (h : QD (.int (i * j)) st) : wpX (gMul own (.int i) (.int j)) env st QD X := wp_P (a := .int (i * j)) (by show gMulI i j = _; rw [gMulI, if_pos hc]) h
theorem wp_div {i j : Int} (hc : 0 < j ∧ j.natAbs.log2 < 9000) (h : QD (.int (i / j)) st) : wpX (gDiv (.int i) (.int j)) env st QD X := wp_P (a := .int (i / j)) (by show (if _ then _ else _) = _; rw [if_pos hc]) h
theorem wp_mod {i j : Int} (hc : 0 < j) (h : QD (.int (i % j)) st) : wpX (gMod (.int i) (.int j)) env st QD X := wp_P (a := .int (i % j)) (by show (if _ then _ else _) = _; rw [if_pos hc]) h
theorem wp_pow {i j : Int} (hc : 0 ≤ j ∧ (Builtin.Int.intBits i : Int) * j ≤ 2 ^ 27) (h : QD (.int (i ^ j.toNat)) st) : wpX (gPow (.int i) (.int j)) env st QD X := wp_P (a := .int (i ^ j.toNat)) (by show (if _ then _ else _) = _; rw [if_pos hc]) h
theorem wp_neg {i : Int} (h : wpX fa env st (fun d s => d = .int i ∧ QD (.int (-i)) s) X) : wpX (fNeg fa) env st QD X := wp_bind (wp_mono h fun a s ⟨e, h⟩ => by subst e; exact wp_P rfl h)
theorem wp_lt {i j : Int} (h : QD (.bl (decide (i < j))) st) : wpX (gLt (.int i) (.int j)) env st QD X := ⟨_, rfl, h⟩
theorem wp_le {i j : Int} (h : QD (.bl (decide (i ≤ j))) st) : wpX (gLe (.int i) (.int j)) env st QD X := ⟨_, rfl, h⟩
theorem wp_gt {i j : Int} (h : QD (.bl (decide (j < i))) st) : wpX (gGt (.int i) (.int j)) env st QD X := ⟨_, rfl, h⟩
theorem wp_ge {i j : Int} (h : QD (.bl (decide (j ≤ i))) st) : wpX (gGe (.int i) (.int j)) env st QD X := ⟨_, rfl, h⟩
theorem eqD_int {i j : Int} : eqD (.int i) (.int j) = decide (i = j) := by
  have : eqD (.int i) (.int j) = (i == j) := rfl
  rw [this, Bool.eq_iff_iff]; simp
theorem wp_eqI {i j : Int} (h : QD (.bl (decide (i = j))) st) : wpX (gEq (.int i) (.int j)) env st QD X := wp_P (a := .bl (decide (i = j))) (by show eqS false st (.int i) (.int j) = _; rw [← eqD_int]; rfl) h
theorem wp_neI {i j : Int} (h : QD (.bl (!decide (i = j))) st) : wpX (gNe (.int i) (.int j)) env st QD X := wp_P (a := .bl (!decide (i = j))) (by show eqS true st (.int i) (.int j) = _; rw [← eqD_int]; rfl) h
theorem wp_isN {neg : Bool} (h : QD (.bl (if neg then !isNon x else isNon x)) st) : wpX (gIs neg x .non) env st QD X := ⟨_, rfl, h⟩
theorem wp_isB {neg a b : Bool} (h : QD (.bl (if neg then !decide (a = b) else decide (a = b))) st) : wpX (gIs neg (.bl a) (.bl b)) env st QD X := ⟨_, rfl, h⟩
theorem wp_ix {i : Int} {xs : List D} (e : items st x = some xs) (h0 : 0 ≤ i) (hm : xs[i.toNat]? = some d) (h : QD d st) : wpX (gIx x (.int i)) env st QD X := by
  refine wp_P (a := d) ?_ h
  have hl : i.toNat < xs.length := (List.getElem?_eq_some_iff.mp hm).1
  have ha : L2.atI xs i = some d := by
    have e2 : i = ((i.toNat : Nat) : Int) := (Int.toNat_of_nonneg h0).symm
    rw [e2]
    unfold L2.atI
    rw [Evl.ixN_nat hl]
    exact hm
  unfold items at e
  simp only [ixS]
  split at e <;> rename_i q <;> first | (cases e; simp only [q]; exact ha) | cases e
theorem wp_lst {own : Bool} (h : wpX fr env st (fun ds s => ds.length ≤ 16777216 ∧ wpX (fNew own (.lst ds)) env s QD X) X) : wpX (fLst own fr) env st QD X := wp_bind (wp_mono h fun a s ⟨e, h⟩ => wp_gd (Nat.ble_eq_true_of_le e) h)
theorem wp_tup (h : wpX fr env st (fun ds s => ds.length ≤ 16777216 ∧ QD (.tup ds) s) X) : wpX (fTup fr) env st QD X := wp_bind (wp_mono h fun a s ⟨e, h⟩ => wp_gd (Nat.ble_eq_true_of_le e) (wp_newF h))
theorem wp_CB {g : List D → FE} (h : wpX fr env st (fun ds s => wpX (g ds) env s QD X) X) : wpX (fCB g fr) env st QD X := wp_bind h
theorem wp_g1 {g : Sto → D → Option D} (e : g st x = some d) (h : QD d st) : wpX (g1 g [x]) env st QD X := wp_P e h
theorem wp_g2 {g : Sto → D → D → Option D} (e : g st x y = some d) (h : QD d st) : wpX (g2 g [x, y]) env st QD X := wp_P e h
theorem lenS_of {xs : List D} (e : items st x = some xs) : lenS st x = some (.int xs.length) := by
  unfold items at e
  unfold lenS
  split at e <;> rename_i q <;> first | (cases e; simp only [q]) | cases e
theorem wp_len {xs : List D} (e : items st x = some xs) (h : QD (.int xs.length) st) : wpX (g1 lenS [x]) env st QD X := wp_g1 (lenS_of e) h
theorem wp_listF {xs : List D} (e : items st x = some xs) (h : QD (.lst xs) st) : wpX (gList false [x]) env st QD X := ⟨.ok (.lst xs) st, by simp only [gList, e, fNew], h⟩
theorem wp_listT {xs : List D} (e : items st x = some xs) (h : QD (.obj st.length) (st ++ [.lst xs])) : wpX (gList true [x]) env st QD X := ⟨.ok (D.obj st.length) (st ++ [D.lst xs]), (by simp only [gList, e, fNew]), h⟩
theorem wp_tuple {xs : List D} (e : items st x = some xs) (h : QD (.tup xs) st) : wpX (gTuple [x]) env st QD X := ⟨.ok (.tup xs) st, by simp only [gTuple, e, fC], h⟩
theorem wp_call {n : Nat} {g : G} (h : wpX fr env st (fun ds s => ds.length = n ∧ wpG g ds s QD X) X) : wpX (fCall n g fr) env st QD X := wp_bind (wp_mono h fun a s ⟨e, h⟩ => wp_gd (by subst e; exact Nat.beq_refl _) h)
theorem wp_fld {c n : Str} (h : wpX fe env st (fun x s => ∃ d, fldS c n s x = some d ∧ QD d s) X) : wpX (fFld c n fe) env st QD X := wp_bind (wp_mono h fun a s ⟨d, e, h⟩ => wp_P e h)
theorem wp_meth {c m : Str} {n : Nat} {g : G} (h : wpX fe env st (fun x s => isIns c m s x = true ∧ wpX fr env s (fun ds s => ds.length + 1 = n ∧ wpG g (x :: ds) s QD X) X) X) : wpX (fMeth c m n g fe fr) env st QD X :=
  wp_bind (wp_mono h fun a s ⟨e, h⟩ => by
    show wpX (fGd (isIns c m s a) _) env s QD X
    exact wp_gd e (wp_bind (wp_mono h fun ds s ⟨e, h⟩ => wp_gd (by subst e; exact Nat.beq_refl _) h)))
theorem wp_meth0 {c m : Str} {g : G} (h : wpX fe env st (fun x s => isIns c m s x = true ∧ wpG g [x] s QD X) X) : wpX (fMeth0 c m g fe) env st QD X :=
  wp_bind (wp_mono h fun a s ⟨e, h⟩ => by
    show wpX (fGd (isIns c m s a) _) env s QD X
    exact wp_gd e h)
theorem wp_prop {c : Str} {g : G} (h : wpX fe env st (fun x s => isCls c s x = true ∧ wpG g [x] s QD (fun _ _ _ _ => False)) X) : wpX (fProp c g fe) env st QD X :=
  wp_bind (wp_mono h fun a s ⟨e, h⟩ => by
    show wpX (fGd (isCls c s a) _) env s QD X
    obtain ⟨r, e2, p⟩ := h
    cases r with
    | ok d s2 => exact wp_gd e ⟨.ok d s2, by simp only [noEx, e2], p⟩
    | ex c ns ds s2 => exact p.elim)
theorem wp_own {c : Str} {g : G} (e : isCls c st x = true) (h : wpG g [x, y] st QD X) : wpX (gOwn c g x y) env st QD X := by
  show wpX (fGd (isCls c st x) _) env st QD X
  exact wp_gd e h
theorem wp_inOwn {neg : Bool} {c : Str} {g : G} (e : isCls c st x = true) (h : wpG g [x, y] st (fun d s => IsB (fun b => QD (.bl (if neg then !b else b)) s) d) X) : wpX (gInOwn neg c g y x) env st QD X := by
  show wpX (fGd (isCls c st x) _) env st QD X
  refine wp_gd e (wp_bind (wp_asB (wp_mono (f := fun _ st => g [x, y] st) h fun d s h => ?_)))
  cases d with
  | bl b => exact wp_c h
  | _ => exact h.elim
theorem wp_eqOwn {cs : List Str} {neg : Bool} {c : Str} {g : G} (e : isCls c st x = true) (e2 : (isiS cs [] st y).isSome = true) (h : wpG g [x, y] st (fun d s => IsB (fun b => QD (.bl (if neg then !b else b)) s) d) X) : wpX (gEqOwn cs neg c g x y) env st QD X := by
  show wpX (fGd (isCls c st x && (isiS cs [] st y).isSome) _) env st QD X
  refine wp_gd (by rw [e, e2]; rfl) (wp_bind (wp_asB (wp_mono (f := fun _ st => g [x, y] st) h fun d s h => ?_)))
  cases d with
  | bl b => exact wp_c h
  | _ => exact h.elim
theorem wp_isi {cs : List Str} {Ts : List String} (h : wpX fe env st (fun x s => ∃ d, isiS cs Ts s x = some d ∧ QD d s) X) : wpX (fIsi cs Ts fe) env st QD X := wp_bind (wp_mono h fun a s ⟨d, e, h⟩ => wp_P e h)
theorem wp_isiO {cs : List Str} {c : Str} (h : wpX fe env st (fun x s => ∃ d, isiO cs c s x = some d ∧ QD d s) X) : wpX (fIsiO cs c fe) env st QD X := wp_bind (wp_mono h fun a s ⟨d, e, h⟩ => wp_P e h)
end
end Dl
end
section
set_option Elab.async false
set_option linter.all false
set_option maxRecDepth 100000
namespace Dl
open PySem
section
variable {α : Type} {env : En} {st : Sto} {Q : Out → Prop} {QD : D → Sto → Prop} {X : XQ} {f : FX α} {fe fo : FE} {fr : FA} {d x y : D} {ft : FT} {s1 s2 : FS}
theorem wpS_mono {Q' : Out → Prop} {f : FS} (h : wpS f env st Q') (h1 : ∀ o, Q' o → Q o) : wpS f env st Q := let ⟨o, e, p⟩ := h; ⟨o, e, h1 o p⟩
theorem wp_bindS {k : α → FS} (h : wpX f env st (fun a s => wpS (k a) env s Q) (fun c ns ds s => Q (.ex c ns ds env s))) : wpS (fBindS f k) env st Q := by
  obtain ⟨r, e, p⟩ := h
  cases r with
  | ok a s =>
    obtain ⟨r2, e2, p2⟩ := p
    exact ⟨r2, by simp only [fBindS, e, e2], p2⟩
  | ex c ns ds s => exact ⟨.ex c ns ds env s, by simp only [fBindS, e], p⟩
/-- then g -/
noncomputable def Then (g : FS) (Q : Out → Prop) : Out → Prop
  | .nx env st => wpS g env st Q
  | .rt d st => Q (.rt d st)
  | .bk env st => Q (.bk env st)
  | .ct env st => Q (.ct env st)
  | .ex c ns ds env st => Q (.ex c ns ds env st)
theorem wp_nil (h : Q (.nx env st)) : wpS sNil env st Q := ⟨_, rfl, h⟩
theorem wp_seq (h : wpS s1 env st (Then s2 Q)) : wpS (sSeq s1 s2) env st Q := by
  obtain ⟨o, e, p⟩ := h
  cases o with
  | nx env' st' =>
    obtain ⟨o2, e2, p2⟩ := p
    exact ⟨o2, by simp only [sSeq, e, e2], p2⟩
  | rt d st' => exact ⟨_, by simp only [sSeq, e], p⟩
  | bk d st' => exact ⟨_, by simp only [sSeq, e], p⟩
  | ct d st' => exact ⟨_, by simp only [sSeq, e], p⟩
  | ex c ns ds env' st' => exact ⟨_, by simp only [sSeq, e], p⟩
theorem wp_break (h : Q (.bk env st)) : wpS sBreak env st Q := ⟨_, rfl, h⟩
theorem wp_cont (h : Q (.ct env st)) : wpS sCont env st Q := ⟨_, rfl, h⟩
theorem wp_expr (h : wpX fe env st (fun _ s => Q (.nx env s)) (fun c ns ds s => Q (.ex c ns ds env s))) : wpS (sExpr fe) env st Q := wp_bindS (wp_mono h fun _ _ h => ⟨_, rfl, h⟩)
theorem wp_ret (h : wpX fe env st (fun d s => Q (.rt d s)) (fun c ns ds s => Q (.ex c ns ds env s))) : wpS (sRet fe) env st Q := wp_bindS (wp_mono h fun _ _ h => ⟨_, rfl, h⟩)
theorem wp_retN (h : Q (.rt .non st)) : wpS sRetN env st Q := ⟨_, rfl, h⟩
theorem wp_if (h : wpX ft env st (fun b s => (b = true → wpS s1 env s Q) ∧ (b = false → wpS s2 env s Q)) (fun c ns ds s => Q (.ex c ns ds env s))) : wpS (sIf ft s1 s2) env st Q := by
  refine wp_bindS (wp_mono h fun b s h => ?_)
  cases b with
  | true => exact h.1 rfl
  | false => exact h.2 rfl
theorem wp_asg {g : FG} (h : wpX fe env st (fun d s => ∃ e' s', g d env s = some (e', s') ∧ Q (.nx e' s')) (fun c ns ds s => Q (.ex c ns ds env s))) : wpS (sAsg fe g) env st Q :=
  wp_bindS (wp_mono h fun d s ⟨e', s', h1, h2⟩ => ⟨.nx e' s', by simp only [h1], h2⟩)
theorem wp_set {i : Nat} (h : wpX fe env st (fun d s => Q (.nx (env.set i (some d)) s)) (fun c ns ds s => Q (.ex c ns ds env s))) : wpS (sAsg fe (gSet i)) env st Q := wp_asg (wp_mono h fun d s h => ⟨_, _, rfl, h⟩)
theorem wp_setSub {fo fi : FE} (h : wpX fe env st (fun v s => wpX fo env s (fun o s => wpX fi env s (fun i s => ∃ s', setS o i v s = some s' ∧ Q (.nx env s')) (fun _ _ _ _ => False)) (fun _ _ _ _ => False)) (fun c ns ds s => Q (.ex c ns ds env s))) : wpS (sAsg fe (gSubS fo fi)) env st Q := by
  refine wp_asg (wp_mono h fun v s h => ?_)
  obtain ⟨r, e, p⟩ := h
  cases r with
  | ex c ns ds s => exact p.elim
  | ok o s1 =>
    obtain ⟨r2, e2, p2⟩ := p
    cases r2 with
    | ex c ns ds s => exact p2.elim
    | ok i s2 =>
      obtain ⟨s', e3, q⟩ := p2
      exact ⟨env, s', by simp only [gSubS, okE, e, e2, e3, Option.map_some], q⟩
theorem wp_fldS {c n : Str} (h : wpX fe env st (fun y s => wpX fo env s (fun x s => ∃ s', fldPut c n x y s = some s' ∧ Q (.nx env s')) (fun c ns ds s => Q (.ex c ns ds env s))) (fun c ns ds s => Q (.ex c ns ds env s))) : wpS (sFldS c n fo fe) env st Q :=
  wp_bindS (wp_mono h fun y s h => wp_bindS (wp_mono h fun x s ⟨s', e, q⟩ => ⟨.nx env s', by simp only [e], q⟩))
/-! ### a def's end -/
noncomputable def Exit (QD : D → Sto → Prop) (X : XQ) : Out → Prop
  | .nx _ s => QD .non s
  | .rt d s => QD d s
  | .ex c ns ds _ s => X c ns ds s
  | _ => False
theorem wp_exit {n : Nat} {f : FS} {ds : List D} (h : wpS f (startE n ds) st (Exit QD X)) : wpG (exitG false n f) ds st QD X := by
  obtain ⟨o, e, p⟩ := h
  cases o with
  | nx env s => exact ⟨.ok .non s, by simp only [exitG, e, exitR]; rfl, p⟩
  | rt d s => exact ⟨.ok d s, by simp only [exitG, e, exitR]; rfl, p⟩
  | ex c ns ds env s => exact ⟨.ex c ns ds s, by simp only [exitG, e, exitR]; rfl, p⟩
  | bk env s => exact p.elim
  | ct env s => exact p.elim
/-- the end where what was made is frozen: told by fzR -/
theorem wp_exitI {n : Nat} {f : FS} {ds : List D} (h : wpS f (startE n ds) st (Exit (fun d s => ∃ r, fzR st (.ok d s) = some r ∧ postX QD X r) (fun c ns ds s => ∃ r, fzR st (.ex c ns ds s) = some r ∧ postX QD X r))) : wpG (exitG true n f) ds st QD X := by
  obtain ⟨o, e, p⟩ := h
  cases o with
  | nx env s =>
    obtain ⟨r, e2, p⟩ := p
    exact ⟨r, by simp only [exitG, e, exitR]; exact e2, p⟩
  | rt d s =>
    obtain ⟨r, e2, p⟩ := p
    exact ⟨r, by simp only [exitG, e, exitR]; exact e2, p⟩
  | ex c ns ds env s =>
    obtain ⟨r, e2, p⟩ := p
    exact ⟨r, by simp only [exitG, e, exitR]; exact e2, p⟩
  | bk env s => exact p.elim
  | ct env s => exact p.elim
/-! ### for -/
theorem loop_inv {ok : Sto → Prop} {tgt : FG} {body : FS} {items : List D} (Pv : Nat → En → Sto → Prop) {env : En} {st : Sto} {Q : Out → Prop} (h0 : Pv 0 env st) (hok : ∀ i env st, i ≤ items.length → Pv i env st → ok st)
    (hs : ∀ i d env st, items[i]? = some d → Pv i env st → ∃ env1 st1, tgt d env st = some (env1, st1) ∧ wpS body env1 st1 (fun o => match o with
      | .nx e s => Pv (i + 1) e s
      | .ct e s => Pv (i + 1) e s
      | .bk e s => Q (.nx e s)
      | .rt d s => Q (.rt d s)
      | .ex c ns ds e s => Q (.ex c ns ds e s)))
    (hd : ∀ env st, Pv items.length env st → Q (.nx env st)) : wpS (loopS ok tgt body items) env st Q := by
  have go : ∀ (r : List D) (i : Nat) (env : En) (st : Sto), items.drop i = r → i ≤ items.length → Pv i env st → wpS (loopS ok tgt body r) env st Q := by
    intro r
    induction r with
    | nil =>
      intro i env st e hi p
      have ei : i = items.length := by
        have := congrArg List.length e
        simp at this; omega
      subst ei
      exact ⟨.nx env st, by rw [loopS, if_pos (hok _ _ _ (Nat.le_refl _) p)], hd _ _ p⟩
    | cons d r ih =>
      intro i env st e hi p
      have hlt : i < items.length := by
        have := congrArg List.length e
        simp at this; omega
      have e1 : items[i]? = some d := by
        have := congrArg (fun l => l[0]?) e
        simpa using this
      have e2 : items.drop (i + 1) = r := by
        have := congrArg (List.drop 1) e
        simpa using this
      obtain ⟨env1, st1, et, o, eb, pb⟩ := hs i d env st e1 p
      have ok0 := hok _ _ _ hi p
      cases o with
      | nx e s =>
        obtain ⟨o2, e3, p3⟩ := ih (i + 1) e s e2 hlt pb
        exact ⟨o2, by rw [loopS, if_pos ok0]; simp only [et, eb, e3], p3⟩
      | ct e s =>
        obtain ⟨o2, e3, p3⟩ := ih (i + 1) e s e2 hlt pb
        exact ⟨o2, by rw [loopS, if_pos ok0]; simp only [et, eb, e3], p3⟩
      | bk e s => exact ⟨_, by rw [loopS, if_pos ok0]; simp only [et, eb], pb⟩
      | rt d s => exact ⟨_, by rw [loopS, if_pos ok0]; simp only [et, eb], pb⟩
      | ex c ns ds e s => exact ⟨_, by rw [loopS, if_pos ok0]; simp only [et, eb], pb⟩
  exact go items 0 env st rfl (Nat.zero_le _) h0
theorem wp_for {fi : FI} {tgt : FG} {body : FS} (h : wpX fi env st (fun it s => wpS (loopS it.ok tgt body it.items) env s Q) (fun c ns ds s => Q (.ex c ns ds env s))) : wpS (sFor fi tgt body) env st Q := wp_bindS h
section
variable {QI : ItD → Sto → Prop}
theorem wp_itS (h : wpX fe env st (fun d s => ∃ it, itOf s d = some it ∧ QI it s) X) : wpX (fItS fe) env st QI X := wp_bind (wp_mono h fun d s ⟨it, e, h⟩ => wp_P e h)
theorem itOf_lst {xs : List D} : itOf st (.lst xs) = some ⟨xs, fun _ => True⟩ := by
  unfold itOf
  have h : ∀ s, lstI s (.lst xs) = some xs := fun _ => rfl
  simp only [h]
theorem itOf_lstR {xs : List D} : itOf st (.lstR xs) = some ⟨xs, fun _ => True⟩ := by
  unfold itOf
  have h : ∀ s, lstI s (.lstR xs) = some xs := fun _ => rfl
  simp only [h]
theorem itOf_tup {xs : List D} : itOf st (.tup xs) = some ⟨xs, fun _ => True⟩ := by
  unfold itOf
  have h : ∀ s, lstI s (.tup xs) = none := fun _ => rfl
  have h2 : ∀ s, tupI s (.tup xs) = some xs := fun _ => rfl
  simp only [h, h2, Option.map_some]
/-- any list or tuple: its items, and that it stays -/
theorem itOf_items {xs : List D} (e : items st d = some xs) : ∃ it, itOf st d = some it ∧ it.items = xs ∧ ∀ s, look s d = look st d → it.ok s := by
  unfold items at e
  split at e <;> rename_i q <;> try cases e
  · have h : lstI st d = some xs := by simp only [lstI, q]
    exact ⟨⟨xs, fun st' => lstI st' d = some xs⟩, by simp only [itOf, h], rfl, fun s hs => by simp only [lstI, hs, q]⟩
  · have h : lstI st d = some xs := by simp only [lstI, q]
    exact ⟨⟨xs, fun st' => lstI st' d = some xs⟩, by simp only [itOf, h], rfl, fun s hs => by simp only [lstI, hs, q]⟩
  · have h : lstI st d = none := by simp only [lstI, q]
    have h2 : tupI st d = some xs := by simp only [tupI, q]
    exact ⟨⟨xs, fun st' => tupI st' d = some xs⟩, by simp only [itOf, h, h2, Option.map_some], rfl, fun s hs => by simp only [tupI, hs, q]⟩
end
/-! ### while -/
theorem while_inv {t : FT} {b : FS} (Pv : Nat → En → Sto → Prop) {n : Nat} {env : En} {st : Sto} (h0 : Pv n env st)
    (hs : ∀ n env st, Pv n env st → wpX t env st (fun c s => (c = true → wpS b env s (fun o => match o with
      | .nx e s => ∃ m, m < n ∧ Pv m e s
      | .ct e s => ∃ m, m < n ∧ Pv m e s
      | .bk e s => Q (.nx e s)
      | .rt d s => Q (.rt d s)
      | .ex c ns ds e s => Q (.ex c ns ds e s))) ∧ (c = false → Q (.nx env s))) (fun c ns ds s => Q (.ex c ns ds env s))) : wpS (sWhile t b) env st Q := by
  have go : ∀ n env st, Pv n env st → ∃ k o, whileN t b k env st = some o ∧ Q o := by
    intro n
    induction n using Nat.strongRecOn with
    | ind n ih =>
      intro env st p
      obtain ⟨r, e, q⟩ := hs n env st p
      cases r with
      | ex c ns ds s => exact ⟨1, _, by simp only [whileN, e], q⟩
      | ok c s =>
        cases c with
        | false => exact ⟨1, _, by simp only [whileN, e], q.2 rfl⟩
        | true =>
          obtain ⟨o, eb, pb⟩ := q.1 rfl
          cases o with
          | nx e2 s2 =>
            obtain ⟨m, hm, pm⟩ := pb
            obtain ⟨k, o, ek, qo⟩ := ih m hm e2 s2 pm
            exact ⟨k + 1, o, by simp only [whileN, e, eb, ek], qo⟩
          | ct e2 s2 =>
            obtain ⟨m, hm, pm⟩ := pb
            obtain ⟨k, o, ek, qo⟩ := ih m hm e2 s2 pm
            exact ⟨k + 1, o, by simp only [whileN, e, eb, ek], qo⟩
          | bk e2 s2 => exact ⟨1, _, by simp only [whileN, e, eb], pb⟩
          | rt d s2 => exact ⟨1, _, by simp only [whileN, e, eb], pb⟩
          | ex c ns ds e2 s2 => exact ⟨1, _, by simp only [whileN, e, eb], pb⟩
  obtain ⟨k, o, e, q⟩ := go n env st h0
  exact ⟨o, sWhile_eq e, q⟩
/-! ### comprehensions -/
theorem wp_lc {own : Bool} {ws : List Nat} {fi : FI} {tgt : FG} {cond : FT} {elt : FE} (h : wpX fi env st (fun it s => ∃ acc s', lcS it.ok tgt cond elt (wipeE env ws) it.items [] s = some (acc, s') ∧ wpX (fNew own (.lst acc)) env s' QD X) X) : wpX (fLc own ws fi tgt cond elt) env st QD X :=
  wp_bind (wp_mono h fun it s ⟨acc, s', e, r, e2, p⟩ => ⟨r, by simp only [e, e2], p⟩)
theorem wp_lc2 {own : Bool} {ws ws1 : List Nat} {fi fi1 : FI} {tgt tgt1 : FG} {cond cond1 : FT} {elt : FE} (h : wpX fi env st (fun it s => ∃ acc s', lc2S it.ok tgt cond fi1 tgt1 cond1 elt ws1 (wipeE env ws) it.items [] s = some (acc, s') ∧ wpX (fNew own (.lst acc)) env s' QD X) X) : wpX (fLc2 own ws ws1 fi tgt cond fi1 tgt1 cond1 elt) env st QD X :=
  wp_bind (wp_mono h fun it s ⟨acc, s', e, r, e2, p⟩ => ⟨r, by simp only [e, e2], p⟩)
/-! ### C(..), list methods -/
theorem wp_make {ice : Bool} {c : Str} {n : Nat} {g : G} (h : wpX fr env st (fun ds s => ds.length + 1 = n ∧ wpX (mkS ice c g ds) env s QD X) X) : wpX (fMake ice c n g fr) env st QD X := wp_bind (wp_mono h fun ds s ⟨e, h⟩ => wp_gd (by subst e; exact Nat.beq_refl _) h)
theorem wp_lm {m : List D → List D → Option (D × List D)} (h : wpX fe env st (fun x s => isL s x = true ∧ wpX fr env s (fun ys s => wpX (lmS m x ys) env s QD X) X) X) : wpX (fLm m fe fr) env st QD X :=
  wp_bind (wp_mono h fun x s ⟨e, h⟩ => by
    show wpX (fGd (isL s x) _) env s QD X
    exact wp_gd e (wp_bind h))
theorem wp_lmS {m : List D → List D → Option (D × List D)} {k : Nat} {xs ys xs' : List D} {z : D} (e : st[k]? = some (.lst xs)) (e2 : m xs ys = some (z, xs')) (h : QD z (st.set k (.lst xs'))) : wpX (lmS m (.obj k) ys) env st QD X := ⟨.ok z (st.set k (.lst xs')), by simp only [lmS, e, e2], h⟩
theorem wp_dict0 (h : QD (.dK [] []) st) : wpX (fDict0 false) env st QD X := ⟨_, rfl, h⟩
theorem wp_slF {own : Bool} {fl fh : FO} (h : wpX fe env st (fun x s => wpX fl env s (fun lo s => wpX fh env s (fun hi s => wpX (slS own x lo hi) env s QD X) X) X) X) : wpX (fSl own fe fl fh) env st QD X := wp_bind (wp_mono h fun x s h => wp_bind (wp_mono h fun lo s h => wp_bind h))
theorem wp_oNone {QO : Option Int → Sto → Prop} (h : QO none st) : wpX oNone env st QO X := ⟨_, rfl, h⟩
theorem wp_oSome {QO : Option Int → Sto → Prop} (h : wpX fe env st (fun d s => ∃ i, d = .int i ∧ QO (some i) s) X) : wpX (oSome fe) env st QO X := wp_bind (wp_mono h fun d s ⟨i, e, h⟩ => by subst e; exact wp_P rfl h)
theorem isb {Q : Bool → Prop} {b : Bool} (h : Q b) : IsB Q (.bl b) := h
theorem then_nx {g : FS} (h : wpS g env st Q) : Then g Q (.nx env st) := h
theorem then_rt {g : FS} (h : Q (.rt d st)) : Then g Q (.rt d st) := h
theorem then_bk {g : FS} (h : Q (.bk env st)) : Then g Q (.bk env st) := h
theorem then_ct {g : FS} (h : Q (.ct env st)) : Then g Q (.ct env st) := h
theorem exit_rt (h : QD d st) : Exit QD X (.rt d st) := h
theorem exit_nx (h : QD .non st) : Exit QD X (.nx env st) := h
theorem items_obj {k : Nat} {xs : List D} (h : st[k]? = some (.lst xs)) : items st (.obj k) = some xs := by simp only [items, look, h]
theorem setS_obj {k m : Nat} {xs : List D} {v : D} (h : st[k]? = some (.lst xs)) (hm : m < xs.length) : setS (.obj k) (.int m) v st = some (st.set k (.lst (xs.set m v))) := by
  simp only [setS, h, Evl.ixN_nat hm]
end
end Dl
end
section
set_option Elab.async false
set_option linter.all false
set_option maxRecDepth 100000
namespace Dl
open PySem
noncomputable abbrev NX : XQ := fun _ _ _ _ => False
theorem isi_items {cs : List Str} {st : Sto} {x : D} {xs : List D} (e : items st x = some xs) : isiS cs ["list", "tuple"] st x = some (.bl true) := by
  unfold items at e
  split at e <;> rename_i q <;> first | (cases e; simp only [isiS, q]; rfl) | cases e
theorem items_lstR {st : Sto} {xs : List D} : items st (.lstR xs) = some xs := rfl
/-- plain: no tracked thing within -/
noncomputable def All0 (st : Sto) : Prop := closeds 0 st = true
theorem All0.nil : All0 [] := rfl
theorem closeds_append {n : Nat} {xs ys : List D} : closeds n (xs ++ ys) = (closeds n xs && closeds n ys) := by
  induction xs with
  | nil => simp [closeds]
  | cons x xs ih => simp [closeds, ih, Bool.and_assoc]
theorem All0.app {st : Sto} {d : D} (h : All0 st) (hd : d.closed 0 = true) : All0 (st ++ [d]) := by
  unfold All0 at *
  rw [closeds_append, h]; simp [closeds, hd]
theorem All0.set {st : Sto} {d : D} {k : Nat} (h : All0 st) (hd : d.closed 0 = true) : All0 (st.set k d) := by
  unfold All0 at *
  rw [closeds_iff] at *
  intro x hx
  rcases List.mem_or_eq_of_mem_set hx with h1 | h1
  · exact h x h1
  · subst h1; exact hd
theorem closeds_ints {n : Nat} : ∀ {xs : List Int}, closeds n (xs.map .int) = true
  | [] => rfl
  | x :: xs => by simp only [List.map_cons, closeds, D.closed, Bool.true_and]; exact closeds_ints
theorem mul_small {i j : Int} (h : i.natAbs < 2 ^ 64 ∨ j.natAbs < 2 ^ 64) : cMulB i j = true := by
  unfold cMulB
  rcases h with h | h <;> simp [h]
theorem log_small {m : Int} (h : 0 < m) (h2 : m < 1073741824) : 0 < m ∧ m.natAbs.log2 < 9000 := by
  refine ⟨h, ?_⟩
  have h3 : m.natAbs < 2 ^ 30 := by omega
  have h4 : m.natAbs ≠ 0 := by omega
  have := (Nat.log2_lt h4).mpr h3
  omega
theorem pow_small {i j : Int} (h1 : -(2 ^ 64) < i) (h2 : i < 2 ^ 64) (h3 : 0 ≤ j) (h4 : j ≤ 1000) : 0 ≤ j ∧ (Builtin.Int.intBits i : Int) * j ≤ 2 ^ 27 := by
  refine ⟨h3, ?_⟩
  have h5 : (Builtin.Int.intBits i : Int) ≤ 64 := Int.ofNat_le.mpr (PySem.intBits_le_64 h1 h2)
  calc (Builtin.Int.intBits i : Int) * j ≤ 64 * 1000 := Int.mul_le_mul h5 h4 h3 (by decide)
    _ ≤ 2 ^ 27 := by decide
/-! ### equal lists -/
theorem wp_ixN {st : Sto} {env : En} {QD : D → Sto → Prop} {X : XQ} {x d : D} {m : Nat} {xs : List D} (e : items st x = some xs) (hm : xs[m]? = some d) (h : QD d st) : wpX (gIx x (.int (m : Int))) env st QD X :=
  wp_ix e (Int.natCast_nonneg _) (by rw [Int.toNat_natCast]; exact hm) h
theorem cut_tail {x : D} {xs : List D} : cutD (x :: xs) (some 1) none = xs := by
  unfold cutD
  have h1 : HT.sIx (x :: xs).length 0 (some 1) = 1 := by
    have := HT.sIx_nat (x :: xs).length 0 1
    simp only [List.length_cons] at *
    exact this.trans (by omega)
  have h2 : HT.sIx (x :: xs).length (x :: xs).length none = (x :: xs).length := rfl
  rw [h1, h2]
  simp
theorem gd_true {α : Type} {c : Bool} {f : FX α} {env : En} {st : Sto} (h : c = true) : fGd c f env st = f env st := by rw [h]; rfl
theorem rep_flat {d : D} : ∀ k : Nat, (List.replicate k [d]).flatten = List.replicate k d
  | 0 => rfl
  | k + 1 => by rw [List.replicate_succ, List.flatten_cons, rep_flat k, List.replicate_succ]; rfl
theorem rep_ok {k : Int} {n : Nat} (h1 : 0 ≤ k) (h2 : k ≤ 1000) (h3 : n ≤ 1000) : (decide (-(2 ^ 63) ≤ k ∧ k < 2 ^ 63) && Nat.ble (n * k.toNat) 16777216) = true := by
  have h4 : n * k.toNat ≤ 1000 * 1000 := Nat.mul_le_mul h3 (by omega)
  rw [Nat.ble_eq_true_of_le (by omega), Bool.and_true]
  exact decide_eq_true (by omega)
theorem gMul_rep {own : Bool} {xs : List D} {k : Int} {env : En} {st : Sto} : gMul own (.lst xs) (.int k) env st = fGd (decide (-(2 ^ 63) ≤ k ∧ k < 2 ^ 63) && Nat.ble (xs.length * k.toNat) 16777216) (fNew own (.lst (List.replicate k.toNat xs).flatten)) env st := by
  unfold gMul
  rfl
theorem wp_repT {st : Sto} {env : En} {QD : D → Sto → Prop} {X : XQ} {d : D} {k : Nat} (hk : k ≤ 1000) (h : QD (.obj st.length) (st ++ [.lst (List.replicate k d)])) : wpX (gMul true (.lst [d]) (.int k)) env st QD X := by
  refine wp_ok (a := .obj st.length) (s := st ++ [.lst (List.replicate k d)]) ?_ h
  rw [gMul_rep, gd_true (rep_ok (by omega) (by omega) (by simp)), Int.toNat_natCast, rep_flat]
  rfl
end Dl
end
section
set_option Elab.async false
set_option linter.all false
set_option maxRecDepth 100000
namespace Dl
open PySem PySem.Spec L2
/-! ### the classes of the program -/
noncomputable abbrev CL : List Str := ["Table", "Jar", "SetProducts", "Forest", "OpenRules", "Game", "Session", "Console"]
theorem CS.wide {K : PySem.W.Frag} {mg : Str → Option Value} {cs cs' : List Str} (S : CS K mg cs) (h : ∀ c ∈ cs', c ∈ cs ∨ mg c = none) : CS K mg cs' where
  ci := fun c hc C e => by
    rcases h c hc with h1 | h1
    · exact S.ci c h1 C e
    · rw [h1] at e; cases e
  two := fun c hc c' hc' C C' e e' => by
    rcases h c hc with h1 | h1
    · rcases h c' hc' with h2 | h2
      · exact S.two c h1 c' h2 C C' e e'
      · rw [h2] at e'; cases e'
    · rw [h1] at e; cases e
/-! ### the end of a turn: names and new things are let go -/
noncomputable def closedE (n : Nat) : En → Bool
  | [] => true
  | none :: r => closedE n r
  | some d :: r => D.closed n d && closedE n r
theorem closedE_at {n : Nat} : ∀ {env : En}, closedE n env = true → ∀ (i : Nat) (d : D), env[i]? = some (some d) → d.closed n = true
  | [], _, i, d, e => by simp at e
  | none :: r, h, i, d, e => by
    cases i with
    | zero => simp at e
    | succ i => exact closedE_at (env := r) h i d (by simpa using e)
  | some x :: r, h, i, d, e => by
    simp only [closedE, Bool.and_eq_true] at h
    cases i with
    | zero => simp at e; subst e; exact h.1
    | succ i => exact closedE_at (env := r) h.2 i d (by simpa using e)
noncomputable def cutOk (n : Nat) (env : En) (st : Sto) : Bool := Nat.beq st.length n || (Nat.ble n st.length && closeds n (st.take n) && closedE n env)
noncomputable def cutO (n : Nat) (ws : List Nat) : Out → Option Out
  | .nx env st => if cutOk n (wipeE env ws) st then some (.nx (wipeE env ws) (st.take n)) else none
  | .ct env st => if cutOk n (wipeE env ws) st then some (.ct (wipeE env ws) (st.take n)) else none
  | .bk env st => if cutOk n (wipeE env ws) st then some (.bk (wipeE env ws) (st.take n)) else none
  | o => some o
noncomputable def sCut (ws : List Nat) (f : FS) : FS := fun env st => match f env st with
  | some o => cutO st.length ws o
  | none => none
section
variable {K : PySem.W.Frag} {mg : Str → Option Value} {as as' : List Addr} {F F' H H' : Hp} {st st' : Sto} {σ : St} {env : En} {ws : List Nat}
theorem ER.drop (h : ER K mg as F σ env) : ER K mg as F σ (wipeE env ws) := by
  induction ws with
  | nil => exact h
  | cons w ws ih =>
    refine ⟨by simp [wipeE, ih.len], fun i d e => ?_⟩
    unfold wipeE at e
    by_cases hw : w = i
    · subst hw
      by_cases hl : w < (wipeE env ws).length
      · rw [List.getElem?_set_self hl] at e; cases e
      · rw [List.getElem?_eq_none (by simp; omega)] at e; cases e
    · rw [List.getElem?_set_ne hw] at e
      exact ih.at_ i d e
theorem ER.shrink (h : ER K mg as F σ env) {n : Nat} (c : closedE n env = true) : ER K mg (as.take n) F σ env :=
  ⟨h.len, fun i d e => let ⟨v, h1, h2⟩ := h.at_ i d e; ⟨v, h1, h2.shrink n (closedE_at c i d e)⟩⟩
theorem cut_go (f : Frm K mg as F st H) (g : Go K mg as F H as' F' st' H') (er : ER K mg as' F' σ env) (c : cutOk st.length (wipeE env ws) st' = true) :
    ∃ as2, Go K mg as F H as2 F' (st'.take st.length) H' ∧ ER K mg as2 F' σ (wipeE env ws) := by
  unfold cutOk at c
  rw [Bool.or_eq_true] at c
  rcases c with c | c
  · have c := Nat.eq_of_beq_eq_true c
    rw [List.take_of_length_le (by omega)]
    exact ⟨as', g, er.drop⟩
  · simp only [Bool.and_eq_true] at c
    obtain ⟨⟨c1, c2⟩, c3⟩ := c
    refine ⟨as'.take st.length, ⟨⟨fun i a h => ?_, g.xt.sub⟩, fun b o h1 h2 h3 => ?_, g.frm.cut fun i d hi e => ?_⟩, er.drop.shrink c3⟩
    · have hi := (List.getElem?_eq_some_iff.mp h).1
      rw [List.getElem?_take_of_lt (by rw [← f.len]; exact hi)]
      exact g.xt.pre i a h
    · obtain ⟨e1, e2, e3⟩ := g.kp b o h1 h2 h3
      exact ⟨e1, e2, fun z => e3 (List.mem_of_mem_take z)⟩
    · exact closeds_iff.mp c2 d (by
        have : (st'.take st.length)[i]? = some d := by rw [List.getElem?_take_of_lt hi]; exact e
        exact List.mem_of_getElem? this)
end
section
variable {X : Cx} {W : WX} {s : Stmt} {ss : List Stmt} {f : FS}
theorem cut_at {K : PySem.W.Frag} {mg : Str → Option Value} {as : List Addr} {F : Hp} {env : En} {st : Sto} {σ : St} {H : Hp} {E : Ends} {ws : List Nat} (h : AtS K mg W (sCut ws f) as F env st σ H E) : AtS K mg W f as F env st σ H E := by
  obtain ⟨fr, er, o, e, p⟩ := h
  refine ⟨fr, er, ?_⟩
  unfold sCut at e
  split at e
  · rename_i o' ho'
    refine ⟨o', ho', ?_⟩
    cases o' with
    | nx e1 s1 =>
      simp only [cutO] at e
      split at e
      · rename_i c
        cases e
        intro as' F' σ' H' g er'
        obtain ⟨as2, g2, er2⟩ := cut_go fr g er' c
        exact p as2 F' σ' H' g2 er2
      · cases e
    | ct e1 s1 =>
      simp only [cutO] at e
      split at e
      · rename_i c
        cases e
        intro as' F' σ' H' g er'
        obtain ⟨as2, g2, er2⟩ := cut_go fr g er' c
        exact p as2 F' σ' H' g2 er2
      · cases e
    | bk e1 s1 =>
      simp only [cutO] at e
      split at e
      · rename_i c
        cases e
        intro as' F' σ' H' g er'
        obtain ⟨as2, g2, er2⟩ := cut_go fr g er' c
        exact p as2 F' σ' H' g2 er2
      · cases e
    | rt d s1 => simp only [cutO] at e; cases e; exact p
    | ex c ns ds e1 s1 => simp only [cutO] at e; cases e; exact p
  · cases e
theorem dss_cut (ws : List Nat) (h : DSs X W ss f) : DSs X W ss (sCut ws f) := pss_imp h fun E σ H ⟨as, F, env, st, h⟩ => ⟨as, F, env, st, cut_at h⟩
end
end Dl
end
section
set_option Elab.async false
set_option linter.all false
set_option maxRecDepth 100000
/-! zip(x, y, strict=True) over two sequences of one length -/
namespace Dl
open PySem PySem.Spec L2
/-! ### the making of it -/
end Dl
end
section
set_option Elab.async false
set_option linter.all false
set_option maxRecDepth 100000
/-! zip over lists and tuples, as a data iterable -/
namespace Dl
open PySem PySem.Spec L2
/-- a list (true) or a tuple (false) -/
noncomputable def SqK (K : PySem.W.Frag) (k : Bool) (H : Hp) (a : Addr) (xs : List V) : Prop := match k with
  | true => SqL K H a xs
  | false => SqT K H a xs
noncomputable def PosK (k : Bool) (h : Heap) (it a : Addr) (i : Nat) : Prop := match k with
  | true => h.IsListIter it a i
  | false => h.IsTupleIter it a i
theorem PosK.obj {k : Bool} {h : Heap} {it a : Addr} {i : Nat} (p : PosK k h it a i) : ∃ o, h.get? it = some o ∧ ∀ v, o.data ≠ .cell v := by
  cases k <;> (obtain ⟨o, e, _, d⟩ := p; exact ⟨o, e, fun v q => by rw [d] at q; cases q⟩)
theorem PosK.at {k : Bool} {h h' : Heap} {it a : Addr} {i : Nat} (p : PosK k h it a i) (kp : ∀ o, h.get? it = some o → h'.get? it = some o) : PosK k h' it a i := by
  cases k <;> (obtain ⟨o, e, r⟩ := p; exact ⟨o, kp o e, r⟩)
end Dl
namespace Dl
open PySem PySem.Spec L2
noncomputable def kindD : D → Bool
  | .tup _ => false
  | _ => true
theorem lkK {K : PySem.W.Frag} {mg : Str → Option Value} {as : List Addr} {F H : Hp} {st : Sto} {v : V} {d : D} {ds : List D} (fr : Frm K mg as F st H) (r : Rep K mg as F v d) (e : items st d = some ds) : ∃ a xs, v = .ref a ∧ SqK K (kindD d) H a xs ∧ Reps K mg as F xs ds := by
  unfold items at e
  split at e
  · rename_i q
    cases e
    obtain ⟨a, xs, h1, h2, h3⟩ := lkL fr r q
    refine ⟨a, xs, h1, ?_, h3⟩
    cases d <;> first | exact SqL.of h2 | (simp only [look, reduceCtorEq, Option.some.injEq] at q)
  · rename_i q
    cases e
    obtain ⟨a, xs, h1, h2, h3⟩ := lkR fr r q
    refine ⟨a, xs, h1, ?_, h3⟩
    cases d <;> first | exact h2 | (simp only [look, reduceCtorEq, Option.some.injEq] at q)
  · rename_i q
    cases e
    obtain ⟨a, xs, h1, h2, h3⟩ := lkT fr r q
    refine ⟨a, xs, h1, ?_, h3⟩
    cases d with
    | tup _ => exact h2
    | obj i =>
      cases r with
      | obj h =>
        obtain ⟨d', e', _, w⟩ := fr.has h
        simp only [look] at q
        rw [q] at e'; cases e'
        cases w
    | _ => simp only [look, reduceCtorEq, Option.some.injEq] at q
  · cases e
noncomputable def zpD (xs ys : List D) : List D := List.zipWith (fun a c => D.tup [a, c]) xs ys
open Classical in
noncomputable def zipS (b : Bool) (st : Sto) (ds : List D) : Option ItD := match ds with
  | [x, y] => match items st x, items st y with
    | some xs, some ys => if b = true → xs.length = ys.length then some ⟨zpD xs ys, fun st' => items st' x = some xs ∧ items st' y = some ys⟩ else none
    | _, _ => none
  | _ => none
noncomputable def fItZ (b : Bool) (fs : FA) : FI := fBind fs fun ds => fP fun st => zipS b st ds
end Dl
end
section
set_option Elab.async false
set_option linter.all false
set_option maxRecDepth 100000
namespace Dl
open PySem PySem.Spec L2
/-! ### enumerate -/
section
open PyProof.Rows
noncomputable def ItEx (K : PySem.W.Frag) (a : Addr) : It :=
  ⟨fun i H => ∃ (xs : List V) (x : V), SqL K H a xs ∧ xs[i]? = some x, fun i H v H' => ∃ T x o, v = .ref T ∧ H T = none ∧ TupO o ∧ H' = upd H T (.frz o (.tup [.int (i : Nat), x])) ∧ ∀ xs, SqL K H a xs → xs[i]? = some x, fun i H => ∃ xs : List V, SqL K H a xs ∧ xs.length ≤ i⟩
theorem turn_enumX {P : Program} {w : World} {K : PySem.W.Frag} {elts : List Expr} {kk : Nat} {tpos : Pos} (a e it : Addr) :
    Turn P w K (.Tuple elts kk tpos) (ItEx K a) [e, it] e (fun i h => (∃ old, IsEnum h e it ((i : Nat) : Int) old) ∧ h.IsListIter it a i ∧ e ≠ it) where
  mem := by simp
  obj := fun i h st b hb => by
    obtain ⟨⟨old, he⟩, ⟨o, ho, hc, hd⟩, _⟩ := st
    have e' : b = e ∨ b = it := by simpa using hb
    rcases e' with z | z
    · rw [z]; exact ⟨_, he, fun v q => nomatch q⟩
    · rw [z]; exact ⟨o, ho, fun v q => by rw [hd] at q; cases q⟩
  keep := fun i h h' st k => let ⟨⟨old, he⟩, hi, hne⟩ := st; ⟨⟨old, k e (by simp) _ he⟩, hi.at fun o q => k it (by simp) o q, hne⟩
  item := by
    intro X hP hw hK hc i pins s σ H E I hf st hg
    subst hP hw hK
    obtain ⟨⟨old, he⟩, hit, hne⟩ := st
    obtain ⟨xs, x, hq, hx⟩ := hg
    obtain ⟨its, rv, p, hz⟩ := I.list hq
    obtain ⟨u, hu, ru⟩ := rv.get hx
    have hel : e < s.heap.objs.size := Heap.lt_size he
    have hil : it < s.heap.objs.size := by obtain ⟨_, q, _⟩ := hit; exact Heap.lt_size q
    refine wpAny_pyNext_enum_item he hit p.isList (x := u) (by simpa using hu) hne fun h' ho hit' hT hsz hk => ?_
    refine ⟨_, rfl, wpAny_letOwnedTupleGo_enum (s := { s with heap := h', toks := s.toks + 1 }) ho fun h'' he' sb => ?_⟩
    have hT2 : h''.get? s.heap.objs.size = some { cls := .type "tuple", data := .seq #[.int i s.toks, u] } := (sb.2 _ (Nat.ne_of_gt hel)).trans hT
    have new : ObjOk X.prog X.w (upd H s.heap.objs.size (.frz { cls := .type "tuple", data := .seq #[.int i s.toks, u] } (.tup [.int (i : Nat), x]))) h'' s.heap.objs.size (.frz { cls := .type "tuple", data := .seq #[.int i s.toks, u] } (.tup [.int (i : Nat), x])) :=
      ⟨hT2, by show 2 ≤ sizeLine; decide, [.int i s.toks, u], .cons ⟨_, rfl⟩ (.cons ru .nil), ⟨_, hT2, rfl, _, rfl⟩⟩
    have I1 : Inv X pins σ (upd H s.heap.objs.size (.frz { cls := .type "tuple", data := .seq #[.int i s.toks, u] } (.tup [.int (i : Nat), x]))) { s with heap := h'', toks := s.toks + 1 } :=
      I.turnedNew (ch := [e, it]) (fun b ob hb q => (sb.2 b (fun z => hb (by simp [z]))).trans (hk b ob (fun z => hb (by simp [z])) (fun z => hb (by simp [z])) q)) hf (Nat.le_refl _) new
    refine ⟨.ref s.heap.objs.size, _, I1, rfl, ⟨_, x, _, rfl, I.hok.fresh (Nat.le_refl _), tupO _, rfl, fun ys hy => by rw [I.list_inj hy hq]; exact hx⟩, ⟨⟨u, ?_⟩, hit'.at fun o q => (sb.2 it (Ne.symm hne)).trans q, hne⟩, fun b hb => ?_⟩
    · have e1 : ((i + 1 : Nat) : Int) = (i : Int) + 1 := by omega
      rw [e1]; exact he'
    · have hb' : b < s.heap.objs.size := by
        have e' : b = e ∨ b = it := by simpa using hb
        rcases e' with z | z
        · rw [z]; exact hel
        · rw [z]; exact hil
      rw [upd_ne (Nat.ne_of_lt hb')]
      exact (hf b hb).1
  done := by
    intro X hP hw hK hc i pins s σ H E I hf st hg
    subst hP hw hK
    obtain ⟨⟨old, he⟩, hit, hne⟩ := st
    obtain ⟨xs, hq, hx⟩ := hg
    obtain ⟨its, rv, p, hz⟩ := I.list hq
    obtain ⟨f0, f1, f2, f3, f4, f5⟩ := hf it (by simp)
    have hl := rv.length
    exact wpAny_pyNext_enum_end (I.ok.hd hc) he hit p.isList (by simp; omega) fun h' eb => ⟨rfl, I.turned (t' := s.toks) (fun b o hb q => eb b o hb q) f0 f1 f3 f4 f5⟩
  self := fun A i s Q E st h => let ⟨⟨_, he⟩, _⟩ := st; wpAny_pyIter_enum he h
noncomputable def iEnumX (K : PySem.W.Frag) (ta : TA) : TI := fun σ H R => ta σ H fun vs H1 => ∃ a xs, vs = [.ref a] ∧ SqL K H1 a xs ∧ R (ItEx K a) H1
theorem pi_enumX {X : Cx} {e : Expr} {ta : TA} {p pos tpos : Pos} {elts : List Expr} {kk : Nat} (hg : Gl X "enumerate") (hm : X.mg "enumerate" = none) (ha : PA X [e] ta) (hs : starEach [e] X.env = [(false, eval e X.env)] := by rfl) :
    PI X (.Tuple elts kk tpos) (.Call (.Name "enumerate" p) [e] [] pos) (iEnumX X.K ta) := by
  refine ⟨fun pins s σ H R I h => ?_⟩
  refine Call_ (ld_blt I hg hm boot_enumerate (PyProof.Rows.callWith_type1 (thn (ha.run pos pins s σ H _ I h) fun us s1 ⟨vs, H1, I1, r1, q1⟩ => ?_) hs rfl))
  obtain ⟨a, xs, ex, hq, q⟩ := q1
  subst ex
  cases r1 with
  | cons r rr =>
    cases rr
    cases r
    obtain ⟨its, rv, p', hz⟩ := I1.list hq
    refine call_enumerate_list p'.isList fun h' he hit hsz hk => wpAny_pyIter_enum he ?_
    have I2 : Inv X pins σ H1 { s1 with heap := h' } := I1.kept (t' := s1.toks) hk
    refine ⟨s1.heap.objs.size + 1, [s1.heap.objs.size + 1, s1.heap.objs.size], _, _, H1, rfl, I2, turn_enumX a (s1.heap.objs.size + 1) s1.heap.objs.size, ⟨⟨.none, he⟩, hit, Nat.succ_ne_self _⟩, fun b hb => ?_, q⟩
    have e' : b = s1.heap.objs.size + 1 ∨ b = s1.heap.objs.size := by simpa using hb
    have hle : s1.heap.objs.size ≤ b := by
      rcases e' with z | z
      · rw [z]; exact Nat.le_add_right _ _
      · rw [z]; exact Nat.le_refl _
    exact I1.fpOk hle (I1.hok.fresh hle)
end
noncomputable def enD (xs : List D) : List D := List.zipWith (fun (i : Nat) x => D.tup [.int (i : Int), x]) (List.range xs.length) xs
noncomputable def enS (st : Sto) (ds : List D) : Option ItD := match ds with
  | [d] => match lstI st d with
    | some xs => some ⟨enD xs, fun st' => lstI st' d = some xs⟩
    | none => none
  | _ => none
noncomputable def fItE (fs : FA) : FI := fBind fs fun ds => fP fun st => enS st ds
section
variable {X : Cx} {W : WX} {e e2 : Expr} {es : List Expr} {fs fa : FA} {pos p tpos : Pos} {elts : List Expr} {kk : Nat} {fe : FE}
theorem di_enum (hm : X.mg "enumerate" = none) (ha : DA X W [e] fs) (hg : Gl X "enumerate" := by rfl) (hs : starEach [e] X.env = [(false, eval e X.env)] := by rfl) :
    DI X W (.Tuple elts kk tpos) (.Call (.Name "enumerate" p) [e] [] pos) (fItE fs) := by
  refine pi_imp (pi_enumX hg hm ha hs) fun σ H R ⟨as, F, env, st, h⟩ => ?_
  refine h.bind fun as1 F1 st1 ds vs H1 _ x1 r1 h1 => ?_
  obtain ⟨it, ei, q⟩ := h1.pure
  unfold enS at ei
  split at ei
  · rename_i d
    split at ei
    · rename_i xs hx
      cases ei
      cases r1 with
      | cons p1 t1 =>
        cases t1
        obtain ⟨a, ys, rfl, h2, h3⟩ := lkLI h1.frm p1 hx
        refine ⟨a, ys, rfl, h2, q as1 F1 H1 _ (Go.rfl h1.frm) fun as' F' st' H' X' fr' ok => ?_⟩
        obtain ⟨_, ys', e1, s1, w1⟩ := lkLI fr' (p1.mono X') ok
        cases e1
        have l1 := w1.length
        have lz : (enD xs).length = xs.length := by simp [enD]
        refine ⟨fun i hi => ?_, fun i hi => ?_, fun i z H'' hy hi => ?_⟩
        · simp only [lz] at hi
          exact ⟨ys', ys'[i]'(by omega), s1, by simp⟩
        · simp only [lz] at hi
          exact ⟨ys', s1, by omega⟩
        · simp only [lz] at hi
          obtain ⟨T, x', o', rfl, hT, hO, rfl, hx'⟩ := hy
          obtain ⟨d1, g1, p1⟩ := w1.getV (hx' ys' s1)
          have g := Go.newF (o := .frz o' (.tup [.int (i : Nat), x'])) fr' hT
          refine ⟨.tup [.int (i : Nat), d1], _, ?_, g, .tup (.of upd_same hO) (.cons (.int _) (.cons (p1.mono g.xt) .nil))⟩
          simp only [enD, List.getElem?_zipWith, g1, List.getElem?_range hi]
    · cases ei
  · cases ei
/-! ### own operators, both of one class -/
noncomputable def gBin2 (c : Str) (g : G) : D → D → FE := fun x y => fun env st => fGd (isCls c st x && isCls c st y) (fun _ st => g [x, y] st) env st
theorem noNI {v : V} {u : Value} (r : RelV v u) : u ≠ .notImplemented := by
  intro e; subst e
  cases v <;> simp only [RelV, reduceCtorEq, exists_false] at r
/-! ### own x * int -/
theorem mul_KI {prog : Program} {w : World} {A : Around} {E : Value → Shared → Prop} {s : Shared} {K : PySem.W.Frag} {x C L f : Addr} {h0 : Heap} {m : Str → Option Value} {ox : Obj} {od : Option Obj} {i : Int} {t : Tok} {Q : Value → Shared → Prop} (F : PyProof.Rows.Fr h0 L s.heap m) (X0 : K.In h0) (I : PySem.W.InstAt s.heap x ox C od) (hc : PySem.W.selfFirst K C = true)
    (hs : PySem.W.findIn K (.ref C) "__mul__" = some (some (.ref f))) (hr : PySem.W.findIn K (.ref C) "__rmul__" = some none) (hsub : PySem.W.subIn K (.type "int") (.ref C) = some false) (hf : PySem.W.isFn K (.ref f) = true)
    (h : wpAny (model prog w) A (call (.ref f) [.ref x, .int i t]) (PySem.W.CmpBack Q) E s) : wpAny (model prog w) A (binaryOp .Mult (.ref x) (.int i t)) Q E s := by
  have X := X0.keeps F.keep
  obtain ⟨cd, hcd, hm⟩ := PySem.W.any_some hc
  obtain ⟨rest, hm⟩ : ∃ rest, cd.mro = .ref C :: rest := by
    cases q : cd.mro with
    | nil => rw [q] at hm; cases hm
    | cons a r => rw [q] at hm; exact ⟨r, by rw [List.head?_cons] at hm; cases (beq_iff_eq.mp hm); rfl⟩
  have hT : PySem.W.Looks (model prog w) s.heap (typeOf (.int i t)) (.type "int") := .now
  unfold binaryOp
  refine wpAny_holding (wpAny_bind ?_)
  unfold binaryOp1
  refine wpAny_bind (I.type.here (wpAny_bind (hT.here (wpAny_bind ((PySem.W.fills_K (nm := "mul") X hcd hm hs).here ?_)))))
  rw [if_neg (by simp)]
  refine wpAny_bind (wpAny_of_eq PySem.F.fills_int_mul ?_)
  dsimp only
  simp only [Bool.and_self, if_true]
  refine wpAny_bind ((PySem.W.looks_subIn X hsub).here ?_)
  simp only [Bool.false_eq_true, if_false]
  refine wpAny_bind (wpAny_bind ?_)
  refine (PySem.W.looks_findIn X hs).here (wpAny_bind (wpAny_pure (wpAny_bind ((PySem.W.looks_findIn X hr).here (wpAny_bind (wpAny_pure ?_))))))
  simp only [Bool.true_or, if_true]
  refine wpAny_pure ?_
  simp only [if_true]
  refine wpAny_bind (wpAny_pure ?_)
  simp only [Bool.not_false, if_true]
  refine wpAny_bind (wpAny_of_eq (a := some (.builtin "int.__rmul__")) (by rw [typeLookup_type, builtinLookup_eq_fast]; kernel_rfl) ?_)
  refine wpAny_bind (m := tryMethod (.ref x) _ (.int i t)) ?_
  unfold tryMethod
  refine wpAny_bind (PySem.W.special_fn X I hs (beq_iff_eq.mp hf) (wpAny_mono h (fun v s' hv => ?_) fun _ _ e => e))
  cases v <;> first | exact hv.elim | exact wpAny_pure (wpAny_pure (wpAny_pure hv))
noncomputable def gMulO (c : Str) (g : G) : D → D → FE := fun x y => fun env st => match y with
  | .int i => fGd (isCls c st x) (fun _ st => g [x, .int i] st) env st
  | _ => none
theorem O2.mulO {c : Str} {C f : Addr} {g : G} {j k : Nat} (F : Fk X.prog X.w X.K X.mg X.base j f 2 g) (hC : X.mg c = some (.ref C)) (hc : PySem.W.selfFirst X.K C = true) (hs : PySem.W.findIn X.K (.ref C) "__mul__" = some (some (.ref f))) (hr' : PySem.W.findIn X.K (.ref C) "__rmul__" = some none) (hsub : PySem.W.subIn X.K (.type "int") (.ref C) = some false) (hfn : PySem.W.isFn X.K (.ref f) = true) (hr : Room k X.A) (tk : Takes X W) (hj : j ≤ k := by decide) :
    O2 X W (binaryOp .Mult) (gMulO c g) := by
  intro pins s σ H as F0 env st x y v u dx dy Q I rx ry px py h
  cases dy with
  | int i =>
    have h2 : AtR X.K X.mg (Rep X.K X.mg) W (fun env st => fGd (isCls c st dx) (fun _ st => g [dx, .int i] st) env st) as F0 env st σ H Q := h
    obtain ⟨⟨p, dd, fs, ex, hp⟩, h4⟩ := own_at (f := fun _ st => g [dx, .int i] st) hC px h2
    subst ex
    obtain rfl : v = Value.ref p := rx
    cases py
    obtain ⟨t, rfl⟩ : ∃ t, u = Value.int i t := ry
    obtain ⟨mA, O, _⟩ := ins_get I.hok hp
    obtain ⟨od, J, _⟩ := O.look
    obtain ⟨m, hF⟩ := I.fr
    refine mul_KI hF I.ok.mod.kin J hc hs hr' hsub hfn (thn ((F.mono hj).run (us := [.ref p, .int i t]) (vs := [.ref p, .int i]) ⟨hr, rfl⟩ tk I (.cons rfl (.cons ⟨t, rfl⟩ .nil)) (.cons px (.cons (.int i) .nil)) rfl h4) fun r s' ⟨z, H', I', rz, q⟩ => ?_)
    have hn := noNI rz
    unfold PySem.W.CmpBack
    split
    · exact absurd rfl hn
    · exact ⟨z, H', I', rz, q⟩
  | _ => exact h.bad rfl
/-! ### classes as values, classmethods -/
/-- x(..), x a name of the frame that holds the class c -/
noncomputable def fMakeV (i : Nat) (ice : Bool) (c : Str) (n : Nat) (g : G) (fa : FA) : FE := fBind (fVar i) fun d => fGd (match d with | .gl c' => decide (c' = c) | _ => false) (fMake ice c n g fa)
theorem de_makeV (i : Nat) (ice : Bool) {c x : Str} {C f : Addr} {g : G} {n j k : Nat} (F : Fk X.prog X.w X.K X.mg X.base j f n g) (M : Mk X.K C f) (hm : X.mg c = some (.ref C)) (hr : Room k X.A) (tk : Takes X W) (ha : DA X W (e :: es) fa) (hj : j + 1 ≤ k := by decide)
    (hN : X.N[i]? = some x := by rfl) (hv : Vis X.env.scope x := by first | exact Or.inl rfl | exact Or.inr (Or.inl rfl) | exact Or.inr (Or.inr rfl)) (hd : (x == ("__debug__" : Str)) = false := by decide) (hcd : (x == ("__classdict__" : Str)) = false := by decide)
    (he : starEach (e :: es) X.env = (false, eval e X.env) :: starEach es X.env := by rfl) (hpl : (backTo pos (starEach es X.env)).any (·.1) = false := by rfl) :
    DE X W (.Call (.Name x p) (e :: es) [] pos) (fMakeV i ice c n g fa) := by
  refine ⟨fun pins s σ H Q I ⟨as, F0, env, st, h⟩ => ?_⟩
  refine wpAny_Call_Name_kw (thn ((dv (X := X) (W := W) (pos := p) i hN hv hd hcd).run pins s σ H (fun v H1 => v = .ref C ∧ ∃ as F env st, AtR X.K X.mg (Rep X.K X.mg) W (fMake ice c n g fa) as F env st σ H1 Q) I (h.bind fun as1 F1 st1 d v H1 _ x1 r1 h1 => ?_)) fun fv s1 ⟨v, H1, I1, rv, ev, as, F1, env, st, h2⟩ => ?_)
  · obtain ⟨hc, h2⟩ := h1.gd
    split at hc
    · rename_i c' 
      have := of_decide_eq_true hc
      subst this
      cases r1 with
      | gl hh => rw [hm] at hh; cases hh; exact ⟨rfl, as1, F1, env, st1, h2⟩
    · cases hc
  · subst ev
    obtain rfl : fv = Value.ref C := rv
    have h' : tDA X.K X.mg W fa σ H1 (fun vs H1 => ∃ as F env st ds, Reps X.K X.mg as F vs ds ∧ ds.length + 1 = n ∧ AtR X.K X.mg (Rep X.K X.mg) W (mkS ice c g ds) as F env st σ H1 Q) :=
      h2.bind fun as1 F1 st1 d v H1 _ x1 r1 h1 => by
        obtain ⟨hc, h3⟩ := h1.gd
        exact ⟨as1, F1, env, st1, d, r1, Nat.eq_of_beq_eq_true hc, h3⟩
    refine PySem.W.callWith_K (h₀ := X.base) I1.ok.mod.kin M.kp (thn (ha.run pos pins s1 σ H1 _ I1 h') fun us s2 ⟨vs, H2, I2, r, as, F2, env, st, ds, q1, q2, q3⟩ => ⟨I2.kIn, ?_⟩) he hpl
    exact mk_run F M hm (hr.mono hj) tk I2 r q1 q2 q3
/-- C.m(..), m a classmethod -/
noncomputable def fCMeth (c : Str) (n : Nat) (g : G) (fa : FA) : FE := fBind fa fun ds => fGd (Nat.beq (ds.length + 1) n) (fun _ st => g (.gl c :: ds) st)
theorem de_cmeth {c m : Str} {C pr f : Addr} {mc : Value} {g : G} {n j k : Nat} {apos : Pos} {pl : Sem Bool} (F : Fk X.prog X.w X.K X.mg X.base j f n g) (hm : X.mg c = some (.ref C)) (r : ClX.CRead X.K C mc) (cm : ClX.CMet X.K C mc m pr f) (hr : Room k X.A) (tk : Takes X W) (ha : DA X W (e :: es) fa) (hj : j ≤ k := by decide)
    (hg : Gl X c := by rfl) (hdb : (c == ("__debug__" : Str)) = false := by decide) (hst : starEach (e :: es) X.env = (false, eval e X.env) :: starEach es X.env := by rfl) (hpl : (backTo pos (starEach es X.env)).any (·.1) = false := by rfl)
    (ht : eval (.Call (.Attribute (.Name c p) m apos) (e :: es) [] pos) X.env = (do
      let ov ← eval (.Name c p) X.env
      standAt apos.atName
      let (f, first) ← holding [ov] (getMethod ov m pl)
      callWith pos f first (backTo pos (starEach (e :: es) X.env)) (backToKw pos (keywordEach [] X.env))) := by rfl) : DE X W (.Call (.Attribute (.Name c p) m apos) (e :: es) [] pos) (fCMeth c n g fa) := by
  refine ⟨fun pins s σ H Q I ⟨as, F0, env, st, h⟩ => ?_⟩
  refine PySem.W.methodCall_KW (pl := pl) (ld_glob I hg hm ?_ hdb) ht
  refine ClX.getmethcm_ok I r cm fun s2 I2 => ?_
  have h' : tDA X.K X.mg W fa σ H (fun vs H1 => ∃ as F env st ds, Reps X.K X.mg as F vs ds ∧ ds.length + 1 = n ∧ AtR X.K X.mg (Rep X.K X.mg) W (fun _ st => g (.gl c :: ds) st) as F env st σ H1 Q) :=
    h.bind fun as1 F1 st1 d v H1 _ x1 r1 h1 => by
      obtain ⟨hc, h2⟩ := h1.gd
      exact ⟨as1, F1, env, st1, d, r1, Nat.eq_of_beq_eq_true hc, h2⟩
  refine ClX.callwith_cm I2 (ClX.base_none I (Nat.le_refl _)) cm.fi (thn (ha.run pos _ s2 σ H _ I2 h') fun us s3 ⟨vs, H2, I3, rv, as, F1, env, st, ds, q1, q2, q3⟩ => ⟨⟨ClX.pin_at I3, I3.kIn⟩, ?_⟩) hst hpl
  exact thn (wpAny_call (PySem.W.method_call (ClX.pin_at I3) ((F.mono hj).code (us := .ref C :: us) (vs := .ref C :: vs) ⟨hr, rfl⟩ tk I3 (.cons rfl rv) (.cons (.gl hm) q1) q2 q3))) fun _ _ y => ClX.unpinE y
/-! ### o[i] op= e, ints in a tracked list -/
noncomputable def augG (o i : D) (st : Sto) : Option Int := match o, i with
  | .obj k, .int j => if 0 ≤ j ∧ j < 2 ^ 62 then match st[k]? with
    | some (.lst xs) => match xs[j.toNat]? with
      | some (.int a) => some a
      | _ => none
    | _ => none else none
  | _, _ => none
noncomputable def augK (f : Int → Int → Int) (fe : FE) (o i : D) : FS := fun env st => match augG o i st with
  | some a => fBindS fe (fun y => fun env st => match y with
    | .int b => match setS o i (.int (f a b)) st with
      | some st' => some (.nx env st')
      | none => none
    | _ => none) env st
  | none => none
noncomputable def sAugI (f : Int → Int → Int) (fo fi fe : FE) : FS := fBindS fo fun o => fBindS fi fun i => augK f fe o i
noncomputable def rGetI : V → V → Hp → VK → Prop := fun o i H Q => ∃ p xs k v, o = .ref p ∧ i = .int k ∧ H p = some (.lst xs) ∧ 0 ≤ k ∧ k < 2 ^ 62 ∧ xs[k.toNat]? = some v ∧ Q v H
theorem get_listI : PGet X rGetI := by
  intro pins s σ H o i ov iv Q I ro ri h
  obtain ⟨p, xs, k, v, rfl, rfl, hp, h0, h1, hv, q⟩ := h
  cases ro
  obtain ⟨t, rfl⟩ := ri
  obtain ⟨its, n, r, ho, hz⟩ := I.lst hp
  obtain ⟨w, hw, rw'⟩ := r.get hv
  exact wpAny_getItem_list ⟨_, ho, rfl, _, rfl⟩ h0 (by omega) (by simpa using hw) ⟨v, H, I, rw', q⟩
theorem ds_augI {o i value : Expr} {fo fi fv : FE} {op : Operator} {f : Int → Int → Int} (hp : PIp X op (ipI f)) (ho : DE X W o fo) (hi : DE X W i fi) (he : DE X W value fv)
    (ha : ∀ ov iv new, augStore i ov iv new = (do holding [new, ov, iv] (setItem ov iv new); release [new, ov, iv] []; pure .next) := by intros; rfl) : DS X W (.AugAssign (.Subscript o i tpos) op value pos) (sAugI f fo fi fv) := by
  refine ps_imp (ps_augS ho hi get_listI he hp set_list ha) fun E σ H ⟨as, F, env, st, h⟩ => ?_
  refine h.bind fun as1 F1 st1 d1 v1 H1 e1 x1 r1 h1 => ?_
  refine h1.bind fun as2 F2 st2 d2 v2 H2 e2 x2 r2 h2 => ?_
  have r1' := r1.mono x2.xt
  clear e1 e2
  have h2' : AtS X.K X.mg W (augK f fv d1 d2) as2 F2 env st2 σ H2 E := h2
  obtain ⟨fr2, er2, oo, eo, po⟩ := id h2'
  unfold augK at eo
  split at eo
  · rename_i a hga
    unfold augG at hga
    split at hga
    · rename_i k j
      split at hga
      · rename_i hj
        split at hga
        · rename_i xs hk
          split at hga
          · rename_i a' hx
            cases hga
            cases r1' with
            | obj hka =>
              obtain ⟨d', e', _, w⟩ := fr2.has hka
              rw [hk] at e'; cases e'
              cases w with
              | lst h3 r3 =>
                obtain ⟨vx, hvx, rvx⟩ := r3.get hx
                cases rvx
                rw [r2.ints]
                refine ⟨_, _, j, .int a, rfl, rfl, h3, hj.1, hj.2, hvx, ?_⟩
                have h4 : AtS X.K X.mg W (fBindS fv (fun y => fun env st => match y with
                    | .int b => match setS (.obj k) (.int j) (.int (f a b)) st with
                      | some st' => some (.nx env st')
                      | none => none
                    | _ => none)) as2 F2 env st2 σ H2 E := ⟨fr2, er2, oo, eo, po⟩
                refine h4.bind fun as3 F3 st3 d3 v3 H3 e3 x3 r4 h5 => ?_
                cases d3 with
                | int b =>
                  rw [r4.ints]
                  refine ⟨a, b, rfl, rfl, ?_⟩
                  obtain ⟨fr3, er3, o2, eo2, po2⟩ := id h5
                  simp only at eo2
                  split at eo2
                  · rename_i st4 hs
                    cases eo2
                    unfold setS at hs
                    simp only at hs
                    split at hs
                    · rename_i ys hk3
                      split at hs
                      · rename_i m hm
                        cases hs
                        have hka3 := x3.xt.pre _ _ hka
                        obtain ⟨d5, e5, n5, w5⟩ := fr3.has hka3
                        rw [hk3] at e5; cases e5
                        cases w5 with
                        | lst h6 r6 =>
                          refine ⟨_, _, j, m, rfl, rfl, h6, by rw [r6.length]; exact hm, ?_⟩
                          have x4 := Go.setO (o := .lst _) fr3 hka3 (.lst upd_same (r6.set (.int (f a b)) m))
                          exact po2 as3 F3 σ _ x4 (er3.mono x4.xt)
                      · cases hs
                    · cases hs
                  · cases eo2
                | _ => exact h5.bad rfl
          · cases hga
        · cases hga
      · cases hga
    · cases hga
  · cases eo
/-! ### a, b = x, y -/
noncomputable def sPar (ws : List Nat) (fa : FA) : FS := fBindS fa fun ds env st => match ws, ds with
  | [i, j], [d, e] => some (.nx ((env.set i (some d)).set j (some e)) st)
  | [i, j, l], [d, e, f] => some (.nx (((env.set i (some d)).set j (some e)).set l (some f)) st)
  | _, _ => none
theorem ds_par (i j : Nat) {x y : Str} {a b : Expr} {px py pt : Pos} {kt k2 pt2} (hN : X.N.Nodup) (ha : DA X W [a, b] fa) (hi : X.N[i]? = some x := by rfl) (hj : X.N[j]? = some y := by rfl) (hij : i ≠ j := by decide) (hc : X.calm = true := by rfl)
    (hx : X.env.scope.names.lookup x = some .local := by rfl) (hy : X.env.scope.names.lookup y = some .local := by rfl) (hw : swappedStores [.Tuple [.Name x px, .Name y py] kt pt] (.Tuple [a, b] k2 pt2) X.env = pure (some [x, y]) := by rfl)
    (hs : swapsWithSole [.Tuple [.Name x px, .Name y py] kt pt] (.Tuple [a, b] k2 pt2) pos.line X.env = pure false := by rfl) :
    DS X W (.Assign [.Tuple [.Name x px, .Name y py] kt pt] (.Tuple [a, b] k2 pt2) pos) (sPar [i, j] fa) := by
  refine ps_imp (ps_par hc hN hi hj hij hx hy ha hw hs) fun E σ H ⟨as, F, env, st, h⟩ => ?_
  refine h.bind fun as1 F1 st1 ds vs H1 _ x1 r1 h1 => ?_
  have r1 : Reps X.K X.mg as1 F1 vs ds := r1
  cases r1 with
  | nil => exact h1.bad rfl
  | cons p1 t1 =>
    cases t1 with
    | nil => exact h1.bad rfl
    | cons p2 t2 =>
      cases t2 with
      | nil => exact ⟨_, _, rfl, h1.fin rfl as1 F1 _ H1 (Go.rfl h1.frm) ((h1.er.set p1).set p2)⟩
      | cons p3 t3 => exact h1.bad rfl
end
theorem ne_some {a b : Str} (h : a ≠ b) : some false = some (decide (a = b)) := by rw [decide_eq_false h]
end Dl
end
section
set_option Elab.async false
set_option linter.all false
set_option maxRecDepth 100000
namespace Dl
open PySem
/-! ### equations -/
theorem wpG_eq {g : G} {ds : List D} {st s : Sto} {v : D} (h : wpG g ds st (fun d s' => s' = s ∧ d = v) NX) : g ds st = some (.ok v s) := by
  obtain ⟨r, e, p⟩ := h
  cases r with
  | ok a s' => obtain ⟨rfl, rfl⟩ := p; exact e
  | ex c ns ds s' => exact p.elim
section
variable {env : En} {st s : Sto} {QD : D → Sto → Prop} {Q : Out → Prop} {X : XQ} {A B : Prop} {b : Bool} {x : D} {QB : Bool → Sto → Prop} {QI : ItD → Sto → Prop}
theorem and_len {xs : List D} {n : Nat} {p : Prop} (e : xs.length = n) (h : p) : xs.length = n ∧ p := ⟨e, h⟩
theorem and_len1 {xs : List D} {n : Nat} {p : Prop} (e : xs.length + 1 = n) (h : p) : xs.length + 1 = n ∧ p := ⟨e, h⟩
theorem and_le {xs : List D} {n : Nat} {p : Prop} (e : xs.length ≤ n) (h : p) : xs.length ≤ n ∧ p := ⟨e, h⟩
theorem if_t (h : A) : (true = true → A) ∧ (true = false → B) := ⟨fun _ => h, fun z => by cases z⟩
theorem if_f (h : B) : (false = true → A) ∧ (false = false → B) := ⟨fun z => (by cases z), fun _ => h⟩
theorem if_nt (h : B) : ((!true) = true → A) ∧ ((!true) = false → B) := ⟨fun z => (by cases z), fun _ => h⟩
theorem if_nf (h : A) : ((!false) = true → A) ∧ ((!false) = false → B) := ⟨fun _ => h, fun z => by cases z⟩
theorem ifT (e : b = true) (h : A) : (b = true → A) ∧ (b = false → B) := ⟨fun _ => h, fun z => by rw [e] at z; cases z⟩
theorem ifF (e : b = false) (h : B) : (b = true → A) ∧ (b = false → B) := ⟨fun z => (by rw [e] at z; cases z), fun _ => h⟩
theorem if_dec {p : Prop} [Decidable p] (h1 : p → A) (h2 : ¬ p → B) : (decide p = true → A) ∧ (decide p = false → B) := ⟨fun z => h1 (of_decide_eq_true z), fun z => h2 (of_decide_eq_false z)⟩
noncomputable def IsiQ (cs : List Str) (Ts : List String) (P : D → Sto → Prop) (x : D) (s : Sto) : Prop := ∃ d, isiS cs Ts s x = some d ∧ P d s
theorem wp_isiQ {cs : List Str} {Ts : List String} {fe : FE} (h : wpX fe env st (IsiQ cs Ts QD) X) : wpX (fIsi cs Ts fe) env st QD X := wp_isi h
theorem isiQ_b {cs : List Str} {Ts : List String} {T : String} {P : D → Sto → Prop} (hT : tyN x = some T) (h : P (.bl (Ts.any (isB T))) st) : IsiQ cs Ts P x st := by
  refine ⟨.bl (Ts.any (isB T)), ?_, h⟩
  unfold isiS
  have hx : ∀ i, x ≠ .obj i := fun i e => by subst e; cases hT
  rw [look_self hx]
  cases x <;> simp only [tyN, reduceCtorEq] at hT <;> (simp only [tyN]; cases hT; rfl)
noncomputable def isiB (Ts : List String) (x : D) : Option Bool := match tyN x with
  | some T => some (Ts.any (isB T))
  | none => none
theorem isiQ_v {cs : List Str} {Ts : List String} {b : Bool} {P : D → Sto → Prop} (hb : isiB Ts x = some b) (h : P (.bl b) st) : IsiQ cs Ts P x st := by
  unfold isiB at hb
  split at hb
  · rename_i T hT; cases hb; exact isiQ_b hT h
  · cases hb
theorem isiQ_t {cs : List Str} {Ts : List String} {P : D → Sto → Prop} (hb : isiB Ts x = some true) (h : P (.bl true) st) : IsiQ cs Ts P x st := isiQ_v hb h
theorem isiQ_f {cs : List Str} {Ts : List String} {P : D → Sto → Prop} (hb : isiB Ts x = some false) (h : P (.bl false) st) : IsiQ cs Ts P x st := isiQ_v hb h
theorem isiQ_ins {cs : List Str} {Ts : List String} {c : Str} {ns : List Str} {ds : List D} {P : D → Sto → Prop} (hc : c ∈ cs) (h : P (.bl false) st) : IsiQ cs Ts P (.ins c ns ds) st := ⟨.bl false, by simp [isiS, look, hc], h⟩
noncomputable def IsoQ (cs : List Str) (c0 : Str) (P : D → Sto → Prop) (x : D) (s : Sto) : Prop := ∃ d, isiO cs c0 s x = some d ∧ P d s
theorem wp_isoQ {cs : List Str} {c0 : Str} {fe : FE} (h : wpX fe env st (IsoQ cs c0 QD) X) : wpX (fIsiO cs c0 fe) env st QD X := wp_isiO h
theorem isoQ_f {cs : List Str} {c0 : Str} {P : D → Sto → Prop} (hT : (tyN x).isSome = true) (h : P (.bl false) st) : IsoQ cs c0 P x st := by
  obtain ⟨T, hT⟩ := Option.isSome_iff_exists.mp hT
  refine ⟨.bl false, ?_, h⟩
  unfold isiO
  have hx : ∀ i, x ≠ .obj i := fun i e => by subst e; cases hT
  rw [look_self hx]
  cases x <;> simp only [tyN, reduceCtorEq] at hT <;> (simp only [tyN]; rfl)
/-! ### the end of a turn -/
noncomputable def CutQ (n : Nat) (ws : List Nat) (Q : Out → Prop) : Out → Prop
  | .nx e s => cutOk n (wipeE e ws) s = true ∧ Q (.nx (wipeE e ws) (s.take n))
  | .ct e s => cutOk n (wipeE e ws) s = true ∧ Q (.ct (wipeE e ws) (s.take n))
  | .bk e s => cutOk n (wipeE e ws) s = true ∧ Q (.bk (wipeE e ws) (s.take n))
  | .rt d s => Q (.rt d s)
  | .ex c ns ds e s => Q (.ex c ns ds e s)
theorem wp_cut {f : FS} {ws : List Nat} (h : wpS f env st (CutQ st.length ws Q)) : wpS (sCut ws f) env st Q := by
  obtain ⟨o, e, p⟩ := h
  unfold wpS sCut
  rw [e]
  cases o with
  | nx e1 s1 => exact ⟨.nx (wipeE e1 ws) (s1.take st.length), by simp only [cutO, p.1]; rfl, p.2⟩
  | ct e1 s1 => exact ⟨.ct (wipeE e1 ws) (s1.take st.length), by simp only [cutO, p.1]; rfl, p.2⟩
  | bk e1 s1 => exact ⟨.bk (wipeE e1 ws) (s1.take st.length), by simp only [cutO, p.1]; rfl, p.2⟩
  | rt d s1 => exact ⟨.rt d s1, rfl, p⟩
  | ex c ns ds e1 s1 => exact ⟨.ex c ns ds e1 s1, rfl, p⟩
theorem cutOk_len {n : Nat} (h : s.length = n) : cutOk n env s = true := by unfold cutOk; rw [h, Nat.beq_refl]; rfl
theorem cut_nx {n : Nat} {ws : List Nat} {e : En} (hl : s.length = n) (h : Q (.nx (wipeE e ws) s)) : CutQ n ws Q (.nx e s) := by
  exact ⟨cutOk_len hl, by rw [List.take_of_length_le (by omega)]; exact h⟩
theorem cut_ct {n : Nat} {ws : List Nat} {e : En} (hl : s.length = n) (h : Q (.ct (wipeE e ws) s)) : CutQ n ws Q (.ct e s) := by
  exact ⟨cutOk_len hl, by rw [List.take_of_length_le (by omega)]; exact h⟩
theorem cut_bk {n : Nat} {ws : List Nat} {e : En} (hl : s.length = n) (h : Q (.bk (wipeE e ws) s)) : CutQ n ws Q (.bk e s) := by
  exact ⟨cutOk_len hl, by rw [List.take_of_length_le (by omega)]; exact h⟩
theorem cut_nxA {ws : List Nat} {e e' : En} {s2 : Sto} (he : wipeE e ws = e') (hc : closeds st.length st = true) (hd : closedE st.length e' = true) (h : Q (.nx e' st)) : CutQ st.length ws Q (.nx e (st ++ s2)) := by
  subst he
  refine ⟨?_, by rw [List.take_left' rfl]; exact h⟩
  unfold cutOk
  rw [List.take_left' rfl, hc, hd, Nat.ble_eq_true_of_le (by simp)]
  simp
theorem cut_nx0 {ws : List Nat} {e e' : En} (he : wipeE e ws = e') (hd : closedE 0 e' = true) (h : Q (.nx e' [])) : CutQ 0 ws Q (.nx e s) := cut_nxA (st := []) (s2 := s) he rfl hd h
theorem cut_rt {n : Nat} {ws : List Nat} {d : D} (h : Q (.rt d s)) : CutQ n ws Q (.rt d s) := h
theorem cut_ex {n : Nat} {ws : List Nat} {c : Str} {ns : List Str} {ds : List D} {e : En} (h : Q (.ex c ns ds e s)) : CutQ n ws Q (.ex c ns ds e s) := h
/-! ### loops -/
noncomputable def LoopQ (P : En → Sto → Prop) (Q : Out → Prop) : Out → Prop
  | .nx e s => P e s
  | .ct e s => P e s
  | .bk e s => Q (.nx e s)
  | .rt d s => Q (.rt d s)
  | .ex c ns ds e s => Q (.ex c ns ds e s)
variable {P : En → Sto → Prop}
theorem lq_nx (h : P env st) : LoopQ P Q (.nx env st) := h
theorem lq_ct (h : P env st) : LoopQ P Q (.ct env st) := h
theorem lq_bk (h : Q (.nx env st)) : LoopQ P Q (.bk env st) := h
theorem lq_rt {d : D} (h : Q (.rt d st)) : LoopQ P Q (.rt d st) := h
theorem lq_ex {c : Str} {ns : List Str} {ds : List D} (h : Q (.ex c ns ds env st)) : LoopQ P Q (.ex c ns ds env st) := h
theorem lq_of {Pv : En → Sto → Prop} {f : FS} (h : wpS f env st (LoopQ Pv Q)) : wpS f env st (fun o => match o with
      | .nx e s => Pv e s
      | .ct e s => Pv e s
      | .bk e s => Q (.nx e s)
      | .rt d s => Q (.rt d s)
      | .ex c ns ds e s => Q (.ex c ns ds e s)) := wpS_mono h fun o => by cases o <;> exact id
/-- over the codes of xs, by place -/
theorem loopI {α : Type} {ok : Sto → Prop} {tgt : FG} {body : FS} {items : List D} (xs : List α) (enc : α → D) (hi : items = xs.map enc) (Pv : Nat → En → Sto → Prop) (h0 : Pv 0 env st) (hok : ∀ s, ok s)
    (hs : ∀ i x e s, xs[i]? = some x → Pv i e s → ∃ e1 s1, tgt (enc x) e s = some (e1, s1) ∧ wpS body e1 s1 (LoopQ (Pv (i + 1)) Q))
    (hd : ∀ e s, Pv xs.length e s → Q (.nx e s)) : wpS (loopS ok tgt body items) env st Q := by
  subst hi
  refine loop_inv Pv h0 (fun _ _ _ _ _ => hok _) (fun i d e s he hp => ?_) fun e s hp => hd e s (by simpa using hp)
  rw [List.getElem?_map] at he
  cases hx : xs[i]? with
  | none => rw [hx] at he; cases he
  | some x =>
    rw [hx] at he
    cases he
    obtain ⟨e1, s1, h1, h2⟩ := hs i x e s hx hp
    exact ⟨e1, s1, h1, lq_of h2⟩
/-- nothing is carried -/
theorem loopK {α : Type} {ok : Sto → Prop} {tgt : FG} {body : FS} {items : List D} (xs : List α) (enc : α → D) (hi : items = xs.map enc) (hok : ok st)
    (hs : ∀ x ∈ xs, ∃ e1, tgt (enc x) env st = some (e1, st) ∧ wpS body e1 st (LoopQ (fun e s => e = env ∧ s = st) Q))
    (hd : Q (.nx env st)) : wpS (loopS ok tgt body items) env st Q := by
  subst hi
  refine loop_inv (fun _ e s => e = env ∧ s = st) ⟨rfl, rfl⟩ (fun _ _ _ _ h => by rw [h.2]; exact hok) (fun i d e s he hp => ?_) fun e s hp => by rw [hp.1, hp.2]; exact hd
  rw [List.getElem?_map] at he
  cases hx : xs[i]? with
  | none => rw [hx] at he; cases he
  | some x =>
    rw [hx] at he
    cases he
    obtain ⟨rfl, rfl⟩ := hp
    obtain ⟨e1, h1, h2⟩ := hs x (List.mem_of_getElem? hx)
    exact ⟨e1, _, h1, lq_of h2⟩
/-! ### comprehensions -/
theorem lcK {α : Type} {ok : Sto → Prop} {tgt : FG} {cond : FT} {elt : FE} {env0 : En} {items : List D} {R : List D → Sto → Prop} (xs : List α) (enc : α → D) (p : α → Bool) (F : α → D) (hi : items = xs.map enc) (hok : ok st) (hl : xs.length ≤ 16000000)
    (hs : ∀ x ∈ xs, ∃ e1, tgt (enc x) env0 st = some (e1, st) ∧ wpX cond e1 st (fun b s => s = st ∧ b = p x) NX ∧ (p x = true → wpX elt e1 st (fun z s => s = st ∧ z = F x) NX))
    (h : R ((xs.filter p).map F) st) : ∃ acc s', lcS ok tgt cond elt env0 items [] st = some (acc, s') ∧ R acc s' := by
  subst hi
  have go : ∀ (ys : List α) (acc : List D), (∀ x ∈ ys, x ∈ xs) → acc.length + ys.length ≤ 16000000 → lcS ok tgt cond elt env0 (ys.map enc) acc st = some (acc ++ (ys.filter p).map F, st) := by
    intro ys
    induction ys with
    | nil => intro acc _ _; simp [lcS, hok]
    | cons y ys ih =>
      intro acc hm hl
      obtain ⟨e1, et, hc, he⟩ := hs y (hm y (by simp))
      obtain ⟨rc, ec, pc⟩ := hc
      cases rc with
      | ex c ns ds s => exact pc.elim
      | ok b s =>
        obtain ⟨rfl, rfl⟩ := pc
        simp only [List.map_cons, lcS, if_pos hok, et, ec]
        simp only [List.length_cons] at hl
        cases hp : p y with
        | false =>
          simp only
          rw [ih acc (fun x hx => hm x (by simp [hx])) (by omega), List.filter_cons_of_neg (by simp [hp])]
        | true =>
          obtain ⟨re, ee, pe⟩ := he hp
          cases re with
          | ex c ns ds s => exact pe.elim
          | ok z s' =>
            obtain ⟨rfl, rfl⟩ := pe
            simp only [ee]
            have hz : acc.length < sizeLine := by rw [sizeLine_eq]; omega
            simp only [hz, if_true]
            rw [ih (acc ++ [F y]) (fun x hx => hm x (by simp [hx])) (by simp; omega), List.filter_cons_of_pos (by simp [hp])]
            simp
  exact ⟨_, _, (go xs [] (fun _ h => h) (by simpa using hl)).trans (by simp), h⟩
/-- all items -/
theorem lcA {α : Type} {ok : Sto → Prop} {tgt : FG} {elt : FE} {env0 : En} {items : List D} {R : List D → Sto → Prop} (xs : List α) (enc : α → D) (F : α → D) (hi : items = xs.map enc) (hok : ok st) (hl : xs.length ≤ 16000000)
    (hs : ∀ x ∈ xs, ∃ e1, tgt (enc x) env0 st = some (e1, st) ∧ wpX elt e1 st (fun z s => s = st ∧ z = F x) NX)
    (h : R (xs.map F) st) : ∃ acc s', lcS ok tgt tYesF elt env0 items [] st = some (acc, s') ∧ R acc s' := by
  refine lcK xs enc (fun _ => true) F hi hok hl (fun x hx => ?_) (by rw [List.filter_eq_self.mpr (fun _ _ => rfl)]; exact h)
  obtain ⟨e1, h1, h2⟩ := hs x hx
  exact ⟨e1, h1, ⟨_, rfl, rfl, rfl⟩, fun _ => h2⟩
/-! ### what is walked -/
noncomputable def ItQ (QI : ItD → Sto → Prop) (d : D) (s : Sto) : Prop := ∃ it, itOf s d = some it ∧ QI it s
theorem wp_itQ {fe : FE} (h : wpX fe env st (ItQ QI) X) : wpX (fItS fe) env st QI X := wp_itS h
theorem itL {xs : List D} (h : QI ⟨xs, fun _ => True⟩ st) : ItQ QI (.lst xs) st := ⟨_, itOf_lst, h⟩
theorem itR {xs : List D} (h : QI ⟨xs, fun _ => True⟩ st) : ItQ QI (.lstR xs) st := ⟨_, itOf_lstR, h⟩
theorem itT {xs : List D} (h : QI ⟨xs, fun _ => True⟩ st) : ItQ QI (.tup xs) st := ⟨_, itOf_tup, h⟩
noncomputable def TruQ (QB : Bool → Sto → Prop) (d : D) (s : Sto) : Prop := ∃ b, gTru s d = some b ∧ QB b s
theorem wp_truQ {fe : FE} (h : wpX fe env st (TruQ QB) X) : wpX (fTru fe) env st QB X := wp_tru h
theorem tru_b {b : Bool} (h : QB b st) : TruQ QB (.bl b) st := ⟨b, rfl, h⟩
noncomputable def FldQ (c n : Str) (P : D → Sto → Prop) (x : D) (s : Sto) : Prop := ∃ d, fldS c n s x = some d ∧ P d s
theorem wp_fldQ {c n : Str} {fe : FE} (h : wpX fe env st (FldQ c n QD) X) : wpX (fFld c n fe) env st QD X := wp_fld h
noncomputable abbrev dI (i : Nat) : D := .int (i : Int)
theorem upTo_map {n : Nat} : upTo 0 n = (List.range n).map dI := by
  unfold upTo dI
  apply List.map_congr_left
  intro i _
  simp
/-- range(n) -/
theorem wp_rngN {fa : FE} (h : wpX fa env st (fun d s => ∃ n : Nat, d = .int n ∧ n < 2 ^ 62 ∧ QI ⟨(List.range n).map dI, fun _ => True⟩ s) X) : wpX (fItR1 (aCons fa aNil)) env st QI X := by
  refine wp_bind (wp_acons (wp_mono h fun d s ⟨n, e, h1, h2⟩ => wp_anil ?_))
  subst e
  refine wp_P (a := ⟨upTo 0 n, fun _ => True⟩) ?_ (by rw [upTo_map]; exact h2)
  simp only [rng1S]
  rw [if_pos (by omega)]
  simp
/-- range(a, b) -/
theorem wp_rngAB {fa fb : FE} (h : wpX fa env st (fun x s => wpX fb env s (fun y s => ∃ a b : Nat, x = .int a ∧ y = .int b ∧ a < 2 ^ 62 ∧ b < 2 ^ 62 ∧ QI ⟨(List.range (b - a)).map (fun i => dI (a + i)), fun _ => True⟩ s) X) X) : wpX (fItR2 (aCons fa (aCons fb aNil))) env st QI X := by
  refine wp_bind (wp_acons (wp_mono h fun x s h => wp_acons (wp_mono h fun y s ⟨a, b, e1, e2, h1, h2, h3⟩ => wp_anil ?_)))
  subst e1; subst e2
  refine wp_P (a := ⟨upTo a (b - a), fun _ => True⟩) ?_ (by
    have : upTo (a : Int) (b - a) = (List.range (b - a)).map (fun i => dI (a + i)) := by
      unfold upTo dI
      apply List.map_congr_left
      intro i _
      simp
    rw [this]; exact h3)
  simp only [rng2S]
  rw [if_pos (by omega)]
  congr 2
  congr 1
  omega
end
/-! ### plain data: equal is the same -/
mutual
noncomputable def D.pl : D → Bool
  | .non => true
  | .int _ => true
  | .str x => PySem.PyData.strOk x
  | .lst xs => pls xs
  | .tup xs => pls xs
  | _ => false
noncomputable def pls : List D → Bool
  | [] => true
  | x :: xs => D.pl x && pls xs
end
theorem pls_iff : ∀ {xs : List D}, pls xs = true ↔ ∀ x ∈ xs, D.pl x = true
  | [] => by simp [pls]
  | x :: xs => by simp [pls, pls_iff (xs := xs)]
theorem eqvAll_iff {n : Nat} (ih : ∀ x y : D, dOk n x = true → dOk n y = true → x.pl = true → y.pl = true → (PyData.eqv (toPy n x) (toPy n y) = true ↔ x = y)) : ∀ {xs ys : List D}, xs.all (dOk n) = true → ys.all (dOk n) = true → pls xs = true → pls ys = true →
    (PyData.eqvAll (xs.map (toPy n)) (ys.map (toPy n)) = true ↔ xs = ys)
  | [], [], _, _, _, _ => by simp [PyData.eqvAll]
  | [], y :: ys, _, _, _, _ => by simp [PyData.eqvAll]
  | x :: xs, [], _, _, _, _ => by simp [PyData.eqvAll]
  | x :: xs, y :: ys, h1, h2, h3, h4 => by
    simp only [List.all_cons, Bool.and_eq_true, pls] at h1 h2 h3 h4
    simp only [List.map_cons, PyData.eqvAll, Bool.and_eq_true, List.cons.injEq]
    rw [ih x y h1.1 h2.1 h3.1 h4.1, eqvAll_iff ih h1.2 h2.2 h3.2 h4.2]
theorem eqv_iff : ∀ (n : Nat) (x y : D), dOk n x = true → dOk n y = true → x.pl = true → y.pl = true → (PyData.eqv (toPy n x) (toPy n y) = true ↔ x = y)
  | 0, x, y, h1, _, _, _ => by simp [dOk] at h1
  | n + 1, x, y, h1, h2, h3, h4 => by
    cases x <;> simp only [D.pl, reduceCtorEq, Bool.false_eq_true] at h3 <;> cases y <;> simp only [D.pl, reduceCtorEq, Bool.false_eq_true] at h4 <;> simp only [toPy, PyData.eqv, reduceCtorEq, D.int.injEq, D.str.injEq, D.lst.injEq, D.tup.injEq, beq_iff_eq, Bool.false_eq_true]
    · simp only [dOk] at h1 h2
      exact eqvAll_iff (eqv_iff n) h1 h2 h3 h4
    · simp only [dOk] at h1 h2
      exact eqvAll_iff (eqv_iff n) h1 h2 h3 h4
/-- plain and not deep -/
structure Pl (x : D) : Prop where
  pl : x.pl = true
  ok : dOk 60 x = true
open Classical in
theorem eqD_pl {x y : D} (hx : Pl x) (hy : Pl y) : eqD x y = decide (x = y) := by
  unfold eqD
  rw [Bool.eq_iff_iff, eqv_iff 60 x y hx.ok hy.ok hx.pl hy.pl]
  simp
theorem Pl.noObj {x : D} (h : Pl x) : ∀ i, x ≠ .obj i := fun i e => by subst e; have := h.pl; simp [D.pl] at this
open Classical in
theorem eqS_pl {neg : Bool} {st : Sto} {x y : D} (hx : Pl x) (hy : Pl y) : eqS neg st x y = some (.bl (if neg then !decide (x = y) else decide (x = y))) := by
  unfold eqS
  rw [look_self hx.noObj, look_self hy.noObj]
  simp only [hx.ok, hy.ok, and_self, if_true, eqD_pl hx hy]
section
variable {env : En} {st : Sto} {QD : D → Sto → Prop} {X : XQ} {x y : D}
theorem wp_eqS (hx : Pl x) (h : QD (.bl true) st) : wpX (gEq x x) env st QD X := by
  refine wp_P (a := .bl true) ?_ h
  rw [eqS_pl hx hx]; simp
theorem wp_neS (hx : Pl x) (h : QD (.bl false) st) : wpX (gNe x x) env st QD X := by
  refine wp_P (a := .bl false) ?_ h
  rw [eqS_pl hx hx]; simp
theorem wp_eqN (hx : Pl x) (hy : Pl y) (n : x ≠ y) (h : QD (.bl false) st) : wpX (gEq x y) env st QD X := by
  refine wp_P (a := .bl false) ?_ h
  rw [eqS_pl hx hy]; simp [n]
end
/-- plain by depth -/
structure PlN (n : Nat) (x : D) : Prop where
  pl : x.pl = true
  ok : dOk (n + 1) x = true
theorem dOk_mono : ∀ {n m : Nat} {x : D}, n ≤ m → dOk n x = true → dOk m x = true
  | 0, _, _, _, h => by simp [dOk] at h
  | n + 1, 0, _, hm, _ => by omega
  | n + 1, m + 1, x, hm, h => by
    cases x <;> simp only [dOk] at h ⊢ <;> first | exact h | (rw [List.all_eq_true] at h ⊢; intro z hz; exact dOk_mono (by omega) (h z hz))
theorem PlN.pl_ {n : Nat} {x : D} (h : PlN n x) (hn : n < 60 := by decide) : Pl x := ⟨h.pl, dOk_mono (by omega) h.ok⟩
theorem PlN.int {i : Int} {n : Nat} : PlN n (.int i) := ⟨rfl, rfl⟩
theorem PlN.non {n : Nat} : PlN n .non := ⟨rfl, rfl⟩
theorem PlN.lst {n : Nat} {xs : List D} (h : ∀ x ∈ xs, PlN n x) : PlN (n + 1) (.lst xs) := ⟨by simp only [D.pl]; exact pls_iff.mpr fun x hx => (h x hx).pl, by simp only [dOk]; rw [List.all_eq_true]; exact fun x hx => (h x hx).ok⟩
theorem PlN.tup {n : Nat} {xs : List D} (h : ∀ x ∈ xs, PlN n x) : PlN (n + 1) (.tup xs) := ⟨by simp only [D.pl]; exact pls_iff.mpr fun x hx => (h x hx).pl, by simp only [dOk]; rw [List.all_eq_true]; exact fun x hx => (h x hx).ok⟩
theorem PlN.map {α : Type} {n : Nat} {xs : List α} {f : α → D} (h : ∀ x ∈ xs, PlN n (f x)) : ∀ d ∈ xs.map f, PlN n d := fun d hd => by obtain ⟨x, hx, rfl⟩ := List.mem_map.mp hd; exact h x hx
theorem PlN.ints {n : Nat} {xs : List Int} : PlN (n + 1) (.lst (xs.map .int)) := .lst (.map fun _ _ => .int)
theorem Pl.int {i : Int} : Pl (.int i) := ⟨rfl, rfl⟩
theorem Pl.non : Pl .non := ⟨rfl, rfl⟩
end Dl
end
section
set_option Elab.async false
set_option linter.all false
set_option maxRecDepth 100000
namespace Dl
open PySem
section
variable {env : En} {st s : Sto} {QD : D → Sto → Prop} {Q : Out → Prop} {X : XQ}
/-- behind what is there -/
theorem lcKA {α : Type} {ok : Sto → Prop} {tgt : FG} {cond : FT} {elt : FE} {env0 : En} (xs : List α) (enc : α → D) (p : α → Bool) (F : α → D) (hok : ok st)
    (hs : ∀ x ∈ xs, ∃ e1, tgt (enc x) env0 st = some (e1, st) ∧ wpX cond e1 st (fun b s => s = st ∧ b = p x) NX ∧ (p x = true → wpX elt e1 st (fun z s => s = st ∧ z = F x) NX)) :
    ∀ acc : List D, acc.length + xs.length ≤ 16000000 → lcS ok tgt cond elt env0 (xs.map enc) acc st = some (acc ++ (xs.filter p).map F, st) := by
  intro acc hl
  induction xs generalizing acc with
  | nil => simp [lcS, hok]
  | cons y ys ih =>
    obtain ⟨e1, et, hc, he⟩ := hs y (by simp)
    obtain ⟨rc, ec, pc⟩ := hc
    have ih := ih fun x hx => hs x (by simp [hx])
    cases rc with
    | ex c ns ds s => exact pc.elim
    | ok b s =>
      obtain ⟨rfl, rfl⟩ := pc
      simp only [List.map_cons, lcS, if_pos hok, et, ec]
      simp only [List.length_cons] at hl
      cases hp : p y with
      | false =>
        simp only
        rw [ih acc (by omega), List.filter_cons_of_neg (by simp [hp])]
      | true =>
        obtain ⟨re, ee, pe⟩ := he hp
        cases re with
        | ex c ns ds s => exact pe.elim
        | ok z s' =>
          obtain ⟨rfl, rfl⟩ := pe
          simp only [ee]
          have hz : acc.length < sizeLine := by rw [sizeLine_eq]; omega
          simp only [hz, if_true]
          rw [ih (acc ++ [F y]) (by simp; omega), List.filter_cons_of_pos (by simp [hp])]
          simp
/-- two clauses -/
theorem lc2K {α β : Type} {ok : Sto → Prop} {tgt : FG} {cond : FT} {fi1 : FI} {tgt1 : FG} {cond1 : FT} {elt : FE} {ws1 : List Nat} {env0 : En} {items : List D} {R : List D → Sto → Prop}
    (xs : List α) (enc : α → D) (c : α → Bool) (ys : α → List β) (enc1 : β → D) (p : α → β → Bool) (F : α → β → D) (N : Nat) (hi : items = xs.map enc) (hok : ok st) (hl : xs.length * N ≤ 16000000) (hN : ∀ x ∈ xs, (ys x).length ≤ N)
    (hs : ∀ x ∈ xs, ∃ e1, tgt (enc x) env0 st = some (e1, st) ∧ wpX cond e1 st (fun b s => s = st ∧ b = c x) NX ∧ (c x = true → wpX fi1 e1 st (fun it s => s = st ∧ it.items = (ys x).map enc1 ∧ it.ok st) NX ∧
      ∀ y ∈ ys x, ∃ e2, tgt1 (enc1 y) (wipeE e1 ws1) st = some (e2, st) ∧ wpX cond1 e2 st (fun b s => s = st ∧ b = p x y) NX ∧ (p x y = true → wpX elt e2 st (fun z s => s = st ∧ z = F x y) NX)))
    (h : R ((xs.filter c).flatMap fun x => ((ys x).filter (p x)).map (F x)) st) : ∃ acc s', lc2S ok tgt cond fi1 tgt1 cond1 elt ws1 env0 items [] st = some (acc, s') ∧ R acc s' := by
  subst hi
  have go : ∀ (zs : List α) (acc : List D), (∀ x ∈ zs, x ∈ xs) → acc.length + zs.length * N ≤ 16000000 → lc2S ok tgt cond fi1 tgt1 cond1 elt ws1 env0 (zs.map enc) acc st = some (acc ++ (zs.filter c).flatMap (fun x => ((ys x).filter (p x)).map (F x)), st) := by
    intro zs
    induction zs with
    | nil => intro acc _ _; simp [lc2S, hok]
    | cons x zs ih =>
      intro acc hm hl
      obtain ⟨e1, et, ⟨rc, ec, pc⟩, he⟩ := hs x (hm x (by simp))
      have hNx := hN x (hm x (by simp))
      rw [List.length_cons, Nat.succ_mul] at hl
      cases rc with
      | ex c ns ds s => exact pc.elim
      | ok b s =>
        obtain ⟨rfl, rfl⟩ := pc
        simp only [List.map_cons, lc2S, if_pos hok, et, ec]
        cases hc : c x with
        | false =>
          simp only
          rw [ih acc (fun x hx => hm x (by simp [hx])) (by omega), List.filter_cons_of_neg (by simp [hc])]
        | true =>
          obtain ⟨⟨ri, ei, pi⟩, hy⟩ := he hc
          cases ri with
          | ex c ns ds s => exact pi.elim
          | ok it s' =>
            obtain ⟨rfl, e2, e3⟩ := pi
            simp only [ei]
            rw [e2, lcKA (ys x) enc1 (p x) (F x) e3 hy acc (by omega)]
            simp only
            have hlen : (((ys x).filter (p x)).map (F x)).length ≤ N := by
              rw [List.length_map]; exact Nat.le_trans (List.length_filter_le _ _) hNx
            rw [ih _ (fun x hx => hm x (by simp [hx])) (by rw [List.length_append]; omega), List.filter_cons_of_pos (by simp [hc])]
            simp
  exact ⟨_, _, (go xs [] (fun _ h => h) (by simpa using hl)).trans (by simp), h⟩
/-- two clauses, no tests -/
theorem lc2A {α β : Type} {ok : Sto → Prop} {tgt : FG} {fi1 : FI} {tgt1 : FG} {elt : FE} {ws1 : List Nat} {env0 : En} {items : List D} {R : List D → Sto → Prop}
    (xs : List α) (enc : α → D) (ys : α → List β) (enc1 : β → D) (F : α → β → D) (N : Nat) (hi : items = xs.map enc) (hok : ok st) (hl : xs.length * N ≤ 16000000) (hN : ∀ x ∈ xs, (ys x).length ≤ N)
    (hs : ∀ x ∈ xs, ∃ e1, tgt (enc x) env0 st = some (e1, st) ∧ wpX fi1 e1 st (fun it s => s = st ∧ it.items = (ys x).map enc1 ∧ it.ok st) NX ∧
      ∀ y ∈ ys x, ∃ e2, tgt1 (enc1 y) (wipeE e1 ws1) st = some (e2, st) ∧ wpX elt e2 st (fun z s => s = st ∧ z = F x y) NX)
    (h : R (xs.flatMap fun x => (ys x).map (F x)) st) : ∃ acc s', lc2S ok tgt tYesF fi1 tgt1 tYesF elt ws1 env0 items [] st = some (acc, s') ∧ R acc s' := by
  refine lc2K xs enc (fun _ => true) ys enc1 (fun _ _ => true) F N hi hok hl hN (fun x hx => ?_) ?_
  · obtain ⟨e1, h1, h2, h3⟩ := hs x hx
    exact ⟨e1, h1, ⟨_, rfl, rfl, rfl⟩, fun _ => ⟨h2, fun y hy => let ⟨e2, h4, h5⟩ := h3 y hy; ⟨e2, h4, ⟨_, rfl, rfl, rfl⟩, fun _ => h5⟩⟩⟩
  · have e1 : xs.filter (fun _ => true) = xs := List.filter_eq_self.mpr fun _ _ => rfl
    have e2 : ∀ l : List β, l.filter (fun _ => true) = l := fun l => List.filter_eq_self.mpr fun _ _ => rfl
    simp only [e1, e2]
    exact h
/-! ### making an object that is frozen -/
theorem fldPut_last {c f : Str} {ns : List Str} {ds : List D} {y : D} (h : ns.length < 1000) : fldPut c f (.obj st.length) y (st ++ [.ins c ns ds]) = some (st ++ [.ins c (putN f y ns ds).1 (putN f y ns ds).2]) := by
  simp [fldPut, h]
/-- what stood before: as it was, or speaking of itself alone -/
structure Old (st st' : Sto) : Prop where
  len : st'.length = st.length
  cl : st' = st ∨ closeds st.length st' = true
theorem Old.rfl' : Old st st := ⟨rfl, .inl rfl⟩
theorem fzR_app {st' : Sto} {d d' : D} {new : List D} (o : Old st st') (e : fzD st.length new.length [d] new = some [d']) : fzR st (.ok d (st' ++ new)) = some (.ok d' st') := by
  have e3 : (st' ++ new).take st.length = st' := by rw [← o.len]; simp
  have e1 : (st' ++ new).length - st.length = new.length := by rw [← o.len]; simp
  have e2 : (st' ++ new).drop st.length = new := by rw [← o.len]; simp
  simp only [fzR]
  rw [e3, if_pos o.cl, e1, e2, e]
theorem fzD_plain {n0 : Nat} : ∀ {k : Nat} {ds new : List D}, new.length = k → closeds 0 ds = true → closeds 0 new = true → fzD n0 k ds new = some ds
  | 0, ds, new, _, _, _ => rfl
  | k + 1, ds, new, hn, hd, hw => by
    have hk : k < new.length := by omega
    have hx : D.closed 0 new[k] = true := closeds_iff.mp hw _ (List.getElem_mem hk)
    have ht : closeds 0 (new.take k) = true := closeds_iff.mpr fun x hx => closeds_iff.mp hw x (List.mem_of_mem_take hx)
    simp only [fzD, List.getElem?_eq_getElem hk, closed_up (Nat.zero_le (n0 + k)) hx, if_true]
    rw [subs_closed (closeds_up (Nat.zero_le _) hd), subs_closed (closeds_up (Nat.zero_le _) ht)]
    exact fzD_plain (by rw [List.length_take]; omega) hd ht
/-- new things that are let go -/
theorem fz_drop {st' : Sto} {d : D} {new : List D} (o : Old st st') (hd : d.closed 0 = true) (hw : closeds 0 new = true) : fzR st (.ok d (st' ++ new)) = some (.ok d st') :=
  fzR_app o (fzD_plain rfl (by simp [closeds, hd]) hw)
theorem fz_same {st' : Sto} {d : D} (o : Old st st') : fzR st (.ok d st') = some (.ok d st') := by
  have := fzR_app (new := []) (d := d) (d' := d) o rfl
  rwa [List.append_nil] at this
/-- the first new thing is handed back -/
theorem fz_first {st' : Sto} {d : D} {new : List D} (o : Old st st') (hd : d.closed 0 = true) (hw : closeds 0 new = true) : fzR st (.ok (.obj st.length) (st' ++ d :: new)) = some (.ok d st') := by
  have go : ∀ (k : Nat) (nw : List D), nw.length = k → closeds 0 nw = true → fzD st.length (k + 1) [.obj st.length] (d :: nw) = some [d] := by
    intro k
    induction k with
    | zero =>
      intro nw h _
      have : nw = [] := List.eq_nil_of_length_eq_zero h
      subst this
      simp [fzD, subs, D.sub, closed_up (Nat.zero_le st.length) hd]
    | succ k ih =>
      intro nw h hw
      have hk : k < nw.length := by omega
      have hx : D.closed 0 nw[k] = true := closeds_iff.mp hw _ (List.getElem_mem hk)
      have ht : closeds 0 (nw.take k) = true := closeds_iff.mpr fun x hx => closeds_iff.mp hw x (List.mem_of_mem_take hx)
      rw [fzD]
      simp only [List.getElem?_cons_succ, List.getElem?_eq_getElem hk, closed_up (Nat.zero_le (st.length + (k + 1))) hx, if_true]
      have e1 : subs (st.length + (k + 1)) nw[k] [D.obj st.length] = [.obj st.length] := by simp [subs, D.sub]
      have e2 : subs (st.length + (k + 1)) nw[k] ((d :: nw).take (k + 1)) = d :: nw.take k := by
        rw [List.take_succ_cons]
        exact subs_closed (closeds_up (Nat.zero_le _) (by simp only [closeds, hd, ht, Bool.and_self]))
      rw [e1, e2]
      exact ih (nw.take k) (by rw [List.length_take]; omega) ht
  exact fzR_app o (go new.length new rfl hw)
theorem fz_one {st' : Sto} {d : D} (o : Old st st') (hd : d.closed 0 = true) : fzR st (.ok (.obj st.length) (st' ++ [d])) = some (.ok d st') := fz_first o hd rfl
theorem wp_listRg {n : Nat} (hn : n ≤ 2 ^ 24) (h : QD (.lst ((List.range n).map dI)) st) : wpX (lRg1 false (dI n)) env st QD X := by
  have e : lRg1 false (dI n) = fGd (rgOk 0 n) (fNew false (.lst (upTo 0 ((n : Int) - 0).toNat))) := by unfold lRg1 fListRg; rfl
  rw [e]
  refine wp_gd (f := fNew false (.lst (upTo 0 ((n : Int) - 0).toNat))) ?_ (wp_newF ?_)
  · unfold rgOk; exact decide_eq_true (by omega)
  · rw [show (((n : Int) - 0).toNat) = n by omega, upTo_map]; exact h
theorem wp_negC {i : Int} (h : QD (.int (-i)) st) : wpX (fNeg (fC (.int i))) env st QD X := wp_neg (i := i) (wp_c ⟨rfl, h⟩)
theorem eqS_bl {neg a b : Bool} : eqS neg st (.bl a) (.bl b) = some (.bl (if neg then !decide (a = b) else decide (a = b))) := by
  cases a <;> cases b <;> cases neg <;> rfl
theorem wp_eqBB {a b : Bool} (h : QD (.bl (decide (a = b))) st) : wpX (gEq (.bl a) (.bl b)) env st QD X := wp_P (a := .bl (decide (a = b))) (by rw [eqS_bl]; rfl) h
theorem wp_neBB {a b : Bool} (h : QD (.bl (!decide (a = b))) st) : wpX (gNe (.bl a) (.bl b)) env st QD X := wp_P (a := .bl (!decide (a = b))) (by rw [eqS_bl]; rfl) h
theorem isi_ins {cs : List Str} {c : Str} {ns : List Str} {ds : List D} (h : c ∈ cs) : (isiS cs [] st (.ins c ns ds)).isSome = true := by simp [isiS, look, h]
end
end Dl
end
section
set_option Elab.async false
set_option linter.all false
set_option maxRecDepth 100000
set_option autoImplicit false
open PySem PySem.Spec PyProof.Rows L2
namespace Dl
/-! ### bool(x), x of an own class -/
end Dl
end
section
set_option Elab.async false
set_option linter.all false
set_option maxRecDepth 100000
set_option autoImplicit false
/-! zip of three lists or tuples, as a data iterable -/
namespace Dl
open PySem PySem.Spec L2
end Dl
end
section
set_option Elab.async false
set_option linter.all false
set_option maxRecDepth 100000
set_option autoImplicit false
/-! comprehensions with any number of clauses, into anything -/
namespace Dl
open PySem PySem.Spec L2
noncomputable abbrev TNx := St → Hp → (Hp → Prop) → Prop
/-- what stands behind a clause's tests, at the machine: q is what is wanted behind it -/
noncomputable abbrev BW := (Shared → Prop) → (Value → Shared → Prop) → Shared → Prop
/-- the tests of a clause -/
noncomputable abbrev testsOf (ifs : List Expr) (env : Env) : Sem Bool := forIn ifs true fun c r => if r = true then (do let ok ← isTrue c env (eval c env); pure (ForInStep.yield ok)) else pure (ForInStep.yield r)
/-- one turn of clause k of the comprehension e, as it is read -/
noncomputable def TurnR (M : Model) (A : Around) (e : Expr) (k : Nat) (tg : Expr) (ifs : List Expr) (acc : Value) (env : Env) (B : BW) : Prop :=
  ∀ (it : Value) (Q : Fin → Shared → Prop) (E : Value → Shared → Prop) (s : Shared),
    wpAny M A (pyNext it) (fun r s1 => match r with
      | none => Q (.done .next) s1
      | some v => wpAny M A (letOwnedTupleGo tg it v) (fun _ s2 => wpAny M A (assign tg env v) (fun _ s3 => wpAny M A (testsOf ifs env) (fun ok s4 =>
          if ok = true then B (fun s5 => Q (.again (.compLoop e k it acc env)) s5) E s4 else Q (.again (.compLoop e k it acc env)) s4) E s3) E s2) E s1) E s →
    wpAny M A (compTurn e k it acc env) Q E s
/-- the middle of a turn, by the layer -/
noncomputable def PNx (X : Cx) (B : BW) (ws : List Nat) (t : TNx) : Prop := ∀ (pins : List (Addr × Obj)) (s : Shared) (σ : St) (H : Hp) (Nx : Hp → Prop) (q : Shared → Prop) (E : Value → Shared → Prop), Inv X pins σ H s → t σ H Nx → (∀ s' H', Inv X pins (wipe σ ws) H' s' → Nx H' → q s') → B q E s
/-- a clause within -/
noncomputable def tCl (wi : TI) (g : TG) (tt : TT) (vs : List Nat) (t : TNx) : TNx := fun σ H Nx => wi σ H fun J H1 => ∃ W : Nat → Nat → Hp → Prop, (∃ m, W 0 m H1) ∧ ∀ i m H, W i m H →
  (J.stop i H ∧ Nx H) ∨ (J.go i H ∧ ∃ N1 : Hp → Prop, (∀ H', N1 H' → ∃ m', m' < m ∧ W (i + 1) m' H') ∧ ∀ x H', J.yld i H x H' → g x (wipe σ vs) H' fun σ2 H2 => wipe σ2 vs = wipe σ vs ∧ tt σ2 H2 fun b H3 => if b = true then t σ2 H3 N1 else N1 H3)
/-- a new walk starts within a turn -/
noncomputable def bIn (M : Model) (A : Around) (e : Expr) (k : Nat) (iter : Expr) (acc : Value) (env : Env) : BW := fun q E s => wpAny M A (eval iter env) (fun x s1 => wpAny M A (pyIter x) (fun it s2 =>
  codeAny M A (.compStart e k it acc env) (fun r s3 => match r with | .ok _ => q s3 | .error _ => False) s2) E s1) E s
/-- what the machine says of clause k of e -/
structure CompR (prog : Program) (w : World) (e : Expr) (k : Nat) (tg : Expr) (ifs : List Expr) (acc : Value) (env : Env) (B : Around → BW) : Prop where
  quiet : ∀ it, (Code.compLoop e k it acc env).quiet = true
  den : ∀ it, (model prog w).den (.compLoop e k it acc env) = (compTurn e k it acc env).onRaise (fun x => do noteFrame x env; theTreesLotGoes x)
  under : ∀ (A : Around) it, A.under (.compLoop e k it acc env) = A
  start : ∀ (A : Around) it (R : Result → Shared → Prop) (s : Shared), codeAny (model prog w) A (.compLoop e k it acc env) R s → (∀ E : Value → Shared → Prop, wpAny (model prog w) A (pyIter it) (fun it' s' => codeAny (model prog w) A (.compLoop e k it' acc env) R s') E s) → codeAny (model prog w) A (.compStart e k it acc env) R s
  turn : ∀ A : Around, TurnR (model prog w) A e k tg ifs acc env (B A)
/-- a clause's loop ends, one measure less a turn -/
theorem CompR.loop {prog : Program} {w : World} {A : Around} {e : Expr} {k : Nat} {tg : Expr} {ifs : List Expr} {it acc : Value} {env : Env} {B : Around → BW} {R : Result → Shared → Prop} {s : Shared}
    (C : CompR prog w e k tg ifs acc env B) (I : Nat → Shared → Prop)
    (turn : ∀ n s, I n s → wpAny (model prog w) A (pyNext it) (fun r s1 => match r with
      | none => R (.ok .next) s1
      | some v => wpAny (model prog w) A (letOwnedTupleGo tg it v) (fun _ s2 => wpAny (model prog w) A (assign tg env v) (fun _ s3 => wpAny (model prog w) A (testsOf ifs env) (fun ok s4 =>
          if ok = true then B A (fun s5 => ∃ m, m < n ∧ I m s5) (fun _ _ => False) s4 else ∃ m, m < n ∧ I m s4) (fun _ _ => False) s3) (fun _ _ => False) s2) (fun _ _ => False) s1) (fun _ _ => False) s)
    (n : Nat) (h : I n s) : codeAny (model prog w) A (.compLoop e k it acc env) R s := by
  refine codeAny_loop (C.quiet it) I (fun n s hI => ?_) n h
  rw [C.den, C.under]
  refine wpAny_noted (wpAny_mono (C.turn A it (fun fin s' => match fin with | .done f => R (.ok f) s' | .again c' => c' = Code.compLoop e k it acc env ∧ ∃ m, m < n ∧ I m s') (fun _ _ => False) s (wpAny_mono (turn n s hI) (fun r s1 h1 => ?_) fun _ _ z => z)) (fun _ _ z => z) fun _ _ z => z.elim)
  cases r with
  | none => exact h1
  | some v =>
    refine wpAny_mono h1 (fun _ s2 h2 => wpAny_mono h2 (fun _ s3 h3 => wpAny_mono h3 (fun ok s4 h4 => ?_) fun _ _ z => z) fun _ _ z => z) fun _ _ z => z
    cases ok with
    | false =>
      simp only [Bool.false_eq_true, if_false] at h4 ⊢
      first | exact ⟨rfl, h4⟩ | exact ⟨trivial, h4⟩
    | true =>
      simp only [if_true] at h4 ⊢
      simpa using h4
section
variable {X : Cx} {e iter tg : Expr} {k : Nat} {ifs : List Expr} {D : Addr} {B : Around → BW} {t : TNx} {wi : TI} {g : TG} {tt : TT} {vs ws : List Nat}
/-- a clause within the others -/
theorem pnx_in (hc : X.calm = true) (hx : X.xe = fun _ _ => False) (C : CompR X.prog X.w e k tg ifs (.ref D) X.env B) (hi : PI X tg iter wi) (hg : PG X tg g) (ht : PTs X ifs tt) (hn : PNx X (B X.A) ws t) (hv : ∀ i ∈ ws, i ∈ vs) :
    PNx X (bIn (model X.prog X.w) X.A e k iter (.ref D) X.env) vs (tCl wi g tt vs t) := by
  intro pins s σ H Nx q E I h hq
  refine wpAny_mono (hi.run pins s σ H _ I h) (fun x s1 h1 => wpAny_mono h1 (fun itv s2 h2 => ?_) fun _ _ z => by rw [hx] at z; exact z.elim) fun _ _ z => by rw [hx] at z; exact z.elim
  obtain ⟨it, fp, tn, J, H2, e1, I2, T, st2, f2, W, ⟨m0, w0⟩, turn⟩ := h2
  subst e1
  have stat : ∀ {H' : Hp}, (∀ b ∈ fp, H' b = none) → ∀ b ∈ fp, FpOk X pins H' b := fun hn b hb => ⟨hn b hb, (f2 b hb).2⟩
  have lp : codeAny (model X.prog X.w) X.A (.compLoop e k (.ref it) (.ref D) X.env) (fun r s' => match r with | .ok _ => q s' | .error _ => False) s2 := by
    refine C.loop (fun n s' => ∃ i H', Inv X pins (wipe σ vs) H' s' ∧ tn i s'.heap ∧ (∀ b ∈ fp, H' b = none) ∧ W i n H' ∧ (∀ s'' H'', Inv X pins (wipe σ vs) H'' s'' → Nx H'' → q s'')) ?_ m0 ?_
    · rintro n s3 ⟨i, H3, I3, st3, n3, w3, qq⟩
      rcases turn i n H3 w3 with ⟨stop, nx⟩ | ⟨go, N1, hN1, step⟩
      · refine wpAny_mono (T.done X rfl rfl rfl hc i pins s3 (wipe σ vs) H3 (fun _ _ => False) I3 (stat n3) st3 stop) (fun r s4 ⟨hr, I4⟩ => ?_) fun _ _ z => z
        subst hr
        exact qq s4 H3 I4 nx
      · refine wpAny_mono (T.item X rfl rfl rfl hc i pins s3 (wipe σ vs) H3 (fun _ _ => False) I3 (stat n3) st3 go) (fun r s4 ⟨u, hr, h4⟩ => ?_) fun _ _ z => z
        subst hr
        refine wpAny_mono h4 (fun _ s5 ⟨y, H5, I5, r5, y5, st5, n5⟩ => ?_) fun _ _ z => z
        have I6 := I5.pinned (stat n5) (T.obj _ _ st5)
        refine wpAny_mono (hg.run _ s5 (wipe σ vs) H5 y u _ I6 r5 (step y H5 y5)) (fun _ s7 ⟨σ7, H7, I7, hw, q7⟩ => ?_) fun _ _ z => by rw [hx] at z; exact z.elim
        refine wpAny_mono (ht.run _ s7 σ7 H7 _ I7 q7) (fun b s8 ⟨H8, I8, q8⟩ => ?_) fun _ _ z => by rw [hx] at z; exact z.elim
        have fin : ∀ (s' : Shared) (H' : Hp), Inv X (pins ++ pinsAt fp s5.heap) (wipe σ7 ws) H' s' → N1 H' → ∃ m, m < n ∧ ∃ i H', Inv X pins (wipe σ vs) H' s' ∧ tn i s'.heap ∧ (∀ b ∈ fp, H' b = none) ∧ W i m H' ∧ (∀ s'' H'', Inv X pins (wipe σ vs) H'' s'' → Nx H'' → q s'') := fun s' H' I' nx => by
          obtain ⟨m', hm, w'⟩ := hN1 H' nx
          have pin' : ∀ b ∈ fp, ∀ o, s5.heap.get? b = some o → s'.heap.get? b = some o ∧ H' b = none := fun b hb o e => by
            obtain ⟨z1, z2, _⟩ := I'.pin (b, o) (List.mem_append_right _ (List.mem_append_right _ (mem_pinsAt hb e)))
            exact ⟨z1, z2⟩
          refine ⟨m', hm, i + 1, H', I'.unpinned.weak (by rw [wipe_length σ7 ws, ← hw, wipe_length]) (fun j v e => by rw [← hw] at e; obtain ⟨e1, e2⟩ := wipe_some e; rw [wipe_out fun z => e2 (hv j z)]; exact e1), T.keep _ _ _ st5 fun b hb o e => (pin' b hb o e).1, fun b hb => ?_, w', qq⟩
          obtain ⟨o, e, _⟩ := T.obj _ _ st5 b hb
          exact (pin' b hb o e).2
        cases b with
        | false =>
          simp only [Bool.false_eq_true, if_false] at q8 ⊢
          exact fin s8 H8 (I8.weak (wipe_length _ _) fun j v e => (wipe_some e).1) q8
        | true =>
          simp only [if_true] at q8 ⊢
          exact hn _ s8 σ7 H8 N1 _ _ I8 q8 fin
    · refine ⟨0, H2, I2.weak (wipe_length _ _) (fun j v e => (wipe_some e).1), st2, fun b hb => (f2 b hb).1, w0, fun s'' H'' I'' nx => ?_⟩
      exact hq s'' H'' I'' nx
  exact C.start X.A _ _ _ lp fun E => T.self X.A 0 _ _ _ st2 lp
end
/-- the whole: the first clause walks in the def's own block, what is made stands at D -/
noncomputable def tComp (o0 : Addr → HO) (wi : TI) (g : TG) (tt : TT) (vs : List Nat) (t : Addr → TNx) : TE := fun σ H Q => wi σ H fun J H1 => ∀ D, H1 D = none → ∃ W : Nat → Nat → Hp → Prop, (∃ m, W 0 m (upd H1 D (o0 D))) ∧ ∀ i m H, W i m H →
  (J.stop i H ∧ Q (.ref D) H) ∨ (J.go i H ∧ ∃ N1 : Hp → Prop, (∀ H', N1 H' → ∃ m', m' < m ∧ W (i + 1) m' H') ∧ ∀ x H', J.yld i H x H' → g x (wipe σ vs) H' fun σ2 H2 => wipe σ2 vs = wipe σ vs ∧ tt σ2 H2 fun b H3 => if b = true then t D σ2 H3 N1 else N1 H3)
section
variable {X : Cx} {pins : List (Addr × Obj)} {s : Shared} {σ : St} {H : Hp} {Q : VK} {e iter tg : Expr} {gs : List Comprehension} {ifs : List Expr} {scope : Scope} {own : List (Str × Nat)} {pos' : Pos} {B : Addr → Env → Around → BW} {t : Addr → TNx} {wi : TI} {g : TG} {tt : TT} {ws : List Nat} {use : Option (Value → Sem Unit)} {Qf : Value → Shared → Prop} {ob : Obj} {o0 : Addr → HO} {newAcc : Sem Value}
theorem comp_core (hc : X.calm = true) (hN : X.N.Nodup) (I : Inv X pins σ H s) (hcl : clausesOf e = ⟨tg, iter, ifs, 0⟩ :: gs) (hi : PI X tg iter wi) (ok : BlkOk X.N X.env.scope scope own)
    (hnew : ∀ (Q : Value → Shared → Prop) (E : Value → Shared → Prop) (s : Shared), Q (.ref s.heap.objs.size) { s with heap := s.heap.push ob } → wpAny (model X.prog X.w) X.A newAcc Q E s)
    (hfr : ob.isFreed = false) (hob : ∀ (H : Hp) (h : Heap), ObjOk X.prog X.w H (h.push ob) h.objs.size (o0 h.objs.size))
    (hg : ∀ (s : Shared) (H : Hp) (C : Addr) (cl : List (Str × Addr)) (fp : List Addr), PG (X.blk s H scope (compEnvC scope cl C X.env) fp) tg g)
    (ht : ∀ (s : Shared) (H : Hp) (C : Addr) (cl : List (Str × Addr)) (fp : List Addr), PTs (X.blk s H scope (compEnvC scope cl C X.env) fp) ifs tt)
    (hn : ∀ (s : Shared) (H : Hp) (C : Addr) (cl : List (Str × Addr)) (fp : List Addr) (D : Addr), PNx (X.blk s H scope (compEnvC scope cl C X.env) fp) (B D (compEnvC scope cl C X.env) X.A) ws (t D))
    (hR : ∀ (D C : Addr) (cl : List (Str × Addr)), CompR X.prog X.w e 0 tg ifs (.ref D) (compEnvC scope cl C X.env) (B D (compEnvC scope cl C X.env)))
    (hv : ∀ i ∈ ws, i ∈ own.map (·.2)) (hs : ∀ x, foldedSetIterable iter X.env x = pure x)
    (h : tComp o0 wi g tt (own.map (·.2)) t σ H Q)
    (hRR : ∀ D C s' m H', Inv X pins σ H' s' → Q (.ref D) H' → s'.heap.Ns C m → FpOk X pins H' C → compPost (model X.prog X.w) X.A X.xe use Qf (.ref D) C (.ok .next) s') :
    wpAny (model X.prog X.w) X.A (comprehension e scope X.env pos' newAcc false (eval iter X.env) use) Qf X.xe s := by
  have hfree : ∀ y ∈ scope.names, y.2 = .free → ∃ c, X.env.cells.lookup y.1 = some c := fun y hy z => by
    rcases ok.free y hy z with k | k <;> first | exact I.ok.has _ (.inl k) | exact I.ok.has _ (.inr k)
  refine wpAny_comprehension_free (use := use) hcl hs (closure_ok hfree) ok.kind (fun y hy z => by rw [ok.uniq y hy, z]) (thn (hi.run pins s σ H _ I h) fun xv s1 hx => thn hx fun itv s2 h2 => ?_)
  obtain ⟨it, fp, tn, J, H2, e1, I2, T, st2, f2, q⟩ := h2
  subst e1
  refine hnew _ _ _ (newEnv_comp ?_)
  obtain ⟨D, hD⟩ : ∃ D, D = s2.heap.objs.size := ⟨_, rfl⟩
  rw [← hD]
  obtain ⟨W, ⟨m0, w0⟩, turn⟩ := q D (I2.hok.fresh (Nat.le_of_eq hD.symm))
  obtain ⟨s3, hs3⟩ : ∃ s3 : Shared, s3 = { s2 with heap := s2.heap.push ob } := ⟨_, rfl⟩
  have h3 : s3.heap = s2.heap.push ob := by rw [hs3]
  have I3 : Inv X pins σ (upd H2 D (o0 D)) s3 := by
    rw [hs3]
    refine I2.laid (t' := s2.toks) (fun b o z => Heap.get?_push_of_some _ z) (Nat.le_of_eq hD.symm) ?_
    subst hD
    exact hob _ _
  have f3 : ∀ b ∈ fp, FpOk X pins (upd H2 D (o0 D)) b ∧ b < s3.heap.objs.size := fun b hb => by
    obtain ⟨o, z, _⟩ := T.obj _ _ st2 b hb
    have hlt := Heap.lt_size z
    refine ⟨⟨?_, (f2 b hb).2⟩, by rw [h3, Heap.size_push]; exact Nat.lt_succ_of_lt hlt⟩
    rw [upd_ne (by rw [hD]; exact Nat.ne_of_lt hlt)]
    exact (f2 b hb).1
  have st3 : tn 0 s3.heap := T.keep _ _ _ st2 fun b _ o z => by rw [h3]; exact Heap.get?_push_of_some _ z
  rw [← hs3]
  have I4 := block_start I3 ok hN f3
  obtain ⟨cl, hcl2⟩ : ∃ cl, cl = cellsFrom (s3.heap.objs.size + 1) scope.names (cloFrom X.env.cells scope.names []) := ⟨_, rfl⟩
  rw [← hcl2] at I4
  have pg := hg s3 (upd H2 D (o0 D)) s3.heap.objs.size cl fp
  have pt := ht s3 (upd H2 D (o0 D)) s3.heap.objs.size cl fp
  have pn := hn s3 (upd H2 D (o0 D)) s3.heap.objs.size cl fp D
  have cr := hR D s3.heap.objs.size cl
  obtain ⟨s4, hs4⟩ : ∃ s4 : Shared, s4 = { s3 with heap := pushCells (s3.heap.push { cls := .type "dict", data := .dict #[] }) scope.names } := ⟨_, rfl⟩
  rw [← hs4] at I4
  obtain ⟨ce, hce⟩ : ∃ ce, ce = compEnvC scope cl s3.heap.objs.size X.env := ⟨_, rfl⟩
  show codeAny _ _ (.compStart e 0 (.ref it) (.ref D) (compEnvC scope (cellsFrom (s3.heap.objs.size + 1) scope.names (cloFrom X.env.cells scope.names [])) s3.heap.objs.size X.env)) _ _
  rw [← hcl2, ← hce, ← hs4]
  rw [← hce] at I4 pg pt pn cr
  have cL : ce.locals = s3.heap.objs.size := by rw [hce]; rfl
  obtain ⟨H3, hH3⟩ : ∃ H3, H3 = upd H2 D (o0 D) := ⟨_, rfl⟩
  rw [← hH3] at I3 I4 pg pt pn w0 f3
  have nfp : ∀ b ∈ fp, H3 b = none := fun b hb => (f3 b hb).1.1
  have st4 : tn 0 s4.heap := T.keep _ _ _ st3 fun b _ o z => by rw [hs4]; exact pushCells_keeps _ _ _ _ (Heap.get?_push_of_some _ z)
  have stat : ∀ {σ' : St} {H' : Hp} {s' : Shared}, Inv (X.blk s3 H3 scope ce fp) [] σ' H' s' → (∀ b ∈ fp, H' b = none) → ∀ b ∈ fp, FpOk (X.blk s3 H3 scope ce fp) [] H' b := fun {σ' H' s'} I' hn b hb =>
    ⟨hn b hb, (I'.ok.exf b hb).1, I'.ok.exfs b hb, .inl hb, fun x c z => (I'.ok.exf b hb).2 x c z, fun p hp => absurd (show p ∈ ([] : List (Addr × Obj)) ++ [] from hp) (by simp)⟩
  have lp : codeAny (model X.prog X.w) X.A (.compLoop e 0 (.ref it) (.ref D) ce) (compPost (model X.prog X.w) X.A X.xe use Qf (.ref D) s3.heap.objs.size) s4 := by
    refine cr.loop (fun n s' => ∃ i H', Inv (X.blk s3 H3 scope ce fp) [] (wipe σ (own.map (·.2))) H' s' ∧ tn i s'.heap ∧ (∀ b ∈ fp, H' b = none) ∧ W i n H') ?_ m0 ⟨0, H3, I4, st4, nfp, w0⟩
    rintro n s5 ⟨i, H5, I5, st5, n5, w5⟩
    rcases turn i n H5 w5 with ⟨stop, qq⟩ | ⟨go, N1, hN1, step⟩
    · refine wpAny_mono (T.done (X.blk s3 H3 scope ce fp) rfl rfl rfl hc i [] s5 _ H5 (fun _ _ => False) I5 (stat I5 n5) st5 stop) (fun r s6 ⟨hr, I6⟩ => ?_) fun _ _ z => z
      subst hr
      have I7 : Inv X pins σ H5 s6 := I3.call' (ch := fp) I6.os I6.base I6.hok I6.bare fun b hb => ⟨(f3 b hb).1.2.2.2.1, (f3 b hb).1.2.1, (f3 b hb).1.2.2.2.2.1, (f3 b hb).1.2.2.2.2.2⟩
      have nC : H5 s3.heap.objs.size = none := by
        have z : H5 ce.locals = none := I6.free
        rwa [cL] at z
      obtain ⟨m, hn', _⟩ := I6.loc
      have hn' : s6.heap.Ns ce.locals m := hn'
      rw [cL] at hn'
      exact hRR D s3.heap.objs.size s6 m H5 I7 qq hn' (I3.fpOk (Nat.le_refl _) nC)
    · refine wpAny_mono (T.item (X.blk s3 H3 scope ce fp) rfl rfl rfl hc i [] s5 _ H5 (fun _ _ => False) I5 (stat I5 n5) st5 go) (fun r s6 ⟨u, hr, h6⟩ => ?_) fun _ _ z => z
      subst hr
      refine wpAny_mono h6 (fun _ s7 ⟨y, H7, I7, r7, y7, st7, n7⟩ => ?_) fun _ _ z => z
      have I8 := I7.pinned (stat I7 n7) (T.obj _ _ st7)
      refine wpAny_mono (pg.run _ s7 _ H7 y u _ I8 r7 (step y H7 y7)) (fun _ s9 ⟨σ9, H9, I9, hw, q9⟩ => ?_) fun _ _ z => z.elim
      refine wpAny_mono (pt.run _ s9 σ9 H9 _ I9 q9) (fun b s10 ⟨H10, I10, q10⟩ => ?_) fun _ _ z => z.elim
      have fin : ∀ (s' : Shared) (H' : Hp), Inv (X.blk s3 H3 scope ce fp) ([] ++ pinsAt fp s7.heap) (wipe σ9 ws) H' s' → N1 H' → ∃ m, m < n ∧ ∃ i H', Inv (X.blk s3 H3 scope ce fp) [] (wipe σ (own.map (·.2))) H' s' ∧ tn i s'.heap ∧ (∀ b ∈ fp, H' b = none) ∧ W i m H' := fun s' H' I' nx => by
        obtain ⟨m', hm, w'⟩ := hN1 H' nx
        have pin' : ∀ b ∈ fp, ∀ o, s7.heap.get? b = some o → s'.heap.get? b = some o ∧ H' b = none := fun b hb o z => by
          obtain ⟨z1, z2, _⟩ := I'.pin (b, o) (List.mem_append_right _ (List.mem_append_right _ (mem_pinsAt hb z)))
          exact ⟨z1, z2⟩
        refine ⟨m', hm, i + 1, H', (I'.unpinned (pins := [])).weak (by rw [wipe_length σ9 ws, ← hw, wipe_length]) (fun j v z => by rw [← hw] at z; obtain ⟨z1, z2⟩ := wipe_some z; rw [wipe_out fun y => z2 (hv j y)]; exact z1), T.keep _ _ _ st7 fun b hb o z => (pin' b hb o z).1, fun b hb => ?_, w'⟩
        obtain ⟨o, z, _⟩ := T.obj _ _ st7 b hb
        exact (pin' b hb o z).2
      cases b with
      | false =>
        simp only [Bool.false_eq_true, if_false] at q10 ⊢
        exact fin s10 H10 (I10.weak (wipe_length _ _) fun j v z => (wipe_some z).1) q10
      | true =>
        simp only [if_true] at q10 ⊢
        exact pn _ s10 σ9 H10 N1 _ _ I10 q10 fin
  exact cr.start X.A _ _ _ lp fun E => T.self X.A 0 _ _ _ st4 lp
end
end Dl
end
section
set_option Elab.async false
set_option linter.all false
set_option maxRecDepth 100000
set_option autoImplicit false
namespace Dl
open PySem PySem.Spec L2
/-- what the last clause does with what it has -/
noncomputable def bEm (M : Model) (em : Sem Unit) (A : Around) : BW := fun q E s => wpAny M A em (fun _ s' => q s') E s
section
variable {prog : Program} {w : World} {elt tg iter tg1 iter1 : Expr} {ifs ifs1 : List Expr} {gens : List Comprehension} {scope : Scope} {pos : Pos} {k : Nat} {acc : Value} {env : Env} {e : Expr} {em : Sem Unit}
/-- a kind of comprehension: its clauses, what it does with an item -/
structure Kind (prog : Program) (w : World) (e : Expr) (gens : List Comprehension) (acc : Value) (env : Env) (em : Sem Unit) : Prop where
  cls : clausesOf e = gens
  quiet : ∀ k it, (Code.compLoop e k it acc env).quiet = true
  den : ∀ k it, (model prog w).den (.compLoop e k it acc env) = (compTurn e k it acc env).onRaise (fun x => do noteFrame x env; theTreesLotGoes x)
  denS : ∀ k it, (model prog w).den (.compStart e k it acc env) = (compStart e k it acc env).onRaise (fun x => do noteFrame x env; standAt theWindowsPlace)
  under : ∀ (A : Around) k it, A.under (.compLoop e k it acc env) = A
  underS : ∀ (A : Around) k it, A.under (.compStart e k it acc env) = A
  turn : ∀ k it, compTurn e k it acc env = (do
    let some g := gens[k]? | unsupported "internal:comprehension-depth"
    standAt (if g.is_async != 0 then e.pos else g.iter.pos)
    match ← if g.is_async != 0 then asyncNext it else pyNext it with
    | none => pure (.done .next)
    | some v =>
      letOwnedTupleGo g.target it v; assign g.target env v
      let mut ok := true
      for c in g.ifs do
        if ok then ok ← isTrue c env (eval c env) else pure ()
      if ok then
        match gens[k + 1]? with
        | some g' =>
          let x ← eval g'.iter env; standAt g'.iter.pos
          let x ← if g'.is_async != 0 then foldedIterable g'.iter x else foldedSetIterable g'.iter env x
          let _ ← runOwn (.compStart e (k + 1) (← holding [x] (if g'.is_async != 0 then asyncIter x else pyIter x)) acc env) env
        | none => em
      again (.compLoop e k it acc env))
theorem Kind.list : Kind prog w (.ListComp elt gens scope pos) gens acc env (do let _ ← call (.builtin "list.append") [acc, ← eval elt env]) where
  cls := rfl
  quiet _ _ := rfl
  den _ _ := rfl
  denS _ _ := rfl
  under _ _ _ := rfl
  underS _ _ _ := rfl
  turn k it := by
    unfold compTurn
    rfl
theorem Kind.set : Kind prog w (.SetComp elt gens scope pos) gens acc env (do let v ← eval elt env; standAt elt.pos; let _ ← call (.builtin "set.add") [acc, v]) where
  cls := rfl
  quiet _ _ := rfl
  den _ _ := rfl
  denS _ _ := rfl
  under _ _ _ := rfl
  underS _ _ _ := rfl
  turn k it := by
    unfold compTurn
    rfl
theorem Kind.dict {d : Addr} {kx : Expr} : Kind prog w (.DictComp kx elt gens scope pos) gens (.ref d) env (do let kv ← eval kx env; let vv ← holding [kv] (eval elt env); standAt { kx.pos with endLine := elt.pos.endLine, endCol := elt.pos.endCol }; holding [kv, vv] (dictSet d kv vv)) where
  cls := rfl
  quiet _ _ := rfl
  den _ _ := rfl
  denS _ _ := rfl
  under _ _ _ := rfl
  underS _ _ _ := rfl
  turn k it := by
    unfold compTurn
    rfl
theorem Kind.start (C : Kind prog w e gens acc env em) {A : Around} {it : Value} {R : Result → Shared → Prop} {s : Shared} (hk : gens[k]? = some ⟨tg, iter, ifs, 0⟩) (h0 : codeAny (model prog w) A (.compLoop e k it acc env) R s)
    (h : ∀ E : Value → Shared → Prop, wpAny (model prog w) A (pyIter it) (fun it' s' => codeAny (model prog w) A (.compLoop e k it' acc env) R s') E s) : codeAny (model prog w) A (.compStart e k it acc env) R s := by
  refine codeAny_of_tree ?_
  rw [C.denS, C.underS]
  refine wpAny_notedAt ?_
  unfold compStart
  rw [C.cls, hk]
  show wpAny _ _ (ask >>= _) _ _ s
  refine wpAny_bind (wpAny_askSetting (wpAny_ite ?_))
  split
  · exact wpAny_bind (wpAny_pure (wpAny_pure ⟨C.quiet _ _, h0⟩))
  · refine wpAny_bind (wpAny_rule ?_)
    show wpAny _ _ (standAt iter.pos >>= _) _ _ s
    exact wpAny_bind (wpAny_standAt (wpAny_bind (wpAny_mono (h _) (fun it' s' h' => wpAny_pure ⟨C.quiet _ _, h'⟩) fun _ _ z => z)))
theorem Kind.last (C : Kind prog w e gens acc env em) (hk : gens[k]? = some ⟨tg, iter, ifs, 0⟩) (hk1 : gens[k + 1]? = none) : CompR prog w e k tg ifs acc env (bEm (model prog w) em) where
  quiet := C.quiet k
  den := C.den k
  under A := C.under A k
  start A it R s h0 h := C.start hk h0 h
  turn A it Q E s h := by
    rw [C.turn, hk, hk1]
    refine wpAny_bind (wpAny_standAt (wpAny_bind (wpAny_mono h (fun r s1 h1 => ?_) fun _ _ z => z)))
    cases r with
    | none => exact wpAny_pure h1
    | some v =>
      refine wpAny_bind (wpAny_mono h1 (fun _ s2 h2 => wpAny_bind (wpAny_mono h2 (fun _ s3 h3 => wpAny_bind (wpAny_mono h3 (fun ok s4 h4 => ?_) fun _ _ z => z)) fun _ _ z => z)) fun _ _ z => z)
      cases ok with
      | false => exact wpAny_pure h4
      | true =>
        have h4 : bEm (model prog w) em A _ E s4 := h4
        exact wpAny_bind (wpAny_mono h4 (fun _ s5 h5 => wpAny_pure h5) fun _ _ z => z)
theorem Kind.inn (C : Kind prog w e gens acc env em) (hk : gens[k]? = some ⟨tg, iter, ifs, 0⟩) (hk1 : gens[k + 1]? = some ⟨tg1, iter1, ifs1, 0⟩) (hs : ∀ x, foldedSetIterable iter1 env x = pure x) : CompR prog w e k tg ifs acc env (fun A => bIn (model prog w) A e (k + 1) iter1 acc env) where
  quiet := C.quiet k
  den := C.den k
  under A := C.under A k
  start A it R s h0 h := C.start hk h0 h
  turn A it Q E s h := by
    rw [C.turn, hk, hk1]
    refine wpAny_bind (wpAny_standAt (wpAny_bind (wpAny_mono h (fun r s1 h1 => ?_) fun _ _ z => z)))
    cases r with
    | none => exact wpAny_pure h1
    | some v =>
      refine wpAny_bind (wpAny_mono h1 (fun _ s2 h2 => wpAny_bind (wpAny_mono h2 (fun _ s3 h3 => wpAny_bind (wpAny_mono h3 (fun ok s4 h4 => ?_) fun _ _ z => z)) fun _ _ z => z)) fun _ _ z => z)
      cases ok with
      | false => exact wpAny_pure h4
      | true =>
        have h4 : bIn (model prog w) A e (k + 1) iter1 acc env _ E s4 := h4
        refine wpAny_bind (wpAny_mono h4 (fun x s5 h5 => ?_) fun _ _ z => z)
        refine wpAny_bind (wpAny_standAt (wpAny_bind (wpAny_of_eq (hs x) (wpAny_bind (wpAny_holding (wpAny_mono h5 (fun it1 s6 h6 => ?_) fun _ _ z => z))))))
        refine wpAny_bind (wpAny_runOwn ?_)
        rw [Around.mark_none]
        refine codeAny_mono h6 fun r s7 h7 => ?_
        cases r with
        | ok f => first | exact wpAny_pure h7 | exact wpAny_bind (wpAny_pure (wpAny_pure h7))
        | error x => exact h7.elim
end
end Dl
end
section
set_option Elab.async false
set_option linter.all false
set_option maxRecDepth 100000
set_option autoImplicit false
namespace Dl
open PySem PySem.Spec L2
/-- a clause's tail as a function of data: the slots, what is made so far, the store -/
noncomputable abbrev FK (α : Type) := En → α → Sto → Option (α × Sto)
open Classical in
noncomputable def clL {α : Type} (ok : Sto → Prop) (tgt : FG) (cond : FT) (env0 : En) (k : FK α) : List D → α → Sto → Option (α × Sto)
  | [], acc, st => if ok st then some (acc, st) else none
  | d :: r, acc, st => if ok st then (match tgt d env0 st with
    | some (env1, st1) => match cond env1 st1 with
      | some (.ok true st2) => match k env1 acc st2 with
        | some (acc', st3) => clL ok tgt cond env0 k r acc' st3
        | none => none
      | some (.ok false st2) => clL ok tgt cond env0 k r acc st2
      | _ => none
    | none => none) else none
noncomputable def clS {α : Type} (ws : List Nat) (fi : FI) (tgt : FG) (cond : FT) (k : FK α) : FK α := fun env acc st => match fi env st with
  | some (.ok it st1) => clL it.ok tgt cond (wipeE env ws) k it.items acc st1
  | _ => none
/-- what is made, at the address b, since the start -/
structure MidG {α : Type} (K : PySem.W.Frag) (mg : Str → Option Value) (AR : List Addr → Hp → HO → α → Prop) (as1 : List Addr) (F1 H1 : Hp) (b : Addr) (as : List Addr) (F : Hp) (st : Sto) (H : Hp) (acc : α) : Prop where
  xt : Xt as1 F1 as F
  kp : Kp as1 F1 H1 as F H
  frm : Frm K mg as F st H
  nF : F b = none
  nA : b ∉ as
  at_ : ∃ o, H b = some o ∧ AR as F o acc
structure ARm {α : Type} (AR : List Addr → Hp → HO → α → Prop) : Prop where
  run : ∀ (as as' : List Addr) (F F' : Hp) (o : HO) (acc : α), Xt as F as' F' → AR as F o acc → AR as' F' o acc
section
variable {α : Type} {K : PySem.W.Frag} {mg : Str → Option Value} {AR : List Addr → Hp → HO → α → Prop} {as1 as as' : List Addr} {F1 H1 F H F' H' : Hp} {st st' : Sto} {b : Addr} {acc acc' : α} {o : HO}
theorem MidG.go (mono : ARm AR) (m : MidG K mg AR as1 F1 H1 b as F st H acc) (x : Go K mg as F H as' F' st' H') : MidG K mg AR as1 F1 H1 b as' F' st' H' acc := by
  obtain ⟨o, h1, h2⟩ := m.at_
  obtain ⟨e1, e2, e3⟩ := x.kp b _ h1 m.nF m.nA
  exact ⟨m.xt.trans x.xt, m.kp.trans x.kp, x.frm, e2, e3, o, e1, mono.run _ _ _ _ _ _ x.xt h2⟩
theorem MidG.put (hb : H1 b = none) (m : MidG K mg AR as1 F1 H1 b as F st H acc) (r : AR as F o acc') : MidG K mg AR as1 F1 H1 b as F st (upd H b o) acc' := by
  refine ⟨m.xt, fun c u h1 h2 h3 => ?_, m.frm.other m.nF m.nA, m.nF, m.nA, o, upd_same, r⟩
  obtain ⟨e1, e2, e3⟩ := m.kp c u h1 h2 h3
  exact ⟨by rw [upd_ne (ne_of_none h1 hb)]; exact e1, e2, e3⟩
theorem MidG.start (fr : Frm K mg as1 F1 st H1) (hb : H1 b = none) (r : AR as1 F1 o acc) : MidG K mg AR as1 F1 H1 b as1 F1 st (upd H1 b o) acc := by
  obtain ⟨h1, h2⟩ := fr.fresh hb
  refine ⟨Xt.rfl', (Go.grow fr hb).kp, (Go.grow fr hb).frm, h1, fun z => ?_, o, upd_same, r⟩
  obtain ⟨i, hi, e⟩ := List.mem_iff_getElem.mp z
  exact h2 i (by rw [List.getElem?_eq_getElem hi, e])
/-- what is wanted of a tail, at the layer -/
noncomputable def tK (K : PySem.W.Frag) (mg : Str → Option Value) (AR : List Addr → Hp → HO → α → Prop) (as1 : List Addr) (F1 H1 : Hp) (b : Addr) (f : FK α) : TNx := fun σ H Nx =>
  ∃ as F env st acc acc' st', MidG K mg AR as1 F1 H1 b as F st H acc ∧ ER K mg as F σ env ∧ f env acc st = some (acc', st') ∧ ∀ as' F' H', MidG K mg AR as1 F1 H1 b as' F' st' H' acc' → Xt as F as' F' → Nx H'
/-- a clause's loop -/
theorem cl_loop {asA : List Addr} {FA : Hp} {accE : α} {stE : Sto} {ws : List Nat} {J : It} {it : ItD} {g : FG} {cond : FT} {k : FK α} {σ : St} {env : En} {Nx0 : Hp → Prop} (mono : ARm AR)
    (r1 : rIt K mg asA FA J it) (er : ER K mg asA FA σ env) (md : MidG K mg AR as1 F1 H1 b as F st H acc) (xA : Xt asA FA as F) (e : clL it.ok g cond (wipeE env ws) k it.items acc st = some (accE, stE)) (fin : ∀ as F H, MidG K mg AR as1 F1 H1 b as F stE H accE → Xt asA FA as F → Nx0 H) :
    ∃ Wv : Nat → Nat → Hp → Prop, (∃ m, Wv 0 m H) ∧ ∀ i m H, Wv i m H → (J.stop i H ∧ Nx0 H) ∨ (J.go i H ∧ ∃ Nx : Hp → Prop, (∀ H', Nx H' → ∃ m', m' < m ∧ Wv (i + 1) m' H') ∧ ∀ x H', J.yld i H x H' → tG K mg ws g x (L2.wipe σ ws) H' fun σ2 H2 => L2.wipe σ2 ws = L2.wipe σ ws ∧ tDT K mg W0 cond σ2 H2 fun b' H3 =>
      if b' = true then tK K mg AR as1 F1 H1 b k σ2 H3 Nx else Nx H3) := by
  refine ⟨fun i m H => m = it.items.length - i ∧ i ≤ it.items.length ∧ ∃ as F st acc, MidG K mg AR as1 F1 H1 b as F st H acc ∧ Xt asA FA as F ∧ clL it.ok g cond (wipeE env ws) k (it.items.drop i) acc st = some (accE, stE), ⟨it.items.length, by simp, Nat.zero_le _, as, F, st, acc, md, xA, by simpa using e⟩, ?_⟩
  clear e xA md
  rintro i m H2 ⟨rfl, hi, as2, F2, st2, acc, md, xA, e2⟩
  by_cases hlt : i < it.items.length
  · have ed : it.items.drop i = it.items[i] :: it.items.drop (i + 1) := List.drop_eq_getElem_cons hlt
    rw [ed] at e2
    unfold clL at e2
    split at e2
    · rename_i ok
      obtain ⟨g1, g2, g3⟩ := r1 as2 F2 st2 H2 xA md.frm ok
      split at e2
      · rename_i env3 st3 q3
        refine .inr ⟨g1 i hlt, fun H' => ∃ as F st acc, MidG K mg AR as1 F1 H1 b as F st H' acc ∧ Xt asA FA as F ∧ clL it.ok g cond (wipeE env ws) k (it.items.drop (i + 1)) acc st = some (accE, stE), fun H' ⟨as', F', st', acc', m', x', e'⟩ => ⟨it.items.length - (i + 1), by omega, rfl, hlt, as', F', st', acc', m', x', e'⟩, fun x H' hy => ?_⟩
        obtain ⟨d, F', ed', x3, rp⟩ := g3 i x H' hy hlt
        have ed2 : d = it.items[i] := by rw [List.getElem?_eq_getElem hlt] at ed'; exact (Option.some.inj ed').symm
        subst ed2
        have m3 := md.go mono x3
        refine ⟨as2, F', wipeE env ws, st2, _, x3.frm, (er.mono (xA.trans x3.xt)).wipe ws, rp, env3, st3, q3, fun as4 F4 σ4 H4 x4 er4 hw => ⟨by rw [hw]; exact wipe_idem ws σ, ?_⟩⟩
        have m4 := m3.go mono x4
        have xB := (xA.trans x3.xt).trans x4.xt
        refine ⟨as4, F4, env3, st3, x4.frm, er4, ?_⟩
        cases q5 : cond env3 st3 with
        | none => rw [q5] at e2; cases e2
        | some z =>
          rw [q5] at e2
          cases z with
          | ex c ns ds s => cases e2
          | ok c s =>
            refine ⟨_, rfl, fun as5 F5 H5 v x5 rv => ?_⟩
            have rv : v = c := rv
            subst rv
            have m5 := m4.go mono x5
            cases v with
            | false => exact L2.iteF ⟨as5, F5, s, acc, m5, xB.trans x5.xt, e2⟩
            | true =>
              refine L2.iteT ?_
              simp only at e2
              split at e2
              · rename_i acc6 s6 q6
                exact ⟨as5, F5, env3, s, acc, acc6, s6, m5, er4.mono x5.xt, q6, fun as6 F6 H6 m6 x6 => ⟨as6, F6, s6, acc6, m6, (xB.trans x5.xt).trans x6, e2⟩⟩
              · cases e2
      · cases e2
    · cases e2
  · have ei : i = it.items.length := by omega
    subst ei
    rw [List.drop_length] at e2
    unfold clL at e2
    split at e2
    · rename_i ok
      cases e2
      obtain ⟨g1, g2, g3⟩ := r1 as2 F2 stE H2 xA md.frm ok
      exact .inl ⟨g2 _ rfl, fin as2 F2 H2 md xA⟩
    · cases e2
theorem PNx.imp {X : Cx} {B : BW} {ws : List Nat} {t t' : TNx} (h : PNx X B ws t) (i : ∀ σ H Nx, t' σ H Nx → t σ H Nx) : PNx X B ws t' := fun pins s σ H Nx q E I w => h pins s σ H Nx q E I (i σ H Nx w)
/-- a clause within -/
theorem dk_in {X : Cx} {e iter tg : Expr} {k : Nat} {ifs : List Expr} {D : Addr} {B : Around → BW} {vs ws : List Nat} {fi : FI} {g : FG} {cond : FT} {f : FK α} (mono : ARm AR) (hc : X.calm = true) (hx : X.xe = fun _ _ => False) (C : CompR X.prog X.w e k tg ifs (.ref D) X.env B)
    (hi : DI X W0 tg iter fi) (hg : DG X vs tg g) (ht : DTs X W0 ifs cond) (hn : PNx X (B X.A) ws (tK X.K X.mg AR as1 F1 H1 b f)) (hv : ∀ i ∈ ws, i ∈ vs) : PNx X (bIn (model X.prog X.w) X.A e k iter (.ref D) X.env) vs (tK X.K X.mg AR as1 F1 H1 b (clS vs fi g cond f)) := by
  refine (pnx_in (vs := vs) hc hx C hi hg ht hn hv).imp fun σ H Nx ⟨as, F, env, st, acc, acc', st', md, er, ef, q⟩ => ?_
  unfold clS at ef
  cases q1 : fi env st with
  | none => rw [q1] at ef; cases ef
  | some z =>
    rw [q1] at ef
    cases z with
    | ex c ns ds s => cases ef
    | ok it st1 =>
      simp only at ef
      refine ⟨as, F, env, st, md.frm, er, ⟨_, q1, fun as2 F2 H2 J x2 r2 => ?_⟩⟩
      have r2 : rIt X.K X.mg as2 F2 J it := r2
      exact cl_loop mono r2 (er.mono x2.xt) (md.go mono x2) Xt.rfl' ef fun as3 F3 H3 m3 x3 => q as3 F3 H3 m3 (x2.xt.trans x3)
end
end Dl
end
section
set_option Elab.async false
set_option linter.all false
set_option maxRecDepth 100000
set_option autoImplicit false
namespace Dl
open PySem PySem.Spec L2
section
variable {X : Cx} {Q : VK} {e iter tg : Expr} {gs : List Comprehension} {ifs : List Expr} {scope : Scope} {own : List (Str × Nat)} {pos' : Pos} {B : Addr → Env → Around → BW} {t : Addr → TNx} {wi : TI} {g : TG} {tt : TT} {ws : List Nat} {ob : Obj} {o0 : Addr → HO} {newAcc : Sem Value}
/-- all that a comprehension wants, but its walk -/
structure CompOk (X : Cx) (e iter tg : Expr) (ifs : List Expr) (scope : Scope) (own : List (Str × Nat)) (newAcc : Sem Value) (o0 : Addr → HO) (wi : TI) (g : TG) (tt : TT) (t : Addr → TNx) : Prop where
  core : ∀ {pins : List (Addr × Obj)} {s : Shared} {σ : St} {H : Hp} {Q : VK} {pos' : Pos} {use : Option (Value → Sem Unit)} {Qf : Value → Shared → Prop}, Inv X pins σ H s → tComp o0 wi g tt (own.map (·.2)) t σ H Q →
    (∀ D C s' m H', Inv X pins σ H' s' → Q (.ref D) H' → s'.heap.Ns C m → FpOk X pins H' C → compPost (model X.prog X.w) X.A X.xe use Qf (.ref D) C (.ok .next) s') →
    wpAny (model X.prog X.w) X.A (comprehension e scope X.env pos' newAcc false (eval iter X.env) use) Qf X.xe s
theorem CompOk.of (hc : X.calm = true) (hN : X.N.Nodup) (hcl : clausesOf e = ⟨tg, iter, ifs, 0⟩ :: gs) (hi : PI X tg iter wi) (ok : BlkOk X.N X.env.scope scope own)
    (hnew : ∀ (Q : Value → Shared → Prop) (E : Value → Shared → Prop) (s : Shared), Q (.ref s.heap.objs.size) { s with heap := s.heap.push ob } → wpAny (model X.prog X.w) X.A newAcc Q E s)
    (hfr : ob.isFreed = false) (hob : ∀ (H : Hp) (h : Heap), ObjOk X.prog X.w H (h.push ob) h.objs.size (o0 h.objs.size))
    (hg : ∀ (s : Shared) (H : Hp) (C : Addr) (cl : List (Str × Addr)) (fp : List Addr), PG (X.blk s H scope (compEnvC scope cl C X.env) fp) tg g)
    (ht : ∀ (s : Shared) (H : Hp) (C : Addr) (cl : List (Str × Addr)) (fp : List Addr), PTs (X.blk s H scope (compEnvC scope cl C X.env) fp) ifs tt)
    (hn : ∀ (s : Shared) (H : Hp) (C : Addr) (cl : List (Str × Addr)) (fp : List Addr) (D : Addr), PNx (X.blk s H scope (compEnvC scope cl C X.env) fp) (B D (compEnvC scope cl C X.env) X.A) ws (t D))
    (hR : ∀ (D C : Addr) (cl : List (Str × Addr)), CompR X.prog X.w e 0 tg ifs (.ref D) (compEnvC scope cl C X.env) (B D (compEnvC scope cl C X.env)))
    (hv : ∀ i ∈ ws, i ∈ own.map (·.2)) (hs : ∀ x, foldedSetIterable iter X.env x = pure x) : CompOk X e iter tg ifs scope own newAcc o0 wi g tt t :=
  ⟨fun I h hRR => comp_core hc hN I hcl hi ok hnew hfr hob hg ht hn hR hv hs h hRR⟩
/-- y = .. -/
theorem ps_setComp {i : Nat} {y : Str} {py spos : Pos} (C : CompOk X e iter tg ifs scope own newAcc o0 wi g tt t) (hN : X.N.Nodup) (hy : X.N[i]? = some y) (hyl : X.env.scope.names.lookup y = some .local) (hsw : swapsWith e (some (.Name y py)) spos.line X.env = pure true)
    (he : ∃ pos', evalThenUse e X.env (assign (.Name y py) X.env) = (do let _ ← comprehension e scope X.env pos' newAcc false (eval iter X.env) (some (assign (.Name y py) X.env)))) :
    PS X (.Assign [.Name y py] e spos) (tAsg (tComp o0 wi g tt (own.map (·.2)) t) (gName i)) := by
  refine ⟨fun pins s σ H D I h => ?_⟩
  obtain ⟨pos', he⟩ := he
  rw [exec_Assign_Name_used _ _ _ _ hsw, he]
  refine wpAny_bind (wpAny_standAt (wpAny_bind ?_))
  have h : tComp o0 wi g tt (own.map (·.2)) t σ H (fun x H1 => gName i x σ H1 D.nx) := h
  refine wpAny_bind (thn (C.core (Qf := fun _ s' => SP X pins D .next s') I h fun L C s' m H' I' q hn f => ?_) fun _ s' hq => wpAny_pure (wpAny_pure hq))
  show wpAny _ _ (assign (.Name y py) X.env (.ref L)) _ _ _
  refine wpAny_assign_Name (store_ok2 (v := V.ref L) I' hN hy (.inl hyl) rfl (fun s2 I2 ⟨a, sb, ha⟩ => ?_) (.inr hyl))
  obtain ⟨f0, f1, f2, f3, f4, f5⟩ := f
  have haC : C ≠ a := by
    rcases ha with z | z
    · rw [z]; exact f1
    · exact fun z2 => f4 y a z z2.symm
  refine ⟨m, hn.sameBut sb haC, fun h3 sb3 => ?_⟩
  exact ⟨_, H', I2.turned (t' := s2.toks) (fun b o hb z => (sb3.2 b hb).trans z) f0 f1 f3 f4 f5, q⟩
end
/-! ### lists -/
section
variable {K : PySem.W.Frag} {mg : Str → Option Value}
noncomputable def arL (K : PySem.W.Frag) (mg : Str → Option Value) : List Addr → Hp → HO → List D → Prop := fun as F o acc => ∃ xs, o = .lst xs ∧ Reps K mg as F xs acc
theorem arL_m : ARm (arL K mg) := ⟨fun as as' F F' o acc x ⟨xs, h1, h2⟩ => ⟨xs, h1, h2.mono x⟩⟩
noncomputable def eL (fe : FE) : FK (List D) := fun env acc st => match fe env st with
  | some (.ok y st') => if acc.length < sizeLine then some (acc ++ [y], st') else none
  | _ => none
theorem dk_list {X : Cx} {elt : Expr} {fe : FE} {as1 : List Addr} {F1 H1 : Hp} {b : Addr} (hb : H1 b = none) (hx : X.xe = fun _ _ => False) (he : DE X W0 elt fe) :
    PNx X (bEm (model X.prog X.w) (do let _ ← call (.builtin "list.append") [.ref b, ← eval elt X.env]) X.A) [] (tK X.K X.mg (arL X.K X.mg) as1 F1 H1 b (eL fe)) := by
  intro pins s σ H Nx q E I ⟨as, F, env, st, acc, acc', st', md, er, ef, qq⟩ hq
  unfold eL at ef
  cases q1 : fe env st with
  | none => rw [q1] at ef; cases ef
  | some z =>
    rw [q1] at ef
    cases z with
    | ex c ns ds s => cases ef
    | ok y st2 =>
      simp only at ef
      split at ef
      · rename_i hsz
        cases ef
        have h2 : tD X.K X.mg W0 fe σ H (fun v H' => ∃ as2 F2 xs, Go X.K X.mg as F H as2 F2 st' H' ∧ Rep X.K X.mg as2 F2 v y ∧ H' b = some (.lst xs) ∧ Reps X.K X.mg as2 F2 xs acc) := by
          refine ⟨as, F, env, st, md.frm, er, _, q1, fun as2 F2 H2 v x2 rv => ?_⟩
          obtain ⟨o, e1, xs, e2, e3⟩ := (md.go arL_m x2).at_
          subst e2
          exact ⟨as2, F2, xs, x2, rv, e1, e3⟩
        refine wpAny_bind (wpAny_mono (he.run pins s σ H _ I h2) (fun u s1 ⟨v, H2, I2, rv, as2, F2, xs, x2, rp, e1, e3⟩ => ?_) fun _ _ z => by rw [hx] at z; exact z.elim)
        refine wpAny_bind (app_ok I2 e1 (by rw [e3.length]; exact hsz) rv fun s2 I3 => wpAny_pure ?_)
        exact hq s2 _ I3 (qq as2 F2 _ ((md.go arL_m x2).put hb ⟨_, rfl, e3.append (.cons rp .nil)⟩) x2.xt)
      · cases ef
noncomputable def fComp {α : Type} (ws : List Nat) (fi : FI) (tgt : FG) (cond : FT) (k : FK α) (a0 : α) (fin : α → FE) : FE := fBind fi fun it env st => match clL it.ok tgt cond (wipeE env ws) k it.items a0 st with
  | some (acc, st') => fin acc env st'
  | none => none
/-- the reading -/
theorem comp_read {α : Type} {W : WX} {AR : Addr → List Addr → Hp → HO → α → Prop} {ws : List Nat} {fi : FI} {g : FG} {cond : FT} {k : FK α} {a0 : α} {fin : α → FE} {o0 : Addr → HO} {σ : St} {H : Hp} {Q Q' : VK} {t : Addr → TNx} (mono : ∀ b, ARm (AR b)) (h0 : ∀ b as F, AR b as F (o0 b) a0)
    (ht : ∀ b as1 F1 H1 σ H Nx, H1 b = none → tK K mg (AR b) as1 F1 H1 b k σ H Nx → t b σ H Nx)
    (hd : ∀ as1 F1 H1 env st1 b as F st H acc, H1 b = none → MidG K mg (AR b) as1 F1 H1 b as F st H acc → AtR K mg (Rep K mg) W (fun env _ => fin acc env st) as1 F1 env st1 σ H1 Q → Q' (.ref b) H) (h : tD K mg W (fComp ws fi g cond k a0 fin) σ H Q) :
    tComp o0 (tR K mg (rIt K mg) W fi) (tG K mg ws g) (tDT K mg W0 cond) ws t σ H Q' := by
  obtain ⟨as, F, env, st, h⟩ := h
  refine h.bind fun as1 F1 st1 it J H1 _ x1 r1 h1 => ?_
  have r1 : rIt K mg as1 F1 J it := r1
  intro b hb
  obtain ⟨fr1, er1, o, eo, po⟩ := id h1
  cases qa : clL it.ok g cond (wipeE env ws) k it.items a0 st1 with
  | none => simp only [qa] at eo; cases eo
  | some z =>
    obtain ⟨accE, stE⟩ := z
    obtain ⟨Wv, w1, w2⟩ := cl_loop (mono b) r1 er1 (MidG.start fr1 hb (h0 b as1 F1)) Xt.rfl' qa (Nx0 := Q' (.ref b)) fun as2 F2 H2 md _ => hd as1 F1 H1 env st1 b as2 F2 stE H2 accE hb md (h1.congr (by simp only [qa]))
    refine ⟨Wv, w1, fun i m H w => ?_⟩
    rcases w2 i m H w with z | ⟨z1, Nx, z2, z3⟩
    · exact .inl z
    · refine .inr ⟨z1, Nx, z2, fun x H' hy => ?_⟩
      obtain ⟨a1, a2, a3, a4, a5, b1, b2, b3, b4, b5, b6, b7⟩ := z3 x H' hy
      refine ⟨a1, a2, a3, a4, a5, b1, b2, b3, b4, b5, b6, fun as6 F6 σ6 H6 x6 er6 hw6 => ?_⟩
      obtain ⟨c1, c2⟩ := b7 as6 F6 σ6 H6 x6 er6 hw6
      refine ⟨c1, ?_⟩
      obtain ⟨d1, d2, d3, d4, d5, d6, r7, d7, d8⟩ := c2
      refine ⟨d1, d2, d3, d4, d5, d6, r7, d7, ?_⟩
      cases r7 with
      | ex c ns ds s => exact d8
      | ok v s7 =>
        refine fun as8 F8 H8 v8 x8 rv8 => ?_
        have d9 := d8 as8 F8 H8 v8 x8 rv8
        cases v8 with
        | false => exact d9
        | true =>
          simp only [if_true] at d9 ⊢
          exact ht b as1 F1 H1 _ _ _ hb d9
end
end Dl
end
section
set_option Elab.async false
set_option linter.all false
set_option maxRecDepth 100000
set_option autoImplicit false
namespace Dl
open PySem PySem.Spec L2
section
variable {X : Cx} {W : WX} {elt tg iter : Expr} {ifs : List Expr} {gs : List Comprehension} {scope : Scope} {ov : List (Str × Nat)} {pos : Pos} {fi : FI} {g : FG} {cond : FT} {ws : List Nat} {own : Bool} {f : FK (List D)} {B : Addr → Env → Around → BW}
theorem midL {K : PySem.W.Frag} {mg : Str → Option Value} {as1 as : List Addr} {F1 H1 F H : Hp} {st : Sto} {b : Addr} {acc : List D} (m : MidG K mg (arL K mg) as1 F1 H1 b as F st H acc) : Mid K mg as1 F1 H1 b as F st H acc := by
  obtain ⟨o, h1, xs, rfl, h2⟩ := m.at_
  exact ⟨m.xt, m.kp, m.frm, m.nF, m.nA, xs, h1, h2⟩
noncomputable abbrev ceOf (X : Cx) (scope : Scope) (C : Addr) (cl : List (Str × Addr)) : Env := compEnvC scope cl C X.env
/-- the tail of a comprehension, in its block -/
noncomputable abbrev Tail (X : Cx) (scope : Scope) {α : Type} (AR : Addr → List Addr → Hp → HO → α → Prop) (B : Addr → Env → Around → BW) (ws : List Nat) (f : FK α) : Prop :=
  ∀ (s : Shared) (H : Hp) (C : Addr) (cl : List (Str × Addr)) (fp : List Addr) (D : Addr) (as1 : List Addr) (F1 H1 : Hp), H1 D = none → PNx (X.blk s H scope (ceOf X scope C cl) fp) (B D (ceOf X scope C cl) X.A) ws (tK X.K X.mg (AR D) as1 F1 H1 D f)
/-- all of it for a list -/
theorem compL (hN : X.N.Nodup) (hi : DI X W tg iter fi) (ok : BlkOk X.N X.env.scope scope ov)
    (hg : ∀ (s : Shared) (H : Hp) (C : Addr) (cl : List (Str × Addr)) (fp : List Addr), DG (X.blk s H scope (ceOf X scope C cl) fp) (ov.map (·.2)) tg g) (ht : ∀ (s : Shared) (H : Hp) (C : Addr) (cl : List (Str × Addr)) (fp : List Addr), DTs (X.blk s H scope (ceOf X scope C cl) fp) W0 ifs cond)
    (hn : Tail X scope (fun _ => arL X.K X.mg) B ws f) (hR : ∀ (D C : Addr) (cl : List (Str × Addr)), CompR X.prog X.w (.ListComp elt (⟨tg, iter, ifs, 0⟩ :: gs) scope pos) 0 tg ifs (.ref D) (ceOf X scope C cl) (B D (ceOf X scope C cl)))
    (hv : ∀ i ∈ ws, i ∈ ov.map (·.2)) (hc : X.calm = true) (hs : ∀ x, foldedSetIterable iter X.env x = pure x) :
    CompOk X (.ListComp elt (⟨tg, iter, ifs, 0⟩ :: gs) scope pos) iter tg ifs scope ov (newList []) (fun _ => .lst []) (tR X.K X.mg (rIt X.K X.mg) W fi) (tG X.K X.mg (ov.map (·.2)) g) (tDT X.K X.mg W0 cond) (fun b σ H Nx => ∃ as1 F1 H1, H1 b = none ∧ tK X.K X.mg (arL X.K X.mg) as1 F1 H1 b f σ H Nx) := by
  refine CompOk.of (ws := ws) (B := B) (ob := { cls := .type "list", data := .seq ([] : List Value).toArray }) hc hN rfl hi ok (fun Q E s h => wpAny_newObj_type h (by show 0 ≤ sizeLine; decide)) rfl (fun H h => ⟨Nat.zero_le _, [], 0, .nil, Heap.get?_push_size _ rfl⟩) hg ht (fun s H C cl fp D => ?_) hR hv hs
  intro pins s' σ H' Nx q E I ⟨as1, F1, H1, hb, h⟩ hq
  exact hn s H C cl fp D as1 F1 H1 hb pins s' σ H' Nx q E I h hq
theorem readL {σ : St} {H : Hp} {Q : VK} (h : tD X.K X.mg W (fComp (ov.map (·.2)) fi g cond f [] (fun acc => fNew own (.lst acc))) σ H Q) : tComp (fun _ => .lst []) (tR X.K X.mg (rIt X.K X.mg) W fi) (tG X.K X.mg (ov.map (·.2)) g) (tDT X.K X.mg W0 cond) (ov.map (·.2)) (fun b σ H Nx => ∃ as1 F1 H1, H1 b = none ∧ tK X.K X.mg (arL X.K X.mg) as1 F1 H1 b f σ H Nx) σ H Q :=
  comp_read (AR := fun _ => arL X.K X.mg) (fun _ => arL_m) (fun _ _ _ => ⟨[], rfl, .nil⟩) (fun b as1 F1 H1 σ H Nx hb h => ⟨as1, F1, H1, hb, h⟩) (fun as1 F1 H1 env st1 b as F st H acc hb md h => (midL md).done hb h rfl) h
theorem ds_setCompL (i : Nat) {y : Str} {py spos : Pos} (hN : X.N.Nodup) (hsw : swapsWith (.ListComp elt (⟨tg, iter, ifs, 0⟩ :: gs) scope pos) (some (.Name y py)) spos.line X.env = pure true) (hi : DI X W tg iter fi) (ok : BlkOk X.N X.env.scope scope ov)
    (hg : ∀ (s : Shared) (H : Hp) (C : Addr) (cl : List (Str × Addr)) (fp : List Addr), DG (X.blk s H scope (ceOf X scope C cl) fp) (ov.map (·.2)) tg g) (ht : ∀ (s : Shared) (H : Hp) (C : Addr) (cl : List (Str × Addr)) (fp : List Addr), DTs (X.blk s H scope (ceOf X scope C cl) fp) W0 ifs cond)
    (hn : Tail X scope (fun _ => arL X.K X.mg) B ws f) (hR : ∀ (D C : Addr) (cl : List (Str × Addr)), CompR X.prog X.w (.ListComp elt (⟨tg, iter, ifs, 0⟩ :: gs) scope pos) 0 tg ifs (.ref D) (ceOf X scope C cl) (B D (ceOf X scope C cl)))
    (hv : ∀ i ∈ ws, i ∈ ov.map (·.2) := by decide) (hy : X.N[i]? = some y := by rfl) (hyl : X.env.scope.names.lookup y = some .local := by rfl) (hc : X.calm = true := by rfl) (hs : ∀ x, foldedSetIterable iter X.env x = pure x := by intro _; rfl) :
    DS X W (.Assign [.Name y py] (.ListComp elt (⟨tg, iter, ifs, 0⟩ :: gs) scope pos) spos) (sAsg (fComp (ov.map (·.2)) fi g cond f [] (fun acc => fNew own (.lst acc))) (gSet i)) := by
  refine ps_imp (ps_setComp (compL hN hi ok hg ht hn hR hv hc hs) hN hy hyl hsw ⟨_, rfl⟩) fun E σ H ⟨as, F, env, st, h⟩ => ?_
  refine readL (W := W) (own := own) (X := X) ?_
  refine h.bind fun as1 F1 st1 d v H1 _ x1 r1 h1 => ?_
  exact h1.fin rfl as1 F1 _ H1 (Go.rfl h1.frm) (h1.er.set r1)
end
end Dl
end
section
set_option Elab.async false
set_option linter.all false
set_option maxRecDepth 100000
set_option autoImplicit false
namespace Dl
open PySem PySem.Spec L2
section
variable {X : Cx} {W : WX} {elt tg iter tg1 iter1 tg2 iter2 : Expr} {ifs ifs1 ifs2 : List Expr} {scope : Scope} {ov : List (Str × Nat)} {pos : Pos} {fi fi1 fi2 : FI} {g g1 g2 : FG} {cond cond1 cond2 : FT} {ws1 ws2 : List Nat} {own : Bool} {fe : FE}
/-- a block of the comprehension -/
noncomputable abbrev Blk (X : Cx) (scope : Scope) (P : Cx → Prop) : Prop := ∀ (s : Shared) (H : Hp) (C : Addr) (cl : List (Str × Addr)) (fp : List Addr), P (X.blk s H scope (ceOf X scope C cl) fp)
theorem tail3 (hi1 : Blk X scope fun Y => DI Y W0 tg1 iter1 fi1) (hg1 : Blk X scope fun Y => DG Y ws1 tg1 g1) (ht1 : Blk X scope fun Y => DTs Y W0 ifs1 cond1) (hi2 : Blk X scope fun Y => DI Y W0 tg2 iter2 fi2) (hg2 : Blk X scope fun Y => DG Y ws2 tg2 g2) (ht2 : Blk X scope fun Y => DTs Y W0 ifs2 cond2)
    (he : Blk X scope fun Y => DE Y W0 elt fe) (hv1 : ∀ i ∈ ws2, i ∈ ws1) (hc : X.calm = true) (hs2 : ∀ env x, foldedSetIterable iter2 env x = pure x) :
    Tail X scope (fun _ => arL X.K X.mg) (fun D env A => bIn (model X.prog X.w) A (.ListComp elt [⟨tg, iter, ifs, 0⟩, ⟨tg1, iter1, ifs1, 0⟩, ⟨tg2, iter2, ifs2, 0⟩] scope pos) 1 iter1 (.ref D) env) ws1 (clS ws1 fi1 g1 cond1 (clS ws2 fi2 g2 cond2 (eL fe))) := by
  intro s H C cl fp D as1 F1 H1 hb
  have k : Kind X.prog X.w (.ListComp elt [⟨tg, iter, ifs, 0⟩, ⟨tg1, iter1, ifs1, 0⟩, ⟨tg2, iter2, ifs2, 0⟩] scope pos) _ (.ref D) (ceOf X scope C cl) _ := Kind.list
  have h3 := dk_list (X := X.blk s H scope (ceOf X scope C cl) fp) (as1 := as1) (F1 := F1) hb rfl (he s H C cl fp)
  have h2 := dk_in (X := X.blk s H scope (ceOf X scope C cl) fp) (vs := ws2) arL_m hc rfl (k.last (k := 2) rfl rfl) (hi2 s H C cl fp) (hg2 s H C cl fp) (ht2 s H C cl fp) h3 (fun i hi => by cases hi)
  exact dk_in (X := X.blk s H scope (ceOf X scope C cl) fp) (vs := ws1) arL_m hc rfl (k.inn (k := 1) rfl rfl (hs2 _)) (hi1 s H C cl fp) (hg1 s H C cl fp) (ht1 s H C cl fp) h2 hv1
theorem ds_setLc3 (i : Nat) {y : Str} {py spos : Pos} (hN : X.N.Nodup) (hsw : swapsWith (.ListComp elt [⟨tg, iter, ifs, 0⟩, ⟨tg1, iter1, ifs1, 0⟩, ⟨tg2, iter2, ifs2, 0⟩] scope pos) (some (.Name y py)) spos.line X.env = pure true)
    (hi : DI X W tg iter fi) (ok : BlkOk X.N X.env.scope scope ov) (hg : Blk X scope fun Y => DG Y (ov.map (·.2)) tg g) (ht : Blk X scope fun Y => DTs Y W0 ifs cond)
    (hi1 : Blk X scope fun Y => DI Y W0 tg1 iter1 fi1) (hg1 : Blk X scope fun Y => DG Y ws1 tg1 g1) (ht1 : Blk X scope fun Y => DTs Y W0 ifs1 cond1) (hi2 : Blk X scope fun Y => DI Y W0 tg2 iter2 fi2) (hg2 : Blk X scope fun Y => DG Y ws2 tg2 g2) (ht2 : Blk X scope fun Y => DTs Y W0 ifs2 cond2)
    (he : Blk X scope fun Y => DE Y W0 elt fe) (hv : ∀ i ∈ ws1, i ∈ ov.map (·.2) := by decide) (hv1 : ∀ i ∈ ws2, i ∈ ws1 := by decide) (hy : X.N[i]? = some y := by rfl) (hyl : X.env.scope.names.lookup y = some .local := by rfl) (hc : X.calm = true := by rfl) (hs : ∀ x, foldedSetIterable iter X.env x = pure x := by intro _; rfl) (hs1 : ∀ env x, foldedSetIterable iter1 env x = pure x := by intro _ _; rfl) (hs2 : ∀ env x, foldedSetIterable iter2 env x = pure x := by intro _ _; rfl) :
    DS X W (.Assign [.Name y py] (.ListComp elt [⟨tg, iter, ifs, 0⟩, ⟨tg1, iter1, ifs1, 0⟩, ⟨tg2, iter2, ifs2, 0⟩] scope pos) spos) (sAsg (fComp (ov.map (·.2)) fi g cond (clS ws1 fi1 g1 cond1 (clS ws2 fi2 g2 cond2 (eL fe))) [] (fun acc => fNew own (.lst acc))) (gSet i)) :=
  ds_setCompL i hN hsw hi ok hg ht (tail3 hi1 hg1 ht1 hi2 hg2 ht2 he hv1 hc hs2) (fun D C cl => Kind.list.inn rfl rfl (hs1 _)) hv hy hyl hc hs
end
/-! ### sorted({..}) of ints -/
section
variable {K : PySem.W.Frag} {mg : Str → Option Value} {w : World}
noncomputable def addI (acc : List Int) (k : Int) : List Int := if k ∈ acc then acc else acc ++ [k]
end
/-! ### what is sorted -/
end Dl
end
section
set_option Elab.async false
set_option linter.all false
set_option maxRecDepth 100000
set_option autoImplicit false
namespace Dl
open PySem PySem.Spec L2
end Dl
end
section
set_option Elab.async false
set_option linter.all false
set_option maxRecDepth 100000
set_option maxHeartbeats 4000000
set_option autoImplicit false
namespace Dl
open PySem PySem.Spec L2
/-! ### exception classes of the program, over any of some bases -/
/-- what the machine says of a base -/
structure BaseX (B newId initId : String) (tl : List Value) : Prop where
  exc : ExcBaseFacts B newId initId tl
  pass : ∀ self : Value, refuseLoop self "__setattr__" tl = pure ()
  obj : tl.contains (.type "object") = true
  typ : typeOf (.type B) = pure (.type "type")
  stub : Manifest.isStub B = false
  hand : PySem.W.handedIn (.builtin initId) = true
structure OexG (K : PySem.W.Frag) (C : Addr) (B newId initId : String) (tl : List Value) : Prop where
  cls : ∃ nm q N bs sn sub ab col dd k0 k1 k2 k3 k5, K.lookup C = some (excClassObj nm q C N bs tl true sn sub ab col dd k0 k1 k2 k3 k5 newId)
  sa : PySem.W.findIn K (.ref C) "__setattr__" = some (some (.builtin "object.__setattr__"))
  exC : PySem.W.subIn K (.ref C) (.type "BaseException") = some true
  tyC : PySem.W.typeIn K (.ref C) = some (.type "type")
  kC : PySem.W.keepIn K (.ref C) = true
noncomputable abbrev tlV : List Value := [.type "ValueError", .type "Exception", .type "BaseException", .type "object"]
noncomputable abbrev tlL : List Value := [.type "LookupError", .type "Exception", .type "BaseException", .type "object"]
noncomputable abbrev tlR : List Value := [.type "RuntimeError", .type "Exception", .type "BaseException", .type "object"]
theorem bxV : BaseX "ValueError" "ValueError.__new__" "ValueError.__init__" tlV := ⟨F.excBase_ValueError, F.store_ValueError.passes, by decide +kernel, by kernel_rfl, by decide +kernel, by decide +kernel⟩
theorem bxL : BaseX "LookupError" "LookupError.__new__" "LookupError.__init__" tlL := ⟨F.excBase_LookupError, F.store_LookupError.passes, by decide +kernel, by kernel_rfl, by decide +kernel, by decide +kernel⟩
theorem bxR : BaseX "RuntimeError" "RuntimeError.__new__" "RuntimeError.__init__" tlR := ⟨F.excBase_RuntimeError, F.store_RuntimeError.passes, by decide +kernel, by kernel_rfl, by decide +kernel, by decide +kernel⟩
section
open Builtin Builtin.ObjectAttr
variable {prog : Program} {w : World} {A : Around} {E : Value → Shared → Prop} {R : Result → Shared → Prop} {hp : Heap} {g : Array GenState} {d : Drawn} {t : Nat} {os : OsState}
/-- x.name = v, x an exception without a dict so far -/
theorem osa_first {K : PySem.W.Frag} {name : Str} {tk : Tok} {v : Value} {x C : Addr} {fv : Array Value} {cd : ClassData} (X : K.In hp) (hx : hp.get? x = some { cls := .ref C, data := .fields fv }) (hcd : PySem.W.clsIn K C = some cd) (hm : ∀ self : Value, refuseLoop self "__setattr__" cd.mro = pure ()) (hob : cd.mro.contains (.type "object") = true) (hh : cd.hasDict = true) (ha : PySem.W.findIn K (.ref C) name = some none)
    (hq : ∀ h' tk' dx, (∀ b o, b ≠ x → hp.get? b = some o → h'.get? b = some o) → hp.objs.size ≤ dx → dx ≠ x → h'.get? x = some { cls := .ref C, dict := some dx, data := .fields fv } → h'.Ns1 dx (fun y => if y = name then some v else none) → R (.ok (.ret .none)) ⟨h', g, d, tk', os⟩) :
    codeAny (model prog w) A (.call (.builtin "object.__setattr__") ⟨[.ref x, .str name tk, v], []⟩) R ⟨hp, g, d, t, os⟩ := by
  have ne : cd.mro.isEmpty = false := by
    cases q : cd.mro with
    | nil => rw [q] at hob; cases hob
    | cons _ _ => rfl
  have I : PySem.W.InstAt hp x { cls := .ref C, data := .fields fv } C none := ⟨hx, rfl, rfl, trivial⟩
  have hxs : x ≠ hp.objs.size := Nat.ne_of_lt (Heap.lt_size hx)
  have sub : PySem.W.Looks (model prog w) hp (isInstance (.ref x) (.type "object")) true := I.type.andThen (PySem.W.looks_mroIn X (by unfold PySem.W.mroIn; rw [hcd, Option.bind_some, if_neg (by rw [ne]; decide), hob]))
  refine codeAny_call_builtin F.store_object.slot.plain F.store_object.entry (@PySem.W.check_slot (model prog w) _ _ ⟨hp, g, d, t, os⟩ "object.__setattr__" "object" "__setattr__" (.ref x) [.str name tk, v] [] _ F.store_object.kind F.store_object.split sub (F.store_object.args (.ref x) (.str name tk) v) ?_)
  have hmr : PySem.W.Looks (model prog w) hp (mroOf (.ref C)) cd.mro := (PySem.W.looks_clsIn X hcd).andThen .now
  have hcls : PySem.W.Looks (model prog w) hp (classData C) cd := PySem.W.looks_clsIn X hcd
  have L3 : PySem.W.Looks (model prog w) hp (storeTaker? none) none := .now
  rw [PySem.W.osa_eq, refuse_eq]
  refine wpAny_bind (wpAny_bind (I.type.at (wpAny_bind (hmr.at ?_))))
  rw [hm]
  refine wpAny_pure (wpAny_bind (I.type.at (wpAny_bind ((PySem.W.looks_findIn X ha).at (wpAny_bind (L3.at ?_))))))
  show wpAny _ _ (storeInOwnDict (.ref x) (.ref C) (.str name tk) name v false) _ _ _
  obtain ⟨nm, bs, mro, ns, qn, hd, sn, sb, ab, col, del⟩ := cd
  dsimp only at hh
  subst hh
  unfold storeInOwnDict ownDictForStores
  repeat (first | with_reducible refine HandSPX.store_in_new ?_ ?_ | with_reducible refine wpAny_loadPart_at hx ?_ | with_reducible refine hcls.at ?_ | wp_step)
  · exact ⟨_, #[], _, (Heap.get?_update_ne _ _ _ _ hxs.symm).trans (Heap.get?_push_at rfl rfl), rfl, fun z hz => absurd hz (by simp), fun _ => rfl⟩
  · intro h' tk' hn' hs
    have hx1 : (hp.push { cls := .type "dict", data := .dict #[] }).get? x = some { cls := .ref C, data := .fields fv } := Heap.get?_push_of_some _ hx
    refine hq h' tk' hp.objs.size (fun b o hb ho => ?_) (Nat.le_refl _) hxs.symm ((hs.2 x hxs).trans (Heap.get?_update_self _ hx1 rfl)) hn'
    exact (hs.2 b (Nat.ne_of_lt (Heap.lt_size ho))).trans ((Heap.get?_update_ne _ _ _ _ hb).trans (Heap.get?_push_of_some _ ho))
end
section
variable {X : Cx} {pins : List (Addr × Obj)} {σ : St} {H : Hp} {s : Shared} {a C : Addr} {f : Str} {y : V} {u : Value} {Q : Unit → Shared → Prop} {E : Value → Shared → Prop} {A : Around} {B newId initId : String} {tl : List Value}
theorem ost_first (T : OexG X.K C B newId initId tl) (bx : BaseX B newId initId tl) (I : Inv X pins σ H s) (e : H a = some (exo a C none)) (hno : PySem.W.findIn X.K (.ref C) f = some none) (ry : RelV y u)
    (h : ∀ dx s', H dx = none → dx ≠ a → Inv X pins σ (upd (upd H dx (exd dx [(f, y)])) a (exo a C (some dx))) s' → Q () s') : wpAny (model X.prog X.w) A (setAttr (.ref a) f u) Q E s := by
  obtain ⟨nm, q, N, bs, sn, sub, ab, col, dd, k0, k1, k2, k3, k5, hC⟩ := T.cls
  have hcl : PySem.W.clsIn X.K C = some { name := nm, bases := bs, mro := .ref C :: tl, ns := N, qualname := q, hasDict := true, slotNames := sn, subclasses := sub, abstract := ab, collection := col, hasDel := false } := by unfold PySem.W.clsIn; rw [hC] <;> rfl
  obtain ⟨t1, ho⟩ := exo_at I.hok e
  obtain ⟨hp, g, d, t, os⟩ := s
  refine PySem.W.set_plain I.kIn (ox := { cls := .ref C, dict := none, data := .fields #[.ref t1, .none, .none, .none, .bool false, .none] }) (od := none) ⟨ho, rfl, rfl, trivial⟩ T.sa ?_
  refine osa_first I.kIn ho hcl (fun self => by rw [refuseLoop_ref]; exact bx.pass self) (by rw [List.contains_cons, bx.obj, Bool.or_true]) rfl hno (fun h' tk' dx k dn dne hx hn => ?_)
  have hnd : H dx = none := I.hok.fresh dn
  have nd : ∀ {b : Addr} {o : Obj}, hp.get? b = some o → b ≠ dx := fun {b o} q => Nat.ne_of_lt (Nat.lt_of_lt_of_le (Heap.lt_size q) dn)
  have na : ∀ {b : Addr}, H b = none → b ≠ a := fun {b} n z => by rw [z, e] at n; cases n
  have U : Un X.fs [] H (upd (upd H dx (exd dx [(f, y)])) a (exo a C (some dx))) hp h' :=
    ⟨fun b o q n _ _ => k b o (na n) q, fun b o q n _ _ => ⟨o.slots, k b o (na n) q⟩, fun b o q n _ => by rw [upd_ne (na n), upd_ne (nd q)]; exact n, fun b o q _ => by
      by_cases hb : b = a
      · exact ⟨_, by rw [hb]; exact hx⟩
      · exact ⟨o, k b o hb q⟩, fun b xs q => by rw [upd_ne (at_ne e q exo_tup), upd_ne (ne_of_none q hnd)]; exact q, fun b o v q => by rw [upd_ne (at_ne e q exo_frz), upd_ne (ne_of_none q hnd)]; exact q, fun b ps q => ⟨#[], by rw [upd_ne (at_ne e q exo_tbl), upd_ne (ne_of_none q hnd), q]; simp⟩⟩
  refine h dx _ hnd dne (I.un (t' := tk') U fun b o q => ?_)
  by_cases hb : b = a
  · subst hb
    rw [upd_same] at q
    cases q
    exact exo_ok hx
  · rw [upd_ne hb] at q
    by_cases hd : b = dx
    · subst hd
      rw [upd_same] at q
      cases q
      exact exd_ok hn (relO_put (fs := []) ry fun g => True.intro)
    · rw [upd_ne hd] at q
      refine (I.hok b o q).stay (fun c v hc z => k c v ?_ z) (fun c hc => by rw [upd_ne (at_ne e hc exo_own), upd_ne (ne_of_none hc hnd)]; exact hc) (fun c xs hc => by rw [upd_ne (at_ne e hc exo_tup), upd_ne (ne_of_none hc hnd)]; exact hc)
      rcases hc with hc | hc
      · rw [hc]; exact hb
      · exact at_ne e hc exo_own
/-- B.__init__(self, ..) -/
theorem binit_ok {us : List Value} {Q : Value → Shared → Prop} (T : OexG X.K C B newId initId tl) (bx : BaseX B newId initId tl) (I : Inv X pins σ H s) (e : H a = some (exo a C none)) (hl : us.length ≤ sizeLine) (h : ∀ s', Inv X pins σ H s' → Q .none s') :
    wpAny (model X.prog X.w) A (call (.builtin initId) (.ref a :: us)) Q E s := by
  obtain ⟨nm, q, N, bs, sn, sub, ab, col, dd, k0, k1, k2, k3, k5, hC⟩ := T.cls
  obtain ⟨t1, ho⟩ := exo_at I.hok e
  obtain ⟨hp, g, d, t, os⟩ := s
  refine wpAny_call (HandSPX.init_base bx.exc (fun Y => rfl) (I.kIn _ _ hC) ho hl fun h' t2 k hx => ?_)
  have J := I.write (t' := t) (x := a) (e := a) (o := exo a C none) (by rw [e]; exact True.intro) (.inl rfl) k ⟨_, hx⟩ (exo_ok hx)
  have eu : upd H a (exo a C none) = H := by
    funext b
    by_cases hb : b = a
    · rw [hb, upd_same, e]
    · rw [upd_ne hb]
  rw [eu] at J
  exact h _ J
/-! the rules -/
noncomputable def tBi (K : PySem.W.Frag) (B newId initId : String) (tl : List Value) (ta : TA) : TE := fun σ H Q => ta σ H fun vs H1 => ∃ (a C : Addr) (ws : List V), vs = .ref a :: ws ∧ ws.length ≤ 1000 ∧ OexG K C B newId initId tl ∧ H1 a = some (exo a C none) ∧ Q .non H1
noncomputable def tOs1 (K : PySem.W.Frag) (B newId initId : String) (tl : List Value) (f : Str) (to te : TE) : TS := fun D σ H => te σ H fun y H1 => to σ H1 fun x H2 => ∃ a C : Addr, x = .ref a ∧ OexG K C B newId initId tl ∧ PySem.W.findIn K (.ref C) f = some none ∧ H2 a = some (exo a C none) ∧ ∀ dx, H2 dx = none → dx ≠ a → D.nx σ (upd (upd H2 dx (exd dx [(f, y)])) a (exo a C (some dx)))
variable {o e : Expr} {es : List Expr} {to te : TE} {ta : TA} {p p' p1 p2 pos : Pos} {bn : Str}
theorem pe_binit {pl : Sem Bool} (bx : BaseX B newId initId tl) (hg : Gl X bn) (hm : X.mg bn = none) (hboot : bootBuiltins bn = some (.type B)) (vV : PySem.W.findCls X.K (.type B) (.type "type") "__init__" = some (.val (.builtin initId))) (ha : PA X (e :: es) ta)
    (hc : eval (.Call (.Attribute (.Name bn p1) "__init__" p2) (e :: es) [] pos) X.env = (do let ov ← eval (.Name bn p1) X.env; standAt p2.atName; let (f, first) ← holding [ov] (getMethod ov "__init__" pl); callWith pos f first (backTo pos (starEach (e :: es) X.env)) (backToKw pos (keywordEach [] X.env))) := by rfl)
    (he : starEach (e :: es) X.env = (false, eval e X.env) :: starEach es X.env := by rfl) (hpl : (backTo pos (starEach es X.env)).any (·.1) = false := by rfl) (hn : bn ≠ "__name__" := by decide) (hd : (bn == ("__debug__" : Str)) = false := by decide) :
    PE X (.Call (.Attribute (.Name bn p1) "__init__" p2) (e :: es) [] pos) (tBi X.K B newId initId tl ta) := by
  refine ⟨fun pins s σ H Q I h => ?_⟩
  refine PySem.W.methodCall_KW (ld_blt I hg hm hboot ?_ hn hd) hc
  obtain ⟨m, fr⟩ := I.fr
  refine PySem.W.method_type fr I.ok.mod.kin bx.typ bx.stub vV bx.hand ?_
  show wpAny _ _ (callWith pos (Value.builtin initId) [] (backTo pos (starEach (e :: es) X.env)) []) _ _ _
  refine PyProof.Rows.callWith_method1 (thn (ha.run pos pins _ σ H _ (I.tok _) h) fun us s1 ⟨vs, H1, I1, r1, a, C, ws, ev, hl, T, ea, q⟩ => ?_) he hpl
  subst ev
  cases r1 with
  | @cons _ u0 _ ur ra rw' =>
    obtain rfl : u0 = Value.ref a := ra
    have hlen : ur.length ≤ sizeLine := by rw [← Paired.length rw', sizeLine_eq]; omega
    exact binit_ok T bx I1 ea hlen fun s' J => ⟨.non, H1, J, rfl, q⟩
theorem ps_os1 {f : Str} (bx : BaseX B newId initId tl) (ho : PE X o to) (he : PE X e te) (hs : swapsWith e (some (.Attribute o f p')) pos.line X.env = pure false := by rfl) : PS X (.Assign [.Attribute o f p'] e pos) (tOs1 X.K B newId initId tl f to te) := by
  refine ⟨fun pins s σ H D I h => ?_⟩
  refine plainObj_wpAny_Assign_Attribute (thn (he.run pins s σ H _ I h) fun v s1 ⟨y, H1, I1, r1, q1⟩ => thn (ho.run pins s1 σ H1 _ I1 q1) fun u s2 ⟨x, H2, I2, r2, a, C, ex, T, hno, ea, q⟩ => ?_) hs
  subst ex
  obtain rfl : u = Value.ref a := r2
  exact ost_first T bx I2 ea hno r1 fun dx s' n ne J => ⟨σ, _, J, q dx n ne⟩
end
/-! ### C(..) -/
section
variable {X : Cx} {B newId initId : String} {tl : List Value}
/-- the end of C(..) where no field was set -/
theorem mk_endN {pins : List (Addr × Obj)} {σ : St} {H1 H2 : Hp} {Q : XK} {hp hp2 h2 : Heap} {g1 g2 : Array GenState} {d1 d2 : Drawn} {t1 t2 : Nat} {os1 os2 : OsState} {a C : Addr} (T : Raises X (.ref C)) (I1 : Inv X pins σ H1 ⟨hp, g1, d1, t1, os1⟩)
    (ha : hp.objs.size ≤ a) (k : ∀ b o, hp.get? b = some o → hp2.get? b = some o) (un : Un (frs X.stack) [] (upd H1 a (exo a C none)) H2 hp2 h2) (hok : HOk X.prog X.w H2 h2) (ho : os2 = os1) (hb : PyProof.Rows.AllBare g2)
    (ea : H2 a = some (exo a C none)) (q : Q (.ref C) none (del H2 a)) : MkP X pins σ Q (.ref a) ⟨h2, g2, d2, t2, os2⟩ := by
  obtain ⟨t0, hoe⟩ := exo_at hok ea
  have hn : H1 a = none := I1.hok.fresh ha
  obtain ⟨G, g1', g2'⟩ := restrict h2 fun b => decide (b ≠ a)
  have gk : ∀ b, b ≠ a → G.get? b = h2.get? b := fun b hb => g1' b (decide_eq_true hb)
  have ge : G.get? a = none := g2' a (by simp)
  have nha : ∀ {b : Addr} {o : Obj}, hp.get? b = some o → b ≠ a := fun {b o} z => Nat.ne_of_lt (Nat.lt_of_lt_of_le (Heap.lt_size z) ha)
  have up : ∀ {b : Addr}, b ≠ a → H1 b = none → upd H1 a (exo a C none) b = none := fun {b} hb n => by rw [upd_ne hb]; exact n
  have U : Un (frs X.stack) [] H1 (del H2 a) hp G := ⟨fun b o z n hf hx => by rw [gk b (nha z)]; exact un.keep b o (k b o z) (up (nha z) n) hf hx, fun b o z n hf hx => by rw [gk b (nha z)]; exact un.slot b o (k b o z) (up (nha z) n) hf hx,
    fun b o z n hx => by rw [del_ne (nha z)]; exact un.free b o (k b o z) (up (nha z) n) hx, fun b o z hx => by rw [gk b (nha z)]; exact un.there b o (k b o z) hx, fun b xs z => by rw [del_ne (ne_of_none z hn)]; exact un.tups b xs (by rw [upd_ne (ne_of_none z hn)]; exact z),
    fun b o v z => by rw [del_ne (ne_of_none z hn)]; exact un.frzs b o v (by rw [upd_ne (ne_of_none z hn)]; exact z), fun b ps z => by rw [del_ne (ne_of_none z hn)]; exact un.tbls b ps (by rw [upd_ne (ne_of_none z hn)]; exact z)⟩
  have hok3 : HOk X.prog X.w (del H2 a) G := fun b o z => by
    have hba : b ≠ a := fun e => by rw [e, del_same] at z; cases z
    rw [del_ne hba] at z
    refine (hok b o z).stay (fun c v hc y => ?_) (fun c hc => by rw [del_ne (at_ne ea hc exo_own)]; exact hc) (fun c xs hc => by rw [del_ne (at_ne ea hc exo_tup)]; exact hc)
    have hca : c ≠ a := by
      rcases hc with hc | hc
      · rw [hc]; exact hba
      · exact at_ne ea hc exo_own
    rw [gk c hca]; exact y
  have J : Inv X pins σ (del H2 a) ⟨G, g2, d2, t2, os2⟩ := I1.call' (ch := []) ho U hok3 hb (fun b z => absurd z (by simp))
  refine ⟨a, _, _, ⟨G, g2, d2, t2, os2⟩, _, .ref C, none, rfl, J, fun b o z => ?_, ge, hoe, ⟨rfl, rfl⟩, rfl, rfl, del_same, rfl, hb, T, q⟩
  by_cases hba : b = a
  · rw [hba, ge] at z; cases z
  · exact (gk b hba).symm.trans z
/-- what a new exception is: with one field, or none -/
noncomputable def tMkG (C : Addr) (sp : Sp) (ta : TA) : St → Hp → XK → Prop := fun σ H Q => ta σ H fun vs H1 => vs.length ≤ 1000 ∧ ∀ a, H1 a = none → sp (.ref a :: vs) (upd H1 a (exo a C none))
  (fun v H2 => v = .non ∧ ((∃ (d : Addr) (fs : List (Str × V)), H2 a = some (exo a C (some d)) ∧ H2 d = some (exd d fs) ∧ H1 d = none ∧ Q (.ref C) (some d) (upd (del H2 a) d (.xd fs))) ∨ (H2 a = some (exo a C none) ∧ Q (.ref C) none (del H2 a)))) (fun _ _ _ => False)
theorem mkG_run {C fI : Addr} {k : Nat} {fd : FuncData} {ps : List Str} {sp : Sp} (T : OexG X.K C B newId initId tl) (bx : BaseX B newId initId tl) (iC : PySem.W.findIn X.K (.ref C) "__init__" = some (some (.ref fI))) (tI : PySem.W.typeIn X.K (.ref fI) = some (.type "function"))
    (F1 : FnOk X.prog X.w X.K X.mg X.base (L2.CX X.prog X.w) k fI fd ps sp) (hr : Room (k + 1) X.A) (hb : Binds X.K fd ps []) {pins : List (Addr × Obj)} {s1 : Shared} {σ : St} {H1 : Hp} {vs : List V} {us : List Value} {Q : XK} (hx : ∀ e s', ¬ L2.CX X.prog X.w X.stack (upd H1 (s1.heap.objs.size + 1) (exo (s1.heap.objs.size + 1) C none)) { s1 with heap := ((s1.heap.push (PySem.W.kdv_tup us)).push (HandSPX.excO C s1.heap.objs.size)) } (fun _ _ _ => False) e s') (I1 : Inv X pins σ H1 s1) (r1 : Vals vs us) (hz : vs.length ≤ 1000)
    (q1 : ∀ a, H1 a = none → sp (.ref a :: vs) (upd H1 a (exo a C none)) (fun v H2 => v = .non ∧ ((∃ (d : Addr) (fs : List (Str × V)), H2 a = some (exo a C (some d)) ∧ H2 d = some (exd d fs) ∧ H1 d = none ∧ Q (.ref C) (some d) (upd (del H2 a) d (.xd fs))) ∨ (H2 a = some (exo a C none) ∧ Q (.ref C) none (del H2 a)))) (fun _ _ _ => False)) :
    wpAny (model X.prog X.w) X.A (call (.ref C) us) (MkP X pins σ Q) X.xe s1 := by
  obtain ⟨nm, q, N, bs, sn, sub, ab, col, dd, k0, k1, k2, k3, k5, hC⟩ := T.cls
  obtain ⟨hp, g, dr, tk, os⟩ := s1
  have hsz : hp.objs.size ≤ hp.objs.size + 1 := Nat.le_succ _
  have hq := q1 (hp.objs.size + 1) (I1.hok.fresh hsz)
  have kk : ∀ b o, hp.get? b = some o → ((hp.push (PySem.W.kdv_tup us)).push (HandSPX.excO C hp.objs.size)).get? b = some o := fun b o e => Heap.get?_push_of_some _ (Heap.get?_push_of_some _ e)
  have hget : ((hp.push (PySem.W.kdv_tup us)).push (HandSPX.excO C hp.objs.size)).get? (hp.objs.size + 1) = some (HandSPX.excO C hp.objs.size) := by heap_get
  have I2 : Inv X pins σ (upd H1 (hp.objs.size + 1) (exo (hp.objs.size + 1) C none)) ⟨(hp.push (PySem.W.kdv_tup us)).push (HandSPX.excO C hp.objs.size), g, dr, tk, os⟩ := I1.laid (t' := tk) (a := hp.objs.size + 1) (o := exo (hp.objs.size + 1) C none) (h' := (hp.push (PySem.W.kdv_tup us)).push (HandSPX.excO C hp.objs.size)) kk hsz (exo_ok hget)
  have r2 : Vals (V.ref (hp.objs.size + 1) :: vs) (Value.ref (hp.objs.size + 1) :: us) := .cons rfl r1
  have hl : (Value.ref (hp.objs.size + 1) :: us ++ []).length = ps.length := by
    have z := r2.length
    rw [F1.len _ _ _ _ hq] at z
    simpa using z.symm
  have hus : us.length ≤ sizeLine := by rw [← Paired.length r1, sizeLine_eq]; omega
  have bb := hb _ (Value.ref (hp.objs.size + 1) :: us) I2.kIn hl
  rw [List.append_nil] at bb
  refine wpAny_call (HandSPX.call_own bx.exc (fun Y => rfl) (I1.kIn _ _ hC) (PySem.W.looks_findIn I1.kIn iC) (fun self => PySem.W.bind_fn I1.kIn self tI) hus
    (codeAny_mono (F1.run _ X.stack _ _ ⟨Value.ref (hp.objs.size + 1) :: us, []⟩ (Value.ref (hp.objs.size + 1) :: us) _ _ (fun _ _ _ => False) (hr.make C us []) (I2.env0.make C us []) bb r2 hq) fun r s' hq' => ?_))
  cases r with
  | error er => exact (hx er s' hq').elim
  | ok fl =>
    cases fl with
    | ret u =>
      obtain ⟨v, H2, os2, bare2, un2, hok2, rv, ev, q2⟩ := hq'
      subst ev
      obtain ⟨h2, g2, d2, t2, os'⟩ := s'
      rcases q2 with ⟨d, fs, ea, ed, hd1, q2⟩ | ⟨ea, q2⟩
      · exact ⟨rv, mk_end (raises_own T.exC T.tyC) I1 hsz kk un2 hok2 os2 bare2 ea ed hd1 q2⟩
      · exact ⟨rv, mk_endN (raises_own T.exC T.tyC) I1 hsz kk un2 hok2 os2 bare2 ea q2⟩
    | next => exact False.elim hq'
    | brk => exact False.elim hq'
    | cont => exact False.elim hq'
theorem noCX {P : Program} {w : World} {outer : List Env} {H : Hp} {s : Shared} {e : Value} {s' : Shared} : ¬ L2.CX P w outer H s (fun _ _ _ => False) e s' := fun ⟨_, _, _, _, _, _, _, _, _, _, _, _, z⟩ => z
end
end Dl
end
section
set_option Elab.async false
set_option linter.all false
set_option maxRecDepth 100000
set_option autoImplicit false
namespace Dl
open PySem PySem.Spec L2
section
variable {B newId initId : String} {tl : List Value}
noncomputable def spX1 (K : PySem.W.Frag) (B newId initId : String) (tl : List Value) (f : Str) : Sp := fun vs H Q _ => ∃ (a C : Addr) (v : V), vs = [.ref a, v] ∧ OexG K C B newId initId tl ∧ PySem.W.findIn K (.ref C) f = some none ∧ H a = some (exo a C none) ∧ ∀ dx, H dx = none → dx ≠ a → Q .non (upd (upd H dx (exd dx [(f, v)])) a (exo a C (some dx)))
noncomputable def spX0 (K : PySem.W.Frag) (B newId initId : String) (tl : List Value) : Sp := fun vs H Q _ => ∃ (a C : Addr), vs = [.ref a] ∧ OexG K C B newId initId tl ∧ H a = some (exo a C none) ∧ Q .non H
/-- an __init__ of an exception class is as it should be -/
noncomputable def Xk (P : Program) (w : World) (K : PySem.W.Frag) (mg : Str → Option Value) (base : Heap) (k : Nat) (fI : Addr) (ps : List Str) (sp : Sp) : Prop := ∃ fd, FnOk P w K mg base (L2.CX P w) k fI fd ps sp ∧ Binds K fd ps []
theorem xk1 {P : Program} {w : World} {K : PySem.W.Frag} {mg : Str → Option Value} {base : Heap} {fI : Addr} {x qual f m : Str} {stm : Stmt} (d : Df K x qual stm fI ["self", f]) (S : FnScope ["self", f] ["self", f] (defScope stm))
    (body : ∀ (cdv : Value) (A : Around) (outer : List Env) (s : Shared) (H : Hp) (E : XK), PSs (cxD P w K mg base ["self", f] qual stm fI cdv A outer s H E) (defBody stm) (tSeq (tDrop (tBi K B newId initId tl (tCons (tVar 0) (tCons (tC (.str m)) tNil)))) (tOs1 K B newId initId tl f (tVar 0) (tVar 1)))) :
    Xk P w K mg base 1 fI ["self", f] (spX1 K B newId initId tl f) := by
  obtain ⟨fd, Fn, hb⟩ := d
  obtain ⟨oc, od, kV, doc, pm, an, cdv, ct, osl, rfl, lk, hcd⟩ := Fn.ex
  refine ⟨_, fn_of (k := 0) lk hcd S (fun vs H Q E ⟨a, C, v, h, _⟩ => by rw [h]; rfl) (fun A outer s H vs Q E hr hsp => ⟨_, body cdv A outer s H E, ?_⟩), hb⟩
  obtain ⟨a, C, v, rfl, T, hna, ea, q⟩ := hsp
  refine ⟨.ref a, rfl, a, C, [.str m], rfl, by simp, T, ea, ?_⟩
  exact ⟨v, rfl, .ref a, rfl, a, C, rfl, T, hna, ea, fun dx h1 h2 => q dx h1 h2⟩
theorem xk0 {P : Program} {w : World} {K : PySem.W.Frag} {mg : Str → Option Value} {base : Heap} {fI : Addr} {x qual m : Str} {stm : Stmt} (d : Df K x qual stm fI ["self"]) (S : FnScope ["self"] ["self"] (defScope stm))
    (body : ∀ (cdv : Value) (A : Around) (outer : List Env) (s : Shared) (H : Hp) (E : XK), PSs (cxD P w K mg base ["self"] qual stm fI cdv A outer s H E) (defBody stm) (tDrop (tBi K B newId initId tl (tCons (tVar 0) (tCons (tC (.str m)) tNil))))) :
    Xk P w K mg base 1 fI ["self"] (spX0 K B newId initId tl) := by
  obtain ⟨fd, Fn, hb⟩ := d
  obtain ⟨oc, od, kV, doc, pm, an, cdv, ct, osl, rfl, lk, hcd⟩ := Fn.ex
  refine ⟨_, fn_of (k := 0) lk hcd S (fun vs H Q E ⟨a, C, h, _⟩ => by rw [h]; rfl) (fun A outer s H vs Q E hr hsp => ⟨_, body cdv A outer s H E, ?_⟩), hb⟩
  obtain ⟨a, C, rfl, T, ea, q⟩ := hsp
  exact ⟨.ref a, rfl, a, C, [.str m], rfl, by simp, T, ea, q⟩
end
/-- all of an exception class -/
structure XC (K : PySem.W.Frag) (mg : Str → Option Value) (c : Str) (C fI : Addr) (B newId initId : String) (tl : List Value) : Prop where
  oex : OexG K C B newId initId tl
  bx : BaseX B newId initId tl
  init : PySem.W.findIn K (.ref C) "__init__" = some (some (.ref fI))
  tI : PySem.W.typeIn K (.ref fI) = some (.type "function")
  at_ : mg c = some (.ref C)
noncomputable def sRaise1 (c f : Str) (fa : FA) : FS := fBindS fa fun ds env st => match ds with
  | [d] => some (.ex c [f] [d] env st)
  | _ => none
noncomputable def sRaise0 (c : Str) : FS := fun env st => some (.ex c [] [] env st)
section
variable {X : Cx} {W : WX} {c f : Str} {C fI : Addr} {B newId initId : String} {tl : List Value} {e : Expr} {fa : FA} {p pos pos' : Pos} {k : Nat}
theorem ds_raise1 (T : XC X.K X.mg c C fI B newId initId tl) (F1 : Xk X.prog X.w X.K X.mg X.base 1 fI ["self", f] (spX1 X.K B newId initId tl f)) (hna : NoAttr X.K C f) (hr : Room k X.A) (tk : Takes X W) (ha : DA X W [e] fa) (hk : 2 ≤ k := by decide) (hc : X.calm = true := by rfl)
    (hg : Gl X c := by rfl) (hdb : (c == ("__debug__" : Str)) = false := by decide) (he : starEach [e] X.env = (false, eval e X.env) :: starEach [] X.env := by rfl) (hpl : (backTo pos (starEach [] X.env)).any (·.1) = false := by rfl) :
    DS X W (.Raise (some (.Call (.Name c p) [e] [] pos)) none pos') (sRaise1 c f fa) := by
  obtain ⟨fd, F2, hb⟩ := F1
  have mk : PMk X (.Call (.Name c p) [e] [] pos) (tMkG C (spX1 X.K B newId initId tl f) (tDA X.K X.mg W fa)) := by
    intro pins s σ H Q I h
    refine wpAny_Call_Name_kw (ld_glob I hg T.at_ ?_ hdb)
    refine PySem.W.callWith_K (h₀ := X.base) I.ok.mod.kin T.oex.kC (thn (ha.run pos pins s σ H _ I h) fun us s1 ⟨vs, H1, I1, r1, hz, q1⟩ => ⟨I1.kIn, ?_⟩) he hpl
    exact mkG_run T.oex T.bx T.init T.tI F2 (hr.mono hk) hb (fun _ _ => noCX) I1 r1 hz q1
  refine ps_imp (ps_raise hc tk mk) fun E σ H ⟨as, F, env, st, h⟩ => ?_
  refine h.bind fun as1 F1 st1 ds vs H1 _ x1 r1 h1 => ?_
  match ds, r1, h1 with
  | [d], .cons (v := v) rv .nil, h1 =>
    refine ⟨by simp, fun a na => ⟨a, C, v, rfl, T.oex, hna, upd_same, fun dx hdx hne => ⟨rfl, .inl ⟨dx, [(f, v)], upd_same, ?_, ?_, ?_⟩⟩⟩⟩
    · rw [upd_ne hne, upd_same]
    · rw [upd_ne hne] at hdx; exact hdx
    · have hdx' : H1 dx = none := by rw [upd_ne hne] at hdx; exact hdx
      have eH : upd (del (upd (upd (upd H1 a (exo a C none)) dx (exd dx [(f, v)])) a (exo a C (some dx))) a) dx (.xd [(f, v)]) = upd H1 dx (.xd [(f, v)]) := by
        funext b
        by_cases hb : b = dx
        · rw [hb, upd_same, upd_same]
        · rw [upd_ne hb, upd_ne hb]
          by_cases hba : b = a
          · rw [hba, del_same, na]
          · rw [del_ne hba, upd_ne hba, upd_ne hb, upd_ne hba]
      rw [eH]
      have q := h1.fin (r := .ex c [f] [d] env st1) rfl
      exact q as1 F1 σ _ C (some dx) [v] (Go.grow h1.frm hdx') h1.er T.at_ (.inr ⟨dx, rfl, upd_same⟩) (.cons rv .nil)
  | [], _, h1 => exact h1.bad rfl
  | _ :: _ :: _, _, h1 => exact h1.bad rfl
theorem ds_raise0 (T : XC X.K X.mg c C fI B newId initId tl) (F1 : Xk X.prog X.w X.K X.mg X.base 1 fI ["self"] (spX0 X.K B newId initId tl)) (hr : Room k X.A) (tk : Takes X W) (hk : 2 ≤ k := by decide) (hc : X.calm = true := by rfl)
    (hg : Gl X c := by rfl) (hdb : (c == ("__debug__" : Str)) = false := by decide) : DS X W (.Raise (some (.Call (.Name c p) [] [] pos)) none pos') (sRaise0 c) := by
  obtain ⟨fd, F2, hb⟩ := F1
  have mk : PMk X (.Call (.Name c p) [] [] pos) (tMkG C (spX0 X.K B newId initId tl) tNil) := by
    intro pins s σ H Q I h
    obtain ⟨hz, q1⟩ := h
    refine wpAny_Call_Name_kw (ld_glob I hg T.at_ ?_ hdb)
    exact PySem.W.callWith_K0 I.kIn T.oex.kC (mkG_run (us := []) (vs := []) T.oex T.bx T.init T.tI F2 (hr.mono hk) hb (fun _ _ => noCX) I .nil hz q1)
  refine ps_imp (ps_raise hc tk mk) fun E σ H ⟨as, F, env, st, h⟩ => ?_
  refine ⟨by simp, fun a na => ⟨a, C, rfl, T.oex, upd_same, rfl, .inr ⟨upd_same, ?_⟩⟩⟩
  have eH : del (upd H a (exo a C none)) a = H := by
    funext b
    by_cases hba : b = a
    · rw [hba, del_same, na]
    · rw [del_ne hba, upd_ne hba]
  rw [eH]
  have q := h.fin (r := .ex c [] [] env st) rfl
  exact q as F σ _ C none [] (Go.rfl h.frm) h.er T.at_ (.inl ⟨rfl, rfl⟩) .nil
end
end Dl
end
section
set_option Elab.async false
set_option linter.all false
set_option maxRecDepth 100000
set_option autoImplicit false
namespace Dl
open PySem PySem.Spec L2
/-! ### within an except suite: the exception at a, in slot i, with the fields ns at d -/
structure JX (K : PySem.W.Frag) (mg : Str → Option Value) (i : Nat) (a : Addr) (d : Option Addr) (ns : List Str) (σ : St) (as : List Addr) (F H : Hp) (ds : List D) : Prop where
  slot : σ[i]? = some (some (.ref a))
  flds : (ns = [] ∧ d = none) ∨ ∃ dd vs, d = some dd ∧ (F dd = some (.xd (ns.zip vs)) ∨ (F dd = none ∧ dd ∉ as ∧ H dd = some (.xd (ns.zip vs)))) ∧ Reps K mg as F vs ds
section
variable {K : PySem.W.Frag} {mg : Str → Option Value} {i : Nat} {a : Addr} {d : Option Addr} {ns : List Str} {σ : St} {as as1 : List Addr} {F F1 H H1 : Hp} {ds : List D} {st1 : Sto} {β α β' γ : Type} {rel : Rl β α} {rel' : Rl β' γ} {env : En} {st : Sto}
theorem JX.go (j : JX K mg i a d ns σ as F H ds) (x : Go K mg as F H as1 F1 st1 H1) : JX K mg i a d ns σ as1 F1 H1 ds := by
  refine ⟨j.slot, ?_⟩
  rcases j.flds with h | ⟨dd, vs, h1, h2, h3⟩
  · exact .inl h
  · refine .inr ⟨dd, vs, h1, ?_, h3.mono x.xt⟩
    rcases h2 with h2 | ⟨h4, h5, h6⟩
    · exact .inl (x.xt.sub _ _ h2)
    · obtain ⟨e1, e2, e3⟩ := x.kp dd _ h6 h4 h5
      exact .inr ⟨e2, e3, e1⟩
noncomputable def tJ (K : PySem.W.Frag) (mg : Str → Option Value) (i : Nat) (a : Addr) (d : Option Addr) (ns : List Str) (rel : Rl β α) (f : List D → FX α) : St → Hp → (β → Hp → Prop) → Prop := fun σ H Q => ∃ as F env st ds, AtR K mg rel W0 (f ds) as F env st σ H Q ∧ JX K mg i a d ns σ as F H ds
end
/-- the context of the suite -/
structure SX where
  X : Cx
  i : Nat
  a : Addr
  oe : Obj
  cls : Value
  d : Option Addr
  pn : List (Addr × Obj)
  ns : List Str
noncomputable abbrev SX.cx (S : SX) : Cx := S.X.suite S.a ((S.a, S.oe) :: S.pn)
noncomputable def XT_ (S : SX) (e : Expr) (f : List D → FT) : Prop := PT S.cx e (tJ S.X.K S.X.mg S.i S.a S.d S.ns rB f)
section
variable {S : SX} {e e1 e2 : Expr} {es : List Expr} {f f1 f2 : List D → FE} {fa : List D → FA} {ft : List D → FT} {pos p p2 : Pos} {k : Nat}
noncomputable def XW_ (S : SX) (e : Expr) (f : List D → FT) : Prop := PW S.cx e (tJ S.X.K S.X.mg S.i S.a S.d S.ns rB f)
theorem XW_.xt (h : XW_ S e ft) : XT_ S e ft := h.pt
/-- the field n of the exception -/
noncomputable def fXf (n : Str) (ns : List Str) (ds : List D) : FE := fP fun _ => lookN n ns ds
end
/-! ### try: .. except c as n: return e, any number of clauses -/
/-! ### as data -/
noncomputable def retF (f : FE) : FS := fun env st => match f env st with
  | some (.ok v st2) => some (.rt v st2)
  | _ => none
/-- an except clause: its class, the fields wanted (of a named one), the name's slot, what is returned -/
structure Hd where
  c : Str
  ns : List Str
  oi : Option Nat
  f : List D → FE
noncomputable def pickH : List Hd → Str → List Str → List D → FS
  | [], c', ns', ds, env, st => some (.ex c' ns' ds env st)
  | h :: r, c', ns', ds, env, st => if c' = h.c then (match h.oi with
      | none => retF (h.f ds) env st
      | some i => if ns' = h.ns ∧ i < env.length then retF (h.f ds) (env.set i none) st else none) else pickH r c' ns' ds env st
noncomputable def sTryH (XL : List Str) (hs : List Hd) (fb : FS) : FS := fun env st => match fb env st with
  | some (.ex c' ns' ds env1 st1) => if c' ∈ XL then pickH hs c' ns' ds env1 st1 else none
  | r => r
/-- what is known of the class c at CD beside the classes of XL -/
noncomputable def ExM (K : PySem.W.Frag) (mg : Str → Option Value) (XL : List Str) (c : Str) (CD : Addr) : Prop := ∀ c' ∈ XL, ∀ C', mg c' = some (.ref C') → PySem.W.exmOne K (.ref C') (.ref CD) = some (decide (c' = c)) ∧ (c' = c → C' = CD)
section
variable {X : Cx} {W : WX} {body : List Stmt} {pos : Pos} {fb : FS} {XL : List Str} {h₀ : ExceptHandler} {hds : List ExceptHandler} {l : List Hd}
theorem ER.none {K : PySem.W.Frag} {mg : Str → Option Value} {as : List Addr} {F : Hp} {σ : St} {env : En} (h : ER K mg as F σ env) {i : Nat} {o : Option V} : ER K mg as F (σ.set i o) (env.set i Option.none) := by
  refine ⟨by simp [h.len], fun j d e => ?_⟩
  by_cases hj : j = i
  · subst hj
    by_cases hl : j < env.length
    · rw [List.getElem?_set_self hl] at e; cases e
    · rw [List.getElem?_eq_none (by simp; omega)] at e; cases e
  · rw [List.getElem?_set_ne (Ne.symm hj)] at e
    obtain ⟨w, h1, h2⟩ := h.at_ j d e
    exact ⟨w, by rw [List.getElem?_set_ne (Ne.symm hj)]; exact h1, h2⟩
end
end Dl
end
section
set_option Elab.async false
set_option linter.all false
set_option maxRecDepth 100000
set_option autoImplicit false
namespace Dl
open PySem PySem.Spec L2
/-! ### more of what an except suite says, and facts of exception classes -/
theorem ExM.of {K : PySem.W.Frag} {mg : Str → Option Value} {XL : List Str} {c : Str} {CD : Addr} (l : List (Str × Addr)) (h1 : ∀ p ∈ l, mg p.1 = some (.ref p.2)) (h2 : ∀ p ∈ l, PySem.W.exmOne K (.ref p.2) (.ref CD) = some (decide (p.1 = c)) ∧ (p.1 = c → p.2 = CD))
    (h3 : ∀ c' ∈ XL, c' ∈ l.map (·.1) ∨ mg c' = none) : ExM K mg XL c CD := by
  intro c' hc C' hC
  rcases h3 c' hc with h | h
  · obtain ⟨p, hp, rfl⟩ := List.mem_map.mp h
    have := h1 p hp
    rw [hC] at this
    cases this
    exact h2 p hp
  · rw [h] at hC; cases hC
end Dl
end
section
set_option Elab.async false
set_option linter.all false
set_option maxRecDepth 100000
set_option autoImplicit false
namespace Dl
open PySem PySem.Spec L2
/-! ### starred items of a display -/
noncomputable def aStar (fa : FE) (fr : FA) : FA := fBind fa fun d => fBind (fP fun st => items st d) fun xs => fBind fr fun ys => fun _ st => some (.ok (xs ++ ys) st)
end Dl
end
section
set_option Elab.async false
set_option linter.all false
set_option maxRecDepth 100000
set_option autoImplicit false
namespace Dl
open PySem PySem.Spec L2
end Dl
end
section
set_option Elab.async false
set_option linter.all false
set_option maxRecDepth 100000
set_option autoImplicit false
namespace Dl
open PySem PySem.Spec PyProof.Rows L2
end Dl
end
section
set_option Elab.async false
set_option linter.all false
set_option maxRecDepth 100000
set_option autoImplicit false
namespace Dl
open PySem PySem.Spec L2
theorem addI_mem {acc : List Int} {k z : Int} : z ∈ addI acc k ↔ z ∈ acc ∨ z = k := by
  unfold addI
  split
  · constructor
    · exact .inl
    · rintro (h | h)
      · exact h
      · subst h; assumption
  · simp
theorem addI_nd {acc : List Int} {k : Int} (h : acc.Nodup) : (addI acc k).Nodup := by
  unfold addI
  split
  · exact h
  · rename_i hk
    rw [List.nodup_append]
    exact ⟨h, by simp, fun x hx y hy => by simp at hy; subst hy; exact fun z => hk (z ▸ hx)⟩
/-! ### sorted(set(x)), len(set(x)) -/
noncomputable def intsS (st : Sto) (d : D) : Option (List Int) := (items st d).bind intsD
end Dl
end
section
set_option Elab.async false
set_option linter.all false
set_option maxRecDepth 100000
set_option autoImplicit false
namespace Dl
open PySem PySem.Spec L2
/-! ### list methods that change the list -/
section
variable {K : PySem.W.Frag} {mg : Str → Option Value} {as : List Addr} {F : Hp}
theorem Reps.dropLast {vs : List V} {ds : List D} (r : Reps K mg as F vs ds) : Reps K mg as F vs.dropLast ds.dropLast := by
  rw [List.dropLast_eq_take, List.dropLast_eq_take, r.length]
  exact r.take _
end
/-! ### sorted(x) of ints -/
/-! ### x.index(y), x.count(y) -/
noncomputable def ixOf (y : Int) : List Int → Option Nat
  | [] => none
  | x :: xs => if x = y then some 0 else (ixOf y xs).map (· + 1)
theorem ixOf_some {y : Int} : ∀ {xs : List Int} {j : Nat}, ixOf y xs = some j → xs[j]? = some y ∧ ∀ m, m < j → xs[m]? ≠ some y
  | [], j, e => by cases e
  | x :: xs, j, e => by
    unfold ixOf at e
    split at e
    · rename_i h
      cases e
      subst h
      exact ⟨rfl, fun m hm => by omega⟩
    · rename_i h
      obtain ⟨k, h1, rfl⟩ := Option.map_eq_some_iff.mp e
      obtain ⟨h2, h3⟩ := ixOf_some h1
      refine ⟨by simpa using h2, fun m hm => ?_⟩
      cases m with
      | zero => simpa using h
      | succ m => simpa using h3 m (by omega)
noncomputable def gIndex (x : D) (ys : List D) : FE := fP fun st => match ys with
  | [.int y] => match (intsS st x).bind (ixOf y) with
    | some j => some (.int (j : Nat))
    | none => none
  | _ => none
end Dl
end
section
set_option Elab.async false
set_option linter.all false
set_option maxRecDepth 100000
set_option autoImplicit false
/-! t.index(x), xs.index(x) of ints -/
namespace Dl
open PySem PySem.Spec L2 PyProof.Rows
section
variable {X : Cx}
theorem flat_intsT (ns : List Int) : (ns.map V.int).all flatV = true := by
  rw [List.all_map]
  exact List.all_eq_true.mpr fun _ _ => rfl
theorem mt_tupI : MtR X "tuple.index" (fun x xs H Q => ∃ p, ∃ ys : List Int, ∃ z j, x = .ref p ∧ xs = [.int z] ∧ SqT X.K H p (ys.map V.int) ∧ ys[j]? = some z ∧ (∀ m, m < j → ys[m]? ≠ some z) ∧ Q (.int (j : Nat)) H) := by
  intro pins s σ H x xs v us Q I rx rs h
  obtain ⟨p, ys, z, j, rfl, rfl, hq, hy, hno, q⟩ := h
  cases rx
  obtain ⟨u, rfl, t, rfl⟩ := vals1 rs
  obtain ⟨its, r, pl, hz⟩ := I.tuple hq
  obtain ⟨⟨cls, dd, dt, sl⟩, ho, hc, n, hd⟩ := pl
  simp only at hc hd
  subst hc
  subst hd
  have hl : its.toArray.size = ys.length := by rw [List.size_toArray, ← r.length, List.length_map]
  have hj : j < its.toArray.size := by rw [hl]; exact (List.getElem?_eq_some_iff.mp hy).1
  have at' : ∀ (m : Nat) (hm : m < its.toArray.size), ∃ y t', ys[m]? = some y ∧ its.toArray[m] = Value.int y t' := fun m hm => by
    have hm' : m < ys.length := by rw [← hl]; exact hm
    obtain ⟨w, hw, t', hw'⟩ := r.get (i := m) (x := .int ys[m]) (by simp [hm'])
    refine ⟨ys[m], t', List.getElem?_eq_getElem hm', ?_⟩
    have e := (List.getElem?_eq_some_iff.mp hw).2
    rw [← hw', ← e]
    simp
  refine call_meets PySem.F.slot_tuple_index ⟨_, ho, rfl⟩ PySem.F.entry_tuple_index (PySem.F.args_tuple_index_2 _ _) (TI.tuple_indexAt p its.toArray n dd sl (.int z t) (eqU (.int z)) j hj ?_ ?_)
    ⟨ho, fun w hw => mem_eqAt (x := .int z) ⟨t, rfl⟩ rfl r (flat_intsT ys) w (by simpa using hw), ⟨.int (j : Nat), H, I.tok _, ⟨_, rfl⟩, q⟩⟩
  · obtain ⟨y, t', h1, h2⟩ := at' j hj
    rw [hy] at h1
    cases h1
    rw [h2]
    simp [eqU, eqV]
  · intro m hm hmj
    obtain ⟨y, t', h1, h2⟩ := at' m hm
    rw [h2]
    have : y ≠ z := fun e => hno m hmj (by rw [h1, e])
    simp [eqU, eqV, this]
/-- of that builtin type, and without attributes of its own -/
noncomputable def tyE (K : PySem.W.Frag) (T : String) (x : V) (H : Hp) : Prop := tyV K T x H ∨ (T = "tuple" ∧ ∃ p o u, x = .ref p ∧ H p = some (.frz o u) ∧ TupO o)
theorem tyE_is {pins : List (Addr × Obj)} {σ : L2.St} {H : Hp} {s : Shared} {T : String} {x : V} {v : Value} (I : L2.Inv X pins σ H s) (r : RelV x v) (ty : tyE X.K T x H) :
    s.TypeIs v T ∧ ∀ a, v = .ref a → ∃ ob, s.heap.get? a = some ob ∧ ob.dict = none := by
  rcases ty with ty | ⟨rfl, p, o, u, rfl, h, hc, hd⟩
  · exact tyV_is I r ty
  · cases r
    have ho : s.heap.get? p = some o := (I.hok p _ h).1
    refine ⟨⟨o, ho, hc⟩, fun a e => ?_⟩
    cases e
    exact ⟨o, ho, hd⟩
theorem TupX.ty {K : PySem.W.Frag} {F : Hp} {a : Addr} {xs : List V} (h : TupX K F a xs) {H : Hp} (e : Ext F H) : tyE K "tuple" (.ref a) H := by
  rcases h.ex with ⟨o, u, h1, h2⟩ | ⟨o, h1, h2, h3⟩
  · exact .inr ⟨rfl, a, o, u, rfl, e _ _ h1, h2⟩
  · exact .inl (.inr (.inl ⟨rfl, o, h1, h2, h3⟩))
/-- a method of a builtin type: which type the object tells -/
noncomputable def tBX (K : PySem.W.Frag) (T1 T2 : String) (r1 r2 : V → List V → Hp → VK → Prop) (to : TE) (t : TA) : TE := fun σ H Q => to σ H fun x H1 => (tyE K T1 x H1 ∧ t σ H1 fun xs H2 => r1 x xs H2 Q) ∨ (tyE K T2 x H1 ∧ t σ H1 fun xs H2 => r2 x xs H2 Q)
variable {o e : Expr} {es : List Expr} {to : TE} {t : TA} {name : Str} {apos cpos : Pos} {T1 T2 id1 id2 : String} {r1 r2 : V → List V → Hp → VK → Prop}
theorem pe_bx (pa1 : PlainAttrs T1) (slot1 : Slot T1 name id1) (hty1 : typeOf (.builtin id1) = pure (.type "method_descriptor")) (hm1 : MtR X id1 r1) (pa2 : PlainAttrs T2) (slot2 : Slot T2 name id2) (hty2 : typeOf (.builtin id2) = pure (.type "method_descriptor")) (hm2 : MtR X id2 r2)
    (ho : PE X o to) (ha : PA X (e :: es) t)
    (hbase : attributeBase o name X.env (eval o X.env) = eval o X.env)
    (hfew : ((backTo cpos (starEach (e :: es) X.env)).all (fun x => !x.1) && (backToKw cpos (keywordEach [] X.env)).all (fun x => x.1.isSome)
      && decide ((e :: es).length + ([] : List Keyword).length + (if ([] : List Keyword).isEmpty then 0 else 1) < 30)) = true)
    (hline : (apos.endLine == cpos.line) = true) (hs : starEach (e :: es) X.env = (false, eval e X.env) :: starEach es X.env) (hplain : (backTo cpos (starEach es X.env)).any (·.1) = false) :
    PE X (.Call (.Attribute o name apos) (e :: es) [] cpos) (tBX X.K T1 T2 r1 r2 to t) := by
  refine ⟨fun pins s σ H Q I h => ?_⟩
  refine wpAny_Call_method_late hbase hfew hline rfl (thn (ho.run pins s σ H _ I h) fun v s1 ⟨x, H1, I1, rx, ty⟩ => ?_)
  rcases ty with ⟨ty, q1⟩ | ⟨ty, q1⟩
  · obtain ⟨h1, h2⟩ := tyE_is I1 rx ty
    refine ⟨T1, id1, pa1, slot1, hty1, h1, h2, ?_⟩
    have hA := ha.run cpos pins s1 σ H1 _ I1 q1
    rw [hs] at hA ⊢
    refine Calls.callWith_builtin (by show (false || (backTo cpos (starEach es X.env)).any (·.1)) = false; rw [hplain] <;> rfl) (Calls.evalArgs_plain ?_)
    exact thn hA fun us s2 ⟨vs, H2, I2, r2, q2⟩ => hm1 pins s2 σ H2 x vs v us Q I2 rx r2 q2
  · obtain ⟨h1, h2⟩ := tyE_is I1 rx ty
    refine ⟨T2, id2, pa2, slot2, hty2, h1, h2, ?_⟩
    have hA := ha.run cpos pins s1 σ H1 _ I1 q1
    rw [hs] at hA ⊢
    refine Calls.callWith_builtin (by show (false || (backTo cpos (starEach es X.env)).any (·.1)) = false; rw [hplain] <;> rfl) (Calls.evalArgs_plain ?_)
    exact thn hA fun us s2 ⟨vs, H2, I2, r2, q2⟩ => hm2 pins s2 σ H2 x vs v us Q I2 rx r2 q2
end
/-- what index says: of a list or a tuple of ints -/
noncomputable def fIndex (fo : FE) (fa : FA) : FE := fBind fo fun x => fun env st => fGd (items st x).isSome (fBind fa fun ys => fun env st => fGd (items st x).isSome (gIndex x ys) env st) env st
section
variable {X : Cx} {W : WX} {e o : Expr} {fo : FE} {fa : FA} {apos cpos : Pos}
theorem de_index (ho : DE X W o fo) (ha : DA X W [e] fa) (hbase : attributeBase o "index" X.env (eval o X.env) = eval o X.env := by rfl)
    (hfew : ((backTo cpos (starEach [e] X.env)).all (fun x => !x.1) && (backToKw cpos (keywordEach [] X.env)).all (fun x => x.1.isSome) && decide ([e].length + ([] : List Keyword).length + (if ([] : List Keyword).isEmpty then 0 else 1) < 30)) = true := by rfl)
    (hline : (apos.endLine == cpos.line) = true := by rfl) (hs : starEach [e] X.env = (false, eval e X.env) :: starEach [] X.env := by rfl) (hplain : (backTo cpos (starEach [] X.env)).any (·.1) = false := by rfl) : DE X W (.Call (.Attribute o "index" apos) [e] [] cpos) (fIndex fo fa) := by
  refine pe_imp (pe_bx PySem.F.plainAttrs_list PySem.F.slot_list_index PySem.F.type_list_index mt_index PySem.F.plainAttrs_tuple PySem.F.slot_tuple_index PySem.F.type_tuple_index mt_tupI ho ha hbase hfew hline hs hplain) fun σ H Q ⟨as, F, env, st, h⟩ => ?_
  refine h.bind fun as1 F1 st1 d v H1 _ x1 p1 h1 => ?_
  obtain ⟨hi, h2⟩ := h1.gdS
  obtain ⟨xs, hx⟩ := Option.isSome_iff_exists.mp hi
  have fin : ∀ {as2 : List Addr} {F2 : Hp} {st2 : Sto} {ys : List D} {us : List V} {H2 : Hp}, Xt as1 F1 as2 F2 → Reps X.K X.mg as2 F2 us ys → AtR X.K X.mg (Rep X.K X.mg) W (fun env st => fGd (items st d).isSome (gIndex d ys) env st) as2 F2 env st2 σ H2 Q →
      ∃ (a : Addr) (ns : List Int) (z : Int) (j : Nat), v = .ref a ∧ us = [.int z] ∧ SqK X.K (kindD d) H2 a (ns.map V.int) ∧ ns[j]? = some z ∧ (∀ m, m < j → ns[m]? ≠ some z) ∧ Q (.int (j : Nat)) H2 := fun {as2 F2 st2 ys us H2} x2 r2 h3 => by
    obtain ⟨hi2, h4⟩ := h3.gdS
    obtain ⟨y, ey, q⟩ := h4.pure
    split at ey
    · rename_i z
      cases q2 : intsS st2 d with
      | none => simp only [q2, Option.bind_none] at ey; cases ey
      | some ns =>
        simp only [q2, Option.bind_some] at ey
        split at ey
        · rename_i j hj
          cases ey
          cases r2 with
          | cons p t =>
            cases t
            cases p
            unfold intsS at q2
            obtain ⟨ds, q3, q4⟩ := Option.bind_eq_some_iff.mp q2
            obtain ⟨a, us, e1, e2, e3⟩ := lkK h4.frm (p1.mono x2) q3
            have e4 := ints_of q4
            subst e4
            rw [e3.of_ints] at e2
            obtain ⟨g1, g2⟩ := ixOf_some hj
            exact ⟨a, ns, z, j, e1, rfl, e2, g1, g2, q as2 F2 H2 _ (Go.rfl h4.frm) (.int _)⟩
        · cases ey
    · cases ey
  cases hk : kindD d with
  | true =>
    refine .inl ⟨?_, ?_⟩
    · obtain ⟨a, us, e1, e2, _⟩ := lkK h1.frm p1 hx
      rw [hk] at e2
      subst e1
      exact .inl (.inl ⟨rfl, _, e2⟩)
    · refine h2.bind fun as2 F2 st2 ys us H2 _ x2 r2 h3 => ?_
      obtain ⟨a, ns, z, j, e1, e2, e3, e4, e5, q⟩ := fin x2 r2 h3
      rw [hk] at e3
      refine ⟨a, ns.map V.int, .int z, j, .int z, e1, e2, e3, rfl, flat_intsT ns, by simp [e4], by simp [eqV], fun m z' hm hz => ?_, q⟩
      rw [List.getElem?_map] at hz
      obtain ⟨k, hk2, rfl⟩ := Option.map_eq_some_iff.mp hz
      have : k ≠ z := fun e => e5 m hm (by rw [hk2, e])
      simp [eqV, this]
  | false =>
    refine .inr ⟨?_, ?_⟩
    · cases d with
      | tup ds =>
        cases p1 with
        | tup hX r => exact hX.ty h1.frm.sub
      | _ => simp [kindD] at hk
    · refine h2.bind fun as2 F2 st2 ys us H2 _ x2 r2 h3 => ?_
      obtain ⟨a, ns, z, j, e1, e2, e3, e4, e5, q⟩ := fin x2 r2 h3
      rw [hk] at e3
      exact ⟨a, ns, z, j, e1, e2, e3, e4, e5, q⟩
end
end Dl
end
section
set_option Elab.async false
set_option linter.all false
set_option maxRecDepth 100000
set_option autoImplicit false
/-! max(xs), min(xs) of a list of ints -/
namespace Dl
open PySem PySem.Spec L2 PyProof.Rows
end Dl
end
section
set_option Elab.async false
set_option linter.all false
set_option maxRecDepth 100000
set_option autoImplicit false
namespace Dl
open PySem PySem.Spec L2
/-! ### equality of things that hold tracked lists -/
end Dl
end
section
set_option Elab.async false
set_option linter.all false
set_option maxRecDepth 100000
set_option autoImplicit false
namespace Dl
open PySem PySem.Spec L2
/-! ### sorted(set(x)), x a list of fewer than 64 tuples of ints in [0, 64) -/
noncomputable def addK (acc : List (List Int)) (k : List Int) : List (List Int) := if k ∈ acc then acc else acc ++ [k]
noncomputable def ddK (ks : List (List Int)) : List (List Int) := ks.foldl addK []
noncomputable def srtT (ks : List (List Int)) : List (List Int) := (ddK ks).mergeSort fun a b => decide (TS.code 64 a ≤ TS.code 64 b)
theorem addK_mem {acc : List (List Int)} {k z : List Int} : z ∈ addK acc k ↔ z ∈ acc ∨ z = k := by
  unfold addK
  split
  · constructor
    · exact .inl
    · rintro (h | h)
      · exact h
      · subst h; assumption
  · simp
theorem addK_nd {acc : List (List Int)} {k : List Int} (h : acc.Nodup) : (addK acc k).Nodup := by
  unfold addK
  split
  · exact h
  · rename_i hk
    rw [List.nodup_append]
    exact ⟨h, by simp, fun x hx y hy => by simp at hy; subst hy; exact fun z => hk (z ▸ hx)⟩
theorem foldK_mem : ∀ {ns acc : List (List Int)} {z : List Int}, z ∈ ns.foldl addK acc ↔ z ∈ acc ∨ z ∈ ns
  | [], acc, z => by simp
  | n :: ns, acc, z => by
    rw [List.foldl_cons, foldK_mem, addK_mem]
    simp [or_assoc]
theorem foldK_nd : ∀ {ns acc : List (List Int)}, acc.Nodup → (ns.foldl addK acc).Nodup
  | [], _, h => h
  | n :: ns, acc, h => foldK_nd (ns := ns) (addK_nd h)
theorem ddK_mem {ns : List (List Int)} {z : List Int} : z ∈ ddK ns ↔ z ∈ ns := by unfold ddK; rw [foldK_mem]; simp
theorem ddK_nd {ns : List (List Int)} : (ddK ns).Nodup := foldK_nd (by simp)
theorem srtT_mem {ks : List (List Int)} {z : List Int} : z ∈ srtT ks ↔ z ∈ ks := by unfold srtT; rw [(List.mergeSort_perm _ _).mem_iff, ddK_mem]
theorem srtT_nd {ks : List (List Int)} : (srtT ks).Nodup := (List.mergeSort_perm _ _).nodup_iff.mpr ddK_nd
end Dl
end
section
set_option Elab.async false
set_option linter.all false
set_option maxRecDepth 100000
set_option autoImplicit false
/-! sum(xs) of a list or a tuple of ints -/
namespace Dl
open PySem PySem.Spec L2 PyProof.Rows
end Dl
end
section
set_option Elab.async false
set_option linter.all false
set_option maxRecDepth 100000
set_option autoImplicit false
/-! a < b < c < d -/
namespace Dl
open PySem PySem.Spec L2 PyProof.Rows
end Dl
end
section
set_option Elab.async false
set_option linter.all false
set_option maxRecDepth 100000
set_option autoImplicit false
namespace Dl
open PySem PySem.Spec L2
/-! ### dicts whose keys are (nested) tuples of ints, bools, None -/
mutual
noncomputable def nkD : D → Option NestedKey
  | .non => some .none
  | .int i => some (.num i)
  | .tup ds => (nkL ds).map .tup
  | _ => none
noncomputable def nkL : List D → Option (List NestedKey)
  | [] => some []
  | d :: ds => match nkD d, nkL ds with
    | some k, some ks => some (k :: ks)
    | _, _ => none
end
noncomputable def nkT : D → Option NestedKey
  | .tup ds => (nkL ds).map .tup
  | _ => none
section
variable {K : PySem.W.Frag} {mg : Str → Option Value} {as : List Addr} {F H : Hp} {st : Sto}
mutual
theorem rep_nk : ∀ {v : V} {d : D} {k : NestedKey}, Rep K mg as F v d → nkD d = some k → NkR K F v k
  | _, _, _, .non, e => by simp only [nkD] at e; cases e; exact .non
  | _, _, _, .bl b, e => by simp only [nkD] at e; cases e
  | _, _, _, .int i, e => by simp only [nkD] at e; cases e; exact .int i
  | _, _, _, .tup h r, e => by
    simp only [nkD] at e
    obtain ⟨ks, e1, rfl⟩ := Option.map_eq_some_iff.mp e
    exact .tup h (reps_nk r e1)
  | _, _, _, .str _, e => by simp only [nkD] at e; cases e
  | _, _, _, .ty _, e => by simp only [nkD] at e; cases e
  | _, _, _, .fn _, e => by simp only [nkD] at e; cases e
  | _, _, _, .gl _, e => by simp only [nkD] at e; cases e
  | _, _, _, .obj _, e => by simp only [nkD] at e; cases e
  | _, _, _, .lst _ _, e => by simp only [nkD] at e; cases e
  | _, _, _, .lstR _ _, e => by simp only [nkD] at e; cases e
  | _, _, _, .ins _ _ _, e => by simp only [nkD] at e; cases e
  | _, _, _, .dK _ _, e => by simp only [nkD] at e; cases e
  | _, _, _, .dT _ _, e => by simp only [nkD] at e; cases e
  | _, _, _, .dN _ _, e => by simp only [nkD] at e; cases e
theorem reps_nk : ∀ {vs : List V} {ds : List D} {ks : List NestedKey}, Reps K mg as F vs ds → nkL ds = some ks → NkA K F vs ks
  | _, _, _, .nil, e => by simp only [nkL] at e; cases e; exact .nil
  | _, _, _, .cons h t, e => by
    simp only [nkL] at e
    split at e
    · rename_i k ks e1 e2
      cases e
      exact .cons (rep_nk h e1) (reps_nk t e2)
    · cases e
end
mutual
theorem NkR.hash : ∀ {v : V} {k : NestedKey}, NkR K F v k → ∀ w w' : World, k.hash w = k.hash w'
  | _, _, .non, _, _ => by simp only [NestedKey.hash]
  | _, _, .int _, _, _ => by simp only [NestedKey.hash]
  | _, _, .tup _ r, w, w' => by simp only [NestedKey.hash, NkA.hash r w w']
theorem NkA.hash : ∀ {vs : List V} {ks : List NestedKey}, NkA K F vs ks → ∀ w w' : World, NestedKey.hashes w ks = NestedKey.hashes w' ks
  | _, _, .nil, _, _ => rfl
  | _, _, .cons h t, w, w' => by simp only [NestedKey.hashes, NkR.hash h w w', NkA.hash t w w']
end
end
section
variable {X : Cx} {pins : List (Addr × Obj)} {σ : St} {H : Hp} {s : Shared}
mutual
theorem NkR.is (I : Inv X pins σ H s) : ∀ {v : V} {k : NestedKey} {u : Value}, NkR X.K H v k → RelV v u → NestedIs s.heap k u
  | _, _, _, .non, r => by cases r; exact .none
  | _, _, _, .int i, r => by obtain ⟨t, rfl⟩ := r; exact .int i t
  | _, _, _, .tup h q, r => by
    cases r
    obtain ⟨its, rv, ⟨o, ho, hc, n, hd⟩, _⟩ := I.tuple h.sq
    exact .tup ho hc hd (by simpa using NkA.is I q rv)
theorem NkA.is (I : Inv X pins σ H s) : ∀ {vs : List V} {ks : List NestedKey} {us : List Value}, NkA X.K H vs ks → Vals vs us → NestedAll s.heap ks us
  | _, _, _, .nil, .nil => .nil
  | _, _, _, .cons h t, .cons r q => .cons (NkR.is I h r) (NkA.is I t q)
end
theorem rawE_w {w w' : World} {a : Addr} {o : Obj} {xs : List (NestedKey × Addr × Value)} (h : ∀ x ∈ xs, x.1.hash w = x.1.hash w') : RawE w a o xs = RawE w' a o xs := by
  unfold RawE
  have e : (xs.map fun x => (⟨x.1.hash w, .ref x.2.1, x.2.2⟩ : DictEntry)) = xs.map fun x => (⟨x.1.hash w', .ref x.2.1, x.2.2⟩ : DictEntry) := by
    apply List.map_congr_left
    intro x hx
    rw [h x hx]
  rw [e]
/-- the dict itself, from what is tracked -/
theorem DnO.get {F : Hp} {a : Addr} {ks : List NestedKey} {vs : List V} (I : Inv X pins σ H s) (sub : Ext F H) (h : DnO X.K F H a ks vs) : ∃ (xs : List (NestedKey × Addr × Value)) (o : Obj), H a = some (RawE X.w a o xs) ∧ xs.map (·.1) = ks ∧ (∀ x ∈ xs, NkR X.K F (.ref x.2.1) x.1) ∧ Vals vs (xs.map (·.2.2)) ∧
    s.heap.DictOfH (nestedKind X.prog X.w) a xs ∧ (a == sysModules) = false := by
  obtain ⟨w, o, xs, h1, h2, h3, h4⟩ := h.ex
  have ew : RawE w a o xs = RawE X.w a o xs := rawE_w fun x hx => (h3 x hx).hash w X.w
  rw [ew] at h1
  obtain ⟨⟨hs, g1, es, ep, g2, g3, g4, g5⟩, _⟩ := I.hok a _ h1
  refine ⟨xs, o, h1, h2, h3, h4, ⟨o, es, ep, g1, g2, g3, g4, fun x hx => ⟨((h3 x hx).ext sub).is I rfl, h.dp x.1 (by rw [← h2]; exact List.mem_map.mpr ⟨x, hx, rfl⟩)⟩, g5⟩, hs⟩
end
theorem rawE_ok {P : Program} {w : World} {h : Heap} {a : Addr} {xs : List (NestedKey × Addr × Value)} (hs : (a == sysModules) = false) (x : h.DictOfH (nestedKind P w) a xs) : ∃ o, ∀ H : Hp, ObjOk P w H h a (RawE w a o xs) := by
  obtain ⟨o, es, ep, g1, g2, g3, g4, _, g5⟩ := x
  refine ⟨o, fun H => ⟨⟨hs, g1, es, ep, g2, g3, g4, g5⟩, ⟨o, g1⟩, fun h1 h2 p k => ?_⟩⟩
  obtain ⟨q0, q1, es', ep', q2⟩ := p
  exact ⟨q0, k o q1, es', ep', q2⟩
noncomputable abbrev dict0 : Obj := { cls := .type "dict", data := .dict #[] }
theorem rawE_ok0 {P : Program} {w : World} {H : Hp} {h : Heap} (hs : (h.objs.size == sysModules) = false) : ObjOk P w H (h.push dict0) h.objs.size (RawE w h.objs.size dict0 []) := by
  have x := Heap.DictOfH.new h (knd := nestedKind P w)
  obtain ⟨o, es, ep, g1, g2, g3, g4, _, g5⟩ := x
  have e : o = dict0 := by
    have e2 := Heap.get?_push_size h (o := dict0) rfl
    exact Option.some.inj (g1.symm.trans e2)
  subst e
  refine ⟨⟨hs, g1, es, ep, g2, g3, g4, g5⟩, ⟨_, g1⟩, fun h1 h2 p k => ?_⟩
  obtain ⟨q0, q1, es', ep', q2⟩ := p
  exact ⟨q0, k _ q1, es', ep', q2⟩
/-! lists of pairs as data -/
noncomputable def atN (ks : List NestedKey) (ds : List D) (k : NestedKey) : Option D := match ks, ds with
  | k' :: ks, d :: ds => if k' = k then some d else atN ks ds k
  | _, _ => none
noncomputable def replN {α : Type} (ks : List NestedKey) (ds : List α) (k : NestedKey) (d : α) : List α := match ks, ds with
  | k' :: ks, d' :: ds => (if k' = k then d else d') :: replN ks ds k d
  | _, ds => ds
noncomputable def addN (ks : List NestedKey) (k : NestedKey) : List NestedKey := if k ∈ ks then ks else ks ++ [k]
noncomputable def putD {α : Type} (ks : List NestedKey) (ds : List α) (k : NestedKey) (d : α) : List α := if k ∈ ks then replN ks ds k d else ds ++ [d]
noncomputable def lkN (st : Sto) (y : D) : Option (List NestedKey × List D) := match look st y with
  | some (.dN ks ds) => some (ks, ds)
  | _ => none
theorem lk_dn {K : PySem.W.Frag} {mg : Str → Option Value} {as : List Addr} {F H : Hp} {st : Sto} {v : V} {y : D} {ks : List NestedKey} {ds : List D} (fr : Frm K mg as F st H) (r : Rep K mg as F v y) (e : lkN st y = some (ks, ds)) : ∃ a vs, v = .ref a ∧ DnO K F H a ks vs ∧ Reps K mg as F vs ds := by
  unfold lkN at e
  split at e
  · rename_i ks' ds' q
    cases e
    cases r <;> simp only [look, Option.some.injEq, reduceCtorEq] at q
    · rename_i hh
      obtain ⟨d', e', _, w⟩ := fr.has hh
      rw [q] at e'
      cases e'
      cases w with
      | dN h r => exact ⟨_, _, rfl, h, r⟩
    · rename_i h r
      cases q
      exact ⟨_, _, rfl, h.mono (fun _ _ e => e) fun o e => fr.sub _ _ e, r⟩
  · cases e
section
variable {X : Cx} {W : WX}
theorem nkT_rep {K : PySem.W.Frag} {mg : Str → Option Value} {as : List Addr} {F : Hp} {v : V} {d : D} {k : NestedKey} (r : Rep K mg as F v d) (e : nkT d = some k) : ∃ a, v = .ref a ∧ NkR K F v k := by
  unfold nkT at e
  split at e
  · cases r with
    | tup h q => exact ⟨_, rfl, rep_nk (.tup h q) e⟩
  · cases e
theorem atKey_mem {xs : List (NestedKey × Addr × Value)} {k : NestedKey} : (atKey xs k).isSome = decide (k ∈ xs.map (·.1)) := by
  unfold atKey
  rw [Option.isSome_map, Bool.eq_iff_iff, List.find?_isSome]
  simp only [decide_eq_true_eq, List.mem_map]
theorem atN_val {K : PySem.W.Frag} {mg : Str → Option Value} {as : List Addr} {F : Hp} {k : NestedKey} {d : D} : ∀ {xs : List (NestedKey × Addr × Value)} {vs : List V} {ds : List D}, Vals vs (xs.map (·.2.2)) → Reps K mg as F vs ds → atN (xs.map (·.1)) ds k = some d →
    ∃ p v, atKey xs k = some p ∧ RelV v p.2 ∧ Rep K mg as F v d
  | [], _, _, _, _, e => by simp only [List.map_nil, atN] at e; cases e
  | x :: xs, _, _, .cons rv tv, .cons r t, e => by
    simp only [List.map_cons, atN] at e
    unfold atKey
    rw [List.find?_cons]
    split at e
    · rename_i hk
      cases e
      simp only [hk, decide_true, if_true, Option.map_some]
      exact ⟨_, _, rfl, rv, r⟩
    · rename_i hk
      simp only [hk, decide_false, Bool.false_eq_true, if_false]
      exact atN_val (xs := xs) tv t e
/-! {} -/
noncomputable def fDictN (own : Bool) : FE := fNew own (.dN [] [])
theorem de_dictN {pos : Pos} (own : Bool) : DE X W (.Dict [] [] pos) (fDictN own) := by
  refine ⟨fun pins s σ H Q I ⟨as, F, env, st, h⟩ => ?_⟩
  have hq : ∀ p, H p = none → Q (.ref p) (upd H p (RawE X.w p dict0 [])) := fun p hp =>
    AtR.newX (d := .dN [] []) h hp (fun _ => .dN (vs := []) ⟨fun _ h => (List.not_mem_nil h).elim, X.w, dict0, [], upd_same, rfl, fun _ h => (List.not_mem_nil h).elim, .nil⟩ .nil) (fun _ => .dN (vs := []) ⟨fun _ h => (List.not_mem_nil h).elim, X.w, dict0, [], upd_same, rfl, fun _ h => (List.not_mem_nil h).elim, .nil⟩ .nil)
  refine wpAny_Dict_empty ⟨.ref s.heap.objs.size, _, I.laid (a := s.heap.objs.size) (o := RawE X.w s.heap.objs.size dict0 []) (t' := s.toks) (fun _ _ q => Heap.get?_push_of_some _ q) (Nat.le_refl _) (rawE_ok0 ?_), rfl, hq _ (I.hok.fresh (Nat.le_refl _))⟩
  exact beq_eq_false_iff_ne.mpr (Ne.symm (Nat.ne_of_lt I.big))
/-! d[k] = v -/
noncomputable def setSN (o i v : D) (st : Sto) : Option Sto := match o, nkT i with
  | .obj j, some k => match st[j]? with
    | some (.dN ks ds) => if k.depth ≤ 8 ∧ ks.length < 2 ^ 24 then some (st.set j (.dN (addN ks k) (putD ks ds k v))) else none
    | _ => none
  | _, _ => none
noncomputable def gSubSN (fo fi : FE) : FG := fun v env st => match okE fo env st with
  | some (o, st1) => match okE fi env st1 with
    | some (i, st2) => (setSN o i v st2).map fun st3 => (env, st3)
    | none => none
  | none => none
noncomputable def rSetN (X : Cx) : TSet := fun o i v H Q => ∃ a b k ob xs F vs, o = .ref a ∧ i = .ref b ∧ Ext F H ∧ DnO X.K F H a (xs.map (·.1)) vs ∧ H a = some (RawE X.w a ob xs) ∧ (∀ x ∈ xs, NkR X.K F (.ref x.2.1) x.1) ∧ NkR X.K F (.ref b) k ∧ k.depth ≤ 8 ∧ xs.length < sizeLine ∧
  ∀ u o', RelV v u → Q (upd H a (RawE X.w a o' (storedH xs k b u)))
theorem set_dn (hu : X.A.units + 65 < cLine) : PSet X (rSetN X) := by
  intro pins s σ H o i v ov iv u Q I ro ri rv h
  obtain ⟨a, b, k, ob, xs, F, vs, rfl, rfl, sub, hdn, ha, hxs, hk, hd, hl, hq⟩ := h
  cases ro; cases ri
  obtain ⟨⟨hs, g1, es, ep, g2, g3, g4, g5⟩, _⟩ := I.hok a _ ha
  have dd : s.heap.DictOfH (nestedKind X.prog X.w) a xs := ⟨ob, es, ep, g1, g2, g3, g4, fun x hx => ⟨((hxs x hx).ext sub).is I rfl, hdn.dp x.1 (List.mem_map.mpr ⟨x, hx, rfl⟩)⟩, g5⟩
  refine wpAny_setItem_heap (knd := nestedKind X.prog X.w) (hsz := Nat.le_of_lt hl) (show X.A.in1.units + 8 < cLine by show X.A.units + 1 + 8 < cLine; omega) ⟨(hk.ext sub).is I rfl, hd⟩ dd fun h' dd' hs' => ?_
  have he : ∃ q, h'.get? a = some q := let ⟨q, _, _, hq, _⟩ := dd'; ⟨q, hq⟩
  obtain ⟨o', ok'⟩ := rawE_ok hs dd'
  exact ⟨_, d_write I (by rw [ha]; exact True.intro) hs' he (ok' _), hq u o' rv⟩
theorem replN_reps {K : PySem.W.Frag} {mg : Str → Option Value} {as : List Addr} {F : Hp} {v : V} {d : D} {k : NestedKey} (rv : Rep K mg as F v d) : ∀ {ks : List NestedKey} {vs : List V} {ds : List D}, Reps K mg as F vs ds → Reps K mg as F (replN ks vs k v) (replN ks ds k d)
  | [], _, _, r => by simpa only [replN] using r
  | _ :: _, _, _, .nil => by simpa only [replN] using .nil
  | k' :: ks, _, _, .cons r t => by
    simp only [replN]
    refine .cons ?_ (replN_reps rv t)
    split
    · exact rv
    · exact r
theorem putD_reps {K : PySem.W.Frag} {mg : Str → Option Value} {as : List Addr} {F : Hp} {v : V} {d : D} {k : NestedKey} (rv : Rep K mg as F v d) {ks : List NestedKey} {vs : List V} {ds : List D} (r : Reps K mg as F vs ds) : Reps K mg as F (putD ks vs k v) (putD ks ds k d) := by
  unfold putD
  split
  · exact replN_reps rv r
  · exact r.append (.cons rv .nil)
theorem replN_vals {v : V} {u : Value} {k : NestedKey} (rv : RelV v u) : ∀ {xs : List (NestedKey × Addr × Value)} {vs : List V}, Vals vs (xs.map (·.2.2)) → Vals (replN (xs.map (·.1)) vs k v) ((xs.map (putAt k u)).map (·.2.2))
  | [], _, .nil => .nil
  | x :: xs, _, .cons r t => by
    simp only [List.map_cons, replN]
    refine .cons ?_ (replN_vals rv t)
    unfold putAt
    split
    · exact rv
    · exact r
theorem stored_keys {xs : List (NestedKey × Addr × Value)} {k : NestedKey} {b : Addr} {u : Value} : (storedH xs k b u).map (·.1) = addN (xs.map (·.1)) k := by
  unfold storedH addN
  rw [atKey_mem]
  by_cases h : k ∈ xs.map (·.1)
  · simp only [h, decide_true, if_true]
    exact keys_map_putAt xs k u
  · simp only [h, decide_false, Bool.false_eq_true, if_false, List.map_append, List.map_cons, List.map_nil]
theorem stored_vals {v : V} {u : Value} {k : NestedKey} {b : Addr} (rv : RelV v u) {xs : List (NestedKey × Addr × Value)} {vs : List V} (r : Vals vs (xs.map (·.2.2))) : Vals (putD (xs.map (·.1)) vs k v) ((storedH xs k b u).map (·.2.2)) := by
  unfold storedH putD
  rw [atKey_mem]
  by_cases h : k ∈ xs.map (·.1)
  · simp only [h, decide_true, if_true]
    exact replN_vals rv r
  · simp only [h, decide_false, Bool.false_eq_true, if_false, List.map_append, List.map_cons, List.map_nil]
    exact r.append (.cons rv .nil)
theorem stored_nk {K : PySem.W.Frag} {F : Hp} {u : Value} {k : NestedKey} {b : Addr} {xs : List (NestedKey × Addr × Value)} (hb : NkR K F (.ref b) k) (h : ∀ x ∈ xs, NkR K F (.ref x.2.1) x.1) : ∀ x ∈ storedH xs k b u, NkR K F (.ref x.2.1) x.1 := by
  intro x hx
  unfold storedH at hx
  split at hx
  · obtain ⟨y, hy, rfl⟩ := List.mem_map.mp hx
    unfold putAt
    split
    · exact h y hy
    · exact h y hy
  · rcases List.mem_append.mp hx with q | q
    · exact h x q
    · simp only [List.mem_cons, List.not_mem_nil, or_false] at q
      subst q
      exact hb
theorem addN_mem {ks : List NestedKey} {k x : NestedKey} : x ∈ addN ks k ↔ x ∈ ks ∨ x = k := by
  unfold addN
  split
  · rename_i h
    exact ⟨.inl, fun z => z.elim id fun e => by rw [e]; exact h⟩
  · simp
theorem dg_subN {o i : Expr} {fo fi : FE} {ws : List Nat} {pos : Pos} (hu : X.A.units + 65 < cLine) (ho : DE X W o fo) (hi : DE X W i fi)
    (ha : ∀ v, assign (.Subscript o i pos) X.env v = (do
      let ov ← holding [v] (eval o X.env)
      let iv ← holding [v, ov] (eval i X.env)
      standAt pos
      holding [v, ov, iv] (setItem ov iv v)
      release [v, ov, iv] []) := by intro _; rfl) : DG X ws (.Subscript o i pos) (gSubSN fo fi) := by
  refine pg_imp (pg_sub ho hi (set_dn hu) ha) fun v σ H Q h => ?_
  obtain ⟨as, F, env, st, d, fr, er, rp, env', st', e, q⟩ := h
  unfold gSubSN at e
  split at e
  · rename_i o' st1 q1
    split at e
    · rename_i i' st2 q2
      refine ⟨as, F, env, st, fr, er, _, okE_of q1, fun as1 F1 H1 v1 x1 r1 => ?_⟩
      refine ⟨as1, F1, env, st1, x1.frm, er.mono x1.xt, _, okE_of q2, fun as2 F2 H2 v2 x2 r2 => ?_⟩
      cases q3 : setSN o' i' d st2 with
      | none => rw [q3] at e; cases e
      | some st3 =>
        rw [q3] at e
        cases e
        unfold setSN at q3
        split at q3
        · rename_i j k hk
          split at q3
          · rename_i ks ds hj
            split at q3
            · rename_i hh
              cases q3
              obtain ⟨kb, rfl, rk⟩ := nkT_rep r2 hk
              have r1' := r1.mono x2.xt
              obtain ⟨aa, rfl, ha⟩ : ∃ aa, v1 = .ref aa ∧ as2[j]? = some aa := by cases r1' with | obj ha => exact ⟨_, rfl, ha⟩
              · skip
                obtain ⟨d2, e2, n2, w⟩ := x2.frm.has ha
                rw [hj] at e2; cases e2
                cases w with
                | dN h2 r3 =>
                  obtain ⟨w, ob, xs, p1, p2, p3, p4⟩ := h2.ex
                  rw [rawE_w fun x hx => (p3 x hx).hash w X.w] at p1
                  subst p2
                  refine ⟨_, _, k, ob, xs, F2, _, rfl, rfl, x2.frm.sub, h2, p1, p3, rk, hh.1, by rw [List.length_map] at hh; exact hh.2, fun u o' ru => ?_⟩
                  have rp2 := rp.mono (x1.xt.trans x2.xt)
                  have own : Own X.K X.mg as2 F2 (upd H2 _ (RawE X.w aa o' (storedH xs k kb u))) aa (.dN (addN (xs.map (·.1)) k) (putD (xs.map (·.1)) ds k d)) :=
                    .dN ⟨fun y hy => (addN_mem.mp hy).elim (h2.dp y) (fun z => by rw [z]; exact hh.1), X.w, o', storedH xs k kb u, upd_same, stored_keys, stored_nk rk p3, stored_vals ru p4⟩ (putD_reps rp2 r3)
                  have x3 := Go.setO (o := RawE X.w aa o' (storedH xs k kb u)) x2.frm ha own
                  exact q as2 F2 σ _ ((x1.trans x2).trans x3) (er.mono ((x1.xt.trans x2.xt).trans x3.xt)) rfl
            · cases q3
          · cases q3
        · cases q3
    · cases e
  · cases e
end
end Dl
end
section
set_option Elab.async false
set_option linter.all false
set_option maxRecDepth 100000
/-! enumerate over a list or a tuple -/
namespace PySem
open Sem (wp)
open AutoSeq1 (wpAny_loadPart')
end PySem
namespace Dl
open PySem PySem.Spec L2
end Dl
end
section
set_option Elab.async false
set_option linter.all false
set_option maxRecDepth 100000
set_option autoImplicit false
namespace Dl
open PySem PySem.Spec L2 PyProof.Rows
/-! ### sorted(x) of data that are alike -/
section
variable {K : PySem.W.Frag} {mg : Str → Option Value} {as : List Addr} {F : Hp}
theorem Reps.zip : ∀ {xs : List V} {ds : List D}, Reps K mg as F xs ds → ∀ p ∈ xs.zip ds, Rep K mg as F p.1 p.2
  | _, _, .nil, p, hp => by simp at hp
  | _, _, .cons h t, p, hp => by
    rcases List.mem_cons.mp (by simpa using hp) with rfl | hp
    · exact h
    · exact Reps.zip t p hp
end
end Dl
end
section
set_option Elab.async false
set_option linter.all false
set_option maxRecDepth 100000
set_option autoImplicit false
/-! x < y, min(x), x.count(y) of plain data -/
namespace Dl
open PySem PySem.Spec L2 PyProof.Rows
/-! ### min -/
section
variable {X : Cx} {W : WX}
theorem vals_at2 : ∀ {xs : List V} {us : List Value} {i : Nat} {u : Value}, Vals xs us → us[i]? = some u → ∃ v, xs[i]? = some v ∧ RelV v u
  | _, _, i, u, .nil, h => by simp at h
  | _, _, 0, u, .cons r t, h => by simp at h; subst h; exact ⟨_, rfl, r⟩
  | _, _, i + 1, u, .cons r t, h => by simpa using vals_at2 t (by simpa using h)
end
/-! ### x.count(y) -/
end Dl
end
section
set_option Elab.async false
set_option linter.all false
set_option maxRecDepth 100000
set_option autoImplicit false
namespace Dl
open PySem PySem.Spec L2
/-! ### walks of a dict with tuple keys that does not change: its keys, values, pairs -/
mutual
noncomputable def kD : NestedKey → D
  | .none => .non
  | .num i => .int i
  | .text x => .str x
  | .tup ks => .tup (kDs ks)
noncomputable def kDs : List NestedKey → List D
  | [] => []
  | k :: ks => kD k :: kDs ks
end
section
variable {K : PySem.W.Frag} {mg : Str → Option Value} {as : List Addr} {F H : Hp} {st : Sto}
mutual
theorem rep_kD : ∀ {v : V} {k : NestedKey}, NkR K F v k → Rep K mg as F v (kD k)
  | _, _, .non => by simp only [kD]; exact .non
  | _, _, .int i => by simp only [kD]; exact .int i
  | _, _, .tup h r => by simp only [kD]; exact .tup h (reps_kD r)
theorem reps_kD : ∀ {vs : List V} {ks : List NestedKey}, NkA K F vs ks → Reps K mg as F vs (kDs ks)
  | _, _, .nil => by simp only [kDs]; exact .nil
  | _, _, .cons h t => by simp only [kDs]; exact .cons (rep_kD h) (reps_kD t)
end
end
noncomputable def ItNi (w : World) (a : Addr) (o : Obj) (xs : List (NestedKey × Addr × Value)) (vs : List V) : It :=
  ⟨fun i H => H a = some (RawE w a o xs) ∧ i < xs.length, fun i H x H' => ∃ T o' y v, x = .ref T ∧ H T = none ∧ TupO o' ∧ H' = upd H T (.frz o' (.tup [.ref y.2.1, v])) ∧ xs[i]? = some y ∧ vs[i]? = some v, fun i H => H a = some (RawE w a o xs) ∧ xs.length ≤ i⟩
section
variable {X : Cx} {pins : List (Addr × Obj)} {σ : St} {H : Hp} {s : Shared}
theorem raw_of {a : Addr} {o : Obj} {xs : List (NestedKey × Addr × Value)} (I : Inv X pins σ H s) (h : H a = some (RawE X.w a o xs)) :
    (a == sysModules) = false ∧ ∃ es ep, o.data = .dict es ep ∧ s.heap.DictRaw a es ep ∧ es.size = xs.length ∧ ∀ i (hi : i < es.size), ∃ y, xs[i]? = some y ∧ es[i].key = .ref y.2.1 ∧ es[i].val = y.2.2 := by
  obtain ⟨⟨hs, g1, es, ep, g2, g3, g4, g5⟩, _⟩ := I.hok a _ h
  have hz : es.size = xs.length := by rw [← Array.length_toList, g4, List.length_map]
  refine ⟨hs, es, ep, g3, ⟨o, g1, g2, g3⟩, hz, fun i hi => ?_⟩
  have hx : i < xs.length := hz ▸ hi
  refine ⟨xs[i], List.getElem?_eq_getElem hx, ?_⟩
  have e : es.toList[i]? = some (⟨(xs[i]).1.hash X.w, .ref (xs[i]).2.1, (xs[i]).2.2⟩ : DictEntry) := by rw [g4, List.getElem?_map, List.getElem?_eq_getElem hx]; rfl
  rw [Array.getElem?_toList, Array.getElem?_eq_getElem hi] at e
  have e2 := Option.some.inj e
  rw [e2]
  exact ⟨rfl, rfl⟩
end
section
variable {P : Program} {w : World} {K : PySem.W.Frag} {tg : Expr} {a : Addr} {o : Obj} {es : Array DictEntry} {ep : Nat} {xs : List (NestedKey × Addr × Value)} {vs : List V}
theorem turn_ni {elts : List Expr} {kk : Nat} {tpos : Pos} (it : Addr) (hod : o.data = .dict es ep) (hz : es.size = xs.length) (hv : Vals vs (xs.map (·.2.2))) :
    Turn P w K (.Tuple elts kk tpos) (ItNi w a o xs vs) [it] it (fun i h => ∃ ok ov, IsItemIter h it a i es.size ep ok ov) where
  mem := by simp
  obj := fun i h st b hb => by
    have e : b = it := by simpa using hb
    subst e
    obtain ⟨ok, ov, e⟩ := st
    exact ⟨_, e, fun v z => nomatch z⟩
  keep := fun i h h' st k => let ⟨ok, ov, e⟩ := st; ⟨ok, ov, k it (by simp) _ e⟩
  item := by
    intro X hP hw hK hc i pins s σ H E I hf st hg
    subst hP hw hK
    obtain ⟨hd, hi⟩ := hg
    obtain ⟨hs, es', ep', hdt, hm, _, hy⟩ := raw_of I hd
    obtain ⟨rfl, rfl⟩ := dict_ep hod hdt
    obtain ⟨y, y1, y2, y3⟩ := hy i (hz ▸ hi)
    obtain ⟨v, v1, v2⟩ := vals_at2 hv (i := i) (u := y.2.2) (by rw [List.getElem?_map, y1]; rfl)
    obtain ⟨ok, ov, he⟩ := st
    have hlt : it < s.heap.objs.size := Heap.lt_size he
    refine wpAny_pyNext_items_item_raw he hm (hz ▸ hi) fun h' ho hT hsz hk => ?_
    refine ⟨_, rfl, wpAny_letOwnedTupleGo_items (s := { s with heap := h' }) ho fun h'' he' sb => ?_⟩
    have hT2 : h''.get? s.heap.objs.size = some { cls := .type "tuple", data := .seq #[(es'[i]'(hz ▸ hi)).key, (es'[i]'(hz ▸ hi)).val] } := (sb.2 _ (Nat.ne_of_gt hlt)).trans hT
    have new : ObjOk X.prog X.w (upd H s.heap.objs.size (.frz { cls := .type "tuple", data := .seq #[(es'[i]'(hz ▸ hi)).key, (es'[i]'(hz ▸ hi)).val] } (.tup [.ref y.2.1, v]))) h'' s.heap.objs.size (.frz { cls := .type "tuple", data := .seq #[(es'[i]'(hz ▸ hi)).key, (es'[i]'(hz ▸ hi)).val] } (.tup [.ref y.2.1, v])) :=
      ⟨hT2, by show 2 ≤ sizeLine; decide, [(es'[i]'(hz ▸ hi)).key, (es'[i]'(hz ▸ hi)).val], .cons y2 (.cons (by rw [y3]; exact v2) .nil), ⟨_, hT2, rfl, _, rfl⟩⟩
    have I1 : Inv X pins σ (upd H s.heap.objs.size (.frz { cls := .type "tuple", data := .seq #[(es'[i]'(hz ▸ hi)).key, (es'[i]'(hz ▸ hi)).val] } (.tup [.ref y.2.1, v]))) { s with heap := h'' } :=
      I.turnedNew (t' := s.toks) (ch := [it]) (fun b ob hb e => (sb.2 b (by simpa using hb)).trans (hk b ob (by simpa using hb) e)) hf (Nat.le_refl _) new
    refine ⟨.ref s.heap.objs.size, _, I1, rfl, ⟨_, _, y, v, rfl, I.hok.fresh (Nat.le_refl _), tupO _, rfl, y1, v1⟩, ⟨_, _, he'⟩, fun b hb => ?_⟩
    have e : b = it := by simpa using hb
    rw [e, upd_ne (Nat.ne_of_lt hlt)]
    exact (hf it (by simp)).1
  done := by
    intro X hP hw hK hc i pins s σ H E I hf st hg
    subst hP hw hK
    obtain ⟨hd, hi⟩ := hg
    obtain ⟨f0, f1, f2, f3, f4, f5⟩ := hf it (by simp)
    obtain ⟨hs, es', ep', hdt, hm, _, hy⟩ := raw_of I hd
    obtain ⟨rfl, rfl⟩ := dict_ep hod hdt
    obtain ⟨ok, ov, he⟩ := st
    exact wpAny_pyNext_items_end_raw (I.ok.hd hc) he hm (hz ▸ hi) fun h' eb => ⟨rfl, I.turned (t' := s.toks) (fun b ob hb e => eb b ob hb e) f0 f1 f3 f4 f5⟩
  self := fun A i s Q E st h => let ⟨_, _, e⟩ := st; PySem.W.kcp_self e h
end
noncomputable def iNi (w : World) (td : TE) : TI := fun σ H R => td σ H fun x H1 => ∃ a o xs vs, x = .ref a ∧ H1 a = some (RawE w a o xs) ∧ Vals vs (xs.map (·.2.2)) ∧ R (ItNi w a o xs vs) H1
section
variable {X : Cx} {tg e : Expr} {td : TE} {apos cpos : Pos}
theorem pi_ni {elts : List Expr} {kk : Nat} {tpos : Pos} (he : PE X e td) (hbase : attributeBase e "items" X.env (eval e X.env) = eval e X.env := by rfl) (hline : (apos.endLine == cpos.line) = true := by rfl) :
    PI X (.Tuple elts kk tpos) (.Call (.Attribute e "items" apos) [] [] cpos) (iNi X.w td) := by
  refine ⟨fun pins s σ H R I h => ?_⟩
  refine wpAny_Call_method (T := "dict") (id := "dict.items") hbase rfl hline F.plainAttrs_dict F.slot_dict_items F.type_dict_items (thn (he.run pins s σ H _ I h) fun u s1 ⟨x, H1, I1, rx, a, o, xs, vs, ex, hd, hv, q⟩ => ?_)
  subst ex
  obtain rfl : u = Value.ref a := rx
  obtain ⟨hs, es, ep, hdt, hm, hz, _⟩ := raw_of I1 hd
  obtain ⟨o', g1, g2, g3⟩ := id hm
  refine ⟨hm.typeIs, fun b q => by cases q; exact ⟨o', g1, g2.2.1⟩, ?_⟩
  have I2 : Inv X pins σ H1 { s1 with heap := s1.heap.push { cls := .type "dict_items", data := .fields #[.ref a] } } := I1.kept (t' := s1.toks) fun b ob q => Heap.get?_push_of_some _ q
  have fin : wpAny (model X.prog X.w) X.A (pyIter (.ref s1.heap.objs.size)) (PIE X pins σ (.Tuple elts kk tpos) R) X.xe { s1 with heap := s1.heap.push { cls := .type "dict_items", data := .fields #[.ref a] } } :=
    wpAny_pyIter_items_raw (d := a) ⟨_, Heap.get?_push_size _ rfl, rfl, rfl⟩ (hm.at fun _ q => Heap.get?_push_of_some _ q) (pi_one (tk := s1.toks) I2 _ (turn_ni _ hdt hz hv) ⟨.none, .none, Heap.get?_push_size _ rfl⟩ q)
  show wpAny _ _ (callWith cpos (.builtin "dict.items") [.ref a] [] []) _ X.xe s1
  exact method_meetsIn F.slot_dict_items F.entry_dict_items rfl (PySem.evalArgs_none ⟨rfl, hm.typeIs, F.args_dict_items_1 _, _, meets_dict_items_raw a hs, ⟨es, ep, hm⟩, fin⟩)
end
/-! as data: only of a dict that is frozen -/
noncomputable def niD (ks : List NestedKey) (ds : List D) : List D := List.zipWith (fun k d => D.tup [kD k, d]) ks ds
noncomputable def itNi (d : D) : Option ItD := match d with
  | .dN ks ds => some ⟨niD ks ds, fun _ => True⟩
  | _ => none
noncomputable def fItNi (fe : FE) : FI := fBind fe fun d => fP fun _ => itNi d
theorem DnO.raw {K : PySem.W.Frag} {F H : Hp} {a : Addr} {ks : List NestedKey} {vs : List V} (w' : World) (h : DnO K F H a ks vs) : ∃ (o : Obj) (xs : List (NestedKey × Addr × Value)), H a = some (RawE w' a o xs) ∧ xs.map (·.1) = ks ∧ (∀ x ∈ xs, NkR K F (.ref x.2.1) x.1) ∧ Vals vs (xs.map (·.2.2)) := by
  obtain ⟨w, o, xs, h1, h2, h3, h4⟩ := h.ex
  rw [rawE_w (w' := w') fun x hx => (h3 x hx).hash w w'] at h1
  exact ⟨o, xs, h1, h2, h3, h4⟩
section
variable {X : Cx} {W : WX} {tg e : Expr} {fe : FE} {apos cpos : Pos}
theorem di_ni {elts : List Expr} {kk : Nat} {tpos : Pos} (he : DE X W e fe) (hbase : attributeBase e "items" X.env (eval e X.env) = eval e X.env := by rfl) (hline : (apos.endLine == cpos.line) = true := by rfl) : DI X W (.Tuple elts kk tpos) (.Call (.Attribute e "items" apos) [] [] cpos) (fItNi fe) := by
  refine pi_imp (pi_ni he hbase hline) fun σ H R ⟨as, F, env, st, h⟩ => ?_
  refine h.bind fun as1 F1 st1 d v H1 _ x1 r1 h1 => ?_
  obtain ⟨it, ei, q⟩ := h1.pure
  unfold itNi at ei
  split at ei
  · cases ei
    cases r1 with
    | dN hn r =>
      obtain ⟨o, xs, g1, g2, g3, g4⟩ := hn.raw X.w
      refine ⟨_, o, xs, _, rfl, h1.frm.sub _ _ g1, g4, q as1 F1 H1 _ (Go.rfl h1.frm) fun as' F' st' H' x fr _ => ?_⟩
      have hl := g4.length; rw [List.length_map, r.length] at hl; have hl := hl.symm
      have k1 := fr.sub _ _ (x.sub _ _ g1)
      subst g2
      have hz : ∀ dz : List D, dz.length = xs.length → (niD (xs.map (·.1)) dz).length = xs.length := fun dz e => by unfold niD; rw [List.length_zipWith, List.length_map, e, Nat.min_self]
      have hz := hz _ hl.symm
      refine ⟨fun i hi => ⟨k1, by rw [← hz]; exact hi⟩, fun i hi => ⟨k1, by rw [← hz]; exact Nat.le_of_eq hi.symm⟩, fun i z H'' hy hi => ?_⟩
      obtain ⟨T, o', y, v, rfl, hT, hO, rfl, y1, y2⟩ := hy
      obtain ⟨dz, e3, e4⟩ := (r.mono x).getV y2
      have g := Go.newF (o := .frz o' (.tup [.ref y.2.1, v])) fr hT
      refine ⟨.tup [kD y.1, dz], _, ?_, g, .tup (.of upd_same hO) (.cons (rep_kD (((g3 y (List.mem_of_getElem? y1)).ext x.sub).ext g.xt.sub)) (.cons (e4.mono g.xt) .nil))⟩
      simp only [niD, List.getElem?_zipWith, List.getElem?_map, y1, e3, Option.map_some]
  · cases ei
end
section
variable {env : En} {st : Sto} {QI : ItD → Sto → Prop} {X : XQ} {fe : FE}
noncomputable def NiQ (QI : ItD → Sto → Prop) (d : D) (s : Sto) : Prop := ∃ it, itNi d = some it ∧ QI it s
theorem wp_ni (h : wpX fe env st (NiQ QI) X) : wpX (fItNi fe) env st QI X := wp_bind (wp_mono h fun d s ⟨it, e, h⟩ => wp_P e h)
theorem ni_q {ks : List NestedKey} {ds : List D} (h : QI ⟨niD ks ds, fun _ => True⟩ st) : NiQ QI (.dN ks ds) st := ⟨_, rfl, h⟩
end
end Dl
end
section
set_option Elab.async false
set_option linter.all false
set_option maxRecDepth 100000
set_option autoImplicit false
namespace Dl
open PySem PySem.Spec L2
noncomputable instance instMemKey (k : Key) (ks : List Key) : Decidable (k ∈ ks) := @List.instDecidableMemOfLawfulBEq Key instBEqOfDecidableEq inferInstance k ks
/-! ### dicts whose keys are ints or texts -/
end Dl
end
section
set_option Elab.async false
set_option linter.all false
set_option maxRecDepth 100000
set_option autoImplicit false
namespace Dl
open PySem PySem.Spec L2
/-! ### d.get(k), d.get(k, x); [.., *d.values()] -/
noncomputable def getN (st : Sto) (d k x : D) : Option D := match lkN st d, nkT k with
  | some (ks, ds), some k => if k.depth ≤ 8 then some ((atN ks ds k).getD x) else none
  | _, _ => none
noncomputable def fGetN2 (fo fk fx : FE) : FE := fBind fo fun d => fun env st => fGd (lkN st d).isSome (fBind fk fun k => fBind fx fun x => fP fun st => getN st d k x) env st
section
variable {K : PySem.W.Frag} {mg : Str → Option Value} {as : List Addr} {F : Hp}
theorem atN_none {k : NestedKey} : ∀ {xs : List (NestedKey × Addr × Value)} {vs : List V} {ds : List D}, Vals vs (xs.map (·.2.2)) → Reps K mg as F vs ds → atN (xs.map (·.1)) ds k = none → atKey xs k = none
  | [], _, _, _, _, _ => rfl
  | x :: xs, _, _, .cons rv tv, .cons r t, e => by
    simp only [List.map_cons, atN] at e
    split at e
    · cases e
    · rename_i hk
      unfold atKey
      rw [List.find?_cons]
      simp only [hk, decide_false]
      exact atN_none (xs := xs) tv t e
end
section
variable {X : Cx} {W : WX} {o e f : Expr} {apos cpos : Pos} {fo fe fx : FE}
/-! the same, tuple keys -/
noncomputable def DnAt (X : Cx) (H : Hp) (a : Addr) : Prop := ∃ F ks vs, Ext F H ∧ DnO X.K F H a ks vs
/-- what get finds -/
noncomputable def NGet (X : Cx) (H : Hp) (a : Addr) (y : V) (v0 v : V) : Prop := ∃ F ks vs ka k, Ext F H ∧ DnO X.K F H a ks vs ∧ y = .ref ka ∧ NkR X.K F (.ref ka) k ∧ k.depth ≤ 8 ∧
  ∀ (xs : List (NestedKey × Addr × Value)) (u0 : Value), xs.map (·.1) = ks → Vals vs (xs.map (·.2.2)) → RelV v0 u0 → RelV v (((atKey xs k).map (·.2)).getD u0)
noncomputable def tNGet2 (X : Cx) (td ty tx : TE) : TE := fun σ H Q => td σ H fun x H1 => ∃ a, x = .ref a ∧ DnAt X H1 a ∧ ty σ H1 fun y H2 => tx σ H2 fun z H3 => ∃ v, NGet X H3 a y z v ∧ Q v H3
theorem dnAt_at {pins : List (Addr × Obj)} {σ : St} {H : Hp} {s : Shared} {a : Addr} (I : Inv X pins σ H s) (d : DnAt X H a) :
    s.TypeIs (.ref a) "dict" ∧ (∀ b, Value.ref a = .ref b → ∃ ob, s.heap.get? b = some ob ∧ ob.dict = none) := by
  obtain ⟨F, ks, vs, sub, h⟩ := d
  obtain ⟨xs, o, g1, g2, g3, g4, g5, g6⟩ := h.get I sub
  refine ⟨g5.typeIs, fun b q => ?_⟩
  cases q
  obtain ⟨ob, _, _, h1, h2, _⟩ := g5
  exact ⟨ob, h1, h2.2.1⟩
theorem n_get2 {pins : List (Addr × Obj)} {σ : St} {H : Hp} {s : Shared} {a : Addr} {y v z : V} {u r : Value} {Q : Value → Shared → Prop} {E : Value → Shared → Prop} (hu : X.A.units + 65 < cLine) (I : Inv X pins σ H s) (g : NGet X H a y z v) (ry : RelV y u) (rz : RelV z r) (h : ∀ w' s', Inv X pins σ H s' → RelV v w' → Q w' s') :
    wpAny (model X.prog X.w) X.A (call (.builtin "dict.get") [.ref a, u, r]) Q E s := by
  obtain ⟨F, ks, vs, ka, k, sub, hdn, rfl, hk, hd, hv⟩ := g
  cases ry
  obtain ⟨xs, o, g1, g2, g3, g4, g5, g6⟩ := hdn.get I sub
  refine call_meetsIn PySem.F.slot_dict_get g5.typeIs PySem.F.entry_dict_get (PySem.F.args_dict_get_3 _ _ _) (meetsH_dict_get_default (nestedKind X.prog X.w) a ka g6 r) ⟨by show X.A.units + 1 + 8 < cLine; omega, k, xs, ⟨(hk.ext sub).is I rfl, hd⟩, g5, h _ _ (I.tok _) (hv xs r g2 g4 rz)⟩
theorem pe_nget2 {td ty tx : TE} (hu : X.A.units + 65 < cLine) (ho : PE X o td) (he : PE X e ty) (hf : PE X f tx) (m : M2 X o "get" apos e f cpos) : PE X (.Call (.Attribute o "get" apos) [e, f] [] cpos) (tNGet2 X td ty tx) := by
  refine ⟨fun pins s σ H Q I h => ?_⟩
  refine wpAny_Call_method m.base m.few m.line PySem.F.plainAttrs_dict PySem.F.slot_dict_get PySem.F.type_dict_get (thn (ho.run pins s σ H _ I h) fun u s1 ⟨x, H1, I1, rx, a, ex, d, q1⟩ => ?_)
  subst ex
  obtain rfl : u = Value.ref a := rx
  obtain ⟨t1, t2⟩ := dnAt_at I1 d
  refine ⟨t1, t2, ?_⟩
  rw [m.trees]
  refine Calls.callWith_builtin rfl (Calls.evalArgs_plain (Calls.spliced_cons (thn (he.run pins s1 σ H1 _ I1 q1) fun iv s2 ⟨y, H2, I2, ry, q2⟩ =>
    Calls.spliced_cons (thn (hf.run pins s2 σ H2 _ I2 q2) fun fv s3 ⟨z, H3, I3, rz, ov, g, q3⟩ => Calls.spliced_nil ?_))))
  exact n_get2 hu I3 g ry rz fun w' s4 I4 rw' => ⟨_, H3, I4, rw', q3⟩
theorem lkN_at {as : List Addr} {F H : Hp} {st : Sto} {v : V} {d : D} (fr : Frm X.K X.mg as F st H) (r : Rep X.K X.mg as F v d) (h : (lkN st d).isSome = true) : ∃ a, v = .ref a ∧ DnAt X H a := by
  obtain ⟨⟨ks, ds⟩, e⟩ := Option.isSome_iff_exists.mp h
  obtain ⟨a, vs, e1, h1, _⟩ := lk_dn fr r e
  exact ⟨a, e1, F, ks, vs, fr.sub, h1⟩
theorem nget_of {as : List Addr} {F H : Hp} {st : Sto} {a : Addr} {y z : V} {d k x w0 : D} (fr : Frm X.K X.mg as F st H) (r : Rep X.K X.mg as F (.ref a) d) (rk : Rep X.K X.mg as F y k) (rx : Rep X.K X.mg as F z x) (e : getN st d k x = some w0) : ∃ v, NGet X H a y z v ∧ Rep X.K X.mg as F v w0 := by
  unfold getN at e
  split at e
  · rename_i ks ds kk e1 e2
    split at e
    · rename_i hd
      cases e
      obtain ⟨ka, rfl, hk⟩ := nkT_rep rk e2
      obtain ⟨a', vs, ea, hdn, hr⟩ := lk_dn fr r e1
      cases ea
      cases e3 : atN ks ds kk with
      | none => exact ⟨z, ⟨F, ks, vs, ka, kk, fr.sub, hdn, rfl, hk, hd, fun xs u0 h1 h2 h3 => by
          subst h1
          rw [atN_none h2 hr e3]
          exact h3⟩, rx⟩
      | some d1 =>
        obtain ⟨w, o, xs0, p1, p2, p3, p4⟩ := hdn.ex
        have e4 := e3
        rw [← p2] at e4
        obtain ⟨p, v, h1, h2, h3⟩ := atN_val p4 hr e4
        refine ⟨v, ⟨F, ks, vs, ka, kk, fr.sub, hdn, rfl, hk, hd, fun xs u0 q1 q2 q3 => ?_⟩, h3⟩
        subst q1
        obtain ⟨p', v', k1, k2, k3⟩ := atN_val q2 hr e3
        rw [k1]
        have key : ∀ (ys zs : List (NestedKey × Addr × Value)) (us : List V), ys.map (·.1) = zs.map (·.1) → Vals us (ys.map (·.2.2)) → Vals us (zs.map (·.2.2)) → ∀ p q, atKey ys kk = some p → atKey zs kk = some q → ∀ v, RelV v p.2 → ∃ u ∈ us, RelV u p.2 ∧ RelV u q.2 := by
          intro ys
          induction ys with
          | nil => intro zs us h1 h2 h3 p q e; cases e
          | cons y ys ih =>
            intro zs us h1 h2 h3 p q ep eq v hv
            cases zs with
            | nil => cases h1
            | cons z zs =>
              simp only [List.map_cons, List.cons.injEq] at h1
              cases h2 with
              | cons r2 t2 =>
                cases h3 with
                | cons r3 t3 =>
                  unfold atKey at ep eq
                  rw [List.find?_cons] at ep eq
                  by_cases hk : y.1 = kk
                  · have hk2 : z.1 = kk := h1.1 ▸ hk
                    simp only [hk, hk2, decide_true, Option.map_some, Option.some.injEq] at ep eq
                    subst ep; subst eq
                    exact ⟨_, List.mem_cons_self, r2, r3⟩
                  · have hk2 : ¬ z.1 = kk := fun q => hk (h1.1 ▸ q)
                    simp only [hk, hk2, decide_false] at ep eq
                    obtain ⟨u, hu, k1, k2⟩ := ih zs _ h1.2 t2 t3 p q ep eq v hv
                    exact ⟨u, List.mem_cons_of_mem _ hu, k1, k2⟩
        obtain ⟨u, hu, u1, u2⟩ := key xs0 xs vs p2 p4 q2 p p' h1 k1 v h2
        have : u = v := u1.inj h2
        subst this
        exact u2
    · cases e
  · cases e
theorem de_getN2 (hu : X.A.units + 65 < cLine) (ho : DE X W o fo) (he : DE X W e fe) (hf : DE X W f fx) (m : M2 X o "get" apos e f cpos := by exact ⟨rfl, rfl, rfl, rfl⟩) : DE X W (.Call (.Attribute o "get" apos) [e, f] [] cpos) (fGetN2 fo fe fx) := by
  refine pe_imp (pe_nget2 hu ho he hf m) fun σ H Q ⟨as, F, env, st, h⟩ => ?_
  refine h.bind fun as1 F1 st1 d v H1 _ x1 r1 h1 => ?_
  obtain ⟨hi, h2⟩ := h1.gdS
  obtain ⟨a, rfl, hd⟩ := lkN_at h1.frm r1 hi
  refine ⟨a, rfl, hd, h2.bind fun as2 F2 st2 k u H2 _ x2 r2 h3 => ?_⟩
  refine h3.bind fun as3 F3 st3 x z H3 _ x3 r3 h4 => ?_
  obtain ⟨w0, e, q⟩ := h4.pure
  obtain ⟨v, g, rv⟩ := nget_of h4.frm ((r1.mono x2).mono x3) (r2.mono x3) r3 e
  exact ⟨v, g, q as3 F3 H3 _ (Go.rfl h4.frm) rv⟩
end
/-! ### *d.values() in a display, int or text keys -/
section
variable {env : En} {st : Sto} {QD : D → Sto → Prop} {QA : List D → Sto → Prop} {X : XQ} {fo fk fx : FE} {fr : FA}
theorem wp_getN2 (h : wpX fo env st (fun d s => (lkN s d).isSome = true ∧ wpX fk env s (fun k s => wpX fx env s (fun x s => ∃ w, getN s d k x = some w ∧ QD w s) X) X) X) : wpX (fGetN2 fo fk fx) env st QD X :=
  wp_bind (wp_mono h fun d s ⟨e, h⟩ => by
    show wpX (fGd (lkN s d).isSome _) env s QD X
    exact wp_gd e (wp_bind (wp_mono h fun k s h => wp_bind (wp_mono h fun x s ⟨w, e, h⟩ => wp_P e h))))
end
end Dl
end
section
set_option Elab.async false
set_option linter.all false
set_option maxRecDepth 100000
set_option autoImplicit false
namespace Dl
open PySem PySem.Spec L2
/-! ### {key: value for ..} -/
section
variable {K : PySem.W.Frag} {mg : Str → Option Value}
noncomputable abbrev AccN := List NestedKey × List D
/-- the dict at b has the keys and values of acc -/
noncomputable def arN (K : PySem.W.Frag) (mg : Str → Option Value) (w : World) (b : Addr) : List Addr → Hp → HO → AccN → Prop := fun as F o acc => ∃ xs vs ob, o = RawE w b ob xs ∧ xs.map (·.1) = acc.1 ∧ (∀ x ∈ xs, NkR K F (.ref x.2.1) x.1) ∧ (∀ k ∈ acc.1, k.depth ≤ 8) ∧ Vals vs (xs.map (·.2.2)) ∧ Reps K mg as F vs acc.2
theorem arN_m {w : World} {b : Addr} : ARm (arN K mg w b) := ⟨fun as as' F F' o acc x ⟨xs, vs, ob, h1, h2, h3, h4, h5, h6⟩ => ⟨xs, vs, ob, h1, h2, fun y hy => (h3 y hy).ext x.sub, h4, h5, h6.mono x⟩⟩
theorem MidG.doneX {α : Type} {AR : List Addr → Hp → HO → α → Prop} {W : WX} {own : Bool} {as1 as : List Addr} {F1 H1 F H : Hp} {b : Addr} {st : Sto} {acc : α} {d : D} {env : En} {σ : St} {Q : VK} (hb : H1 b = none) (m : MidG K mg AR as1 F1 H1 b as F st H acc)
    (hF : ∀ o, H b = some o → AR as F o acc → Rep K mg as (upd F b o) (.ref b) d) (hO : ∀ o, H b = some o → AR as F o acc → Own K mg as F H b d) {f : FE} {st1 : Sto} (h : AtR K mg (Rep K mg) W f as1 F1 env st1 σ H1 Q) (e : f env st1 = fNew own d env st) : Q (.ref b) H := by
  obtain ⟨o, h1, h2⟩ := m.at_
  cases own with
  | false =>
    have q := h.fin (r := .ok d st) (by rw [e]; rfl)
    have x : Xt as F as (upd F b o) := ⟨fun _ _ h => h, Ext.upd m.nF⟩
    refine q as (upd F b o) H (.ref b) ⟨m.xt.trans x, fun c o' h3 h4 h5 => ?_, m.frm.iceB m.nF m.nA h1⟩ (hF o h1 h2)
    obtain ⟨e1, e2, e3⟩ := m.kp c o' h3 h4 h5
    exact ⟨e1, by rw [upd_ne (ne_of_none h3 hb)]; exact e2, e3⟩
  | true =>
    have q := h.fin (r := .ok (.obj st.length) (st ++ [d])) (by rw [e]; rfl)
    have fo := m.frm.ownB m.nF m.nA (hO o h1 h2)
    have x : Xt as F (as ++ [b]) F := ⟨fun i a h => by
      have := (List.getElem?_eq_some_iff.mp h).1
      rw [List.getElem?_append_left this]; exact h, Ext.rfl'⟩
    refine q (as ++ [b]) F H (.ref b) ⟨m.xt.trans x, fun c o' h3 h4 h5 => ?_, fo⟩ (.obj (by rw [← m.frm.len]; simp))
    obtain ⟨e1, e2, e3⟩ := m.kp c o' h3 h4 h5
    refine ⟨e1, e2, fun z => ?_⟩
    rcases List.mem_append.mp z with z | z
    · exact e3 z
    · exact ne_of_none h3 hb (by simpa using z)
end
end Dl
end
section
set_option Elab.async false
set_option linter.all false
set_option maxRecDepth 100000
set_option autoImplicit false
namespace Dl
open PySem PySem.Spec L2 PyProof.Rows
/-! ### len, isinstance, list(d), list(d.items()) of a dict with nested keys -/
/-! #### as data -/
end Dl
end
section
set_option Elab.async false
set_option linter.all false
set_option maxRecDepth 100000
set_option autoImplicit false
namespace Dl
open PySem PySem.Spec L2 PyProof.Rows
/-! ### {key: value}; functions as values; sorted(d) -/
section
variable {prog : Program} {w : World} {K : Type} [DecidableEq K] {knd : HeapKind prog w K} {A : Around} {E : Value → Shared → Prop} {s : Shared}
theorem wpAny_Dict_pairsS {env : Env} {keys : List (Option Expr)} {values : List Expr} {pos : Pos} {pairs : List (Sem Value × Sem Value)} {Q : Value → Shared → Prop} (hu : knd.room A)
    (hshape : (evalEachOpt keys env).zip ((evalEach values env).map fun v => do let x ← v; standAt pos; pure x) = pairs.map fun p => (some p.1, p.2)) (h0 : pairs ≠ []) (hlen : pairs.length ≤ 15)
    (h : wpAny (model prog w) A (evalPairs pairs) (fun vs s₁ => ∃ ps, CarriesH knd s₁.heap vs ps ∧ s₁.heap.DictOfH knd s.heap.objs.size [] ∧
      ∀ h' tk, h'.DictOfH knd s.heap.objs.size (storedAllH [] ps) → Heap.SameBut s.heap.objs.size s₁.heap h' → Q (.ref s.heap.objs.size) { s₁ with heap := h', toks := tk }) E
      { s with heap := s.heap.push { cls := .type "dict", data := .dict #[] } }) :
    wpAny (model prog w) A (eval (.Dict keys values pos) env) Q E s := by
  rw [arm_eval_Dict, hshape, dictDisplay_pairs pairs h0 (by omega)]
  exact wpAny_bind (wpAny_standAt (wpAny_bind (wpAny_subDictH (knd := knd) (Q := fun d s' => wpAny (model prog w) A (pure (Value.ref d)) Q E s') hu hlen
    (wpAny_mono h (fun vs s₁ h₁ => by obtain ⟨ps, hc, hm, hq⟩ := h₁; exact ⟨ps, hc, hm, fun h' tk a b => wpAny_pure (hq h' tk a b)⟩) fun _ _ e => e))))
end
noncomputable def fDict1 (own : Bool) (fk fv : FE) : FE := fun env st => match fk env st with
  | some (.ok dk st1) => match fv env st1 with
    | some (.ok dv st2) => match nkT dk with
      | some k => if k.depth ≤ 8 then fNew own (.dN [k] [dv]) env st2 else none
      | none => none
    | _ => none
  | _ => none
section
variable {X : Cx} {W : WX} {ke ve : Expr} {fk fv : FE} {pos : Pos}
theorem de_dict1 {own : Bool} (hu : X.A.units + 65 < cLine) (hk : DE X W0 ke fk) (hv : DE X W0 ve fv)
    (hshape : (evalEachOpt [some ke] X.env).zip ((evalEach [ve] X.env).map fun v => do let x ← v; standAt pos; pure x) = [(some (eval ke X.env), do let x ← eval ve X.env; standAt pos; pure x)] := by rfl) :
    DE X W (.Dict [some ke] [ve] pos) (fDict1 own fk fv) := by
  refine ⟨fun pins s σ H Q I ⟨as, F, env, st, h⟩ => ?_⟩
  obtain ⟨fr, er, r, e, p⟩ := id h
  obtain ⟨dk, st1, q1⟩ : ∃ dk st1, fk env st = some (.ok dk st1) := by
    unfold fDict1 at e
    split at e
    · exact ⟨_, _, by assumption⟩
    · cases e
  obtain ⟨dd, st2, q2⟩ : ∃ dv st2, fv env st1 = some (.ok dv st2) := by
    unfold fDict1 at e
    rw [q1] at e
    dsimp only at e
    split at e
    · exact ⟨_, _, by assumption⟩
    · cases e
  obtain ⟨k, q3, q4⟩ : ∃ k, nkT dk = some k ∧ k.depth ≤ 8 := by
    unfold fDict1 at e
    rw [q1] at e
    dsimp only at e
    rw [q2] at e
    dsimp only at e
    split at e
    · split at e
      · exact ⟨_, by assumption, by assumption⟩
      · cases e
    · cases e
  have hE : fDict1 own fk fv env st = fNew own (.dN [k] [dd]) env st2 := by
    unfold fDict1
    simp only [q1, q2, q3, if_pos q4]
  obtain ⟨b, hbS⟩ : ∃ b, b = s.heap.objs.size := ⟨_, rfl⟩
  have hb : H b = none := I.hok.fresh (Nat.le_of_eq hbS.symm)
  have md0 : MidG X.K X.mg (arN X.K X.mg X.w b) as F H b as F st (upd H b (RawE X.w b dict0 [])) ([], []) := MidG.start fr hb ⟨[], [], dict0, rfl, rfl, (fun _ h => by cases h), (fun _ h => by cases h), .nil, .nil⟩
  have I2 : Inv X pins σ (upd H b (RawE X.w b dict0 [])) { s with heap := s.heap.push dict0 } := by
    subst hbS
    exact I.laid (t' := s.toks) (fun _ _ q => Heap.get?_push_of_some _ q) (Nat.le_refl _) (rawE_ok0 (beq_eq_false_iff_ne.mpr (Ne.symm (Nat.ne_of_lt I.big))))
  have h2 : tD X.K X.mg W0 fk σ (upd H b (RawE X.w b dict0 [])) (fun kv H1' => tD X.K X.mg W0 fv σ H1' (fun vv H2' => ∃ as3 F3 kb ob, MidG X.K X.mg (arN X.K X.mg X.w b) as F H b as3 F3 st2 H2' ([], []) ∧ kv = .ref kb ∧ NkR X.K F3 (.ref kb) k ∧ Rep X.K X.mg as3 F3 vv dd ∧ H2' b = some (RawE X.w b ob []))) := by
    refine ⟨as, F, env, st, md0.frm, er, _, q1, fun as2 F2 H2 v x2 rv => ?_⟩
    refine ⟨as2, F2, env, st1, x2.frm, er.mono x2.xt, _, q2, fun as3 F3 H3 v3 x3 rv3 => ?_⟩
    obtain ⟨kb, e0, rk⟩ := nkT_rep rv q3
    have md3 := md0.go arN_m (x2.trans x3)
    obtain ⟨o, e1, xs, vs, ob, e2, e3, e4, e5, e6, e7⟩ := md3.at_
    subst e2
    have e3 : xs = [] := List.map_eq_nil_iff.mp e3
    subst e3
    refine ⟨as3, F3, kb, ob, md3, e0, ?_, rv3, e1⟩
    rw [← e0]
    exact rk.ext x3.xt.sub
  refine wpAny_Dict_pairsS (knd := nestedKind X.prog X.w) (pairs := [(eval ke X.env, do let x ← eval ve X.env; standAt pos; pure x)]) (show X.A.units + 8 < cLine by omega) (by rw [hshape]; rfl) (by simp) (by simp) ?_
  show wpAny _ _ (do let kv ← eval ke X.env; let vv ← holding [kv] (do let x ← eval ve X.env; standAt pos; pure x); return (kv, vv) :: (← holding [kv, vv] (evalPairs []))) _ _ _
  refine wpAny_bind (wpAny_mono (hk.run pins _ σ _ _ I2 h2) (fun u1 s1 ⟨kv, H2, I2, rv, h3⟩ => ?_) fun _ _ z => z)
  refine wpAny_bind (wpAny_holding (wpAny_bind (wpAny_mono (hv.run pins s1 σ H2 _ I2 h3) (fun u2 s2 ⟨vv, H3, I3, rv3, as3, F3, kb, ob, md3, e0, rk, rp, e1⟩ => ?_) fun _ _ z => z)))
  refine wpAny_bind (wpAny_standAt (wpAny_pure ?_))
  refine wpAny_bind (wpAny_holding (wpAny_pure ?_))
  refine wpAny_pure ?_
  subst e0
  cases rv
  obtain ⟨⟨hs, g1, es, ep, g2, g3, g4, g5⟩, _⟩ := I3.hok b _ e1
  have sub := md3.frm.sub
  have d0 : s2.heap.DictOfH (nestedKind X.prog X.w) b [] := ⟨ob, es, ep, g1, g2, g3, g4, (fun x hx => by cases hx), g5⟩
  rw [← hbS]
  refine ⟨[(k, kb, u2)], ⟨rfl, rfl, ⟨(rk.ext sub).is I3 rfl, q4⟩, trivial⟩, d0, fun h' tk dd' hs' => ?_⟩
  have hex : ∃ q, h'.get? b = some q := let ⟨q, _, _, hq, _⟩ := dd'; ⟨q, hq⟩
  obtain ⟨o', ok'⟩ := rawE_ok hs dd'
  have hn : arN X.K X.mg X.w b as3 F3 (RawE X.w b o' (storedAllH [] [(k, kb, u2)])) ([k], [dd]) := by
    refine ⟨_, [vv], o', rfl, rfl, ?_, ?_, .cons rv3 .nil, .cons rp .nil⟩
    · intro y hy
      have : y = (k, kb, u2) := by
        rcases List.mem_cons.mp (show y ∈ [(k, kb, u2)] from hy) with z | z
        · exact z
        · cases z
      subst this
      exact rk
    · intro y hy
      rw [List.mem_singleton.mp hy]
      exact q4
  refine ⟨.ref b, _, d_write I3 (by rw [e1]; exact True.intro) hs' hex (ok' _), rfl, ?_⟩
  exact (md3.put hb hn).doneX (own := own) hb
    (fun o h1 ⟨xs, vs, ob, e1, e2, e3, e4, e5, e6⟩ => by
      have x : Xt as3 F3 as3 (upd F3 b o) := ⟨fun _ _ h => h, Ext.upd md3.nF⟩
      exact .dN ⟨e4, X.w, ob, xs, by rw [e1]; exact upd_same, e2, fun y hy => (e3 y hy).ext x.sub, e5⟩ (e6.mono x))
    (fun o h1 ⟨xs, vs, ob, e1, e2, e3, e4, e5, e6⟩ => .dN ⟨e4, X.w, ob, xs, by rw [h1, e1], e2, e3, e5⟩ e6) h hE
/-! #### functions as values -/
noncomputable abbrev TbF := List (Str × Nat × G)
variable {k i : Nat} {x : Str} {p : Pos} {e : Expr} {es : List Expr} {fa : FA} {tb : TbF}
end
/-! #### sorted(d) -/
/-! #### what they come to -/
section
variable {env : En} {st : Sto} {Q : D → Sto → Prop} {X : XQ} {fe fk fv : FE} {x : D}
theorem wp_dict1 {own : Bool} (h : wpX fk env st (fun dk s => wpX fv env s (fun d s => ∃ k, nkT dk = some k ∧ k.depth ≤ 8 ∧ wpX (fNew own (.dN [k] [d])) env s Q X) NX) NX) : wpX (fDict1 own fk fv) env st Q X := by
  obtain ⟨r, e, p⟩ := h
  cases r with
  | ex c ns ds s => exact p.elim
  | ok dk s =>
    obtain ⟨r2, e2, p2⟩ := p
    cases r2 with
    | ex c ns ds s => exact p2.elim
    | ok d s2 =>
      obtain ⟨k, h1, h2, r3, e3, p3⟩ := p2
      exact ⟨r3, by simp only [fDict1, e, e2, h1, if_pos h2]; exact e3, p3⟩
end
end Dl
end
section
set_option Elab.async false
set_option linter.all false
namespace Dl
open PySem PySem.Spec L2
/-! #### functions as values, some of which this program lacks -/
end Dl
end
section
set_option Elab.async false
set_option linter.all false
set_option maxRecDepth 100000
set_option autoImplicit false
namespace Dl
open PySem PySem.Spec L2 PyProof.Rows
/-! ### for i in reversed(range(n)) -/
end Dl
end
section
set_option Elab.async false
set_option linter.all false
set_option maxRecDepth 100000
set_option autoImplicit false
namespace Dl
open PySem PySem.Spec L2
/-! ### repr(x) of plain data, tracked or not -/
/-! ### how long a text can be -/
end Dl
end
section
set_option Elab.async false
set_option linter.all false
set_option maxRecDepth 100000
set_option autoImplicit false
/-! calls by keyword; defaults of keyword-only parameters -/
namespace Dl
open PySem PySem.Spec L2
/-- the values in the parameters' order: (0, i) a positional one, (1, i) a default, (2, i) a keyword's -/
noncomputable def arr {α : Type} (pk : List (Nat × Nat)) (us mv ws : List α) : List α := pk.filterMap fun c => (match c.1 with | 0 => us | 1 => mv | _ => ws)[c.2]?
theorem vals_at : ∀ {vs : List V} {us : List Value}, Vals vs us → ∀ i : Nat, (vs[i]? = none ∧ us[i]? = none) ∨ ∃ v u, vs[i]? = some v ∧ us[i]? = some u ∧ RelV v u
  | _, _, .nil, i => .inl ⟨by simp, by simp⟩
  | _, _, .cons r t, 0 => .inr ⟨_, _, rfl, rfl, r⟩
  | _, _, .cons r t, i + 1 => by simpa using vals_at t i
theorem reps_at {K : PySem.W.Frag} {mg : Str → Option Value} {as : List Addr} {F : Hp} : ∀ {vs : List V} {ds : List D}, Reps K mg as F vs ds → ∀ i : Nat, (vs[i]? = none ∧ ds[i]? = none) ∨ ∃ v d, vs[i]? = some v ∧ ds[i]? = some d ∧ Rep K mg as F v d
  | _, _, .nil, i => .inl ⟨by simp, by simp⟩
  | _, _, .cons r t, 0 => .inr ⟨_, _, rfl, rfl, r⟩
  | _, _, .cons r t, i + 1 => by simpa using reps_at t i
theorem arr_vals {vs mz zs : List V} {us mv ws : List Value} (r : Vals vs us) (r1 : Vals mz mv) (r2 : Vals zs ws) : ∀ pk, Vals (arr pk vs mz zs) (arr pk us mv ws)
  | [] => .nil
  | c :: pk => by
    have ih := arr_vals r r1 r2 pk
    unfold arr at ih ⊢
    rw [List.filterMap_cons, List.filterMap_cons]
    have h : ((match c.1 with | 0 => vs | 1 => mz | _ => zs)[c.2]? = none ∧ (match c.1 with | 0 => us | 1 => mv | _ => ws)[c.2]? = none) ∨ ∃ v u, (match c.1 with | 0 => vs | 1 => mz | _ => zs)[c.2]? = some v ∧ (match c.1 with | 0 => us | 1 => mv | _ => ws)[c.2]? = some u ∧ RelV v u := by
      obtain ⟨a, b⟩ := c
      match a with
      | 0 => exact vals_at r b
      | 1 => exact vals_at r1 b
      | a + 2 => exact vals_at r2 b
    rcases h with ⟨e1, e2⟩ | ⟨v, u, e1, e2, q⟩
    · rw [e1, e2]; exact ih
    · rw [e1, e2]; exact .cons q ih
theorem arr_reps {K : PySem.W.Frag} {mg : Str → Option Value} {as : List Addr} {F : Hp} {vs mz zs : List V} {ds dm es : List D} (r : Reps K mg as F vs ds) (r1 : Reps K mg as F mz dm) (r2 : Reps K mg as F zs es) : ∀ pk, Reps K mg as F (arr pk vs mz zs) (arr pk ds dm es)
  | [] => .nil
  | c :: pk => by
    have ih := arr_reps r r1 r2 pk
    unfold arr at ih ⊢
    rw [List.filterMap_cons, List.filterMap_cons]
    have h : ((match c.1 with | 0 => vs | 1 => mz | _ => zs)[c.2]? = none ∧ (match c.1 with | 0 => ds | 1 => dm | _ => es)[c.2]? = none) ∨ ∃ v u, (match c.1 with | 0 => vs | 1 => mz | _ => zs)[c.2]? = some v ∧ (match c.1 with | 0 => ds | 1 => dm | _ => es)[c.2]? = some u ∧ Rep K mg as F v u := by
      obtain ⟨a, b⟩ := c
      match a with
      | 0 => exact reps_at r b
      | 1 => exact reps_at r1 b
      | a + 2 => exact reps_at r2 b
    rcases h with ⟨e1, e2⟩ | ⟨v, u, e1, e2, q⟩
    · rw [e1, e2]; exact ih
    · rw [e1, e2]; exact .cons q ih
/-- constants: the same data under all circumstances -/
inductive Cst : V → D → Prop
  | non : Cst .non .non
  | bl (b : Bool) : Cst (.bl b) (.bl b)
  | int (i : Int) : Cst (.int i) (.int i)
  | str (x : Str) : Cst (.str x) (.str x)
theorem Cst.rep {K : PySem.W.Frag} {mg : Str → Option Value} {as : List Addr} {F : Hp} {v : V} {d : D} (h : Cst v d) : Rep K mg as F v d := by
  cases h
  · exact .non
  · exact .bl _
  · exact .int _
  · exact .str _
/-- how a call of m positional values and the keywords ks binds -/
structure KB (K : PySem.W.Frag) (fd : FuncData) (ps : List Str) (m : Nat) (ks : List Str) (pk : List (Nat × Nat)) (dv : List D) : Prop where
  ex : ∃ (mv : List Value) (mz : List V), Vals mz mv ∧ (∀ (mg : Str → Option Value) (as : List Addr) (F : Hp), Reps K mg as F mz dv) ∧
    ∀ (s : Shared) (us ws : List Value), K.In s.heap → us.length = m → ws.length = ks.length → BindsTo s fd ⟨us, ks.zip ws⟩ (ps.zip (arr pk us mv ws))
/-- the keyword-only defaults at D that lack -/
inductive Kwd (K : PySem.W.Frag) (A : Addr) : List (Str × V) → List D → Prop
  | nil : Kwd K A [] []
  | cons {x : Str} {v : V} {d : D} {u : Value} {ms : List (Str × V)} {ds : List D} (h : PySem.W.nsIn K A x = some (some u)) (r : RelV v u) (c : Cst v d) (t : Kwd K A ms ds) : Kwd K A ((x, v) :: ms) (d :: ds)
theorem Kwd.all {K : PySem.W.Frag} {A : Addr} : ∀ {ms : List (Str × V)} {ds : List D}, Kwd K A ms ds → (∀ q ∈ ms, ∃ u, PySem.W.nsIn K A q.1 = some (some u) ∧ RelV q.2 u) ∧ ∀ (mg : Str → Option Value) (as : List Addr) (F : Hp), Reps K mg as F (ms.map (·.2)) ds
  | _, _, .nil => ⟨fun _ h => (List.not_mem_nil h).elim, fun _ _ _ => .nil⟩
  | _, _, .cons h r c t => ⟨fun q hq => by
      rcases List.mem_cons.mp hq with rfl | hq
      · exact ⟨_, h, r⟩
      · exact t.all.1 q hq, fun mg as F => .cons c.rep (t.all.2 mg as F)⟩
theorem KB.of {K : PySem.W.Frag} {fd : FuncData} {ps : List Str} {m : Nat} {ks : List Str} {pk : List (Nat × Nat)} {dv : List D} {A : Addr} (ms : List (Str × V)) (hk : Kwd K A ms dv)
    (h : ∀ us mv ws : List Value, us.length = m → mv.length = ms.length → ws.length = ks.length → KwChain A ((ms.map (·.1)).zip mv) (bindArgs fd ⟨us, ks.zip ws⟩) (ps.zip (arr pk us mv ws))) : KB K fd ps m ks pk dv := by
  obtain ⟨mv, hl, rk, hks⟩ := kwd_vals hk.all.1
  exact ⟨mv, _, rk, hk.all.2, fun s us ws X l1 l2 => BindsTo.of_looks fun M => KwChain.looks X hks (h us mv ws l1 hl l2)⟩
/-- a def's body, whatever the call's form -/
noncomputable def Ff (P : Program) (w : World) (K : PySem.W.Frag) (mg : Str → Option Value) (base : Heap) (k : Nat) (x qual : Str) (stm : Stmt) (f : Addr) (ps : List Str) (g : G) : Prop := ∀ fd, Fun K x qual stm f fd → FnOk P w K mg base (L2.CX P w) k f fd ps (dSp K mg ps.length g)
noncomputable def FkK (P : Program) (w : World) (K : PySem.W.Frag) (mg : Str → Option Value) (base : Heap) (k : Nat) (f : Addr) (n : Nat) (g : G) (m : Nat) (ks : List Str) (pk : List (Nat × Nat)) (dv : List D) : Prop :=
  ∃ fd ps, ps.length = n ∧ FnOk P w K mg base (L2.CX P w) k f fd ps (dSp K mg n g) ∧ KB K fd ps m ks pk dv
section
variable {P : Program} {w : World} {K : PySem.W.Frag} {mg : Str → Option Value} {base : Heap} {k m : Nat} {x qual : Str} {stm : Stmt} {f : Addr} {ps ks : List Str} {g : G} {pk : List (Nat × Nat)} {dv : List D}
theorem Ff.of {N : List Str} {fb : FS} (ice : Bool) (S : FnScope N ps (defScope stm))
    (body : ∀ (cdv : Value) (A : Around) (outer : List Env) (s : Shared) (H : Hp) (E : XK), Bdy P w K mg base k N qual stm f fb cdv A outer s H E) : Ff P w K mg base (k + 1) x qual stm f ps (exitG ice N.length fb) := fun _ h => body_ok ice h S body
end
section
variable {X : Cx} {W : WX} {k n m : Nat} {f : Addr} {g : G} {pk : List (Nat × Nat)} {dv : List D} {x : Str} {p pos kpos : Pos} {e : Expr} {es : List Expr} {kws : List Keyword} {nm : Option Str} {fa fk : FA} {fe : FE} {ks : List Str}
/-- is the call in order -/
noncomputable def okA (n m q : Nat) (pk : List (Nat × Nat)) (dv ds es : List D) : Bool := Nat.beq ds.length m && Nat.beq es.length q && Nat.beq (arr pk ds dv es).length n
theorem FkK.run (F : FkK X.prog X.w X.K X.mg X.base k f n g m ks pk dv) {A : Around} (sb : Sub X k A) (tk : Takes X W) {pins : List (Addr × Obj)} {s : Shared} {σ : St} {H : Hp} {as : List Addr} {Fz : Hp} {env : En} {st : Sto} {vs zs : List V} {us ws : List Value} {ds es : List D} {Q : VK}
    (I : Inv X pins σ H s) (r : Vals vs us) (rz : Vals zs ws) (rp : Reps X.K X.mg as Fz vs ds) (rq : Reps X.K X.mg as Fz zs es) (ok : okA n m ks.length pk dv ds es = true) (at_ : AtR X.K X.mg (Rep X.K X.mg) W (fun _ st => g (arr pk ds dv es) st) as Fz env st σ H Q) :
    wpAny (model X.prog X.w) A (call (.ref f) us (ks.zip ws)) (EP X pins σ Q) X.xe s := by
  obtain ⟨fd, ps, hn, F, ⟨mv, mz, rm, rd, hb⟩⟩ := F
  simp only [okA, Bool.and_eq_true] at ok
  obtain ⟨⟨o1, o2⟩, o3⟩ := ok
  have o1 := Nat.eq_of_beq_eq_true o1
  have o2 := Nat.eq_of_beq_eq_true o2
  have o3 := Nat.eq_of_beq_eq_true o3
  obtain ⟨fr, _, z, ez, pz⟩ := at_
  have rA := arr_reps rp (rd X.mg as Fz) rq pk
  have hsp : dSp X.K X.mg n g (arr pk vs mz zs) H Q (WE W σ) := by
    refine ⟨by rw [rA.length]; exact o3, as, Fz, _, st, z, fr, rA, ez, ?_⟩
    cases z with
    | ok d st' => exact pz
    | ex c ns ds st' => exact pz
  have e0 : Env0 X.prog X.w X.K X.mg X.base A X.stack s H := by
    have e := I.env0
    exact ⟨by rw [sb.fr]; exact e.frames, e.mod, e.bs, e.bsz, e.funs, e.frf, e.hok, e.bare⟩
  have b := hb s us ws I.kIn (by rw [← r.length, rp.length]; exact o1) (by rw [← rz.length, rq.length]; exact o2)
  refine wpAny_call (codeAny_mono (F.run A X.stack s H ⟨us, ks.zip ws⟩ _ _ Q (WE W σ) sb.room e0 b (arr_vals r rm rz pk) hsp) fun r s' hq => ?_)
  cases r with
  | error e => exact passAt tk σ pins H s e s' I hq
  | ok fl =>
    cases fl with
    | ret u => exact I.after hq
    | next => exact False.elim hq
    | brk => exact False.elim hq
    | cont => exact False.elim hq
end
end Dl
end
section
set_option Elab.async false
set_option linter.all false
set_option maxRecDepth 100000
set_option autoImplicit false
namespace Dl
open PySem PySem.Spec L2
/-! ### while (x := e) op f: .. -/
noncomputable def whileWN (i : Nat) (fe fb : FE) (g : D → D → FE) (b : FS) : Nat → En → Sto → Option Out
  | 0, _, _ => none
  | n + 1, env, st => match fe env st with
    | some (.ok d s1) => (match fb (env.set i (some d)) s1 with
      | some (.ok y s2) => (match g d y (env.set i (some d)) s2 with
        | some (.ok (.bl true) s3) => (match b (env.set i (some d)) s3 with
          | some (.nx e s) => whileWN i fe fb g b n e s
          | some (.ct e s) => whileWN i fe fb g b n e s
          | some (.bk e s) => some (.nx e s)
          | o => o)
        | some (.ok (.bl false) s3) => some (.nx (env.set i (some d)) s3)
        | _ => none)
      | _ => none)
    | _ => none
open Classical in
noncomputable def sWhileW (i : Nat) (fe fb : FE) (g : D → D → FE) (b : FS) : FS := fun env st => if h : ∃ n o, whileWN i fe fb g b n env st = some o then whileWN i fe fb g b (Classical.choose h) env st else none
noncomputable def tWt (X : Cx) (W : WX) (i : Nat) (fe fb : FE) (g : D → D → FE) : TTw := fun σ H Q => ∃ as F env st, Frm X.K X.mg as F st H ∧ ER X.K X.mg as F σ env ∧ ∃ d s1 y s2 k s3, fe env st = some (.ok d s1) ∧ fb (env.set i (some d)) s1 = some (.ok y s2) ∧ g d y (env.set i (some d)) s2 = some (.ok (.bl k) s3) ∧
  ∀ as' F' σ' H', Go X.K X.mg as F H as' F' s3 H' → ER X.K X.mg as' F' σ' (env.set i (some d)) → Q k σ' H'
section
variable {X : Cx} {W : WX} {a b e : Expr} {fe fb : FE} {g : D → D → FE} {op : CmpOp} {pos p p1 p2 : Pos} {i : Nat} {x : Str}
theorem ptw_walrus (hw : PEw X a (wNm (L2.wE (tD X.K X.mg W fe)) i)) (hb : DE X W b fb) (ho : O2 X W (compareOp op) g) (hm : behindInMarks op b = false) : PTw X (.Compare a [op] [b] pos) (tWt X W i fe fb g) := by
  refine ⟨fun pins s σ H Q I ⟨as, F, env, st, fr, er, d, s1, y, s2, k, s3, e1, e2, e3, q⟩ => ?_⟩
  refine wpAny_isTrue_Compare1 (thn (hw.run pins s σ H (fun x σ1 H1 => ∃ as1 F1, Go X.K X.mg as F H as1 F1 s1 H1 ∧ Rep X.K X.mg as1 F1 x d ∧ σ1 = σ.set i (some x)) I ?_) fun v t1 ⟨x, σ1, H1, I1, r1, as1, F1, g1, p1, hσ⟩ => ?_) hm
  · exact ⟨as, F, env, st, fr, er, .ok d s1, e1, fun as' F' H' v g r => ⟨as', F', g, r, rfl⟩⟩
  · subst hσ
    have er1 := (er.mono g1.xt).set (i := i) p1
    refine thn (hb.run pins t1 _ H1 (fun z H2 => ∃ as2 F2, Go X.K X.mg as1 F1 H1 as2 F2 s2 H2 ∧ Rep X.K X.mg as2 F2 z y) I1 ⟨as1, F1, _, s1, g1.frm, er1, .ok y s2, e2, fun as' F' H' v g r => ⟨as', F', g, r⟩⟩) fun u t2 ⟨z, H2, I2, r2, as2, F2, g2, p2⟩ => ?_
    refine thn (ho pins t2 _ H2 as2 F2 (env.set i (some d)) s2 x z v u d y (fun w H3 => w = .bl k ∧ ∃ as3 F3, Go X.K X.mg as2 F2 H2 as3 F3 s3 H3) I2 r1 r2 (p1.mono g2.xt) p2 ⟨g2.frm, er1.mono g2.xt, .ok (.bl k) s3, e3, fun as' F' H' v g r => ⟨by cases r; rfl, as', F', g⟩⟩) fun c t3 ⟨w, H3, I3, r3, hw3, as3, F3, g3⟩ => ?_
    subst hw3
    cases r3
    exact wpAny_truthy_bool ⟨_, H3, I3, q as3 F3 _ H3 (g1.trans (g2.trans g3)) (er1.mono (g2.trans g3).xt)⟩
noncomputable def tNil : TS := fun D σ H => D.nx σ H
theorem pss_nil0 : PSs X [] tNil := ⟨fun pins s σ H D I h => wpAny_execs_nil ⟨σ, H, I, h⟩⟩
theorem ds_whileW {c : Expr} {body : List Stmt} {bb : FS} (hp : PassesOwn (model X.prog X.w) X.A X.env X.xe) (hc : PTw X c (tWt X W i fe fb g)) (hb : DSs X W body bb) : DS X W (.While c body [] pos) (sWhileW i fe fb g bb) := by
  refine ps_imp (ps_whileW hp hc hb pss_nil0) fun E σ H ⟨as, F, env, st, h⟩ => ?_
  obtain ⟨fr, er, o, eo, po⟩ := h
  obtain ⟨n, hn⟩ : ∃ n, whileWN i fe fb g bb n env st = some o := by
    unfold sWhileW at eo
    split at eo
    · exact ⟨_, eo⟩
    · cases eo
  refine ⟨fun m σ H => ∃ as F env st, AtS X.K X.mg W (whileWN i fe fb g bb m) as F env st σ H E, ⟨n, as, F, env, st, fr, er, o, hn, po⟩, ?_⟩
  rintro m σ1 H1 ⟨as1, F1, env1, st1, fr1, er1, o1, e1, p1⟩
  cases m with
  | zero => simp [whileWN] at e1
  | succ m =>
    rw [whileWN] at e1
    split at e1
    · rename_i d s1 q1
      split at e1
      · rename_i y s2 q2
        split at e1
        · rename_i s3 q3
          refine ⟨as1, F1, env1, st1, fr1, er1, d, s1, y, s2, true, s3, q1, q2, q3, fun as2 F2 σ2 H2 x2 er2 => ?_⟩
          show if true = true then _ else _
          rw [if_pos rfl]
          refine ⟨fun σ' H' => ∃ as F env st, AtS X.K X.mg W (whileWN i fe fb g bb m) as F env st σ' H' E, fun σ' H' h' => ⟨m, Nat.lt_succ_self m, h'⟩, as2, F2, _, s3, x2.frm, er2, ?_⟩
          cases q4 : bb (env1.set i (some d)) s3 with
          | none => rw [q4] at e1; cases e1
          | some z =>
            rw [q4] at e1
            refine ⟨z, rfl, ?_⟩
            cases z with
            | nx e s => exact fun as' F' σ' H' y er' => ⟨as', F', e, s, y.frm, er', o1, e1, p1.mono (x2.trans y)⟩
            | ct e s => exact fun as' F' σ' H' y er' => ⟨as', F', e, s, y.frm, er', o1, e1, p1.mono (x2.trans y)⟩
            | bk e s => cases e1; exact fun as' F' σ' H' y er' => p1 as' F' σ' H' (x2.trans y) er'
            | rt d s => cases e1; exact fun as' F' H' v y r => p1 as' F' H' v (x2.trans y) r
            | ex c ns ds e s => cases e1; exact fun as' F' σ' H' C od vs y => p1 as' F' σ' H' C od vs (x2.trans y)
        · rename_i s3 q3
          cases e1
          refine ⟨as1, F1, env1, st1, fr1, er1, d, s1, y, s2, false, s3, q1, q2, q3, fun as2 F2 σ2 H2 x2 er2 => ?_⟩
          show if false = true then _ else _
          rw [if_neg Bool.false_ne_true]
          exact p1 as2 F2 σ2 H2 x2 er2
        · cases e1
      · cases e1
    · cases e1
theorem ds_whileWr (hp : PassesOwn (model X.prog X.w) X.A X.env X.xe) (i : Nat) (hN : X.N.Nodup) (he : DE X W e fe) (hb : DE X W b fb) (ho : O2 X W (compareOp op) g) {body : List Stmt} {bb : FS} (hbd : DSs X W body bb)
    (hi : X.N[i]? = some x := by rfl) (hx : Loc X.env.scope x := by first | exact Or.inl rfl | exact Or.inr rfl) (hm : behindInMarks op b = false := by rfl) (hf : X.fn x = true ∨ X.env.scope.names.lookup x = some .local := by first | exact .inl rfl | exact .inr rfl) :
    DS X W (.While (.Compare (.NamedExpr (.Name x p) e p1) [op] [b] p2) body [] pos) (sWhileW i fe fb g bb) := ds_whileW hp (ptw_walrus (pew_named hN hi hx (pew_of he) hf) hb ho hm) hbd
end
section
variable {fe fb : FE} {g : D → D → FE} {b : FS} {env : En} {st : Sto} {Q : Out → Prop} {i : Nat}
/-- one turn, by a measure -/
theorem wp_whileW (μ : Nat → En → Sto → Prop) (m : Nat) (h0 : μ m env st)
    (hs : ∀ m e s, μ m e s → wpX fe e s (fun d s1 => wpX fb (e.set i (some d)) s1 (fun y s2 => wpX (g d y) (e.set i (some d)) s2 (fun z s3 => ∃ k, z = .bl k ∧ if k = true then wpS b (e.set i (some d)) s3 (fun o => match o with | .nx e' s' => ∃ m', m' < m ∧ μ m' e' s' | _ => False) else Q (.nx (e.set i (some d)) s3)) (fun _ _ _ _ => False)) (fun _ _ _ _ => False)) (fun _ _ _ _ => False)) : wpS (sWhileW i fe fb g b) env st Q := by
  have go : ∀ (m : Nat) e s, μ m e s → ∃ n o, whileWN i fe fb g b n e s = some o ∧ Q o := by
    intro m
    induction m using Nat.strongRecOn with
    | _ m ih =>
      intro e s h
      obtain ⟨r1, e1, p1⟩ := hs m e s h
      cases r1 with
      | ex c ns ds s => exact p1.elim
      | ok d s1 =>
        obtain ⟨r2, e2, p2⟩ := p1
        cases r2 with
        | ex c ns ds s => exact p2.elim
        | ok y s2 =>
          obtain ⟨r3, e3, p3⟩ := p2
          cases r3 with
          | ex c ns ds s => exact p3.elim
          | ok z s3 =>
            obtain ⟨k, rfl, p3⟩ := p3
            cases k with
            | false =>
              rw [if_neg Bool.false_ne_true] at p3
              exact ⟨1, _, by simp only [whileWN, e1, e2, e3], p3⟩
            | true =>
              rw [if_pos rfl] at p3
              obtain ⟨o, e4, p4⟩ := p3
              cases o with
              | nx e' s' =>
                obtain ⟨m', hm, h'⟩ := p4
                obtain ⟨n, o, e5, p5⟩ := ih m' hm e' s' h'
                exact ⟨n + 1, o, by simp only [whileWN, e1, e2, e3, e4, e5], p5⟩
              | ct e' s' => exact p4.elim
              | bk e' s' => exact p4.elim
              | rt d s' => exact p4.elim
              | ex c ns ds e' s' => exact p4.elim
  obtain ⟨n, o, e1, p⟩ := go m env st h0
  have hex : ∃ n o, whileWN i fe fb g b n env st = some o := ⟨n, o, e1⟩
  have up : ∀ (n : Nat) (e : En) (s : Sto) (o : Out), whileWN i fe fb g b n e s = some o → ∀ k, whileWN i fe fb g b (n + k) e s = some o := by
    intro n
    induction n with
    | zero => intro e s o h; simp [whileWN] at h
    | succ n ih =>
      intro e s o h k
      rw [show n + 1 + k = (n + k) + 1 by omega]
      rw [whileWN] at h ⊢
      cases q1 : fe e s with
      | none => rw [q1] at h; cases h
      | some r1 =>
        rw [q1] at h
        cases r1 with
        | ex c ns ds s => cases h
        | ok d s1 =>
          simp only at h ⊢
          cases q2 : fb (e.set i (some d)) s1 with
          | none => rw [q2] at h; cases h
          | some r2 =>
            rw [q2] at h
            cases r2 with
            | ex c ns ds s => cases h
            | ok y s2 =>
              simp only at h ⊢
              cases q3 : g d y (e.set i (some d)) s2 with
              | none => rw [q3] at h; cases h
              | some r3 =>
                rw [q3] at h
                cases r3 with
                | ex c ns ds s => cases h
                | ok z s3 =>
                  cases z with
                  | bl k0 =>
                    cases k0 with
                    | false => exact h
                    | true =>
                      simp only at h ⊢
                      cases q4 : b (e.set i (some d)) s3 with
                      | none => rw [q4] at h; cases h
                      | some o4 =>
                        rw [q4] at h
                        cases o4 with
                        | nx e4 s4 => exact ih _ _ _ h k
                        | ct e4 s4 => exact ih _ _ _ h k
                        | bk e4 s4 => exact h
                        | rt d4 s4 => exact h
                        | ex c ns ds e4 s4 => exact h
                  | _ => simp at h
  refine ⟨o, ?_, p⟩
  unfold sWhileW
  rw [dif_pos hex]
  obtain ⟨o2, e2⟩ := Classical.choose_spec hex
  rw [e2]
  have a1 := up _ _ _ _ e1 (Classical.choose hex)
  have a2 := up _ _ _ _ e2 n
  rw [Nat.add_comm] at a2
  rw [a1] at a2
  exact a2.symm
end
end Dl
end
section
set_option Elab.async false
set_option linter.all false
set_option maxRecDepth 100000
set_option autoImplicit false
namespace Dl
open PySem PySem.Spec L2
/-! ### the end of a turn that hands one new thing on, frozen -/
open Classical in
noncomputable def cutZ (st0 : Sto) (i : Nat) (ws : List Nat) : Out → Option Out
  | .nx env st => match env[i]? with
    | some (some d) => if (st.take st0.length = st0 ∨ closeds st0.length (st.take st0.length) = true) ∧ closedE st0.length (wipeE env (i :: ws)) = true then
      (match fzD st0.length (st.length - st0.length) [d] (st.drop st0.length) with
       | some [d'] => some (.nx ((wipeE env (i :: ws)).set i (some d')) (st.take st0.length))
       | _ => none) else none
    | _ => none
  | .rt d st => some (.rt d st)
  | .ex c ns ds env st => some (.ex c ns ds env st)
  | _ => none
noncomputable def sCutZ (i : Nat) (ws : List Nat) (f : FS) : FS := fun env st => match f env st with
  | some o => cutZ st i ws o
  | none => none
section
variable {K : PySem.W.Frag} {mg : Str → Option Value} {as as' : List Addr} {F F' H H' : Hp} {st st' : Sto} {σ : St} {env : En} {ws : List Nat}
theorem set_selfS {σ : St} {i : Nat} {v : V} (h : σ[i]? = some (some v)) : σ.set i (some v) = σ := by
  apply List.ext_getElem?
  intro j
  by_cases e : i = j
  · subst e
    rw [List.getElem?_set_self (List.getElem?_eq_some_iff.mp h).1, h]
  · rw [List.getElem?_set_ne e]
theorem cutz_go (f : Frm K mg as F st H) (g : Go K mg as F H as' F' st' H') (er : ER K mg as' F' σ env) {i : Nat} {d d' : D} (hi : env[i]? = some (some d))
    (hc : st'.take st.length = st ∨ closeds st.length (st'.take st.length) = true) (ce : closedE st.length (wipeE env (i :: ws)) = true) (e : fzD st.length (st'.length - st.length) [d] (st'.drop st.length) = some [d']) :
    ∃ as2 F2, Go K mg as F H as2 F2 (st'.take st.length) H' ∧ ER K mg as2 F2 σ ((wipeE env (i :: ws)).set i (some d')) := by
  obtain ⟨v, hv, rv⟩ := er.at_ i d hi
  have hl := Go.long f g
  have hc2 : closeds st.length (st'.take st.length) = true := by
    rcases hc with h | h
    · rw [h]; exact f.closeds
    · exact h
  have e2 := fz_of hc2 (by rw [List.length_take]; omega) (by rw [List.length_drop]) e
  rw [List.take_append_drop] at e2
  obtain ⟨F2, f2, x2, k2, r2⟩ := fz_ok g.frm (by omega) (.cons rv .nil) e2
  refine ⟨as'.take st.length, F2, ⟨⟨fun j a h => ?_, g.xt.sub.trans x2⟩, fun b o h1 h2 h3 => ?_, f2⟩, ?_⟩
  · have := (List.getElem?_eq_some_iff.mp h).1
    rw [List.getElem?_take_of_lt (by rw [← f.len]; exact this)]
    exact g.xt.pre j a h
  · obtain ⟨h4, h5, h6⟩ := g.kp b o h1 h2 h3
    refine ⟨h4, ?_, fun z => h6 (List.mem_of_mem_take z)⟩
    rw [k2 b fun z => h6 (List.mem_of_mem_drop z)]
    exact h5
  · have er2 := ((er.drop (ws := i :: ws)).shrink ce).mono (⟨fun _ _ h => h, x2⟩ : Xt (as'.take st.length) F' (as'.take st.length) F2)
    cases r2 with
    | cons r _ =>
      have := er2.set (i := i) r
      rwa [set_selfS hv] at this
end
section
variable {X : Cx} {W : WX} {s : Stmt} {ss : List Stmt} {f : FS}
theorem cutz_at {K : PySem.W.Frag} {mg : Str → Option Value} {as : List Addr} {F : Hp} {env : En} {st : Sto} {σ : St} {H : Hp} {E : Ends} {i : Nat} {ws : List Nat} (h : AtS K mg W (sCutZ i ws f) as F env st σ H E) : AtS K mg W f as F env st σ H E := by
  obtain ⟨fr, er, o, e, p⟩ := h
  refine ⟨fr, er, ?_⟩
  unfold sCutZ at e
  split at e
  · rename_i o' ho'
    refine ⟨o', ho', ?_⟩
    cases o' with
    | nx e1 s1 =>
      simp only [cutZ] at e
      split at e
      · rename_i d hd
        split at e
        · rename_i c
          split at e
          · rename_i d' hz
            cases e
            intro as' F' σ' H' g er'
            obtain ⟨as2, F2, g2, er2⟩ := cutz_go fr g er' hd c.1 c.2 hz
            exact p as2 F2 σ' H' g2 er2
          · cases e
        · cases e
      · cases e
    | ct e1 s1 => simp only [cutZ, reduceCtorEq] at e
    | bk e1 s1 => simp only [cutZ, reduceCtorEq] at e
    | rt d s1 => simp only [cutZ] at e; cases e; exact p
    | ex c ns ds e1 s1 => simp only [cutZ] at e; cases e; exact p
  · cases e
theorem dss_cutZ (i : Nat) (ws : List Nat) (h : DSs X W ss f) : DSs X W ss (sCutZ i ws f) := pss_imp h fun E σ H ⟨as, F, env, st, h⟩ => ⟨as, F, env, st, cutz_at h⟩
end
section
variable {f : FS} {env : En} {st s : Sto} {Q : Out → Prop}
noncomputable def CutZQ (st0 : Sto) (i : Nat) (ws : List Nat) (Q : Out → Prop) : Out → Prop
  | .nx e s => ∃ d d', e[i]? = some (some d) ∧ (s.take st0.length = st0 ∨ closeds st0.length (s.take st0.length) = true) ∧ closedE st0.length (wipeE e (i :: ws)) = true ∧ fzD st0.length (s.length - st0.length) [d] (s.drop st0.length) = some [d'] ∧ Q (.nx ((wipeE e (i :: ws)).set i (some d')) (s.take st0.length))
  | .ct e s => False
  | .bk e s => False
  | .rt d s => Q (.rt d s)
  | .ex c ns ds e s => Q (.ex c ns ds e s)
theorem wp_cutZ {i : Nat} {ws : List Nat} (h : wpS f env st (CutZQ st i ws Q)) : wpS (sCutZ i ws f) env st Q := by
  obtain ⟨o, e, p⟩ := h
  unfold wpS sCutZ
  rw [e]
  cases o with
  | nx e1 s1 =>
    obtain ⟨d, d', h1, h2, h3, h4, q⟩ := p
    exact ⟨_, by simp only [cutZ, h1, h4]; rw [if_pos ⟨h2, h3⟩], q⟩
  | ct e1 s1 => exact p.elim
  | bk e1 s1 => exact p.elim
  | rt d s1 => exact ⟨.rt d s1, rfl, p⟩
  | ex c ns ds e1 s1 => exact ⟨.ex c ns ds e1 s1, rfl, p⟩
end
end Dl
end
section
set_option Elab.async false
set_option linter.all false
set_option maxRecDepth 100000
set_option autoImplicit false
namespace Dl
open PySem PySem.Spec L2
/-! ### t <= u of two tuples of ints of one length -/
theorem vals_ints : ∀ {is : List Int} {us : List Value}, Vals (is.map V.int) us → ∃ ts : List Tok, us.length = is.length ∧ ∀ k (h : k < is.length) (h' : k < us.length), ∃ t, us[k] = .int is[k] t
  | [], [], .nil => ⟨[], rfl, fun k h => by simp at h⟩
  | i :: is, u :: us, .cons r t => by
    obtain ⟨w, rfl⟩ := r
    obtain ⟨ts, h1, h2⟩ := vals_ints t
    refine ⟨ts, by simp [h1], fun k h h' => ?_⟩
    cases k with
    | zero => exact ⟨w, rfl⟩
    | succ k => exact h2 k (by simpa using h) (by simpa using h')
end Dl
end
section
set_option Elab.async false
set_option linter.all false
set_option maxRecDepth 100000
set_option maxHeartbeats 0
namespace BJ
open PySem Dl
noncomputable def b_is_integer : FS :=
  (sRet ((fAndV (fIsi CL ["int"] (fVar 0)) (fNotV (fIsi CL ["bool"] (fVar 0))))))
noncomputable def g_is_integer : G := exitG false 1 b_is_integer
noncomputable def b_is_colour : FS :=
  (sRet ((fAndV (fCall 1 g_is_integer (aCons (fVar 1) aNil)) (fChain gLe gLt (fC (.int 0)) (fVar 1) (fVar 0)))))
noncomputable def g_is_colour : G := exitG false 2 b_is_colour
noncomputable def b_has_shape : FS :=
  (sSeq (sIf (fOr (fNot (fTru (fIsi CL ["list", "tuple"] (fVar 0)))) (fNot (fAsB (fChain gLe gLe (fC (.int 1)) (fCB (g1 lenS) (aCons (fVar 0) aNil)) (fC (.int 8)))))) (sRet (fC (.bl false))) sNil)
  (sRet (fCB (g1 allS) (aCons (fLc false [1] (fItS (fVar 0)) (gSet 1) tYesF ((fAndV (fIsi CL ["list", "tuple"] (fVar 1)) (fOp2 gEq (fCB (g1 lenS) (aCons (fVar 1) aNil)) (fCB (g1 lenS) (aCons (fVar 0) aNil)))))) aNil))))
noncomputable def g_has_shape : G := exitG false 2 b_has_shape
noncomputable def b_places : FS :=
  (sRet (fLc2 false [1, 2] [2] (fItR1 (aCons (fVar 0) aNil)) (gSet 1) tYesF (fItR1 (aCons (fVar 0) aNil)) (gSet 2) tYesF (fTup (aCons (fVar 1) (aCons (fVar 2) aNil)))))
noncomputable def g_places : G := exitG false 3 b_places
noncomputable def b_first_wrong_place : FS :=
  (sSeq (sFor (fItS (fCall 1 g_places (aCons (fCB (g1 lenS) (aCons (fVar 0) aNil)) aNil))) (gTupS 2 (gsCons (gSet 1) (gsCons (gSet 2) gsNil))) (sCut [1, 2] (sIf (fOr (fNot (fTru (fCall 2 g_is_colour (aCons (fCB (g1 lenS) (aCons (fVar 0) aNil)) (aCons (fOp2 gIx (fOp2 gIx (fVar 0) (fVar 1)) (fVar 2)) aNil))))) (fAnd (fAsB (fOp2 gLt (fVar 2) (fVar 1))) (fAsB (fOp2 gNe (fOp2 gIx (fOp2 gIx (fVar 0) (fVar 2)) (fVar 1)) (fOp2 gIx (fOp2 gIx (fVar 0) (fVar 1)) (fVar 2)))))) (sRet (fTup (aCons (fVar 1) (aCons (fVar 2) aNil)))) sNil)))
  (sRet (fC .non)))
noncomputable def g_first_wrong_place : G := exitG false 3 b_first_wrong_place
noncomputable def b_Table_init : FS :=
  (sSeq (sIf (fNot (fTru (fCall 1 g_has_shape (aCons (fVar 1) aNil)))) (sRaise1 "InvalidTable" "place" (aCons (fC .non) aNil)) sNil)
  (sSeq (sAsg (fCall 1 g_first_wrong_place (aCons (fVar 1) aNil)) (gSet 2))
  (sSeq (sIf (fAsB (fOp2 (gIs true) (fVar 2) (fC .non))) (sRaise1 "InvalidTable" "place" (aCons (fVar 2) aNil)) sNil)
  (sFldS "Table" "own_rows" (fVar 0) (fLc false [3] (fItS (fVar 1)) (gSet 3) tYesF (fCB (gList false) (aCons (fVar 3) aNil)))))))
noncomputable def g_Table_init : G := exitG false 4 b_Table_init
noncomputable def b_Table_size : FS :=
  (sRet (fCB (g1 lenS) (aCons (fFld "Table" "own_rows" (fVar 0)) aNil)))
noncomputable def g_Table_size : G := exitG false 1 b_Table_size
noncomputable def b_Table_rows : FS :=
  (sRet (fLc false [1] (fItS (fFld "Table" "own_rows" (fVar 0))) (gSet 1) tYesF (fCB (gList false) (aCons (fVar 1) aNil))))
noncomputable def g_Table_rows : G := exitG false 2 b_Table_rows
noncomputable def b_Table_validate_colour : FS :=
  (sIf (fNot (fTru (fCall 2 g_is_colour (aCons (fProp "Table" g_Table_size (fVar 0)) (aCons (fVar 1) aNil))))) (sRaise1 "InvalidColour" "value" (aCons (fVar 1) aNil)) sNil)
noncomputable def g_Table_validate_colour : G := exitG false 2 b_Table_validate_colour
noncomputable def b_Table_getitem : FS :=
  (sSeq (sIf (fOr (fNot (fTru (fIsi CL ["tuple"] (fVar 1)))) (fAsB (fOp2 gNe (fCB (g1 lenS) (aCons (fVar 1) aNil)) (fC (.int 2))))) (sRaise1 "InvalidColour" "value" (aCons (fVar 1) aNil)) sNil)
  (sSeq (sFor (fItS (fVar 1)) (gSet 2) (sCut [2] (sExpr (fMeth "Table" "validate_colour" 2 g_Table_validate_colour (fVar 0) (aCons (fVar 2) aNil)))))
  (sRet (fOp2 gIx (fOp2 gIx (fFld "Table" "own_rows" (fVar 0)) (fOp2 gIx (fVar 1) (fC (.int 0)))) (fOp2 gIx (fVar 1) (fC (.int 1)))))))
noncomputable def g_Table_getitem : G := exitG false 3 b_Table_getitem
noncomputable def b_Table_len : FS :=
  (sRet (fCB (g1 lenS) (aCons (fFld "Table" "own_rows" (fVar 0)) aNil)))
noncomputable def g_Table_len : G := exitG false 1 b_Table_len
end BJ
end
section
set_option Elab.async false
set_option linter.all false
set_option maxRecDepth 100000
set_option maxHeartbeats 0
namespace BJ
open PySem Dl
noncomputable def b_are_counts : FS :=
  (sSeq (sIf (fOr (fNot (fTru (fIsi CL ["list", "tuple"] (fVar 0)))) (fNot (fAsB (fChain gLe gLe (fC (.int 1)) (fCB (g1 lenS) (aCons (fVar 0) aNil)) (fC (.int 8)))))) (sRet (fC (.bl false))) sNil)
  (sRet (fCB (g1 allS) (aCons (fLc false [1] (fItS (fVar 0)) (gSet 1) tYesF ((fAndV (fCall 1 g_is_integer (aCons (fVar 1) aNil)) (fOp2 gGe (fVar 1) (fC (.int 0)))))) aNil))))
noncomputable def g_are_counts : G := exitG false 2 b_are_counts
noncomputable def b_Jar_init : FS :=
  (sSeq (sIf (fNot (fTru (fCall 1 g_are_counts (aCons (fVar 1) aNil)))) (sRaise0 "InvalidJar") sNil)
  (sFldS "Jar" "own_counts" (fVar 0) (fCB (gList false) (aCons (fVar 1) aNil))))
noncomputable def g_Jar_init : G := exitG false 2 b_Jar_init
noncomputable def b_Jar_size : FS :=
  (sRet (fCB (g1 lenS) (aCons (fFld "Jar" "own_counts" (fVar 0)) aNil)))
noncomputable def g_Jar_size : G := exitG false 1 b_Jar_size
noncomputable def b_Jar_total : FS :=
  (sRet (fCB (g1 sumS) (aCons (fFld "Jar" "own_counts" (fVar 0)) aNil)))
noncomputable def g_Jar_total : G := exitG false 1 b_Jar_total
noncomputable def b_Jar_counts : FS :=
  (sRet (fCB (gList false) (aCons (fFld "Jar" "own_counts" (fVar 0)) aNil)))
noncomputable def g_Jar_counts : G := exitG false 1 b_Jar_counts
noncomputable def b_Jar_colours : FS :=
  (sRet (fLc false [1, 2] (fItE (aCons (fFld "Jar" "own_counts" (fVar 0)) aNil)) (gTupS 2 (gsCons (gSet 1) (gsCons (gSet 2) gsNil))) (fAsB (fOp2 gGt (fVar 2) (fC (.int 0)))) (fVar 1)))
noncomputable def g_Jar_colours : G := exitG false 3 b_Jar_colours
noncomputable def b_Jar_getitem : FS :=
  (sSeq (sIf (fNot (fTru (fCall 2 g_is_colour (aCons (fProp "Jar" g_Jar_size (fVar 0)) (aCons (fVar 1) aNil))))) (sRaise1 "InvalidColour" "value" (aCons (fVar 1) aNil)) sNil)
  (sRet (fOp2 gIx (fFld "Jar" "own_counts" (fVar 0)) (fVar 1))))
noncomputable def g_Jar_getitem : G := exitG false 2 b_Jar_getitem
noncomputable def b_Jar_contains : FS :=
  (sRet ((fAndV (fCall 2 g_is_colour (aCons (fProp "Jar" g_Jar_size (fVar 0)) (aCons (fVar 1) aNil))) (fOp2 gGt (fOp2 gIx (fFld "Jar" "own_counts" (fVar 0)) (fVar 1)) (fC (.int 0))))))
noncomputable def g_Jar_contains : G := exitG false 2 b_Jar_contains
noncomputable def b_Jar_bool : FS :=
  (sRet (fOp2 gGt (fCB (g1 sumS) (aCons (fFld "Jar" "own_counts" (fVar 0)) aNil)) (fC (.int 0))))
noncomputable def g_Jar_bool : G := exitG false 1 b_Jar_bool
noncomputable def b_Jar_validate_size : FS :=
  (sIf (fAsB (fOp2 gNe (fProp "Jar" g_Jar_size (fVar 0)) (fVar 1))) (sRaise0 "WrongSize") sNil)
noncomputable def g_Jar_validate_size : G := exitG false 2 b_Jar_validate_size
noncomputable def b_Jar_add : FS :=
  (sSeq (sExpr (fMeth "Jar" "validate_size" 2 g_Jar_validate_size (fVar 0) (aCons (fProp "Jar" g_Jar_size (fVar 1)) aNil)))
  (sRet (fMake true "Jar" 2 g_Jar_init (aCons (fLc false [2, 3] (fItZ true (aCons (fFld "Jar" "own_counts" (fVar 0)) (aCons (fFld "Jar" "own_counts" (fVar 1)) aNil))) (gTupS 2 (gsCons (gSet 2) (gsCons (gSet 3) gsNil))) tYesF (fOp2 (gAdd false) (fVar 2) (fVar 3))) aNil))))
noncomputable def g_Jar_add : G := exitG false 4 b_Jar_add
noncomputable def b_Jar_mul : FS :=
  (sSeq (sIf (fOr (fNot (fTru (fCall 1 g_is_integer (aCons (fVar 1) aNil)))) (fAsB (fOp2 gLt (fVar 1) (fC (.int 0))))) (sRaise1 "InvalidNumber" "value" (aCons (fVar 1) aNil)) sNil)
  (sRet (fMake true "Jar" 2 g_Jar_init (aCons (fLc false [2] (fItS (fFld "Jar" "own_counts" (fVar 0))) (gSet 2) tYesF (fOp2 (gMul false) (fVar 2) (fVar 1))) aNil))))
noncomputable def g_Jar_mul : G := exitG false 3 b_Jar_mul
noncomputable def b_Jar_of_beans : FS :=
  (sSeq (sIf (fOr (fNot (fTru (fCall 1 g_is_integer (aCons (fVar 1) aNil)))) (fNot (fAsB (fChain gLe gLe (fC (.int 1)) (fVar 1) (fC (.int 8)))))) (sRaise1 "InvalidNumber" "value" (aCons (fVar 1) aNil)) sNil)
  (sSeq (sIf (fNot (fTru (fIsi CL ["list", "tuple"] (fVar 2)))) (sRaise1 "InvalidColour" "value" (aCons (fVar 2) aNil)) sNil)
  (sSeq (sAsg (fOp2 (gMul true) (fLst false (aCons (fC (.int 0)) aNil)) (fVar 1)) (gSet 3))
  (sSeq (sFor (fItS (fVar 2)) (gSet 4) (sCut [4] (sSeq (sIf (fNot (fTru (fCall 2 g_is_colour (aCons (fVar 1) (aCons (fVar 4) aNil))))) (sRaise1 "InvalidColour" "value" (aCons (fVar 4) aNil)) sNil)
  (sAugI (fun i j => i + j) (fVar 3) (fVar 4) (fC (.int 1))))))
  (sRet (fMakeV 0 true "Jar" 2 g_Jar_init (aCons (fVar 3) aNil)))))))
noncomputable def g_Jar_of_beans : G := exitG true 5 b_Jar_of_beans
noncomputable def b_Jar_eq : FS :=
  (sRet ((fAndV (fIsiO CL "Jar" (fVar 1)) (fOp2 gEq (fFld "Jar" "own_counts" (fVar 0)) (fFld "Jar" "own_counts" (fVar 1))))))
noncomputable def g_Jar_eq : G := exitG false 2 b_Jar_eq
noncomputable def b_Jar_can_draw : FS :=
  (sSeq (sIf (fOr (fNot (fTru (fIsi CL ["tuple"] (fVar 1)))) (fOr (fAsB (fOp2 gNe (fCB (g1 lenS) (aCons (fVar 1) aNil)) (fC (.int 2)))) (fOr (fAsB (fOp2 (gInOwn true "Jar" g_Jar_contains) (fOp2 gIx (fVar 1) (fC (.int 0))) (fVar 0))) (fAsB (fOp2 (gInOwn true "Jar" g_Jar_contains) (fOp2 gIx (fVar 1) (fC (.int 1))) (fVar 0)))))) (sRet (fC (.bl false))) sNil)
  (sRet ((fOrV (fOp2 gLt (fOp2 gIx (fVar 1) (fC (.int 0))) (fOp2 gIx (fVar 1) (fC (.int 1)))) ((fAndV (fOp2 gEq (fOp2 gIx (fVar 1) (fC (.int 0))) (fOp2 gIx (fVar 1) (fC (.int 1)))) (fOp2 gGe (fOp2 gIx (fFld "Jar" "own_counts" (fVar 0)) (fOp2 gIx (fVar 1) (fC (.int 0)))) (fC (.int 2)))))))))
noncomputable def g_Jar_can_draw : G := exitG false 2 b_Jar_can_draw
end BJ
end
section
set_option Elab.async false
set_option linter.all false
set_option maxRecDepth 100000
set_option maxHeartbeats 0
namespace BJ
open PySem Dl
noncomputable def b__law_pool : FS :=
  (sSeq (sAsg (fC (.int 0)) (gSet 2))
  (sSeq (sIf (fAsB (fOp2 gLt (fVar 1) (fCB (g1 lenS) (aCons (fVar 0) aNil)))) (sAsg (fOp2 gIx (fVar 0) (fVar 1)) (gSet 2)) sNil)
  (sSeq (sAsg (fOp2 gMod (fOp2 gPow (fOp2 (gAdd false) (fOp2 (gAdd false) (fOp2 gMod (fVar 2) (fC (.int 2147483629))) (fOp2 (gMul false) (fOp2 (gMul false) (fC (.int 7919)) (fVar 1)) (fVar 1))) (fC (.int 31))) (fC (.int 3))) (fC (.int 2147483647))) (gSet 3))
  (sSeq (sIf (fAsB (fOp2 gLt (fVar 2) (fOp2 gPow (fC (.int 10)) (fC (.int 18))))) (sAsg (fC (.int 0)) (gSet 2)) sNil)
  (sRet (fLst true (aCons (fVar 2) (aCons (fVar 3) aNil))))))))
noncomputable def g__law_pool : G := exitG false 4 b__law_pool
noncomputable def b__law_draw : FS :=
  (sSeq (sIf (fAsB (fOp2 gGt (fOp2 gIx (fVar 0) (fC (.int 0))) (fC (.int 0)))) (sSeq (sAsg (fOp2 gMod (fOp2 gIx (fVar 0) (fC (.int 0))) (fVar 1)) (gSet 2))
  (sSeq (sAsg (fOp2 gDiv (fOp2 gIx (fVar 0) (fC (.int 0))) (fVar 1)) (gSubS (fVar 0) (fC (.int 0))))
  (sRet (fVar 2)))) sNil)
  (sSeq (sAsg (fOp2 gMod (fOp2 (gAdd false) (fOp2 (gMul false) (fOp2 gIx (fVar 0) (fC (.int 1))) (fC (.int 48271))) (fC (.int 11))) (fC (.int 2147483647))) (gSubS (fVar 0) (fC (.int 1))))
  (sRet (fOp2 gMod (fOp2 gDiv (fOp2 gMod (fOp2 (gMul false) (fOp2 gIx (fVar 0) (fC (.int 1))) (fOp2 gIx (fVar 0) (fC (.int 1)))) (fC (.int 2147483629))) (fC (.int 64))) (fVar 1)))))
noncomputable def g__law_draw : G := exitG false 3 b__law_draw
end BJ
end
section
set_option Elab.async false
set_option linter.all false
set_option maxRecDepth 100000
set_option maxHeartbeats 0
namespace BJ
open PySem Dl
noncomputable def b_is_disputed : FS :=
  (sRet (fOp2 gNe (fOp2 (gOwn "Table" g_Table_getitem) (fVar 0) (fTup (aCons (fOp2 (gOwn "Table" g_Table_getitem) (fVar 0) (fTup (aCons (fVar 1) (aCons (fVar 2) aNil)))) (aCons (fVar 3) aNil)))) (fOp2 (gOwn "Table" g_Table_getitem) (fVar 0) (fTup (aCons (fVar 1) (aCons (fOp2 (gOwn "Table" g_Table_getitem) (fVar 0) (fTup (aCons (fVar 2) (aCons (fVar 3) aNil)))) aNil))))))
noncomputable def g_is_disputed : G := exitG false 4 b_is_disputed
noncomputable def b_first_dispute : FS :=
  (sSeq (sAsg (fBind (fProp "Table" g_Table_size (fVar 0)) (lRg1 false)) (gSet 1))
  (sSeq (sAsg (fComp [3, 4, 5] (fItS (fVar 1)) (gSet 3) tYesF (clS [4, 5] (fItS (fVar 1)) (gSet 4) tYesF (clS [5] (fItS (fVar 1)) (gSet 5) (fTru (fCall 4 g_is_disputed (aCons (fVar 0) (aCons (fVar 3) (aCons (fVar 4) (aCons (fVar 5) aNil)))))) (eL (fTup (aCons (fVar 3) (aCons (fVar 4) (aCons (fVar 5) aNil))))))) [] (fun acc => fNew false (.lst acc))) (gSet 2))
  (sRet (fIf (fTru (fVar 2)) (fOp2 gIx (fVar 2) (fC (.int 0))) (fC .non)))))
noncomputable def g_first_dispute : G := exitG false 6 b_first_dispute
noncomputable def b_validate_beans : FS :=
  (sSeq (sExpr (fMeth "Jar" "validate_size" 2 g_Jar_validate_size (fVar 1) (aCons (fProp "Table" g_Table_size (fVar 0)) aNil)))
  (sIf (fNot (fBind (fVar 1) (gTruOwn "Jar" g_Jar_bool))) (sRaise0 "EmptyJar") sNil))
noncomputable def g_validate_beans : G := exitG false 2 b_validate_beans
end BJ
end
section
set_option Elab.async false
set_option linter.all false
set_option maxRecDepth 100000
set_option maxHeartbeats 0
namespace BJ
open PySem Dl
noncomputable def b_validate_passes : FS :=
  (sSeq (sAsg (fCall 1 g_first_dispute (aCons (fVar 0) aNil)) (gSet 1))
  (sIf (fAsB (fOp2 (gIs true) (fVar 1) (fC .non))) (sRaise1 "Disputed" "triple" (aCons (fVar 1) aNil)) sNil))
noncomputable def g_validate_passes : G := exitG false 2 b_validate_passes
noncomputable def b_product : FS :=
  (sSeq (sIf (fOr (fAsB (fOp2 (gIs false) (fVar 1) (fC .non))) (fAsB (fOp2 (gIs false) (fVar 2) (fC .non)))) (sRet (fIf (fAsB (fOp2 (gIs false) (fVar 1) (fC .non))) (fVar 2) (fVar 1))) sNil)
  (sRet (fOp2 (gOwn "Table" g_Table_getitem) (fVar 0) (fTup (aCons (fVar 1) (aCons (fVar 2) aNil))))))
noncomputable def g_product : G := exitG false 3 b_product
noncomputable def b_times : FS :=
  (sSeq (sPar [3, 4] (aCons (fC .non) (aCons (fVar 1) aNil)))
  (sSeq (sWhile (fAsB (fOp2 gGt (fVar 2) (fC (.int 0)))) (sCut [] (sSeq (sIf (fAsB (fOp2 gEq (fOp2 gMod (fVar 2) (fC (.int 2))) (fC (.int 1)))) (sAsg (fCall 3 g_product (aCons (fVar 0) (aCons (fVar 3) (aCons (fVar 4) aNil)))) (gSet 3)) sNil)
  (sSeq (sAsg (fOp2 (gOwn "Table" g_Table_getitem) (fVar 0) (fTup (aCons (fVar 4) (aCons (fVar 4) aNil)))) (gSet 4))
  (sAsg (fOp2 gDiv (fVar 2) (fC (.int 2))) (gSet 2))))))
  (sRet (fVar 3))))
noncomputable def g_times : G := exitG false 5 b_times
noncomputable def b_last_bean : FS :=
  (sSeq (sExpr (fCall 1 g_validate_passes (aCons (fVar 0) aNil)))
  (sSeq (sExpr (fCall 2 g_validate_beans (aCons (fVar 0) (aCons (fVar 1) aNil))))
  (sSeq (sAsg (fC .non) (gSet 2))
  (sSeq (sFor (fItS (fMeth0 "Jar" "colours" g_Jar_colours (fVar 1))) (gSet 3) (sCut [3] (sAsg (fCall 3 g_product (aCons (fVar 0) (aCons (fVar 2) (aCons (fCall 3 g_times (aCons (fVar 0) (aCons (fVar 3) (aCons (fOp2 (gOwn "Jar" g_Jar_getitem) (fVar 1) (fVar 3)) aNil)))) aNil)))) (gSet 2))))
  (sRet (fVar 2))))))
noncomputable def g_last_bean : G := exitG false 4 b_last_bean
end BJ
end
section
set_option Elab.async false
set_option linter.all false
set_option maxRecDepth 100000
set_option maxHeartbeats 0
namespace BJ
open PySem Dl
noncomputable def b__law_jars : FS :=
  (sSeq (sAsg (fLst false (aCons (fLst false aNil) aNil)) (gSet 2))
  (sSeq (sFor (fItR1 (aCons (fVar 0) aNil)) (gSet 3) (sCut [3, 4, 5] (sSeq (sAsg (fLst false aNil) (gSet 4))
  (sSeq (sFor (fItS (fVar 2)) (gSet 5) (sCut [5] (sAsg (fOp2 (gAdd false) (fVar 4) (fLc false [6] (fItR1 (aCons (fOp2 (gAdd false) (fOp2 gSub (fVar 1) (fCB (g1 sumS) (aCons (fVar 5) aNil))) (fC (.int 1))) aNil)) (gSet 6) tYesF (fOp2 (gAdd false) (fVar 5) (fLst false (aCons (fVar 6) aNil))))) (gSet 4))))
  (sAsg (fVar 4) (gSet 2))))))
  (sRet (fLc false [5] (fItS (fVar 2)) (gSet 5) (fAsB (fOp2 gEq (fCB (g1 sumS) (aCons (fVar 5) aNil)) (fVar 1))) (fVar 5)))))
noncomputable def g__law_jars : G := exitG false 7 b__law_jars
end BJ
end
section
set_option Elab.async false
set_option linter.all false
set_option maxRecDepth 100000
set_option maxHeartbeats 0
namespace BJ
open PySem Dl
noncomputable def b__law_rows_k22 : FS :=
  (sSeq (sAsg (fCall 2 g__law_draw (aCons (fVar 0) (aCons (fC (.int 5)) aNil))) (gSet 2))
  (sSeq (sIf (fAsB (fOp2 gEq (fVar 2) (fC (.int 0)))) (sRet (fLc false [3] (fItR1 (aCons (fVar 1) aNil)) (gSet 3) tYesF (fLc false [4] (fItR1 (aCons (fVar 1) aNil)) (gSet 4) tYesF (fOp2 gMod (fOp2 (gAdd false) (fVar 3) (fVar 4)) (fVar 1))))) sNil)
  (sSeq (sIf (fAsB (fOp2 gEq (fVar 2) (fC (.int 1)))) (sRet (fLc false [3] (fItR1 (aCons (fVar 1) aNil)) (gSet 3) tYesF (fLc false [4] (fItR1 (aCons (fVar 1) aNil)) (gSet 4) tYesF (fCB (g2 minS) (aCons (fVar 3) (aCons (fVar 4) aNil)))))) sNil)
  (sSeq (sIf (fAsB (fOp2 gEq (fVar 2) (fC (.int 2)))) (sRet (fLc false [3] (fItR1 (aCons (fVar 1) aNil)) (gSet 3) tYesF (fLc false [4] (fItR1 (aCons (fVar 1) aNil)) (gSet 4) tYesF (fCB (g2 minS) (aCons (fOp2 (gAdd false) (fOp2 (gAdd false) (fVar 3) (fVar 4)) (fC (.int 1))) (aCons (fOp2 gSub (fVar 1) (fC (.int 1))) aNil)))))) sNil)
  (sSeq (sIf (fAsB (fOp2 gEq (fVar 2) (fC (.int 3)))) (sRet (fLc false [3] (fItR1 (aCons (fVar 1) aNil)) (gSet 3) tYesF (fLc false [4] (fItR1 (aCons (fVar 1) aNil)) (gSet 4) tYesF (fOp2 gMod (fOp2 (gMul false) (fVar 3) (fVar 4)) (fVar 1))))) sNil)
  (sRet (fLc false [3] (fItR1 (aCons (fVar 1) aNil)) (gSet 3) tYesF (fLc false [4] (fItR1 (aCons (fVar 1) aNil)) (gSet 4) tYesF (fOp2 gMod (fOp2 (gAdd false) (fOp2 (gAdd false) (fVar 3) (fVar 4)) (fC (.int 1))) (fVar 1))))))))))
noncomputable def g__law_rows_k22 : G := exitG true 5 b__law_rows_k22
noncomputable def b__law_last_k22 : FS :=
  (sSeq (sAsg (fLst false aNil) (gSet 2))
  (sSeq (sFor (fItR1 (aCons (fCB (g1 lenS) (aCons (fVar 0) aNil)) aNil)) (gSet 3) (sCut [3] (sAsg (fOp2 (gAdd false) (fVar 2) (fOp2 (gMul false) (fLst false (aCons (fVar 3) aNil)) (fOp2 gIx (fVar 1) (fVar 3)))) (gSet 2))))
  (sSeq (sAsg (fOp2 gIx (fVar 2) (fC (.int 0))) (gSet 4))
  (sSeq (sFor (fItS (fSl false (fVar 2) (oSome (fC (.int 1))) oNone)) (gSet 5) (sCut [5] (sAsg (fOp2 gIx (fOp2 gIx (fVar 0) (fVar 4)) (fVar 5)) (gSet 4))))
  (sRet (fVar 4))))))
noncomputable def g__law_last_k22 : G := exitG false 6 b__law_last_k22
noncomputable def b_count_jars_k22 : FS :=
  (sSeq (sExpr (fCall 1 g_validate_passes (aCons (fVar 0) aNil)))
  (sSeq (sIf (fOr (fNot (fTru (fCall 1 g_is_integer (aCons (fVar 1) aNil)))) (fNot (fAsB (fChain gLe gLe (fC (.int 1)) (fVar 1) (fC (.int 40)))))) (sRaise1 "InvalidNumber" "value" (aCons (fVar 1) aNil)) sNil)
  (sSeq (sAsg (fDict1 false (fTup (aCons (fC (.int 0)) (aCons (fC .non) aNil))) (fC (.int 1))) (gSet 2))
  (sSeq (sFor (fItR1 (aCons (fProp "Table" g_Table_size (fVar 0)) aNil)) (gSet 3) (sCutZ 2 [3, 4, 5, 7, 8, 9, 10] (sSeq (sPar [4, 5] (aCons (fDictN true) (aCons (fLst true (aCons (fC .non) aNil)) aNil)))
  (sSeq (sFor (fItR1 (aCons (fVar 1) aNil)) (gSet 6) (sCut [6] (sExpr (fLm mAppend (fVar 5) (aCons (fCall 3 g_product (aCons (fVar 0) (aCons (fOp2 gIx (fVar 5) (fNeg (fC (.int 1)))) (aCons (fVar 3) aNil)))) aNil)))))
  (sSeq (sFor (fItNi (fVar 2)) (gTupS 2 (gsCons (gTupS 2 (gsCons (gSet 7) (gsCons (gSet 8) gsNil))) (gsCons (gSet 9) gsNil))) (sCut [6, 7, 8, 9, 10] (sFor (fItR1 (aCons (fOp2 (gAdd false) (fOp2 gSub (fVar 1) (fVar 7)) (fC (.int 1))) aNil)) (gSet 6) (sCut [6, 10] (sSeq (sAsg (fTup (aCons (fOp2 (gAdd false) (fVar 7) (fVar 6)) (aCons (fCall 3 g_product (aCons (fVar 0) (aCons (fVar 8) (aCons (fOp2 gIx (fVar 5) (fVar 6)) aNil)))) aNil))) (gSet 10))
  (sAsg (fOp2 (gAdd false) (fGetN2 (fVar 4) (fVar 10) (fC (.int 0))) (fVar 9)) (gSubSN (fVar 4) (fVar 10))))))))
  (sAsg (fVar 4) (gSet 2)))))))
  (sRet (fLc false [3] (fItR1 (aCons (fProp "Table" g_Table_size (fVar 0)) aNil)) (gSet 3) tYesF (fGetN2 (fVar 2) (fTup (aCons (fVar 1) (aCons (fVar 3) aNil))) (fC (.int 0)))))))))
noncomputable def g_count_jars_k22 : G := exitG false 11 b_count_jars_k22
noncomputable def b_powers_k22 : FS :=
  (sSeq (sExpr (fCall 1 g_validate_passes (aCons (fVar 0) aNil)))
  (sSeq (sExpr (fMeth "Table" "validate_colour" 2 g_Table_validate_colour (fVar 0) (aCons (fVar 1) aNil)))
  (sSeq (sAsg (fLst true (aCons (fVar 1) aNil)) (gSet 2))
  (sSeq (sWhileW 3 (fOp2 (gOwn "Table" g_Table_getitem) (fVar 0) (fTup (aCons (fOp2 gIx (fVar 2) (fNeg (fC (.int 1)))) (aCons (fVar 1) aNil)))) (fVar 2) (gIn true) (sCut [] (sExpr (fLm mAppend (fVar 2) (aCons (fVar 3) aNil)))))
  (sRet (fTup (aCons (fVar 2) (aCons (fOp2 (gAdd false) (fIndex (fVar 2) (aCons (fVar 3) aNil)) (fC (.int 1))) aNil))))))))
noncomputable def g_powers_k22 : G := exitG true 4 b_powers_k22
noncomputable def b__law_check_powers_k22 : FS :=
  (sSeq (sFor (fItR1 (aCons (fVar 3) aNil)) (gSet 4) (sCut [4, 5, 6, 7, 8, 9, 10] (sSeq (sAsg (fCall 2 g_powers_k22 (aCons (fVar 1) (aCons (fVar 4) aNil))) (gTupS 2 (gsCons (gSet 5) (gsCons (gSet 6) gsNil))))
  (sSeq (sPar [7, 8] (aCons (fLst true aNil) (aCons (fVar 4) aNil)))
  (sSeq (sWhile (fAsB (fOp2 (gIn true) (fVar 8) (fVar 7))) (sCut [] (sSeq (sExpr (fLm mAppend (fVar 7) (aCons (fVar 8) aNil)))
  (sAsg (fOp2 gIx (fOp2 gIx (fVar 2) (fVar 8)) (fVar 4)) (gSet 8)))))
  (sSeq (sIf (fOr (fAsB (fOp2 gNe (fVar 5) (fVar 7))) (fAsB (fOp2 gNe (fVar 6) (fOp2 (gAdd false) (fIndex (fVar 7) (aCons (fVar 8) aNil)) (fC (.int 1)))))) (sRet (fC (.bl false))) sNil)
  (sSeq (sAsg (fOp2 (gAdd false) (fOp2 (gAdd false) (fCB (g1 lenS) (aCons (fVar 7) aNil)) (fC (.int 1))) (fCall 2 g__law_draw (aCons (fVar 0) (aCons (fOp2 gPow (fC (.int 10)) (fC (.int 30))) aNil)))) (gSet 9))
  (sSeq (sAsg (fOp2 (gAdd false) (fOp2 gSub (fVar 6) (fC (.int 1))) (fOp2 gMod (fOp2 gSub (fVar 9) (fVar 6)) (fOp2 (gAdd false) (fOp2 gSub (fCB (g1 lenS) (aCons (fVar 7) aNil)) (fVar 6)) (fC (.int 1))))) (gSet 10))
  (sIf (fAsB (fOp2 gNe (fCall 2 g_last_bean (aCons (fVar 1) (aCons (fOp2 (gMulO "Jar" g_Jar_mul) (fCMeth "Jar" 3 g_Jar_of_beans (aCons (fVar 3) (aCons (fLst false (aCons (fVar 4) aNil)) aNil))) (fVar 9)) aNil))) (fOp2 gIx (fVar 7) (fVar 10)))) (sRet (fC (.bl false))) sNil)))))))))
  (sRet (fC (.bl true))))
noncomputable def g__law_check_powers_k22 : G := exitG false 11 b__law_check_powers_k22
noncomputable def b__law_choices_k22 : FS :=
  (sSeq (sAsg (fC (.int 1)) (gSet 2))
  (sSeq (sFor (fItR2 (aCons (fC (.int 1)) (aCons (fOp2 (gAdd false) (fVar 1) (fC (.int 1))) aNil))) (gSet 3) (sCut [3] (sAsg (fOp2 gDiv (fOp2 (gMul false) (fVar 2) (fOp2 (gAdd false) (fOp2 gSub (fVar 0) (fVar 1)) (fVar 3))) (fVar 3)) (gSet 2))))
  (sRet (fVar 2))))
noncomputable def g__law_choices_k22 : G := exitG false 4 b__law_choices_k22
noncomputable def b_law_k22 : FS :=
  (sSeq (sFor (fItR1 (aCons (fCB (g2 maxS) (aCons (fC (.int 1)) (aCons (fCB (g2 minS) (aCons (fCB (g1 lenS) (aCons (fVar 0) aNil)) (aCons (fC (.int 6)) aNil))) aNil))) aNil)) (gSet 1) (sCut [1, 2, 3, 4, 5, 6, 7, 8, 9] (sSeq (sAsg (fCall 2 g__law_pool (aCons (fVar 0) (aCons (fVar 1) aNil))) (gSet 2))
  (sSeq (sAsg (fOp2 (gAdd false) (fC (.int 1)) (fCall 2 g__law_draw (aCons (fVar 2) (aCons (fC (.int 5)) aNil)))) (gSet 3))
  (sSeq (sAsg (fCall 2 g__law_rows_k22 (aCons (fVar 2) (aCons (fVar 3) aNil))) (gSet 4))
  (sSeq (sPar [5, 6] (aCons (fMake true "Table" 2 g_Table_init (aCons (fVar 4) aNil)) (aCons (fOp2 (gAdd false) (fC (.int 1)) (fCall 2 g__law_draw (aCons (fVar 2) (aCons (fOp2 gIx (fLst false (aCons (fC (.int 12)) (aCons (fC (.int 8)) (aCons (fC (.int 8)) (aCons (fC (.int 6)) (aCons (fC (.int 5)) aNil)))))) (fOp2 gSub (fVar 3) (fC (.int 1)))) aNil)))) aNil)))
  (sSeq (sAsg (fOp2 (gMul true) (fLst false (aCons (fC (.int 0)) aNil)) (fVar 3)) (gSet 7))
  (sSeq (sFor (fItS (fCall 2 g__law_jars (aCons (fVar 3) (aCons (fVar 6) aNil)))) (gSet 8) (sCut [8, 9] (sSeq (sAsg (fCall 2 g__law_last_k22 (aCons (fVar 4) (aCons (fVar 8) aNil))) (gSet 9))
  (sAsg (fOp2 (gAdd false) (fOp2 gIx (fVar 7) (fVar 9)) (fC (.int 1))) (gSubS (fVar 7) (fVar 9))))))
  (sSeq (sIf (fAsB (fOp2 gNe (fCall 2 g_count_jars_k22 (aCons (fVar 5) (aCons (fVar 6) aNil))) (fVar 7))) (sRet (fC (.bl false))) sNil)
  (sSeq (sIf (fNot (fTru (fCall 4 g__law_check_powers_k22 (aCons (fVar 2) (aCons (fVar 5) (aCons (fVar 4) (aCons (fVar 3) aNil))))))) (sRet (fC (.bl false))) sNil)
  (sIf (fAnd (fAsB (fOp2 gLt (fVar 1) (fC (.int 2)))) (fAsB (fOp2 gNe (fCB (g1 sumS) (aCons (fCall 2 g_count_jars_k22 (aCons (fVar 5) (aCons (fC (.int 40)) aNil))) aNil)) (fCall 2 g__law_choices_k22 (aCons (fOp2 gSub (fOp2 (gAdd false) (fC (.int 40)) (fVar 3)) (fC (.int 1))) (aCons (fOp2 gSub (fVar 3) (fC (.int 1))) aNil)))))) (sRet (fC (.bl false))) sNil)))))))))))
  (sRet (fC (.bl true))))
noncomputable def g_law_k22 : G := exitG false 10 b_law_k22
end BJ
end
section
set_option Elab.async false
set_option linter.all false
set_option maxRecDepth 100000
set_option maxHeartbeats 0
namespace K22
open PySem PySem.Spec L2 Dl BJ
noncomputable def top (i : Nat) : Stmt := PySem.Challenge.pw_beanjars_k22_powers_and_counts.main.body.getD i (.Pass ⟨0, 0, 0, 0⟩)
noncomputable abbrev s_law : Stmt := top 42
noncomputable abbrev s__law_pool : Stmt := top 34
noncomputable abbrev s__law_draw : Stmt := top 35
noncomputable abbrev s__law_rows : Stmt := top 38
noncomputable abbrev s_Table_init : Stmt := inClass (top 17) 0
noncomputable abbrev s_has_shape : Stmt := top 14
noncomputable abbrev s_InvalidTable_init : Stmt := inClass (top 2) 0
noncomputable abbrev s_first_wrong_place : Stmt := top 16
noncomputable abbrev s_places : Stmt := top 15
noncomputable abbrev s_is_colour : Stmt := top 13
noncomputable abbrev s_is_integer : Stmt := top 12
noncomputable abbrev s__law_jars : Stmt := top 37
noncomputable abbrev s__law_last : Stmt := top 39
noncomputable abbrev s_count_jars : Stmt := top 32
noncomputable abbrev s_validate_passes : Stmt := top 27
noncomputable abbrev s_first_dispute : Stmt := top 24
noncomputable abbrev s_Table_size : Stmt := inClass (top 17) 1
noncomputable abbrev s_is_disputed : Stmt := top 23
noncomputable abbrev s_Table_getitem : Stmt := inClass (top 17) 4
noncomputable abbrev s_InvalidColour_init : Stmt := inClass (top 4) 0
noncomputable abbrev s_Table_validate_colour : Stmt := inClass (top 17) 3
noncomputable abbrev s_Disputed_init : Stmt := inClass (top 9) 0
noncomputable abbrev s_InvalidNumber_init : Stmt := inClass (top 5) 0
noncomputable abbrev s_product : Stmt := top 28
noncomputable abbrev s__law_check_powers : Stmt := top 40
noncomputable abbrev s_powers : Stmt := top 31
noncomputable abbrev s_last_bean : Stmt := top 30
noncomputable abbrev s_validate_beans : Stmt := top 21
noncomputable abbrev s_Jar_validate_size : Stmt := inClass (top 20) 10
noncomputable abbrev s_Jar_size : Stmt := inClass (top 20) 2
noncomputable abbrev s_WrongSize_init : Stmt := inClass (top 6) 0
noncomputable abbrev s_Jar_bool : Stmt := inClass (top 20) 9
noncomputable abbrev s_EmptyJar_init : Stmt := inClass (top 7) 0
noncomputable abbrev s_Jar_colours : Stmt := inClass (top 20) 5
noncomputable abbrev s_times : Stmt := top 29
noncomputable abbrev s_Jar_getitem : Stmt := inClass (top 20) 6
noncomputable abbrev s_Jar_of_beans : Stmt := inClass (top 20) 1
noncomputable abbrev s_Jar_init : Stmt := inClass (top 20) 0
noncomputable abbrev s_are_counts : Stmt := top 19
noncomputable abbrev s_InvalidJar_init : Stmt := inClass (top 3) 0
noncomputable abbrev s_Jar_mul : Stmt := inClass (top 20) 13
noncomputable abbrev s__law_choices : Stmt := top 41
structure Ad where
  (law _law_pool _law_draw _law_rows Table_init has_shape InvalidTable_init first_wrong_place places is_colour is_integer _law_jars _law_last count_jars validate_passes first_dispute Table_size is_disputed Table_getitem InvalidColour_init Table_validate_colour Disputed_init InvalidNumber_init product _law_check_powers powers last_bean validate_beans Jar_validate_size Jar_size WrongSize_init Jar_bool EmptyJar_init Jar_colours times Jar_getitem Jar_of_beans Jar_init are_counts InvalidJar_init Jar_mul _law_choices C_Table C_Jar C_InvalidTable C_InvalidColour C_Disputed C_InvalidNumber C_WrongSize C_EmptyJar C_InvalidJar P_Table_size P_Jar_size M_Jar_of_beans : Addr)
structure Txt (K : PySem.W.Frag) (mg : Str → Option Value) (A : Ad) : Prop where
  cm_Jar_of_beans : ClX.CMet K A.C_Jar (.type "type") "of_beans" A.M_Jar_of_beans A.Jar_of_beans
  cr_Jar : ClX.CRead K A.C_Jar (.type "type")
  sf_Jar : PySem.W.selfFirst K A.C_Jar = true
  rm_Jar : PySem.W.findIn K (.ref A.C_Jar) "__rmul__" = some none
  si_Jar : PySem.W.subIn K (.type "int") (.ref A.C_Jar) = some false
  xc_InvalidTable : XC K mg "InvalidTable" A.C_InvalidTable A.InvalidTable_init "ValueError" "ValueError.__new__" "ValueError.__init__" tlV
  xn_InvalidTable : NoAttr K A.C_InvalidTable "place"
  xc_InvalidColour : XC K mg "InvalidColour" A.C_InvalidColour A.InvalidColour_init "ValueError" "ValueError.__new__" "ValueError.__init__" tlV
  xn_InvalidColour : NoAttr K A.C_InvalidColour "value"
  xc_Disputed : XC K mg "Disputed" A.C_Disputed A.Disputed_init "RuntimeError" "RuntimeError.__new__" "RuntimeError.__init__" tlR
  xn_Disputed : NoAttr K A.C_Disputed "triple"
  xc_InvalidNumber : XC K mg "InvalidNumber" A.C_InvalidNumber A.InvalidNumber_init "ValueError" "ValueError.__new__" "ValueError.__init__" tlV
  xn_InvalidNumber : NoAttr K A.C_InvalidNumber "value"
  xc_WrongSize : XC K mg "WrongSize" A.C_WrongSize A.WrongSize_init "ValueError" "ValueError.__new__" "ValueError.__init__" tlV
  xc_EmptyJar : XC K mg "EmptyJar" A.C_EmptyJar A.EmptyJar_init "LookupError" "LookupError.__new__" "LookupError.__init__" tlL
  xc_InvalidJar : XC K mg "InvalidJar" A.C_InvalidJar A.InvalidJar_init "ValueError" "ValueError.__new__" "ValueError.__init__" tlV
  vi_LookupError : PySem.W.findCls K (.type "LookupError") (.type "type") "__init__" = some (.val (.builtin "LookupError.__init__"))
  vi_RuntimeError : PySem.W.findCls K (.type "RuntimeError") (.type "type") "__init__" = some (.val (.builtin "RuntimeError.__init__"))
  vi_ValueError : PySem.W.findCls K (.type "ValueError") (.type "type") "__init__" = some (.val (.builtin "ValueError.__init__"))
  dl_law : ∃ fd : FuncData, Fun K "law" "law" s_law A.law fd ∧ ∀ (s : Shared) (u : Value), BindsTo s fd ⟨[u], []⟩ [("_law_script", u)]
  m_law : mg "law" = some (.ref A.law)
  kp_law : PySem.W.keepIn K (.ref A.law) = true
  d__law_pool : Df K "_law_pool" "_law_pool" s__law_pool A._law_pool ["_law_script", "_law_k"]
  m__law_pool : mg "_law_pool" = some (.ref A._law_pool)
  kp__law_pool : PySem.W.keepIn K (.ref A._law_pool) = true
  d__law_draw : Df K "_law_draw" "_law_draw" s__law_draw A._law_draw ["_law_pool_here", "_law_many"]
  m__law_draw : mg "_law_draw" = some (.ref A._law_draw)
  kp__law_draw : PySem.W.keepIn K (.ref A._law_draw) = true
  d__law_rows : Df K "_law_rows" "_law_rows" s__law_rows A._law_rows ["_law_pool_here", "_law_size"]
  m__law_rows : mg "_law_rows" = some (.ref A._law_rows)
  kp__law_rows : PySem.W.keepIn K (.ref A._law_rows) = true
  d_Table_init : Df K "__init__" "Table.__init__" s_Table_init A.Table_init ["self", "rows"]
  d_has_shape : Df K "has_shape" "has_shape" s_has_shape A.has_shape ["rows"]
  m_has_shape : mg "has_shape" = some (.ref A.has_shape)
  kp_has_shape : PySem.W.keepIn K (.ref A.has_shape) = true
  d_InvalidTable_init : Df K "__init__" "InvalidTable.__init__" s_InvalidTable_init A.InvalidTable_init ["self", "place"]
  d_first_wrong_place : Df K "first_wrong_place" "first_wrong_place" s_first_wrong_place A.first_wrong_place ["rows"]
  m_first_wrong_place : mg "first_wrong_place" = some (.ref A.first_wrong_place)
  kp_first_wrong_place : PySem.W.keepIn K (.ref A.first_wrong_place) = true
  d_places : Df K "places" "places" s_places A.places ["size"]
  m_places : mg "places" = some (.ref A.places)
  kp_places : PySem.W.keepIn K (.ref A.places) = true
  d_is_colour : Df K "is_colour" "is_colour" s_is_colour A.is_colour ["size", "value"]
  m_is_colour : mg "is_colour" = some (.ref A.is_colour)
  kp_is_colour : PySem.W.keepIn K (.ref A.is_colour) = true
  d_is_integer : Df K "is_integer" "is_integer" s_is_integer A.is_integer ["value"]
  m_is_integer : mg "is_integer" = some (.ref A.is_integer)
  kp_is_integer : PySem.W.keepIn K (.ref A.is_integer) = true
  d__law_jars : Df K "_law_jars" "_law_jars" s__law_jars A._law_jars ["_law_size", "_law_total"]
  m__law_jars : mg "_law_jars" = some (.ref A._law_jars)
  kp__law_jars : PySem.W.keepIn K (.ref A._law_jars) = true
  d__law_last : Df K "_law_last" "_law_last" s__law_last A._law_last ["_law_rows_here", "_law_counts"]
  m__law_last : mg "_law_last" = some (.ref A._law_last)
  kp__law_last : PySem.W.keepIn K (.ref A._law_last) = true
  d_count_jars : Df K "count_jars" "count_jars" s_count_jars A.count_jars ["table", "total"]
  m_count_jars : mg "count_jars" = some (.ref A.count_jars)
  kp_count_jars : PySem.W.keepIn K (.ref A.count_jars) = true
  d_validate_passes : Df K "validate_passes" "validate_passes" s_validate_passes A.validate_passes ["table"]
  m_validate_passes : mg "validate_passes" = some (.ref A.validate_passes)
  kp_validate_passes : PySem.W.keepIn K (.ref A.validate_passes) = true
  d_first_dispute : Df K "first_dispute" "first_dispute" s_first_dispute A.first_dispute ["table"]
  m_first_dispute : mg "first_dispute" = some (.ref A.first_dispute)
  kp_first_dispute : PySem.W.keepIn K (.ref A.first_dispute) = true
  d_Table_size : Df K "size" "Table.size" s_Table_size A.Table_size ["self"]
  d_is_disputed : Df K "is_disputed" "is_disputed" s_is_disputed A.is_disputed ["table", "a", "b", "c"]
  m_is_disputed : mg "is_disputed" = some (.ref A.is_disputed)
  kp_is_disputed : PySem.W.keepIn K (.ref A.is_disputed) = true
  d_Table_getitem : Df K "__getitem__" "Table.__getitem__" s_Table_getitem A.Table_getitem ["self", "pair"]
  d_InvalidColour_init : Df K "__init__" "InvalidColour.__init__" s_InvalidColour_init A.InvalidColour_init ["self", "value"]
  d_Table_validate_colour : Df K "validate_colour" "Table.validate_colour" s_Table_validate_colour A.Table_validate_colour ["self", "value"]
  d_Disputed_init : Df K "__init__" "Disputed.__init__" s_Disputed_init A.Disputed_init ["self", "triple"]
  d_InvalidNumber_init : Df K "__init__" "InvalidNumber.__init__" s_InvalidNumber_init A.InvalidNumber_init ["self", "value"]
  d_product : Df K "product" "product" s_product A.product ["table", "first", "second"]
  m_product : mg "product" = some (.ref A.product)
  kp_product : PySem.W.keepIn K (.ref A.product) = true
  d__law_check_powers : Df K "_law_check_powers" "_law_check_powers" s__law_check_powers A._law_check_powers ["_law_pool_here", "_law_table", "_law_rows_here", "_law_size"]
  m__law_check_powers : mg "_law_check_powers" = some (.ref A._law_check_powers)
  kp__law_check_powers : PySem.W.keepIn K (.ref A._law_check_powers) = true
  d_powers : Df K "powers" "powers" s_powers A.powers ["table", "colour"]
  m_powers : mg "powers" = some (.ref A.powers)
  kp_powers : PySem.W.keepIn K (.ref A.powers) = true
  d_last_bean : Df K "last_bean" "last_bean" s_last_bean A.last_bean ["table", "jar"]
  m_last_bean : mg "last_bean" = some (.ref A.last_bean)
  kp_last_bean : PySem.W.keepIn K (.ref A.last_bean) = true
  d_validate_beans : Df K "validate_beans" "validate_beans" s_validate_beans A.validate_beans ["table", "jar"]
  m_validate_beans : mg "validate_beans" = some (.ref A.validate_beans)
  kp_validate_beans : PySem.W.keepIn K (.ref A.validate_beans) = true
  d_Jar_validate_size : Df K "validate_size" "Jar.validate_size" s_Jar_validate_size A.Jar_validate_size ["self", "size"]
  d_Jar_size : Df K "size" "Jar.size" s_Jar_size A.Jar_size ["self"]
  d_WrongSize_init : Df K "__init__" "WrongSize.__init__" s_WrongSize_init A.WrongSize_init ["self"]
  d_Jar_bool : Df K "__bool__" "Jar.__bool__" s_Jar_bool A.Jar_bool ["self"]
  d_EmptyJar_init : Df K "__init__" "EmptyJar.__init__" s_EmptyJar_init A.EmptyJar_init ["self"]
  d_Jar_colours : Df K "colours" "Jar.colours" s_Jar_colours A.Jar_colours ["self"]
  d_times : Df K "times" "times" s_times A.times ["table", "colour", "count"]
  m_times : mg "times" = some (.ref A.times)
  kp_times : PySem.W.keepIn K (.ref A.times) = true
  d_Jar_getitem : Df K "__getitem__" "Jar.__getitem__" s_Jar_getitem A.Jar_getitem ["self", "colour"]
  d_Jar_of_beans : Df K "of_beans" "Jar.of_beans" s_Jar_of_beans A.Jar_of_beans ["cls", "size", "beans"]
  d_Jar_init : Df K "__init__" "Jar.__init__" s_Jar_init A.Jar_init ["self", "counts"]
  d_are_counts : Df K "are_counts" "are_counts" s_are_counts A.are_counts ["value"]
  m_are_counts : mg "are_counts" = some (.ref A.are_counts)
  kp_are_counts : PySem.W.keepIn K (.ref A.are_counts) = true
  d_InvalidJar_init : Df K "__init__" "InvalidJar.__init__" s_InvalidJar_init A.InvalidJar_init ["self"]
  d_Jar_mul : Df K "__mul__" "Jar.__mul__" s_Jar_mul A.Jar_mul ["self", "number"]
  d__law_choices : Df K "_law_choices" "_law_choices" s__law_choices A._law_choices ["_law_first", "_law_second"]
  m__law_choices : mg "_law_choices" = some (.ref A._law_choices)
  kp__law_choices : PySem.W.keepIn K (.ref A._law_choices) = true
  m_Table : mg "Table" = some (.ref A.C_Table)
  cl_Table : Cls K A.C_Table
  m_Jar : mg "Jar" = some (.ref A.C_Jar)
  cl_Jar : Cls K A.C_Jar
  na_Table_own_rows : NoAttr K A.C_Table "own_rows"
  na_Jar_own_counts : NoAttr K A.C_Jar "own_counts"
  mt_Table_validate_colour : Meth K A.C_Table "validate_colour" A.Table_validate_colour
  mt_Table_getitem : Meth K A.C_Table "__getitem__" A.Table_getitem
  fi_Table_getitem : PySem.W.fnIn K A.Table_getitem = true
  mt_Jar_validate_size : Meth K A.C_Jar "validate_size" A.Jar_validate_size
  mt_Jar_bool : Meth K A.C_Jar "__bool__" A.Jar_bool
  mt_Jar_colours : Meth K A.C_Jar "colours" A.Jar_colours
  mt_Jar_getitem : Meth K A.C_Jar "__getitem__" A.Jar_getitem
  fi_Jar_getitem : PySem.W.fnIn K A.Jar_getitem = true
  mt_Jar_mul : Meth K A.C_Jar "__mul__" A.Jar_mul
  mk_Table : Mk K A.C_Table A.Table_init
  mk_Jar : Mk K A.C_Jar A.Jar_init
  pr_Table_size : PropOf K A.C_Table "size" A.P_Table_size A.Table_size
  pr_Jar_size : PropOf K A.C_Jar "size" A.P_Jar_size A.Jar_size
  n_len : mg "len" = none
  n_min : mg "min" = none
  n_max : mg "max" = none
  n_range : mg "range" = none
  n_isinstance : mg "isinstance" = none
  n_list : mg "list" = none
  n_tuple : mg "tuple" = none
  n_all : mg "all" = none
  n_ValueError : mg "ValueError" = none
  n_int : mg "int" = none
  n_bool : mg "bool" = none
  n_sum : mg "sum" = none
  n_RuntimeError : mg "RuntimeError" = none
  n_LookupError : mg "LookupError" = none
  n_enumerate : mg "enumerate" = none
  n_SetProducts : mg "SetProducts" = none
  n_Forest : mg "Forest" = none
  n_OpenRules : mg "OpenRules" = none
  n_Game : mg "Game" = none
  n_Session : mg "Session" = none
  n_Console : mg "Console" = none
  c_MAX_COLOURS : ∃ t, mg "MAX_COLOURS" = some (.int 8 t)
  c_MAX_TOTAL : ∃ t, mg "MAX_TOTAL" = some (.int 40 t)
  cs : CS K mg CL
section
variable {P : Program} {w : World} {K : PySem.W.Frag} {mg : Str → Option Value} {base : Heap} {A : Ad}
noncomputable abbrev N__law_pool : List Str := ["_law_script", "_law_k", "_law_cell", "_law_seed"]
theorem sc__law_pool : FnScope N__law_pool ["_law_script", "_law_k"] (defScope s__law_pool) := ⟨rfl, rfl, rfl, by decide +kernel, rfl, by decide +kernel, by decide +kernel⟩
theorem k__law_pool (T : Txt K mg A) : Fk P w K mg base 1 A._law_pool 2 g__law_pool :=
  Fk.df false T.d__law_pool sc__law_pool fun cdv Ar outer s H E hr tk hp =>
  (dss_cons (ds_set 2 sc__law_pool.nd (de_int))
  (dss_cons (ds_if (dt_cmp O2.lt (dv 1) (de_callB C1.len T.n_len bt_len (da_cons (dv 0) da_nil))) (dss_one (ds_set 2 sc__law_pool.nd (de_ix (dv 0) (dv 1)))) dss_nil)
  (dss_cons (ds_set 3 sc__law_pool.nd (de_bin O2.mod (de_bin O2.pow (de_bin (O2.add (own := false)) (de_bin (O2.add (own := false)) (de_bin O2.mod (dv 2) (de_int)) (de_bin (O2.mul (own := false)) (de_bin (O2.mul (own := false)) (de_int) (dv 1)) (dv 1))) (de_int)) (de_int)) (de_int)))
  (dss_cons (ds_if (dt_cmp O2.lt (dv 2) (de_bin O2.pow (de_int) (de_int))) (dss_one (ds_set 2 sc__law_pool.nd (de_int))) dss_nil)
  (dss_one (ds_ret (de_lst (own := true) (da_cons (dv 2) (da_cons (dv 3) da_nil)))))))))
noncomputable abbrev N__law_draw : List Str := ["_law_pool_here", "_law_many", "_law_digit"]
theorem sc__law_draw : FnScope N__law_draw ["_law_pool_here", "_law_many"] (defScope s__law_draw) := ⟨rfl, rfl, rfl, by decide +kernel, rfl, by decide +kernel, by decide +kernel⟩
theorem k__law_draw (T : Txt K mg A) : Fk P w K mg base 1 A._law_draw 2 g__law_draw :=
  Fk.df false T.d__law_draw sc__law_draw fun cdv Ar outer s H E hr tk hp =>
  (dss_cons (ds_if (dt_cmp O2.gt (de_ix (dv 0) (de_int)) (de_int)) (dss_cons (ds_set 2 sc__law_draw.nd (de_bin O2.mod (de_ix (dv 0) (de_int)) (dv 1)))
  (dss_cons (ds_asg (de_bin O2.div (de_ix (dv 0) (de_int)) (dv 1)) (dg_sub (W := W0) (dv 0) (de_int) (ws := [])))
  (dss_one (ds_ret (dv 2))))) dss_nil)
  (dss_cons (ds_asg (de_bin O2.mod (de_bin (O2.add (own := false)) (de_bin (O2.mul (own := false)) (de_ix (dv 0) (de_int)) (de_int)) (de_int)) (de_int)) (dg_sub (W := W0) (dv 0) (de_int) (ws := [])))
  (dss_one (ds_ret (de_bin O2.mod (de_bin O2.div (de_bin O2.mod (de_bin (O2.mul (own := false)) (de_ix (dv 0) (de_int)) (de_ix (dv 0) (de_int))) (de_int)) (de_int)) (dv 1))))))
noncomputable abbrev N__law_rows_k22 : List Str := ["_law_pool_here", "_law_size", "_law_way", "_law_a", "_law_b"]
theorem sc__law_rows_k22 : FnScope N__law_rows_k22 ["_law_pool_here", "_law_size"] (defScope s__law_rows) := ⟨rfl, rfl, rfl, by decide +kernel, rfl, by decide +kernel, by decide +kernel⟩
theorem k__law_rows_k22 (T : Txt K mg A) : Fk P w K mg base 2 A._law_rows 2 g__law_rows_k22 :=
  Fk.df true T.d__law_rows sc__law_rows_k22 fun cdv Ar outer s H E hr tk hp =>
  (dss_cons (ds_set 2 sc__law_rows_k22.nd (de_call (k__law_draw T) T.m__law_draw T.kp__law_draw hr tk (da_cons (dv 0) (da_cons (de_int) da_nil))))
  (dss_cons (ds_if (dt_cmp (O2.eq hr.units) (dv 2) (de_int)) (dss_one (ds_ret (de_lc (own := false) (ov := [("_law_a", 3)]) sc__law_rows_k22.nd (di_range1 T.n_range (da_cons (dv 1) da_nil)) (by show BlkOk N__law_rows_k22 (defScope s__law_rows) _ _; exact blkOk_by (by decide +kernel)) (fun _ _ _ _ _ => (dg_name 3 sc__law_rows_k22.nd (ws := [3]))) (fun _ _ _ _ _ => dts_nil) (fun _ _ _ _ _ => (de_lc (own := false) (ov := [("_law_b", 4)]) sc__law_rows_k22.nd (di_range1 T.n_range (da_cons (dv 1) da_nil)) (by show BlkOk N__law_rows_k22 (relS _ (defScope s__law_rows)) _ _; exact blkOk_by (by decide +kernel)) (fun _ _ _ _ _ => (dg_name 4 sc__law_rows_k22.nd (ws := [4]))) (fun _ _ _ _ _ => dts_nil) (fun _ _ _ _ _ => (de_bin O2.mod (de_bin (O2.add (own := false)) (dv 3) (dv 4)) (dv 1)))))))) dss_nil)
  (dss_cons (ds_if (dt_cmp (O2.eq hr.units) (dv 2) (de_int)) (dss_one (ds_ret (de_lc (own := false) (ov := [("_law_a", 3)]) sc__law_rows_k22.nd (di_range1 T.n_range (da_cons (dv 1) da_nil)) (by show BlkOk N__law_rows_k22 (defScope s__law_rows) _ _; exact blkOk_by (by decide +kernel)) (fun _ _ _ _ _ => (dg_name 3 sc__law_rows_k22.nd (ws := [3]))) (fun _ _ _ _ _ => dts_nil) (fun _ _ _ _ _ => (de_lc (own := false) (ov := [("_law_b", 4)]) sc__law_rows_k22.nd (di_range1 T.n_range (da_cons (dv 1) da_nil)) (by show BlkOk N__law_rows_k22 (relS _ (defScope s__law_rows)) _ _; exact blkOk_by (by decide +kernel)) (fun _ _ _ _ _ => (dg_name 4 sc__law_rows_k22.nd (ws := [4]))) (fun _ _ _ _ _ => dts_nil) (fun _ _ _ _ _ => (de_callB (C1.min2 rfl) T.n_min bt_min (da_cons (dv 3) (da_cons (dv 4) da_nil))))))))) dss_nil)
  (dss_cons (ds_if (dt_cmp (O2.eq hr.units) (dv 2) (de_int)) (dss_one (ds_ret (de_lc (own := false) (ov := [("_law_a", 3)]) sc__law_rows_k22.nd (di_range1 T.n_range (da_cons (dv 1) da_nil)) (by show BlkOk N__law_rows_k22 (defScope s__law_rows) _ _; exact blkOk_by (by decide +kernel)) (fun _ _ _ _ _ => (dg_name 3 sc__law_rows_k22.nd (ws := [3]))) (fun _ _ _ _ _ => dts_nil) (fun _ _ _ _ _ => (de_lc (own := false) (ov := [("_law_b", 4)]) sc__law_rows_k22.nd (di_range1 T.n_range (da_cons (dv 1) da_nil)) (by show BlkOk N__law_rows_k22 (relS _ (defScope s__law_rows)) _ _; exact blkOk_by (by decide +kernel)) (fun _ _ _ _ _ => (dg_name 4 sc__law_rows_k22.nd (ws := [4]))) (fun _ _ _ _ _ => dts_nil) (fun _ _ _ _ _ => (de_callB (C1.min2 rfl) T.n_min bt_min (da_cons (de_bin (O2.add (own := false)) (de_bin (O2.add (own := false)) (dv 3) (dv 4)) (de_int)) (da_cons (de_bin O2.sub (dv 1) (de_int)) da_nil))))))))) dss_nil)
  (dss_cons (ds_if (dt_cmp (O2.eq hr.units) (dv 2) (de_int)) (dss_one (ds_ret (de_lc (own := false) (ov := [("_law_a", 3)]) sc__law_rows_k22.nd (di_range1 T.n_range (da_cons (dv 1) da_nil)) (by show BlkOk N__law_rows_k22 (defScope s__law_rows) _ _; exact blkOk_by (by decide +kernel)) (fun _ _ _ _ _ => (dg_name 3 sc__law_rows_k22.nd (ws := [3]))) (fun _ _ _ _ _ => dts_nil) (fun _ _ _ _ _ => (de_lc (own := false) (ov := [("_law_b", 4)]) sc__law_rows_k22.nd (di_range1 T.n_range (da_cons (dv 1) da_nil)) (by show BlkOk N__law_rows_k22 (relS _ (defScope s__law_rows)) _ _; exact blkOk_by (by decide +kernel)) (fun _ _ _ _ _ => (dg_name 4 sc__law_rows_k22.nd (ws := [4]))) (fun _ _ _ _ _ => dts_nil) (fun _ _ _ _ _ => (de_bin O2.mod (de_bin (O2.mul (own := false)) (dv 3) (dv 4)) (dv 1)))))))) dss_nil)
  (dss_one (ds_ret (de_lc (own := false) (ov := [("_law_a", 3)]) sc__law_rows_k22.nd (di_range1 T.n_range (da_cons (dv 1) da_nil)) (by show BlkOk N__law_rows_k22 (defScope s__law_rows) _ _; exact blkOk_by (by decide +kernel)) (fun _ _ _ _ _ => (dg_name 3 sc__law_rows_k22.nd (ws := [3]))) (fun _ _ _ _ _ => dts_nil) (fun _ _ _ _ _ => (de_lc (own := false) (ov := [("_law_b", 4)]) sc__law_rows_k22.nd (di_range1 T.n_range (da_cons (dv 1) da_nil)) (by show BlkOk N__law_rows_k22 (relS _ (defScope s__law_rows)) _ _; exact blkOk_by (by decide +kernel)) (fun _ _ _ _ _ => (dg_name 4 sc__law_rows_k22.nd (ws := [4]))) (fun _ _ _ _ _ => dts_nil) (fun _ _ _ _ _ => (de_bin O2.mod (de_bin (O2.add (own := false)) (de_bin (O2.add (own := false)) (dv 3) (dv 4)) (de_int)) (dv 1)))))))))))))
noncomputable abbrev N_has_shape : List Str := ["rows", "row"]
theorem sc_has_shape : FnScope N_has_shape ["rows"] (defScope s_has_shape) := ⟨rfl, rfl, rfl, by decide +kernel, rfl, by decide +kernel, by decide +kernel⟩
theorem k_has_shape (T : Txt K mg A) : Fk P w K mg base 1 A.has_shape 1 g_has_shape :=
  Fk.df false T.d_has_shape sc_has_shape fun cdv Ar outer s H E hr tk hp =>
  (dss_cons (ds_if (DW.pt (dw_or (dt_not (dt_tru (de_isi2 T.cs T.n_isinstance (dv 0) (pe_tyN T.n_list bt_list) (pe_tyN T.n_tuple bt_tuple)))) (dw_or1 (dt_not (dt_chain O2.le O2.le (de_int) (de_callB C1.len T.n_len bt_len (da_cons (dv 0) da_nil)) (de_gint T.c_MAX_COLOURS.choose_spec)))))) (dss_one (ds_ret (de_bl))) dss_nil)
  (dss_one (ds_ret (de_callB (C1.all_ rfl) T.n_all bt_all (da_cons (de_lc (own := false) (ov := [("row", 1)]) sc_has_shape.nd (di_seq (dv 0)) (by show BlkOk N_has_shape (defScope s_has_shape) _ _; exact blkOk_by (by decide +kernel)) (fun _ _ _ _ _ => (dg_name 1 sc_has_shape.nd (ws := [1]))) (fun _ _ _ _ _ => dts_nil) (fun _ _ _ _ _ => ((de_and (de_isi2 T.cs T.n_isinstance (dv 1) (pe_tyN T.n_list bt_list) (pe_tyN T.n_tuple bt_tuple)) (de_one (de_cmp (O2.eq hr.units) (de_callB C1.len T.n_len bt_len (da_cons (dv 1) da_nil)) (de_callB C1.len T.n_len bt_len (da_cons (dv 0) da_nil)))))))) da_nil)))))
theorem sc_InvalidTable_init : FnScope ["self", "place"] ["self", "place"] (defScope s_InvalidTable_init) := ⟨rfl, rfl, rfl, by decide +kernel, rfl, by decide +kernel, by decide +kernel⟩
theorem x_InvalidTable (T : Txt K mg A) : Xk P w K mg base 1 A.InvalidTable_init ["self", "place"] (spX1 K "ValueError" "ValueError.__new__" "ValueError.__init__" tlV "place") := xk1 T.d_InvalidTable_init sc_InvalidTable_init fun cdv Ar outer s H E => pss_cons (ps_expr (pe_binit bxV rfl T.n_ValueError (by decide +kernel) T.vi_ValueError (pa_cons (pv 0) (pa_cons pe_str pa_nil)))) (pss_one (ps_os1 bxV (pv 0) (pv 1)))
noncomputable abbrev N_places : List Str := ["size", "a", "b"]
theorem sc_places : FnScope N_places ["size"] (defScope s_places) := ⟨rfl, rfl, rfl, by decide +kernel, rfl, by decide +kernel, by decide +kernel⟩
theorem k_places (T : Txt K mg A) : Fk P w K mg base 1 A.places 1 g_places :=
  Fk.df false T.d_places sc_places fun cdv Ar outer s H E hr tk hp =>
  (dss_one (ds_ret (de_lc2 (own := false) (ov := [("a", 1), ("b", 2)]) (ws1 := [2]) sc_places.nd (di_range1 T.n_range (da_cons (dv 0) da_nil)) (by show BlkOk N_places (defScope s_places) _ _; exact blkOk_by (by decide +kernel)) (by decide) (fun _ _ _ _ _ => (dg_name 1 sc_places.nd (ws := [1, 2]))) (fun _ _ _ _ _ => dts_nil) (fun _ _ _ _ _ => (di_range1 T.n_range (da_cons (dv 0) da_nil))) (fun _ _ _ _ _ => (dg_name 2 sc_places.nd (ws := [2]))) (fun _ _ _ _ _ => dts_nil) (fun _ _ _ _ _ => (de_tup (da_cons (dv 1) (da_cons (dv 2) da_nil)))))))
noncomputable abbrev N_is_integer : List Str := ["value"]
theorem sc_is_integer : FnScope N_is_integer ["value"] (defScope s_is_integer) := ⟨rfl, rfl, rfl, by decide +kernel, rfl, by decide +kernel, by decide +kernel⟩
theorem k_is_integer (T : Txt K mg A) : Fk P w K mg base 1 A.is_integer 1 g_is_integer :=
  Fk.df false T.d_is_integer sc_is_integer fun cdv Ar outer s H E hr tk hp =>
  (dss_one (ds_ret ((de_and (de_isi T.cs T.n_isinstance (dv 0) (pe_tyN T.n_int bt_int)) (de_one (de_not (de_isi T.cs T.n_isinstance (dv 0) (pe_tyN T.n_bool bt_bool))))))))
noncomputable abbrev N_is_colour : List Str := ["size", "value"]
theorem sc_is_colour : FnScope N_is_colour ["size", "value"] (defScope s_is_colour) := ⟨rfl, rfl, rfl, by decide +kernel, rfl, by decide +kernel, by decide +kernel⟩
theorem k_is_colour (T : Txt K mg A) : Fk P w K mg base 2 A.is_colour 2 g_is_colour :=
  Fk.df false T.d_is_colour sc_is_colour fun cdv Ar outer s H E hr tk hp =>
  (dss_one (ds_ret ((de_and (de_call (k_is_integer T) T.m_is_integer T.kp_is_integer hr tk (da_cons (dv 1) da_nil)) (de_one (de_chain O2.le O2.lt (de_int) (dv 1) (dv 0)))))))
noncomputable abbrev N_first_wrong_place : List Str := ["rows", "a", "b"]
theorem sc_first_wrong_place : FnScope N_first_wrong_place ["rows"] (defScope s_first_wrong_place) := ⟨rfl, rfl, rfl, by decide +kernel, rfl, by decide +kernel, by decide +kernel⟩
theorem k_first_wrong_place (T : Txt K mg A) : Fk P w K mg base 3 A.first_wrong_place 1 g_first_wrong_place :=
  Fk.df false T.d_first_wrong_place sc_first_wrong_place fun cdv Ar outer s H E hr tk hp =>
  (dss_cons (ds_for hp (di_seq (de_call (k_places T) T.m_places T.kp_places hr tk (da_cons (de_callB C1.len T.n_len bt_len (da_cons (dv 0) da_nil)) da_nil))) (dg_tup (n := 2) (dgs_cons (dg_name 1 sc_first_wrong_place.nd (ws := [1, 2])) (dgs_cons (dg_name 2 sc_first_wrong_place.nd (ws := [1, 2])) dgs_nil))) (dss_cut [1, 2] (dss_one (ds_if (DW.pt (dw_or (dt_not (dt_tru (de_call (k_is_colour T) T.m_is_colour T.kp_is_colour hr tk (da_cons (de_callB C1.len T.n_len bt_len (da_cons (dv 0) da_nil)) (da_cons (de_ix (de_ix (dv 0) (dv 1)) (dv 2)) da_nil))))) (dw_or1 (DW.pt (dw_and (dt_cmp O2.lt (dv 2) (dv 1)) (dw_and1 (dt_cmp (O2.ne hr.units) (de_ix (de_ix (dv 0) (dv 2)) (dv 1)) (de_ix (de_ix (dv 0) (dv 1)) (dv 2))))))))) (dss_one (ds_ret (de_tup (da_cons (dv 1) (da_cons (dv 2) da_nil))))) dss_nil))))
  (dss_one (ds_ret (de_non))))
noncomputable abbrev N_Table_init : List Str := ["self", "rows", "place", "row"]
theorem sc_Table_init : FnScope N_Table_init ["self", "rows"] (defScope s_Table_init) := ⟨rfl, rfl, rfl, by decide +kernel, rfl, by decide +kernel, by decide +kernel⟩
theorem k_Table_init (T : Txt K mg A) : Fk P w K mg base 4 A.Table_init 2 g_Table_init :=
  Fk.df false T.d_Table_init sc_Table_init fun cdv Ar outer s H E hr tk hp =>
  (dss_cons (ds_if (dt_not (dt_tru (de_call (k_has_shape T) T.m_has_shape T.kp_has_shape hr tk (da_cons (dv 1) da_nil)))) (dss_one (ds_raise1 T.xc_InvalidTable (x_InvalidTable T) T.xn_InvalidTable hr tk (da_cons (de_non) da_nil))) dss_nil)
  (dss_cons (ds_set 2 sc_Table_init.nd (de_call (k_first_wrong_place T) T.m_first_wrong_place T.kp_first_wrong_place hr tk (da_cons (dv 1) da_nil)))
  (dss_cons (ds_if (dt_cmp O2.isnt (dv 2) (de_non)) (dss_one (ds_raise1 T.xc_InvalidTable (x_InvalidTable T) T.xn_InvalidTable hr tk (da_cons (dv 2) da_nil))) dss_nil)
  (dss_one (ds_fld T.m_Table T.cl_Table T.na_Table_own_rows (dv 0) (de_lc (own := false) (ov := [("row", 3)]) sc_Table_init.nd (di_seq (dv 1)) (by show BlkOk N_Table_init (defScope s_Table_init) _ _; exact blkOk_by (by decide +kernel)) (fun _ _ _ _ _ => (dg_name 3 sc_Table_init.nd (ws := [3]))) (fun _ _ _ _ _ => dts_nil) (fun _ _ _ _ _ => (de_callTy (C1.list_ (own := false)) T.n_list bt_list (da_cons (dv 3) da_nil)))))))))
noncomputable abbrev N__law_jars : List Str := ["_law_size", "_law_total", "_law_found", "_law_colour", "_law_longer", "_law_counts", "_law_number"]
theorem sc__law_jars : FnScope N__law_jars ["_law_size", "_law_total"] (defScope s__law_jars) := ⟨rfl, rfl, rfl, by decide +kernel, rfl, by decide +kernel, by decide +kernel⟩
theorem k__law_jars (T : Txt K mg A) : Fk P w K mg base 1 A._law_jars 2 g__law_jars :=
  Fk.df false T.d__law_jars sc__law_jars fun cdv Ar outer s H E hr tk hp =>
  (dss_cons (ds_set 2 sc__law_jars.nd (de_lst (own := false) (da_cons (de_lst (own := false) da_nil) da_nil)))
  (dss_cons (ds_for hp (di_range1 T.n_range (da_cons (dv 0) da_nil)) (dg_name 3 sc__law_jars.nd (ws := [3])) (dss_cut [3, 4, 5] (dss_cons (ds_set 4 sc__law_jars.nd (de_lst (own := false) da_nil))
  (dss_cons (ds_for hp (di_seq (dv 2)) (dg_name 5 sc__law_jars.nd (ws := [5])) (dss_cut [5] (dss_one (ds_set 4 sc__law_jars.nd (de_bin (O2.add (own := false)) (dv 4) (de_lc (own := false) (ov := [("_law_number", 6)]) sc__law_jars.nd (di_range1 T.n_range (da_cons (de_bin (O2.add (own := false)) (de_bin O2.sub (dv 1) (de_callB (C1.sum_ rfl) T.n_sum bt_sum (da_cons (dv 5) da_nil))) (de_int)) da_nil)) (by show BlkOk N__law_jars (defScope s__law_jars) _ _; exact blkOk_by (by decide +kernel)) (fun _ _ _ _ _ => (dg_name 6 sc__law_jars.nd (ws := [6]))) (fun _ _ _ _ _ => dts_nil) (fun _ _ _ _ _ => (de_bin (O2.add (own := false)) (dv 5) (de_lst (own := false) (da_cons (dv 6) da_nil))))))))))
  (dss_one (ds_set 2 sc__law_jars.nd (dv 4)))))))
  (dss_one (ds_ret (de_lc (own := false) (ov := [("_law_counts", 5)]) sc__law_jars.nd (di_seq (dv 2)) (by show BlkOk N__law_jars (defScope s__law_jars) _ _; exact blkOk_by (by decide +kernel)) (fun _ _ _ _ _ => (dg_name 5 sc__law_jars.nd (ws := [5]))) (fun _ _ _ _ _ => (dts_one (dt_cmp (O2.eq hr.units) (de_callB (C1.sum_ rfl) T.n_sum bt_sum (da_cons (dv 5) da_nil)) (dv 1)))) (fun _ _ _ _ _ => (dv 5)))))))
noncomputable abbrev N__law_last_k22 : List Str := ["_law_rows_here", "_law_counts", "_law_beans", "_law_colour", "_law_found", "_law_bean"]
theorem sc__law_last_k22 : FnScope N__law_last_k22 ["_law_rows_here", "_law_counts"] (defScope s__law_last) := ⟨rfl, rfl, rfl, by decide +kernel, rfl, by decide +kernel, by decide +kernel⟩
theorem k__law_last_k22 (T : Txt K mg A) : Fk P w K mg base 1 A._law_last 2 g__law_last_k22 :=
  Fk.df false T.d__law_last sc__law_last_k22 fun cdv Ar outer s H E hr tk hp =>
  (dss_cons (ds_set 2 sc__law_last_k22.nd (de_lst (own := false) da_nil))
  (dss_cons (ds_for hp (di_range1 T.n_range (da_cons (de_callB C1.len T.n_len bt_len (da_cons (dv 0) da_nil)) da_nil)) (dg_name 3 sc__law_last_k22.nd (ws := [3])) (dss_cut [3] (dss_one (ds_set 2 sc__law_last_k22.nd (de_bin (O2.add (own := false)) (dv 2) (de_bin (O2.mul (own := false)) (de_lst (own := false) (da_cons (dv 3) da_nil)) (de_ix (dv 1) (dv 3))))))))
  (dss_cons (ds_set 4 sc__law_last_k22.nd (de_ix (dv 2) (de_int)))
  (dss_cons (ds_for hp (di_seq (de_slice (own := false) (dv 2) (do_some (de_int)) do_none)) (dg_name 5 sc__law_last_k22.nd (ws := [5])) (dss_cut [5] (dss_one (ds_set 4 sc__law_last_k22.nd (de_ix (de_ix (dv 0) (dv 4)) (dv 5))))))
  (dss_one (ds_ret (dv 4)))))))
noncomputable abbrev N_Table_size : List Str := ["self"]
theorem sc_Table_size : FnScope N_Table_size ["self"] (defScope s_Table_size) := ⟨rfl, rfl, rfl, by decide +kernel, rfl, by decide +kernel, by decide +kernel⟩
theorem k_Table_size (T : Txt K mg A) : Fk P w K mg base 1 A.Table_size 1 g_Table_size :=
  Fk.df false T.d_Table_size sc_Table_size fun cdv Ar outer s H E hr tk hp =>
  (dss_one (ds_ret (de_callB C1.len T.n_len bt_len (da_cons (de_fld T.m_Table T.cl_Table T.na_Table_own_rows (dv 0)) da_nil))))
theorem sc_InvalidColour_init : FnScope ["self", "value"] ["self", "value"] (defScope s_InvalidColour_init) := ⟨rfl, rfl, rfl, by decide +kernel, rfl, by decide +kernel, by decide +kernel⟩
theorem x_InvalidColour (T : Txt K mg A) : Xk P w K mg base 1 A.InvalidColour_init ["self", "value"] (spX1 K "ValueError" "ValueError.__new__" "ValueError.__init__" tlV "value") := xk1 T.d_InvalidColour_init sc_InvalidColour_init fun cdv Ar outer s H E => pss_cons (ps_expr (pe_binit bxV rfl T.n_ValueError (by decide +kernel) T.vi_ValueError (pa_cons (pv 0) (pa_cons pe_str pa_nil)))) (pss_one (ps_os1 bxV (pv 0) (pv 1)))
noncomputable abbrev N_Table_validate_colour : List Str := ["self", "value"]
theorem sc_Table_validate_colour : FnScope N_Table_validate_colour ["self", "value"] (defScope s_Table_validate_colour) := ⟨rfl, rfl, rfl, by decide +kernel, rfl, by decide +kernel, by decide +kernel⟩
theorem k_Table_validate_colour (T : Txt K mg A) : Fk P w K mg base 3 A.Table_validate_colour 2 g_Table_validate_colour :=
  Fk.df false T.d_Table_validate_colour sc_Table_validate_colour fun cdv Ar outer s H E hr tk hp =>
  (dss_one (ds_if (dt_not (dt_tru (de_call (k_is_colour T) T.m_is_colour T.kp_is_colour hr tk (da_cons (de_prop (k_Table_size T) T.m_Table T.cl_Table T.pr_Table_size hr (dv 0)) (da_cons (dv 1) da_nil))))) (dss_one (ds_raise1 T.xc_InvalidColour (x_InvalidColour T) T.xn_InvalidColour hr tk (da_cons (dv 1) da_nil))) dss_nil))
noncomputable abbrev N_Table_getitem : List Str := ["self", "pair", "value"]
theorem sc_Table_getitem : FnScope N_Table_getitem ["self", "pair"] (defScope s_Table_getitem) := ⟨rfl, rfl, rfl, by decide +kernel, rfl, by decide +kernel, by decide +kernel⟩
theorem k_Table_getitem (T : Txt K mg A) : Fk P w K mg base 4 A.Table_getitem 2 g_Table_getitem :=
  Fk.df false T.d_Table_getitem sc_Table_getitem fun cdv Ar outer s H E hr tk hp =>
  (dss_cons (ds_if (DW.pt (dw_or (dt_not (dt_tru (de_isi T.cs T.n_isinstance (dv 1) (pe_tyN T.n_tuple bt_tuple)))) (dw_or1 (dt_cmp (O2.ne hr.units) (de_callB C1.len T.n_len bt_len (da_cons (dv 1) da_nil)) (de_int))))) (dss_one (ds_raise1 T.xc_InvalidColour (x_InvalidColour T) T.xn_InvalidColour hr tk (da_cons (dv 1) da_nil))) dss_nil)
  (dss_cons (ds_for hp (di_seq (dv 1)) (dg_name 2 sc_Table_getitem.nd (ws := [2])) (dss_cut [2] (dss_one (ds_expr (de_meth (k_Table_validate_colour T) T.m_Table T.cl_Table T.mt_Table_validate_colour hr tk (dv 0) (da_cons (dv 2) da_nil))))))
  (dss_one (ds_ret (de_ix (de_ix (de_fld T.m_Table T.cl_Table T.na_Table_own_rows (dv 0)) (de_ix (dv 1) (de_int))) (de_ix (dv 1) (de_int)))))))
noncomputable abbrev N_is_disputed : List Str := ["table", "a", "b", "c"]
theorem sc_is_disputed : FnScope N_is_disputed ["table", "a", "b", "c"] (defScope s_is_disputed) := ⟨rfl, rfl, rfl, by decide +kernel, rfl, by decide +kernel, by decide +kernel⟩
theorem k_is_disputed (T : Txt K mg A) : Fk P w K mg base 6 A.is_disputed 4 g_is_disputed :=
  Fk.df false T.d_is_disputed sc_is_disputed fun cdv Ar outer s H E hr tk hp =>
  (dss_one (ds_ret (de_cmp (O2.ne hr.units) (de_ixOwn (k_Table_getitem T) T.m_Table T.mt_Table_getitem.at_ T.fi_Table_getitem T.mt_Table_getitem.fn hr tk (dv 0) (de_tup (da_cons (de_ixOwn (k_Table_getitem T) T.m_Table T.mt_Table_getitem.at_ T.fi_Table_getitem T.mt_Table_getitem.fn hr tk (dv 0) (de_tup (da_cons (dv 1) (da_cons (dv 2) da_nil)))) (da_cons (dv 3) da_nil)))) (de_ixOwn (k_Table_getitem T) T.m_Table T.mt_Table_getitem.at_ T.fi_Table_getitem T.mt_Table_getitem.fn hr tk (dv 0) (de_tup (da_cons (dv 1) (da_cons (de_ixOwn (k_Table_getitem T) T.m_Table T.mt_Table_getitem.at_ T.fi_Table_getitem T.mt_Table_getitem.fn hr tk (dv 0) (de_tup (da_cons (dv 2) (da_cons (dv 3) da_nil)))) da_nil)))))))
noncomputable abbrev N_first_dispute : List Str := ["table", "colours", "found", "a", "b", "c"]
theorem sc_first_dispute : FnScope N_first_dispute ["table"] (defScope s_first_dispute) := ⟨rfl, rfl, rfl, by decide +kernel, rfl, by decide +kernel, by decide +kernel⟩
theorem k_first_dispute (T : Txt K mg A) : Fk P w K mg base 7 A.first_dispute 1 g_first_dispute :=
  Fk.df false T.d_first_dispute sc_first_dispute fun cdv Ar outer s H E hr tk hp =>
  (dss_cons (ds_set 1 sc_first_dispute.nd (de_listRg1 false T.n_list T.n_range (de_prop (k_Table_size T) T.m_Table T.cl_Table T.pr_Table_size hr (dv 0))))
  (dss_cons (ds_setLc3 2 (own := false) (ov := [("a", 3), ("b", 4), ("c", 5)]) (ws1 := [4, 5]) (ws2 := [5]) sc_first_dispute.nd (sw_true rfl rfl rfl (by decide +kernel)) (di_seq (dv 1)) (by show BlkOk N_first_dispute (defScope s_first_dispute) _ _; exact blkOk_by (by decide +kernel)) (fun _ _ _ _ _ => (dg_name 3 sc_first_dispute.nd (ws := [3, 4, 5]))) (fun _ _ _ _ _ => dts_nil) (fun _ _ _ _ _ => (di_seq (dv 1))) (fun _ _ _ _ _ => (dg_name 4 sc_first_dispute.nd (ws := [4, 5]))) (fun _ _ _ _ _ => dts_nil) (fun _ _ _ _ _ => (di_seq (dv 1))) (fun _ _ _ _ _ => (dg_name 5 sc_first_dispute.nd (ws := [5]))) (fun _ _ _ _ _ => (dts_one (dt_tru (de_call (k_is_disputed T) T.m_is_disputed T.kp_is_disputed hr takes0 (da_cons (dv 0) (da_cons (dv 3) (da_cons (dv 4) (da_cons (dv 5) da_nil)))))))) (fun _ _ _ _ _ => (de_tup (da_cons (dv 3) (da_cons (dv 4) (da_cons (dv 5) da_nil))))))
  (dss_one (ds_ret (de_if (dt_tru (dv 2)) (de_ix (dv 2) (de_int)) (de_non))))))
theorem sc_Disputed_init : FnScope ["self", "triple"] ["self", "triple"] (defScope s_Disputed_init) := ⟨rfl, rfl, rfl, by decide +kernel, rfl, by decide +kernel, by decide +kernel⟩
theorem x_Disputed (T : Txt K mg A) : Xk P w K mg base 1 A.Disputed_init ["self", "triple"] (spX1 K "RuntimeError" "RuntimeError.__new__" "RuntimeError.__init__" tlR "triple") := xk1 T.d_Disputed_init sc_Disputed_init fun cdv Ar outer s H E => pss_cons (ps_expr (pe_binit bxR rfl T.n_RuntimeError (by decide +kernel) T.vi_RuntimeError (pa_cons (pv 0) (pa_cons pe_str pa_nil)))) (pss_one (ps_os1 bxR (pv 0) (pv 1)))
noncomputable abbrev N_validate_passes : List Str := ["table", "triple"]
theorem sc_validate_passes : FnScope N_validate_passes ["table"] (defScope s_validate_passes) := ⟨rfl, rfl, rfl, by decide +kernel, rfl, by decide +kernel, by decide +kernel⟩
theorem k_validate_passes (T : Txt K mg A) : Fk P w K mg base 8 A.validate_passes 1 g_validate_passes :=
  Fk.df false T.d_validate_passes sc_validate_passes fun cdv Ar outer s H E hr tk hp =>
  (dss_cons (ds_set 1 sc_validate_passes.nd (de_call (k_first_dispute T) T.m_first_dispute T.kp_first_dispute hr tk (da_cons (dv 0) da_nil)))
  (dss_one (ds_if (dt_cmp O2.isnt (dv 1) (de_non)) (dss_one (ds_raise1 T.xc_Disputed (x_Disputed T) T.xn_Disputed hr tk (da_cons (dv 1) da_nil))) dss_nil)))
theorem sc_InvalidNumber_init : FnScope ["self", "value"] ["self", "value"] (defScope s_InvalidNumber_init) := ⟨rfl, rfl, rfl, by decide +kernel, rfl, by decide +kernel, by decide +kernel⟩
theorem x_InvalidNumber (T : Txt K mg A) : Xk P w K mg base 1 A.InvalidNumber_init ["self", "value"] (spX1 K "ValueError" "ValueError.__new__" "ValueError.__init__" tlV "value") := xk1 T.d_InvalidNumber_init sc_InvalidNumber_init fun cdv Ar outer s H E => pss_cons (ps_expr (pe_binit bxV rfl T.n_ValueError (by decide +kernel) T.vi_ValueError (pa_cons (pv 0) (pa_cons pe_str pa_nil)))) (pss_one (ps_os1 bxV (pv 0) (pv 1)))
noncomputable abbrev N_product : List Str := ["table", "first", "second"]
theorem sc_product : FnScope N_product ["table", "first", "second"] (defScope s_product) := ⟨rfl, rfl, rfl, by decide +kernel, rfl, by decide +kernel, by decide +kernel⟩
theorem k_product (T : Txt K mg A) : Fk P w K mg base 6 A.product 3 g_product :=
  Fk.df false T.d_product sc_product fun cdv Ar outer s H E hr tk hp =>
  (dss_cons (ds_if (DW.pt (dw_or (dt_cmp O2.is_ (dv 1) (de_non)) (dw_or1 (dt_cmp O2.is_ (dv 2) (de_non))))) (dss_one (ds_ret (de_if (dt_cmp O2.is_ (dv 1) (de_non)) (dv 2) (dv 1)))) dss_nil)
  (dss_one (ds_ret (de_ixOwn (k_Table_getitem T) T.m_Table T.mt_Table_getitem.at_ T.fi_Table_getitem T.mt_Table_getitem.fn hr tk (dv 0) (de_tup (da_cons (dv 1) (da_cons (dv 2) da_nil)))))))
noncomputable abbrev N_count_jars_k22 : List Str := ["table", "total", "numbers", "colour", "following", "values", "count", "beans", "last", "number", "key"]
theorem sc_count_jars_k22 : FnScope N_count_jars_k22 ["table", "total"] (defScope s_count_jars) := ⟨rfl, rfl, rfl, by decide +kernel, rfl, by decide +kernel, by decide +kernel⟩
theorem k_count_jars_k22 (T : Txt K mg A) : Fk P w K mg base 9 A.count_jars 2 g_count_jars_k22 :=
  Fk.df false T.d_count_jars sc_count_jars_k22 fun cdv Ar outer s H E hr tk hp =>
  (dss_cons (ds_expr (de_call (k_validate_passes T) T.m_validate_passes T.kp_validate_passes hr tk (da_cons (dv 0) da_nil)))
  (dss_cons (ds_if (DW.pt (dw_or (dt_not (dt_tru (de_call (k_is_integer T) T.m_is_integer T.kp_is_integer hr tk (da_cons (dv 1) da_nil)))) (dw_or1 (dt_not (dt_chain O2.le O2.le (de_int) (dv 1) (de_gint T.c_MAX_TOTAL.choose_spec)))))) (dss_one (ds_raise1 T.xc_InvalidNumber (x_InvalidNumber T) T.xn_InvalidNumber hr tk (da_cons (dv 1) da_nil))) dss_nil)
  (dss_cons (ds_set 2 sc_count_jars_k22.nd (de_dict1 (own := false) (un65 hr) (de_tup (da_cons (de_int) (da_cons (de_non) da_nil))) (de_int)))
  (dss_cons (ds_for hp (di_range1 T.n_range (da_cons (de_prop (k_Table_size T) T.m_Table T.cl_Table T.pr_Table_size hr (dv 0)) da_nil)) (dg_name 3 sc_count_jars_k22.nd (ws := [3])) (dss_cutZ 2 [3, 4, 5, 7, 8, 9, 10] (dss_cons (ds_par 4 5 sc_count_jars_k22.nd (da_cons (de_dictN true) (da_cons (de_lst (own := true) (da_cons (de_non) da_nil)) da_nil)))
  (dss_cons (ds_for hp (di_range1 T.n_range (da_cons (dv 1) da_nil)) (dg_name 6 sc_count_jars_k22.nd (ws := [6])) (dss_cut [6] (dss_one (ds_expr (de_append (dv 5) (da_cons (de_call (k_product T) T.m_product T.kp_product hr tk (da_cons (dv 0) (da_cons (de_ix (dv 5) (de_neg (de_int))) (da_cons (dv 3) da_nil)))) da_nil))))))
  (dss_cons (ds_for hp (di_ni (dv 2)) (dg_tup (n := 2) (dgs_cons (dg_tup (n := 2) (dgs_cons (dg_name 7 sc_count_jars_k22.nd (ws := [7, 8, 9])) (dgs_cons (dg_name 8 sc_count_jars_k22.nd (ws := [7, 8, 9])) dgs_nil))) (dgs_cons (dg_name 9 sc_count_jars_k22.nd (ws := [7, 8, 9])) dgs_nil))) (dss_cut [6, 7, 8, 9, 10] (dss_one (ds_for hp (di_range1 T.n_range (da_cons (de_bin (O2.add (own := false)) (de_bin O2.sub (dv 1) (dv 7)) (de_int)) da_nil)) (dg_name 6 sc_count_jars_k22.nd (ws := [6])) (dss_cut [6, 10] (dss_cons (ds_set 10 sc_count_jars_k22.nd (de_tup (da_cons (de_bin (O2.add (own := false)) (dv 7) (dv 6)) (da_cons (de_call (k_product T) T.m_product T.kp_product hr tk (da_cons (dv 0) (da_cons (dv 8) (da_cons (de_ix (dv 5) (dv 6)) da_nil)))) da_nil))))
  (dss_one (ds_asg (de_bin (O2.add (own := false)) (de_getN2 (un65 hr) (dv 4) (dv 10) (de_int)) (dv 9)) (dg_subN (W := W0) (un65 hr) (dv 4) (dv 10) (ws := []))))))))))
  (dss_one (ds_set 2 sc_count_jars_k22.nd (dv 4))))))))
  (dss_one (ds_ret (de_lc (own := false) (ov := [("colour", 3)]) sc_count_jars_k22.nd (di_range1 T.n_range (da_cons (de_prop (k_Table_size T) T.m_Table T.cl_Table T.pr_Table_size hr (dv 0)) da_nil)) (by show BlkOk N_count_jars_k22 (defScope s_count_jars) _ _; exact blkOk_by (by decide +kernel)) (fun _ _ _ _ _ => (dg_name 3 sc_count_jars_k22.nd (ws := [3]))) (fun _ _ _ _ _ => dts_nil) (fun _ _ _ _ _ => (de_getN2 (un65 hr) (dv 2) (de_tup (da_cons (dv 1) (da_cons (dv 3) da_nil))) (de_int))))))))))
noncomputable abbrev N_powers_k22 : List Str := ["table", "colour", "found", "following"]
theorem sc_powers_k22 : FnScope N_powers_k22 ["table", "colour"] (defScope s_powers) := ⟨rfl, rfl, rfl, by decide +kernel, rfl, by decide +kernel, by decide +kernel⟩
theorem k_powers_k22 (T : Txt K mg A) : Fk P w K mg base 9 A.powers 2 g_powers_k22 :=
  Fk.df true T.d_powers sc_powers_k22 fun cdv Ar outer s H E hr tk hp =>
  (dss_cons (ds_expr (de_call (k_validate_passes T) T.m_validate_passes T.kp_validate_passes hr tk (da_cons (dv 0) da_nil)))
  (dss_cons (ds_expr (de_meth (k_Table_validate_colour T) T.m_Table T.cl_Table T.mt_Table_validate_colour hr tk (dv 0) (da_cons (dv 1) da_nil)))
  (dss_cons (ds_set 2 sc_powers_k22.nd (de_lst (own := true) (da_cons (dv 1) da_nil)))
  (dss_cons (ds_whileWr hp 3 sc_powers_k22.nd (de_ixOwn (k_Table_getitem T) T.m_Table T.mt_Table_getitem.at_ T.fi_Table_getitem T.mt_Table_getitem.fn hr tk (dv 0) (de_tup (da_cons (de_ix (dv 2) (de_neg (de_int))) (da_cons (dv 1) da_nil)))) (dv 2) (O2.notIn (un65 hr)) (dss_cut [] (dss_one (ds_expr (de_append (dv 2) (da_cons (dv 3) da_nil))))))
  (dss_one (ds_ret (de_tup (da_cons (dv 2) (da_cons (de_bin (O2.add (own := false)) (de_index (dv 2) (da_cons (dv 3) da_nil)) (de_int)) da_nil)))))))))
noncomputable abbrev N_Jar_size : List Str := ["self"]
theorem sc_Jar_size : FnScope N_Jar_size ["self"] (defScope s_Jar_size) := ⟨rfl, rfl, rfl, by decide +kernel, rfl, by decide +kernel, by decide +kernel⟩
theorem k_Jar_size (T : Txt K mg A) : Fk P w K mg base 1 A.Jar_size 1 g_Jar_size :=
  Fk.df false T.d_Jar_size sc_Jar_size fun cdv Ar outer s H E hr tk hp =>
  (dss_one (ds_ret (de_callB C1.len T.n_len bt_len (da_cons (de_fld T.m_Jar T.cl_Jar T.na_Jar_own_counts (dv 0)) da_nil))))
theorem sc_WrongSize_init : FnScope ["self"] ["self"] (defScope s_WrongSize_init) := ⟨rfl, rfl, rfl, by decide +kernel, rfl, by decide +kernel, by decide +kernel⟩
theorem x_WrongSize (T : Txt K mg A) : Xk P w K mg base 1 A.WrongSize_init ["self"] (spX0 K "ValueError" "ValueError.__new__" "ValueError.__init__" tlV) := xk0 T.d_WrongSize_init sc_WrongSize_init fun cdv Ar outer s H E => pss_one (ps_expr (pe_binit bxV rfl T.n_ValueError (by decide +kernel) T.vi_ValueError (pa_cons (pv 0) (pa_cons pe_str pa_nil))))
noncomputable abbrev N_Jar_validate_size : List Str := ["self", "size"]
theorem sc_Jar_validate_size : FnScope N_Jar_validate_size ["self", "size"] (defScope s_Jar_validate_size) := ⟨rfl, rfl, rfl, by decide +kernel, rfl, by decide +kernel, by decide +kernel⟩
theorem k_Jar_validate_size (T : Txt K mg A) : Fk P w K mg base 3 A.Jar_validate_size 2 g_Jar_validate_size :=
  Fk.df false T.d_Jar_validate_size sc_Jar_validate_size fun cdv Ar outer s H E hr tk hp =>
  (dss_one (ds_if (dt_cmp (O2.ne hr.units) (de_prop (k_Jar_size T) T.m_Jar T.cl_Jar T.pr_Jar_size hr (dv 0)) (dv 1)) (dss_one (ds_raise0 T.xc_WrongSize (x_WrongSize T) hr tk)) dss_nil))
noncomputable abbrev N_Jar_bool : List Str := ["self"]
theorem sc_Jar_bool : FnScope N_Jar_bool ["self"] (defScope s_Jar_bool) := ⟨rfl, rfl, rfl, by decide +kernel, rfl, by decide +kernel, by decide +kernel⟩
theorem k_Jar_bool (T : Txt K mg A) : Fk P w K mg base 1 A.Jar_bool 1 g_Jar_bool :=
  Fk.df false T.d_Jar_bool sc_Jar_bool fun cdv Ar outer s H E hr tk hp =>
  (dss_one (ds_ret (de_cmp O2.gt (de_callB (C1.sum_ rfl) T.n_sum bt_sum (da_cons (de_fld T.m_Jar T.cl_Jar T.na_Jar_own_counts (dv 0)) da_nil)) (de_int))))
theorem sc_EmptyJar_init : FnScope ["self"] ["self"] (defScope s_EmptyJar_init) := ⟨rfl, rfl, rfl, by decide +kernel, rfl, by decide +kernel, by decide +kernel⟩
theorem x_EmptyJar (T : Txt K mg A) : Xk P w K mg base 1 A.EmptyJar_init ["self"] (spX0 K "LookupError" "LookupError.__new__" "LookupError.__init__" tlL) := xk0 T.d_EmptyJar_init sc_EmptyJar_init fun cdv Ar outer s H E => pss_one (ps_expr (pe_binit bxL rfl T.n_LookupError (by decide +kernel) T.vi_LookupError (pa_cons (pv 0) (pa_cons pe_str pa_nil))))
noncomputable abbrev N_validate_beans : List Str := ["table", "jar"]
theorem sc_validate_beans : FnScope N_validate_beans ["table", "jar"] (defScope s_validate_beans) := ⟨rfl, rfl, rfl, by decide +kernel, rfl, by decide +kernel, by decide +kernel⟩
theorem k_validate_beans (T : Txt K mg A) : Fk P w K mg base 4 A.validate_beans 2 g_validate_beans :=
  Fk.df false T.d_validate_beans sc_validate_beans fun cdv Ar outer s H E hr tk hp =>
  (dss_cons (ds_expr (de_meth (k_Jar_validate_size T) T.m_Jar T.cl_Jar T.mt_Jar_validate_size hr tk (dv 1) (da_cons (de_prop (k_Table_size T) T.m_Table T.cl_Table T.pr_Table_size hr (dv 0)) da_nil)))
  (dss_one (ds_if (dt_not (dt_truOwn (k_Jar_bool T) T.m_Jar T.mt_Jar_bool.at_ T.mt_Jar_bool.fn hr tk (dv 1))) (dss_one (ds_raise0 T.xc_EmptyJar (x_EmptyJar T) hr tk)) dss_nil)))
noncomputable abbrev N_Jar_colours : List Str := ["self", "colour", "count"]
theorem sc_Jar_colours : FnScope N_Jar_colours ["self"] (defScope s_Jar_colours) := ⟨rfl, rfl, rfl, by decide +kernel, rfl, by decide +kernel, by decide +kernel⟩
theorem k_Jar_colours (T : Txt K mg A) : Fk P w K mg base 1 A.Jar_colours 1 g_Jar_colours :=
  Fk.df false T.d_Jar_colours sc_Jar_colours fun cdv Ar outer s H E hr tk hp =>
  (dss_one (ds_ret (de_lc (own := false) (ov := [("colour", 1), ("count", 2)]) sc_Jar_colours.nd (di_enum T.n_enumerate (da_cons (de_fld T.m_Jar T.cl_Jar T.na_Jar_own_counts (dv 0)) da_nil)) (by show BlkOk N_Jar_colours (defScope s_Jar_colours) _ _; exact blkOk_by (by decide +kernel)) (fun _ _ _ _ _ => (dg_tup (n := 2) (dgs_cons (dg_name 1 sc_Jar_colours.nd (ws := [1, 2])) (dgs_cons (dg_name 2 sc_Jar_colours.nd (ws := [1, 2])) dgs_nil)))) (fun _ _ _ _ _ => (dts_one (dt_cmp O2.gt (dv 2) (de_int)))) (fun _ _ _ _ _ => (dv 1)))))
noncomputable abbrev N_times : List Str := ["table", "colour", "count", "found", "power"]
theorem sc_times : FnScope N_times ["table", "colour", "count"] (defScope s_times) := ⟨rfl, rfl, rfl, by decide +kernel, rfl, by decide +kernel, by decide +kernel⟩
theorem k_times (T : Txt K mg A) : Fk P w K mg base 7 A.times 3 g_times :=
  Fk.df false T.d_times sc_times fun cdv Ar outer s H E hr tk hp =>
  (dss_cons (ds_par 3 4 sc_times.nd (da_cons (de_non) (da_cons (dv 1) da_nil)))
  (dss_cons (ds_while hp (dt_cmp O2.gt (dv 2) (de_int)) (dss_cut [] (dss_cons (ds_if (dt_cmp (O2.eq hr.units) (de_bin O2.mod (dv 2) (de_int)) (de_int)) (dss_one (ds_set 3 sc_times.nd (de_call (k_product T) T.m_product T.kp_product hr tk (da_cons (dv 0) (da_cons (dv 3) (da_cons (dv 4) da_nil)))))) dss_nil)
  (dss_cons (ds_set 4 sc_times.nd (de_ixOwn (k_Table_getitem T) T.m_Table T.mt_Table_getitem.at_ T.fi_Table_getitem T.mt_Table_getitem.fn hr tk (dv 0) (de_tup (da_cons (dv 4) (da_cons (dv 4) da_nil)))))
  (dss_one (ds_set 2 sc_times.nd (de_bin O2.div (dv 2) (de_int))))))))
  (dss_one (ds_ret (dv 3)))))
noncomputable abbrev N_Jar_getitem : List Str := ["self", "colour"]
theorem sc_Jar_getitem : FnScope N_Jar_getitem ["self", "colour"] (defScope s_Jar_getitem) := ⟨rfl, rfl, rfl, by decide +kernel, rfl, by decide +kernel, by decide +kernel⟩
theorem k_Jar_getitem (T : Txt K mg A) : Fk P w K mg base 3 A.Jar_getitem 2 g_Jar_getitem :=
  Fk.df false T.d_Jar_getitem sc_Jar_getitem fun cdv Ar outer s H E hr tk hp =>
  (dss_cons (ds_if (dt_not (dt_tru (de_call (k_is_colour T) T.m_is_colour T.kp_is_colour hr tk (da_cons (de_prop (k_Jar_size T) T.m_Jar T.cl_Jar T.pr_Jar_size hr (dv 0)) (da_cons (dv 1) da_nil))))) (dss_one (ds_raise1 T.xc_InvalidColour (x_InvalidColour T) T.xn_InvalidColour hr tk (da_cons (dv 1) da_nil))) dss_nil)
  (dss_one (ds_ret (de_ix (de_fld T.m_Jar T.cl_Jar T.na_Jar_own_counts (dv 0)) (dv 1)))))
noncomputable abbrev N_last_bean : List Str := ["table", "jar", "found", "colour"]
theorem sc_last_bean : FnScope N_last_bean ["table", "jar"] (defScope s_last_bean) := ⟨rfl, rfl, rfl, by decide +kernel, rfl, by decide +kernel, by decide +kernel⟩
theorem k_last_bean (T : Txt K mg A) : Fk P w K mg base 9 A.last_bean 2 g_last_bean :=
  Fk.df false T.d_last_bean sc_last_bean fun cdv Ar outer s H E hr tk hp =>
  (dss_cons (ds_expr (de_call (k_validate_passes T) T.m_validate_passes T.kp_validate_passes hr tk (da_cons (dv 0) da_nil)))
  (dss_cons (ds_expr (de_call (k_validate_beans T) T.m_validate_beans T.kp_validate_beans hr tk (da_cons (dv 0) (da_cons (dv 1) da_nil))))
  (dss_cons (ds_set 2 sc_last_bean.nd (de_non))
  (dss_cons (ds_for hp (di_seq (de_meth0 (k_Jar_colours T) T.m_Jar T.cl_Jar T.mt_Jar_colours hr tk (dv 1))) (dg_name 3 sc_last_bean.nd (ws := [3])) (dss_cut [3] (dss_one (ds_set 2 sc_last_bean.nd (de_call (k_product T) T.m_product T.kp_product hr tk (da_cons (dv 0) (da_cons (dv 2) (da_cons (de_call (k_times T) T.m_times T.kp_times hr tk (da_cons (dv 0) (da_cons (dv 3) (da_cons (de_ixOwn (k_Jar_getitem T) T.m_Jar T.mt_Jar_getitem.at_ T.fi_Jar_getitem T.mt_Jar_getitem.fn hr tk (dv 1) (dv 3)) da_nil)))) da_nil))))))))
  (dss_one (ds_ret (dv 2)))))))
noncomputable abbrev N_are_counts : List Str := ["value", "count"]
theorem sc_are_counts : FnScope N_are_counts ["value"] (defScope s_are_counts) := ⟨rfl, rfl, rfl, by decide +kernel, rfl, by decide +kernel, by decide +kernel⟩
theorem k_are_counts (T : Txt K mg A) : Fk P w K mg base 2 A.are_counts 1 g_are_counts :=
  Fk.df false T.d_are_counts sc_are_counts fun cdv Ar outer s H E hr tk hp =>
  (dss_cons (ds_if (DW.pt (dw_or (dt_not (dt_tru (de_isi2 T.cs T.n_isinstance (dv 0) (pe_tyN T.n_list bt_list) (pe_tyN T.n_tuple bt_tuple)))) (dw_or1 (dt_not (dt_chain O2.le O2.le (de_int) (de_callB C1.len T.n_len bt_len (da_cons (dv 0) da_nil)) (de_gint T.c_MAX_COLOURS.choose_spec)))))) (dss_one (ds_ret (de_bl))) dss_nil)
  (dss_one (ds_ret (de_callB (C1.all_ rfl) T.n_all bt_all (da_cons (de_lc (own := false) (ov := [("count", 1)]) sc_are_counts.nd (di_seq (dv 0)) (by show BlkOk N_are_counts (defScope s_are_counts) _ _; exact blkOk_by (by decide +kernel)) (fun _ _ _ _ _ => (dg_name 1 sc_are_counts.nd (ws := [1]))) (fun _ _ _ _ _ => dts_nil) (fun _ _ _ _ _ => ((de_and (de_call (k_is_integer T) T.m_is_integer T.kp_is_integer hr takes0 (da_cons (dv 1) da_nil)) (de_one (de_cmp O2.ge (dv 1) (de_int))))))) da_nil)))))
theorem sc_InvalidJar_init : FnScope ["self"] ["self"] (defScope s_InvalidJar_init) := ⟨rfl, rfl, rfl, by decide +kernel, rfl, by decide +kernel, by decide +kernel⟩
theorem x_InvalidJar (T : Txt K mg A) : Xk P w K mg base 1 A.InvalidJar_init ["self"] (spX0 K "ValueError" "ValueError.__new__" "ValueError.__init__" tlV) := xk0 T.d_InvalidJar_init sc_InvalidJar_init fun cdv Ar outer s H E => pss_one (ps_expr (pe_binit bxV rfl T.n_ValueError (by decide +kernel) T.vi_ValueError (pa_cons (pv 0) (pa_cons pe_str pa_nil))))
noncomputable abbrev N_Jar_init : List Str := ["self", "counts"]
theorem sc_Jar_init : FnScope N_Jar_init ["self", "counts"] (defScope s_Jar_init) := ⟨rfl, rfl, rfl, by decide +kernel, rfl, by decide +kernel, by decide +kernel⟩
theorem k_Jar_init (T : Txt K mg A) : Fk P w K mg base 3 A.Jar_init 2 g_Jar_init :=
  Fk.df false T.d_Jar_init sc_Jar_init fun cdv Ar outer s H E hr tk hp =>
  (dss_cons (ds_if (dt_not (dt_tru (de_call (k_are_counts T) T.m_are_counts T.kp_are_counts hr tk (da_cons (dv 1) da_nil)))) (dss_one (ds_raise0 T.xc_InvalidJar (x_InvalidJar T) hr tk)) dss_nil)
  (dss_one (ds_fld T.m_Jar T.cl_Jar T.na_Jar_own_counts (dv 0) (de_callTy (C1.list_ (own := false)) T.n_list bt_list (da_cons (dv 1) da_nil)))))
noncomputable abbrev N_Jar_of_beans : List Str := ["cls", "size", "beans", "counts", "bean"]
theorem sc_Jar_of_beans : FnScope N_Jar_of_beans ["cls", "size", "beans"] (defScope s_Jar_of_beans) := ⟨rfl, rfl, rfl, by decide +kernel, rfl, by decide +kernel, by decide +kernel⟩
theorem k_Jar_of_beans (T : Txt K mg A) : Fk P w K mg base 5 A.Jar_of_beans 3 g_Jar_of_beans :=
  Fk.df true T.d_Jar_of_beans sc_Jar_of_beans fun cdv Ar outer s H E hr tk hp =>
  (dss_cons (ds_if (DW.pt (dw_or (dt_not (dt_tru (de_call (k_is_integer T) T.m_is_integer T.kp_is_integer hr tk (da_cons (dv 1) da_nil)))) (dw_or1 (dt_not (dt_chain O2.le O2.le (de_int) (dv 1) (de_gint T.c_MAX_COLOURS.choose_spec)))))) (dss_one (ds_raise1 T.xc_InvalidNumber (x_InvalidNumber T) T.xn_InvalidNumber hr tk (da_cons (dv 1) da_nil))) dss_nil)
  (dss_cons (ds_if (dt_not (dt_tru (de_isi2 T.cs T.n_isinstance (dv 2) (pe_tyN T.n_list bt_list) (pe_tyN T.n_tuple bt_tuple)))) (dss_one (ds_raise1 T.xc_InvalidColour (x_InvalidColour T) T.xn_InvalidColour hr tk (da_cons (dv 2) da_nil))) dss_nil)
  (dss_cons (ds_set 3 sc_Jar_of_beans.nd (de_bin (O2.mul (own := true)) (de_lst (own := false) (da_cons (de_int) da_nil)) (dv 1)))
  (dss_cons (ds_for hp (di_seq (dv 2)) (dg_name 4 sc_Jar_of_beans.nd (ws := [4])) (dss_cut [4] (dss_cons (ds_if (dt_not (dt_tru (de_call (k_is_colour T) T.m_is_colour T.kp_is_colour hr tk (da_cons (dv 1) (da_cons (dv 4) da_nil))))) (dss_one (ds_raise1 T.xc_InvalidColour (x_InvalidColour T) T.xn_InvalidColour hr tk (da_cons (dv 4) da_nil))) dss_nil)
  (dss_one (ds_augI ip_add (dv 3) (dv 4) (de_int))))))
  (dss_one (ds_ret (de_makeV 0 true (k_Jar_init T) T.mk_Jar T.m_Jar hr tk (da_cons (dv 3) da_nil))))))))
noncomputable abbrev N_Jar_mul : List Str := ["self", "number", "count"]
theorem sc_Jar_mul : FnScope N_Jar_mul ["self", "number"] (defScope s_Jar_mul) := ⟨rfl, rfl, rfl, by decide +kernel, rfl, by decide +kernel, by decide +kernel⟩
theorem k_Jar_mul (T : Txt K mg A) : Fk P w K mg base 5 A.Jar_mul 2 g_Jar_mul :=
  Fk.df false T.d_Jar_mul sc_Jar_mul fun cdv Ar outer s H E hr tk hp =>
  (dss_cons (ds_if (DW.pt (dw_or (dt_not (dt_tru (de_call (k_is_integer T) T.m_is_integer T.kp_is_integer hr tk (da_cons (dv 1) da_nil)))) (dw_or1 (dt_cmp O2.lt (dv 1) (de_int))))) (dss_one (ds_raise1 T.xc_InvalidNumber (x_InvalidNumber T) T.xn_InvalidNumber hr tk (da_cons (dv 1) da_nil))) dss_nil)
  (dss_one (ds_ret (de_make true (k_Jar_init T) T.mk_Jar T.m_Jar hr tk (da_cons (de_lc (own := false) (ov := [("count", 2)]) sc_Jar_mul.nd (di_seq (de_fld T.m_Jar T.cl_Jar T.na_Jar_own_counts (dv 0))) (by show BlkOk N_Jar_mul (defScope s_Jar_mul) _ _; exact blkOk_by (by decide +kernel)) (fun _ _ _ _ _ => (dg_name 2 sc_Jar_mul.nd (ws := [2]))) (fun _ _ _ _ _ => dts_nil) (fun _ _ _ _ _ => (de_bin (O2.mul (own := false)) (dv 2) (dv 1)))) da_nil)))))
noncomputable abbrev N__law_check_powers_k22 : List Str := ["_law_pool_here", "_law_table", "_law_rows_here", "_law_size", "_law_colour", "_law_values", "_law_start", "_law_due", "_law_one", "_law_count", "_law_place"]
theorem sc__law_check_powers_k22 : FnScope N__law_check_powers_k22 ["_law_pool_here", "_law_table", "_law_rows_here", "_law_size"] (defScope s__law_check_powers) := ⟨rfl, rfl, rfl, by decide +kernel, rfl, by decide +kernel, by decide +kernel⟩
theorem k__law_check_powers_k22 (T : Txt K mg A) : Fk P w K mg base 10 A._law_check_powers 4 g__law_check_powers_k22 :=
  Fk.df false T.d__law_check_powers sc__law_check_powers_k22 fun cdv Ar outer s H E hr tk hp =>
  (dss_cons (ds_for hp (di_range1 T.n_range (da_cons (dv 3) da_nil)) (dg_name 4 sc__law_check_powers_k22.nd (ws := [4])) (dss_cut [4, 5, 6, 7, 8, 9, 10] (dss_cons (ds_asg (de_call (k_powers_k22 T) T.m_powers T.kp_powers hr tk (da_cons (dv 1) (da_cons (dv 4) da_nil))) (dg_tup (n := 2) (dgs_cons (dg_name 5 sc__law_check_powers_k22.nd (ws := [5, 6])) (dgs_cons (dg_name 6 sc__law_check_powers_k22.nd (ws := [5, 6])) dgs_nil))))
  (dss_cons (ds_par 7 8 sc__law_check_powers_k22.nd (da_cons (de_lst (own := true) da_nil) (da_cons (dv 4) da_nil)))
  (dss_cons (ds_while hp (dt_cmp (O2.notIn (un65 hr)) (dv 8) (dv 7)) (dss_cut [] (dss_cons (ds_expr (de_append (dv 7) (da_cons (dv 8) da_nil)))
  (dss_one (ds_set 8 sc__law_check_powers_k22.nd (de_ix (de_ix (dv 2) (dv 8)) (dv 4)))))))
  (dss_cons (ds_if (DW.pt (dw_or (dt_cmp (O2.ne hr.units) (dv 5) (dv 7)) (dw_or1 (dt_cmp (O2.ne hr.units) (dv 6) (de_bin (O2.add (own := false)) (de_index (dv 7) (da_cons (dv 8) da_nil)) (de_int)))))) (dss_one (ds_ret (de_bl))) dss_nil)
  (dss_cons (ds_set 9 sc__law_check_powers_k22.nd (de_bin (O2.add (own := false)) (de_bin (O2.add (own := false)) (de_callB C1.len T.n_len bt_len (da_cons (dv 7) da_nil)) (de_int)) (de_call (k__law_draw T) T.m__law_draw T.kp__law_draw hr tk (da_cons (dv 0) (da_cons (de_bin O2.pow (de_int) (de_int)) da_nil)))))
  (dss_cons (ds_set 10 sc__law_check_powers_k22.nd (de_bin (O2.add (own := false)) (de_bin O2.sub (dv 6) (de_int)) (de_bin O2.mod (de_bin O2.sub (dv 9) (dv 6)) (de_bin (O2.add (own := false)) (de_bin O2.sub (de_callB C1.len T.n_len bt_len (da_cons (dv 7) da_nil)) (dv 6)) (de_int)))))
  (dss_one (ds_if (dt_cmp (O2.ne hr.units) (de_call (k_last_bean T) T.m_last_bean T.kp_last_bean hr tk (da_cons (dv 1) (da_cons (de_bin (O2.mulO (k_Jar_mul T) T.m_Jar T.sf_Jar T.mt_Jar_mul.at_ T.rm_Jar T.si_Jar T.mt_Jar_mul.fn hr tk) (de_cmeth (k_Jar_of_beans T) T.m_Jar T.cr_Jar T.cm_Jar_of_beans hr tk (da_cons (dv 3) (da_cons (de_lst (own := false) (da_cons (dv 4) da_nil)) da_nil))) (dv 9)) da_nil))) (de_ix (dv 7) (dv 10))) (dss_one (ds_ret (de_bl))) dss_nil))))))))))
  (dss_one (ds_ret (de_bl))))
noncomputable abbrev N__law_choices_k22 : List Str := ["_law_first", "_law_second", "_law_found", "_law_number"]
theorem sc__law_choices_k22 : FnScope N__law_choices_k22 ["_law_first", "_law_second"] (defScope s__law_choices) := ⟨rfl, rfl, rfl, by decide +kernel, rfl, by decide +kernel, by decide +kernel⟩
theorem k__law_choices_k22 (T : Txt K mg A) : Fk P w K mg base 1 A._law_choices 2 g__law_choices_k22 :=
  Fk.df false T.d__law_choices sc__law_choices_k22 fun cdv Ar outer s H E hr tk hp =>
  (dss_cons (ds_set 2 sc__law_choices_k22.nd (de_int))
  (dss_cons (ds_for hp (di_range2 T.n_range (da_cons (de_int) (da_cons (de_bin (O2.add (own := false)) (dv 1) (de_int)) da_nil))) (dg_name 3 sc__law_choices_k22.nd (ws := [3])) (dss_cut [3] (dss_one (ds_set 2 sc__law_choices_k22.nd (de_bin O2.div (de_bin (O2.mul (own := false)) (dv 2) (de_bin (O2.add (own := false)) (de_bin O2.sub (dv 0) (dv 1)) (dv 3))) (dv 3))))))
  (dss_one (ds_ret (dv 2)))))
noncomputable abbrev N_law_k22 : List Str := ["_law_script", "_law_k", "_law_pool_here", "_law_size", "_law_rows_here", "_law_table", "_law_total", "_law_due", "_law_counts", "_law_last_here"]
theorem sc_law_k22 : FnScope N_law_k22 ["_law_script"] (defScope s_law) := ⟨rfl, rfl, rfl, by decide +kernel, rfl, by decide +kernel, by decide +kernel⟩
theorem ok_root (T : Txt K mg A) : ∃ fd : FuncData, (∀ (s : Shared) (u : Value), BindsTo s fd ⟨[u], []⟩ [("_law_script", u)]) ∧ ∀ base : Heap, Dl.FnOk P w K mg base (L2.CX P w) 11 A.law fd ["_law_script"] (dSp K mg 1 g_law_k22) := by
  obtain ⟨fd, h1, h2⟩ := T.dl_law
  exact ⟨fd, h2, fun base => body_ok false h1 sc_law_k22 fun cdv Ar outer s H E hr tk hp =>
  (dss_cons (ds_for hp (di_range1 T.n_range (da_cons (de_callB (C1.max2 rfl) T.n_max bt_max (da_cons (de_int) (da_cons (de_callB (C1.min2 rfl) T.n_min bt_min (da_cons (de_callB C1.len T.n_len bt_len (da_cons (dv 0) da_nil)) (da_cons (de_int) da_nil))) da_nil))) da_nil)) (dg_name 1 sc_law_k22.nd (ws := [1])) (dss_cut [1, 2, 3, 4, 5, 6, 7, 8, 9] (dss_cons (ds_set 2 sc_law_k22.nd (de_call (k__law_pool T) T.m__law_pool T.kp__law_pool hr tk (da_cons (dv 0) (da_cons (dv 1) da_nil))))
  (dss_cons (ds_set 3 sc_law_k22.nd (de_bin (O2.add (own := false)) (de_int) (de_call (k__law_draw T) T.m__law_draw T.kp__law_draw hr tk (da_cons (dv 2) (da_cons (de_int) da_nil)))))
  (dss_cons (ds_set 4 sc_law_k22.nd (de_call (k__law_rows_k22 T) T.m__law_rows T.kp__law_rows hr tk (da_cons (dv 2) (da_cons (dv 3) da_nil))))
  (dss_cons (ds_par 5 6 sc_law_k22.nd (da_cons (de_make true (k_Table_init T) T.mk_Table T.m_Table hr tk (da_cons (dv 4) da_nil)) (da_cons (de_bin (O2.add (own := false)) (de_int) (de_call (k__law_draw T) T.m__law_draw T.kp__law_draw hr tk (da_cons (dv 2) (da_cons (de_ix (de_lst (own := false) (da_cons (de_int) (da_cons (de_int) (da_cons (de_int) (da_cons (de_int) (da_cons (de_int) da_nil)))))) (de_bin O2.sub (dv 3) (de_int))) da_nil)))) da_nil)))
  (dss_cons (ds_set 7 sc_law_k22.nd (de_bin (O2.mul (own := true)) (de_lst (own := false) (da_cons (de_int) da_nil)) (dv 3)))
  (dss_cons (ds_for hp (di_seq (de_call (k__law_jars T) T.m__law_jars T.kp__law_jars hr tk (da_cons (dv 3) (da_cons (dv 6) da_nil)))) (dg_name 8 sc_law_k22.nd (ws := [8])) (dss_cut [8, 9] (dss_cons (ds_set 9 sc_law_k22.nd (de_call (k__law_last_k22 T) T.m__law_last T.kp__law_last hr tk (da_cons (dv 4) (da_cons (dv 8) da_nil))))
  (dss_one (ds_asg (de_bin (O2.add (own := false)) (de_ix (dv 7) (dv 9)) (de_int)) (dg_sub (W := W0) (dv 7) (dv 9) (ws := [])))))))
  (dss_cons (ds_if (dt_cmp (O2.ne hr.units) (de_call (k_count_jars_k22 T) T.m_count_jars T.kp_count_jars hr tk (da_cons (dv 5) (da_cons (dv 6) da_nil))) (dv 7)) (dss_one (ds_ret (de_bl))) dss_nil)
  (dss_cons (ds_if (dt_not (dt_tru (de_call (k__law_check_powers_k22 T) T.m__law_check_powers T.kp__law_check_powers hr tk (da_cons (dv 2) (da_cons (dv 5) (da_cons (dv 4) (da_cons (dv 3) da_nil))))))) (dss_one (ds_ret (de_bl))) dss_nil)
  (dss_one (ds_if (DW.pt (dw_and (dt_cmp O2.lt (dv 1) (de_int)) (dw_and1 (dt_cmp (O2.ne hr.units) (de_callB (C1.sum_ rfl) T.n_sum bt_sum (da_cons (de_call (k_count_jars_k22 T) T.m_count_jars T.kp_count_jars hr tk (da_cons (dv 5) (da_cons (de_int) da_nil))) da_nil)) (de_call (k__law_choices_k22 T) T.m__law_choices T.kp__law_choices hr tk (da_cons (de_bin O2.sub (de_bin (O2.add (own := false)) (de_int) (dv 3)) (de_int)) (da_cons (de_bin O2.sub (dv 3) (de_int)) da_nil))))))) (dss_one (ds_ret (de_bl))) dss_nil))))))))))))
  (dss_one (ds_ret (de_bl))))⟩
end
theorem bi__law_pool (kV doc pm : Value) (an : Option Addr) (cdv ct : Value) (us : List Value) (hl : us.length = (["_law_script", "_law_k"] : List Str).length) : PySem.bindArgs (PySem.W.fnOf "_law_pool" "_law_pool" (defArgs s__law_pool) (defBody s__law_pool) (defScope s__law_pool) .none kV doc pm an cdv ct) ⟨us, []⟩ = pure ((["_law_script", "_law_k"] : List Str).zip us) := match us, hl with | [_, _], _ => rfl
theorem bi__law_draw (kV doc pm : Value) (an : Option Addr) (cdv ct : Value) (us : List Value) (hl : us.length = (["_law_pool_here", "_law_many"] : List Str).length) : PySem.bindArgs (PySem.W.fnOf "_law_draw" "_law_draw" (defArgs s__law_draw) (defBody s__law_draw) (defScope s__law_draw) .none kV doc pm an cdv ct) ⟨us, []⟩ = pure ((["_law_pool_here", "_law_many"] : List Str).zip us) := match us, hl with | [_, _], _ => rfl
theorem bi__law_rows (kV doc pm : Value) (an : Option Addr) (cdv ct : Value) (us : List Value) (hl : us.length = (["_law_pool_here", "_law_size"] : List Str).length) : PySem.bindArgs (PySem.W.fnOf "_law_rows" "_law_rows" (defArgs s__law_rows) (defBody s__law_rows) (defScope s__law_rows) .none kV doc pm an cdv ct) ⟨us, []⟩ = pure ((["_law_pool_here", "_law_size"] : List Str).zip us) := match us, hl with | [_, _], _ => rfl
theorem bi_Table_init (kV doc pm : Value) (an : Option Addr) (cdv ct : Value) (us : List Value) (hl : us.length = (["self", "rows"] : List Str).length) : PySem.bindArgs (PySem.W.fnOf "__init__" "Table.__init__" (defArgs s_Table_init) (defBody s_Table_init) (defScope s_Table_init) .none kV doc pm an cdv ct) ⟨us, []⟩ = pure ((["self", "rows"] : List Str).zip us) := match us, hl with | [_, _], _ => rfl
theorem bi_has_shape (kV doc pm : Value) (an : Option Addr) (cdv ct : Value) (us : List Value) (hl : us.length = (["rows"] : List Str).length) : PySem.bindArgs (PySem.W.fnOf "has_shape" "has_shape" (defArgs s_has_shape) (defBody s_has_shape) (defScope s_has_shape) .none kV doc pm an cdv ct) ⟨us, []⟩ = pure ((["rows"] : List Str).zip us) := match us, hl with | [_], _ => rfl
theorem bi_InvalidTable_init (kV doc pm : Value) (an : Option Addr) (cdv ct : Value) (us : List Value) (hl : us.length = (["self", "place"] : List Str).length) : PySem.bindArgs (PySem.W.fnOf "__init__" "InvalidTable.__init__" (defArgs s_InvalidTable_init) (defBody s_InvalidTable_init) (defScope s_InvalidTable_init) .none kV doc pm an cdv ct) ⟨us, []⟩ = pure ((["self", "place"] : List Str).zip us) := match us, hl with | [_, _], _ => rfl
theorem bi_first_wrong_place (kV doc pm : Value) (an : Option Addr) (cdv ct : Value) (us : List Value) (hl : us.length = (["rows"] : List Str).length) : PySem.bindArgs (PySem.W.fnOf "first_wrong_place" "first_wrong_place" (defArgs s_first_wrong_place) (defBody s_first_wrong_place) (defScope s_first_wrong_place) .none kV doc pm an cdv ct) ⟨us, []⟩ = pure ((["rows"] : List Str).zip us) := match us, hl with | [_], _ => rfl
theorem bi_places (kV doc pm : Value) (an : Option Addr) (cdv ct : Value) (us : List Value) (hl : us.length = (["size"] : List Str).length) : PySem.bindArgs (PySem.W.fnOf "places" "places" (defArgs s_places) (defBody s_places) (defScope s_places) .none kV doc pm an cdv ct) ⟨us, []⟩ = pure ((["size"] : List Str).zip us) := match us, hl with | [_], _ => rfl
theorem bi_is_colour (kV doc pm : Value) (an : Option Addr) (cdv ct : Value) (us : List Value) (hl : us.length = (["size", "value"] : List Str).length) : PySem.bindArgs (PySem.W.fnOf "is_colour" "is_colour" (defArgs s_is_colour) (defBody s_is_colour) (defScope s_is_colour) .none kV doc pm an cdv ct) ⟨us, []⟩ = pure ((["size", "value"] : List Str).zip us) := match us, hl with | [_, _], _ => rfl
theorem bi_is_integer (kV doc pm : Value) (an : Option Addr) (cdv ct : Value) (us : List Value) (hl : us.length = (["value"] : List Str).length) : PySem.bindArgs (PySem.W.fnOf "is_integer" "is_integer" (defArgs s_is_integer) (defBody s_is_integer) (defScope s_is_integer) .none kV doc pm an cdv ct) ⟨us, []⟩ = pure ((["value"] : List Str).zip us) := match us, hl with | [_], _ => rfl
theorem bi__law_jars (kV doc pm : Value) (an : Option Addr) (cdv ct : Value) (us : List Value) (hl : us.length = (["_law_size", "_law_total"] : List Str).length) : PySem.bindArgs (PySem.W.fnOf "_law_jars" "_law_jars" (defArgs s__law_jars) (defBody s__law_jars) (defScope s__law_jars) .none kV doc pm an cdv ct) ⟨us, []⟩ = pure ((["_law_size", "_law_total"] : List Str).zip us) := match us, hl with | [_, _], _ => rfl
theorem bi__law_last (kV doc pm : Value) (an : Option Addr) (cdv ct : Value) (us : List Value) (hl : us.length = (["_law_rows_here", "_law_counts"] : List Str).length) : PySem.bindArgs (PySem.W.fnOf "_law_last" "_law_last" (defArgs s__law_last) (defBody s__law_last) (defScope s__law_last) .none kV doc pm an cdv ct) ⟨us, []⟩ = pure ((["_law_rows_here", "_law_counts"] : List Str).zip us) := match us, hl with | [_, _], _ => rfl
theorem bi_count_jars (kV doc pm : Value) (an : Option Addr) (cdv ct : Value) (us : List Value) (hl : us.length = (["table", "total"] : List Str).length) : PySem.bindArgs (PySem.W.fnOf "count_jars" "count_jars" (defArgs s_count_jars) (defBody s_count_jars) (defScope s_count_jars) .none kV doc pm an cdv ct) ⟨us, []⟩ = pure ((["table", "total"] : List Str).zip us) := match us, hl with | [_, _], _ => rfl
theorem bi_validate_passes (kV doc pm : Value) (an : Option Addr) (cdv ct : Value) (us : List Value) (hl : us.length = (["table"] : List Str).length) : PySem.bindArgs (PySem.W.fnOf "validate_passes" "validate_passes" (defArgs s_validate_passes) (defBody s_validate_passes) (defScope s_validate_passes) .none kV doc pm an cdv ct) ⟨us, []⟩ = pure ((["table"] : List Str).zip us) := match us, hl with | [_], _ => rfl
theorem bi_first_dispute (kV doc pm : Value) (an : Option Addr) (cdv ct : Value) (us : List Value) (hl : us.length = (["table"] : List Str).length) : PySem.bindArgs (PySem.W.fnOf "first_dispute" "first_dispute" (defArgs s_first_dispute) (defBody s_first_dispute) (defScope s_first_dispute) .none kV doc pm an cdv ct) ⟨us, []⟩ = pure ((["table"] : List Str).zip us) := match us, hl with | [_], _ => rfl
theorem bi_Table_size (kV doc pm : Value) (an : Option Addr) (cdv ct : Value) (us : List Value) (hl : us.length = (["self"] : List Str).length) : PySem.bindArgs (PySem.W.fnOf "size" "Table.size" (defArgs s_Table_size) (defBody s_Table_size) (defScope s_Table_size) .none kV doc pm an cdv ct) ⟨us, []⟩ = pure ((["self"] : List Str).zip us) := match us, hl with | [_], _ => rfl
theorem bi_is_disputed (kV doc pm : Value) (an : Option Addr) (cdv ct : Value) (us : List Value) (hl : us.length = (["table", "a", "b", "c"] : List Str).length) : PySem.bindArgs (PySem.W.fnOf "is_disputed" "is_disputed" (defArgs s_is_disputed) (defBody s_is_disputed) (defScope s_is_disputed) .none kV doc pm an cdv ct) ⟨us, []⟩ = pure ((["table", "a", "b", "c"] : List Str).zip us) := match us, hl with | [_, _, _, _], _ => rfl
theorem bi_Table_getitem (kV doc pm : Value) (an : Option Addr) (cdv ct : Value) (us : List Value) (hl : us.length = (["self", "pair"] : List Str).length) : PySem.bindArgs (PySem.W.fnOf "__getitem__" "Table.__getitem__" (defArgs s_Table_getitem) (defBody s_Table_getitem) (defScope s_Table_getitem) .none kV doc pm an cdv ct) ⟨us, []⟩ = pure ((["self", "pair"] : List Str).zip us) := match us, hl with | [_, _], _ => rfl
theorem bi_InvalidColour_init (kV doc pm : Value) (an : Option Addr) (cdv ct : Value) (us : List Value) (hl : us.length = (["self", "value"] : List Str).length) : PySem.bindArgs (PySem.W.fnOf "__init__" "InvalidColour.__init__" (defArgs s_InvalidColour_init) (defBody s_InvalidColour_init) (defScope s_InvalidColour_init) .none kV doc pm an cdv ct) ⟨us, []⟩ = pure ((["self", "value"] : List Str).zip us) := match us, hl with | [_, _], _ => rfl
theorem bi_Table_validate_colour (kV doc pm : Value) (an : Option Addr) (cdv ct : Value) (us : List Value) (hl : us.length = (["self", "value"] : List Str).length) : PySem.bindArgs (PySem.W.fnOf "validate_colour" "Table.validate_colour" (defArgs s_Table_validate_colour) (defBody s_Table_validate_colour) (defScope s_Table_validate_colour) .none kV doc pm an cdv ct) ⟨us, []⟩ = pure ((["self", "value"] : List Str).zip us) := match us, hl with | [_, _], _ => rfl
theorem bi_Disputed_init (kV doc pm : Value) (an : Option Addr) (cdv ct : Value) (us : List Value) (hl : us.length = (["self", "triple"] : List Str).length) : PySem.bindArgs (PySem.W.fnOf "__init__" "Disputed.__init__" (defArgs s_Disputed_init) (defBody s_Disputed_init) (defScope s_Disputed_init) .none kV doc pm an cdv ct) ⟨us, []⟩ = pure ((["self", "triple"] : List Str).zip us) := match us, hl with | [_, _], _ => rfl
theorem bi_InvalidNumber_init (kV doc pm : Value) (an : Option Addr) (cdv ct : Value) (us : List Value) (hl : us.length = (["self", "value"] : List Str).length) : PySem.bindArgs (PySem.W.fnOf "__init__" "InvalidNumber.__init__" (defArgs s_InvalidNumber_init) (defBody s_InvalidNumber_init) (defScope s_InvalidNumber_init) .none kV doc pm an cdv ct) ⟨us, []⟩ = pure ((["self", "value"] : List Str).zip us) := match us, hl with | [_, _], _ => rfl
theorem bi_product (kV doc pm : Value) (an : Option Addr) (cdv ct : Value) (us : List Value) (hl : us.length = (["table", "first", "second"] : List Str).length) : PySem.bindArgs (PySem.W.fnOf "product" "product" (defArgs s_product) (defBody s_product) (defScope s_product) .none kV doc pm an cdv ct) ⟨us, []⟩ = pure ((["table", "first", "second"] : List Str).zip us) := match us, hl with | [_, _, _], _ => rfl
theorem bi__law_check_powers (kV doc pm : Value) (an : Option Addr) (cdv ct : Value) (us : List Value) (hl : us.length = (["_law_pool_here", "_law_table", "_law_rows_here", "_law_size"] : List Str).length) : PySem.bindArgs (PySem.W.fnOf "_law_check_powers" "_law_check_powers" (defArgs s__law_check_powers) (defBody s__law_check_powers) (defScope s__law_check_powers) .none kV doc pm an cdv ct) ⟨us, []⟩ = pure ((["_law_pool_here", "_law_table", "_law_rows_here", "_law_size"] : List Str).zip us) := match us, hl with | [_, _, _, _], _ => rfl
theorem bi_powers (kV doc pm : Value) (an : Option Addr) (cdv ct : Value) (us : List Value) (hl : us.length = (["table", "colour"] : List Str).length) : PySem.bindArgs (PySem.W.fnOf "powers" "powers" (defArgs s_powers) (defBody s_powers) (defScope s_powers) .none kV doc pm an cdv ct) ⟨us, []⟩ = pure ((["table", "colour"] : List Str).zip us) := match us, hl with | [_, _], _ => rfl
theorem bi_last_bean (kV doc pm : Value) (an : Option Addr) (cdv ct : Value) (us : List Value) (hl : us.length = (["table", "jar"] : List Str).length) : PySem.bindArgs (PySem.W.fnOf "last_bean" "last_bean" (defArgs s_last_bean) (defBody s_last_bean) (defScope s_last_bean) .none kV doc pm an cdv ct) ⟨us, []⟩ = pure ((["table", "jar"] : List Str).zip us) := match us, hl with | [_, _], _ => rfl
theorem bi_validate_beans (kV doc pm : Value) (an : Option Addr) (cdv ct : Value) (us : List Value) (hl : us.length = (["table", "jar"] : List Str).length) : PySem.bindArgs (PySem.W.fnOf "validate_beans" "validate_beans" (defArgs s_validate_beans) (defBody s_validate_beans) (defScope s_validate_beans) .none kV doc pm an cdv ct) ⟨us, []⟩ = pure ((["table", "jar"] : List Str).zip us) := match us, hl with | [_, _], _ => rfl
theorem bi_Jar_validate_size (kV doc pm : Value) (an : Option Addr) (cdv ct : Value) (us : List Value) (hl : us.length = (["self", "size"] : List Str).length) : PySem.bindArgs (PySem.W.fnOf "validate_size" "Jar.validate_size" (defArgs s_Jar_validate_size) (defBody s_Jar_validate_size) (defScope s_Jar_validate_size) .none kV doc pm an cdv ct) ⟨us, []⟩ = pure ((["self", "size"] : List Str).zip us) := match us, hl with | [_, _], _ => rfl
theorem bi_Jar_size (kV doc pm : Value) (an : Option Addr) (cdv ct : Value) (us : List Value) (hl : us.length = (["self"] : List Str).length) : PySem.bindArgs (PySem.W.fnOf "size" "Jar.size" (defArgs s_Jar_size) (defBody s_Jar_size) (defScope s_Jar_size) .none kV doc pm an cdv ct) ⟨us, []⟩ = pure ((["self"] : List Str).zip us) := match us, hl with | [_], _ => rfl
theorem bi_WrongSize_init (kV doc pm : Value) (an : Option Addr) (cdv ct : Value) (us : List Value) (hl : us.length = (["self"] : List Str).length) : PySem.bindArgs (PySem.W.fnOf "__init__" "WrongSize.__init__" (defArgs s_WrongSize_init) (defBody s_WrongSize_init) (defScope s_WrongSize_init) .none kV doc pm an cdv ct) ⟨us, []⟩ = pure ((["self"] : List Str).zip us) := match us, hl with | [_], _ => rfl
theorem bi_Jar_bool (kV doc pm : Value) (an : Option Addr) (cdv ct : Value) (us : List Value) (hl : us.length = (["self"] : List Str).length) : PySem.bindArgs (PySem.W.fnOf "__bool__" "Jar.__bool__" (defArgs s_Jar_bool) (defBody s_Jar_bool) (defScope s_Jar_bool) .none kV doc pm an cdv ct) ⟨us, []⟩ = pure ((["self"] : List Str).zip us) := match us, hl with | [_], _ => rfl
theorem bi_EmptyJar_init (kV doc pm : Value) (an : Option Addr) (cdv ct : Value) (us : List Value) (hl : us.length = (["self"] : List Str).length) : PySem.bindArgs (PySem.W.fnOf "__init__" "EmptyJar.__init__" (defArgs s_EmptyJar_init) (defBody s_EmptyJar_init) (defScope s_EmptyJar_init) .none kV doc pm an cdv ct) ⟨us, []⟩ = pure ((["self"] : List Str).zip us) := match us, hl with | [_], _ => rfl
theorem bi_Jar_colours (kV doc pm : Value) (an : Option Addr) (cdv ct : Value) (us : List Value) (hl : us.length = (["self"] : List Str).length) : PySem.bindArgs (PySem.W.fnOf "colours" "Jar.colours" (defArgs s_Jar_colours) (defBody s_Jar_colours) (defScope s_Jar_colours) .none kV doc pm an cdv ct) ⟨us, []⟩ = pure ((["self"] : List Str).zip us) := match us, hl with | [_], _ => rfl
theorem bi_times (kV doc pm : Value) (an : Option Addr) (cdv ct : Value) (us : List Value) (hl : us.length = (["table", "colour", "count"] : List Str).length) : PySem.bindArgs (PySem.W.fnOf "times" "times" (defArgs s_times) (defBody s_times) (defScope s_times) .none kV doc pm an cdv ct) ⟨us, []⟩ = pure ((["table", "colour", "count"] : List Str).zip us) := match us, hl with | [_, _, _], _ => rfl
theorem bi_Jar_getitem (kV doc pm : Value) (an : Option Addr) (cdv ct : Value) (us : List Value) (hl : us.length = (["self", "colour"] : List Str).length) : PySem.bindArgs (PySem.W.fnOf "__getitem__" "Jar.__getitem__" (defArgs s_Jar_getitem) (defBody s_Jar_getitem) (defScope s_Jar_getitem) .none kV doc pm an cdv ct) ⟨us, []⟩ = pure ((["self", "colour"] : List Str).zip us) := match us, hl with | [_, _], _ => rfl
theorem bi_Jar_of_beans (kV doc pm : Value) (an : Option Addr) (cdv ct : Value) (us : List Value) (hl : us.length = (["cls", "size", "beans"] : List Str).length) : PySem.bindArgs (PySem.W.fnOf "of_beans" "Jar.of_beans" (defArgs s_Jar_of_beans) (defBody s_Jar_of_beans) (defScope s_Jar_of_beans) .none kV doc pm an cdv ct) ⟨us, []⟩ = pure ((["cls", "size", "beans"] : List Str).zip us) := match us, hl with | [_, _, _], _ => rfl
theorem bi_Jar_init (kV doc pm : Value) (an : Option Addr) (cdv ct : Value) (us : List Value) (hl : us.length = (["self", "counts"] : List Str).length) : PySem.bindArgs (PySem.W.fnOf "__init__" "Jar.__init__" (defArgs s_Jar_init) (defBody s_Jar_init) (defScope s_Jar_init) .none kV doc pm an cdv ct) ⟨us, []⟩ = pure ((["self", "counts"] : List Str).zip us) := match us, hl with | [_, _], _ => rfl
theorem bi_are_counts (kV doc pm : Value) (an : Option Addr) (cdv ct : Value) (us : List Value) (hl : us.length = (["value"] : List Str).length) : PySem.bindArgs (PySem.W.fnOf "are_counts" "are_counts" (defArgs s_are_counts) (defBody s_are_counts) (defScope s_are_counts) .none kV doc pm an cdv ct) ⟨us, []⟩ = pure ((["value"] : List Str).zip us) := match us, hl with | [_], _ => rfl
theorem bi_InvalidJar_init (kV doc pm : Value) (an : Option Addr) (cdv ct : Value) (us : List Value) (hl : us.length = (["self"] : List Str).length) : PySem.bindArgs (PySem.W.fnOf "__init__" "InvalidJar.__init__" (defArgs s_InvalidJar_init) (defBody s_InvalidJar_init) (defScope s_InvalidJar_init) .none kV doc pm an cdv ct) ⟨us, []⟩ = pure ((["self"] : List Str).zip us) := match us, hl with | [_], _ => rfl
theorem bi_Jar_mul (kV doc pm : Value) (an : Option Addr) (cdv ct : Value) (us : List Value) (hl : us.length = (["self", "number"] : List Str).length) : PySem.bindArgs (PySem.W.fnOf "__mul__" "Jar.__mul__" (defArgs s_Jar_mul) (defBody s_Jar_mul) (defScope s_Jar_mul) .none kV doc pm an cdv ct) ⟨us, []⟩ = pure ((["self", "number"] : List Str).zip us) := match us, hl with | [_, _], _ => rfl
theorem bi__law_choices (kV doc pm : Value) (an : Option Addr) (cdv ct : Value) (us : List Value) (hl : us.length = (["_law_first", "_law_second"] : List Str).length) : PySem.bindArgs (PySem.W.fnOf "_law_choices" "_law_choices" (defArgs s__law_choices) (defBody s__law_choices) (defScope s__law_choices) .none kV doc pm an cdv ct) ⟨us, []⟩ = pure ((["_law_first", "_law_second"] : List Str).zip us) := match us, hl with | [_, _], _ => rfl
theorem txt_mk {K : PySem.W.Frag} {h : Heap} {mg : Str → Option Value} (X : K.In h) (G : h.Ns mainGlobals mg) {a_law a__law_pool a__law_draw a__law_rows a_Table_init a_has_shape a_InvalidTable_init a_first_wrong_place a_places a_is_colour a_is_integer a__law_jars a__law_last a_count_jars a_validate_passes a_first_dispute a_Table_size a_is_disputed a_Table_getitem a_InvalidColour_init a_Table_validate_colour a_Disputed_init a_InvalidNumber_init a_product a__law_check_powers a_powers a_last_bean a_validate_beans a_Jar_validate_size a_Jar_size a_WrongSize_init a_Jar_bool a_EmptyJar_init a_Jar_colours a_times a_Jar_getitem a_Jar_of_beans a_Jar_init a_are_counts a_InvalidJar_init a_Jar_mul a__law_choices a_C_Table a_C_Jar a_C_InvalidTable a_C_InvalidColour a_C_Disputed a_C_InvalidNumber a_C_WrongSize a_C_EmptyJar a_C_InvalidJar a_P_Table_size a_P_Jar_size a_M_Jar_of_beans : Addr} {od_law an_law : Option Addr} {sl_law : Array (Option Value)} {oc_law kV_law dc_law pm_law cd_law ct_law : Value} {od__law_pool an__law_pool : Option Addr} {sl__law_pool : Array (Option Value)} {oc__law_pool kV__law_pool dc__law_pool pm__law_pool cd__law_pool ct__law_pool : Value} {od__law_draw an__law_draw : Option Addr} {sl__law_draw : Array (Option Value)} {oc__law_draw kV__law_draw dc__law_draw pm__law_draw cd__law_draw ct__law_draw : Value} {od__law_rows an__law_rows : Option Addr} {sl__law_rows : Array (Option Value)} {oc__law_rows kV__law_rows dc__law_rows pm__law_rows cd__law_rows ct__law_rows : Value} {od_Table_init an_Table_init : Option Addr} {sl_Table_init : Array (Option Value)} {oc_Table_init kV_Table_init dc_Table_init pm_Table_init cd_Table_init ct_Table_init : Value} {od_has_shape an_has_shape : Option Addr} {sl_has_shape : Array (Option Value)} {oc_has_shape kV_has_shape dc_has_shape pm_has_shape cd_has_shape ct_has_shape : Value} {od_InvalidTable_init an_InvalidTable_init : Option Addr} {sl_InvalidTable_init : Array (Option Value)} {oc_InvalidTable_init kV_InvalidTable_init dc_InvalidTable_init pm_InvalidTable_init cd_InvalidTable_init ct_InvalidTable_init : Value} {od_first_wrong_place an_first_wrong_place : Option Addr} {sl_first_wrong_place : Array (Option Value)} {oc_first_wrong_place kV_first_wrong_place dc_first_wrong_place pm_first_wrong_place cd_first_wrong_place ct_first_wrong_place : Value} {od_places an_places : Option Addr} {sl_places : Array (Option Value)} {oc_places kV_places dc_places pm_places cd_places ct_places : Value} {od_is_colour an_is_colour : Option Addr} {sl_is_colour : Array (Option Value)} {oc_is_colour kV_is_colour dc_is_colour pm_is_colour cd_is_colour ct_is_colour : Value} {od_is_integer an_is_integer : Option Addr} {sl_is_integer : Array (Option Value)} {oc_is_integer kV_is_integer dc_is_integer pm_is_integer cd_is_integer ct_is_integer : Value} {od__law_jars an__law_jars : Option Addr} {sl__law_jars : Array (Option Value)} {oc__law_jars kV__law_jars dc__law_jars pm__law_jars cd__law_jars ct__law_jars : Value} {od__law_last an__law_last : Option Addr} {sl__law_last : Array (Option Value)} {oc__law_last kV__law_last dc__law_last pm__law_last cd__law_last ct__law_last : Value} {od_count_jars an_count_jars : Option Addr} {sl_count_jars : Array (Option Value)} {oc_count_jars kV_count_jars dc_count_jars pm_count_jars cd_count_jars ct_count_jars : Value} {od_validate_passes an_validate_passes : Option Addr} {sl_validate_passes : Array (Option Value)} {oc_validate_passes kV_validate_passes dc_validate_passes pm_validate_passes cd_validate_passes ct_validate_passes : Value} {od_first_dispute an_first_dispute : Option Addr} {sl_first_dispute : Array (Option Value)} {oc_first_dispute kV_first_dispute dc_first_dispute pm_first_dispute cd_first_dispute ct_first_dispute : Value} {od_Table_size an_Table_size : Option Addr} {sl_Table_size : Array (Option Value)} {oc_Table_size kV_Table_size dc_Table_size pm_Table_size cd_Table_size ct_Table_size : Value} {od_is_disputed an_is_disputed : Option Addr} {sl_is_disputed : Array (Option Value)} {oc_is_disputed kV_is_disputed dc_is_disputed pm_is_disputed cd_is_disputed ct_is_disputed : Value} {od_Table_getitem an_Table_getitem : Option Addr} {sl_Table_getitem : Array (Option Value)} {oc_Table_getitem kV_Table_getitem dc_Table_getitem pm_Table_getitem cd_Table_getitem ct_Table_getitem : Value} {od_InvalidColour_init an_InvalidColour_init : Option Addr} {sl_InvalidColour_init : Array (Option Value)} {oc_InvalidColour_init kV_InvalidColour_init dc_InvalidColour_init pm_InvalidColour_init cd_InvalidColour_init ct_InvalidColour_init : Value} {od_Table_validate_colour an_Table_validate_colour : Option Addr} {sl_Table_validate_colour : Array (Option Value)} {oc_Table_validate_colour kV_Table_validate_colour dc_Table_validate_colour pm_Table_validate_colour cd_Table_validate_colour ct_Table_validate_colour : Value} {od_Disputed_init an_Disputed_init : Option Addr} {sl_Disputed_init : Array (Option Value)} {oc_Disputed_init kV_Disputed_init dc_Disputed_init pm_Disputed_init cd_Disputed_init ct_Disputed_init : Value} {od_InvalidNumber_init an_InvalidNumber_init : Option Addr} {sl_InvalidNumber_init : Array (Option Value)} {oc_InvalidNumber_init kV_InvalidNumber_init dc_InvalidNumber_init pm_InvalidNumber_init cd_InvalidNumber_init ct_InvalidNumber_init : Value} {od_product an_product : Option Addr} {sl_product : Array (Option Value)} {oc_product kV_product dc_product pm_product cd_product ct_product : Value} {od__law_check_powers an__law_check_powers : Option Addr} {sl__law_check_powers : Array (Option Value)} {oc__law_check_powers kV__law_check_powers dc__law_check_powers pm__law_check_powers cd__law_check_powers ct__law_check_powers : Value} {od_powers an_powers : Option Addr} {sl_powers : Array (Option Value)} {oc_powers kV_powers dc_powers pm_powers cd_powers ct_powers : Value} {od_last_bean an_last_bean : Option Addr} {sl_last_bean : Array (Option Value)} {oc_last_bean kV_last_bean dc_last_bean pm_last_bean cd_last_bean ct_last_bean : Value} {od_validate_beans an_validate_beans : Option Addr} {sl_validate_beans : Array (Option Value)} {oc_validate_beans kV_validate_beans dc_validate_beans pm_validate_beans cd_validate_beans ct_validate_beans : Value} {od_Jar_validate_size an_Jar_validate_size : Option Addr} {sl_Jar_validate_size : Array (Option Value)} {oc_Jar_validate_size kV_Jar_validate_size dc_Jar_validate_size pm_Jar_validate_size cd_Jar_validate_size ct_Jar_validate_size : Value} {od_Jar_size an_Jar_size : Option Addr} {sl_Jar_size : Array (Option Value)} {oc_Jar_size kV_Jar_size dc_Jar_size pm_Jar_size cd_Jar_size ct_Jar_size : Value} {od_WrongSize_init an_WrongSize_init : Option Addr} {sl_WrongSize_init : Array (Option Value)} {oc_WrongSize_init kV_WrongSize_init dc_WrongSize_init pm_WrongSize_init cd_WrongSize_init ct_WrongSize_init : Value} {od_Jar_bool an_Jar_bool : Option Addr} {sl_Jar_bool : Array (Option Value)} {oc_Jar_bool kV_Jar_bool dc_Jar_bool pm_Jar_bool cd_Jar_bool ct_Jar_bool : Value} {od_EmptyJar_init an_EmptyJar_init : Option Addr} {sl_EmptyJar_init : Array (Option Value)} {oc_EmptyJar_init kV_EmptyJar_init dc_EmptyJar_init pm_EmptyJar_init cd_EmptyJar_init ct_EmptyJar_init : Value} {od_Jar_colours an_Jar_colours : Option Addr} {sl_Jar_colours : Array (Option Value)} {oc_Jar_colours kV_Jar_colours dc_Jar_colours pm_Jar_colours cd_Jar_colours ct_Jar_colours : Value} {od_times an_times : Option Addr} {sl_times : Array (Option Value)} {oc_times kV_times dc_times pm_times cd_times ct_times : Value} {od_Jar_getitem an_Jar_getitem : Option Addr} {sl_Jar_getitem : Array (Option Value)} {oc_Jar_getitem kV_Jar_getitem dc_Jar_getitem pm_Jar_getitem cd_Jar_getitem ct_Jar_getitem : Value} {od_Jar_of_beans an_Jar_of_beans : Option Addr} {sl_Jar_of_beans : Array (Option Value)} {oc_Jar_of_beans kV_Jar_of_beans dc_Jar_of_beans pm_Jar_of_beans cd_Jar_of_beans ct_Jar_of_beans : Value} {od_Jar_init an_Jar_init : Option Addr} {sl_Jar_init : Array (Option Value)} {oc_Jar_init kV_Jar_init dc_Jar_init pm_Jar_init cd_Jar_init ct_Jar_init : Value} {od_are_counts an_are_counts : Option Addr} {sl_are_counts : Array (Option Value)} {oc_are_counts kV_are_counts dc_are_counts pm_are_counts cd_are_counts ct_are_counts : Value} {od_InvalidJar_init an_InvalidJar_init : Option Addr} {sl_InvalidJar_init : Array (Option Value)} {oc_InvalidJar_init kV_InvalidJar_init dc_InvalidJar_init pm_InvalidJar_init cd_InvalidJar_init ct_InvalidJar_init : Value} {od_Jar_mul an_Jar_mul : Option Addr} {sl_Jar_mul : Array (Option Value)} {oc_Jar_mul kV_Jar_mul dc_Jar_mul pm_Jar_mul cd_Jar_mul ct_Jar_mul : Value} {od__law_choices an__law_choices : Option Addr} {sl__law_choices : Array (Option Value)} {oc__law_choices kV__law_choices dc__law_choices pm__law_choices cd__law_choices ct__law_choices : Value} {rs_Table_size : List Value} {rs_Jar_size : List Value} {rs_Jar_of_beans : List Value} {xnm_InvalidTable xq_InvalidTable : Str} {xN_InvalidTable : Addr} {xbs_InvalidTable xsub_InvalidTable : List Value} {xsn_InvalidTable : List Str} {xab_InvalidTable : Bool} {xcol_InvalidTable : Option Bool} {xdd_InvalidTable : Option Addr} {xk0_InvalidTable xk1_InvalidTable xk2_InvalidTable xk3_InvalidTable xk5_InvalidTable : Option Value} {xnm_InvalidColour xq_InvalidColour : Str} {xN_InvalidColour : Addr} {xbs_InvalidColour xsub_InvalidColour : List Value} {xsn_InvalidColour : List Str} {xab_InvalidColour : Bool} {xcol_InvalidColour : Option Bool} {xdd_InvalidColour : Option Addr} {xk0_InvalidColour xk1_InvalidColour xk2_InvalidColour xk3_InvalidColour xk5_InvalidColour : Option Value} {xnm_Disputed xq_Disputed : Str} {xN_Disputed : Addr} {xbs_Disputed xsub_Disputed : List Value} {xsn_Disputed : List Str} {xab_Disputed : Bool} {xcol_Disputed : Option Bool} {xdd_Disputed : Option Addr} {xk0_Disputed xk1_Disputed xk2_Disputed xk3_Disputed xk5_Disputed : Option Value} {xnm_InvalidNumber xq_InvalidNumber : Str} {xN_InvalidNumber : Addr} {xbs_InvalidNumber xsub_InvalidNumber : List Value} {xsn_InvalidNumber : List Str} {xab_InvalidNumber : Bool} {xcol_InvalidNumber : Option Bool} {xdd_InvalidNumber : Option Addr} {xk0_InvalidNumber xk1_InvalidNumber xk2_InvalidNumber xk3_InvalidNumber xk5_InvalidNumber : Option Value} {xnm_WrongSize xq_WrongSize : Str} {xN_WrongSize : Addr} {xbs_WrongSize xsub_WrongSize : List Value} {xsn_WrongSize : List Str} {xab_WrongSize : Bool} {xcol_WrongSize : Option Bool} {xdd_WrongSize : Option Addr} {xk0_WrongSize xk1_WrongSize xk2_WrongSize xk3_WrongSize xk5_WrongSize : Option Value} {xnm_EmptyJar xq_EmptyJar : Str} {xN_EmptyJar : Addr} {xbs_EmptyJar xsub_EmptyJar : List Value} {xsn_EmptyJar : List Str} {xab_EmptyJar : Bool} {xcol_EmptyJar : Option Bool} {xdd_EmptyJar : Option Addr} {xk0_EmptyJar xk1_EmptyJar xk2_EmptyJar xk3_EmptyJar xk5_EmptyJar : Option Value} {xnm_InvalidJar xq_InvalidJar : Str} {xN_InvalidJar : Addr} {xbs_InvalidJar xsub_InvalidJar : List Value} {xsn_InvalidJar : List Str} {xab_InvalidJar : Bool} {xcol_InvalidJar : Option Bool} {xdd_InvalidJar : Option Addr} {xk0_InvalidJar xk1_InvalidJar xk2_InvalidJar xk3_InvalidJar xk5_InvalidJar : Option Value} {t_MAX_COLOURS : Tok} {t_MAX_TOTAL : Tok}
    (aC_Table : PySem.W.nsIn K mainGlobals "Table" = some (some (.ref a_C_Table)))
    (pg_Table : PySem.W.plainGet K a_C_Table Str.empty = true)
    (hd_Table : PySem.W.hasDictIn K a_C_Table = true)
    (po_Table : PySem.W.plainOver K a_C_Table = true)
    (sa_Table : PySem.W.findIn K (.ref a_C_Table) "__setattr__" = some (some (.builtin "object.__setattr__")))
    (aC_Jar : PySem.W.nsIn K mainGlobals "Jar" = some (some (.ref a_C_Jar)))
    (pg_Jar : PySem.W.plainGet K a_C_Jar Str.empty = true)
    (hd_Jar : PySem.W.hasDictIn K a_C_Jar = true)
    (po_Jar : PySem.W.plainOver K a_C_Jar = true)
    (sa_Jar : PySem.W.findIn K (.ref a_C_Jar) "__setattr__" = some (some (.builtin "object.__setattr__")))
    (aX_InvalidTable : PySem.W.nsIn K mainGlobals "InvalidTable" = some (some (.ref a_C_InvalidTable)))
    (aX_InvalidColour : PySem.W.nsIn K mainGlobals "InvalidColour" = some (some (.ref a_C_InvalidColour)))
    (aX_Disputed : PySem.W.nsIn K mainGlobals "Disputed" = some (some (.ref a_C_Disputed)))
    (aX_InvalidNumber : PySem.W.nsIn K mainGlobals "InvalidNumber" = some (some (.ref a_C_InvalidNumber)))
    (aX_WrongSize : PySem.W.nsIn K mainGlobals "WrongSize" = some (some (.ref a_C_WrongSize)))
    (aX_EmptyJar : PySem.W.nsIn K mainGlobals "EmptyJar" = some (some (.ref a_C_EmptyJar)))
    (aX_InvalidJar : PySem.W.nsIn K mainGlobals "InvalidJar" = some (some (.ref a_C_InvalidJar)))
    (xl_InvalidTable : K.lookup a_C_InvalidTable = some (excClassObj xnm_InvalidTable xq_InvalidTable a_C_InvalidTable xN_InvalidTable xbs_InvalidTable tlV true xsn_InvalidTable xsub_InvalidTable xab_InvalidTable xcol_InvalidTable xdd_InvalidTable xk0_InvalidTable xk1_InvalidTable xk2_InvalidTable xk3_InvalidTable xk5_InvalidTable "ValueError.__new__"))
    (xs_InvalidTable : PySem.W.findIn K (.ref a_C_InvalidTable) "__setattr__" = some (some (.builtin "object.__setattr__")))
    (xb_InvalidTable : PySem.W.subIn K (.ref a_C_InvalidTable) (.type "BaseException") = some true)
    (xt_InvalidTable : PySem.W.typeIn K (.ref a_C_InvalidTable) = some (.type "type"))
    (xk_InvalidTable : PySem.W.keepIn K (.ref a_C_InvalidTable) = true)
    (xno_InvalidTable : PySem.W.findIn K (.ref a_C_InvalidTable) "place" = some none)
    (xl_InvalidColour : K.lookup a_C_InvalidColour = some (excClassObj xnm_InvalidColour xq_InvalidColour a_C_InvalidColour xN_InvalidColour xbs_InvalidColour tlV true xsn_InvalidColour xsub_InvalidColour xab_InvalidColour xcol_InvalidColour xdd_InvalidColour xk0_InvalidColour xk1_InvalidColour xk2_InvalidColour xk3_InvalidColour xk5_InvalidColour "ValueError.__new__"))
    (xs_InvalidColour : PySem.W.findIn K (.ref a_C_InvalidColour) "__setattr__" = some (some (.builtin "object.__setattr__")))
    (xb_InvalidColour : PySem.W.subIn K (.ref a_C_InvalidColour) (.type "BaseException") = some true)
    (xt_InvalidColour : PySem.W.typeIn K (.ref a_C_InvalidColour) = some (.type "type"))
    (xk_InvalidColour : PySem.W.keepIn K (.ref a_C_InvalidColour) = true)
    (xno_InvalidColour : PySem.W.findIn K (.ref a_C_InvalidColour) "value" = some none)
    (xl_Disputed : K.lookup a_C_Disputed = some (excClassObj xnm_Disputed xq_Disputed a_C_Disputed xN_Disputed xbs_Disputed tlR true xsn_Disputed xsub_Disputed xab_Disputed xcol_Disputed xdd_Disputed xk0_Disputed xk1_Disputed xk2_Disputed xk3_Disputed xk5_Disputed "RuntimeError.__new__"))
    (xs_Disputed : PySem.W.findIn K (.ref a_C_Disputed) "__setattr__" = some (some (.builtin "object.__setattr__")))
    (xb_Disputed : PySem.W.subIn K (.ref a_C_Disputed) (.type "BaseException") = some true)
    (xt_Disputed : PySem.W.typeIn K (.ref a_C_Disputed) = some (.type "type"))
    (xk_Disputed : PySem.W.keepIn K (.ref a_C_Disputed) = true)
    (xno_Disputed : PySem.W.findIn K (.ref a_C_Disputed) "triple" = some none)
    (xl_InvalidNumber : K.lookup a_C_InvalidNumber = some (excClassObj xnm_InvalidNumber xq_InvalidNumber a_C_InvalidNumber xN_InvalidNumber xbs_InvalidNumber tlV true xsn_InvalidNumber xsub_InvalidNumber xab_InvalidNumber xcol_InvalidNumber xdd_InvalidNumber xk0_InvalidNumber xk1_InvalidNumber xk2_InvalidNumber xk3_InvalidNumber xk5_InvalidNumber "ValueError.__new__"))
    (xs_InvalidNumber : PySem.W.findIn K (.ref a_C_InvalidNumber) "__setattr__" = some (some (.builtin "object.__setattr__")))
    (xb_InvalidNumber : PySem.W.subIn K (.ref a_C_InvalidNumber) (.type "BaseException") = some true)
    (xt_InvalidNumber : PySem.W.typeIn K (.ref a_C_InvalidNumber) = some (.type "type"))
    (xk_InvalidNumber : PySem.W.keepIn K (.ref a_C_InvalidNumber) = true)
    (xno_InvalidNumber : PySem.W.findIn K (.ref a_C_InvalidNumber) "value" = some none)
    (xl_WrongSize : K.lookup a_C_WrongSize = some (excClassObj xnm_WrongSize xq_WrongSize a_C_WrongSize xN_WrongSize xbs_WrongSize tlV true xsn_WrongSize xsub_WrongSize xab_WrongSize xcol_WrongSize xdd_WrongSize xk0_WrongSize xk1_WrongSize xk2_WrongSize xk3_WrongSize xk5_WrongSize "ValueError.__new__"))
    (xs_WrongSize : PySem.W.findIn K (.ref a_C_WrongSize) "__setattr__" = some (some (.builtin "object.__setattr__")))
    (xb_WrongSize : PySem.W.subIn K (.ref a_C_WrongSize) (.type "BaseException") = some true)
    (xt_WrongSize : PySem.W.typeIn K (.ref a_C_WrongSize) = some (.type "type"))
    (xk_WrongSize : PySem.W.keepIn K (.ref a_C_WrongSize) = true)
    (xl_EmptyJar : K.lookup a_C_EmptyJar = some (excClassObj xnm_EmptyJar xq_EmptyJar a_C_EmptyJar xN_EmptyJar xbs_EmptyJar tlL true xsn_EmptyJar xsub_EmptyJar xab_EmptyJar xcol_EmptyJar xdd_EmptyJar xk0_EmptyJar xk1_EmptyJar xk2_EmptyJar xk3_EmptyJar xk5_EmptyJar "LookupError.__new__"))
    (xs_EmptyJar : PySem.W.findIn K (.ref a_C_EmptyJar) "__setattr__" = some (some (.builtin "object.__setattr__")))
    (xb_EmptyJar : PySem.W.subIn K (.ref a_C_EmptyJar) (.type "BaseException") = some true)
    (xt_EmptyJar : PySem.W.typeIn K (.ref a_C_EmptyJar) = some (.type "type"))
    (xk_EmptyJar : PySem.W.keepIn K (.ref a_C_EmptyJar) = true)
    (xl_InvalidJar : K.lookup a_C_InvalidJar = some (excClassObj xnm_InvalidJar xq_InvalidJar a_C_InvalidJar xN_InvalidJar xbs_InvalidJar tlV true xsn_InvalidJar xsub_InvalidJar xab_InvalidJar xcol_InvalidJar xdd_InvalidJar xk0_InvalidJar xk1_InvalidJar xk2_InvalidJar xk3_InvalidJar xk5_InvalidJar "ValueError.__new__"))
    (xs_InvalidJar : PySem.W.findIn K (.ref a_C_InvalidJar) "__setattr__" = some (some (.builtin "object.__setattr__")))
    (xb_InvalidJar : PySem.W.subIn K (.ref a_C_InvalidJar) (.type "BaseException") = some true)
    (xt_InvalidJar : PySem.W.typeIn K (.ref a_C_InvalidJar) = some (.type "type"))
    (xk_InvalidJar : PySem.W.keepIn K (.ref a_C_InvalidJar) = true)
    (vi_LookupError : PySem.W.findCls K (.type "LookupError") (.type "type") "__init__" = some (.val (.builtin "LookupError.__init__")))
    (vi_RuntimeError : PySem.W.findCls K (.type "RuntimeError") (.type "type") "__init__" = some (.val (.builtin "RuntimeError.__init__")))
    (vi_ValueError : PySem.W.findCls K (.type "ValueError") (.type "type") "__init__" = some (.val (.builtin "ValueError.__init__")))
    (pa_Table_size : PySem.W.findIn K (.ref a_C_Table) "size" = some (some (.ref a_P_Table_size)))
    (pr_Table_size : PySem.W.recIn K a_P_Table_size "property" = some (.ref a_Table_size :: rs_Table_size))
    (pt_Table_size : PySem.W.specialIn K (.ref a_P_Table_size) "__get__" = some (some (.builtin "property.__get__")))
    (pk_Table_size : PySem.W.takesIn K (.ref a_P_Table_size) = some true)
    (pa_Jar_size : PySem.W.findIn K (.ref a_C_Jar) "size" = some (some (.ref a_P_Jar_size)))
    (pr_Jar_size : PySem.W.recIn K a_P_Jar_size "property" = some (.ref a_Jar_size :: rs_Jar_size))
    (pt_Jar_size : PySem.W.specialIn K (.ref a_P_Jar_size) "__get__" = some (some (.builtin "property.__get__")))
    (pk_Jar_size : PySem.W.takesIn K (.ref a_P_Jar_size) = some true)
    (ma_Jar_of_beans : PySem.W.findCls K (.ref a_C_Jar) (.type "type") "of_beans" = some (.get (.builtin "classmethod.__get__") (.ref a_M_Jar_of_beans) .none (.ref a_C_Jar)))
    (mr_Jar_of_beans : PySem.W.recIn K a_M_Jar_of_beans "classmethod" = some (.ref a_Jar_of_beans :: rs_Jar_of_beans))
    (mf_Jar_of_beans : PySem.W.fnIn K a_Jar_of_beans = true)
    (cr1_Jar : PySem.W.readsIn K a_C_Jar (.type "type") = true)
    (cr2_Jar : PySem.W.specialIn K (.ref a_C_Jar) "__getattribute__" = some (some (.builtin "type.__getattribute__")))
    (sf_Jar : PySem.W.selfFirst K a_C_Jar = true)
    (rm_Jar : PySem.W.findIn K (.ref a_C_Jar) "__rmul__" = some none)
    (si_Jar : PySem.W.subIn K (.type "int") (.ref a_C_Jar) = some false)
    (at_law : PySem.W.nsIn K mainGlobals "law" = some (some (.ref a_law)))
    (at__law_pool : PySem.W.nsIn K mainGlobals "_law_pool" = some (some (.ref a__law_pool)))
    (at__law_draw : PySem.W.nsIn K mainGlobals "_law_draw" = some (some (.ref a__law_draw)))
    (at__law_rows : PySem.W.nsIn K mainGlobals "_law_rows" = some (some (.ref a__law_rows)))
    (at_Table_init : PySem.W.findIn K (.ref a_C_Table) "__init__" = some (some (.ref a_Table_init)))
    (at_has_shape : PySem.W.nsIn K mainGlobals "has_shape" = some (some (.ref a_has_shape)))
    (at_InvalidTable_init : PySem.W.findIn K (.ref a_C_InvalidTable) "__init__" = some (some (.ref a_InvalidTable_init)))
    (at_first_wrong_place : PySem.W.nsIn K mainGlobals "first_wrong_place" = some (some (.ref a_first_wrong_place)))
    (at_places : PySem.W.nsIn K mainGlobals "places" = some (some (.ref a_places)))
    (at_is_colour : PySem.W.nsIn K mainGlobals "is_colour" = some (some (.ref a_is_colour)))
    (at_is_integer : PySem.W.nsIn K mainGlobals "is_integer" = some (some (.ref a_is_integer)))
    (at__law_jars : PySem.W.nsIn K mainGlobals "_law_jars" = some (some (.ref a__law_jars)))
    (at__law_last : PySem.W.nsIn K mainGlobals "_law_last" = some (some (.ref a__law_last)))
    (at_count_jars : PySem.W.nsIn K mainGlobals "count_jars" = some (some (.ref a_count_jars)))
    (at_validate_passes : PySem.W.nsIn K mainGlobals "validate_passes" = some (some (.ref a_validate_passes)))
    (at_first_dispute : PySem.W.nsIn K mainGlobals "first_dispute" = some (some (.ref a_first_dispute)))
    (at_is_disputed : PySem.W.nsIn K mainGlobals "is_disputed" = some (some (.ref a_is_disputed)))
    (at_Table_getitem : PySem.W.findIn K (.ref a_C_Table) "__getitem__" = some (some (.ref a_Table_getitem)))
    (at_InvalidColour_init : PySem.W.findIn K (.ref a_C_InvalidColour) "__init__" = some (some (.ref a_InvalidColour_init)))
    (at_Table_validate_colour : PySem.W.findIn K (.ref a_C_Table) "validate_colour" = some (some (.ref a_Table_validate_colour)))
    (at_Disputed_init : PySem.W.findIn K (.ref a_C_Disputed) "__init__" = some (some (.ref a_Disputed_init)))
    (at_InvalidNumber_init : PySem.W.findIn K (.ref a_C_InvalidNumber) "__init__" = some (some (.ref a_InvalidNumber_init)))
    (at_product : PySem.W.nsIn K mainGlobals "product" = some (some (.ref a_product)))
    (at__law_check_powers : PySem.W.nsIn K mainGlobals "_law_check_powers" = some (some (.ref a__law_check_powers)))
    (at_powers : PySem.W.nsIn K mainGlobals "powers" = some (some (.ref a_powers)))
    (at_last_bean : PySem.W.nsIn K mainGlobals "last_bean" = some (some (.ref a_last_bean)))
    (at_validate_beans : PySem.W.nsIn K mainGlobals "validate_beans" = some (some (.ref a_validate_beans)))
    (at_Jar_validate_size : PySem.W.findIn K (.ref a_C_Jar) "validate_size" = some (some (.ref a_Jar_validate_size)))
    (at_WrongSize_init : PySem.W.findIn K (.ref a_C_WrongSize) "__init__" = some (some (.ref a_WrongSize_init)))
    (at_Jar_bool : PySem.W.findIn K (.ref a_C_Jar) "__bool__" = some (some (.ref a_Jar_bool)))
    (at_EmptyJar_init : PySem.W.findIn K (.ref a_C_EmptyJar) "__init__" = some (some (.ref a_EmptyJar_init)))
    (at_Jar_colours : PySem.W.findIn K (.ref a_C_Jar) "colours" = some (some (.ref a_Jar_colours)))
    (at_times : PySem.W.nsIn K mainGlobals "times" = some (some (.ref a_times)))
    (at_Jar_getitem : PySem.W.findIn K (.ref a_C_Jar) "__getitem__" = some (some (.ref a_Jar_getitem)))
    (at_Jar_init : PySem.W.findIn K (.ref a_C_Jar) "__init__" = some (some (.ref a_Jar_init)))
    (at_are_counts : PySem.W.nsIn K mainGlobals "are_counts" = some (some (.ref a_are_counts)))
    (at_InvalidJar_init : PySem.W.findIn K (.ref a_C_InvalidJar) "__init__" = some (some (.ref a_InvalidJar_init)))
    (at_Jar_mul : PySem.W.findIn K (.ref a_C_Jar) "__mul__" = some (some (.ref a_Jar_mul)))
    (at__law_choices : PySem.W.nsIn K mainGlobals "_law_choices" = some (some (.ref a__law_choices)))
    (xi_InvalidTable : PySem.W.typeIn K (.ref a_InvalidTable_init) = some (.type "function"))
    (xi_InvalidColour : PySem.W.typeIn K (.ref a_InvalidColour_init) = some (.type "function"))
    (xi_Disputed : PySem.W.typeIn K (.ref a_Disputed_init) = some (.type "function"))
    (xi_InvalidNumber : PySem.W.typeIn K (.ref a_InvalidNumber_init) = some (.type "function"))
    (xi_WrongSize : PySem.W.typeIn K (.ref a_WrongSize_init) = some (.type "function"))
    (xi_EmptyJar : PySem.W.typeIn K (.ref a_EmptyJar_init) = some (.type "function"))
    (xi_InvalidJar : PySem.W.typeIn K (.ref a_InvalidJar_init) = some (.type "function"))
    (l_law : K.lookup a_law = some ⟨oc_law, od_law, .func (PySem.W.fnOf "law" "law" (defArgs s_law) (defBody s_law) (defScope s_law) .none kV_law dc_law pm_law an_law cd_law ct_law), sl_law⟩)
    (c_law : PySem.W.codeIn K cd_law "law" = true)
    (k_law : PySem.W.keepIn K (.ref a_law) = true)
    (l__law_pool : K.lookup a__law_pool = some ⟨oc__law_pool, od__law_pool, .func (PySem.W.fnOf "_law_pool" "_law_pool" (defArgs s__law_pool) (defBody s__law_pool) (defScope s__law_pool) .none kV__law_pool dc__law_pool pm__law_pool an__law_pool cd__law_pool ct__law_pool), sl__law_pool⟩)
    (c__law_pool : PySem.W.codeIn K cd__law_pool "_law_pool" = true)
    (k__law_pool : PySem.W.keepIn K (.ref a__law_pool) = true)
    (l__law_draw : K.lookup a__law_draw = some ⟨oc__law_draw, od__law_draw, .func (PySem.W.fnOf "_law_draw" "_law_draw" (defArgs s__law_draw) (defBody s__law_draw) (defScope s__law_draw) .none kV__law_draw dc__law_draw pm__law_draw an__law_draw cd__law_draw ct__law_draw), sl__law_draw⟩)
    (c__law_draw : PySem.W.codeIn K cd__law_draw "_law_draw" = true)
    (k__law_draw : PySem.W.keepIn K (.ref a__law_draw) = true)
    (l__law_rows : K.lookup a__law_rows = some ⟨oc__law_rows, od__law_rows, .func (PySem.W.fnOf "_law_rows" "_law_rows" (defArgs s__law_rows) (defBody s__law_rows) (defScope s__law_rows) .none kV__law_rows dc__law_rows pm__law_rows an__law_rows cd__law_rows ct__law_rows), sl__law_rows⟩)
    (c__law_rows : PySem.W.codeIn K cd__law_rows "_law_rows" = true)
    (k__law_rows : PySem.W.keepIn K (.ref a__law_rows) = true)
    (l_Table_init : K.lookup a_Table_init = some ⟨oc_Table_init, od_Table_init, .func (PySem.W.fnOf "__init__" "Table.__init__" (defArgs s_Table_init) (defBody s_Table_init) (defScope s_Table_init) .none kV_Table_init dc_Table_init pm_Table_init an_Table_init cd_Table_init ct_Table_init), sl_Table_init⟩)
    (c_Table_init : PySem.W.codeIn K cd_Table_init "Table.__init__" = true)
    (k_Table_init : PySem.W.keepIn K (.ref a_Table_init) = true)
    (l_has_shape : K.lookup a_has_shape = some ⟨oc_has_shape, od_has_shape, .func (PySem.W.fnOf "has_shape" "has_shape" (defArgs s_has_shape) (defBody s_has_shape) (defScope s_has_shape) .none kV_has_shape dc_has_shape pm_has_shape an_has_shape cd_has_shape ct_has_shape), sl_has_shape⟩)
    (c_has_shape : PySem.W.codeIn K cd_has_shape "has_shape" = true)
    (k_has_shape : PySem.W.keepIn K (.ref a_has_shape) = true)
    (l_InvalidTable_init : K.lookup a_InvalidTable_init = some ⟨oc_InvalidTable_init, od_InvalidTable_init, .func (PySem.W.fnOf "__init__" "InvalidTable.__init__" (defArgs s_InvalidTable_init) (defBody s_InvalidTable_init) (defScope s_InvalidTable_init) .none kV_InvalidTable_init dc_InvalidTable_init pm_InvalidTable_init an_InvalidTable_init cd_InvalidTable_init ct_InvalidTable_init), sl_InvalidTable_init⟩)
    (c_InvalidTable_init : PySem.W.codeIn K cd_InvalidTable_init "InvalidTable.__init__" = true)
    (k_InvalidTable_init : PySem.W.keepIn K (.ref a_InvalidTable_init) = true)
    (l_first_wrong_place : K.lookup a_first_wrong_place = some ⟨oc_first_wrong_place, od_first_wrong_place, .func (PySem.W.fnOf "first_wrong_place" "first_wrong_place" (defArgs s_first_wrong_place) (defBody s_first_wrong_place) (defScope s_first_wrong_place) .none kV_first_wrong_place dc_first_wrong_place pm_first_wrong_place an_first_wrong_place cd_first_wrong_place ct_first_wrong_place), sl_first_wrong_place⟩)
    (c_first_wrong_place : PySem.W.codeIn K cd_first_wrong_place "first_wrong_place" = true)
    (k_first_wrong_place : PySem.W.keepIn K (.ref a_first_wrong_place) = true)
    (l_places : K.lookup a_places = some ⟨oc_places, od_places, .func (PySem.W.fnOf "places" "places" (defArgs s_places) (defBody s_places) (defScope s_places) .none kV_places dc_places pm_places an_places cd_places ct_places), sl_places⟩)
    (c_places : PySem.W.codeIn K cd_places "places" = true)
    (k_places : PySem.W.keepIn K (.ref a_places) = true)
    (l_is_colour : K.lookup a_is_colour = some ⟨oc_is_colour, od_is_colour, .func (PySem.W.fnOf "is_colour" "is_colour" (defArgs s_is_colour) (defBody s_is_colour) (defScope s_is_colour) .none kV_is_colour dc_is_colour pm_is_colour an_is_colour cd_is_colour ct_is_colour), sl_is_colour⟩)
    (c_is_colour : PySem.W.codeIn K cd_is_colour "is_colour" = true)
    (k_is_colour : PySem.W.keepIn K (.ref a_is_colour) = true)
    (l_is_integer : K.lookup a_is_integer = some ⟨oc_is_integer, od_is_integer, .func (PySem.W.fnOf "is_integer" "is_integer" (defArgs s_is_integer) (defBody s_is_integer) (defScope s_is_integer) .none kV_is_integer dc_is_integer pm_is_integer an_is_integer cd_is_integer ct_is_integer), sl_is_integer⟩)
    (c_is_integer : PySem.W.codeIn K cd_is_integer "is_integer" = true)
    (k_is_integer : PySem.W.keepIn K (.ref a_is_integer) = true)
    (l__law_jars : K.lookup a__law_jars = some ⟨oc__law_jars, od__law_jars, .func (PySem.W.fnOf "_law_jars" "_law_jars" (defArgs s__law_jars) (defBody s__law_jars) (defScope s__law_jars) .none kV__law_jars dc__law_jars pm__law_jars an__law_jars cd__law_jars ct__law_jars), sl__law_jars⟩)
    (c__law_jars : PySem.W.codeIn K cd__law_jars "_law_jars" = true)
    (k__law_jars : PySem.W.keepIn K (.ref a__law_jars) = true)
    (l__law_last : K.lookup a__law_last = some ⟨oc__law_last, od__law_last, .func (PySem.W.fnOf "_law_last" "_law_last" (defArgs s__law_last) (defBody s__law_last) (defScope s__law_last) .none kV__law_last dc__law_last pm__law_last an__law_last cd__law_last ct__law_last), sl__law_last⟩)
    (c__law_last : PySem.W.codeIn K cd__law_last "_law_last" = true)
    (k__law_last : PySem.W.keepIn K (.ref a__law_last) = true)
    (l_count_jars : K.lookup a_count_jars = some ⟨oc_count_jars, od_count_jars, .func (PySem.W.fnOf "count_jars" "count_jars" (defArgs s_count_jars) (defBody s_count_jars) (defScope s_count_jars) .none kV_count_jars dc_count_jars pm_count_jars an_count_jars cd_count_jars ct_count_jars), sl_count_jars⟩)
    (c_count_jars : PySem.W.codeIn K cd_count_jars "count_jars" = true)
    (k_count_jars : PySem.W.keepIn K (.ref a_count_jars) = true)
    (l_validate_passes : K.lookup a_validate_passes = some ⟨oc_validate_passes, od_validate_passes, .func (PySem.W.fnOf "validate_passes" "validate_passes" (defArgs s_validate_passes) (defBody s_validate_passes) (defScope s_validate_passes) .none kV_validate_passes dc_validate_passes pm_validate_passes an_validate_passes cd_validate_passes ct_validate_passes), sl_validate_passes⟩)
    (c_validate_passes : PySem.W.codeIn K cd_validate_passes "validate_passes" = true)
    (k_validate_passes : PySem.W.keepIn K (.ref a_validate_passes) = true)
    (l_first_dispute : K.lookup a_first_dispute = some ⟨oc_first_dispute, od_first_dispute, .func (PySem.W.fnOf "first_dispute" "first_dispute" (defArgs s_first_dispute) (defBody s_first_dispute) (defScope s_first_dispute) .none kV_first_dispute dc_first_dispute pm_first_dispute an_first_dispute cd_first_dispute ct_first_dispute), sl_first_dispute⟩)
    (c_first_dispute : PySem.W.codeIn K cd_first_dispute "first_dispute" = true)
    (k_first_dispute : PySem.W.keepIn K (.ref a_first_dispute) = true)
    (l_Table_size : K.lookup a_Table_size = some ⟨oc_Table_size, od_Table_size, .func (PySem.W.fnOf "size" "Table.size" (defArgs s_Table_size) (defBody s_Table_size) (defScope s_Table_size) .none kV_Table_size dc_Table_size pm_Table_size an_Table_size cd_Table_size ct_Table_size), sl_Table_size⟩)
    (c_Table_size : PySem.W.codeIn K cd_Table_size "Table.size" = true)
    (k_Table_size : PySem.W.keepIn K (.ref a_Table_size) = true)
    (l_is_disputed : K.lookup a_is_disputed = some ⟨oc_is_disputed, od_is_disputed, .func (PySem.W.fnOf "is_disputed" "is_disputed" (defArgs s_is_disputed) (defBody s_is_disputed) (defScope s_is_disputed) .none kV_is_disputed dc_is_disputed pm_is_disputed an_is_disputed cd_is_disputed ct_is_disputed), sl_is_disputed⟩)
    (c_is_disputed : PySem.W.codeIn K cd_is_disputed "is_disputed" = true)
    (k_is_disputed : PySem.W.keepIn K (.ref a_is_disputed) = true)
    (l_Table_getitem : K.lookup a_Table_getitem = some ⟨oc_Table_getitem, od_Table_getitem, .func (PySem.W.fnOf "__getitem__" "Table.__getitem__" (defArgs s_Table_getitem) (defBody s_Table_getitem) (defScope s_Table_getitem) .none kV_Table_getitem dc_Table_getitem pm_Table_getitem an_Table_getitem cd_Table_getitem ct_Table_getitem), sl_Table_getitem⟩)
    (c_Table_getitem : PySem.W.codeIn K cd_Table_getitem "Table.__getitem__" = true)
    (k_Table_getitem : PySem.W.keepIn K (.ref a_Table_getitem) = true)
    (l_InvalidColour_init : K.lookup a_InvalidColour_init = some ⟨oc_InvalidColour_init, od_InvalidColour_init, .func (PySem.W.fnOf "__init__" "InvalidColour.__init__" (defArgs s_InvalidColour_init) (defBody s_InvalidColour_init) (defScope s_InvalidColour_init) .none kV_InvalidColour_init dc_InvalidColour_init pm_InvalidColour_init an_InvalidColour_init cd_InvalidColour_init ct_InvalidColour_init), sl_InvalidColour_init⟩)
    (c_InvalidColour_init : PySem.W.codeIn K cd_InvalidColour_init "InvalidColour.__init__" = true)
    (k_InvalidColour_init : PySem.W.keepIn K (.ref a_InvalidColour_init) = true)
    (l_Table_validate_colour : K.lookup a_Table_validate_colour = some ⟨oc_Table_validate_colour, od_Table_validate_colour, .func (PySem.W.fnOf "validate_colour" "Table.validate_colour" (defArgs s_Table_validate_colour) (defBody s_Table_validate_colour) (defScope s_Table_validate_colour) .none kV_Table_validate_colour dc_Table_validate_colour pm_Table_validate_colour an_Table_validate_colour cd_Table_validate_colour ct_Table_validate_colour), sl_Table_validate_colour⟩)
    (c_Table_validate_colour : PySem.W.codeIn K cd_Table_validate_colour "Table.validate_colour" = true)
    (k_Table_validate_colour : PySem.W.keepIn K (.ref a_Table_validate_colour) = true)
    (l_Disputed_init : K.lookup a_Disputed_init = some ⟨oc_Disputed_init, od_Disputed_init, .func (PySem.W.fnOf "__init__" "Disputed.__init__" (defArgs s_Disputed_init) (defBody s_Disputed_init) (defScope s_Disputed_init) .none kV_Disputed_init dc_Disputed_init pm_Disputed_init an_Disputed_init cd_Disputed_init ct_Disputed_init), sl_Disputed_init⟩)
    (c_Disputed_init : PySem.W.codeIn K cd_Disputed_init "Disputed.__init__" = true)
    (k_Disputed_init : PySem.W.keepIn K (.ref a_Disputed_init) = true)
    (l_InvalidNumber_init : K.lookup a_InvalidNumber_init = some ⟨oc_InvalidNumber_init, od_InvalidNumber_init, .func (PySem.W.fnOf "__init__" "InvalidNumber.__init__" (defArgs s_InvalidNumber_init) (defBody s_InvalidNumber_init) (defScope s_InvalidNumber_init) .none kV_InvalidNumber_init dc_InvalidNumber_init pm_InvalidNumber_init an_InvalidNumber_init cd_InvalidNumber_init ct_InvalidNumber_init), sl_InvalidNumber_init⟩)
    (c_InvalidNumber_init : PySem.W.codeIn K cd_InvalidNumber_init "InvalidNumber.__init__" = true)
    (k_InvalidNumber_init : PySem.W.keepIn K (.ref a_InvalidNumber_init) = true)
    (l_product : K.lookup a_product = some ⟨oc_product, od_product, .func (PySem.W.fnOf "product" "product" (defArgs s_product) (defBody s_product) (defScope s_product) .none kV_product dc_product pm_product an_product cd_product ct_product), sl_product⟩)
    (c_product : PySem.W.codeIn K cd_product "product" = true)
    (k_product : PySem.W.keepIn K (.ref a_product) = true)
    (l__law_check_powers : K.lookup a__law_check_powers = some ⟨oc__law_check_powers, od__law_check_powers, .func (PySem.W.fnOf "_law_check_powers" "_law_check_powers" (defArgs s__law_check_powers) (defBody s__law_check_powers) (defScope s__law_check_powers) .none kV__law_check_powers dc__law_check_powers pm__law_check_powers an__law_check_powers cd__law_check_powers ct__law_check_powers), sl__law_check_powers⟩)
    (c__law_check_powers : PySem.W.codeIn K cd__law_check_powers "_law_check_powers" = true)
    (k__law_check_powers : PySem.W.keepIn K (.ref a__law_check_powers) = true)
    (l_powers : K.lookup a_powers = some ⟨oc_powers, od_powers, .func (PySem.W.fnOf "powers" "powers" (defArgs s_powers) (defBody s_powers) (defScope s_powers) .none kV_powers dc_powers pm_powers an_powers cd_powers ct_powers), sl_powers⟩)
    (c_powers : PySem.W.codeIn K cd_powers "powers" = true)
    (k_powers : PySem.W.keepIn K (.ref a_powers) = true)
    (l_last_bean : K.lookup a_last_bean = some ⟨oc_last_bean, od_last_bean, .func (PySem.W.fnOf "last_bean" "last_bean" (defArgs s_last_bean) (defBody s_last_bean) (defScope s_last_bean) .none kV_last_bean dc_last_bean pm_last_bean an_last_bean cd_last_bean ct_last_bean), sl_last_bean⟩)
    (c_last_bean : PySem.W.codeIn K cd_last_bean "last_bean" = true)
    (k_last_bean : PySem.W.keepIn K (.ref a_last_bean) = true)
    (l_validate_beans : K.lookup a_validate_beans = some ⟨oc_validate_beans, od_validate_beans, .func (PySem.W.fnOf "validate_beans" "validate_beans" (defArgs s_validate_beans) (defBody s_validate_beans) (defScope s_validate_beans) .none kV_validate_beans dc_validate_beans pm_validate_beans an_validate_beans cd_validate_beans ct_validate_beans), sl_validate_beans⟩)
    (c_validate_beans : PySem.W.codeIn K cd_validate_beans "validate_beans" = true)
    (k_validate_beans : PySem.W.keepIn K (.ref a_validate_beans) = true)
    (l_Jar_validate_size : K.lookup a_Jar_validate_size = some ⟨oc_Jar_validate_size, od_Jar_validate_size, .func (PySem.W.fnOf "validate_size" "Jar.validate_size" (defArgs s_Jar_validate_size) (defBody s_Jar_validate_size) (defScope s_Jar_validate_size) .none kV_Jar_validate_size dc_Jar_validate_size pm_Jar_validate_size an_Jar_validate_size cd_Jar_validate_size ct_Jar_validate_size), sl_Jar_validate_size⟩)
    (c_Jar_validate_size : PySem.W.codeIn K cd_Jar_validate_size "Jar.validate_size" = true)
    (k_Jar_validate_size : PySem.W.keepIn K (.ref a_Jar_validate_size) = true)
    (l_Jar_size : K.lookup a_Jar_size = some ⟨oc_Jar_size, od_Jar_size, .func (PySem.W.fnOf "size" "Jar.size" (defArgs s_Jar_size) (defBody s_Jar_size) (defScope s_Jar_size) .none kV_Jar_size dc_Jar_size pm_Jar_size an_Jar_size cd_Jar_size ct_Jar_size), sl_Jar_size⟩)
    (c_Jar_size : PySem.W.codeIn K cd_Jar_size "Jar.size" = true)
    (k_Jar_size : PySem.W.keepIn K (.ref a_Jar_size) = true)
    (l_WrongSize_init : K.lookup a_WrongSize_init = some ⟨oc_WrongSize_init, od_WrongSize_init, .func (PySem.W.fnOf "__init__" "WrongSize.__init__" (defArgs s_WrongSize_init) (defBody s_WrongSize_init) (defScope s_WrongSize_init) .none kV_WrongSize_init dc_WrongSize_init pm_WrongSize_init an_WrongSize_init cd_WrongSize_init ct_WrongSize_init), sl_WrongSize_init⟩)
    (c_WrongSize_init : PySem.W.codeIn K cd_WrongSize_init "WrongSize.__init__" = true)
    (k_WrongSize_init : PySem.W.keepIn K (.ref a_WrongSize_init) = true)
    (l_Jar_bool : K.lookup a_Jar_bool = some ⟨oc_Jar_bool, od_Jar_bool, .func (PySem.W.fnOf "__bool__" "Jar.__bool__" (defArgs s_Jar_bool) (defBody s_Jar_bool) (defScope s_Jar_bool) .none kV_Jar_bool dc_Jar_bool pm_Jar_bool an_Jar_bool cd_Jar_bool ct_Jar_bool), sl_Jar_bool⟩)
    (c_Jar_bool : PySem.W.codeIn K cd_Jar_bool "Jar.__bool__" = true)
    (k_Jar_bool : PySem.W.keepIn K (.ref a_Jar_bool) = true)
    (l_EmptyJar_init : K.lookup a_EmptyJar_init = some ⟨oc_EmptyJar_init, od_EmptyJar_init, .func (PySem.W.fnOf "__init__" "EmptyJar.__init__" (defArgs s_EmptyJar_init) (defBody s_EmptyJar_init) (defScope s_EmptyJar_init) .none kV_EmptyJar_init dc_EmptyJar_init pm_EmptyJar_init an_EmptyJar_init cd_EmptyJar_init ct_EmptyJar_init), sl_EmptyJar_init⟩)
    (c_EmptyJar_init : PySem.W.codeIn K cd_EmptyJar_init "EmptyJar.__init__" = true)
    (k_EmptyJar_init : PySem.W.keepIn K (.ref a_EmptyJar_init) = true)
    (l_Jar_colours : K.lookup a_Jar_colours = some ⟨oc_Jar_colours, od_Jar_colours, .func (PySem.W.fnOf "colours" "Jar.colours" (defArgs s_Jar_colours) (defBody s_Jar_colours) (defScope s_Jar_colours) .none kV_Jar_colours dc_Jar_colours pm_Jar_colours an_Jar_colours cd_Jar_colours ct_Jar_colours), sl_Jar_colours⟩)
    (c_Jar_colours : PySem.W.codeIn K cd_Jar_colours "Jar.colours" = true)
    (k_Jar_colours : PySem.W.keepIn K (.ref a_Jar_colours) = true)
    (l_times : K.lookup a_times = some ⟨oc_times, od_times, .func (PySem.W.fnOf "times" "times" (defArgs s_times) (defBody s_times) (defScope s_times) .none kV_times dc_times pm_times an_times cd_times ct_times), sl_times⟩)
    (c_times : PySem.W.codeIn K cd_times "times" = true)
    (k_times : PySem.W.keepIn K (.ref a_times) = true)
    (l_Jar_getitem : K.lookup a_Jar_getitem = some ⟨oc_Jar_getitem, od_Jar_getitem, .func (PySem.W.fnOf "__getitem__" "Jar.__getitem__" (defArgs s_Jar_getitem) (defBody s_Jar_getitem) (defScope s_Jar_getitem) .none kV_Jar_getitem dc_Jar_getitem pm_Jar_getitem an_Jar_getitem cd_Jar_getitem ct_Jar_getitem), sl_Jar_getitem⟩)
    (c_Jar_getitem : PySem.W.codeIn K cd_Jar_getitem "Jar.__getitem__" = true)
    (k_Jar_getitem : PySem.W.keepIn K (.ref a_Jar_getitem) = true)
    (l_Jar_of_beans : K.lookup a_Jar_of_beans = some ⟨oc_Jar_of_beans, od_Jar_of_beans, .func (PySem.W.fnOf "of_beans" "Jar.of_beans" (defArgs s_Jar_of_beans) (defBody s_Jar_of_beans) (defScope s_Jar_of_beans) .none kV_Jar_of_beans dc_Jar_of_beans pm_Jar_of_beans an_Jar_of_beans cd_Jar_of_beans ct_Jar_of_beans), sl_Jar_of_beans⟩)
    (c_Jar_of_beans : PySem.W.codeIn K cd_Jar_of_beans "Jar.of_beans" = true)
    (k_Jar_of_beans : PySem.W.keepIn K (.ref a_Jar_of_beans) = true)
    (l_Jar_init : K.lookup a_Jar_init = some ⟨oc_Jar_init, od_Jar_init, .func (PySem.W.fnOf "__init__" "Jar.__init__" (defArgs s_Jar_init) (defBody s_Jar_init) (defScope s_Jar_init) .none kV_Jar_init dc_Jar_init pm_Jar_init an_Jar_init cd_Jar_init ct_Jar_init), sl_Jar_init⟩)
    (c_Jar_init : PySem.W.codeIn K cd_Jar_init "Jar.__init__" = true)
    (k_Jar_init : PySem.W.keepIn K (.ref a_Jar_init) = true)
    (l_are_counts : K.lookup a_are_counts = some ⟨oc_are_counts, od_are_counts, .func (PySem.W.fnOf "are_counts" "are_counts" (defArgs s_are_counts) (defBody s_are_counts) (defScope s_are_counts) .none kV_are_counts dc_are_counts pm_are_counts an_are_counts cd_are_counts ct_are_counts), sl_are_counts⟩)
    (c_are_counts : PySem.W.codeIn K cd_are_counts "are_counts" = true)
    (k_are_counts : PySem.W.keepIn K (.ref a_are_counts) = true)
    (l_InvalidJar_init : K.lookup a_InvalidJar_init = some ⟨oc_InvalidJar_init, od_InvalidJar_init, .func (PySem.W.fnOf "__init__" "InvalidJar.__init__" (defArgs s_InvalidJar_init) (defBody s_InvalidJar_init) (defScope s_InvalidJar_init) .none kV_InvalidJar_init dc_InvalidJar_init pm_InvalidJar_init an_InvalidJar_init cd_InvalidJar_init ct_InvalidJar_init), sl_InvalidJar_init⟩)
    (c_InvalidJar_init : PySem.W.codeIn K cd_InvalidJar_init "InvalidJar.__init__" = true)
    (k_InvalidJar_init : PySem.W.keepIn K (.ref a_InvalidJar_init) = true)
    (l_Jar_mul : K.lookup a_Jar_mul = some ⟨oc_Jar_mul, od_Jar_mul, .func (PySem.W.fnOf "__mul__" "Jar.__mul__" (defArgs s_Jar_mul) (defBody s_Jar_mul) (defScope s_Jar_mul) .none kV_Jar_mul dc_Jar_mul pm_Jar_mul an_Jar_mul cd_Jar_mul ct_Jar_mul), sl_Jar_mul⟩)
    (c_Jar_mul : PySem.W.codeIn K cd_Jar_mul "Jar.__mul__" = true)
    (k_Jar_mul : PySem.W.keepIn K (.ref a_Jar_mul) = true)
    (l__law_choices : K.lookup a__law_choices = some ⟨oc__law_choices, od__law_choices, .func (PySem.W.fnOf "_law_choices" "_law_choices" (defArgs s__law_choices) (defBody s__law_choices) (defScope s__law_choices) .none kV__law_choices dc__law_choices pm__law_choices an__law_choices cd__law_choices ct__law_choices), sl__law_choices⟩)
    (c__law_choices : PySem.W.codeIn K cd__law_choices "_law_choices" = true)
    (k__law_choices : PySem.W.keepIn K (.ref a__law_choices) = true)
    (na_Table_own_rows : PySem.W.findIn K (.ref a_C_Table) "own_rows" = some none)
    (na_Jar_own_counts : PySem.W.findIn K (.ref a_C_Jar) "own_counts" = some none)
    (f_Table_validate_colour : PySem.W.isFn K (.ref a_Table_validate_colour) = true)
    (f_Table_getitem : PySem.W.isFn K (.ref a_Table_getitem) = true)
    (fi_Table_getitem : PySem.W.fnIn K a_Table_getitem = true)
    (f_Jar_validate_size : PySem.W.isFn K (.ref a_Jar_validate_size) = true)
    (f_Jar_bool : PySem.W.isFn K (.ref a_Jar_bool) = true)
    (f_Jar_colours : PySem.W.isFn K (.ref a_Jar_colours) = true)
    (f_Jar_getitem : PySem.W.isFn K (.ref a_Jar_getitem) = true)
    (fi_Jar_getitem : PySem.W.fnIn K a_Jar_getitem = true)
    (f_Jar_mul : PySem.W.isFn K (.ref a_Jar_mul) = true)
    (mk_Table : PySem.W.makesIn K a_C_Table = true)
    (if_Table : PySem.W.isFn K (.ref a_Table_init) = true)
    (kc_Table : PySem.W.keepIn K (.ref a_C_Table) = true)
    (mk_Jar : PySem.W.makesIn K a_C_Jar = true)
    (if_Jar : PySem.W.isFn K (.ref a_Jar_init) = true)
    (kc_Jar : PySem.W.keepIn K (.ref a_C_Jar) = true)
    (n_len : PySem.W.nsIn K mainGlobals "len" = some none)
    (n_min : PySem.W.nsIn K mainGlobals "min" = some none)
    (n_max : PySem.W.nsIn K mainGlobals "max" = some none)
    (n_range : PySem.W.nsIn K mainGlobals "range" = some none)
    (n_isinstance : PySem.W.nsIn K mainGlobals "isinstance" = some none)
    (n_list : PySem.W.nsIn K mainGlobals "list" = some none)
    (n_tuple : PySem.W.nsIn K mainGlobals "tuple" = some none)
    (n_all : PySem.W.nsIn K mainGlobals "all" = some none)
    (n_ValueError : PySem.W.nsIn K mainGlobals "ValueError" = some none)
    (n_int : PySem.W.nsIn K mainGlobals "int" = some none)
    (n_bool : PySem.W.nsIn K mainGlobals "bool" = some none)
    (n_sum : PySem.W.nsIn K mainGlobals "sum" = some none)
    (n_RuntimeError : PySem.W.nsIn K mainGlobals "RuntimeError" = some none)
    (n_LookupError : PySem.W.nsIn K mainGlobals "LookupError" = some none)
    (n_enumerate : PySem.W.nsIn K mainGlobals "enumerate" = some none)
    (n_SetProducts : PySem.W.nsIn K mainGlobals "SetProducts" = some none)
    (n_Forest : PySem.W.nsIn K mainGlobals "Forest" = some none)
    (n_OpenRules : PySem.W.nsIn K mainGlobals "OpenRules" = some none)
    (n_Game : PySem.W.nsIn K mainGlobals "Game" = some none)
    (n_Session : PySem.W.nsIn K mainGlobals "Session" = some none)
    (n_Console : PySem.W.nsIn K mainGlobals "Console" = some none)
    (c_MAX_COLOURS : PySem.W.nsIn K mainGlobals "MAX_COLOURS" = some (some (.int 8 t_MAX_COLOURS)))
    (c_MAX_TOTAL : PySem.W.nsIn K mainGlobals "MAX_TOTAL" = some (some (.int 40 t_MAX_TOTAL)))
    (i1_Table : PySem.W.findIn K (.ref a_C_Table) "__class__" = some (some (.builtin "object.__class__")))
    (i4_Table : PySem.W.mroIn K a_C_Table (.type "object") = some true)
    (i8_Table : PySem.W.findIn K (.ref a_C_Table) "__ne__" = some (some (.builtin "object.__ne__")))
    (i9_Table : PySem.W.subIn K (.ref a_C_Table) (.type "object") = some true)
    (ic_Table : PySem.W.isClsIn K a_C_Table = true)
    (it_Table : PySem.W.typeIn K (.ref a_C_Table) = some (.type "type"))
    (u1_Table_NoneType : PySem.W.subIn K (.ref a_C_Table) (.type "NoneType") = some false)
    (u2_Table_NoneType : PySem.W.subIn K (.type "NoneType") (.ref a_C_Table) = some false)
    (u1_Table_bool : PySem.W.subIn K (.ref a_C_Table) (.type "bool") = some false)
    (u2_Table_bool : PySem.W.subIn K (.type "bool") (.ref a_C_Table) = some false)
    (u1_Table_int : PySem.W.subIn K (.ref a_C_Table) (.type "int") = some false)
    (u2_Table_int : PySem.W.subIn K (.type "int") (.ref a_C_Table) = some false)
    (u1_Table_str : PySem.W.subIn K (.ref a_C_Table) (.type "str") = some false)
    (u2_Table_str : PySem.W.subIn K (.type "str") (.ref a_C_Table) = some false)
    (u1_Table_list : PySem.W.subIn K (.ref a_C_Table) (.type "list") = some false)
    (u2_Table_list : PySem.W.subIn K (.type "list") (.ref a_C_Table) = some false)
    (u1_Table_tuple : PySem.W.subIn K (.ref a_C_Table) (.type "tuple") = some false)
    (u2_Table_tuple : PySem.W.subIn K (.type "tuple") (.ref a_C_Table) = some false)
    (u1_Table_dict : PySem.W.subIn K (.ref a_C_Table) (.type "dict") = some false)
    (u2_Table_dict : PySem.W.subIn K (.type "dict") (.ref a_C_Table) = some false)
    (i1_Jar : PySem.W.findIn K (.ref a_C_Jar) "__class__" = some (some (.builtin "object.__class__")))
    (i4_Jar : PySem.W.mroIn K a_C_Jar (.type "object") = some true)
    (i8_Jar : PySem.W.findIn K (.ref a_C_Jar) "__ne__" = some (some (.builtin "object.__ne__")))
    (i9_Jar : PySem.W.subIn K (.ref a_C_Jar) (.type "object") = some true)
    (ic_Jar : PySem.W.isClsIn K a_C_Jar = true)
    (it_Jar : PySem.W.typeIn K (.ref a_C_Jar) = some (.type "type"))
    (u1_Jar_NoneType : PySem.W.subIn K (.ref a_C_Jar) (.type "NoneType") = some false)
    (u2_Jar_NoneType : PySem.W.subIn K (.type "NoneType") (.ref a_C_Jar) = some false)
    (u1_Jar_bool : PySem.W.subIn K (.ref a_C_Jar) (.type "bool") = some false)
    (u2_Jar_bool : PySem.W.subIn K (.type "bool") (.ref a_C_Jar) = some false)
    (u1_Jar_int : PySem.W.subIn K (.ref a_C_Jar) (.type "int") = some false)
    (u2_Jar_int : PySem.W.subIn K (.type "int") (.ref a_C_Jar) = some false)
    (u1_Jar_str : PySem.W.subIn K (.ref a_C_Jar) (.type "str") = some false)
    (u2_Jar_str : PySem.W.subIn K (.type "str") (.ref a_C_Jar) = some false)
    (u1_Jar_list : PySem.W.subIn K (.ref a_C_Jar) (.type "list") = some false)
    (u2_Jar_list : PySem.W.subIn K (.type "list") (.ref a_C_Jar) = some false)
    (u1_Jar_tuple : PySem.W.subIn K (.ref a_C_Jar) (.type "tuple") = some false)
    (u2_Jar_tuple : PySem.W.subIn K (.type "tuple") (.ref a_C_Jar) = some false)
    (u1_Jar_dict : PySem.W.subIn K (.ref a_C_Jar) (.type "dict") = some false)
    (u2_Jar_dict : PySem.W.subIn K (.type "dict") (.ref a_C_Jar) = some false)
    (j1 : PySem.W.specialIn K (.builtin "object.__class__") "__get__" = some (some (.builtin "getset_descriptor.__get__")))
    (j2 : PySem.W.takesIn K (.builtin "object.__class__") = some true)
    (t1_Table_Jar : PySem.W.subIn K (.ref a_C_Table) (.ref a_C_Jar) = some false)
    (t2_Table_Jar : (Value.ref a_C_Table == Value.ref a_C_Jar) = false)
    (t1_Jar_Table : PySem.W.subIn K (.ref a_C_Jar) (.ref a_C_Table) = some false)
    (t2_Jar_Table : (Value.ref a_C_Jar == Value.ref a_C_Table) = false) :
    Txt K mg ⟨a_law, a__law_pool, a__law_draw, a__law_rows, a_Table_init, a_has_shape, a_InvalidTable_init, a_first_wrong_place, a_places, a_is_colour, a_is_integer, a__law_jars, a__law_last, a_count_jars, a_validate_passes, a_first_dispute, a_Table_size, a_is_disputed, a_Table_getitem, a_InvalidColour_init, a_Table_validate_colour, a_Disputed_init, a_InvalidNumber_init, a_product, a__law_check_powers, a_powers, a_last_bean, a_validate_beans, a_Jar_validate_size, a_Jar_size, a_WrongSize_init, a_Jar_bool, a_EmptyJar_init, a_Jar_colours, a_times, a_Jar_getitem, a_Jar_of_beans, a_Jar_init, a_are_counts, a_InvalidJar_init, a_Jar_mul, a__law_choices, a_C_Table, a_C_Jar, a_C_InvalidTable, a_C_InvalidColour, a_C_Disputed, a_C_InvalidNumber, a_C_WrongSize, a_C_EmptyJar, a_C_InvalidJar, a_P_Table_size, a_P_Jar_size, a_M_Jar_of_beans⟩ where
  cm_Jar_of_beans := ⟨ma_Jar_of_beans, ⟨_, mr_Jar_of_beans⟩, mf_Jar_of_beans⟩
  cr_Jar := ⟨cr1_Jar, cr2_Jar⟩
  sf_Jar := sf_Jar
  rm_Jar := rm_Jar
  si_Jar := si_Jar
  xc_InvalidTable := ⟨⟨⟨_, _, _, _, _, _, _, _, _, _, _, _, _, _, xl_InvalidTable⟩, xs_InvalidTable, xb_InvalidTable, xt_InvalidTable, xk_InvalidTable⟩, bxV, at_InvalidTable_init, xi_InvalidTable, PySem.W.mg_of X G aX_InvalidTable⟩
  xn_InvalidTable := xno_InvalidTable
  xc_InvalidColour := ⟨⟨⟨_, _, _, _, _, _, _, _, _, _, _, _, _, _, xl_InvalidColour⟩, xs_InvalidColour, xb_InvalidColour, xt_InvalidColour, xk_InvalidColour⟩, bxV, at_InvalidColour_init, xi_InvalidColour, PySem.W.mg_of X G aX_InvalidColour⟩
  xn_InvalidColour := xno_InvalidColour
  xc_Disputed := ⟨⟨⟨_, _, _, _, _, _, _, _, _, _, _, _, _, _, xl_Disputed⟩, xs_Disputed, xb_Disputed, xt_Disputed, xk_Disputed⟩, bxR, at_Disputed_init, xi_Disputed, PySem.W.mg_of X G aX_Disputed⟩
  xn_Disputed := xno_Disputed
  xc_InvalidNumber := ⟨⟨⟨_, _, _, _, _, _, _, _, _, _, _, _, _, _, xl_InvalidNumber⟩, xs_InvalidNumber, xb_InvalidNumber, xt_InvalidNumber, xk_InvalidNumber⟩, bxV, at_InvalidNumber_init, xi_InvalidNumber, PySem.W.mg_of X G aX_InvalidNumber⟩
  xn_InvalidNumber := xno_InvalidNumber
  xc_WrongSize := ⟨⟨⟨_, _, _, _, _, _, _, _, _, _, _, _, _, _, xl_WrongSize⟩, xs_WrongSize, xb_WrongSize, xt_WrongSize, xk_WrongSize⟩, bxV, at_WrongSize_init, xi_WrongSize, PySem.W.mg_of X G aX_WrongSize⟩
  xc_EmptyJar := ⟨⟨⟨_, _, _, _, _, _, _, _, _, _, _, _, _, _, xl_EmptyJar⟩, xs_EmptyJar, xb_EmptyJar, xt_EmptyJar, xk_EmptyJar⟩, bxL, at_EmptyJar_init, xi_EmptyJar, PySem.W.mg_of X G aX_EmptyJar⟩
  xc_InvalidJar := ⟨⟨⟨_, _, _, _, _, _, _, _, _, _, _, _, _, _, xl_InvalidJar⟩, xs_InvalidJar, xb_InvalidJar, xt_InvalidJar, xk_InvalidJar⟩, bxV, at_InvalidJar_init, xi_InvalidJar, PySem.W.mg_of X G aX_InvalidJar⟩
  vi_LookupError := vi_LookupError
  vi_RuntimeError := vi_RuntimeError
  vi_ValueError := vi_ValueError
  dl_law := ⟨_, fun_mk (st := s_law) l_law c_law k_law, fun _ _ => .of_eq rfl⟩
  m_law := PySem.W.mg_of X G at_law
  kp_law := k_law
  d__law_pool := ⟨_, fun_mk (st := s__law_pool) l__law_pool c__law_pool k__law_pool, (fun_mk (st := s__law_pool) l__law_pool c__law_pool k__law_pool).binds (ps := ["_law_script", "_law_k"]) bi__law_pool⟩
  m__law_pool := PySem.W.mg_of X G at__law_pool
  kp__law_pool := k__law_pool
  d__law_draw := ⟨_, fun_mk (st := s__law_draw) l__law_draw c__law_draw k__law_draw, (fun_mk (st := s__law_draw) l__law_draw c__law_draw k__law_draw).binds (ps := ["_law_pool_here", "_law_many"]) bi__law_draw⟩
  m__law_draw := PySem.W.mg_of X G at__law_draw
  kp__law_draw := k__law_draw
  d__law_rows := ⟨_, fun_mk (st := s__law_rows) l__law_rows c__law_rows k__law_rows, (fun_mk (st := s__law_rows) l__law_rows c__law_rows k__law_rows).binds (ps := ["_law_pool_here", "_law_size"]) bi__law_rows⟩
  m__law_rows := PySem.W.mg_of X G at__law_rows
  kp__law_rows := k__law_rows
  d_Table_init := ⟨_, fun_mk (st := s_Table_init) l_Table_init c_Table_init k_Table_init, (fun_mk (st := s_Table_init) l_Table_init c_Table_init k_Table_init).binds (ps := ["self", "rows"]) bi_Table_init⟩
  d_has_shape := ⟨_, fun_mk (st := s_has_shape) l_has_shape c_has_shape k_has_shape, (fun_mk (st := s_has_shape) l_has_shape c_has_shape k_has_shape).binds (ps := ["rows"]) bi_has_shape⟩
  m_has_shape := PySem.W.mg_of X G at_has_shape
  kp_has_shape := k_has_shape
  d_InvalidTable_init := ⟨_, fun_mk (st := s_InvalidTable_init) l_InvalidTable_init c_InvalidTable_init k_InvalidTable_init, (fun_mk (st := s_InvalidTable_init) l_InvalidTable_init c_InvalidTable_init k_InvalidTable_init).binds (ps := ["self", "place"]) bi_InvalidTable_init⟩
  d_first_wrong_place := ⟨_, fun_mk (st := s_first_wrong_place) l_first_wrong_place c_first_wrong_place k_first_wrong_place, (fun_mk (st := s_first_wrong_place) l_first_wrong_place c_first_wrong_place k_first_wrong_place).binds (ps := ["rows"]) bi_first_wrong_place⟩
  m_first_wrong_place := PySem.W.mg_of X G at_first_wrong_place
  kp_first_wrong_place := k_first_wrong_place
  d_places := ⟨_, fun_mk (st := s_places) l_places c_places k_places, (fun_mk (st := s_places) l_places c_places k_places).binds (ps := ["size"]) bi_places⟩
  m_places := PySem.W.mg_of X G at_places
  kp_places := k_places
  d_is_colour := ⟨_, fun_mk (st := s_is_colour) l_is_colour c_is_colour k_is_colour, (fun_mk (st := s_is_colour) l_is_colour c_is_colour k_is_colour).binds (ps := ["size", "value"]) bi_is_colour⟩
  m_is_colour := PySem.W.mg_of X G at_is_colour
  kp_is_colour := k_is_colour
  d_is_integer := ⟨_, fun_mk (st := s_is_integer) l_is_integer c_is_integer k_is_integer, (fun_mk (st := s_is_integer) l_is_integer c_is_integer k_is_integer).binds (ps := ["value"]) bi_is_integer⟩
  m_is_integer := PySem.W.mg_of X G at_is_integer
  kp_is_integer := k_is_integer
  d__law_jars := ⟨_, fun_mk (st := s__law_jars) l__law_jars c__law_jars k__law_jars, (fun_mk (st := s__law_jars) l__law_jars c__law_jars k__law_jars).binds (ps := ["_law_size", "_law_total"]) bi__law_jars⟩
  m__law_jars := PySem.W.mg_of X G at__law_jars
  kp__law_jars := k__law_jars
  d__law_last := ⟨_, fun_mk (st := s__law_last) l__law_last c__law_last k__law_last, (fun_mk (st := s__law_last) l__law_last c__law_last k__law_last).binds (ps := ["_law_rows_here", "_law_counts"]) bi__law_last⟩
  m__law_last := PySem.W.mg_of X G at__law_last
  kp__law_last := k__law_last
  d_count_jars := ⟨_, fun_mk (st := s_count_jars) l_count_jars c_count_jars k_count_jars, (fun_mk (st := s_count_jars) l_count_jars c_count_jars k_count_jars).binds (ps := ["table", "total"]) bi_count_jars⟩
  m_count_jars := PySem.W.mg_of X G at_count_jars
  kp_count_jars := k_count_jars
  d_validate_passes := ⟨_, fun_mk (st := s_validate_passes) l_validate_passes c_validate_passes k_validate_passes, (fun_mk (st := s_validate_passes) l_validate_passes c_validate_passes k_validate_passes).binds (ps := ["table"]) bi_validate_passes⟩
  m_validate_passes := PySem.W.mg_of X G at_validate_passes
  kp_validate_passes := k_validate_passes
  d_first_dispute := ⟨_, fun_mk (st := s_first_dispute) l_first_dispute c_first_dispute k_first_dispute, (fun_mk (st := s_first_dispute) l_first_dispute c_first_dispute k_first_dispute).binds (ps := ["table"]) bi_first_dispute⟩
  m_first_dispute := PySem.W.mg_of X G at_first_dispute
  kp_first_dispute := k_first_dispute
  d_Table_size := ⟨_, fun_mk (st := s_Table_size) l_Table_size c_Table_size k_Table_size, (fun_mk (st := s_Table_size) l_Table_size c_Table_size k_Table_size).binds (ps := ["self"]) bi_Table_size⟩
  d_is_disputed := ⟨_, fun_mk (st := s_is_disputed) l_is_disputed c_is_disputed k_is_disputed, (fun_mk (st := s_is_disputed) l_is_disputed c_is_disputed k_is_disputed).binds (ps := ["table", "a", "b", "c"]) bi_is_disputed⟩
  m_is_disputed := PySem.W.mg_of X G at_is_disputed
  kp_is_disputed := k_is_disputed
  d_Table_getitem := ⟨_, fun_mk (st := s_Table_getitem) l_Table_getitem c_Table_getitem k_Table_getitem, (fun_mk (st := s_Table_getitem) l_Table_getitem c_Table_getitem k_Table_getitem).binds (ps := ["self", "pair"]) bi_Table_getitem⟩
  d_InvalidColour_init := ⟨_, fun_mk (st := s_InvalidColour_init) l_InvalidColour_init c_InvalidColour_init k_InvalidColour_init, (fun_mk (st := s_InvalidColour_init) l_InvalidColour_init c_InvalidColour_init k_InvalidColour_init).binds (ps := ["self", "value"]) bi_InvalidColour_init⟩
  d_Table_validate_colour := ⟨_, fun_mk (st := s_Table_validate_colour) l_Table_validate_colour c_Table_validate_colour k_Table_validate_colour, (fun_mk (st := s_Table_validate_colour) l_Table_validate_colour c_Table_validate_colour k_Table_validate_colour).binds (ps := ["self", "value"]) bi_Table_validate_colour⟩
  d_Disputed_init := ⟨_, fun_mk (st := s_Disputed_init) l_Disputed_init c_Disputed_init k_Disputed_init, (fun_mk (st := s_Disputed_init) l_Disputed_init c_Disputed_init k_Disputed_init).binds (ps := ["self", "triple"]) bi_Disputed_init⟩
  d_InvalidNumber_init := ⟨_, fun_mk (st := s_InvalidNumber_init) l_InvalidNumber_init c_InvalidNumber_init k_InvalidNumber_init, (fun_mk (st := s_InvalidNumber_init) l_InvalidNumber_init c_InvalidNumber_init k_InvalidNumber_init).binds (ps := ["self", "value"]) bi_InvalidNumber_init⟩
  d_product := ⟨_, fun_mk (st := s_product) l_product c_product k_product, (fun_mk (st := s_product) l_product c_product k_product).binds (ps := ["table", "first", "second"]) bi_product⟩
  m_product := PySem.W.mg_of X G at_product
  kp_product := k_product
  d__law_check_powers := ⟨_, fun_mk (st := s__law_check_powers) l__law_check_powers c__law_check_powers k__law_check_powers, (fun_mk (st := s__law_check_powers) l__law_check_powers c__law_check_powers k__law_check_powers).binds (ps := ["_law_pool_here", "_law_table", "_law_rows_here", "_law_size"]) bi__law_check_powers⟩
  m__law_check_powers := PySem.W.mg_of X G at__law_check_powers
  kp__law_check_powers := k__law_check_powers
  d_powers := ⟨_, fun_mk (st := s_powers) l_powers c_powers k_powers, (fun_mk (st := s_powers) l_powers c_powers k_powers).binds (ps := ["table", "colour"]) bi_powers⟩
  m_powers := PySem.W.mg_of X G at_powers
  kp_powers := k_powers
  d_last_bean := ⟨_, fun_mk (st := s_last_bean) l_last_bean c_last_bean k_last_bean, (fun_mk (st := s_last_bean) l_last_bean c_last_bean k_last_bean).binds (ps := ["table", "jar"]) bi_last_bean⟩
  m_last_bean := PySem.W.mg_of X G at_last_bean
  kp_last_bean := k_last_bean
  d_validate_beans := ⟨_, fun_mk (st := s_validate_beans) l_validate_beans c_validate_beans k_validate_beans, (fun_mk (st := s_validate_beans) l_validate_beans c_validate_beans k_validate_beans).binds (ps := ["table", "jar"]) bi_validate_beans⟩
  m_validate_beans := PySem.W.mg_of X G at_validate_beans
  kp_validate_beans := k_validate_beans
  d_Jar_validate_size := ⟨_, fun_mk (st := s_Jar_validate_size) l_Jar_validate_size c_Jar_validate_size k_Jar_validate_size, (fun_mk (st := s_Jar_validate_size) l_Jar_validate_size c_Jar_validate_size k_Jar_validate_size).binds (ps := ["self", "size"]) bi_Jar_validate_size⟩
  d_Jar_size := ⟨_, fun_mk (st := s_Jar_size) l_Jar_size c_Jar_size k_Jar_size, (fun_mk (st := s_Jar_size) l_Jar_size c_Jar_size k_Jar_size).binds (ps := ["self"]) bi_Jar_size⟩
  d_WrongSize_init := ⟨_, fun_mk (st := s_WrongSize_init) l_WrongSize_init c_WrongSize_init k_WrongSize_init, (fun_mk (st := s_WrongSize_init) l_WrongSize_init c_WrongSize_init k_WrongSize_init).binds (ps := ["self"]) bi_WrongSize_init⟩
  d_Jar_bool := ⟨_, fun_mk (st := s_Jar_bool) l_Jar_bool c_Jar_bool k_Jar_bool, (fun_mk (st := s_Jar_bool) l_Jar_bool c_Jar_bool k_Jar_bool).binds (ps := ["self"]) bi_Jar_bool⟩
  d_EmptyJar_init := ⟨_, fun_mk (st := s_EmptyJar_init) l_EmptyJar_init c_EmptyJar_init k_EmptyJar_init, (fun_mk (st := s_EmptyJar_init) l_EmptyJar_init c_EmptyJar_init k_EmptyJar_init).binds (ps := ["self"]) bi_EmptyJar_init⟩
  d_Jar_colours := ⟨_, fun_mk (st := s_Jar_colours) l_Jar_colours c_Jar_colours k_Jar_colours, (fun_mk (st := s_Jar_colours) l_Jar_colours c_Jar_colours k_Jar_colours).binds (ps := ["self"]) bi_Jar_colours⟩
  d_times := ⟨_, fun_mk (st := s_times) l_times c_times k_times, (fun_mk (st := s_times) l_times c_times k_times).binds (ps := ["table", "colour", "count"]) bi_times⟩
  m_times := PySem.W.mg_of X G at_times
  kp_times := k_times
  d_Jar_getitem := ⟨_, fun_mk (st := s_Jar_getitem) l_Jar_getitem c_Jar_getitem k_Jar_getitem, (fun_mk (st := s_Jar_getitem) l_Jar_getitem c_Jar_getitem k_Jar_getitem).binds (ps := ["self", "colour"]) bi_Jar_getitem⟩
  d_Jar_of_beans := ⟨_, fun_mk (st := s_Jar_of_beans) l_Jar_of_beans c_Jar_of_beans k_Jar_of_beans, (fun_mk (st := s_Jar_of_beans) l_Jar_of_beans c_Jar_of_beans k_Jar_of_beans).binds (ps := ["cls", "size", "beans"]) bi_Jar_of_beans⟩
  d_Jar_init := ⟨_, fun_mk (st := s_Jar_init) l_Jar_init c_Jar_init k_Jar_init, (fun_mk (st := s_Jar_init) l_Jar_init c_Jar_init k_Jar_init).binds (ps := ["self", "counts"]) bi_Jar_init⟩
  d_are_counts := ⟨_, fun_mk (st := s_are_counts) l_are_counts c_are_counts k_are_counts, (fun_mk (st := s_are_counts) l_are_counts c_are_counts k_are_counts).binds (ps := ["value"]) bi_are_counts⟩
  m_are_counts := PySem.W.mg_of X G at_are_counts
  kp_are_counts := k_are_counts
  d_InvalidJar_init := ⟨_, fun_mk (st := s_InvalidJar_init) l_InvalidJar_init c_InvalidJar_init k_InvalidJar_init, (fun_mk (st := s_InvalidJar_init) l_InvalidJar_init c_InvalidJar_init k_InvalidJar_init).binds (ps := ["self"]) bi_InvalidJar_init⟩
  d_Jar_mul := ⟨_, fun_mk (st := s_Jar_mul) l_Jar_mul c_Jar_mul k_Jar_mul, (fun_mk (st := s_Jar_mul) l_Jar_mul c_Jar_mul k_Jar_mul).binds (ps := ["self", "number"]) bi_Jar_mul⟩
  d__law_choices := ⟨_, fun_mk (st := s__law_choices) l__law_choices c__law_choices k__law_choices, (fun_mk (st := s__law_choices) l__law_choices c__law_choices k__law_choices).binds (ps := ["_law_first", "_law_second"]) bi__law_choices⟩
  m__law_choices := PySem.W.mg_of X G at__law_choices
  kp__law_choices := k__law_choices
  m_Table := PySem.W.mg_of X G aC_Table
  cl_Table := ⟨pg_Table, hd_Table, po_Table, sa_Table⟩
  m_Jar := PySem.W.mg_of X G aC_Jar
  cl_Jar := ⟨pg_Jar, hd_Jar, po_Jar, sa_Jar⟩
  na_Table_own_rows := na_Table_own_rows
  na_Jar_own_counts := na_Jar_own_counts
  mt_Table_validate_colour := ⟨at_Table_validate_colour, f_Table_validate_colour, k_Table_validate_colour⟩
  mt_Table_getitem := ⟨at_Table_getitem, f_Table_getitem, k_Table_getitem⟩
  fi_Table_getitem := fi_Table_getitem
  mt_Jar_validate_size := ⟨at_Jar_validate_size, f_Jar_validate_size, k_Jar_validate_size⟩
  mt_Jar_bool := ⟨at_Jar_bool, f_Jar_bool, k_Jar_bool⟩
  mt_Jar_colours := ⟨at_Jar_colours, f_Jar_colours, k_Jar_colours⟩
  mt_Jar_getitem := ⟨at_Jar_getitem, f_Jar_getitem, k_Jar_getitem⟩
  fi_Jar_getitem := fi_Jar_getitem
  mt_Jar_mul := ⟨at_Jar_mul, f_Jar_mul, k_Jar_mul⟩
  mk_Table := ⟨mk_Table, at_Table_init, if_Table, kc_Table⟩
  mk_Jar := ⟨mk_Jar, at_Jar_init, if_Jar, kc_Jar⟩
  pr_Table_size := ⟨pa_Table_size, pt_Table_size, pk_Table_size, _, pr_Table_size⟩
  pr_Jar_size := ⟨pa_Jar_size, pt_Jar_size, pk_Jar_size, _, pr_Jar_size⟩
  n_len := PySem.W.mg_none_of X G n_len
  n_min := PySem.W.mg_none_of X G n_min
  n_max := PySem.W.mg_none_of X G n_max
  n_range := PySem.W.mg_none_of X G n_range
  n_isinstance := PySem.W.mg_none_of X G n_isinstance
  n_list := PySem.W.mg_none_of X G n_list
  n_tuple := PySem.W.mg_none_of X G n_tuple
  n_all := PySem.W.mg_none_of X G n_all
  n_ValueError := PySem.W.mg_none_of X G n_ValueError
  n_int := PySem.W.mg_none_of X G n_int
  n_bool := PySem.W.mg_none_of X G n_bool
  n_sum := PySem.W.mg_none_of X G n_sum
  n_RuntimeError := PySem.W.mg_none_of X G n_RuntimeError
  n_LookupError := PySem.W.mg_none_of X G n_LookupError
  n_enumerate := PySem.W.mg_none_of X G n_enumerate
  n_SetProducts := PySem.W.mg_none_of X G n_SetProducts
  n_Forest := PySem.W.mg_none_of X G n_Forest
  n_OpenRules := PySem.W.mg_none_of X G n_OpenRules
  n_Game := PySem.W.mg_none_of X G n_Game
  n_Session := PySem.W.mg_none_of X G n_Session
  n_Console := PySem.W.mg_none_of X G n_Console
  c_MAX_COLOURS := ⟨_, PySem.W.mg_of X G c_MAX_COLOURS⟩
  c_MAX_TOTAL := ⟨_, PySem.W.mg_of X G c_MAX_TOTAL⟩
  cs := (CS.of ([("Table", a_C_Table), ("Jar", a_C_Jar)] : List (Str × Addr)) (by simp only [List.mem_cons, List.not_mem_nil, or_false, forall_eq_or_imp, forall_eq]; exact ⟨PySem.W.mg_of X G aC_Table, PySem.W.mg_of X G aC_Jar⟩) (by simp only [List.mem_cons, List.not_mem_nil, or_false, forall_eq_or_imp, forall_eq]; exact ⟨CI.of ⟨pg_Table, hd_Table, po_Table, sa_Table⟩ i1_Table j1 j2 i4_Table i8_Table i9_Table ic_Table it_Table (by simp only [btys, List.forall_mem_cons]; exact ⟨u1_Table_NoneType, u1_Table_bool, u1_Table_int, u1_Table_str, u1_Table_list, u1_Table_tuple, u1_Table_dict, fun _ h => (List.not_mem_nil h).elim⟩) (by simp only [btys, List.forall_mem_cons]; exact ⟨u2_Table_NoneType, u2_Table_bool, u2_Table_int, u2_Table_str, u2_Table_list, u2_Table_tuple, u2_Table_dict, fun _ h => (List.not_mem_nil h).elim⟩), CI.of ⟨pg_Jar, hd_Jar, po_Jar, sa_Jar⟩ i1_Jar j1 j2 i4_Jar i8_Jar i9_Jar ic_Jar it_Jar (by simp only [btys, List.forall_mem_cons]; exact ⟨u1_Jar_NoneType, u1_Jar_bool, u1_Jar_int, u1_Jar_str, u1_Jar_list, u1_Jar_tuple, u1_Jar_dict, fun _ h => (List.not_mem_nil h).elim⟩) (by simp only [btys, List.forall_mem_cons]; exact ⟨u2_Jar_NoneType, u2_Jar_bool, u2_Jar_int, u2_Jar_str, u2_Jar_list, u2_Jar_tuple, u2_Jar_dict, fun _ h => (List.not_mem_nil h).elim⟩)⟩) (by simp only [List.mem_cons, List.not_mem_nil, or_false, forall_eq_or_imp, forall_eq]; exact ⟨⟨⟨kit_self.trans (by simp), first_self⟩, ⟨(kit_ref ic_Jar it_Jar t2_Table_Jar t1_Table_Jar).trans (ne_some (a := "Table") (b := "Jar") (by decide)), first_sub t1_Jar_Table⟩⟩, ⟨⟨(kit_ref ic_Table it_Table t2_Jar_Table t1_Jar_Table).trans (ne_some (a := "Jar") (b := "Table") (by decide)), first_sub t1_Table_Jar⟩, ⟨kit_self.trans (by simp), first_self⟩⟩⟩)).wide (by simp only [CL, List.mem_cons, List.not_mem_nil, or_false, forall_eq_or_imp, forall_eq]; exact ⟨.inl (by simp), .inl (by simp), .inr (PySem.W.mg_none_of X G n_SetProducts), .inr (PySem.W.mg_none_of X G n_Forest), .inr (PySem.W.mg_none_of X G n_OpenRules), .inr (PySem.W.mg_none_of X G n_Game), .inr (PySem.W.mg_none_of X G n_Session), .inr (PySem.W.mg_none_of X G n_Console)⟩)
theorem all_mk {l : PySem.W.OpenLaw} {w : World} {K : PySem.W.Frag} {mg : Str → Option Value} {fa : Addr} {A : Ad} (hfa : mg "law" = some (.ref fa)) (T : Txt K mg A) :
    ∃ fd : FuncData, (∀ (s : Shared) (u : Value), BindsTo s fd ⟨[u], []⟩ [("_law_script", u)]) ∧ ∀ base : Heap, Dl.FnOk l.prog w K mg base (L2.CX l.prog w) 11 fa fd ["_law_script"] (dSp K mg 1 g_law_k22) := by
  have e := hfa.symm.trans T.m_law
  cases e
  exact ok_root T
end K22
end
section
set_option Elab.async false
set_option linter.all false
open PySem PySem.W PyProof.Rows in
set_option maxRecDepth 100000 in
set_option maxHeartbeats 0 in
theorem K22.pre (law_ok : ∀ (ns : List Int), ns.length ≤ 63 → (∀ z ∈ ns, PySem.Builtin.Int.intBits z ≤ 1048576) → ∃ st, BJ.g_law_k22 [Dl.D.lstR (ns.map Dl.D.int)] [] = some (Dl.R.ok (Dl.D.bl true) st)) : PySem.Challenge.rw_beanjars_k22_powers_and_counts.Holds := by
  refine K22.box.2.2 K22.said K22.left ?_
  delta K22.box; dsimp only
  k_fill
  refine Dl.walk_law (l := PySem.Challenge.rw_beanjars_k22_powers_and_counts) (g := BJ.g_law_k22) (k := 11) (x := "_law_script") rfl rfl ⟨⟨rfl, by decide, by decide⟩, rfl⟩ (fun w h Y => PySem.W.kIn_of Y) ?F law_ok
  case F =>
    intro w mg fa h KX G hmg
    refine' K22.all_mk hmg (K22.txt_mk KX G ?aC_Table ?pg_Table ?hd_Table ?po_Table ?sa_Table ?aC_Jar ?pg_Jar ?hd_Jar ?po_Jar ?sa_Jar ?aX_InvalidTable ?aX_InvalidColour ?aX_Disputed ?aX_InvalidNumber ?aX_WrongSize ?aX_EmptyJar ?aX_InvalidJar ?xl_InvalidTable ?xs_InvalidTable ?xb_InvalidTable ?xt_InvalidTable ?xk_InvalidTable ?xno_InvalidTable ?xl_InvalidColour ?xs_InvalidColour ?xb_InvalidColour ?xt_InvalidColour ?xk_InvalidColour ?xno_InvalidColour ?xl_Disputed ?xs_Disputed ?xb_Disputed ?xt_Disputed ?xk_Disputed ?xno_Disputed ?xl_InvalidNumber ?xs_InvalidNumber ?xb_InvalidNumber ?xt_InvalidNumber ?xk_InvalidNumber ?xno_InvalidNumber ?xl_WrongSize ?xs_WrongSize ?xb_WrongSize ?xt_WrongSize ?xk_WrongSize ?xl_EmptyJar ?xs_EmptyJar ?xb_EmptyJar ?xt_EmptyJar ?xk_EmptyJar ?xl_InvalidJar ?xs_InvalidJar ?xb_InvalidJar ?xt_InvalidJar ?xk_InvalidJar ?vi_LookupError ?vi_RuntimeError ?vi_ValueError ?pa_Table_size ?pr_Table_size ?pt_Table_size ?pk_Table_size ?pa_Jar_size ?pr_Jar_size ?pt_Jar_size ?pk_Jar_size ?ma_Jar_of_beans ?mr_Jar_of_beans ?mf_Jar_of_beans ?cr1_Jar ?cr2_Jar ?sf_Jar ?rm_Jar ?si_Jar ?at_law ?at__law_pool ?at__law_draw ?at__law_rows ?at_Table_init ?at_has_shape ?at_InvalidTable_init ?at_first_wrong_place ?at_places ?at_is_colour ?at_is_integer ?at__law_jars ?at__law_last ?at_count_jars ?at_validate_passes ?at_first_dispute ?at_is_disputed ?at_Table_getitem ?at_InvalidColour_init ?at_Table_validate_colour ?at_Disputed_init ?at_InvalidNumber_init ?at_product ?at__law_check_powers ?at_powers ?at_last_bean ?at_validate_beans ?at_Jar_validate_size ?at_WrongSize_init ?at_Jar_bool ?at_EmptyJar_init ?at_Jar_colours ?at_times ?at_Jar_getitem ?at_Jar_init ?at_are_counts ?at_InvalidJar_init ?at_Jar_mul ?at__law_choices ?xi_InvalidTable ?xi_InvalidColour ?xi_Disputed ?xi_InvalidNumber ?xi_WrongSize ?xi_EmptyJar ?xi_InvalidJar ?l_law ?c_law ?k_law ?l__law_pool ?c__law_pool ?k__law_pool ?l__law_draw ?c__law_draw ?k__law_draw ?l__law_rows ?c__law_rows ?k__law_rows ?l_Table_init ?c_Table_init ?k_Table_init ?l_has_shape ?c_has_shape ?k_has_shape ?l_InvalidTable_init ?c_InvalidTable_init ?k_InvalidTable_init ?l_first_wrong_place ?c_first_wrong_place ?k_first_wrong_place ?l_places ?c_places ?k_places ?l_is_colour ?c_is_colour ?k_is_colour ?l_is_integer ?c_is_integer ?k_is_integer ?l__law_jars ?c__law_jars ?k__law_jars ?l__law_last ?c__law_last ?k__law_last ?l_count_jars ?c_count_jars ?k_count_jars ?l_validate_passes ?c_validate_passes ?k_validate_passes ?l_first_dispute ?c_first_dispute ?k_first_dispute ?l_Table_size ?c_Table_size ?k_Table_size ?l_is_disputed ?c_is_disputed ?k_is_disputed ?l_Table_getitem ?c_Table_getitem ?k_Table_getitem ?l_InvalidColour_init ?c_InvalidColour_init ?k_InvalidColour_init ?l_Table_validate_colour ?c_Table_validate_colour ?k_Table_validate_colour ?l_Disputed_init ?c_Disputed_init ?k_Disputed_init ?l_InvalidNumber_init ?c_InvalidNumber_init ?k_InvalidNumber_init ?l_product ?c_product ?k_product ?l__law_check_powers ?c__law_check_powers ?k__law_check_powers ?l_powers ?c_powers ?k_powers ?l_last_bean ?c_last_bean ?k_last_bean ?l_validate_beans ?c_validate_beans ?k_validate_beans ?l_Jar_validate_size ?c_Jar_validate_size ?k_Jar_validate_size ?l_Jar_size ?c_Jar_size ?k_Jar_size ?l_WrongSize_init ?c_WrongSize_init ?k_WrongSize_init ?l_Jar_bool ?c_Jar_bool ?k_Jar_bool ?l_EmptyJar_init ?c_EmptyJar_init ?k_EmptyJar_init ?l_Jar_colours ?c_Jar_colours ?k_Jar_colours ?l_times ?c_times ?k_times ?l_Jar_getitem ?c_Jar_getitem ?k_Jar_getitem ?l_Jar_of_beans ?c_Jar_of_beans ?k_Jar_of_beans ?l_Jar_init ?c_Jar_init ?k_Jar_init ?l_are_counts ?c_are_counts ?k_are_counts ?l_InvalidJar_init ?c_InvalidJar_init ?k_InvalidJar_init ?l_Jar_mul ?c_Jar_mul ?k_Jar_mul ?l__law_choices ?c__law_choices ?k__law_choices ?na_Table_own_rows ?na_Jar_own_counts ?f_Table_validate_colour ?f_Table_getitem ?fi_Table_getitem ?f_Jar_validate_size ?f_Jar_bool ?f_Jar_colours ?f_Jar_getitem ?fi_Jar_getitem ?f_Jar_mul ?mk_Table ?if_Table ?kc_Table ?mk_Jar ?if_Jar ?kc_Jar ?n_len ?n_min ?n_max ?n_range ?n_isinstance ?n_list ?n_tuple ?n_all ?n_ValueError ?n_int ?n_bool ?n_sum ?n_RuntimeError ?n_LookupError ?n_enumerate ?n_SetProducts ?n_Forest ?n_OpenRules ?n_Game ?n_Session ?n_Console ?c_MAX_COLOURS ?c_MAX_TOTAL ?i1_Table ?i4_Table ?i8_Table ?i9_Table ?ic_Table ?it_Table ?u1_Table_NoneType ?u2_Table_NoneType ?u1_Table_bool ?u2_Table_bool ?u1_Table_int ?u2_Table_int ?u1_Table_str ?u2_Table_str ?u1_Table_list ?u2_Table_list ?u1_Table_tuple ?u2_Table_tuple ?u1_Table_dict ?u2_Table_dict ?i1_Jar ?i4_Jar ?i8_Jar ?i9_Jar ?ic_Jar ?it_Jar ?u1_Jar_NoneType ?u2_Jar_NoneType ?u1_Jar_bool ?u2_Jar_bool ?u1_Jar_int ?u2_Jar_int ?u1_Jar_str ?u2_Jar_str ?u1_Jar_list ?u2_Jar_list ?u1_Jar_tuple ?u2_Jar_tuple ?u1_Jar_dict ?u2_Jar_dict ?j1 ?j2 ?t1_Table_Jar ?t2_Table_Jar ?t1_Jar_Table ?t2_Jar_Table)
    (case aC_Table => k_is)
    (case pg_Table => k_is)
    (case hd_Table => k_is)
    (case po_Table => k_is)
    (case sa_Table => k_is)
    (case aC_Jar => k_is)
    (case pg_Jar => k_is)
    (case hd_Jar => k_is)
    (case po_Jar => k_is)
    (case sa_Jar => k_is)
    (case aX_InvalidTable => k_is)
    (case aX_InvalidColour => k_is)
    (case aX_Disputed => k_is)
    (case aX_InvalidNumber => k_is)
    (case aX_WrongSize => k_is)
    (case aX_EmptyJar => k_is)
    (case aX_InvalidJar => k_is)
    (case xl_InvalidTable => k_is)
    (case xs_InvalidTable => k_is)
    (case xb_InvalidTable => k_is)
    (case xt_InvalidTable => k_is)
    (case xk_InvalidTable => k_is)
    (case xno_InvalidTable => k_is)
    (case xl_InvalidColour => k_is)
    (case xs_InvalidColour => k_is)
    (case xb_InvalidColour => k_is)
    (case xt_InvalidColour => k_is)
    (case xk_InvalidColour => k_is)
    (case xno_InvalidColour => k_is)
    (case xl_Disputed => k_is)
    (case xs_Disputed => k_is)
    (case xb_Disputed => k_is)
    (case xt_Disputed => k_is)
    (case xk_Disputed => k_is)
    (case xno_Disputed => k_is)
    (case xl_InvalidNumber => k_is)
    (case xs_InvalidNumber => k_is)
    (case xb_InvalidNumber => k_is)
    (case xt_InvalidNumber => k_is)
    (case xk_InvalidNumber => k_is)
    (case xno_InvalidNumber => k_is)
    (case xl_WrongSize => k_is)
    (case xs_WrongSize => k_is)
    (case xb_WrongSize => k_is)
    (case xt_WrongSize => k_is)
    (case xk_WrongSize => k_is)
    (case xl_EmptyJar => k_is)
    (case xs_EmptyJar => k_is)
    (case xb_EmptyJar => k_is)
    (case xt_EmptyJar => k_is)
    (case xk_EmptyJar => k_is)
    (case xl_InvalidJar => k_is)
    (case xs_InvalidJar => k_is)
    (case xb_InvalidJar => k_is)
    (case xt_InvalidJar => k_is)
    (case xk_InvalidJar => k_is)
    (case vi_LookupError => k_is)
    (case vi_RuntimeError => k_is)
    (case vi_ValueError => k_is)
    (case pa_Table_size => k_is)
    (case pr_Table_size => k_is)
    (case pt_Table_size => k_is)
    (case pk_Table_size => k_is)
    (case pa_Jar_size => k_is)
    (case pr_Jar_size => k_is)
    (case pt_Jar_size => k_is)
    (case pk_Jar_size => k_is)
    (case ma_Jar_of_beans => k_is)
    (case mr_Jar_of_beans => k_is)
    (case mf_Jar_of_beans => k_is)
    (case cr1_Jar => k_is)
    (case cr2_Jar => k_is)
    (case sf_Jar => k_is)
    (case rm_Jar => k_is)
    (case si_Jar => k_is)
    (case at_law => k_is)
    (case at__law_pool => k_is)
    (case at__law_draw => k_is)
    (case at__law_rows => k_is)
    (case at_Table_init => k_is)
    (case at_has_shape => k_is)
    (case at_InvalidTable_init => k_is)
    (case at_first_wrong_place => k_is)
    (case at_places => k_is)
    (case at_is_colour => k_is)
    (case at_is_integer => k_is)
    (case at__law_jars => k_is)
    (case at__law_last => k_is)
    (case at_count_jars => k_is)
    (case at_validate_passes => k_is)
    (case at_first_dispute => k_is)
    (case at_is_disputed => k_is)
    (case at_Table_getitem => k_is)
    (case at_InvalidColour_init => k_is)
    (case at_Table_validate_colour => k_is)
    (case at_Disputed_init => k_is)
    (case at_InvalidNumber_init => k_is)
    (case at_product => k_is)
    (case at__law_check_powers => k_is)
    (case at_powers => k_is)
    (case at_last_bean => k_is)
    (case at_validate_beans => k_is)
    (case at_Jar_validate_size => k_is)
    (case at_WrongSize_init => k_is)
    (case at_Jar_bool => k_is)
    (case at_EmptyJar_init => k_is)
    (case at_Jar_colours => k_is)
    (case at_times => k_is)
    (case at_Jar_getitem => k_is)
    (case at_Jar_init => k_is)
    (case at_are_counts => k_is)
    (case at_InvalidJar_init => k_is)
    (case at_Jar_mul => k_is)
    (case at__law_choices => k_is)
    (case xi_InvalidTable => k_is)
    (case xi_InvalidColour => k_is)
    (case xi_Disputed => k_is)
    (case xi_InvalidNumber => k_is)
    (case xi_WrongSize => k_is)
    (case xi_EmptyJar => k_is)
    (case xi_InvalidJar => k_is)
    (case l_law => k_is)
    (case c_law => k_is)
    (case k_law => k_is)
    (case l__law_pool => k_is)
    (case c__law_pool => k_is)
    (case k__law_pool => k_is)
    (case l__law_draw => k_is)
    (case c__law_draw => k_is)
    (case k__law_draw => k_is)
    (case l__law_rows => k_is)
    (case c__law_rows => k_is)
    (case k__law_rows => k_is)
    (case l_Table_init => k_is)
    (case c_Table_init => k_is)
    (case k_Table_init => k_is)
    (case l_has_shape => k_is)
    (case c_has_shape => k_is)
    (case k_has_shape => k_is)
    (case l_InvalidTable_init => k_is)
    (case c_InvalidTable_init => k_is)
    (case k_InvalidTable_init => k_is)
    (case l_first_wrong_place => k_is)
    (case c_first_wrong_place => k_is)
    (case k_first_wrong_place => k_is)
    (case l_places => k_is)
    (case c_places => k_is)
    (case k_places => k_is)
    (case l_is_colour => k_is)
    (case c_is_colour => k_is)
    (case k_is_colour => k_is)
    (case l_is_integer => k_is)
    (case c_is_integer => k_is)
    (case k_is_integer => k_is)
    (case l__law_jars => k_is)
    (case c__law_jars => k_is)
    (case k__law_jars => k_is)
    (case l__law_last => k_is)
    (case c__law_last => k_is)
    (case k__law_last => k_is)
    (case l_count_jars => k_is)
    (case c_count_jars => k_is)
    (case k_count_jars => k_is)
    (case l_validate_passes => k_is)
    (case c_validate_passes => k_is)
    (case k_validate_passes => k_is)
    (case l_first_dispute => k_is)
    (case c_first_dispute => k_is)
    (case k_first_dispute => k_is)
    (case l_Table_size => k_is)
    (case c_Table_size => k_is)
    (case k_Table_size => k_is)
    (case l_is_disputed => k_is)
    (case c_is_disputed => k_is)
    (case k_is_disputed => k_is)
    (case l_Table_getitem => k_is)
    (case c_Table_getitem => k_is)
    (case k_Table_getitem => k_is)
    (case l_InvalidColour_init => k_is)
    (case c_InvalidColour_init => k_is)
    (case k_InvalidColour_init => k_is)
    (case l_Table_validate_colour => k_is)
    (case c_Table_validate_colour => k_is)
    (case k_Table_validate_colour => k_is)
    (case l_Disputed_init => k_is)
    (case c_Disputed_init => k_is)
    (case k_Disputed_init => k_is)
    (case l_InvalidNumber_init => k_is)
    (case c_InvalidNumber_init => k_is)
    (case k_InvalidNumber_init => k_is)
    (case l_product => k_is)
    (case c_product => k_is)
    (case k_product => k_is)
    (case l__law_check_powers => k_is)
    (case c__law_check_powers => k_is)
    (case k__law_check_powers => k_is)
    (case l_powers => k_is)
    (case c_powers => k_is)
    (case k_powers => k_is)
    (case l_last_bean => k_is)
    (case c_last_bean => k_is)
    (case k_last_bean => k_is)
    (case l_validate_beans => k_is)
    (case c_validate_beans => k_is)
    (case k_validate_beans => k_is)
    (case l_Jar_validate_size => k_is)
    (case c_Jar_validate_size => k_is)
    (case k_Jar_validate_size => k_is)
    (case l_Jar_size => k_is)
    (case c_Jar_size => k_is)
    (case k_Jar_size => k_is)
    (case l_WrongSize_init => k_is)
    (case c_WrongSize_init => k_is)
    (case k_WrongSize_init => k_is)
    (case l_Jar_bool => k_is)
    (case c_Jar_bool => k_is)
    (case k_Jar_bool => k_is)
    (case l_EmptyJar_init => k_is)
    (case c_EmptyJar_init => k_is)
    (case k_EmptyJar_init => k_is)
    (case l_Jar_colours => k_is)
    (case c_Jar_colours => k_is)
    (case k_Jar_colours => k_is)
    (case l_times => k_is)
    (case c_times => k_is)
    (case k_times => k_is)
    (case l_Jar_getitem => k_is)
    (case c_Jar_getitem => k_is)
    (case k_Jar_getitem => k_is)
    (case l_Jar_of_beans => k_is)
    (case c_Jar_of_beans => k_is)
    (case k_Jar_of_beans => k_is)
    (case l_Jar_init => k_is)
    (case c_Jar_init => k_is)
    (case k_Jar_init => k_is)
    (case l_are_counts => k_is)
    (case c_are_counts => k_is)
    (case k_are_counts => k_is)
    (case l_InvalidJar_init => k_is)
    (case c_InvalidJar_init => k_is)
    (case k_InvalidJar_init => k_is)
    (case l_Jar_mul => k_is)
    (case c_Jar_mul => k_is)
    (case k_Jar_mul => k_is)
    (case l__law_choices => k_is)
    (case c__law_choices => k_is)
    (case k__law_choices => k_is)
    (case na_Table_own_rows => k_is)
    (case na_Jar_own_counts => k_is)
    (case f_Table_validate_colour => k_is)
    (case f_Table_getitem => k_is)
    (case fi_Table_getitem => k_is)
    (case f_Jar_validate_size => k_is)
    (case f_Jar_bool => k_is)
    (case f_Jar_colours => k_is)
    (case f_Jar_getitem => k_is)
    (case fi_Jar_getitem => k_is)
    (case f_Jar_mul => k_is)
    (case mk_Table => k_is)
    (case if_Table => k_is)
    (case kc_Table => k_is)
    (case mk_Jar => k_is)
    (case if_Jar => k_is)
    (case kc_Jar => k_is)
    (case n_len => k_is)
    (case n_min => k_is)
    (case n_max => k_is)
    (case n_range => k_is)
    (case n_isinstance => k_is)
    (case n_list => k_is)
    (case n_tuple => k_is)
    (case n_all => k_is)
    (case n_ValueError => k_is)
    (case n_int => k_is)
    (case n_bool => k_is)
    (case n_sum => k_is)
    (case n_RuntimeError => k_is)
    (case n_LookupError => k_is)
    (case n_enumerate => k_is)
    (case n_SetProducts => k_is)
    (case n_Forest => k_is)
    (case n_OpenRules => k_is)
    (case n_Game => k_is)
    (case n_Session => k_is)
    (case n_Console => k_is)
    (case c_MAX_COLOURS => k_is)
    (case c_MAX_TOTAL => k_is)
    (case i1_Table => k_is)
    (case i4_Table => k_is)
    (case i8_Table => k_is)
    (case i9_Table => k_is)
    (case ic_Table => k_is)
    (case it_Table => k_is)
    (case u1_Table_NoneType => k_is)
    (case u2_Table_NoneType => k_is)
    (case u1_Table_bool => k_is)
    (case u2_Table_bool => k_is)
    (case u1_Table_int => k_is)
    (case u2_Table_int => k_is)
    (case u1_Table_str => k_is)
    (case u2_Table_str => k_is)
    (case u1_Table_list => k_is)
    (case u2_Table_list => k_is)
    (case u1_Table_tuple => k_is)
    (case u2_Table_tuple => k_is)
    (case u1_Table_dict => k_is)
    (case u2_Table_dict => k_is)
    (case i1_Jar => k_is)
    (case i4_Jar => k_is)
    (case i8_Jar => k_is)
    (case i9_Jar => k_is)
    (case ic_Jar => k_is)
    (case it_Jar => k_is)
    (case u1_Jar_NoneType => k_is)
    (case u2_Jar_NoneType => k_is)
    (case u1_Jar_bool => k_is)
    (case u2_Jar_bool => k_is)
    (case u1_Jar_int => k_is)
    (case u2_Jar_int => k_is)
    (case u1_Jar_str => k_is)
    (case u2_Jar_str => k_is)
    (case u1_Jar_list => k_is)
    (case u2_Jar_list => k_is)
    (case u1_Jar_tuple => k_is)
    (case u2_Jar_tuple => k_is)
    (case u1_Jar_dict => k_is)
    (case u2_Jar_dict => k_is)
    (case j1 => k_is)
    (case j2 => k_is)
    (case t1_Table_Jar => k_is)
    (case t2_Table_Jar => rfl)
    (case t1_Jar_Table => k_is)
    (case t2_Jar_Table => rfl)
end
section
set_option Elab.async false
set_option linter.all false
set_option maxRecDepth 100000
set_option autoImplicit false
namespace Dl
open PySem
section
variable {env : En} {st s : Sto} {QD : D → Sto → Prop} {Q : Out → Prop} {X : XQ} {QI : ItD → Sto → Prop}
/-! ### numbers from 0 on -/
theorem wp_addN {own : Bool} {a b : Nat} (h : QD (dI (a + b)) st) : wpX (gAdd own (.int (a : Int)) (.int (b : Int))) env st QD X := wp_add h
theorem wp_addNL {own : Bool} {a k : Nat} (h : QD (dI (a + k)) st) : wpX (gAdd own (.int (a : Int)) (.int (@OfNat.ofNat Int k instOfNat))) env st QD X := wp_add h
theorem wp_addLN {own : Bool} {a k : Nat} (h : QD (dI (k + a)) st) : wpX (gAdd own (.int (@OfNat.ofNat Int k instOfNat)) (.int (a : Int))) env st QD X := wp_add h
theorem wp_subN {a b : Nat} (hb : b ≤ a) (h : QD (dI (a - b)) st) : wpX (gSub (.int (a : Int)) (.int (b : Int))) env st QD X := wp_sub (by rw [show (a : Int) - (b : Int) = ((a - b : Nat) : Int) by omega]; exact h)
theorem wp_subNL {a k : Nat} (hb : k ≤ a) (h : QD (dI (a - k)) st) : wpX (gSub (.int (a : Int)) (.int (@OfNat.ofNat Int k instOfNat))) env st QD X := wp_subN (b := k) hb h
theorem wp_subLN {a k : Nat} (hb : a ≤ k) (h : QD (dI (k - a)) st) : wpX (gSub (.int (@OfNat.ofNat Int k instOfNat)) (.int (a : Int))) env st QD X := wp_subN (a := k) hb h
theorem wp_modN {a b : Nat} (hb : 0 < b) (h : QD (dI (a % b)) st) : wpX (gMod (.int (a : Int)) (.int (b : Int))) env st QD X := wp_mod (by omega) h
theorem wp_modNL {a k : Nat} (hb : 0 < k) (h : QD (dI (a % k)) st) : wpX (gMod (.int (a : Int)) (.int (@OfNat.ofNat Int k instOfNat))) env st QD X := wp_modN (b := k) hb h
theorem log_nat {b : Nat} (h1 : 0 < b) (h2 : b < 1073741824) : 0 < (b : Int) ∧ (b : Int).natAbs.log2 < 9000 := log_small (by omega) (by omega)
theorem wp_divN {a b : Nat} (h1 : 0 < b) (h2 : b < 1073741824) (h : QD (dI (a / b)) st) : wpX (gDiv (.int (a : Int)) (.int (b : Int))) env st QD X := wp_div (log_nat h1 h2) h
theorem wp_divNL {a k : Nat} (h1 : 0 < k) (h2 : k < 1073741824) (h : QD (dI (a / k)) st) : wpX (gDiv (.int (a : Int)) (.int (@OfNat.ofNat Int k instOfNat))) env st QD X := wp_divN (b := k) h1 h2 h
theorem wp_mulN {own : Bool} {a b : Nat} (hb : a < 2 ^ 64 ∨ b < 2 ^ 64) (h : QD (dI (a * b)) st) : wpX (gMul own (.int (a : Int)) (.int (b : Int))) env st QD X := wp_mul (mul_small (by rw [Int.natAbs_natCast, Int.natAbs_natCast]; exact hb)) h
theorem wp_mulNL {own : Bool} {a k : Nat} (hb : a < 2 ^ 64 ∨ k < 2 ^ 64) (h : QD (dI (a * k)) st) : wpX (gMul own (.int (a : Int)) (.int (@OfNat.ofNat Int k instOfNat))) env st QD X := wp_mulN (b := k) hb h
theorem wp_mulLN {own : Bool} {a k : Nat} (hb : k < 2 ^ 64 ∨ a < 2 ^ 64) (h : QD (dI (k * a)) st) : wpX (gMul own (.int (@OfNat.ofNat Int k instOfNat)) (.int (a : Int))) env st QD X := wp_mulN (a := k) hb h
theorem dec_congr {p q : Prop} [Decidable p] [Decidable q] (h : p ↔ q) : decide p = decide q := by
  by_cases hp : p
  · rw [decide_eq_true hp, decide_eq_true (h.mp hp)]
  · rw [decide_eq_false hp, decide_eq_false fun z => hp (h.mpr z)]
theorem wp_ltN {a b : Nat} (h : QD (.bl (decide (a < b))) st) : wpX (gLt (.int (a : Int)) (.int (b : Int))) env st QD X := wp_lt (by rw [dec_congr (show (a : Int) < b ↔ a < b by omega)]; exact h)
theorem wp_leN {a b : Nat} (h : QD (.bl (decide (a ≤ b))) st) : wpX (gLe (.int (a : Int)) (.int (b : Int))) env st QD X := wp_le (by rw [dec_congr (show (a : Int) ≤ b ↔ a ≤ b by omega)]; exact h)
theorem wp_gtN {a b : Nat} (h : QD (.bl (decide (b < a))) st) : wpX (gGt (.int (a : Int)) (.int (b : Int))) env st QD X := wp_gt (by rw [dec_congr (show (b : Int) < a ↔ b < a by omega)]; exact h)
theorem wp_geN {a b : Nat} (h : QD (.bl (decide (b ≤ a))) st) : wpX (gGe (.int (a : Int)) (.int (b : Int))) env st QD X := wp_ge (by rw [dec_congr (show (b : Int) ≤ a ↔ b ≤ a by omega)]; exact h)
theorem wp_eqNN {a b : Nat} (h : QD (.bl (decide (a = b))) st) : wpX (gEq (.int (a : Int)) (.int (b : Int))) env st QD X := wp_eqI (by rw [dec_congr (show (a : Int) = b ↔ a = b by omega)]; exact h)
theorem wp_neNN {a b : Nat} (h : QD (.bl (!decide (a = b))) st) : wpX (gNe (.int (a : Int)) (.int (b : Int))) env st QD X := wp_neI (by rw [dec_congr (show (a : Int) = b ↔ a = b by omega)]; exact h)
theorem wp_ltNL {a k : Nat} (h : QD (.bl (decide (a < k))) st) : wpX (gLt (.int (a : Int)) (.int (@OfNat.ofNat Int k instOfNat))) env st QD X := wp_ltN (b := k) h
theorem wp_leNL {a k : Nat} (h : QD (.bl (decide (a ≤ k))) st) : wpX (gLe (.int (a : Int)) (.int (@OfNat.ofNat Int k instOfNat))) env st QD X := wp_leN (b := k) h
theorem wp_gtNL {a k : Nat} (h : QD (.bl (decide (k < a))) st) : wpX (gGt (.int (a : Int)) (.int (@OfNat.ofNat Int k instOfNat))) env st QD X := wp_gtN (b := k) h
theorem wp_geNL {a k : Nat} (h : QD (.bl (decide (k ≤ a))) st) : wpX (gGe (.int (a : Int)) (.int (@OfNat.ofNat Int k instOfNat))) env st QD X := wp_geN (b := k) h
theorem wp_eqNL {a k : Nat} (h : QD (.bl (decide (a = k))) st) : wpX (gEq (.int (a : Int)) (.int (@OfNat.ofNat Int k instOfNat))) env st QD X := wp_eqNN (b := k) h
theorem wp_neNL {a k : Nat} (h : QD (.bl (!decide (a = k))) st) : wpX (gNe (.int (a : Int)) (.int (@OfNat.ofNat Int k instOfNat))) env st QD X := wp_neNN (b := k) h
theorem wp_ltLN {a k : Nat} (h : QD (.bl (decide (k < a))) st) : wpX (gLt (.int (@OfNat.ofNat Int k instOfNat)) (.int (a : Int))) env st QD X := wp_ltN (a := k) h
theorem wp_leLN {a k : Nat} (h : QD (.bl (decide (k ≤ a))) st) : wpX (gLe (.int (@OfNat.ofNat Int k instOfNat)) (.int (a : Int))) env st QD X := wp_leN (a := k) h
theorem max_if {a b : Nat} : (if (b : Int) > (a : Int) then (b : Int) else (a : Int)) = ((max a b : Nat) : Int) := by split <;> omega
theorem min_if {a b : Nat} : (if (b : Int) < (a : Int) then (b : Int) else (a : Int)) = ((min a b : Nat) : Int) := by split <;> omega
theorem wp_maxN {a b : Nat} (h : QD (dI (max a b)) st) : wpX (g2 maxS [.int (a : Int), .int (b : Int)]) env st QD X := wp_g2 (d := dI (max a b)) (by show some (D.int (if (b : Int) > (a : Int) then (b : Int) else (a : Int))) = _; rw [max_if]) h
theorem wp_minN {a b : Nat} (h : QD (dI (min a b)) st) : wpX (g2 minS [.int (a : Int), .int (b : Int)]) env st QD X := wp_g2 (d := dI (min a b)) (by show some (D.int (if (b : Int) < (a : Int) then (b : Int) else (a : Int))) = _; rw [min_if]) h
theorem wp_maxLN {a k : Nat} (h : QD (dI (max k a)) st) : wpX (g2 maxS [.int (@OfNat.ofNat Int k instOfNat), .int (a : Int)]) env st QD X := wp_maxN (a := k) h
theorem wp_maxNL {a k : Nat} (h : QD (dI (max a k)) st) : wpX (g2 maxS [.int (a : Int), .int (@OfNat.ofNat Int k instOfNat)]) env st QD X := wp_maxN (b := k) h
theorem wp_minLN {a k : Nat} (h : QD (dI (min k a)) st) : wpX (g2 minS [.int (@OfNat.ofNat Int k instOfNat), .int (a : Int)]) env st QD X := wp_minN (a := k) h
theorem wp_minNL {a k : Nat} (h : QD (dI (min a k)) st) : wpX (g2 minS [.int (a : Int), .int (@OfNat.ofNat Int k instOfNat)]) env st QD X := wp_minN (b := k) h
theorem wp_intB {b : Bool} (h : QD (dI (if b then 1 else 0)) st) : wpX (g1 intS [.bl b]) env st QD X := wp_g1 (d := dI (if b then 1 else 0)) (by cases b <;> rfl) h
/-! ### what a range goes over -/
theorem rng_n {n : Nat} {P : Nat → Prop} (h : n < 2 ^ 62) (p : P n) : ∃ m : Nat, D.int (n : Int) = D.int (m : Int) ∧ m < 2 ^ 62 ∧ P m := ⟨n, rfl, h, p⟩
theorem rng_l {k : Nat} {P : Nat → Prop} (h : k < 2 ^ 62) (p : P k) : ∃ m : Nat, D.int (@OfNat.ofNat Int k instOfNat) = D.int (m : Int) ∧ m < 2 ^ 62 ∧ P m := ⟨k, rfl, h, p⟩
theorem rng_nn {a b : Nat} {P : Nat → Nat → Prop} (ha : a < 2 ^ 62) (hb : b < 2 ^ 62) (p : P a b) : ∃ m n : Nat, D.int (a : Int) = D.int (m : Int) ∧ D.int (b : Int) = D.int (n : Int) ∧ m < 2 ^ 62 ∧ n < 2 ^ 62 ∧ P m n := ⟨a, b, rfl, rfl, ha, hb, p⟩
theorem rng_ln {k b : Nat} {P : Nat → Nat → Prop} (ha : k < 2 ^ 62) (hb : b < 2 ^ 62) (p : P k b) : ∃ m n : Nat, D.int (@OfNat.ofNat Int k instOfNat) = D.int (m : Int) ∧ D.int (b : Int) = D.int (n : Int) ∧ m < 2 ^ 62 ∧ n < 2 ^ 62 ∧ P m n := ⟨k, b, rfl, rfl, ha, hb, p⟩
/-! ### lists -/
theorem len_m {α : Type} {xs : List α} {f : α → D} (h : QD (dI xs.length) st) : wpX (g1 lenS [.lst (xs.map f)]) env st QD X := wp_len (xs := xs.map f) rfl (by rw [List.length_map]; exact h)
theorem len_mr {n : Nat} {f : Nat → D} (h : QD (dI n) st) : wpX (g1 lenS [.lst ((List.range n).map f)]) env st QD X := wp_len (xs := (List.range n).map f) rfl (by rw [List.length_map, List.length_range]; exact h)
theorem len_mt {α : Type} {xs : List α} {f : α → D} (h : QD (dI xs.length) st) : wpX (g1 lenS [.tup (xs.map f)]) env st QD X := wp_len (xs := xs.map f) rfl (by rw [List.length_map]; exact h)
theorem list_l {xs : List D} (h : QD (.lst xs) st) : wpX (gList false [.lst xs]) env st QD X := wp_listF (xs := xs) rfl h
theorem list_t {xs : List D} (h : QD (.lst xs) st) : wpX (gList false [.tup xs]) env st QD X := wp_listF (xs := xs) rfl h
theorem tuple_l {xs : List D} (h : QD (.tup xs) st) : wpX (gTuple [.lst xs]) env st QD X := wp_tuple (xs := xs) rfl h
theorem tuple_t {xs : List D} (h : QD (.tup xs) st) : wpX (gTuple [.tup xs]) env st QD X := wp_tuple (xs := xs) rfl h
theorem ix_mr {n m : Nat} {f : Nat → D} (hm : m < n) (h : QD (f m) st) : wpX (gIx (.lst ((List.range n).map f)) (dI m)) env st QD X := wp_ixN (xs := (List.range n).map f) rfl (by simp [hm]) h
theorem ix_mrt {n m : Nat} {f : Nat → D} (hm : m < n) (h : QD (f m) st) : wpX (gIx (.tup ((List.range n).map f)) (dI m)) env st QD X := wp_ixN (xs := (List.range n).map f) rfl (by simp [hm]) h
theorem tru_ls {QB : Bool → Sto → Prop} {xs : List D} (h : QB (!xs.isEmpty) st) : TruQ QB (.lst xs) st := ⟨_, rfl, h⟩
theorem sum_m {α : Type} {xs : List α} {f : α → Nat} (h : QD (dI (xs.map f).sum) st) : wpX (g1 sumS [.lst (xs.map fun x => dI (f x))]) env st QD X := by
  refine wp_g1 (d := dI (xs.map f).sum) ?_ h
  have e : xs.map (fun x => dI (f x)) = (xs.map fun x => (f x : Int)).map D.int := by simp
  have e2 : ∀ xs : List α, (xs.map fun x => (f x : Int)).sum = (((xs.map f).sum : Nat) : Int) := by
    intro xs
    induction xs with
    | nil => rfl
    | cons y ys ih => simp only [List.map_cons, List.sum_cons] at ih ⊢; rw [ih]; omega
  rw [e]
  simp only [sumS, lstI, look, Option.bind_some, ints_map, Option.map_some]
  rw [e2]
theorem all_m {α : Type} {xs : List α} {p : α → Bool} (h : QD (.bl (xs.all p)) st) : wpX (g1 allS [.lst (xs.map fun x => .bl (p x))]) env st QD X := by
  refine wp_g1 (d := .bl (xs.all p)) ?_ h
  have : xs.map (fun x => D.bl (p x)) = (xs.map p).map D.bl := by simp
  rw [this]
  simp only [allS, lstI, look, Option.bind_some, bools_map, Option.map_some]
  simp [List.all_map]
theorem any_m {α : Type} {xs : List α} {p : α → Bool} (h : QD (.bl (xs.any p)) st) : wpX (g1 anyS [.lst (xs.map fun x => .bl (p x))]) env st QD X := by
  refine wp_g1 (d := .bl (xs.any p)) ?_ h
  have : xs.map (fun x => D.bl (p x)) = (xs.map p).map D.bl := by simp
  rw [this]
  simp only [anyS, lstI, look, Option.bind_some, bools_map, Option.map_some]
  simp [List.any_map]
/-! ### targets -/
theorem asg_q {g : FG} {d : D} {e' : En} {s' : Sto} {P : En → Sto → Prop} (e : g d env st = some (e', s')) (h : P e' s') : ∃ e' s', g d env st = some (e', s') ∧ P e' s' := ⟨_, _, e, h⟩
/-! ### a turn that hands a list more things -/
theorem set_mid {pre post : Sto} {x y : D} : (pre ++ x :: post).set pre.length y = pre ++ y :: post := by simp
theorem lm_app {pre post : Sto} {xs : List D} {y : D} (hl : xs.length < 16000000) (h : QD .non (pre ++ .lst (xs ++ [y]) :: post)) : wpX (lmS mAppend (.obj pre.length) [y]) env (pre ++ .lst xs :: post) QD X := by
  refine wp_lmS (k := pre.length) (xs := xs) (by simp) (z := .non) (xs' := xs ++ [y]) ?_ ?_
  · simp only [mAppend, sizeLine_eq]
    rw [if_pos (by omega)]
  · rw [set_mid]; exact h
theorem isL_mid {pre post : Sto} {xs : List D} {P : Prop} (h : P) : isL (pre ++ .lst xs :: post) (.obj pre.length) = true ∧ P := ⟨by simp [isL], h⟩
end
end Dl
end
section
set_option Elab.async false
set_option linter.all false
set_option maxRecDepth 100000
set_option autoImplicit false
namespace Dl
open PySem
/-! ### plain data -/
theorem PlN.str {n : Nat} {b : Str} (h : PySem.PyData.strOk b = true) : PlN n (.str b) := ⟨h, h⟩
theorem PlN.nil {n : Nat} : PlN (n + 1) (.lst []) := .lst (by simp)
noncomputable def PlA (n : Nat) (xs : List D) : Prop := ∀ x ∈ xs, PlN n x
theorem PlA.nil {n : Nat} : PlA n [] := by intro x hx; cases hx
theorem PlA.cons {n : Nat} {x : D} {xs : List D} (h : PlN n x) (t : PlA n xs) : PlA n (x :: xs) := by
  intro y hy
  rcases List.mem_cons.mp hy with rfl | hy
  · exact h
  · exact t y hy
theorem PlA.app {n : Nat} {xs ys : List D} (h : PlA n xs) (t : PlA n ys) : PlA n (xs ++ ys) := by
  intro y hy
  rcases List.mem_append.mp hy with hy | hy
  · exact h y hy
  · exact t y hy
theorem PlA.map {α : Type} {n : Nat} {xs : List α} {f : α → D} (h : ∀ x, PlN n (f x)) : PlA n (xs.map f) := PlN.map fun x _ => h x
theorem PlA.flat {α : Type} {n : Nat} {xs : List α} {f : α → List D} (h : ∀ x, PlA n (f x)) : PlA n (xs.flatMap f) := by
  intro y hy
  obtain ⟨x, _, hx⟩ := List.mem_flatMap.mp hy
  exact h x y hx
theorem PlN.lst' {n : Nat} {xs : List D} (h : PlA n xs) : PlN (n + 1) (.lst xs) := .lst h
theorem PlN.tup' {n : Nat} {xs : List D} (h : PlA n xs) : PlN (n + 1) (.tup xs) := .tup h
theorem pl_of {x : D} (h : PlN 20 x) : Pl x := h.pl_
theorem then_nxE {g : FS} {Q : Out → Prop} {e e' : En} {st : Sto} (he : e = e') (h : wpS g e' st Q) : Then g Q (.nx e st) := by subst he; exact h
end Dl
end
section
set_option Elab.async false
set_option linter.all false
set_option maxRecDepth 100000
set_option autoImplicit false
namespace Dl
open PySem
section
variable {env : En} {st s : Sto} {QD : D → Sto → Prop} {Q : Out → Prop} {X : XQ} {QI : ItD → Sto → Prop}
/-! ### comprehensions of any number of clauses, nothing carried -/
/-- a clause's tail adds the items L -/
noncomputable def KP (k : FK (List D)) (env : En) (st : Sto) (L : List D) : Prop := ∀ acc : List D, acc.length + L.length ≤ 16000000 → k env acc st = some (acc ++ L, st)
theorem kp_el {fe : FE} {y : D} (h : wpX fe env st (fun z s => s = st ∧ z = y) NX) : KP (eL fe) env st [y] := by
  intro acc hl
  obtain ⟨r, e, p⟩ := h
  cases r with
  | ex c ns ds s => exact p.elim
  | ok z s =>
    obtain ⟨rfl, rfl⟩ := p
    have : acc.length < sizeLine := by rw [sizeLine_eq]; simp at hl; omega
    simp only [eL, e, this, if_true]
theorem clL_kp {α : Type} {ok : Sto → Prop} {tgt : FG} {cond : FT} {k : FK (List D)} {env0 : En} (enc : α → D) (p : α → Bool) (G : α → List D) (hok : ok st) (xs : List α) (hs : ∀ x ∈ xs, ∃ e1, tgt (enc x) env0 st = some (e1, st) ∧ wpX cond e1 st (fun b s => s = st ∧ b = p x) NX ∧ (p x = true → KP k e1 st (G x))) :
    ∀ acc : List D, acc.length + ((xs.filter p).flatMap G).length ≤ 16000000 → clL ok tgt cond env0 k (xs.map enc) acc st = some (acc ++ (xs.filter p).flatMap G, st) := by
  induction xs with
  | nil => intro acc _; simp [clL, hok]
  | cons x xs ih =>
    intro acc hl
    obtain ⟨e1, et, hc, hk⟩ := hs x (by simp)
    have ih := ih fun y hy => hs y (by simp [hy])
    obtain ⟨rc, ec, pc⟩ := hc
    cases rc with
    | ex c ns ds s => exact pc.elim
    | ok b s =>
      obtain ⟨rfl, rfl⟩ := pc
      simp only [List.map_cons, clL, if_pos hok, et, ec]
      cases hp : p x with
      | false =>
        rw [List.filter_cons_of_neg (by simp [hp])] at hl ⊢
        simp only
        exact ih acc hl
      | true =>
        rw [List.filter_cons_of_pos (by simp [hp]), List.flatMap_cons] at hl ⊢
        rw [List.length_append] at hl
        simp only [hk hp acc (by omega)]
        rw [ih (acc ++ G x) (by simp only [List.length_append]; omega)]
        simp
theorem kp_cl {α : Type} {ws : List Nat} {fi : FI} {tgt : FG} {cond : FT} {k : FK (List D)} (xs : List α) (enc : α → D) (p : α → Bool) (G : α → List D) (hi : wpX fi env st (fun it s => s = st ∧ it.items = xs.map enc ∧ it.ok st) NX)
    (hs : ∀ x ∈ xs, ∃ e1, tgt (enc x) (wipeE env ws) st = some (e1, st) ∧ wpX cond e1 st (fun b s => s = st ∧ b = p x) NX ∧ (p x = true → KP k e1 st (G x))) : KP (clS ws fi tgt cond k) env st ((xs.filter p).flatMap G) := by
  intro acc hl
  obtain ⟨r, e, q⟩ := hi
  cases r with
  | ex c ns ds s => exact q.elim
  | ok it s =>
    obtain ⟨rfl, e2, e3⟩ := q
    simp only [clS, e, e2]
    exact clL_kp enc p G e3 xs hs acc hl
theorem filter_yes {α : Type} {xs : List α} : xs.filter (fun _ => true) = xs := List.filter_eq_self.mpr fun _ _ => rfl
theorem wp_yes {Q : Bool → Sto → Prop} (h : Q true st) : wpX tYesF env st Q X := ⟨_, rfl, h⟩
theorem kp_clA {α : Type} {ws : List Nat} {fi : FI} {tgt : FG} {k : FK (List D)} (xs : List α) (enc : α → D) (G : α → List D) (hi : wpX fi env st (fun it s => s = st ∧ it.items = xs.map enc ∧ it.ok st) NX)
    (hs : ∀ x ∈ xs, ∃ e1, tgt (enc x) (wipeE env ws) st = some (e1, st) ∧ KP k e1 st (G x)) : KP (clS ws fi tgt tYesF k) env st (xs.flatMap G) := by
  have := kp_cl (ws := ws) (k := k) (cond := tYesF) (tgt := tgt) xs enc (fun _ => true) G hi fun x hx => by
    obtain ⟨e1, h1, h2⟩ := hs x hx
    exact ⟨e1, h1, wp_yes ⟨rfl, rfl⟩, fun _ => h2⟩
  rwa [filter_yes] at this
/-- as a whole -/
theorem wp_comp {ws : List Nat} {fi : FI} {tgt : FG} {cond : FT} {k : FK (List D)} {L : List D} (hl : L.length ≤ 16000000) (hk : KP (clS ws fi tgt cond k) env st L) (h : QD (.lst L) st) : wpX (fComp ws fi tgt cond k [] (fun acc => fNew false (.lst acc))) env st QD X := by
  have h2 := hk [] (by simpa using hl)
  unfold clS at h2
  refine ⟨.ok (.lst L) st, ?_, h⟩
  unfold fComp
  cases q : fi env st with
  | none => rw [q] at h2; cases h2
  | some r =>
    rw [q] at h2
    cases r with
    | ex c ns ds s => cases h2
    | ok it s1 =>
      simp only at h2
      unfold fBind
      rw [q]
      simp only
      rw [h2]
      rfl
/-! ### loops that look for something and return -/
/-! ### the last item -/
theorem atI_neg1 {α : Type} {xs : List α} {y : α} : L2.atI (xs ++ [y]) (-1) = some y := by
  unfold L2.atI L2.ixN
  simp
  rw [if_pos (by omega)]
  simp only [Option.bind_some]
  rw [show (-1 + ((xs.length : Int) + 1)).toNat = xs.length by omega]
  simp
theorem ix_last {x y : D} {xs : List D} (e : items st x = some (xs ++ [y])) (h : QD y st) : wpX (gIx x (.int (-1))) env st QD X := by
  refine wp_P (a := y) ?_ h
  unfold items at e
  unfold ixS
  cases q : look st x with
  | none => rw [q] at e; cases e
  | some d =>
    rw [q] at e
    cases d <;> first | (cases e; exact atI_neg1) | cases e
end
end Dl
end
section
set_option Elab.async false
set_option linter.all false
set_option maxRecDepth 100000
set_option autoImplicit false
namespace Dl
open PySem
section
variable {α : Type} {env : En} {st s : Sto} {QD : D → Sto → Prop} {QA : List D → Sto → Prop} {Q : Out → Prop} {X : XQ} {c c' f : Str} {ns ns' : List Str} {ds es xs : List D} {d : D} {fa : FA} {fe : FE} {fb : FS} {XL : List Str} {hs : List Hd} {g : G}
/-! ### raise -/
noncomputable def Raise1Q (c f : Str) (env : En) (Q : Out → Prop) (ds : List D) (s : Sto) : Prop := ∃ d, ds = [d] ∧ Q (.ex c [f] [d] env s)
theorem wp_raise1 (h : wpX fa env st (Raise1Q c f env Q) (fun c ns ds s => Q (.ex c ns ds env s))) : wpS (sRaise1 c f fa) env st Q :=
  wp_bindS (wp_mono h fun ds s ⟨d, e, q⟩ => by subst e; exact ⟨_, rfl, q⟩)
theorem raise1q (h : Q (.ex c [f] [d] env s)) : Raise1Q c f env Q [d] s := ⟨d, rfl, h⟩
theorem wp_raise0 (h : Q (.ex c [] [] env st)) : wpS (sRaise0 c) env st Q := ⟨_, rfl, h⟩
theorem then_ex {g : FS} (h : Q (.ex c ns ds env st)) : Then g Q (.ex c ns ds env st) := h
theorem exit_ex (h : X c ns ds st) : Exit QD X (.ex c ns ds env st) := h
/-! ### try -/
noncomputable def TryQ (XL : List Str) (hs : List Hd) (Q : Out → Prop) : Out → Prop
  | .ex c ns ds e s => c ∈ XL ∧ wpS (pickH hs c ns ds) e s Q
  | o => Q o
theorem wp_tryH (h : wpS fb env st (TryQ XL hs Q)) : wpS (sTryH XL hs fb) env st Q := by
  obtain ⟨o, e, p⟩ := h
  cases o with
  | ex c ns ds e2 s =>
    obtain ⟨h1, o2, e3, p2⟩ := p
    exact ⟨o2, by simp only [sTryH, e, if_pos h1, e3], p2⟩
  | nx e2 s => exact ⟨_, by simp only [sTryH, e], p⟩
  | rt d s => exact ⟨_, by simp only [sTryH, e], p⟩
  | bk e2 s => exact ⟨_, by simp only [sTryH, e], p⟩
  | ct e2 s => exact ⟨_, by simp only [sTryH, e], p⟩
theorem try_nx (h : Q (.nx env st)) : TryQ XL hs Q (.nx env st) := h
theorem try_rt (h : Q (.rt d st)) : TryQ XL hs Q (.rt d st) := h
theorem try_bk (h : Q (.bk env st)) : TryQ XL hs Q (.bk env st) := h
theorem try_ct (h : Q (.ct env st)) : TryQ XL hs Q (.ct env st) := h
theorem wp_xf1 {n : Str} (h : QD d st) : wpX (fXf n [n] [d]) env st QD X := wp_P (by simp [lookN]) h
/-! ### starred items -/
noncomputable def StarQ (P : List D → Prop) (d : D) (s : Sto) : Prop := ∃ xs, items s d = some xs ∧ P xs
theorem wp_astar {fr : FA} (h : wpX fe env st (fun d s => StarQ (fun xs => wpX fr env s (fun ys s => QA (xs ++ ys) s) X) d s) X) : wpX (aStar fe fr) env st QA X := by
  refine wp_bind (wp_mono h fun d s ⟨xs, e, h2⟩ => wp_bind (wp_P e (wp_bind (wp_mono h2 fun ys s h => ⟨_, rfl, h⟩))))
theorem star_l {P : List D → Prop} (h : P xs) : StarQ P (.lst xs) s := ⟨xs, rfl, h⟩
theorem star_r {P : List D → Prop} (h : P xs) : StarQ P (.lstR xs) s := ⟨xs, rfl, h⟩
theorem star_t {P : List D → Prop} (h : P xs) : StarQ P (.tup xs) s := ⟨xs, rfl, h⟩
end
end Dl
end
section
set_option linter.all false
set_option maxRecDepth 100000
set_option maxHeartbeats 0
local macro_rules | `(tactic| row_has dgoC0) => `(tactic| first | (with_reducible show Dl.wpX (Dl.fVar _) _ _ _ _; refine Dl.wp_var rfl ?_) | (with_reducible refine Dl.then_nx ?_) | (with_reducible refine Dl.then_rt ?_) | (with_reducible refine Dl.then_bk ?_) | (with_reducible refine Dl.then_ct ?_) | (with_reducible refine Dl.exit_rt ?_) | (with_reducible refine Dl.exit_nx ?_) | (with_reducible refine Dl.lq_nx ?_) | (with_reducible refine Dl.lq_ct ?_) | (with_reducible refine Dl.lq_bk ?_) | (with_reducible refine Dl.lq_rt ?_) | (with_reducible refine Dl.lq_ex ?_) | (with_reducible refine Dl.cut_rt ?_) | (with_reducible refine Dl.cut_ex ?_) | (with_reducible refine Dl.isb ?_) | (with_reducible refine Dl.if_t ?_) | (with_reducible refine Dl.if_f ?_) | (with_reducible refine Dl.if_nt ?_) | (with_reducible refine Dl.if_nf ?_) | (with_reducible refine Dl.wp_cut ?_) | (with_reducible refine Dl.wp_seq ?_) | (with_reducible refine Dl.wp_nil ?_) | (with_reducible refine Dl.wp_break ?_) | (with_reducible refine Dl.wp_cont ?_) | (with_reducible refine Dl.wp_expr ?_) | (with_reducible refine Dl.wp_ret ?_) | (with_reducible refine Dl.wp_retN ?_) | (with_reducible refine Dl.wp_if ?_) | (with_reducible refine Dl.wp_set ?_) | (with_reducible refine Dl.wp_setSub ?_) | (with_reducible refine Dl.wp_fldS ?_) | (with_reducible refine Dl.wp_for ?_) | (with_reducible refine Dl.wp_c ?_) | (with_reducible refine Dl.wp_bind ?_) | (with_reducible refine Dl.wp_newF ?_) | (with_reducible refine Dl.wp_newT ?_) | (with_reducible refine Dl.wp_anil ?_) | (with_reducible refine Dl.wp_acons ?_) | (with_reducible refine Dl.wp_op2 ?_) | (with_reducible refine Dl.wp_asB ?_) | (with_reducible refine Dl.wp_chain ?_) | (with_reducible refine Dl.wp_truQ ?_) | (with_reducible refine Dl.wp_not ?_) | (with_reducible refine Dl.wp_and ?_) | (with_reducible refine Dl.wp_or ?_) | (with_reducible refine Dl.wp_andV ?_) | (with_reducible refine Dl.wp_orV ?_) | (with_reducible refine Dl.wp_notV ?_) | (with_reducible refine Dl.wp_ifE ?_) | (with_reducible refine Dl.wp_sub ?_) | (with_reducible refine Dl.wp_add ?_) | (with_reducible refine Dl.wp_lt ?_) | (with_reducible refine Dl.wp_le ?_) | (with_reducible refine Dl.wp_gt ?_) | (with_reducible refine Dl.wp_ge ?_) | (with_reducible refine Dl.wp_eqI ?_) | (with_reducible refine Dl.wp_neI ?_) | (with_reducible refine Dl.wp_isN ?_) | (with_reducible refine Dl.wp_isB ?_) | (with_reducible refine Dl.wp_lst ?_) | (with_reducible refine Dl.wp_tup ?_) | (with_reducible refine Dl.wp_CB ?_) | (with_reducible refine Dl.wp_call ?_) | (with_reducible refine Dl.wp_fldQ ?_) | (with_reducible refine Dl.wp_meth ?_) | (with_reducible refine Dl.wp_meth0 ?_) | (with_reducible refine Dl.wp_prop ?_) | (with_reducible refine Dl.wp_isiQ ?_) | (with_reducible refine Dl.wp_isoQ ?_) | (with_reducible refine Dl.wp_itQ ?_) | (with_reducible refine Dl.wp_lc ?_) | (with_reducible refine Dl.wp_make ?_) | (with_reducible refine Dl.wp_lm ?_) | (with_reducible refine Dl.wp_dict0 ?_) | (with_reducible refine Dl.wp_slF ?_) | (with_reducible refine Dl.wp_oNone ?_) | (with_reducible refine Dl.wp_oSome ?_) | (with_reducible refine Dl.tru_b ?_) | (with_reducible refine Dl.itL ?_) | (with_reducible refine Dl.itR ?_) | (with_reducible refine Dl.itT ?_) | (with_reducible refine Dl.wp_rngN ?_) | (with_reducible refine Dl.wp_rngAB ?_) | (with_reducible refine Dl.wp_negC ?_) | (with_reducible refine Dl.wp_eqBB ?_) | (with_reducible refine Dl.wp_neBB ?_) | (with_reducible refine Dl.wp_raise1 ?_) | (with_reducible refine Dl.raise1q ?_) | (with_reducible refine Dl.wp_raise0 ?_) | (with_reducible refine Dl.then_ex ?_) | (with_reducible refine Dl.exit_ex ?_) | (with_reducible refine Dl.wp_tryH ?_) | (with_reducible refine Dl.try_nx ?_) | (with_reducible refine Dl.try_rt ?_) | (with_reducible refine Dl.try_bk ?_) | (with_reducible refine Dl.try_ct ?_) | (with_reducible refine Dl.wp_xf1 ?_) | (with_reducible refine Dl.wp_astar ?_) | (with_reducible refine Dl.star_l ?_) | (with_reducible refine Dl.star_t ?_) | (with_reducible refine Dl.star_r ?_) | ((with_reducible refine Dl.and_len ?h1 ?_); (case h1 => rfl)) | ((with_reducible refine Dl.and_len1 ?h1 ?_); (case h1 => rfl)) | ((with_reducible refine Dl.and_le ?h1 ?_); (case h1 => (first | (simp; done) | (simp; omega)))) | ((with_reducible refine Dl.cut_nx ?h1 ?_); (case h1 => (first | rfl | (simp; done)))) | ((with_reducible refine Dl.cut_ct ?h1 ?_); (case h1 => (first | rfl | (simp; done)))) | ((with_reducible refine Dl.cut_bk ?h1 ?_); (case h1 => (first | rfl | (simp; done)))) | ((with_reducible refine Dl.isiQ_t ?h1 ?_); (case h1 => (first | rfl | (simp [Dl.isiB, Dl.tyN, Dl.isB]; done)))) | ((with_reducible refine Dl.isiQ_f ?h1 ?_); (case h1 => (first | rfl | (simp [Dl.isiB, Dl.tyN, Dl.isB]; done)))) | ((with_reducible refine Dl.isoQ_f ?h1 ?_); (case h1 => rfl)))
local macro_rules | `(tactic| row_has dgo) => `(tactic| repeat (first | row_has dgoC0))
local macro_rules | `(tactic| row_has dT) => `(tactic| first | exact decide_eq_true (by omega) | rfl | (simp; done) | (simp; omega))
local macro_rules | `(tactic| row_has dF) => `(tactic| first | exact decide_eq_false (by omega) | rfl | (simp; done) | (simp; omega))
section
set_option Elab.async false
set_option linter.all false
set_option maxRecDepth 100000
set_option autoImplicit false
set_option maxHeartbeats 0
namespace BJ
open PySem Dl
/-! ### tables -/
noncomputable def Good (n : Nat) (f : Nat → Nat → Nat) : Prop := ∀ i j, i < n → j < n → f i j < n ∧ f i j = f j i
noncomputable def rowD (n : Nat) (f : Nat → Nat → Nat) (i : Nat) : List D := (List.range n).map fun j => dI (f i j)
noncomputable def rowsL (n : Nat) (f : Nat → Nat → Nat) : List D := (List.range n).map fun i => .lst (rowD n f i)
noncomputable def matD (n : Nat) (f : Nat → Nat → Nat) : D := .lst (rowsL n f)
noncomputable def tabD (n : Nat) (f : Nat → Nat → Nat) : D := .ins "Table" ["own_rows"] [matD n f]
/-- something that reads as rows -/
noncomputable def Grid (st : Sto) (x : D) (n : Nat) (f : Nat → Nat → Nat) : Prop := ∃ ds, items st x = some ds ∧ ds.length = n ∧ ∀ i, i < n → ∃ r, ds[i]? = some r ∧ items st r = some (rowD n f i)
theorem rowD_len {n : Nat} {f : Nat → Nat → Nat} {i : Nat} : (rowD n f i).length = n := by simp [rowD]
theorem rowD_get {n : Nat} {f : Nat → Nat → Nat} {i j : Nat} (h : j < n) : (rowD n f i)[j]? = some (dI (f i j)) := by simp [rowD, h]
theorem rowsL_len {n : Nat} {f : Nat → Nat → Nat} : (rowsL n f).length = n := by simp [rowsL]
theorem rowsL_get {n : Nat} {f : Nat → Nat → Nat} {i : Nat} (h : i < n) : (rowsL n f)[i]? = some (.lst (rowD n f i)) := by simp [rowsL, h]
theorem Grid.mat {st : Sto} {n : Nat} {f : Nat → Nat → Nat} : Grid st (matD n f) n f := ⟨_, rfl, by simp [rowsL], fun i h => ⟨.lst (rowD n f i), rowsL_get h, rfl⟩⟩
noncomputable def isInt : D → Bool
  | .int _ => true
  | _ => false
theorem is_integer_int {st : Sto} {i : Int} : g_is_integer [.int i] st = some (.ok (.bl true) st) := by
  refine wpG_eq (wp_exit ?_)
  unfold b_is_integer
  row_has dgo
  exact ⟨rfl, rfl⟩
theorem is_colour_int {st : Sto} {n : Nat} {i : Int} : g_is_colour [dI n, .int i] st = some (.ok (.bl (decide (0 ≤ i ∧ i < n))) st) := by
  refine wpG_eq (wp_exit ?_)
  unfold b_is_colour
  row_has dgo
  (refine wpG_ok (is_integer_int) ?_)
  row_has dgo
  refine if_dec (fun h => ?_) fun h => ?_
  · row_has dgo
    exact ⟨rfl, by simp [h]⟩
  · row_has dgo
    exact ⟨rfl, by simp [h]⟩
noncomputable def isCol (n : Nat) : D → Bool
  | .int i => decide (0 ≤ i ∧ i < n)
  | _ => false
/-- a value that is neither tracked nor of a class outside -/
noncomputable def Val : D → Bool
  | .ins c _ _ => decide (c ∈ CL)
  | x => (tyN x).isSome
theorem is_integer_no {st : Sto} {x : D} (hv : Val x = true) (h : isInt x = false) : g_is_integer [x] st = some (.ok (.bl false) st) := by
  refine wpG_eq (wp_exit ?_)
  unfold b_is_integer
  cases x with
  | int i => cases h
  | ins c ns ds =>
    simp only [Val, decide_eq_true_eq] at hv
    row_has dgo
    refine isiQ_ins hv ?_
    row_has dgo
    exact ⟨rfl, rfl⟩
  | bl b =>
    row_has dgo
    exact ⟨rfl, rfl⟩
  | obj k => simp [Val, tyN] at hv
  | ty k => simp [Val, tyN] at hv
  | fn k => simp [Val, tyN] at hv
  | gl k => simp [Val, tyN] at hv
  | dN ks ds => simp [Val, tyN] at hv
  | _ =>
    row_has dgo
    exact ⟨rfl, rfl⟩
theorem is_colour_any {st : Sto} {n : Nat} {x : D} (hv : Val x = true) : g_is_colour [dI n, x] st = some (.ok (.bl (isCol n x)) st) := by
  cases hx : isInt x with
  | true =>
    cases x <;> simp only [isInt, reduceCtorEq] at hx
    exact is_colour_int
  | false =>
    refine wpG_eq (wp_exit ?_)
    unfold b_is_colour
    row_has dgo
    (refine wpG_ok (is_integer_no hv hx) ?_)
    row_has dgo
    refine ⟨rfl, ?_⟩
    cases x <;> simp only [isInt, reduceCtorEq] at hx <;> rfl
theorem len_g {st : Sto} {x : D} {ds : List D} {n : Nat} {env : En} {QD : D → Sto → Prop} {X : XQ} (h : items st x = some ds) (hn : ds.length = n) (q : QD (dI n) st) : wpX (g1 lenS [x]) env st QD X := by
  subst hn
  exact wp_len h q
theorem allS_map {α : Type} {st : Sto} {xs : List α} {p : α → Bool} : allS st (.lst (xs.map fun x => .bl (p x))) = some (.bl (xs.all p)) := by
  have : xs.map (fun x => D.bl (p x)) = (xs.map p).map D.bl := by simp
  rw [this]
  simp only [allS, lstI, look, Option.bind_some, bools_map, Option.map_some]
  simp [List.all_map]
theorem has_shape_ok {st : Sto} {x : D} {n : Nat} {f : Nat → Nat → Nat} (hg : Grid st x n f) (h1 : 1 ≤ n) (h8 : n ≤ 8) : g_has_shape [x] st = some (.ok (.bl true) st) := by
  obtain ⟨ds, hd, hn, hr⟩ := hg
  refine wpG_eq (wp_exit ?_)
  unfold b_has_shape
  row_has dgo
  refine ⟨_, isi_items hd, ?_⟩
  row_has dgo
  refine len_g hd hn ?_
  row_has dgo
  (refine ifT (by row_has dT) ?_)
  row_has dgo
  (refine ifF (by row_has dF) ?_)
  row_has dgo
  obtain ⟨it, e1, e2, e3⟩ := itOf_items hd
  refine ⟨it, e1, ?_⟩
  refine lcA ds id (fun _ => .bl true) (by simpa using e2) (e3 st rfl) (by omega) (fun r hr' => ⟨_, rfl, ?_⟩) ?_
  · obtain ⟨i, hi⟩ := List.mem_iff_getElem?.mp hr'
    have hin : i < n := by have := (List.getElem?_eq_some_iff.mp hi).1; omega
    obtain ⟨r', hr1, hr2⟩ := hr i hin
    rw [hi] at hr1
    cases hr1
    row_has dgo
    refine ⟨_, isi_items hr2, ?_⟩
    row_has dgo
    refine len_g hr2 rowD_len ?_
    row_has dgo
    refine len_g hd hn ?_
    row_has dgo
    exact ⟨rfl, by simp⟩
  · row_has dgo
    refine wp_g1 (allS_map (p := fun _ => true)) ?_
    row_has dgo
    exact ⟨rfl, by simp⟩
noncomputable def plL (n : Nat) : List D := (List.range n).flatMap fun a => (List.range n).map fun b => .tup [dI a, dI b]
theorem places_ok {st : Sto} {n : Nat} (h8 : n ≤ 8) : g_places [dI n] st = some (.ok (.lst (plL n)) st) := by
  refine wpG_eq (wp_exit ?_)
  unfold b_places
  row_has dgo
  refine wp_lc2 ?_
  row_has dgo
  refine ⟨n, rfl, by omega, ?_⟩
  refine lc2A (List.range n) dI (fun _ => List.range n) dI (fun a b => .tup [dI a, dI b]) 8 rfl trivial (by simp; omega) (fun _ _ => by simpa using h8) (fun a _ => ⟨_, rfl, ?_, fun b _ => ⟨_, rfl, ?_⟩⟩) ?_
  · row_has dgo
    exact ⟨n, rfl, by omega, rfl, rfl, trivial⟩
  · row_has dgo
    exact ⟨rfl, rfl⟩
  · row_has dgo
    exact ⟨rfl, rfl⟩
theorem mem_plL {n : Nat} {d : D} (h : d ∈ plL n) : ∃ a b : Nat, a < n ∧ b < n ∧ d = .tup [dI a, dI b] := by
  unfold plL at h
  simp only [List.mem_flatMap, List.mem_range, List.mem_map] at h
  obtain ⟨a, ha, b, hb, rfl⟩ := h
  exact ⟨a, b, ha, hb, rfl⟩
theorem ixG {st : Sto} {env : En} {QD : D → Sto → Prop} {X : XQ} {x d : D} {m : Nat} {xs : List D} (e : items st x = some xs) (hm : xs[m]? = some d) (h : QD d st) : wpX (gIx x (dI m)) env st QD X := wp_ixN e hm h
theorem first_wrong_ok {st : Sto} {x : D} {n : Nat} {f : Nat → Nat → Nat} (hg : Grid st x n f) (h8 : n ≤ 8) (hf : Good n f) : g_first_wrong_place [x] st = some (.ok .non st) := by
  obtain ⟨ds, hd, hn, hr⟩ := hg
  refine wpG_eq (wp_exit ?_)
  unfold b_first_wrong_place
  row_has dgo
  refine len_g hd hn ?_
  row_has dgo
  (refine wpG_ok (places_ok h8) ?_)
  row_has dgo
  (refine loopK (plL n) (id) ?hi_1 ?ok_1 (fun d hd' => ?_) ?_; (case hi_1 => first | rfl | exact (List.map_id _).symm | (simp; done)); (case ok_1 => first | trivial | exact fun _ => trivial | assumption))
  · obtain ⟨a, b, ha, hb, rfl⟩ := mem_plL hd'
    obtain ⟨ra, hra, hra2⟩ := hr a ha
    obtain ⟨rb, hrb, hrb2⟩ := hr b hb
    obtain ⟨f1, f2⟩ := hf a b ha hb
    refine ⟨_, rfl, ?_⟩
    row_has dgo
    refine len_g hd hn ?_
    row_has dgo
    refine ixG hd hra ?_
    row_has dgo
    refine ixG hra2 (rowD_get hb) ?_
    row_has dgo
    (refine wpG_ok (is_colour_int) ?_)
    row_has dgo
    refine ifF (by simp [f1]) ?_
    row_has dgo
    refine if_dec (fun _ => ?_) fun _ => ?_
    · row_has dgo
      refine ixG hd hrb ?_
      row_has dgo
      refine ixG hrb2 (rowD_get ha) ?_
      row_has dgo
      refine ixG hd hra ?_
      row_has dgo
      refine ixG hra2 (rowD_get hb) ?_
      row_has dgo
      refine ifF (by simp [f2]) ?_
      row_has dgo
      exact ⟨rfl, rfl⟩
    · row_has dgo
      exact ⟨rfl, rfl⟩
  · row_has dgo
    exact ⟨rfl, rfl⟩
theorem items_app {st r : Sto} {y : D} {xs : List D} (h : items st y = some xs) : items (st ++ r) y = some xs := by
  unfold items at h ⊢
  cases y with
  | obj i =>
    simp only [look] at h ⊢
    by_cases hi : i < st.length
    · rw [List.getElem?_append_left hi]; exact h
    · rw [List.getElem?_eq_none (by omega)] at h; cases h
  | _ => exact h
theorem Grid.app {st r : Sto} {x : D} {n : Nat} {f : Nat → Nat → Nat} (h : Grid st x n f) : Grid (st ++ r) x n f := by
  obtain ⟨ds, hd, hn, hr⟩ := h
  exact ⟨ds, items_app hd, hn, fun i hi => let ⟨r, h1, h2⟩ := hr i hi; ⟨r, h1, items_app h2⟩⟩
theorem closed_rowD {n m : Nat} {f : Nat → Nat → Nat} {i : Nat} : closeds m (rowD n f i) = true := closeds_iff.mpr fun x hx => by
  obtain ⟨j, _, rfl⟩ := List.mem_map.mp hx
  rfl
theorem closed_rowsL {n m : Nat} {f : Nat → Nat → Nat} : closeds m (rowsL n f) = true := closeds_iff.mpr fun x hx => by
  obtain ⟨j, _, rfl⟩ := List.mem_map.mp hx
  exact closed_rowD
theorem closed_mat {n m : Nat} {f : Nat → Nat → Nat} : D.closed m (matD n f) = true := closed_rowsL
theorem closed_tab {n m : Nat} {f : Nat → Nat → Nat} : D.closed m (tabD n f) = true := by simp only [tabD, D.closed, closeds, closed_mat, Bool.and_self]
/-- the comprehension that copies rows -/
theorem copy_rows {st : Sto} {x : D} {n : Nat} {f : Nat → Nat → Nat} {ok : Sto → Prop} {tgt : FG} {elt : FE} {env0 : En} {its : List D} {R : List D → Sto → Prop} (hg : Grid st x n f) (hi : items st x = some its) (h8 : n ≤ 8) (hok : ok st)
    (hs : ∀ r i, i < n → items st r = some (rowD n f i) → ∃ e1, tgt r env0 st = some (e1, st) ∧ wpX elt e1 st (fun z s => s = st ∧ z = .lst (rowD n f i)) NX)
    (h : R (rowsL n f) st) : ∃ acc s', lcS ok tgt tYesF elt env0 its [] st = some (acc, s') ∧ R acc s' := by
  obtain ⟨ds, hd, hn, hr⟩ := hg
  rw [hd] at hi
  cases hi
  have ed : its = (List.range n).map fun i => its.getD i .non := by
    apply List.ext_getElem
    · simp [hn]
    · intro i h1 h2
      simp [List.getD, h1]
  refine lcA (List.range n) (fun i => its.getD i .non) (fun i => .lst (rowD n f i)) ed hok (by simp; omega) (fun i hi => ?_) h
  have hin := List.mem_range.mp hi
  obtain ⟨r, h1, h2⟩ := hr i hin
  have er : its.getD i .non = r := by simp [List.getD, h1]
  rw [er]
  exact hs r i hin h2
theorem init_Table {st : Sto} {x : D} {n : Nat} {f : Nat → Nat → Nat} (hg : Grid st x n f) (h1 : 1 ≤ n) (h8 : n ≤ 8) (hf : Good n f) : g_Table_init [.obj st.length, x] (st ++ [.ins "Table" [] []]) = some (.ok .non (st ++ [tabD n f])) := by
  refine wpG_eq (wp_exit ?_)
  unfold b_Table_init
  row_has dgo
  (refine wpG_ok (has_shape_ok hg.app h1 h8) ?_)
  row_has dgo
  (refine wpG_ok (first_wrong_ok hg.app h8 hf) ?_)
  row_has dgo
  refine ifF rfl ?_
  row_has dgo
  obtain ⟨it, e1, e2, e3⟩ := itOf_items (hg.app (r := [.ins "Table" [] []])).choose_spec.1
  refine ⟨it, e1, ?_⟩
  refine copy_rows hg.app (by rw [e2]; exact hg.app.choose_spec.1) h8 (e3 _ rfl) (fun r i hi hr => ⟨_, rfl, ?_⟩) ?_
  · row_has dgo
    refine wp_listF hr ?_
    exact ⟨rfl, rfl⟩
  · row_has dgo
    refine ⟨_, fldPut_last (by decide), ?_⟩
    row_has dgo
    exact ⟨rfl, rfl⟩
theorem mk_Table {st : Sto} {env : En} {x : D} {n : Nat} {f : Nat → Nat → Nat} (hg : Grid st x n f) (h1 : 1 ≤ n) (h8 : n ≤ 8) (hf : Good n f) : mkS true "Table" g_Table_init [x] env st = some (.ok (tabD n f) st) := by
  simp only [mkS, init_Table hg h1 h8 hf, mkR, if_true]
  exact fz_one Old.rfl' closed_tab
theorem fld_T {st : Sto} {n : Nat} {f : Nat → Nat → Nat} : fldS "Table" "own_rows" st (tabD n f) = some (matD n f) := by
  simp [fldS, look, tabD, lookN]
theorem Table_size_ok {st : Sto} {n : Nat} {f : Nat → Nat → Nat} : g_Table_size [tabD n f] st = some (.ok (dI n) st) := by
  refine wpG_eq (wp_exit ?_)
  unfold b_Table_size
  row_has dgo
  refine ⟨_, fld_T, ?_⟩
  row_has dgo
  refine len_g (ds := rowsL n f) rfl rowsL_len ?_
  row_has dgo
  exact ⟨rfl, rfl⟩
theorem Table_len_ok {st : Sto} {n : Nat} {f : Nat → Nat → Nat} : g_Table_len [tabD n f] st = some (.ok (dI n) st) := by
  refine wpG_eq (wp_exit ?_)
  unfold b_Table_len
  row_has dgo
  refine ⟨_, fld_T, ?_⟩
  row_has dgo
  refine len_g (ds := rowsL n f) rfl rowsL_len ?_
  row_has dgo
  exact ⟨rfl, rfl⟩
theorem Table_rows_ok {st : Sto} {n : Nat} {f : Nat → Nat → Nat} (h8 : n ≤ 8) : g_Table_rows [tabD n f] st = some (.ok (matD n f) st) := by
  refine wpG_eq (wp_exit ?_)
  unfold b_Table_rows
  row_has dgo
  refine ⟨_, fld_T, ?_⟩
  refine itL ?_
  refine copy_rows Grid.mat rfl h8 trivial (fun r i hi hr => ⟨_, rfl, ?_⟩) ?_
  · row_has dgo
    refine wp_listF hr ?_
    exact ⟨rfl, rfl⟩
  · row_has dgo
    exact ⟨rfl, rfl⟩
theorem isIns_T {st : Sto} {n : Nat} {f : Nat → Nat → Nat} {m : Str} (h : (m == ("own_rows" : Str)) = false) : isIns "Table" m st (tabD n f) = true := by
  simp only [isIns, look, tabD, List.contains_cons, List.contains_nil, Bool.or_false, h]
  rfl
theorem isCls_T {st : Sto} {n : Nat} {f : Nat → Nat → Nat} : isCls "Table" st (tabD n f) = true := by
  simp [isCls, look, tabD]
theorem and_isT {st : Sto} {n : Nat} {f : Nat → Nat → Nat} {P : Prop} (h : P) : isCls "Table" st (tabD n f) = true ∧ P := ⟨isCls_T, h⟩
theorem and_mT {st : Sto} {n : Nat} {f : Nat → Nat → Nat} {m : Str} {P : Prop} (e : (m == ("own_rows" : Str)) = false) (h : P) : isIns "Table" m st (tabD n f) = true ∧ P := ⟨isIns_T e, h⟩
section
variable {env : En} {st : Sto} {QD : D → Sto → Prop} {X : XQ}
theorem itM {QI : ItD → Sto → Prop} {n : Nat} {f : Nat → Nat → Nat} (h : QI ⟨rowsL n f, fun _ => True⟩ st) : ItQ QI (matD n f) st := itL h
theorem fldT {n : Nat} {f : Nat → Nat → Nat} (h : QD (matD n f) st) : FldQ "Table" "own_rows" QD (tabD n f) st := ⟨_, fld_T, h⟩
theorem ix_mat {n m : Nat} {f : Nat → Nat → Nat} (hm : m < n) (h : QD (.lst (rowD n f m)) st) : wpX (gIx (matD n f) (dI m)) env st QD X := ixG (xs := rowsL n f) rfl (rowsL_get hm) h
theorem ix_row {n i m : Nat} {f : Nat → Nat → Nat} (hm : m < n) (h : QD (dI (f i m)) st) : wpX (gIx (.lst (rowD n f i)) (dI m)) env st QD X := ixG (xs := rowD n f i) rfl (rowD_get hm) h
theorem len_mat {n : Nat} {f : Nat → Nat → Nat} (h : QD (dI n) st) : wpX (g1 lenS [matD n f]) env st QD X := len_g (ds := rowsL n f) rfl rowsL_len h
theorem ix0L {d : D} {r : List D} (h : QD d st) : wpX (gIx (.lst (d :: r)) (.int 0)) env st QD X := wp_ix (xs := d :: r) rfl (by decide) rfl h
theorem ix1L {a d : D} {r : List D} (h : QD d st) : wpX (gIx (.lst (a :: d :: r)) (.int 1)) env st QD X := wp_ix (xs := a :: d :: r) rfl (by decide) rfl h
theorem ix2L {a b d : D} {r : List D} (h : QD d st) : wpX (gIx (.lst (a :: b :: d :: r)) (.int 2)) env st QD X := wp_ix (xs := a :: b :: d :: r) rfl (by decide) rfl h
theorem ix3L {a b c d : D} {r : List D} (h : QD d st) : wpX (gIx (.lst (a :: b :: c :: d :: r)) (.int 3)) env st QD X := wp_ix (xs := a :: b :: c :: d :: r) rfl (by decide) rfl h
theorem ix0T {d : D} {r : List D} (h : QD d st) : wpX (gIx (.tup (d :: r)) (.int 0)) env st QD X := wp_ix (xs := d :: r) rfl (by decide) rfl h
theorem ix1T {a d : D} {r : List D} (h : QD d st) : wpX (gIx (.tup (a :: d :: r)) (.int 1)) env st QD X := wp_ix (xs := a :: d :: r) rfl (by decide) rfl h
theorem ix2T {a b d : D} {r : List D} (h : QD d st) : wpX (gIx (.tup (a :: b :: d :: r)) (.int 2)) env st QD X := wp_ix (xs := a :: b :: d :: r) rfl (by decide) rfl h
theorem ix3T {a b c d : D} {r : List D} (h : QD d st) : wpX (gIx (.tup (a :: b :: c :: d :: r)) (.int 3)) env st QD X := wp_ix (xs := a :: b :: c :: d :: r) rfl (by decide) rfl h
theorem len_lst {xs : List D} (h : QD (dI xs.length) st) : wpX (g1 lenS [.lst xs]) env st QD X := len_g (ds := xs) rfl rfl h
theorem len_tup {xs : List D} (h : QD (dI xs.length) st) : wpX (g1 lenS [.tup xs]) env st QD X := len_g (ds := xs) rfl rfl h
end
end BJ
end
local macro_rules | `(tactic| row_has dgoC1) => `(tactic| first | (with_reducible refine BJ.and_isT ?_) | (with_reducible refine BJ.fldT ?_) | (with_reducible refine BJ.itM ?_) | (with_reducible refine BJ.len_mat ?_) | (with_reducible refine Dl.wpG_ok BJ.Table_size_ok ?_) | (with_reducible refine Dl.wpG_ok BJ.Table_len_ok ?_) | (with_reducible refine BJ.len_lst ?_) | (with_reducible refine BJ.len_tup ?_) | (with_reducible refine BJ.ix0L ?_) | (with_reducible refine BJ.ix1L ?_) | (with_reducible refine BJ.ix2L ?_) | (with_reducible refine BJ.ix3L ?_) | (with_reducible refine BJ.ix0T ?_) | (with_reducible refine BJ.ix1T ?_) | (with_reducible refine BJ.ix2T ?_) | (with_reducible refine BJ.ix3T ?_))
local macro_rules | `(tactic| row_has dgo) => `(tactic| repeat (first | row_has dgoC0 | row_has dgoC1))
section
set_option Elab.async false
set_option linter.all false
set_option maxRecDepth 100000
set_option autoImplicit false
set_option maxHeartbeats 0
namespace BJ
open PySem Dl
theorem validate_ok {st : Sto} {n : Nat} {f : Nat → Nat → Nat} {i : Nat} (h : i < n) : g_Table_validate_colour [tabD n f, dI i] st = some (.ok .non st) := by
  refine wpG_eq (wp_exit ?_)
  unfold b_Table_validate_colour
  row_has dgo
  (refine wpG_ok (is_colour_int) ?_)
  row_has dgo
  refine ifF (by simp [h]) ?_
  row_has dgo
  exact ⟨rfl, rfl⟩
theorem getitem_ok {st : Sto} {n : Nat} {f : Nat → Nat → Nat} {i j : Nat} (hi : i < n) (hj : j < n) : g_Table_getitem [tabD n f, .tup [dI i, dI j]] st = some (.ok (dI (f i j)) st) := by
  refine wpG_eq (wp_exit ?_)
  unfold b_Table_getitem
  row_has dgo
  (refine ifF (by row_has dF) ?_)
  row_has dgo
  (refine loopK ([i, j]) (dI) ?hi_2 ?ok_2 (fun k hk => ?_) ?_; (case hi_2 => first | rfl | exact (List.map_id _).symm | (simp; done)); (case ok_2 => first | trivial | exact fun _ => trivial | assumption))
  · refine ⟨_, rfl, ?_⟩
    have hkn : k < n := by simp at hk; omega
    row_has dgo
    refine and_mT (by decide) ?_
    row_has dgo
    (refine wpG_ok (validate_ok hkn) ?_)
    row_has dgo
    exact ⟨rfl, rfl⟩
  · row_has dgo
    refine ix_mat hi ?_
    row_has dgo
    refine ix_row hj ?_
    row_has dgo
    exact ⟨rfl, rfl⟩
noncomputable def ndL (xs : List Nat) : List D := xs.map dI
end BJ
end
section
set_option Elab.async false
set_option linter.all false
set_option maxRecDepth 100000
set_option autoImplicit false
set_option maxHeartbeats 0
namespace BJ
open PySem Dl
/-! ### jars -/
noncomputable def cntL (n : Nat) (c : Nat → Nat) : List D := (List.range n).map fun i => dI (c i)
noncomputable def jarD (n : Nat) (c : Nat → Nat) : D := .ins "Jar" ["own_counts"] [.lst (cntL n c)]
theorem cntL_len {n : Nat} {c : Nat → Nat} : (cntL n c).length = n := by simp [cntL]
theorem cntL_get {n i : Nat} {c : Nat → Nat} (h : i < n) : (cntL n c)[i]? = some (dI (c i)) := by simp [cntL, h]
theorem cntL_nd {n : Nat} {c : Nat → Nat} : cntL n c = ndL ((List.range n).map c) := by simp [cntL, ndL]
theorem closed_cntL {n m : Nat} {c : Nat → Nat} : closeds m (cntL n c) = true := closeds_iff.mpr fun x hx => by
  obtain ⟨j, _, rfl⟩ := List.mem_map.mp hx
  rfl
theorem closed_jar {n m : Nat} {c : Nat → Nat} : D.closed m (jarD n c) = true := by simp only [jarD, D.closed, closeds, closed_cntL, Bool.and_self]
theorem pl_cnt {n k : Nat} {c : Nat → Nat} : PlN (k + 1) (.lst (cntL n c)) := .lst (.map fun _ _ => .int)
theorem cnt_inj {n m : Nat} {c d : Nat → Nat} : cntL n c = cntL m d ↔ n = m ∧ ∀ i, i < n → c i = d i := by
  constructor
  · intro h
    have hl : n = m := by have := congrArg List.length h; simpa [cntL] using this
    subst hl
    refine ⟨rfl, fun i hi => ?_⟩
    have h1 : (cntL n c)[i]? = (cntL n d)[i]? := by rw [h]
    rw [cntL_get hi, cntL_get hi] at h1
    have := D.int.inj (Option.some.inj h1)
    omega
  · rintro ⟨rfl, h⟩
    unfold cntL
    apply List.map_congr_left
    intro i hi
    rw [h i (List.mem_range.mp hi)]
section
variable {env : En} {st : Sto} {QD : D → Sto → Prop} {X : XQ} {QI : ItD → Sto → Prop}
theorem fld_J {n : Nat} {c : Nat → Nat} : fldS "Jar" "own_counts" st (jarD n c) = some (.lst (cntL n c)) := by simp [fldS, look, jarD, lookN]
theorem fldJ {n : Nat} {c : Nat → Nat} (h : QD (.lst (cntL n c)) st) : FldQ "Jar" "own_counts" QD (jarD n c) st := ⟨_, fld_J, h⟩
theorem isIns_J {n : Nat} {c : Nat → Nat} {m : Str} (h : (m == ("own_counts" : Str)) = false) : isIns "Jar" m st (jarD n c) = true := by
  simp only [isIns, look, jarD, List.contains_cons, List.contains_nil, Bool.or_false, h]
  rfl
theorem isCls_J {n : Nat} {c : Nat → Nat} : isCls "Jar" st (jarD n c) = true := by simp [isCls, look, jarD]
theorem and_isJ {n : Nat} {c : Nat → Nat} {P : Prop} (h : P) : isCls "Jar" st (jarD n c) = true ∧ P := ⟨isCls_J, h⟩
theorem and_mJ {n : Nat} {c : Nat → Nat} {m : Str} {P : Prop} (e : (m == ("own_counts" : Str)) = false) (h : P) : isIns "Jar" m st (jarD n c) = true ∧ P := ⟨isIns_J e, h⟩
theorem len_cnt {n : Nat} {c : Nat → Nat} (h : QD (dI n) st) : wpX (g1 lenS [.lst (cntL n c)]) env st QD X := len_g (ds := cntL n c) rfl cntL_len h
theorem ix_cnt {n i : Nat} {c : Nat → Nat} (hi : i < n) (h : QD (dI (c i)) st) : wpX (gIx (.lst (cntL n c)) (dI i)) env st QD X := ixG (xs := cntL n c) rfl (cntL_get hi) h
theorem isi_J {n : Nat} {c : Nat → Nat} : (isiS CL [] st (jarD n c)).isSome = true := isi_ins (by decide)
end
end BJ
end
local macro_rules | `(tactic| row_has dgoC2) => `(tactic| first | (with_reducible refine BJ.and_isJ ?_) | (with_reducible refine BJ.fldJ ?_) | (with_reducible refine BJ.len_cnt ?_))
local macro_rules | `(tactic| row_has dgo) => `(tactic| repeat (first | row_has dgoC0 | row_has dgoC1 | row_has dgoC2))
section
set_option Elab.async false
set_option linter.all false
set_option maxRecDepth 100000
set_option autoImplicit false
set_option maxHeartbeats 0
namespace BJ
open PySem Dl
section
variable {env : En} {st : Sto} {QD : D → Sto → Prop} {X : XQ}
theorem are_counts_ok {x : D} {n : Nat} {c : Nat → Nat} (hx : items st x = some (cntL n c)) (h1 : 1 ≤ n) (h8 : n ≤ 8) : g_are_counts [x] st = some (.ok (.bl true) st) := by
  refine wpG_eq (wp_exit ?_)
  unfold b_are_counts
  row_has dgo
  refine ⟨_, isi_items hx, ?_⟩
  row_has dgo
  refine len_g hx cntL_len ?_
  row_has dgo
  (refine ifT (by row_has dT) ?_)
  row_has dgo
  (refine ifF (by row_has dF) ?_)
  row_has dgo
  obtain ⟨it, e1, e2, e3⟩ := itOf_items hx
  refine ⟨it, e1, ?_⟩
  refine lcA (List.range n) (fun i => dI (c i)) (fun _ => .bl true) (by rw [e2]; rfl) (e3 st rfl) (by simp; omega) (fun i hi => ⟨_, rfl, ?_⟩) ?_
  · row_has dgo
    (refine wpG_ok (is_integer_int) ?_)
    row_has dgo
    exact ⟨rfl, by simp⟩
  · row_has dgo
    refine wp_g1 (allS_map (p := fun _ => true)) ?_
    row_has dgo
    exact ⟨rfl, by simp⟩
theorem mk_Jar {x : D} {n : Nat} {c : Nat → Nat} (hx : items st x = some (cntL n c)) (h1 : 1 ≤ n) (h8 : n ≤ 8) : mkS true "Jar" g_Jar_init [x] env st = some (.ok (jarD n c) st) := by
  have e : g_Jar_init [.obj st.length, x] (st ++ [.ins "Jar" [] []]) = some (.ok .non (st ++ [jarD n c])) := by
    refine wpG_eq (wp_exit ?_)
    unfold b_Jar_init
    row_has dgo
    (refine wpG_ok (are_counts_ok (items_app hx) h1 h8) ?_)
    row_has dgo
    refine wp_listF (items_app hx) ?_
    row_has dgo
    refine ⟨_, fldPut_last (by decide), ?_⟩
    row_has dgo
    exact ⟨rfl, rfl⟩
  simp only [mkS, e, mkR, if_true]
  exact fz_one Old.rfl' closed_jar
theorem Jar_size_ok {n : Nat} {c : Nat → Nat} : g_Jar_size [jarD n c] st = some (.ok (dI n) st) := by
  refine wpG_eq (wp_exit ?_)
  unfold b_Jar_size
  row_has dgo
  exact ⟨rfl, by rw [cntL_len]⟩
theorem Jar_counts_ok {n : Nat} {c : Nat → Nat} : g_Jar_counts [jarD n c] st = some (.ok (.lst (cntL n c)) st) := by
  refine wpG_eq (wp_exit ?_)
  unfold b_Jar_counts
  row_has dgo
  refine wp_listF (xs := cntL n c) rfl ?_
  exact ⟨rfl, rfl⟩
end
end BJ
end
local macro_rules | `(tactic| row_has dgoC3) => `(tactic| first | (with_reducible refine Dl.wpG_ok BJ.Jar_size_ok ?_) | (with_reducible refine Dl.wpG_ok BJ.Jar_counts_ok ?_))
local macro_rules | `(tactic| row_has dgo) => `(tactic| repeat (first | row_has dgoC0 | row_has dgoC1 | row_has dgoC2 | row_has dgoC3))
section
set_option Elab.async false
set_option linter.all false
set_option maxRecDepth 100000
set_option autoImplicit false
set_option maxHeartbeats 0
namespace BJ
open PySem Dl
section
variable {env : En} {st : Sto} {QD : D → Sto → Prop} {X : XQ}
/-- the colours of a jar -/
noncomputable def cols (n : Nat) (c : Nat → Nat) : List Nat := (List.range n).filter fun i => decide (0 < c i)
theorem enD_cnt {n : Nat} {c : Nat → Nat} : enD (cntL n c) = (List.range n).map fun i => D.tup [dI i, dI (c i)] := by
  unfold enD
  rw [cntL_len]
  apply List.ext_getElem
  · simp [cntL]
  · intro i h1 h2
    simp [cntL]
theorem wp_enumL {fa : FE} {xs : List D} {QI : ItD → Sto → Prop} (h : wpX fa env st (fun d s => d = .lst xs ∧ QI ⟨enD xs, fun _ => True⟩ s) X) : wpX (fItE (aCons fa aNil)) env st QI X := by
  refine wp_bind (wp_acons (wp_mono h fun d s ⟨e, h⟩ => wp_anil ?_))
  subst e
  refine wp_P (a := ⟨enD xs, fun _ => True⟩) ?_ h
  simp [enS, lstI, look]
theorem Jar_colours_ok {n : Nat} {c : Nat → Nat} (h8 : n ≤ 8) : g_Jar_colours [jarD n c] st = some (.ok (.lst (ndL (cols n c))) st) := by
  refine wpG_eq (wp_exit ?_)
  unfold b_Jar_colours
  row_has dgo
  refine wp_enumL (xs := cntL n c) ?_
  row_has dgo
  refine ⟨rfl, ?_⟩
  rw [enD_cnt]
  (refine lcK (List.range n) (fun i => D.tup [dI i, dI (c i)]) (fun i => decide (0 < c i)) (dI) ?hi_1 ?ok_1 ?hl_1 (fun i hi => ?_) ?_; (case hi_1 => first | rfl | exact (List.map_id _).symm | (simp; done)); (case ok_1 => first | trivial | exact fun _ => trivial | assumption); (case hl_1 => first | (simp; done) | (simp; omega) | omega))
  · refine ⟨_, rfl, ?_, fun _ => ?_⟩
    · row_has dgo
      exact ⟨rfl, by simp⟩
    · row_has dgo
      exact ⟨rfl, rfl⟩
  · row_has dgo
    exact ⟨rfl, rfl⟩
noncomputable def inJ (n : Nat) (c : Nat → Nat) : D → Bool
  | .int i => decide (0 ≤ i ∧ i < n) && decide (0 < c i.toNat)
  | _ => false
theorem Jar_contains_ok {n : Nat} {c : Nat → Nat} {x : D} (hv : Val x = true) : g_Jar_contains [jarD n c, x] st = some (.ok (.bl (inJ n c x)) st) := by
  refine wpG_eq (wp_exit ?_)
  unfold b_Jar_contains
  row_has dgo
  (refine wpG_ok (is_colour_any hv) ?_)
  row_has dgo
  refine ⟨fun h => ?_, fun h => ?_⟩
  · cases x <;> simp only [isCol, reduceCtorEq, Bool.false_eq_true] at h
    rename_i i
    have h := of_decide_eq_true h
    obtain ⟨m, rfl⟩ := Int.eq_ofNat_of_zero_le h.1
    row_has dgo
    refine ix_cnt (by omega) ?_
    row_has dgo
    exact ⟨rfl, by simp [inJ]; omega⟩
  · row_has dgo
    refine ⟨rfl, ?_⟩
    cases x <;> simp only [isCol, inJ] at h ⊢
    rw [h]; rfl
theorem Jar_validate_ok {n : Nat} {c : Nat → Nat} : g_Jar_validate_size [jarD n c, dI n] st = some (.ok .non st) := by
  refine wpG_eq (wp_exit ?_)
  unfold b_Jar_validate_size
  row_has dgo
  (refine ifF (by row_has dF) ?_)
  row_has dgo
  exact ⟨rfl, rfl⟩
theorem zpD_cnt {n : Nat} {c d : Nat → Nat} : zpD (cntL n c) (cntL n d) = (List.range n).map fun i => D.tup [dI (c i), dI (d i)] := by
  unfold zpD
  apply List.ext_getElem
  · simp [cntL]
  · intro i h1 h2
    simp [cntL]
theorem wp_zipL {fa fb : FE} {b : Bool} {xs ys : List D} {QI : ItD → Sto → Prop} (hl : xs.length = ys.length) (h : wpX fa env st (fun x s => wpX fb env s (fun y s => x = .lst xs ∧ y = .lst ys ∧ QI ⟨zpD xs ys, fun _ => True⟩ s) X) X) : wpX (fItZ b (aCons fa (aCons fb aNil))) env st QI X := by
  refine wp_bind (wp_acons (wp_mono h fun x s h => wp_acons (wp_mono h fun y s h3 => wp_anil ?_)))
  obtain ⟨rfl, rfl, h4⟩ := h3
  refine wp_P (a := ⟨zpD xs ys, fun _ => True⟩) ?_ h4
  simp [zipS, items, look, hl]
theorem Jar_add_ok {n : Nat} {c d : Nat → Nat} (h1 : 1 ≤ n) (h8 : n ≤ 8) : g_Jar_add [jarD n c, jarD n d] st = some (.ok (jarD n fun i => c i + d i) st) := by
  refine wpG_eq (wp_exit ?_)
  unfold b_Jar_add
  row_has dgo
  refine and_mJ (by decide) ?_
  row_has dgo
  (refine wpG_ok (Jar_validate_ok) ?_)
  row_has dgo
  refine wp_zipL (xs := cntL n c) (ys := cntL n d) (by simp [cntL]) ?_
  row_has dgo
  refine ⟨rfl, rfl, ?_⟩
  rw [zpD_cnt]
  (refine lcA (List.range n) (fun i => D.tup [dI (c i), dI (d i)]) (fun i => dI (c i + d i)) ?hi_2 ?ok_2 ?hl_2 (fun i hi => ?_) ?_; (case hi_2 => first | rfl | exact (List.map_id _).symm | (simp; done)); (case ok_2 => first | trivial | exact fun _ => trivial | assumption); (case hl_2 => first | (simp; done) | (simp; omega) | omega))
  · refine ⟨_, rfl, ?_⟩
    row_has dgo
    exact ⟨rfl, rfl⟩
  · row_has dgo
    refine wp_ok (mk_Jar (n := n) (c := fun i => c i + d i) rfl h1 h8) ?_
    exact ⟨rfl, rfl⟩
end
section
variable {env : En} {st : Sto} {QD : D → Sto → Prop} {X : XQ} {Q : Out → Prop}
theorem wp_augI {f : Int → Int → Int} {fo fi fe : FE} (h : wpX fo env st (fun o s => wpX fi env s (fun i s => wpS (augK f fe o i) env s Q) (fun c ns ds s => Q (.ex c ns ds env s))) (fun c ns ds s => Q (.ex c ns ds env s))) : wpS (sAugI f fo fi fe) env st Q := wp_bindS (wp_mono h fun _ _ h => wp_bindS h)
theorem wp_augK {f : Int → Int → Int} {fe : FE} {k m : Nat} {xs : List D} {a : Int} (e : st[k]? = some (.lst xs)) (hm : xs[m]? = some (.int a)) (h2 : m < 2 ^ 62)
    (h : wpX fe env st (fun y s => ∃ b, y = .int b ∧ s = st ∧ Q (.nx env (st.set k (.lst (xs.set m (.int (f a b))))))) (fun c ns ds s => Q (.ex c ns ds env s))) : wpS (augK f fe (.obj k) (dI m)) env st Q := by
  have e1 : augG (.obj k) (dI m) st = some a := by
    unfold augG
    simp only []
    rw [if_pos ⟨by omega, by omega⟩, e]
    simp only [Int.toNat_natCast, hm]
  unfold augK
  show ∃ o, _ ∧ _
  rw [show (dI m) = D.int (m : Int) from rfl] at e1 ⊢
  simp only [e1]
  refine wp_bindS (wp_mono h fun y s ⟨b, e2, e3, h⟩ => ?_)
  subst e2; subst e3
  refine ⟨_, ?_, h⟩
  show (match setS (.obj k) (.int m) (.int (f a b)) s with | some st' => some (Out.nx env st') | none => none) = _
  rw [setS_obj e (by have := (List.getElem?_eq_some_iff.mp hm).1; exact this)]
theorem wp_par3 {i j l : Nat} {fa fb fc : FE} (h : wpX fa env st (fun a s => wpX fb env s (fun b s => wpX fc env s (fun c s => Q (.nx (((env.set i (some a)).set j (some b)).set l (some c)) s)) (fun c ns ds s => Q (.ex c ns ds env s))) (fun c ns ds s => Q (.ex c ns ds env s))) (fun c ns ds s => Q (.ex c ns ds env s))) : wpS (sPar [i, j, l] (aCons fa (aCons fb (aCons fc aNil)))) env st Q :=
  wp_bindS (wp_acons (wp_mono h fun _ _ h => wp_acons (wp_mono h fun _ _ h => wp_acons (wp_mono h fun _ _ h => wp_anil ⟨_, rfl, h⟩))))
theorem wp_par {i j : Nat} {fa fb : FE} (h : wpX fa env st (fun a s => wpX fb env s (fun b s => Q (.nx ((env.set i (some a)).set j (some b)) s)) (fun c ns ds s => Q (.ex c ns ds env s))) (fun c ns ds s => Q (.ex c ns ds env s))) : wpS (sPar [i, j] (aCons fa (aCons fb aNil))) env st Q :=
  wp_bindS (wp_acons (wp_mono h fun _ _ h => wp_acons (wp_mono h fun _ _ h => wp_anil ⟨_, rfl, h⟩)))
theorem wp_cmeth {c : Str} {n : Nat} {g : G} {fr : FA} (h : wpX fr env st (fun ds s => ds.length + 1 = n ∧ wpG g (.gl c :: ds) s QD X) X) : wpX (fCMeth c n g fr) env st QD X := wp_bind (wp_mono h fun a s ⟨e, h⟩ => wp_gd (by subst e; exact Nat.beq_refl _) h)
theorem wp_makeV {i : Nat} {ice : Bool} {c : Str} {n : Nat} {g : G} {fr : FA} (e : env[i]? = some (some (.gl c))) (h : wpX (fMake ice c n g fr) env st QD X) : wpX (fMakeV i ice c n g fr) env st QD X := wp_bind (wp_var e (wp_gd (by simp) h))
theorem wp_binJ {g : G} {n m : Nat} {c d : Nat → Nat} (h : wpG g [jarD n c, jarD m d] st QD X) : wpX (gBin2 "Jar" g (jarD n c) (jarD m d)) env st QD X := by
  refine ⟨_, ?_, h.choose_spec.2⟩
  unfold gBin2
  rw [gd_true (by rw [isCls_J, isCls_J]; rfl)]
  exact h.choose_spec.1
end
end BJ
end
local macro_rules | `(tactic| row_has dgoC4) => `(tactic| first | (with_reducible refine BJ.wp_augI ?_) | (with_reducible refine BJ.wp_par ?_) | (with_reducible refine BJ.wp_par3 ?_) | (with_reducible refine BJ.wp_cmeth ?_) | (with_reducible refine BJ.wp_binJ ?_))
local macro_rules | `(tactic| row_has dgo) => `(tactic| repeat (first | row_has dgoC0 | row_has dgoC1 | row_has dgoC2 | row_has dgoC3 | row_has dgoC4))
section
set_option Elab.async false
set_option linter.all false
set_option maxRecDepth 100000
set_option autoImplicit false
set_option maxHeartbeats 0
namespace BJ
open PySem Dl
section
variable {env : En} {st : Sto} {QD : D → Sto → Prop} {X : XQ} {Q : Out → Prop}
noncomputable def cnt (bs : List Nat) : Nat → Nat := fun i => bs.count i
theorem cntL_set {n m v : Nat} {c : Nat → Nat} : (cntL n c).set m (dI v) = cntL n fun i => if i = m then v else c i := by
  apply List.ext_getElem
  · simp [cntL]
  · intro i h1 h2
    simp only [cntL, List.getElem_set, List.getElem_map, List.getElem_range]
    by_cases h : m = i
    · subst h; simp
    · simp [h, Ne.symm h]
theorem cnt_snoc {bs : List Nat} {i b : Nat} (h : bs[i]? = some b) : cnt (bs.take (i + 1)) = fun k => if k = b then cnt (bs.take i) b + 1 else cnt (bs.take i) k := by
  obtain ⟨hl, e⟩ := List.getElem?_eq_some_iff.mp h
  funext k
  unfold cnt
  rw [List.take_succ_eq_append_getElem hl, e, List.count_append]
  by_cases hk : k = b
  · subst hk; simp
  · simp [hk, List.count_singleton, Ne.symm hk]
theorem rep_cnt {n : Nat} : List.replicate n (dI 0) = cntL n fun _ => 0 := by
  apply List.ext_getElem
  · simp [cntL]
  · intro i h1 h2
    simp [cntL]
theorem of_beans_ok {n : Nat} {x : D} {bs : List Nat} (hx : x = .lst (ndL bs) ∨ x = .tup (ndL bs)) (h1 : 1 ≤ n) (h8 : n ≤ 8) (hb : ∀ b ∈ bs, b < n) : g_Jar_of_beans [.gl "Jar", dI n, x] st = some (.ok (jarD n (cnt bs)) st) := by
  refine wpG_eq (wp_exitI ?_)
  unfold b_Jar_of_beans
  row_has dgo
  (refine wpG_ok (is_integer_int) ?_)
  row_has dgo
  (refine ifT (by row_has dT) ?_)
  row_has dgo
  (refine ifF (by row_has dF) ?_)
  row_has dgo
  have hi : isiS CL ["list", "tuple"] st x = some (.bl true) := by rcases hx with rfl | rfl <;> rfl
  refine ⟨_, hi, ?_⟩
  row_has dgo
  refine wp_repT (by omega) ?_
  row_has dgo
  have ho : itOf (st ++ [.lst (List.replicate n (dI 0))]) x = some ⟨ndL bs, fun _ => True⟩ := by rcases hx with rfl | rfl <;> first | exact itOf_lst | exact itOf_tup
  refine ⟨_, ho, ?_⟩
  refine loopI bs dI rfl (fun i e s' => s' = st ++ [.lst (cntL n (cnt (bs.take i)))] ∧ e = [some (.gl "Jar"), some (dI n), some x, some (.obj st.length), none]) ⟨by rw [show List.replicate n (D.int 0) = _ from rep_cnt]; rfl, rfl⟩ (fun _ => trivial) (fun i b e s' hk ⟨h1, h2⟩ => ?_) fun e s' ⟨h1, h2⟩ => ?_
  · subst h1; subst h2
    have hbn : b < n := hb b (List.mem_of_getElem? hk)
    refine ⟨_, _, rfl, ?_⟩
    row_has dgo
    (refine wpG_ok (is_colour_int) ?_)
    row_has dgo
    (refine ifF (by row_has dF) ?_)
    row_has dgo
    refine wp_augK (xs := cntL n (cnt (bs.take i))) (a := cnt (bs.take i) b) (by simp) (cntL_get hbn) (by omega) ?_
    row_has dgo
    refine ⟨_, rfl, rfl, ?_⟩
    row_has dgo
    refine ⟨?_, rfl⟩
    rw [cnt_snoc hk, List.set_append_right _ _ (by omega), Nat.sub_self]
    simp only [List.set_cons_zero]
    rw [← cntL_set]
    rfl
  · subst h1; subst h2
    rw [List.take_length]
    row_has dgo
    refine wp_makeV rfl ?_
    row_has dgo
    refine wp_ok (mk_Jar (n := n) (c := cnt bs) (items_obj (by simp)) h1 h8) ?_
    row_has dgo
    refine ⟨_, fz_drop (new := [.lst (cntL n (cnt bs))]) Old.rfl' closed_jar (by simp only [closeds, D.closed, closed_cntL, Bool.and_self]), ?_⟩
    exact ⟨rfl, rfl⟩
noncomputable def canP (n : Nat) (c : Nat → Nat) (a b : Nat) : Bool := decide (a < n) && decide (b < n) && decide (0 < c a) && decide (0 < c b) && (decide (a < b) || (decide (a = b) && decide (2 ≤ c a)))
noncomputable def canD (n : Nat) (c : Nat → Nat) : D → D → Bool
  | .int a, .int b => decide (0 ≤ a) && decide (0 ≤ b) && canP n c a.toNat b.toNat
  | _, _ => false
theorem canD_N {n a b : Nat} {c : Nat → Nat} : canD n c (dI a) (dI b) = canP n c a b := by simp [canD]
theorem inJ_int {n : Nat} {c : Nat → Nat} {x : D} (h : inJ n c x = true) : ∃ a : Nat, x = dI a ∧ a < n ∧ 0 < c a := by
  cases x <;> simp only [inJ, Bool.false_eq_true] at h
  rename_i i
  simp only [Bool.and_eq_true, decide_eq_true_eq] at h
  obtain ⟨⟨h1, h2⟩, h3⟩ := h
  obtain ⟨m, rfl⟩ := Int.eq_ofNat_of_zero_le h1
  exact ⟨m, rfl, by omega, h3⟩
theorem inJ_N {n a : Nat} {c : Nat → Nat} : inJ n c (dI a) = (decide (a < n) && decide (0 < c a)) := by simp [inJ]
theorem canD_no1 {n : Nat} {c : Nat → Nat} {a b : D} (h : inJ n c a = false) : canD n c a b = false := by
  cases a <;> try rfl
  cases b <;> try rfl
  rename_i i j
  by_cases h0 : 0 ≤ i
  · obtain ⟨m, rfl⟩ := Int.eq_ofNat_of_zero_le h0
    rw [show inJ n c (D.int ↑m) = _ from inJ_N] at h
    simp only [canD, canP]
    simp at h ⊢
    intro _ h1 _ h2
    exact absurd (h h1) (by omega)
  · simp [canD, h0]
theorem canD_no2 {n : Nat} {c : Nat → Nat} {a b : D} (h : inJ n c b = false) : canD n c a b = false := by
  cases a <;> try rfl
  cases b <;> try rfl
  rename_i i j
  by_cases h0 : 0 ≤ j
  · obtain ⟨m, rfl⟩ := Int.eq_ofNat_of_zero_le h0
    rw [show inJ n c (D.int ↑m) = _ from inJ_N] at h
    simp only [canD, canP]
    simp at h ⊢
    intro _ _ h1 _ h2
    exact absurd (h h1) (by omega)
  · simp [canD, h0]
theorem can_draw_ok {n : Nat} {c : Nat → Nat} {x y : D} (hx : Val x = true) (hy : Val y = true) : g_Jar_can_draw [jarD n c, .tup [x, y]] st = some (.ok (.bl (canD n c x y)) st) := by
  refine wpG_eq (wp_exit ?_)
  unfold b_Jar_can_draw
  row_has dgo
  (refine ifF (by row_has dF) ?_)
  row_has dgo
  refine wp_inOwn isCls_J ?_
  (refine wpG_ok (Jar_contains_ok hx) ?_)
  row_has dgo
  refine ⟨fun h => ?_, fun h => ?_⟩
  · row_has dgo
    refine ⟨rfl, ?_⟩
    rw [canD_no1 (by simpa using h)]
  · row_has dgo
    refine wp_inOwn isCls_J ?_
    (refine wpG_ok (Jar_contains_ok hy) ?_)
    row_has dgo
    refine ⟨fun h => ?_, fun h2 => ?_⟩
    · row_has dgo
      refine ⟨rfl, ?_⟩
      rw [canD_no2 (by simpa using h)]
    · row_has dgo
      obtain ⟨a, rfl, ha, ha2⟩ := inJ_int (by simpa using h)
      obtain ⟨b, rfl, hb, hb2⟩ := inJ_int (by simpa using h2)
      row_has dgo
      rw [canD_N]
      refine if_dec (fun h => ?_) fun h => ?_
      · row_has dgo
        exact ⟨rfl, by simp [canP, ha, hb, ha2, hb2]; omega⟩
      · row_has dgo
        refine if_dec (fun h => ?_) fun h => ?_
        · row_has dgo
          refine ix_cnt ha ?_
          row_has dgo
          refine ⟨rfl, ?_⟩
          have : a = b := by omega
          simp [canP, ha, hb, ha2, hb2, this]
          omega
        · row_has dgo
          exact ⟨rfl, by simp [canP]; omega⟩
noncomputable def sameJ (n m : Nat) (c d : Nat → Nat) : Bool := decide (n = m) && decide (∀ i, i < n → c i = d i)
theorem sameJ_iff {n m : Nat} {c d : Nat → Nat} : sameJ n m c d = true ↔ cntL n c = cntL m d := by rw [cnt_inj]; simp [sameJ]
theorem wp_eqCnt {n m : Nat} {c d : Nat → Nat} (h : QD (.bl (sameJ n m c d)) st) : wpX (gEq (.lst (cntL n c)) (.lst (cntL m d))) env st QD X := by
  by_cases e : cntL n c = cntL m d
  · rw [e]
    rw [sameJ_iff.mpr e] at h
    exact wp_eqS (pl_cnt (k := 0)).pl_ h
  · rw [show sameJ n m c d = false by rw [← Bool.not_eq_true, sameJ_iff]; exact e] at h
    exact wp_eqN (pl_cnt (k := 0)).pl_ (pl_cnt (k := 0)).pl_ (fun e2 => e (D.lst.inj e2)) h
theorem Jar_eq_ok {n m : Nat} {c d : Nat → Nat} : g_Jar_eq [jarD n c, jarD m d] st = some (.ok (.bl (sameJ n m c d)) st) := by
  refine wpG_eq (wp_exit ?_)
  unfold b_Jar_eq
  row_has dgo
  refine ⟨.bl true, by simp [isiO, look, jarD], ?_⟩
  row_has dgo
  refine wp_eqCnt ?_
  exact ⟨rfl, rfl⟩
/-- the jar after a draw -/
noncomputable def aft (f : Nat → Nat → Nat) (c : Nat → Nat) (a b : Nat) : Nat → Nat := fun i => c i - cnt [a, b] i + cnt [f a b] i
theorem cnt1 {a i : Nat} : cnt [a] i = (if a = i then 1 else 0) := by
  unfold cnt
  rw [List.count_cons, List.count_nil]
  by_cases h1 : a = i <;> simp [h1]
end
section
variable {env : En} {st : Sto} {QD : D → Sto → Prop} {X : XQ} {Q : Out → Prop}
noncomputable def tot (n : Nat) (c : Nat → Nat) : Nat := ((List.range n).map c).sum
theorem intsD_nd : ∀ xs : List Nat, intsD (ndL xs) = some (xs.map fun (x : Nat) => (x : Int))
  | [] => rfl
  | x :: xs => by
    show (intsD (ndL xs)).map _ = _
    rw [intsD_nd xs]; rfl
theorem sum_castN : ∀ xs : List Nat, (xs.map fun (x : Nat) => (x : Int)).sum = ((xs.sum : Nat) : Int)
  | [] => rfl
  | x :: xs => by simp only [List.map_cons, List.sum_cons, sum_castN xs]; omega
theorem sum_nd {xs : List Nat} : sumS st (.lst (ndL xs)) = some (dI xs.sum) := by
  simp only [sumS, lstI, look, Option.bind_some, intsD_nd, Option.map_some, sum_castN]
theorem wp_sumCnt {n : Nat} {c : Nat → Nat} (h : QD (dI (tot n c)) st) : wpX (g1 sumS [.lst (cntL n c)]) env st QD X := wp_g1 (by rw [cntL_nd]; exact sum_nd) h
theorem wp_mulJ {g : G} {n : Nat} {c : Nat → Nat} {i : Int} (h : wpG g [jarD n c, .int i] st QD X) : wpX (gMulO "Jar" g (jarD n c) (.int i)) env st QD X := by
  refine ⟨_, ?_, h.choose_spec.2⟩
  unfold gMulO
  simp only []
  rw [gd_true isCls_J]
  exact h.choose_spec.1
theorem wp_repF {xs : List D} {k : Nat} (hk : k ≤ 1000) (hx : xs.length ≤ 1000) (h : QD (.lst (List.replicate k xs).flatten) st) : wpX (gMul false (.lst xs) (.int k)) env st QD X := by
  refine wp_ok (a := .lst (List.replicate k xs).flatten) (s := st) ?_ h
  rw [gMul_rep, gd_true (rep_ok (by omega) (by omega) hx), Int.toNat_natCast]
  rfl
theorem wp_catF {xs ys : List D} (hl : xs.length + ys.length ≤ 1000) (h : QD (.lst (xs ++ ys)) st) : wpX (gAdd false (.lst xs) (.lst ys)) env st QD X := by
  refine wp_ok (a := .lst (xs ++ ys)) (s := st) ?_ h
  unfold gAdd
  simp only [look]
  rw [gd_true (Nat.ble_eq_true_of_le (by omega))]
  rfl
end
end BJ
end
local macro_rules | `(tactic| row_has dgoC5) => `(tactic| first | (with_reducible refine BJ.wp_sumCnt ?_) | (with_reducible refine BJ.wp_mulJ ?_))
local macro_rules | `(tactic| row_has dgo) => `(tactic| repeat (first | row_has dgoC0 | row_has dgoC1 | row_has dgoC2 | row_has dgoC3 | row_has dgoC4 | row_has dgoC5))
section
set_option Elab.async false
set_option linter.all false
set_option maxRecDepth 100000
set_option autoImplicit false
set_option maxHeartbeats 0
namespace BJ
open PySem Dl
section
variable {env : En} {st : Sto} {QD : D → Sto → Prop} {X : XQ} {Q : Out → Prop}
theorem Jar_total_ok {n : Nat} {c : Nat → Nat} : g_Jar_total [jarD n c] st = some (.ok (dI (tot n c)) st) := by
  refine wpG_eq (wp_exit ?_)
  unfold b_Jar_total
  row_has dgo
  exact ⟨rfl, rfl⟩
theorem Jar_bool_ok {n : Nat} {c : Nat → Nat} : g_Jar_bool [jarD n c] st = some (.ok (.bl (decide (0 < tot n c))) st) := by
  refine wpG_eq (wp_exit ?_)
  unfold b_Jar_bool
  row_has dgo
  exact ⟨rfl, by simp⟩
theorem Jar_getitem_ok {n i : Nat} {c : Nat → Nat} (hi : i < n) : g_Jar_getitem [jarD n c, dI i] st = some (.ok (dI (c i)) st) := by
  refine wpG_eq (wp_exit ?_)
  unfold b_Jar_getitem
  row_has dgo
  (refine wpG_ok (is_colour_int) ?_)
  row_has dgo
  (refine ifF (by row_has dF) ?_)
  row_has dgo
  refine ix_cnt hi ?_
  exact ⟨rfl, rfl⟩
end
end BJ
namespace BJ
open PySem Dl
end BJ
end
section
set_option Elab.async false
set_option linter.all false
set_option maxRecDepth 100000
set_option autoImplicit false
set_option maxHeartbeats 0
namespace BJ
open PySem Dl
section
variable {env : En} {st : Sto} {QD : D → Sto → Prop} {X : XQ}
noncomputable def prD (p : Nat × Nat) : D := .tup [dI p.1, dI p.2]
end
end BJ
end
section
set_option Elab.async false
set_option linter.all false
set_option maxRecDepth 100000
set_option autoImplicit false
set_option maxHeartbeats 0
namespace BJ
open PySem Dl
/-! ### the pool of digits, first kind -/
noncomputable def IsPool (p : D) : Prop := ∃ c s : Int, p = .lst [.int c, .int s] ∧ 0 ≤ c ∧ 0 ≤ s ∧ s < 2147483647
section
variable {env : En} {st r : Sto} {QD : D → Sto → Prop} {X : XQ} {p : D}
theorem ixo0 {d : D} {xs : List D} (h : QD d (.lst (d :: xs) :: r)) : wpX (gIx (.obj 0) (.int 0)) env (.lst (d :: xs) :: r) QD X := wp_ix (xs := d :: xs) rfl (by decide) rfl h
theorem ixo1 {a d : D} {xs : List D} (h : QD d (.lst (a :: d :: xs) :: r)) : wpX (gIx (.obj 0) (.int 1)) env (.lst (a :: d :: xs) :: r) QD X := wp_ix (xs := a :: d :: xs) rfl (by decide) rfl h
theorem ixo2 {a b d : D} {xs : List D} (h : QD d (.lst (a :: b :: d :: xs) :: r)) : wpX (gIx (.obj 0) (.int 2)) env (.lst (a :: b :: d :: xs) :: r) QD X := wp_ix (xs := a :: b :: d :: xs) rfl (by decide) rfl h
theorem ixo3 {a b c d : D} {xs : List D} (h : QD d (.lst (a :: b :: c :: d :: xs) :: r)) : wpX (gIx (.obj 0) (.int 3)) env (.lst (a :: b :: c :: d :: xs) :: r) QD X := wp_ix (xs := a :: b :: c :: d :: xs) rfl (by decide) rfl h
theorem set0 {a d : D} {xs : List D} : setS (.obj 0) (.int 0) d (.lst (a :: xs) :: r) = some (.lst (d :: xs) :: r) := setS_obj (k := 0) (m := 0) (xs := a :: xs) rfl (by simp)
theorem set1 {a b d : D} {xs : List D} : setS (.obj 0) (.int 1) d (.lst (a :: b :: xs) :: r) = some (.lst (a :: d :: xs) :: r) := setS_obj (k := 0) (m := 1) (xs := a :: b :: xs) rfl (by simp)
end
end BJ
end
local macro_rules | `(tactic| row_has dgoC6) => `(tactic| first | (with_reducible refine Dl.wpG_ok BJ.Jar_total_ok ?_) | (with_reducible refine Dl.wpG_ok BJ.Jar_bool_ok ?_) | (with_reducible refine BJ.ixo0 ?_) | (with_reducible refine BJ.ixo1 ?_) | (with_reducible refine BJ.ixo2 ?_) | (with_reducible refine BJ.ixo3 ?_))
local macro_rules | `(tactic| row_has dgo) => `(tactic| repeat (first | row_has dgoC0 | row_has dgoC1 | row_has dgoC2 | row_has dgoC3 | row_has dgoC4 | row_has dgoC5 | row_has dgoC6))
section
set_option Elab.async false
set_option linter.all false
set_option maxRecDepth 100000
set_option autoImplicit false
set_option maxHeartbeats 0
namespace BJ
open PySem Dl
section
variable {env : En} {st r : Sto} {QD : D → Sto → Prop} {X : XQ} {p : D}
theorem wp_drawB {m : Int} (hp : IsPool p) (hm : 0 < m) (hm2 : m.natAbs.log2 < 9000) (h : ∀ (n : Nat) (p : D), IsPool p → (n : Int) < m → QD (dI n) (p :: r)) : wpG g__law_draw [.obj 0, .int m] (p :: r) QD X := by
  obtain ⟨c, s, rfl, h0, h1, h2⟩ := hp
  unfold g__law_draw
  refine wp_exit ?_
  unfold b__law_draw
  have key : ∀ (v c s : Int), 0 ≤ v → v < m → 0 ≤ c → 0 ≤ s → s < 2147483647 → QD (.int v) (.lst [.int c, .int s] :: r) := by
    intro v c s v0 v1 c0 s0 s1
    have := h v.toNat (.lst [.int c, .int s]) ⟨c, s, rfl, c0, s0, s1⟩ (by omega)
    rwa [show dI v.toNat = .int v by simp [Int.toNat_of_nonneg v0]] at this
  row_has dgo
  refine if_dec (fun hb => ?_) fun hb => ?_
  · row_has dgo
    refine wp_mod hm ?_
    row_has dgo
    refine wp_div ⟨hm, hm2⟩ ?_
    row_has dgo
    refine ⟨_, set0, ?_⟩
    row_has dgo
    exact key _ _ _ (Int.emod_nonneg _ (by omega)) (Int.emod_lt_of_pos _ hm) (Int.ediv_nonneg h0 (by omega)) h1 h2
  · row_has dgo
    refine wp_mul (mul_small (.inr (by decide))) ?_
    row_has dgo
    refine wp_mod (by decide) ?_
    row_has dgo
    refine ⟨_, set1, ?_⟩
    have b1 : 0 ≤ (s * 48271 + 11) % 2147483647 := Int.emod_nonneg _ (by decide)
    have b2 : (s * 48271 + 11) % 2147483647 < 2147483647 := Int.emod_lt_of_pos _ (by decide)
    generalize (s * 48271 + 11) % 2147483647 = s' at b1 b2 ⊢
    row_has dgo
    refine wp_mul (mul_small (.inr (by omega))) ?_
    row_has dgo
    refine wp_mod (by decide) ?_
    row_has dgo
    refine wp_div (by decide +kernel) ?_
    row_has dgo
    refine wp_mod hm ?_
    row_has dgo
    exact key _ _ _ (Int.emod_nonneg _ (by omega)) (Int.emod_lt_of_pos _ hm) h0 b1 b2
theorem wp_draw {m : Int} (hp : IsPool p) (hm : 0 < m) (hm2 : m < 1073741824) (h : ∀ (n : Nat) (p : D), IsPool p → (n : Int) < m → QD (dI n) (p :: r)) : wpG g__law_draw [.obj 0, .int m] (p :: r) QD X := wp_drawB hp hm (log_small hm hm2).2 h
theorem wp_pool {ns : List Int} {k : Nat} (hk : k < 1000) (h : ∀ p, IsPool p → QD (.obj st.length) (st ++ [p])) : wpG g__law_pool [.lstR (ns.map .int), dI k] st QD X := by
  unfold g__law_pool
  refine wp_exit ?_
  unfold b__law_pool
  row_has dgo
  refine wp_len items_lstR ?_
  row_has dgo
  have fin : ∀ c : Int, wpS (sSeq (sAsg (fOp2 gMod (fOp2 gPow (fOp2 (gAdd false) (fOp2 (gAdd false) (fOp2 gMod (fVar 2) (fC (.int 2147483629))) (fOp2 (gMul false) (fOp2 (gMul false) (fC (.int 7919)) (fVar 1)) (fVar 1))) (fC (.int 31))) (fC (.int 3))) (fC (.int 2147483647))) (gSet 3))
      (sSeq (sIf (fAsB (fOp2 gLt (fVar 2) (fOp2 gPow (fC (.int 10)) (fC (.int 18))))) (sAsg (fC (.int 0)) (gSet 2)) sNil)
      (sRet (fLst true (aCons (fVar 2) (aCons (fVar 3) aNil)))))) [some (.lstR (ns.map .int)), some (dI k), some (.int c), none] st (Exit QD X) := by
    intro c
    row_has dgo
    refine wp_mod (by decide) ?_
    row_has dgo
    have hkk : (7919 : Int) * (k : Int) * (k : Int) ≤ 7919 * 1000 * 1000 ∧ 0 ≤ (7919 : Int) * (k : Int) * (k : Int) := by
      have h1 : (k : Int) ≤ 1000 := by omega
      have h2 : (0 : Int) ≤ k := by omega
      refine ⟨Int.mul_le_mul (by omega) h1 h2 (by decide), Int.mul_nonneg (by omega) h2⟩
    refine wp_mul (mul_small (.inl (by decide))) ?_
    row_has dgo
    refine wp_mul (mul_small (.inr (by omega))) ?_
    row_has dgo
    have hc1 : 0 ≤ c % 2147483629 := Int.emod_nonneg _ (by decide)
    have hc2 : c % 2147483629 < 2147483629 := Int.emod_lt_of_pos _ (by decide)
    refine wp_pow (pow_small (by omega) (by omega) (by decide) (by decide)) ?_
    row_has dgo
    refine wp_mod (by decide) ?_
    row_has dgo
    refine wp_pow (by decide +kernel) ?_
    row_has dgo
    generalize hs : (c % 2147483629 + 7919 * (k : Int) * (k : Int) + 31) ^ (3 : Int).toNat % 2147483647 = s
    have hs1 : 0 ≤ s := by rw [← hs]; exact Int.emod_nonneg _ (by decide)
    have hs2 : s < 2147483647 := by rw [← hs]; exact Int.emod_lt_of_pos _ (by decide)
    refine if_dec (fun hb => ?_) fun hb => ?_
    · row_has dgo
      exact h _ ⟨0, s, rfl, by decide, hs1, hs2⟩
    · row_has dgo
      have h18 : (10 : Int) ^ (18 : Int).toNat = 1000000000000000000 := by decide +kernel
      rw [h18] at hb
      exact h _ ⟨c, s, rfl, by omega, hs1, hs2⟩
  refine if_dec (fun hb => ?_) fun hb => ?_
  · row_has dgo
    have hlt : k < ns.length := by simpa using hb
    refine ixG (d := .int ns[k]) items_lstR (by simp [hlt]) ?_
    refine then_nx ?_
    exact fin _
  · refine wp_nil ?_
    refine then_nx ?_
    exact fin 0
end
/-! ### drawn tables -/
theorem pool_closed {p : D} (h : IsPool p) (n : Nat) : D.closed n p = true := by
  obtain ⟨c, s, rfl, _⟩ := h
  rfl
section
variable {env : En} {st r : Sto} {QD : D → Sto → Prop} {X : XQ} {p : D}
theorem kind_lc {n : Nat} {elt : FE} {k p : D} {F : Nat → Nat → Nat} {x3 x4 : Option D} (h8 : n ≤ 8)
    (he : ∀ a b : Nat, a < n → b < n → ∀ x y, wpX elt [x, some (dI n), y, some (dI a), some (dI b)] st (fun v s => s = st ∧ v = dI (F a b)) NX) (hq : QD (matD n F) st) :
    wpX (fLc false [3] (fItR1 (aCons (fVar 1) aNil)) (gSet 3) tYesF (fLc false [4] (fItR1 (aCons (fVar 1) aNil)) (gSet 4) tYesF elt)) [some p, some (dI n), some k, x3, x4] st QD X := by
  row_has dgo
  refine ⟨n, rfl, by omega, ?_⟩
  (refine lcA (List.range n) (dI) (fun a => .lst (rowD n F a)) ?hi_1 ?ok_1 ?hl_1 (fun a ha => ?_) ?_; (case hi_1 => first | rfl | exact (List.map_id _).symm | (simp; done)); (case ok_1 => first | trivial | exact fun _ => trivial | assumption); (case hl_1 => first | (simp; done) | (simp; omega) | omega))
  · refine ⟨_, rfl, ?_⟩
    row_has dgo
    refine ⟨n, rfl, by omega, ?_⟩
    (refine lcA (List.range n) (dI) (fun b => dI (F a b)) ?hi_2 ?ok_2 ?hl_2 (fun b hb => ?_) ?_; (case hi_2 => first | rfl | exact (List.map_id _).symm | (simp; done)); (case ok_2 => first | trivial | exact fun _ => trivial | assumption); (case hl_2 => first | (simp; done) | (simp; omega) | omega))
    · exact ⟨_, rfl, he a b (List.mem_range.mp ha) (List.mem_range.mp hb) (some p) (some k)⟩
    · row_has dgo
      exact ⟨rfl, rfl⟩
  · row_has dgo
    exact hq
end
end BJ
end
section
set_option Elab.async false
set_option linter.all false
set_option maxRecDepth 100000
set_option autoImplicit false
set_option maxHeartbeats 0
namespace BJ
open PySem Dl
/-! ### the pool of cells, second kind -/
section
variable {env : En} {st r : Sto} {QD : D → Sto → Prop} {X : XQ} {p : D} {QI : ItD → Sto → Prop}
/-! ### plain lists -/
/-! ### shapes and classes -/
noncomputable def cls (s l c : Nat) : Nat := if c < s then c else s + (c - s) % l
end
end BJ
end
section
set_option Elab.async false
set_option linter.all false
set_option maxRecDepth 100000
set_option autoImplicit false
set_option maxHeartbeats 0
namespace BJ
open PySem Dl
section
variable {env : En} {st r : Sto} {QD : D → Sto → Prop} {X : XQ} {p : D} {QI : ItD → Sto → Prop}
theorem mkJL {n : Nat} {c : Nat → Nat} (h1 : 1 ≤ n) (h8 : n ≤ 8) (h : QD (jarD n c) st) : wpX (mkS true "Jar" g_Jar_init [.lst (cntL n c)]) env st QD X := wp_ok (mk_Jar (n := n) (c := c) rfl h1 h8) h
theorem mkJT {n : Nat} {c : Nat → Nat} (h1 : 1 ≤ n) (h8 : n ≤ 8) (h : QD (jarD n c) st) : wpX (mkS true "Jar" g_Jar_init [.tup (cntL n c)]) env st QD X := wp_ok (mk_Jar (n := n) (c := c) rfl h1 h8) h
theorem mkJR {n : Nat} {c : Nat → Nat} (h1 : 1 ≤ n) (h8 : n ≤ 8) (h : QD (jarD n c) st) : wpX (mkS true "Jar" g_Jar_init [.lst ((List.range n).map fun i => .int ((c i : Nat) : Int))]) env st QD X := wp_ok (mk_Jar (n := n) (c := c) rfl h1 h8) h
theorem mkTM {n : Nat} {f : Nat → Nat → Nat} (h1 : 1 ≤ n) (h8 : n ≤ 8) (hf : Good n f) (h : QD (tabD n f) st) : wpX (mkS true "Table" g_Table_init [matD n f]) env st QD X := wp_ok (mk_Table Grid.mat h1 h8 hf) h
theorem eqOwnJ {n m : Nat} {c d : Nat → Nat} {neg : Bool} {g : G} (h : wpG g [jarD n c, jarD m d] st (fun d s => IsB (fun b => QD (.bl (if neg then !b else b)) s) d) X) : wpX (gEqOwn CL neg "Jar" g (jarD n c) (jarD m d)) env st QD X := wp_eqOwn isCls_J isi_J h
theorem ownJ {n : Nat} {c : Nat → Nat} {g : G} {y : D} (h : wpG g [jarD n c, y] st QD X) : wpX (gOwn "Jar" g (jarD n c) y) env st QD X := wp_own isCls_J h
theorem ownT {n : Nat} {f : Nat → Nat → Nat} {g : G} {y : D} (h : wpG g [tabD n f, y] st QD X) : wpX (gOwn "Table" g (tabD n f) y) env st QD X := wp_own isCls_T h
theorem inOwnJ {n : Nat} {c : Nat → Nat} {g : G} {y : D} {neg : Bool} (h : wpG g [jarD n c, y] st (fun d s => IsB (fun b => QD (.bl (if neg then !b else b)) s) d) X) : wpX (gInOwn neg "Jar" g y (jarD n c)) env st QD X := wp_inOwn isCls_J h
theorem inOwnT {n : Nat} {f : Nat → Nat → Nat} {g : G} {y : D} {neg : Bool} (h : wpG g [tabD n f, y] st (fun d s => IsB (fun b => QD (.bl (if neg then !b else b)) s) d) X) : wpX (gInOwn neg "Table" g y (tabD n f)) env st QD X := wp_inOwn isCls_T h
theorem len_ndL {xs : List Nat} (h : QD (dI xs.length) st) : wpX (g1 lenS [.lst (ndL xs)]) env st QD X := len_g (ds := ndL xs) rfl (by simp [ndL]) h
theorem len_cntT {n : Nat} {c : Nat → Nat} (h : QD (dI n) st) : wpX (g1 lenS [.tup (cntL n c)]) env st QD X := len_g (ds := cntL n c) rfl cntL_len h
theorem neSP {x : D} (hx : Pl x) (h : QD (.bl false) st) : wpX (gNe x x) env st QD X := wp_neS hx h
theorem eqSP {x : D} (hx : Pl x) (h : QD (.bl true) st) : wpX (gEq x x) env st QD X := wp_eqS hx h
theorem in_bls {α : Type} {xs : List α} {f : α → Bool} {b neg : Bool} (h : QD (.bl (if neg then !xs.any fun x => f x == b else xs.any fun x => f x == b)) st) : wpX (gIn neg (.bl b) (.lst (xs.map fun x => .bl (f x)))) env st QD X := by
  refine wp_P (a := .bl (if neg then !xs.any fun x => f x == b else xs.any fun x => f x == b)) ?_ h
  simp only [inS, look]
  rw [if_pos ⟨rfl, by simp [List.all_map, dOk]⟩]
  simp only [List.any_map]
  rfl
theorem in_nats {α : Type} {xs : List α} {f : α → Nat} {a : Nat} {neg : Bool} (h : QD (.bl (if neg then !decide (a ∈ xs.map f) else decide (a ∈ xs.map f))) st) : wpX (gIn neg (.int (a : Int)) (.lst (xs.map fun x => .int ((f x : Nat) : Int)))) env st QD X := by
  have e : (xs.any fun x => PyData.eqv (toPy 58 (.int (f x : Int))) (toPy 58 (.int (a : Int)))) = decide (a ∈ xs.map f) := by
    rw [Bool.eq_iff_iff]
    simp only [List.any_eq_true, decide_eq_true_eq, List.mem_map]
    constructor
    · rintro ⟨x, h1, h2⟩
      refine ⟨x, h1, ?_⟩
      have h3 : ((f x : Int) == (a : Int)) = true := h2
      have := beq_iff_eq.mp h3
      omega
    · rintro ⟨x, h1, h2⟩
      refine ⟨x, h1, ?_⟩
      show ((f x : Int) == (a : Int)) = true
      rw [h2]; simp
  refine wp_P (a := .bl (if neg then !decide (a ∈ xs.map f) else decide (a ∈ xs.map f))) ?_ h
  simp only [inS, look]
  rw [if_pos ⟨rfl, by simp [List.all_map, dOk]⟩]
  simp only [List.any_map]
  rw [← e]
  rfl
theorem in_ndL {xs : List Nat} {a : Nat} {neg : Bool} (h : QD (.bl (if neg then !decide (a ∈ xs) else decide (a ∈ xs))) st) : wpX (gIn neg (.int (a : Int)) (.lst (ndL xs))) env st QD X := by
  refine in_nats (xs := xs) (f := id) ?_
  rw [List.map_id]; exact h
end
end BJ
namespace BJ
open PySem Dl
end BJ
end
local macro_rules | `(tactic| row_has dS) => `(tactic| first | assumption | omega | decide | (simp; done) | (simp; omega) | trivial | row_has dP)
local macro_rules | `(tactic| row_has dP) => `(tactic| ((with_reducible refine Dl.pl_of ?_); (try simp only [BJ.cntL, BJ.ndL, BJ.rowsL, BJ.rowD, BJ.matD]); (repeat (first | exact Dl.PlN.int | exact Dl.PlN.non | exact Dl.PlN.str (by decide) | exact Dl.PlA.nil | refine Dl.PlN.lst' ?_ | refine Dl.PlN.tup' ?_ | refine Dl.PlA.cons ?_ ?_ | refine Dl.PlA.app ?_ ?_ | refine Dl.PlA.map fun _ => ?_ | refine Dl.PlA.flat fun _ => ?_)); done))
local macro_rules | `(tactic| row_has drunC0) => `(tactic| first | (with_reducible show Dl.wpX (Dl.fVar _) _ _ _ _; refine Dl.wp_var rfl ?_) | ((with_reducible refine' Dl.then_nxE ?h1 ?_); (case h1 => first | (dsimp only [List.set, Dl.wipeE] <;> exact rfl) | exact rfl)) | (with_reducible refine Dl.then_rt ?_) | (with_reducible refine Dl.then_bk ?_) | (with_reducible refine Dl.then_ct ?_) | (with_reducible refine Dl.exit_rt ?_) | (with_reducible refine Dl.exit_nx ?_) | (with_reducible refine Dl.lq_nx ?_) | (with_reducible refine Dl.lq_ct ?_) | (with_reducible refine Dl.lq_bk ?_) | (with_reducible refine Dl.lq_rt ?_) | (with_reducible refine Dl.lq_ex ?_) | (with_reducible refine Dl.cut_rt ?_) | (with_reducible refine Dl.cut_ex ?_) | (with_reducible refine Dl.isb ?_) | (with_reducible refine Dl.if_t ?_) | (with_reducible refine Dl.if_f ?_) | (with_reducible refine Dl.if_nt ?_) | (with_reducible refine Dl.if_nf ?_) | (with_reducible refine Dl.wp_cut ?_) | (with_reducible refine Dl.wp_seq ?_) | (with_reducible refine Dl.wp_nil ?_) | (with_reducible refine Dl.wp_break ?_) | (with_reducible refine Dl.wp_cont ?_) | (with_reducible refine Dl.wp_expr ?_) | (with_reducible refine Dl.wp_ret ?_) | (with_reducible refine Dl.wp_retN ?_) | (with_reducible refine Dl.wp_if ?_) | (with_reducible refine Dl.wp_set ?_) | (with_reducible refine Dl.wp_setSub ?_) | (with_reducible refine Dl.wp_fldS ?_) | (with_reducible refine Dl.wp_for ?_) | (with_reducible refine Dl.wp_c ?_) | (with_reducible refine Dl.wp_bind ?_) | (with_reducible refine Dl.wp_newF ?_) | (with_reducible refine Dl.wp_newT ?_) | (with_reducible refine Dl.wp_anil ?_) | (with_reducible refine Dl.wp_acons ?_) | (with_reducible refine Dl.wp_op2 ?_) | (with_reducible refine Dl.wp_asB ?_) | (with_reducible refine Dl.wp_chain ?_) | (with_reducible refine Dl.wp_truQ ?_) | (with_reducible refine Dl.wp_not ?_) | (with_reducible refine Dl.wp_and ?_) | (with_reducible refine Dl.wp_or ?_) | (with_reducible refine Dl.wp_andV ?_) | (with_reducible refine Dl.wp_orV ?_) | (with_reducible refine Dl.wp_notV ?_) | (with_reducible refine Dl.wp_ifE ?_) | (with_reducible refine Dl.wp_addN ?_) | (with_reducible refine Dl.wp_addNL ?_) | (with_reducible refine Dl.wp_addLN ?_) | (with_reducible refine Dl.wp_ltN ?_) | (with_reducible refine Dl.wp_ltNL ?_) | (with_reducible refine Dl.wp_ltLN ?_) | (with_reducible refine Dl.wp_leN ?_) | (with_reducible refine Dl.wp_leNL ?_) | (with_reducible refine Dl.wp_leLN ?_) | (with_reducible refine Dl.wp_gtN ?_) | (with_reducible refine Dl.wp_gtNL ?_) | (with_reducible refine Dl.wp_geN ?_) | (with_reducible refine Dl.wp_geNL ?_) | (with_reducible refine Dl.wp_eqNN ?_) | (with_reducible refine Dl.wp_eqNL ?_) | (with_reducible refine Dl.wp_neNN ?_) | (with_reducible refine Dl.wp_neNL ?_) | (with_reducible refine Dl.wp_maxN ?_) | (with_reducible refine Dl.wp_maxLN ?_) | (with_reducible refine Dl.wp_maxNL ?_) | (with_reducible refine Dl.wp_minN ?_) | (with_reducible refine Dl.wp_minLN ?_) | (with_reducible refine Dl.wp_minNL ?_) | (with_reducible refine Dl.wp_intB ?_) | ((with_reducible refine Dl.wp_subN ?h1 ?_); (case h1 => row_has dS)) | ((with_reducible refine Dl.wp_subNL ?h1 ?_); (case h1 => row_has dS)) | ((with_reducible refine Dl.wp_subLN ?h1 ?_); (case h1 => row_has dS)) | ((with_reducible refine Dl.wp_modN ?h1 ?_); (case h1 => row_has dS)) | ((with_reducible refine Dl.wp_modNL ?h1 ?_); (case h1 => row_has dS)) | ((with_reducible refine Dl.wp_divN ?h1 ?h2 ?_); (case h1 => row_has dS); (case h2 => row_has dS)) | ((with_reducible refine Dl.wp_divNL ?h1 ?h2 ?_); (case h1 => row_has dS); (case h2 => row_has dS)) | ((with_reducible refine Dl.wp_mulN ?h1 ?_); (case h1 => row_has dS)) | ((with_reducible refine Dl.wp_mulNL ?h1 ?_); (case h1 => row_has dS)) | ((with_reducible refine Dl.wp_mulLN ?h1 ?_); (case h1 => row_has dS)) | ((with_reducible refine Dl.rng_n ?h1 ?_); (case h1 => row_has dS)) | ((with_reducible refine Dl.rng_l ?h1 ?_); (case h1 => row_has dS)) | ((with_reducible refine Dl.rng_nn ?h1 ?h2 ?_); (case h1 => row_has dS); (case h2 => row_has dS)) | ((with_reducible refine Dl.rng_ln ?h1 ?h2 ?_); (case h1 => row_has dS); (case h2 => row_has dS)) | ((with_reducible refine Dl.ix_mr ?h1 ?_); (case h1 => row_has dS)) | ((with_reducible refine Dl.ix_mrt ?h1 ?_); (case h1 => row_has dS)) | ((with_reducible refine Dl.lm_app ?h1 ?_); (case h1 => row_has dS)) | ((with_reducible refine BJ.and_mJ ?h1 ?_); (case h1 => row_has dS)) | ((with_reducible refine BJ.and_mT ?h1 ?_); (case h1 => row_has dS)) | ((with_reducible refine BJ.ix_cnt ?h1 ?_); (case h1 => row_has dS)) | ((with_reducible refine BJ.ix_mat ?h1 ?_); (case h1 => row_has dS)) | ((with_reducible refine BJ.ix_row ?h1 ?_); (case h1 => row_has dS)) | ((with_reducible refine BJ.mkJL ?h1 ?h2 ?_); (case h1 => row_has dS); (case h2 => row_has dS)) | ((with_reducible refine BJ.mkJT ?h1 ?h2 ?_); (case h1 => row_has dS); (case h2 => row_has dS)) | ((with_reducible refine BJ.mkJR ?h1 ?h2 ?_); (case h1 => row_has dS); (case h2 => row_has dS)) | ((with_reducible refine BJ.mkTM ?h1 ?h2 ?h3 ?_); (case h1 => row_has dS); (case h2 => row_has dS); (case h3 => row_has dS)) | ((with_reducible refine BJ.eqOwnJ  ?_)) | ((with_reducible refine BJ.ownJ  ?_)) | ((with_reducible refine BJ.ownT  ?_)) | ((with_reducible refine BJ.inOwnJ  ?_)) | ((with_reducible refine BJ.inOwnT  ?_)) | ((with_reducible refine BJ.len_ndL  ?_)) | ((with_reducible refine BJ.len_cntT  ?_)) | ((with_reducible refine BJ.neSP ?h1 ?_); (case h1 => row_has dS)) | ((with_reducible refine BJ.eqSP ?h1 ?_); (case h1 => row_has dS)) | ((with_reducible refine Dl.wpG_ok (BJ.Jar_add_ok ?h1 ?h2) ?_); (case h1 => row_has dS); (case h2 => row_has dS)) | ((with_reducible refine Dl.wpG_ok (BJ.Jar_eq_ok ) ?_)) | ((with_reducible refine Dl.wpG_ok (BJ.Jar_colours_ok ?h1) ?_); (case h1 => row_has dS)) | ((with_reducible refine Dl.wpG_ok (BJ.Table_rows_ok ?h1) ?_); (case h1 => row_has dS)) | ((with_reducible refine Dl.wpG_ok (BJ.is_integer_int ) ?_)) | ((with_reducible refine Dl.wpG_ok (BJ.Jar_validate_ok ) ?_)) | ((with_reducible refine BJ.in_bls  ?_)) | ((with_reducible refine BJ.in_ndL  ?_)) | ((with_reducible refine BJ.in_nats  ?_)))
local macro_rules | `(tactic| row_has drunC5) => `(tactic| first | (with_reducible refine Dl.len_mr ?_) | (with_reducible refine Dl.len_m ?_) | (with_reducible refine Dl.len_mt ?_) | (with_reducible refine Dl.list_l ?_) | (with_reducible refine Dl.list_t ?_) | (with_reducible refine Dl.tuple_l ?_) | (with_reducible refine Dl.tuple_t ?_) | (with_reducible refine Dl.tru_ls ?_) | (with_reducible refine Dl.sum_m ?_) | (with_reducible refine Dl.all_m ?_) | (with_reducible refine Dl.any_m ?_) | (with_reducible refine Dl.isL_mid ?_) | (with_reducible refine Dl.wp_sub ?_) | (with_reducible refine Dl.wp_add ?_) | (with_reducible refine Dl.wp_lt ?_) | (with_reducible refine Dl.wp_le ?_) | (with_reducible refine Dl.wp_gt ?_) | (with_reducible refine Dl.wp_ge ?_) | (with_reducible refine Dl.wp_eqI ?_) | (with_reducible refine Dl.wp_neI ?_) | (with_reducible refine Dl.wp_isN ?_) | (with_reducible refine Dl.wp_isB ?_) | (with_reducible refine Dl.wp_lst ?_) | (with_reducible refine Dl.wp_tup ?_) | (with_reducible refine Dl.wp_CB ?_) | (with_reducible refine Dl.wp_call ?_) | (with_reducible refine Dl.wp_fldQ ?_) | (with_reducible refine Dl.wp_meth ?_) | (with_reducible refine Dl.wp_meth0 ?_) | (with_reducible refine Dl.wp_prop ?_) | (with_reducible refine Dl.wp_isiQ ?_) | (with_reducible refine Dl.wp_isoQ ?_) | (with_reducible refine Dl.wp_itQ ?_) | (with_reducible refine Dl.wp_lc ?_) | (with_reducible refine Dl.wp_make ?_) | (with_reducible refine Dl.wp_lm ?_) | (with_reducible refine Dl.wp_dict0 ?_) | (with_reducible refine Dl.wp_slF ?_) | (with_reducible refine Dl.wp_oNone ?_) | (with_reducible refine Dl.wp_oSome ?_) | (with_reducible refine Dl.tru_b ?_) | (with_reducible refine Dl.itL ?_) | (with_reducible refine Dl.itR ?_) | (with_reducible refine Dl.itT ?_) | (with_reducible refine Dl.wp_rngN ?_) | (with_reducible refine Dl.wp_rngAB ?_) | (with_reducible refine Dl.wp_negC ?_) | (with_reducible refine Dl.wp_eqBB ?_) | (with_reducible refine Dl.wp_neBB ?_) | (with_reducible refine Dl.wp_raise1 ?_) | (with_reducible refine Dl.raise1q ?_) | (with_reducible refine Dl.wp_raise0 ?_) | (with_reducible refine Dl.then_ex ?_) | (with_reducible refine Dl.exit_ex ?_) | (with_reducible refine Dl.wp_tryH ?_) | (with_reducible refine Dl.try_nx ?_) | (with_reducible refine Dl.try_rt ?_) | (with_reducible refine Dl.try_bk ?_) | (with_reducible refine Dl.try_ct ?_) | (with_reducible refine Dl.wp_xf1 ?_) | (with_reducible refine Dl.wp_astar ?_) | (with_reducible refine Dl.star_l ?_) | (with_reducible refine Dl.star_t ?_) | (with_reducible refine Dl.star_r ?_) | ((with_reducible refine Dl.and_len ?h1 ?_); (case h1 => rfl)) | ((with_reducible refine Dl.and_len1 ?h1 ?_); (case h1 => rfl)) | ((with_reducible refine Dl.and_le ?h1 ?_); (case h1 => (first | (simp; done) | (simp; omega)))) | ((with_reducible refine Dl.cut_nx ?h1 ?_); (case h1 => (first | rfl | (simp; done)))) | ((with_reducible refine Dl.cut_ct ?h1 ?_); (case h1 => (first | rfl | (simp; done)))) | ((with_reducible refine Dl.cut_bk ?h1 ?_); (case h1 => (first | rfl | (simp; done)))) | ((with_reducible refine Dl.isiQ_t ?h1 ?_); (case h1 => (first | rfl | (simp [Dl.isiB, Dl.tyN, Dl.isB]; done)))) | ((with_reducible refine Dl.isiQ_f ?h1 ?_); (case h1 => (first | rfl | (simp [Dl.isiB, Dl.tyN, Dl.isB]; done)))) | ((with_reducible refine Dl.isoQ_f ?h1 ?_); (case h1 => rfl)) | (with_reducible refine BJ.and_isT ?_) | (with_reducible refine BJ.fldT ?_) | (with_reducible refine BJ.itM ?_) | (with_reducible refine BJ.len_mat ?_) | (with_reducible refine Dl.wpG_ok BJ.Table_size_ok ?_) | (with_reducible refine Dl.wpG_ok BJ.Table_len_ok ?_) | (with_reducible refine BJ.len_lst ?_) | (with_reducible refine BJ.len_tup ?_) | (with_reducible refine BJ.ix0L ?_) | (with_reducible refine BJ.ix1L ?_) | (with_reducible refine BJ.ix2L ?_) | (with_reducible refine BJ.ix3L ?_) | (with_reducible refine BJ.ix0T ?_) | (with_reducible refine BJ.ix1T ?_) | (with_reducible refine BJ.ix2T ?_) | (with_reducible refine BJ.ix3T ?_) | (with_reducible refine BJ.and_isJ ?_) | (with_reducible refine BJ.fldJ ?_) | (with_reducible refine BJ.len_cnt ?_) | (with_reducible refine Dl.wpG_ok BJ.Jar_size_ok ?_) | (with_reducible refine Dl.wpG_ok BJ.Jar_counts_ok ?_) | (with_reducible refine BJ.wp_augI ?_) | (with_reducible refine BJ.wp_par ?_) | (with_reducible refine BJ.wp_par3 ?_) | (with_reducible refine BJ.wp_cmeth ?_) | (with_reducible refine BJ.wp_binJ ?_) | (with_reducible refine BJ.wp_sumCnt ?_) | (with_reducible refine BJ.wp_mulJ ?_) | (with_reducible refine Dl.wpG_ok BJ.Jar_total_ok ?_) | (with_reducible refine Dl.wpG_ok BJ.Jar_bool_ok ?_) | (with_reducible refine BJ.ixo0 ?_) | (with_reducible refine BJ.ixo1 ?_) | (with_reducible refine BJ.ixo2 ?_) | (with_reducible refine BJ.ixo3 ?_))
local macro_rules | `(tactic| row_has drunC7) => `(tactic| first | (with_reducible refine Dl.wp_asg ?_) | ((with_reducible refine' Dl.asg_q ?h1 ?_); (case h1 => rfl)) | (with_reducible exact ⟨rfl, rfl⟩) | ((with_reducible refine Dl.ifT ?h1 ?_); (case h1 => row_has dT)) | ((with_reducible refine Dl.ifF ?h1 ?_); (case h1 => row_has dF)))
local macro_rules | `(tactic| row_has drun) => `(tactic| repeat (first | row_has drunC0 | row_has drunC5 | row_has drunC7))
section
set_option Elab.async false
set_option linter.all false
set_option maxRecDepth 100000
set_option autoImplicit false
set_option maxHeartbeats 0
namespace BJ
open PySem Dl
section
variable {env : En} {st r : Sto} {QD : D → Sto → Prop} {X : XQ} {Q : Out → Prop} {p : D} {QI : ItD → Sto → Prop}
noncomputable def pr (a b : Nat) : Nat × Nat := (min a b, max a b)
noncomputable def disP (f : Nat → Nat → Nat) (a b c : Nat) : Bool := decide (f (f a b) c ≠ f a (f b c))
theorem is_disputed_ok {n a b c : Nat} {f : Nat → Nat → Nat} (hf : Good n f) (ha : a < n) (hb : b < n) (hc : c < n) : g_is_disputed [tabD n f, dI a, dI b, dI c] st = some (.ok (.bl (disP f a b c)) st) := by
  refine wpG_eq ?_
  (unfold g_is_disputed); refine wp_exit ?_; (unfold b_is_disputed); (simp only [Dl.startE, List.map_cons, List.map_nil, List.length_cons, List.length_nil, Nat.reduceAdd, Nat.reduceSub, List.replicate_succ, List.replicate_zero, List.cons_append, List.nil_append])
  have h1 := (hf a b ha hb).1
  have h2 := (hf b c hb hc).1
  row_has drun
  (refine wpG_ok (getitem_ok ha hb) ?_)
  row_has drun
  (refine wpG_ok (getitem_ok h1 hc) ?_)
  row_has drun
  (refine wpG_ok (getitem_ok hb hc) ?_)
  row_has drun
  (refine wpG_ok (getitem_ok ha h2) ?_)
  row_has drun
  exact ⟨rfl, by simp [disP]⟩
noncomputable def trp (n : Nat) (f : Nat → Nat → Nat) : List D := (List.range n).flatMap fun a => (List.range n).flatMap fun b => ((List.range n).filter fun c => disP f a b c).flatMap fun c => [.tup [dI a, dI b, dI c]]
noncomputable def trpO (n : Nat) (f : Nat → Nat → Nat) : D := match (trp n f).head? with | some d => d | none => .non
theorem flat_len {α : Type} {xs : List α} {F : α → List D} {B : Nat} (h : ∀ x ∈ xs, (F x).length ≤ B) : (xs.flatMap F).length ≤ xs.length * B := by
  induction xs with
  | nil => simp
  | cons x xs ih =>
    rw [List.flatMap_cons, List.length_append, List.length_cons, Nat.add_mul]
    have := h x (by simp)
    have := ih fun y hy => h y (by simp [hy])
    omega
theorem trp_len {n : Nat} {f : Nat → Nat → Nat} (h8 : n ≤ 8) : (trp n f).length ≤ 512 := by
  refine Nat.le_trans (flat_len (B := 64) fun a _ => Nat.le_trans (flat_len (B := 8) fun b _ => Nat.le_trans (flat_len (B := 1) fun c _ => by simp) ?_) ?_) ?_
  · have := List.length_filter_le (fun c => disP f a b c) (List.range n)
    simp at this ⊢; omega
  · simp; omega
  · simp; omega
theorem first_dispute_ok {n : Nat} {f : Nat → Nat → Nat} (h8 : n ≤ 8) (hf : Good n f) : g_first_dispute [tabD n f] st = some (.ok (trpO n f) st) := by
  refine wpG_eq ?_
  (unfold g_first_dispute); refine wp_exit ?_; (unfold b_first_dispute); (simp only [Dl.startE, List.map_cons, List.map_nil, List.length_cons, List.length_nil, Nat.reduceAdd, Nat.reduceSub, List.replicate_succ, List.replicate_zero, List.cons_append, List.nil_append])
  row_has drun
  refine wp_listRg (by omega) ?_
  row_has drun
  have hl := trp_len (f := f) h8
  refine wp_comp (L := trp n f) (by omega) (kp_clA (List.range n) dI _ ?_ fun a ha => ⟨_, rfl, kp_clA (List.range n) dI _ ?_ fun b hb => ⟨_, rfl, kp_cl (List.range n) dI (fun c => disP f a b c) _ ?_ fun c hc => ⟨_, rfl, ?_, fun _ => kp_el ?_⟩⟩⟩) ?_
  · row_has drun
    exact ⟨rfl, rfl, trivial⟩
  · row_has drun
    exact ⟨rfl, rfl, trivial⟩
  · row_has drun
    exact ⟨rfl, rfl, trivial⟩
  · row_has drun
    (refine wpG_ok (is_disputed_ok hf (List.mem_range.mp ha) (List.mem_range.mp hb) (List.mem_range.mp hc)) ?_)
    row_has drun
  · row_has drun
  · unfold trpO
    row_has drun
    cases q : trp n f with
    | nil =>
      row_has drun
    | cons x xs =>
      row_has drun
theorem trp_mem {n : Nat} {f : Nat → Nat → Nat} {d : D} : d ∈ trp n f ↔ ∃ a b c, a < n ∧ b < n ∧ c < n ∧ disP f a b c = true ∧ d = .tup [dI a, dI b, dI c] := by
  unfold trp
  simp only [List.mem_flatMap, List.mem_range, List.mem_filter, List.mem_singleton]
  constructor
  · rintro ⟨a, ha, b, hb, c, ⟨hc, h⟩, e⟩
    exact ⟨a, b, c, ha, hb, hc, h, e⟩
  · rintro ⟨a, b, c, ha, hb, hc, h, e⟩
    exact ⟨a, ha, b, hb, c, ⟨hc, h⟩, e⟩
/-! ### ways -/
noncomputable def canW (n : Nat) (f : Nat → Nat → Nat) (c : Nat → Nat) : List (Nat × Nat) → Bool
  | [] => true
  | w :: ws => canP n c w.1 w.2 && canW n f (aft f c w.1 w.2) ws
noncomputable def endJ (f : Nat → Nat → Nat) (c : Nat → Nat) : List (Nat × Nat) → (Nat → Nat)
  | [] => c
  | w :: ws => endJ f (aft f c w.1 w.2) ws
theorem canW_app {n : Nat} {f : Nat → Nat → Nat} : ∀ {xs ys : List (Nat × Nat)} {c : Nat → Nat}, canW n f c (xs ++ ys) = (canW n f c xs && canW n f (endJ f c xs) ys)
  | [], ys, c => by simp [canW, endJ]
  | x :: xs, ys, c => by simp [canW, endJ, canW_app (xs := xs), Bool.and_assoc]
theorem endJ_app {f : Nat → Nat → Nat} : ∀ {xs ys : List (Nat × Nat)} {c : Nat → Nat}, endJ f c (xs ++ ys) = endJ f (endJ f c xs) ys
  | [], ys, c => rfl
  | x :: xs, ys, c => by simp [endJ, endJ_app (xs := xs)]
theorem truOwnJ {n : Nat} {c : Nat → Nat} {g : G} {QB : Bool → Sto → Prop} (h : wpG g [jarD n c] st (fun d s => IsB (fun b => QB b s) d) X) : wpX (gTruOwn "Jar" g (jarD n c)) env st QB X := wp_gd isCls_J (wp_asB h)
theorem can_draw_pr {n : Nat} {c : Nat → Nat} {w : Nat × Nat} : g_Jar_can_draw [jarD n c, prD w] st = some (.ok (.bl (canP n c w.1 w.2)) st) := by rw [← canD_N]; exact can_draw_ok rfl rfl
end
end BJ
end
local macro_rules | `(tactic| row_has drunC1) => `(tactic| first | ((with_reducible refine BJ.truOwnJ  ?_)) | ((with_reducible refine Dl.wpG_ok (BJ.Jar_bool_ok ) ?_)) | ((with_reducible refine Dl.wpG_ok (BJ.can_draw_pr ) ?_)) | ((with_reducible refine Dl.wpG_ok (BJ.Jar_total_ok ) ?_)))
local macro_rules | `(tactic| row_has drun) => `(tactic| repeat (first | row_has drunC0 | row_has drunC1 | row_has drunC5 | row_has drunC7))
section
set_option Elab.async false
set_option linter.all false
set_option maxRecDepth 100000
set_option autoImplicit false
set_option maxHeartbeats 0
namespace BJ
open PySem Dl
section
variable {env : En} {st r : Sto} {QD : D → Sto → Prop} {X : XQ} {Q : Out → Prop} {p : D} {QI : ItD → Sto → Prop}
theorem validate_beans_ok {n : Nat} {f : Nat → Nat → Nat} {c : Nat → Nat} (h0 : 0 < tot n c) : g_validate_beans [tabD n f, jarD n c] st = some (.ok .non st) := by
  refine wpG_eq ?_
  (unfold g_validate_beans); refine wp_exit ?_; (unfold b_validate_beans); (simp only [Dl.startE, List.map_cons, List.map_nil, List.length_cons, List.length_nil, Nat.reduceAdd, Nat.reduceSub, List.replicate_succ, List.replicate_zero, List.cons_append, List.nil_append])
  row_has drun
end
end BJ
namespace BJ
open PySem Dl
end BJ
end
section
set_option Elab.async false
set_option linter.all false
set_option maxRecDepth 100000
set_option autoImplicit false
/-! The finest groups: plain, no program. -/
namespace BJ
section
variable {n : Nat} {f : Nat → Nat → Nat} {m m' : Nat → Nat}
inductive Cg (n : Nat) (f : Nat → Nat → Nat) : Nat → Nat → Prop
  | refl (a : Nat) : Cg n f a a
  | symm {a b : Nat} : Cg n f a b → Cg n f b a
  | trans {a b c : Nat} : Cg n f a b → Cg n f b c → Cg n f a c
  | test {a b c : Nat} (ha : a < n) (hb : b < n) (hc : c < n) : Cg n f (f (f a b) c) (f a (f b c))
  | put {a b c : Nat} (h : Cg n f a b) (ha : a < n) (hb : b < n) (hc : c < n) : Cg n f (f a c) (f b c)
/-- names of groups: the least colour of each -/
structure Nm (n : Nat) (m : Nat → Nat) : Prop where
  le : ∀ i, i < n → m i ≤ i
  id : ∀ i, i < n → m (m i) = m i
noncomputable def Sd (n : Nat) (f : Nat → Nat → Nat) (m : Nat → Nat) : Prop := ∀ i, i < n → Cg n f (m i) i
structure Cl (n : Nat) (f : Nat → Nat → Nat) (m : Nat → Nat) : Prop where
  test : ∀ a b c, a < n → b < n → c < n → m (f (f a b) c) = m (f a (f b c))
  put : ∀ a b c, a < n → b < n → c < n → m a = m b → m (f a c) = m (f b c)
theorem Cl.of_eq (e : ∀ i, i < n → m i = m' i) (hf : Good n f) (h : Cl n f m) : Cl n f m' := by
  refine ⟨fun a b c ha hb hc => ?_, fun a b c ha hb hc h2 => ?_⟩
  · rw [← e _ (hf _ _ (hf _ _ ha hb).1 hc).1, ← e _ (hf _ _ ha (hf _ _ hb hc).1).1]
    exact h.test a b c ha hb hc
  · rw [← e _ (hf _ _ ha hc).1, ← e _ (hf _ _ hb hc).1]
    exact h.put a b c ha hb hc (by rw [e a ha, e b hb]; exact h2)
/-- x and y are joined -/
noncomputable def jn (m : Nat → Nat) (x y : Nat) : Nat → Nat := fun i => if m i = max (m x) (m y) then min (m x) (m y) else m i
theorem jn_le {x y i : Nat} : jn m x y i ≤ m i := by unfold jn; split <;> omega
theorem jn_same {x y : Nat} : jn m x y x = jn m x y y := by unfold jn; split <;> split <;> omega
theorem jn_keep {x y i j : Nat} (h : m i = m j) : jn m x y i = jn m x y j := by unfold jn; rw [h]
theorem jn_back {x y i j : Nat} (h : jn m x y i = jn m x y j) : m i = m j ∨ (m i = m x ∧ m j = m y) ∨ (m i = m y ∧ m j = m x) := by
  unfold jn at h
  split at h <;> split at h <;> omega
theorem Nm.jn (h : Nm n m) {x y : Nat} (hx : x < n) (hy : y < n) : Nm n (jn m x y) := by
  have ix := h.id x hx
  have iy := h.id y hy
  refine ⟨fun i hi => Nat.le_trans jn_le (h.le i hi), fun i hi => ?_⟩
  have ii := h.id i hi
  have hmin : m (min (m x) (m y)) = min (m x) (m y) := by
    by_cases hh : m x ≤ m y
    · rw [Nat.min_eq_left hh]; exact ix
    · rw [Nat.min_eq_right (by omega)]; exact iy
  have e : ∀ k, m k = k → BJ.jn m x y k = if k = max (m x) (m y) then min (m x) (m y) else k := fun k hk => by unfold BJ.jn; rw [hk]
  have e2 : BJ.jn m x y i = if m i = max (m x) (m y) then min (m x) (m y) else m i := rfl
  rw [e2]
  split
  · rename_i q
    rw [e _ hmin]; split <;> omega
  · rename_i q
    rw [e _ ii, if_neg q]
theorem Sd.jn (h : Sd n f m) {x y : Nat} (hx : x < n) (hy : y < n) (c : Cg n f x y) : Sd n f (jn m x y) := by
  intro i hi
  have hxy : Cg n f (m x) (m y) := ((h x hx).trans c).trans (h y hy).symm
  unfold BJ.jn
  split
  · rename_i q
    by_cases hh : m x ≤ m y
    · rw [Nat.min_eq_left hh]
      rw [Nat.max_eq_right hh] at q
      refine hxy.trans ?_
      rw [← q]; exact h i hi
    · rw [Nat.min_eq_right (by omega)]
      rw [Nat.max_eq_left (by omega)] at q
      refine hxy.symm.trans ?_
      rw [← q]; exact h i hi
  · exact h i hi
theorem sum_le {c d : Nat → Nat} {xs : List Nat} (h : ∀ i ∈ xs, c i ≤ d i) : (xs.map c).sum ≤ (xs.map d).sum := by
  induction xs with
  | nil => simp
  | cons x xs ih =>
    simp only [List.map_cons, List.sum_cons]
    have := h x (by simp)
    have := ih fun i hi => h i (by simp [hi])
    omega
theorem sum_lt {c d : Nat → Nat} {xs : List Nat} {k : Nat} (h : ∀ i ∈ xs, c i ≤ d i) (hk : k ∈ xs) (h2 : c k < d k) : (xs.map c).sum < (xs.map d).sum := by
  induction xs with
  | nil => cases hk
  | cons x xs ih =>
    simp only [List.map_cons, List.sum_cons]
    have h3 := h x (by simp)
    rcases List.mem_cons.mp hk with rfl | hk
    · have := sum_le (c := c) (d := d) (xs := xs) fun i hi => h i (by simp [hi])
      omega
    · have := ih (fun i hi => h i (by simp [hi])) hk
      omega
theorem tot_lt {c d : Nat → Nat} {k : Nat} (h : ∀ i, i < n → c i ≤ d i) (hk : k < n) (h2 : c k < d k) : tot n c < tot n d := sum_lt (fun i hi => h i (List.mem_range.mp hi)) (List.mem_range.mpr hk) h2
/-! ### steps that connect -/
inductive Gn (S : List (Nat × Nat)) : Nat → Nat → Prop
  | refl (a : Nat) : Gn S a a
  | symm {a b : Nat} : Gn S a b → Gn S b a
  | trans {a b c : Nat} : Gn S a b → Gn S b c → Gn S a c
  | step {a b : Nat} (h : (a, b) ∈ S) : Gn S a b
theorem Gn.mono {S T : List (Nat × Nat)} (s : ∀ p ∈ S, p ∈ T) {a b : Nat} (h : Gn S a b) : Gn T a b := by
  induction h with
  | refl a => exact .refl a
  | symm _ ih => exact ih.symm
  | trans _ _ ih1 ih2 => exact ih1.trans ih2
  | step h => exact .step (s _ h)
theorem Gn.put {S : List (Nat × Nat)} {c : Nat} (hS : ∀ x y, (x, y) ∈ S → m (f x c) = m (f y c)) {a b : Nat} (h : Gn S a b) : m (f a c) = m (f b c) := by
  induction h with
  | refl a => rfl
  | symm _ ih => exact ih.symm
  | trans _ _ ih1 ih2 => exact ih1.trans ih2
  | step h => exact hS _ _ h
/-- the forest: names, steps that were taken, steps that wait -/
structure Fo (n : Nat) (f : Nat → Nat → Nat) (m : Nat → Nat) (S W : List (Nat × Nat)) : Prop where
  nm : Nm n m
  sd : Sd n f m
  gen : ∀ i j, i < n → j < n → m i = m j → Gn S i j
  inS : ∀ p ∈ S, p.1 < n ∧ p.2 < n
  inW : ∀ p ∈ W, p.1 < n ∧ p.2 < n
  sW : ∀ p ∈ W, Cg n f p.1 p.2
  test : ∀ a b c, a < n → b < n → c < n → m (f (f a b) c) = m (f a (f b c)) ∨ (f (f a b) c, f a (f b c)) ∈ W
  put : ∀ p ∈ S, ∀ c, c < n → m (f p.1 c) = m (f p.2 c) ∨ (f p.1 c, f p.2 c) ∈ W
theorem Fo.done {S : List (Nat × Nat)} (h : Fo n f m S []) : Cl n f m := by
  refine ⟨fun a b c ha hb hc => ?_, fun a b c ha hb hc e => ?_⟩
  · rcases h.test a b c ha hb hc with e | e
    · exact e
    · cases e
  · refine (h.gen a b ha hb e).put fun x y hxy => ?_
    rcases h.put (x, y) hxy c hc with e | e
    · exact e
    · cases e
/-- a step that joins -/
theorem Fo.take {S W V : List (Nat × Nat)} {x y : Nat} (hf : Good n f) (h : Fo n f m S ((x, y) :: W)) (hV : ∀ p, p ∈ V ↔ ∃ c, c < n ∧ p = (f x c, f y c) ∧ f x c ≠ f y c) : Fo n f (jn m x y) (S ++ [(x, y)]) (W ++ V) := by
  obtain ⟨hx, hy⟩ := h.inW (x, y) (by simp)
  have hxy : Cg n f x y := h.sW (x, y) (by simp)
  refine ⟨h.nm.jn hx hy, h.sd.jn hx hy hxy, fun i j hi hj e => ?_, fun p hp => ?_, fun p hp => ?_, fun p hp => ?_, fun a b c ha hb hc => ?_, fun p hp c hc => ?_⟩
  · have g : ∀ i j, i < n → j < n → m i = m j → Gn (S ++ [(x, y)]) i j := fun i j hi hj e => (h.gen i j hi hj e).mono fun p hp => by simp [hp]
    have s : Gn (S ++ [(x, y)]) x y := .step (by simp)
    rcases jn_back e with e | ⟨e1, e2⟩ | ⟨e1, e2⟩
    · exact g i j hi hj e
    · exact ((g i x hi hx e1).trans s).trans (g j y hj hy e2).symm
    · exact ((g i y hi hy e1).trans s.symm).trans (g j x hj hx e2).symm
  · rcases List.mem_append.mp hp with hp | hp
    · exact h.inS p hp
    · rw [List.mem_singleton.mp hp]; exact ⟨hx, hy⟩
  · rcases List.mem_append.mp hp with hp | hp
    · exact h.inW p (by simp [hp])
    · obtain ⟨c, hc, rfl, _⟩ := (hV p).mp hp
      exact ⟨(hf x c hx hc).1, (hf y c hy hc).1⟩
  · rcases List.mem_append.mp hp with hp | hp
    · exact h.sW p (by simp [hp])
    · obtain ⟨c, hc, rfl, _⟩ := (hV p).mp hp
      exact .put hxy hx hy hc
  · rcases h.test a b c ha hb hc with e2 | e2
    · exact .inl (jn_keep e2)
    · rcases List.mem_cons.mp e2 with e3 | e3
      · injection e3 with e4 e5; exact .inl (by rw [e4, e5]; exact jn_same)
      · exact .inr (by simp [e3])
  · rcases List.mem_append.mp hp with hp | hp
    · rcases h.put p hp c hc with e2 | e2
      · exact .inl (jn_keep e2)
      · rcases List.mem_cons.mp e2 with e3 | e3
        · injection e3 with e4 e5; exact .inl (by rw [e4, e5]; exact jn_same)
        · exact .inr (by simp [e3])
    · rw [List.mem_singleton.mp hp]
      by_cases e : f x c = f y c
      · exact .inl (by rw [show f (x, y).1 c = f x c from rfl, e])
      · exact .inr (List.mem_append.mpr (.inr ((hV _).mpr ⟨c, hc, rfl, e⟩)))
end
end BJ
end
section
set_option Elab.async false
set_option linter.all false
set_option maxRecDepth 100000
set_option autoImplicit false
set_option maxHeartbeats 0
namespace BJ
open PySem Dl
/-- a step: from, to, why -/
noncomputable abbrev Stp := Nat × Nat × D
noncomputable def prs (s : Stp) : Nat × Nat := (s.1, s.2.1)
noncomputable def trips (n : Nat) : List (Nat × Nat × Nat) := (List.range n).flatMap fun a => (List.range n).flatMap fun b => (List.range n).flatMap fun c => [(a, b, c)]
noncomputable def tstF (f : Nat → Nat → Nat) (t : Nat × Nat × Nat) : List Stp := if f (f t.1 t.2.1) t.2.2 = f t.1 (f t.2.1 t.2.2) then [] else [(f (f t.1 t.2.1) t.2.2, f t.1 (f t.2.1 t.2.2), .tup [.str "test", dI t.1, dI t.2.1, dI t.2.2])]
noncomputable def tst (n : Nat) (f : Nat → Nat → Nat) : List Stp := (trips n).flatMap (tstF f)
theorem trips_mem {n : Nat} {t : Nat × Nat × Nat} : t ∈ trips n ↔ t.1 < n ∧ t.2.1 < n ∧ t.2.2 < n := by
  obtain ⟨a, b, c⟩ := t
  unfold trips
  simp only [List.mem_flatMap, List.mem_range, List.mem_singleton, Prod.mk.injEq]
  constructor
  · rintro ⟨x, hx, y, hy, z, hz, rfl, rfl, rfl⟩
    exact ⟨hx, hy, hz⟩
  · rintro ⟨ha, hb, hc⟩
    exact ⟨a, ha, b, hb, c, hc, rfl, rfl, rfl⟩
section
variable {env : En} {st r : Sto} {QD : D → Sto → Prop} {X : XQ} {Q : Out → Prop} {p : D} {QI : ItD → Sto → Prop}
/-! ### the forest -/
noncomputable def foN : List Str := ["own_table", "own_steps", "own_names"]
noncomputable def foD (n : Nat) (f : Nat → Nat → Nat) (m : Nat → Nat) (j : Nat) : D := .ins "Forest" foN [tabD n f, .obj j, .lst (cntL n m)]
theorem in_pair2 {x a b : Nat} (h : QD (.bl (decide (x = a ∨ x = b))) st) : wpX (gIn false (dI x) (.tup [dI a, dI b])) env st QD X := by
  refine wp_P (a := .bl (decide (x = a ∨ x = b))) ?_ h
  have e : ∀ u v : Nat, eqD (dI u) (dI v) = decide (v = u) := fun u v => by
    show (((u : Int) == (v : Int)) : Bool) = _
    rw [Bool.eq_iff_iff]; simp; omega
  simp only [inS, look]
  rw [if_pos ⟨rfl, by simp [flatD]⟩]
  simp [e]
theorem foN_n {n j : Nat} {f : Nat → Nat → Nat} {m : Nat → Nat} {QD : D → Sto → Prop} (h : QD (.lst (cntL n m)) (st ++ foD n f m j :: r)) : FldQ "Forest" "own_names" QD (.obj st.length) (st ++ foD n f m j :: r) := ⟨_, by simp [fldS, look, foD]; rfl, h⟩
theorem foN_s {n j : Nat} {f : Nat → Nat → Nat} {m : Nat → Nat} {QD : D → Sto → Prop} (h : QD (.obj j) (st ++ foD n f m j :: r)) : FldQ "Forest" "own_steps" QD (.obj st.length) (st ++ foD n f m j :: r) := ⟨_, by simp [fldS, look, foD]; rfl, h⟩
end
end BJ
end
section
set_option Elab.async false
set_option linter.all false
set_option maxRecDepth 100000
set_option autoImplicit false
set_option maxHeartbeats 0
namespace BJ
open PySem Dl
section
variable {env : En} {st r : Sto} {QD : D → Sto → Prop} {X : XQ} {Q : Out → Prop} {p : D} {QI : ItD → Sto → Prop}
/-! the whole forest -/
theorem tst_prs {n : Nat} {f : Nat → Nat → Nat} {p : Nat × Nat} : p ∈ (tst n f).map prs ↔ ∃ a b c, a < n ∧ b < n ∧ c < n ∧ f (f a b) c ≠ f a (f b c) ∧ p = (f (f a b) c, f a (f b c)) := by
  unfold tst
  simp only [List.mem_map, List.mem_flatMap]
  constructor
  · rintro ⟨s, ⟨⟨a, b, c⟩, ht, hs⟩, rfl⟩
    obtain ⟨ha, hb, hc⟩ := trips_mem.mp ht
    unfold tstF at hs
    dsimp only at hs
    split at hs
    · cases hs
    · rename_i hne
      rw [List.mem_singleton.mp hs]
      exact ⟨a, b, c, ha, hb, hc, hne, rfl⟩
  · rintro ⟨a, b, c, ha, hb, hc, hne, rfl⟩
    exact ⟨_, ⟨(a, b, c), trips_mem.mpr ⟨ha, hb, hc⟩, by unfold tstF; rw [if_neg hne]; exact List.mem_singleton.mpr rfl⟩, rfl⟩
theorem Fo.start {n : Nat} {f : Nat → Nat → Nat} (hf : Good n f) : Fo n f (fun i => i) [] ((tst n f).map prs) := by
  refine ⟨⟨fun _ _ => Nat.le_refl _, fun _ _ => rfl⟩, fun i _ => .refl i, fun i j _ _ e => (show i = j from e) ▸ .refl i, fun p hp => (by cases hp), fun p hp => ?_, fun p hp => ?_, fun a b c ha hb hc => ?_, fun p hp => (by cases hp)⟩
  · obtain ⟨a, b, c, ha, hb, hc, _, rfl⟩ := tst_prs.mp hp
    exact ⟨(hf _ _ (hf _ _ ha hb).1 hc).1, (hf _ _ ha (hf _ _ hb hc).1).1⟩
  · obtain ⟨a, b, c, ha, hb, hc, _, rfl⟩ := tst_prs.mp hp
    exact .test ha hb hc
  · by_cases e : f (f a b) c = f a (f b c)
    · exact .inl e
    · exact .inr (tst_prs.mpr ⟨a, b, c, ha, hb, hc, e, rfl⟩)
/-- the least colours of the groups; the groups -/
noncomputable def heads (n : Nat) (m : Nat → Nat) : List Nat := (List.range n).filter fun i => decide (m i = i)
end
end BJ
end
section
set_option Elab.async false
set_option linter.all false
set_option maxRecDepth 100000
set_option autoImplicit false
set_option maxHeartbeats 0
namespace BJ
open PySem Dl
section
variable {env : En} {st r : Sto} {QD : D → Sto → Prop} {X : XQ} {Q : Out → Prop} {p : D} {QI : ItD → Sto → Prop} {n : Nat} {f : Nat → Nat → Nat} {m : Nat → Nat}
noncomputable def hd (n : Nat) (m : Nat → Nat) (i : Nat) : Nat := (heads n m).getD i 0
theorem filter_one {k i : Nat} {p : Nat → Bool} (hi : i < k) (h : ∀ j, j < k → (p j = true ↔ j = i)) : (List.range k).filter p = [i] := by
  have e : (List.range k).filter p = (List.range k).filter fun j => j == i := List.filter_congr fun j hj => by
    have := h j (List.mem_range.mp hj)
    rw [Bool.eq_iff_iff, this]; simp
  rw [e]
  clear e h
  induction k with
  | zero => omega
  | succ k ih =>
    rw [List.range_succ, List.filter_append]
    by_cases hk : i = k
    · subst hk
      rw [List.filter_eq_nil_iff.mpr fun j hj => by have := List.mem_range.mp hj; simp; omega]
      simp
    · rw [ih (by omega)]
      simp [Ne.symm hk]
end
end BJ
end
section
set_option Elab.async false
set_option linter.all false
set_option maxRecDepth 100000
set_option autoImplicit false
/-! products of beans: plain, no program -/
namespace BJ
section
variable {α β : Type} {m : α → α → α} {g : β → β → β}
/-- None stands for no bean -/
noncomputable def opf (m : α → α → α) : Option α → Option α → Option α
  | none, y => y
  | some x, none => some x
  | some x, some y => some (m x y)
theorem opf_none {x : Option α} : opf m x none = x := by cases x <;> rfl
theorem opf_map (h : α → β) (hh : ∀ a b, h (m a b) = g (h a) (h b)) (x y : Option α) : (opf m x y).map h = opf g (x.map h) (y.map h) := by
  cases x <;> cases y <;> simp [opf, hh]
/-- repeated squaring -/
noncomputable def bpw (m : α → α → α) (acc : Option α) (p : α) (k : Nat) : Option α :=
  if h : k = 0 then acc else bpw m (if k % 2 = 1 then opf m acc (some p) else acc) (m p p) (k / 2)
  termination_by k
  decreasing_by omega
theorem bpw_zero {acc : Option α} {p : α} : bpw m acc p 0 = acc := by rw [bpw]; simp
theorem bpw_step {acc : Option α} {p : α} {k : Nat} (h : 0 < k) : bpw m acc p k = bpw m (if k % 2 = 1 then opf m acc (some p) else acc) (m p p) (k / 2) := by
  rw [bpw, dif_neg (by omega)]
theorem bpw_map (h : α → β) (hh : ∀ a b, h (m a b) = g (h a) (h b)) : ∀ (k : Nat) (acc : Option α) (p : α), (bpw m acc p k).map h = bpw g (acc.map h) (h p) k := by
  intro k
  induction k using Nat.strongRecOn with
  | ind k ih =>
    intro acc p
    by_cases hk : k = 0
    · subst hk; rw [bpw_zero, bpw_zero]
    · have : 0 < k := by omega
      rw [bpw_step this, bpw_step this, ih (k / 2) (by omega), hh]
      congr 1
      split
      · rw [opf_map h hh]; rfl
      · rfl
/-- k beans of x -/
noncomputable def mp (m : α → α → α) (x : α) : Nat → Option α
  | 0 => none
  | k + 1 => opf m (mp m x k) (some x)
/-- a product of many -/
noncomputable def prO (m : α → α → α) (zs : List (Option α)) : Option α := zs.foldl (opf m) none
theorem foldl_map (h : α → β) (hh : ∀ a b, h (m a b) = g (h a) (h b)) : ∀ (zs : List (Option α)) (z : Option α), (zs.foldl (opf m) z).map h = (zs.map (Option.map h)).foldl (opf g) (z.map h)
  | [], z => rfl
  | x :: zs, z => by rw [List.foldl_cons, foldl_map h hh zs, opf_map h hh]; rfl
/-- associative and commutative -/
structure AC (m : α → α → α) : Prop where
  assoc : ∀ a b c, m (m a b) c = m a (m b c)
  comm : ∀ a b, m a b = m b a
variable (ac : AC m)
include ac
theorem AC.oa (x y z : Option α) : opf m (opf m x y) z = opf m x (opf m y z) := by
  cases x <;> cases y <;> cases z <;> simp [opf, ac.assoc]
theorem AC.oc (x y : Option α) : opf m x y = opf m y x := by
  cases x <;> cases y <;> simp [opf, ac.comm]
theorem AC.mp_sq (x : α) : ∀ j, mp m (m x x) j = mp m x (2 * j)
  | 0 => rfl
  | j + 1 => by
    show opf m (mp m (m x x) j) (some (m x x)) = opf m (opf m (mp m x (2 * j)) (some x)) (some x)
    rw [AC.mp_sq x j, ac.oa]
    rfl
theorem AC.bpw_mp : ∀ (k : Nat) (acc : Option α) (p : α), bpw m acc p k = opf m acc (mp m p k) := by
  intro k
  induction k using Nat.strongRecOn with
  | ind k ih =>
    intro acc p
    by_cases hk : k = 0
    · subst hk; rw [bpw_zero]; exact opf_none.symm
    · rw [bpw_step (by omega), ih (k / 2) (by omega), ac.mp_sq]
      split
      · rename_i h
        rw [ac.oa, ac.oc (some p)]
        have e : k = 2 * (k / 2) + 1 := by omega
        conv => rhs; rw [e]
        rfl
      · have e : 2 * (k / 2) = k := by omega
        rw [e]
end
section
variable {n : Nat} {f : Nat → Nat → Nat}
/-- the table over the colours alone -/
noncomputable def fsub (hf : Good n f) : Fin n → Fin n → Fin n := fun a b => ⟨f a b, (hf a b a.2 b.2).1⟩
theorem ac_of (hf : Good n f) (h : ∀ a b c, a < n → b < n → c < n → f (f a b) c = f a (f b c)) : AC (fsub hf) :=
  ⟨fun a b c => Fin.ext (h a b c a.2 b.2 c.2), fun a b => Fin.ext (hf a b a.2 b.2).2⟩
/-- the last bean of the jar with the counts c -/
noncomputable def lastO (n : Nat) (f : Nat → Nat → Nat) (c : Nat → Nat) : Option Nat := prO f ((List.range n).map fun i => bpw f none i (c i))
theorem foldl_cols (F : Nat → Option Nat) (p : Nat → Bool) (hF : ∀ i, p i = false → F i = none) : ∀ (xs : List Nat) (z : Option Nat), (xs.filter p).foldl (fun z i => opf f z (F i)) z = xs.foldl (fun z i => opf f z (F i)) z
  | [], z => rfl
  | x :: xs, z => by
    cases q : p x with
    | true => rw [List.filter_cons_of_pos (by simp [q]), List.foldl_cons, List.foldl_cons, foldl_cols F p hF xs]
    | false => rw [List.filter_cons_of_neg (by simp [q]), List.foldl_cons, hF x q, opf_none, foldl_cols F p hF xs]
theorem lastO_fold {c : Nat → Nat} : lastO n f c = (List.range n).foldl (fun z i => opf f z (bpw f none i (c i))) none := by
  unfold lastO prO
  rw [List.foldl_map]
theorem lastO_cols {c : Nat → Nat} : lastO n f c = ((List.range n).filter fun i => decide (0 < c i)).foldl (fun z i => opf f z (bpw f none i (c i))) none := by
  rw [foldl_cols _ _ fun i h => ?_, lastO_fold]
  have : c i = 0 := by simpa using h
  rw [this, bpw_zero]
end
end BJ
end
section
set_option Elab.async false
set_option linter.all false
set_option maxRecDepth 100000
set_option autoImplicit false
namespace Dl
open PySem
section
variable {α : Type} {env : En} {st s : Sto} {QD : D → Sto → Prop} {Q : Out → Prop} {X : XQ} {d x : D} {fa : FA} {fe fo : FE}
/-- what index asks: the ints of x, before and behind the argument -/
noncomputable def IxQ (QD : D → Sto → Prop) (x : D) (s : Sto) (ys : List D) (s' : Sto) : Prop := ∃ (ns : List Int) (y : Int) (j : Nat), items s x = some (ns.map .int) ∧ items s' x = some (ns.map .int) ∧ ys = [.int y] ∧ ixOf y ns = some j ∧ QD (.int (j : Nat)) s'
theorem wp_index (h : wpX fo env st (fun x s => wpX fa env s (fun ys s' => IxQ QD x s ys s') (fun _ _ _ _ => False)) X) : wpX (fIndex fo fa) env st QD X := by
  refine wp_bind (wp_mono h fun x s h2 => ?_)
  obtain ⟨r, e, p⟩ := h2
  cases r with
  | ex c ns ds s2 => exact p.elim
  | ok ys s2 =>
    obtain ⟨ns, y, j, h1, h2, h3, h4, h5⟩ := p
    subst h3
    exact ⟨.ok (.int (j : Nat)) s2, by simp only [h1, Option.isSome_some, fGd, fBind, e, h2, fP, gIndex, intsS, Option.bind_some, ints_map, h4], h5⟩
end
end Dl
end
section
set_option Elab.async false
set_option linter.all false
set_option maxRecDepth 100000
set_option autoImplicit false
namespace Dl
open PySem
section
variable {env : En} {st s : Sto} {Q : Out → Prop} {ok : Sto → Prop} {tgt : FG} {body : FS} {items : List D}
/-- a loop that carries a state in its names -/
theorem loopFo {α β : Type} (xs : List α) (enc : α → D) (envOf : β → En) (step : β → α → β) (Pv : Nat → β → Prop) (b : β) (hi : items = xs.map enc) (hok : ok st) (he : env = envOf b) (h0 : Pv 0 b)
    (hs : ∀ i x b, xs[i]? = some x → Pv i b → ∃ e1, tgt (enc x) (envOf b) st = some (e1, st) ∧ wpS body e1 st (LoopQ (fun e s => e = envOf (step b x) ∧ s = st ∧ Pv (i + 1) (step b x)) Q))
    (hd : Pv xs.length (xs.foldl step b) → Q (.nx (envOf (xs.foldl step b)) st)) : wpS (loopS ok tgt body items) env st Q := by
  subst he
  subst hi
  refine loop_inv (fun i e s => s = st ∧ e = envOf ((xs.take i).foldl step b) ∧ Pv i ((xs.take i).foldl step b)) ⟨rfl, rfl, h0⟩ (fun i e s _ h => by rw [h.1]; exact hok) (fun i d e s hx h => ?_) (fun e s h => ?_)
  · obtain ⟨rfl, rfl, h3⟩ := h
    rw [List.getElem?_map] at hx
    cases q : xs[i]? with
    | none => rw [q] at hx; cases hx
    | some x =>
      rw [q] at hx
      cases hx
      obtain ⟨e1, h4, o, h5, h6⟩ := hs i x _ q h3
      refine ⟨e1, _, h4, o, h5, ?_⟩
      have ht : (xs.take (i + 1)).foldl step b = step ((xs.take i).foldl step b) x := by
        rw [List.take_succ, q]
        simp
      cases o with
      | nx e s => obtain ⟨g1, g2, g3⟩ := h6; exact ⟨g2, by rw [ht]; exact g1, by rw [ht]; exact g3⟩
      | ct e s => obtain ⟨g1, g2, g3⟩ := h6; exact ⟨g2, by rw [ht]; exact g1, by rw [ht]; exact g3⟩
      | bk e s => exact h6
      | rt d s => exact h6
      | ex c ns ds e s => exact h6
  · obtain ⟨rfl, rfl, h3⟩ := h
    rw [List.length_map, List.take_length] at *
    exact hd h3
/-- one turn of a search that says d where P fails -/
noncomputable def BQ (P : Prop) (env : En) (d : D) (st : Sto) : Out → Prop
  | .nx e s => (e = env ∧ s = st) ∧ P
  | .ct e s => (e = env ∧ s = st) ∧ P
  | .rt d' s => (d' = d ∧ s = st) ∧ ¬ P
  | _ => False
theorem bq_nx {P : Prop} {env e : En} {d : D} {st s : Sto} (he : e = env ∧ s = st) (h : P) : BQ P env d st (.nx e s) := ⟨he, h⟩
theorem bq_ct {P : Prop} {env e : En} {d : D} {st s : Sto} (he : e = env ∧ s = st) (h : P) : BQ P env d st (.ct e s) := ⟨he, h⟩
theorem bq_rt {P : Prop} {env : En} {d d' : D} {st s : Sto} (he : d' = d ∧ s = st) (h : ¬ P) : BQ P env d st (.rt d' s) := ⟨he, h⟩
theorem PlN.look {n : Nat} {x : D} (h : PlN n x) : Dl.look st x = some x := by
  cases x <;> first | rfl | (have := h.pl; simp [D.pl] at this)
end
end Dl
end
local macro_rules | `(tactic| row_has drunC2) => `(tactic| first | ((with_reducible refine BJ.in_pair2  ?_)) | ((with_reducible refine BJ.foN_n  ?_)) | ((with_reducible refine BJ.foN_s  ?_)))
local macro_rules | `(tactic| row_has drunC6) => `(tactic| first | ((with_reducible refine' Dl.bq_nx ?h1 ?_); (case h1 => exact ⟨rfl, rfl⟩)) | ((with_reducible refine' Dl.bq_ct ?h1 ?_); (case h1 => exact ⟨rfl, rfl⟩)) | ((with_reducible refine' Dl.bq_rt ?h1 ?_); (case h1 => exact ⟨rfl, rfl⟩)))
local macro_rules | `(tactic| row_has drun) => `(tactic| repeat (first | row_has drunC0 | row_has drunC1 | row_has drunC2 | row_has drunC5 | row_has drunC6 | row_has drunC7))
section
set_option Elab.async false
set_option linter.all false
set_option maxRecDepth 100000
set_option autoImplicit false
set_option maxHeartbeats 0
namespace BJ
open PySem Dl
section
variable {env : En} {st r : Sto} {QD : D → Sto → Prop} {Q : Out → Prop} {X : XQ} {p : D} {n : Nat} {f : Nat → Nat → Nat} {m : Nat → Nat}
noncomputable def optD : Option Nat → D
  | none => .non
  | some x => dI x
noncomputable def InO (n : Nat) (z : Option Nat) : Prop := ∀ x, z = some x → x < n
theorem InO.none : InO n none := fun x h => by cases h
theorem InO.some {x : Nat} (h : x < n) : InO n (some x) := fun y e => by cases e; exact h
theorem InO.opf (hf : Good n f) {x y : Option Nat} (hx : InO n x) (hy : InO n y) : InO n (opf f x y) := by
  cases x with
  | none => exact hy
  | some a =>
    cases y with
    | none => exact hx
    | some b => exact .some (hf _ _ (hx a rfl) (hy b rfl)).1
theorem InO.map {k : Nat} {g : Nat → Nat} {x : Option Nat} (hx : InO n x) (h : ∀ y, y < n → g y < k) : InO k (x.map g) := fun y hy => by
  obtain ⟨w, hw, rfl⟩ := Option.map_eq_some_iff.mp hy
  exact h w (hx w hw)
theorem product_ok {x y : Option Nat} (hx : InO n x) (hy : InO n y) : g_product [tabD n f, optD x, optD y] st = some (.ok (optD (opf f x y)) st) := by
  refine wpG_eq ?_
  (unfold g_product); refine wp_exit ?_; (unfold b_product); (simp only [Dl.startE, List.map_cons, List.map_nil, List.length_cons, List.length_nil, Nat.reduceAdd, Nat.reduceSub, List.replicate_succ, List.replicate_zero, List.cons_append, List.nil_append])
  cases x with
  | none =>
    cases y with
    | none =>
      dsimp only [optD, opf]
      row_has drun
    | some b =>
      dsimp only [optD, opf]
      row_has drun
  | some a =>
    have ha := hx a rfl
    cases y with
    | none =>
      dsimp only [optD, opf]
      row_has drun
    | some b =>
      have hb := hy b rfl
      dsimp only [optD, opf]
      row_has drun
      (refine wpG_ok (getitem_ok ha hb) ?_)
      row_has drun
theorem times_ok {c k : Nat} (hf : Good n f) (hc : c < n) : g_times [tabD n f, dI c, dI k] st = some (.ok (optD (bpw f none c k)) st) := by
  refine wpG_eq ?_
  (unfold g_times); refine wp_exit ?_; (unfold b_times); (simp only [Dl.startE, List.map_cons, List.map_nil, List.length_cons, List.length_nil, Nat.reduceAdd, Nat.reduceSub, List.replicate_succ, List.replicate_zero, List.cons_append, List.nil_append])
  row_has drun
  refine while_inv (fun j e s => ∃ (acc : Option Nat) (q : Nat), InO n acc ∧ q < n ∧ bpw f acc q j = bpw f none c k ∧ s = st ∧ e = [some (tabD n f), some (dI c), some (dI j), some (optD acc), some (dI q)]) (n := k) ⟨none, c, .none, hc, rfl, rfl, rfl⟩ fun j e s ⟨acc, q, ha, hq, hb, e1, e2⟩ => ?_
  subst e1; subst e2
  row_has drun
  refine if_dec (fun hj => ?_) fun hj => ?_
  · row_has drun
    rw [bpw_step hj] at hb
    refine if_dec (fun h1 => ?_) fun h1 => ?_
    · row_has drun
      (refine wpG_ok (product_ok (x := acc) (y := some q) ha (.some hq)) ?_)
      row_has drun
      (refine wpG_ok (getitem_ok hq hq) ?_)
      row_has drun
      rw [if_pos h1] at hb
      exact ⟨j / 2, by omega, _, f q q, ha.opf hf (.some hq), (hf _ _ hq hq).1, hb, rfl, rfl⟩
    · row_has drun
      (refine wpG_ok (getitem_ok hq hq) ?_)
      row_has drun
      rw [if_neg h1] at hb
      exact ⟨j / 2, by omega, acc, f q q, ha, (hf _ _ hq hq).1, hb, rfl, rfl⟩
  · have : j = 0 := by
      have hj : ¬ (0 : Nat) < j := hj
      omega
    subst this
    rw [bpw_zero] at hb
    subst hb
    row_has drun
theorem passes_t (h8 : n ≤ 8) (hf : Good n f) (h : trp n f = []) : g_validate_passes [tabD n f] st = some (.ok .non st) := by
  refine wpG_eq ?_
  (unfold g_validate_passes); refine wp_exit ?_; (unfold b_validate_passes); (simp only [Dl.startE, List.map_cons, List.map_nil, List.length_cons, List.length_nil, Nat.reduceAdd, Nat.reduceSub, List.replicate_succ, List.replicate_zero, List.cons_append, List.nil_append])
  row_has drun
  (refine wpG_ok (first_dispute_ok h8 hf) ?_)
  rw [show trpO n f = .non by unfold trpO; rw [h]; rfl]
  row_has drun
theorem bpw_in (hf : Good n f) : ∀ (k : Nat) (acc : Option Nat) (q : Nat), InO n acc → q < n → InO n (bpw f acc q k) := by
  intro k
  induction k using Nat.strongRecOn with
  | ind k ih =>
    intro acc q ha hq
    by_cases hk : k = 0
    · subst hk; rw [bpw_zero]; exact ha
    · rw [bpw_step (by omega)]
      refine ih _ (by omega) _ _ ?_ (hf _ _ hq hq).1
      split
      · exact ha.opf hf (.some hq)
      · exact ha
theorem last_bean_ok {c : Nat → Nat} (h8 : n ≤ 8) (hf : Good n f) (h : trp n f = []) (h0 : 0 < tot n c) : g_last_bean [tabD n f, jarD n c] st = some (.ok (optD (lastO n f c)) st) := by
  refine wpG_eq ?_
  (unfold g_last_bean); refine wp_exit ?_; (unfold b_last_bean); (simp only [Dl.startE, List.map_cons, List.map_nil, List.length_cons, List.length_nil, Nat.reduceAdd, Nat.reduceSub, List.replicate_succ, List.replicate_zero, List.cons_append, List.nil_append])
  row_has drun
  (refine wpG_ok (passes_t h8 hf h) ?_)
  row_has drun
  (refine wpG_ok (validate_beans_ok h0) ?_)
  row_has drun
  refine loopFo (cols n c) dI (fun z => [some (tabD n f), some (jarD n c), some (optD z), none]) (fun z i => opf f z (bpw f none i (c i))) (fun _ z => InO n z) none rfl trivial rfl .none (fun i x z hx hz => ⟨_, rfl, ?_⟩) fun hz => ?_
  · dsimp only [List.set]
    have hx : x < n := by
      have := List.mem_of_getElem? hx
      simp [cols] at this
      exact this.1
    have hb := bpw_in hf (c x) none x .none hx
    row_has drun
    (refine wpG_ok (Jar_getitem_ok hx) ?_)
    row_has drun
    (refine wpG_ok (times_ok hf hx) ?_)
    row_has drun
    (refine wpG_ok (product_ok hz hb) ?_)
    row_has drun
    exact ⟨rfl, rfl, hz.opf hf hb⟩
  · row_has drun
    rw [lastO_cols]
    exact ⟨rfl, rfl⟩
end
end BJ
end
section
set_option Elab.async false
set_option linter.all false
set_option maxRecDepth 100000
set_option autoImplicit false
namespace Dl
open PySem
section
variable {α : Type} {env : En} {st s : Sto} {QD : D → Sto → Prop} {Q : Out → Prop} {X : XQ} {d x : D} {ok : Sto → Prop} {tgt : FG} {body : FS}
/-! ### the sum of a tuple -/
/-! ### a loop over items that are told one by one -/
noncomputable def LcQ (ok : Sto → Prop) (tgt : FG) (body : FS) (ds : List D) (Q : Out → Prop) : Out → Prop
  | .nx e s => wpS (loopS ok tgt body ds) e s Q
  | .ct e s => wpS (loopS ok tgt body ds) e s Q
  | .bk e s => Q (.nx e s)
  | o => Q o
theorem lcq_nx {ds : List D} {e : En} (h : wpS (loopS ok tgt body ds) e s Q) : LcQ ok tgt body ds Q (.nx e s) := h
/-! ### an exception's way out of a def that freezes -/
end
end Dl
end
section
set_option Elab.async false
set_option linter.all false
set_option maxRecDepth 100000
set_option autoImplicit false
namespace Dl
open PySem
end Dl
end
section
set_option Elab.async false
set_option linter.all false
set_option maxRecDepth 100000
set_option autoImplicit false
set_option maxHeartbeats 0
namespace BJ
open PySem Dl
section
variable {env : En} {st r : Sto} {QD : D → Sto → Prop} {Q : Out → Prop} {X : XQ} {p : D} {n : Nat} {f : Nat → Nat → Nat} {m : Nat → Nat}
theorem ixO {c : Nat → Nat} {i : Nat} (hi : i < n) (h : QD (dI (c i)) (st ++ [.lst (cntL n c)])) : wpX (gIx (.obj st.length) (dI i)) env (st ++ [.lst (cntL n c)]) QD X := ixG (xs := cntL n c) (items_obj (by simp)) (cntL_get hi) h
theorem setO {c : Nat → Nat} {i v : Nat} (hi : i < n) : setS (.obj st.length) (dI i) (dI v) (st ++ [.lst (cntL n c)]) = some (st ++ [.lst (cntL n fun j => if j = i then v else c j)]) := by
  refine (setS_obj (xs := cntL n c) (by simp) (by rw [cntL_len]; exact hi)).trans ?_
  rw [cntL_set]
  simp
end
end BJ
end
section
set_option Elab.async false
set_option linter.all false
set_option maxRecDepth 100000
set_option autoImplicit false
set_option maxHeartbeats 0
namespace BJ
open PySem Dl
section
variable {env : En} {st r : Sto} {QD : D → Sto → Prop} {Q : Out → Prop} {X : XQ} {p x : D} {n : Nat} {f : Nat → Nat → Nat}
theorem ixCT {c : Nat → Nat} {i : Nat} (hi : i < n) (h : QD (dI (c i)) st) : wpX (gIx (.tup (cntL n c)) (dI i)) env st QD X := ixG (xs := cntL n c) rfl (cntL_get hi) h
theorem list_ct {c : Nat → Nat} (h : QD (.obj st.length) (st ++ [.lst (cntL n c)])) : wpX (gList true [.tup (cntL n c)]) env st QD X := wp_listT rfl h
theorem sumNd {xs : List Nat} (h : QD (dI xs.sum) st) : wpX (g1 sumS [.lst (ndL xs)]) env st QD X := wp_g1 sum_nd h
end
end BJ
end
section
set_option Elab.async false
set_option linter.all false
set_option maxRecDepth 100000
set_option autoImplicit false
set_option maxHeartbeats 0
namespace BJ
open PySem Dl
section
variable {env : En} {st r : Sto} {QD : D → Sto → Prop} {Q : Out → Prop} {X : XQ} {p : D} {n : Nat} {f : Nat → Nat → Nat} {m : Nat → Nat}
/-- the draws by the law -/
noncomputable def ldrw (n : Nat) (c : Nat → Nat) : List D := (List.range n).flatMap fun a => ((List.range (n - a)).filter fun i => decide ((if a = a + i then 1 else 0) < c a) && decide (0 < c (a + i))).map fun i => prD (a, a + i)
theorem ldrw_mem {c : Nat → Nat} {w : Nat × Nat} : prD w ∈ ldrw n c ↔ canP n c w.1 w.2 = true := by
  obtain ⟨a, b⟩ := w
  unfold ldrw
  simp only [List.mem_flatMap, List.mem_range, List.mem_map, List.mem_filter, Bool.and_eq_true, decide_eq_true_eq, prD, D.tup.injEq, List.cons.injEq, D.int.injEq, and_true, canP, Bool.or_eq_true]
  constructor
  · rintro ⟨x, hx, i, ⟨hi, h1, h2⟩, h3, h4⟩
    have e1 : x = a := by omega
    have e2 : x + i = b := by omega
    subst e1; subst e2
    refine ⟨⟨⟨⟨hx, by omega⟩, ?_⟩, h2⟩, ?_⟩
    · omega
    · by_cases h : i = 0
      · subst h; simp at h1; right; exact ⟨rfl, by omega⟩
      · left; omega
  · rintro ⟨⟨⟨⟨h1, h2⟩, h3⟩, h4⟩, h5⟩
    refine ⟨a, h1, b - a, ⟨by omega, ?_, ?_⟩, rfl, by omega⟩
    · rcases h5 with h5 | ⟨rfl, h5⟩
      · rw [if_neg (by omega)]; exact h3
      · simp; omega
    · rw [show a + (b - a) = b by omega]; exact h4
/-! ### the jars -/
noncomputable def jl (t : Nat) : Nat → List (List Nat)
  | 0 => [[]]
  | m + 1 => (jl t m).flatMap fun k => (List.range (t - k.sum + 1)).map fun v => k ++ [v]
noncomputable def jrsK (n t : Nat) : List (List Nat) := (jl t n).filter fun k => decide (k.sum = t)
theorem jl_sum {t : Nat} : ∀ {m : Nat} {k : List Nat}, k ∈ jl t m → k.sum ≤ t ∧ k.length = m
  | 0, k, h => by simp only [jl, List.mem_singleton] at h; subst h; simp
  | m + 1, k, h => by
    simp only [jl] at h
    obtain ⟨y, hy, h⟩ := List.mem_flatMap.mp h
    obtain ⟨v, hv, rfl⟩ := List.mem_map.mp h
    obtain ⟨h1, h2⟩ := jl_sum hy
    have := List.mem_range.mp hv
    simp only [List.sum_append, List.length_append, List.sum_cons, List.sum_nil, List.length_cons, List.length_nil]
    omega
theorem flat_take12 {α β : Type} {g : α → List β} : ∀ {xs : List α} {j : Nat}, ((xs.take j).flatMap g).length ≤ (xs.flatMap g).length
  | [], j => by simp
  | x :: xs, 0 => by simp
  | x :: xs, j + 1 => by
    simp only [List.take_succ_cons, List.flatMap_cons, List.length_append]
    have := flat_take12 (g := g) (xs := xs) (j := j)
    omega
theorem flat_snoc12 {α β : Type} {g : α → List β} {xs : List α} {j : Nat} {x : α} (h : xs[j]? = some x) : (xs.take (j + 1)).flatMap g = (xs.take j).flatMap g ++ g x := by
  rw [List.take_succ, h]
  simp
/-! ### levels -/
noncomputable def EqN (n : Nat) (c d : Nat → Nat) : Prop := ∀ i, i < n → c i = d i
theorem EqN.rfl' {c : Nat → Nat} : EqN n c c := fun _ _ => rfl
theorem EqN.symm {c d : Nat → Nat} (h : EqN n c d) : EqN n d c := fun i hi => (h i hi).symm
theorem EqN.trans {c d e : Nat → Nat} (h : EqN n c d) (h2 : EqN n d e) : EqN n c e := fun i hi => (h i hi).trans (h2 i hi)
theorem canP_congr {c d : Nat → Nat} (h : EqN n c d) (a b : Nat) : canP n c a b = canP n d a b := by
  unfold canP
  by_cases ha : a < n
  · by_cases hb : b < n
    · rw [h a ha, h b hb]
    · simp [hb]
  · simp [ha]
theorem aft_congr {c d : Nat → Nat} (h : EqN n c d) (a b : Nat) : EqN n (aft f c a b) (aft f d a b) := fun i hi => by
  unfold aft
  rw [h i hi]
noncomputable def dN (n : Nat) (c : Nat → Nat) : List (Nat × Nat) := (List.range n).flatMap fun a => ((List.range (n - a)).filter fun i => decide ((if a = a + i then 1 else 0) < c a) && decide (0 < c (a + i))).map fun i => (a, a + i)
theorem ldrw_eq {c : Nat → Nat} : ldrw n c = (dN n c).map prD := by
  unfold ldrw dN
  rw [List.map_flatMap]
  simp only [List.map_map]
  rfl
theorem dN_mem {c : Nat → Nat} {w : Nat × Nat} : w ∈ dN n c ↔ canP n c w.1 w.2 = true := by
  rw [← ldrw_mem, ldrw_eq, List.mem_map]
  constructor
  · exact fun h => ⟨w, h, rfl⟩
  · rintro ⟨v, hv, e⟩
    obtain ⟨a, b⟩ := w
    obtain ⟨c1, d1⟩ := v
    simp only [prD, D.tup.injEq, List.cons.injEq, D.int.injEq, and_true] at e
    have e1 : c1 = a := by omega
    have e2 : d1 = b := by omega
    subst e1; subst e2
    exact hv
theorem dN_len {c : Nat → Nat} (hn : n ≤ 3) : (dN n c).length ≤ 6 := by
  have h : ∀ k ≤ n, ((List.range k).flatMap fun a => ((List.range (n - a)).filter fun i => decide ((if a = a + i then 1 else 0) < c a) && decide (0 < c (a + i))).map fun i => (a, a + i)).length ≤ ((List.range k).map fun a => n - a).sum := by
    intro k
    induction k with
    | zero => intro _; simp
    | succ k ih =>
      intro hk
      rw [List.range_succ, List.flatMap_append, List.length_append, List.map_append, List.sum_append]
      have h1 := ih (by omega)
      have h2 : (((List.range (n - k)).filter fun i => decide ((if k = k + i then 1 else 0) < c k) && decide (0 < c (k + i))).map fun i => (k, k + i)).length ≤ n - k := by
        rw [List.length_map]
        refine Nat.le_trans (List.length_filter_le _ _) ?_
        simp
      simp only [List.flatMap_cons, List.flatMap_nil, List.append_nil, List.map_cons, List.map_nil, List.sum_cons, List.sum_nil]
      omega
  have h2 := h n (Nat.le_refl _)
  have : ∀ n ∈ List.range 4, ((List.range n).map fun a => n - a).sum ≤ 6 := by decide
  exact Nat.le_trans h2 (this n (List.mem_range.mpr (by omega)))
noncomputable def keyF (n : Nat) (g : Nat → Nat) : List Int := (List.range n).map fun i => (g i : Int)
noncomputable def toF (k : List Int) : Nat → Nat := fun i => (k.getD i 0).toNat
theorem toF_key {g : Nat → Nat} : EqN n (toF (keyF n g)) g := fun i hi => by simp [toF, keyF, List.getD, hi]
theorem key_eq {g h : Nat → Nat} : keyF n g = keyF n h ↔ EqN n g h := by
  constructor
  · intro e i hi
    have := congrArg (fun l => toF l i) e
    simp only [toF_key i hi] at this
    exact this
  · intro e
    unfold keyF
    apply List.map_congr_left
    intro i hi
    rw [e i (List.mem_range.mp hi)]
theorem key_toF {g : Nat → Nat} : keyF n (toF (keyF n g)) = keyF n g := key_eq.mpr toF_key
structure Lv (n : Nat) (f : Nat → Nat → Nat) (c : Nat → Nat) (i : Nat) (L : List (Nat → Nat)) : Prop where
  all : ∀ g ∈ L, ∃ ws, canW n f c ws = true ∧ ws.length = i ∧ EqN n g (endJ f c ws)
  has : ∀ ws, canW n f c ws = true → ws.length = i → ∃ g ∈ L, EqN n g (endJ f c ws)
  nd : (L.map (keyF n)).Nodup
noncomputable def fl (n : Nat) (f : Nat → Nat → Nat) (L : List (Nat → Nat)) : List (Nat → Nat) := L.flatMap fun g => (dN n g).map fun w => aft f g w.1 w.2
noncomputable def nxL (n : Nat) (f : Nat → Nat → Nat) (L : List (Nat → Nat)) : List (Nat → Nat) := (srtT ((fl n f L).map (keyF n))).map toF
theorem nx_key {k : List Int} {M : List (Nat → Nat)} (h : k ∈ srtT (M.map (keyF n))) : ∃ m ∈ M, k = keyF n m := by
  obtain ⟨m, hm, e⟩ := List.mem_map.mp (srtT_mem.mp h)
  exact ⟨m, hm, e.symm⟩
theorem snoc_ex {α : Type} : ∀ {ws : List α} {i : Nat}, ws.length = i + 1 → ∃ vs w, ws = vs ++ [w] ∧ vs.length = i := by
  intro ws i h
  have hne : ws ≠ [] := fun e => by rw [e] at h; simp at h
  exact ⟨ws.dropLast, ws.getLast hne, (List.dropLast_concat_getLast hne).symm, by rw [List.length_dropLast]; omega⟩
theorem Lv.next {c : Nat → Nat} {i : Nat} {L : List (Nat → Nat)} (h : Lv n f c i L) : Lv n f c (i + 1) (nxL n f L) := by
  refine ⟨fun g hg => ?_, fun ws hw hl => ?_, ?_⟩
  · obtain ⟨k, hk, rfl⟩ := List.mem_map.mp hg
    obtain ⟨m, hm, rfl⟩ := nx_key hk
    obtain ⟨g0, hg0, hm⟩ := List.mem_flatMap.mp hm
    obtain ⟨w, hw, rfl⟩ := List.mem_map.mp hm
    obtain ⟨ws, h1, h2, h3⟩ := h.all g0 hg0
    refine ⟨ws ++ [w], ?_, by rw [List.length_append, h2]; rfl, toF_key.trans ?_⟩
    · rw [canW_app, h1]
      simp only [canW, Bool.and_true, Bool.true_and]
      rw [← canP_congr h3]
      exact dN_mem.mp hw
    · rw [endJ_app]
      exact aft_congr h3 w.1 w.2
  · obtain ⟨vs, w, rfl, hv⟩ := snoc_ex hl
    rw [canW_app, Bool.and_eq_true] at hw
    obtain ⟨g, hg, hge⟩ := h.has vs hw.1 hv
    have hw2 : canP n (endJ f c vs) w.1 w.2 = true := by have := hw.2; simp only [canW, Bool.and_true] at this; exact this
    have hm : aft f g w.1 w.2 ∈ fl n f L := List.mem_flatMap.mpr ⟨g, hg, List.mem_map.mpr ⟨w, dN_mem.mpr (by rw [canP_congr hge]; exact hw2), rfl⟩⟩
    refine ⟨toF (keyF n (aft f g w.1 w.2)), List.mem_map.mpr ⟨_, srtT_mem.mpr (List.mem_map.mpr ⟨_, hm, rfl⟩), rfl⟩, toF_key.trans ?_⟩
    rw [endJ_app]
    exact aft_congr hge w.1 w.2
  · have e : (nxL n f L).map (keyF n) = srtT ((fl n f L).map (keyF n)) := by
      unfold nxL
      rw [List.map_map]
      refine (List.map_congr_left fun k hk => ?_).trans (List.map_id _)
      obtain ⟨m, _, rfl⟩ := nx_key hk
      exact key_toF
    rw [e]
    exact srtT_nd
theorem Lv.start {c : Nat → Nat} : Lv n f c 0 [c] := by
  refine ⟨fun g hg => ?_, fun ws _ hl => ?_, by simp⟩
  · simp only [List.mem_singleton] at hg
    subst hg
    exact ⟨[], rfl, rfl, EqN.rfl'⟩
  · have : ws = [] := List.eq_nil_of_length_eq_zero hl
    subst this
    exact ⟨c, by simp, EqN.rfl'⟩
/-! ### how long -/
theorem perm_sum {xs ys : List Nat} (h : xs.Perm ys) : xs.sum = ys.sum := by
  induction h with
  | nil => rfl
  | cons x _ ih => simp [ih]
  | swap x y l => simp only [List.sum_cons]; omega
  | trans _ _ h1 h2 => exact h1.trans h2
theorem nd_sum {α : Type} [DecidableEq α] (F : α → Nat) : ∀ {xs ys : List α}, xs.Nodup → (∀ x ∈ xs, x ∈ ys) → (xs.map F).sum ≤ (ys.map F).sum
  | [], ys, _, _ => Nat.zero_le _
  | x :: xs, ys, hn, hs => by
    have h1 := List.nodup_cons.mp hn
    have hx := hs x (by simp)
    have h2 := nd_sum F (ys := ys.erase x) h1.2 fun k hk => by
      have : k ≠ x := fun z => h1.1 (z ▸ hk)
      exact (List.mem_erase_of_ne this).mpr (hs k (by simp [hk]))
    have h3 := perm_sum ((List.perm_cons_erase hx).map F)
    rw [List.map_cons, List.sum_cons] at h3 ⊢
    omega
theorem nd_lenG {α : Type} [DecidableEq α] {xs ys : List α} (hn : xs.Nodup) (hs : ∀ x ∈ xs, x ∈ ys) : xs.length ≤ ys.length := by
  have := nd_sum (fun _ => 1) hn hs
  rw [List.map_const', List.map_const', List.sum_replicate_nat, List.sum_replicate_nat] at this
  omega
theorem mem_le_sum : ∀ {xs : List Nat} {x : Nat}, x ∈ xs → x ≤ xs.sum
  | y :: xs, x, h => by
    rw [List.sum_cons]
    rcases List.mem_cons.mp h with rfl | h
    · omega
    · have := mem_le_sum h; omega
theorem ixOf_at {y : Int} : ∀ {xs : List Int} {k : Nat}, xs[k]? = some y → (∀ m, m < k → xs[m]? ≠ some y) → ixOf y xs = some k
  | [], k, h, _ => by simp at h
  | x :: xs, 0, h, _ => by
    simp at h
    subst h
    simp [ixOf]
  | x :: xs, k + 1, h, hm => by
    have h0 : x ≠ y := fun e => hm 0 (by omega) (by simp [e])
    rw [ixOf, if_neg h0, ixOf_at (xs := xs) (k := k) (by simpa using h) fun m hk => by simpa using hm (m + 1) (by omega)]
    rfl
theorem Lv.one {c : Nat → Nat} {L : List (Nat → Nat)} (h : Lv n f c 0 L) : L.length ≤ 1 := by
  have := nd_lenG (ys := [keyF n c]) h.nd fun k hk => by
    obtain ⟨g, hg, rfl⟩ := List.mem_map.mp hk
    obtain ⟨ws, _, h2, h3⟩ := h.all g hg
    have : ws = [] := List.eq_nil_of_length_eq_zero h2
    subst this
    simp only [List.mem_singleton]
    exact key_eq.mpr h3
  simpa using this
theorem Lv.two {c : Nat → Nat} {L : List (Nat → Nat)} (hn : n ≤ 3) (h : Lv n f c 1 L) : L.length ≤ 6 := by
  have := nd_lenG (ys := (dN n c).map fun w => keyF n (aft f c w.1 w.2)) h.nd fun k hk => by
    obtain ⟨g, hg, rfl⟩ := List.mem_map.mp hk
    obtain ⟨ws, h1, h2, h3⟩ := h.all g hg
    match ws, h2 with
    | [w], _ =>
      simp only [canW, Bool.and_true] at h1
      exact List.mem_map.mpr ⟨w, dN_mem.mpr h1, (key_eq.mpr h3).symm⟩
  rw [List.length_map, List.length_map] at this
  exact Nat.le_trans this (dN_len hn)
noncomputable def kk (n : Nat) (g : Nat → Nat) : Nat := (cols n g).headD 0
/-! ### the last beans by the law -/
/-! ### what the table tells -/
theorem asc_of (h : trp n f = []) : ∀ a b c, a < n → b < n → c < n → f (f a b) c = f a (f b c) := fun a b c ha hb hc => Classical.byContradiction fun hne => by
  have : D.tup [dI a, dI b, dI c] ∈ trp n f := trp_mem.mpr ⟨a, b, c, ha, hb, hc, by simp [disP, hne], rfl⟩
  rw [h] at this
  simp at this
/-! ### the law itself -/
theorem jrs_ok {t : Nat} {k : List Nat} (h : k ∈ jrsK n t) : k.length = n ∧ k.sum = t := by
  obtain ⟨h1, h2⟩ := List.mem_filter.mp h
  exact ⟨(jl_sum h1).2, by simpa using h2⟩
end
end BJ
end
section
set_option Elab.async false
set_option linter.all false
set_option maxRecDepth 100000
set_option autoImplicit false
namespace Dl
open PySem
section
variable {env : En} {st : Sto} {QD : D → Sto → Prop} {Q : Out → Prop} {X : XQ} {x y d : D} {fe : FE}
/-! ### dicts with nested keys -/
theorem wp_setSubN {fo fi : FE} (h : wpX fe env st (fun v s => wpX fo env s (fun o s => wpX fi env s (fun i s => ∃ s', setSN o i v s = some s' ∧ Q (.nx env s')) (fun _ _ _ _ => False)) (fun _ _ _ _ => False)) (fun c ns ds s => Q (.ex c ns ds env s))) : wpS (sAsg fe (gSubSN fo fi)) env st Q := by
  refine wp_asg (wp_mono h fun v s h => ?_)
  obtain ⟨r, e, p⟩ := h
  cases r with
  | ex c ns ds s => exact p.elim
  | ok o s1 =>
    obtain ⟨r2, e2, p2⟩ := p
    cases r2 with
    | ex c ns ds s => exact p2.elim
    | ok i s2 =>
      obtain ⟨s', e3, q⟩ := p2
      exact ⟨env, s', by simp only [gSubSN, okE, e, e2, e3, Option.map_some], q⟩
theorem setN_q {P : Sto → Prop} {j : Nat} {k : NestedKey} {ks : List NestedKey} {ds : List D} (h1 : nkT x = some k) (h2 : st[j]? = some (.dN ks ds)) (hd : k.depth ≤ 8) (hl : ks.length < 2 ^ 24) (h : P (st.set j (.dN (addN ks k) (putD ks ds k y)))) : ∃ s', setSN (.obj j) x y st = some s' ∧ P s' :=
  ⟨_, by simp only [setSN, h1, h2, if_pos (show k.depth ≤ 8 ∧ ks.length < 2 ^ 24 from ⟨hd, hl⟩)], h⟩
theorem wp_dictNT (h : QD (.obj st.length) (st ++ [.dN [] []])) : wpX (fDictN true) env st QD X := ⟨_, rfl, h⟩
/-! ### the key of a tuple of naturals, of two such -/
end
/-! ### sorted({F x y for x in xs for y in ys}) -/
section
variable {α β : Type} {n : Nat}
structure Bd (n : Nat) (acc : List Int) : Prop where
  nd : acc.Nodup
  bd : ∀ z ∈ acc, 0 ≤ z ∧ z < (n : Int)
theorem Bd.nil : Bd n [] := ⟨List.nodup_nil, by simp⟩
theorem Bd.add {acc : List Int} (h : Bd n acc) {z : Int} (hz : 0 ≤ z ∧ z < (n : Int)) : Bd n (addI acc z) := ⟨addI_nd h.nd, fun w hw => (addI_mem.mp hw).elim (h.bd w) fun e => by rw [e]; exact hz⟩
theorem nd_bound : ∀ {n : Nat} {l : List Nat}, l.Nodup → (∀ x ∈ l, x < n) → l.length ≤ n := fun {n l} hn hb => by
  have := L2.nat_nodup_len l (List.range n) hn fun x hx => List.mem_range.mpr (hb x hx)
  simpa using this
theorem Bd.len {acc : List Int} (h : Bd n acc) : acc.length ≤ n := by
  have e := nd_bound (n := n) (l := acc.map Int.toNat) (by
    refine List.pairwise_map.mpr (List.Pairwise.imp_of_mem ?_ h.nd)
    intro a b ha hb hab e
    have h1 := h.bd a ha
    have h2 := h.bd b hb
    exact hab (by omega)) fun x hx => by
      obtain ⟨z, hz, rfl⟩ := List.mem_map.mp hx
      have := h.bd z hz
      omega
  simpa using e
end
end Dl
end
local macro_rules | `(tactic| row_has drunC3) => `(tactic| first | ((with_reducible refine BJ.sumNd  ?_)) | ((with_reducible refine BJ.ixCT ?h1 ?_); (case h1 => row_has dS)) | ((with_reducible refine BJ.ixO ?h1 ?_); (case h1 => row_has dS)) | ((with_reducible refine BJ.list_ct  ?_)) | ((with_reducible refine Dl.lcq_nx  ?_)))
local macro_rules | `(tactic| row_has drunC4) => `(tactic| first | ((with_reducible refine Dl.wp_setSubN  ?_)))
local macro_rules | `(tactic| row_has drun) => `(tactic| repeat (first | row_has drunC0 | row_has drunC1 | row_has drunC2 | row_has drunC3 | row_has drunC4 | row_has drunC5 | row_has drunC6 | row_has drunC7))
section
set_option Elab.async false
set_option linter.all false
set_option maxRecDepth 100000
set_option autoImplicit false
set_option maxHeartbeats 0
namespace BJ
open PySem Dl
section
variable {env : En} {st r : Sto} {QD : D → Sto → Prop} {Q : Out → Prop} {X : XQ} {p x : D} {n : Nat} {f : Nat → Nat → Nat}
noncomputable abbrev Ky := Nat × Option Nat
noncomputable def kO : Option Nat → NestedKey
  | none => .none
  | some x => .num x
noncomputable def kY (k : Ky) : NestedKey := .tup [.num k.1, kO k.2]
noncomputable def tY (k : Ky) : D := .tup [dI k.1, optD k.2]
theorem kY_inj {a b : Ky} : kY a = kY b ↔ a = b := by
  refine ⟨fun h => ?_, fun h => by rw [h]⟩
  obtain ⟨s, o⟩ := a
  obtain ⟨t, q⟩ := b
  unfold kY at h
  injection h with h
  injection h with h1 h2
  injection h1 with h1
  injection h2 with h2
  have h1 : s = t := by have : ((s : Nat) : Int) = t := h1; omega
  subst h1
  cases o <;> cases q <;> simp only [kO] at h2
  · rfl
  · cases h2
  · cases h2
  · rename_i x y
    injection h2 with h2
    have : x = y := by omega
    rw [this]
theorem nk_Y {k : Ky} : nkT (tY k) = some (kY k) := by
  obtain ⟨s, o⟩ := k
  cases o <;> simp only [tY, optD, nkT, nkL, nkD, dI, Option.map_some, kY, kO] <;> rfl
theorem kY_depth {k : Ky} : (kY k).depth ≤ 8 := by
  obtain ⟨s, o⟩ := k
  cases o <;> exact Nat.le_of_ble_eq_true rfl
theorem kD_Y {k : Ky} : kD (kY k) = tY k := by
  obtain ⟨s, o⟩ := k
  cases o <;> rfl
noncomputable abbrev AL := List (Ky × Nat)
noncomputable def addA (k : Ky) (v : Nat) : AL → AL
  | [] => [(k, v)]
  | q :: L => if q.1 = k then (q.1, q.2 + v) :: L else q :: addA k v L
noncomputable def getA (k : Ky) : AL → Nat
  | [] => 0
  | q :: L => if q.1 = k then q.2 else getA k L
noncomputable def kA (L : AL) : List NestedKey := L.map fun q => kY q.1
noncomputable def dA (L : AL) : List D := L.map fun q => dI q.2
theorem kA_mem {L : AL} {k : Ky} : kY k ∈ kA L ↔ k ∈ L.map (·.1) := by
  unfold kA
  rw [List.mem_map, List.mem_map]
  exact ⟨fun ⟨q, h, e⟩ => ⟨q, h, kY_inj.mp e⟩, fun ⟨q, h, e⟩ => ⟨q, h, by rw [e]⟩⟩
theorem atA {k : Ky} : ∀ {L : AL}, (atN (kA L) (dA L) (kY k)).getD (dI 0) = dI (getA k L)
  | [] => rfl
  | q :: L => by
    simp only [kA, dA, List.map_cons, atN, getA]
    by_cases e : q.1 = k
    · rw [if_pos (kY_inj.mpr e), if_pos e]; rfl
    · rw [if_neg fun h => e (kY_inj.mp h), if_neg e]
      exact atA (L := L)
theorem addA_out {k : Ky} {v : Nat} : ∀ {L : AL}, k ∉ L.map (·.1) → addA k v L = L ++ [(k, v)] ∧ getA k L = 0
  | [], _ => ⟨rfl, rfl⟩
  | q :: L, h => by
    rw [List.map_cons, List.mem_cons, not_or] at h
    obtain ⟨e1, e2⟩ := addA_out (v := v) (L := L) h.2
    simp only [addA, getA, if_neg (show ¬ q.1 = k from fun z => h.1 z.symm), e1, e2, List.cons_append, and_self]
theorem repl_A {k : Ky} {v : Nat} : ∀ {L : AL}, k ∈ L.map (·.1) → (L.map (·.1)).Nodup → replN (kA L) (dA L) (kY k) (dI (getA k L + v)) = dA (addA k v L) ∧ kA (addA k v L) = kA L
  | [], h, _ => by cases h
  | q :: L, h, hn => by
    rw [List.map_cons, List.nodup_cons] at hn
    simp only [kA, dA, List.map_cons, replN, getA, addA]
    by_cases e : q.1 = k
    · rw [if_pos (kY_inj.mpr e), if_pos e, if_pos e]
      have hk : k ∉ L.map (·.1) := e ▸ hn.1
      have z : ∀ {L : AL} {d : D}, k ∉ L.map (·.1) → replN (L.map fun q => kY q.1) (L.map fun q => dI q.2) (kY k) d = L.map fun q => dI q.2 := by
        intro L
        induction L with
        | nil => intro d _; rfl
        | cons q L ih =>
          intro d h
          rw [List.map_cons, List.mem_cons, not_or] at h
          simp only [List.map_cons, replN]
          rw [if_neg fun z => h.1 (kY_inj.mp z).symm, ih h.2]
      rw [z hk]
      exact ⟨rfl, rfl⟩
    · rw [if_neg fun h => e (kY_inj.mp h), if_neg e, if_neg e]
      have h2 : k ∈ L.map (·.1) := by
        rcases List.mem_cons.mp h with z | z
        · exact absurd z.symm e
        · exact z
      obtain ⟨e1, e2⟩ := repl_A (v := v) h2 hn.2
      simp only [kA, dA] at e1 e2
      rw [e1]
      exact ⟨rfl, by rw [List.map_cons, e2]⟩
theorem put_A {k : Ky} {v : Nat} {L : AL} (hn : (L.map (·.1)).Nodup) : putD (kA L) (dA L) (kY k) (dI (getA k L + v)) = dA (addA k v L) ∧ addN (kA L) (kY k) = kA (addA k v L) := by
  unfold putD addN
  by_cases h : k ∈ L.map (·.1)
  · rw [if_pos (kA_mem.mpr h), if_pos (kA_mem.mpr h)]
    obtain ⟨e1, e2⟩ := repl_A (v := v) h hn
    exact ⟨e1, e2.symm⟩
  · rw [if_neg fun z => h (kA_mem.mp z), if_neg fun z => h (kA_mem.mp z)]
    obtain ⟨e1, e2⟩ := addA_out (v := v) h
    rw [e1, e2, Nat.zero_add]
    exact ⟨by simp [dA], by simp [kA]⟩
theorem addA_keys {k : Ky} {v : Nat} : ∀ {L : AL} {x : Ky}, x ∈ (addA k v L).map (·.1) ↔ x ∈ L.map (·.1) ∨ x = k
  | [], x => by simp [addA]
  | q :: L, x => by
    simp only [addA]
    split
    · rename_i e
      simp only [List.map_cons, List.mem_cons]
      constructor
      · exact fun h => .inl h
      · rintro (h | h)
        · exact h
        · exact .inl (h.trans e.symm)
    · simp only [List.map_cons, List.mem_cons, addA_keys (L := L), or_assoc]
theorem addA_nd {k : Ky} {v : Nat} : ∀ {L : AL}, (L.map (·.1)).Nodup → ((addA k v L).map (·.1)).Nodup
  | [], _ => by simp [addA]
  | q :: L, h => by
    rw [List.map_cons, List.nodup_cons] at h
    simp only [addA]
    split
    · rw [List.map_cons, List.nodup_cons]; exact h
    · rename_i e
      rw [List.map_cons, List.nodup_cons]
      refine ⟨fun z => ?_, addA_nd h.2⟩
      rcases addA_keys.mp z with z | z
      · exact h.1 z
      · exact e z
theorem getN_F {A : AL} {k : Ky} : getN st (.dN (kA A) (dA A)) (tY k) (dI 0) = some (dI (getA k A)) := by
  have e : nkT (tY k) = some (kY k) := nk_Y
  have e2 : lkN st (.dN (kA A) (dA A)) = some (kA A, dA A) := rfl
  simp only [getN, e, e2, if_pos kY_depth, atA]
theorem getN_Y {v0 : D} {A : AL} {k : Ky} : getN (st ++ [.dN (kA A) (dA A), v0]) (.obj st.length) (tY k) (dI 0) = some (dI (getA k A)) := by
  have e : nkT (tY k) = some (kY k) := nk_Y
  have e2 : lkN (st ++ [.dN (kA A) (dA A), v0]) (.obj st.length) = some (kA A, dA A) := by simp [lkN, look]
  simp only [getN, e, e2, if_pos kY_depth, atA]
theorem niD_A {L : AL} : niD (kA L) (dA L) = L.map fun q => .tup [tY q.1, dI q.2] := by
  induction L with
  | nil => rfl
  | cons q L ih =>
    simp only [niD, kA, dA, List.map_cons, List.zipWith_cons_cons] at ih ⊢
    rw [ih, kD_Y]
theorem addA_mem {k : Ky} {v : Nat} {L : AL} {q : Ky × Nat} (h : q ∈ addA k v L) : q.1 = k ∨ ∃ z ∈ L, z.1 = q.1 := by
  have : q.1 ∈ (addA k v L).map (·.1) := List.mem_map.mpr ⟨q, h, rfl⟩
  rcases addA_keys.mp this with z | z
  · obtain ⟨y, hy, e⟩ := List.mem_map.mp z
    exact .inr ⟨y, hy, e⟩
  · exact .inl z
/-- one entry's additions, all entries' additions, the levels -/
noncomputable def inY (f : Nat → Nat → Nat) (x : Nat) (q : Ky × Nat) (js : List Nat) (A : AL) : AL := js.foldl (fun acc j => addA (q.1.1 + j, opf f q.1.2 (mp f x j)) q.2 acc) A
noncomputable def itY (f : Nat → Nat → Nat) (x T : Nat) (L A : AL) : AL := L.foldl (fun acc q => inY f x q (List.range (T - q.1.1 + 1)) acc) A
noncomputable def cjA (f : Nat → Nat → Nat) (T : Nat) : Nat → AL
  | 0 => [((0, none), 1)]
  | k + 1 => itY f k T (cjA f T k) []
structure OkY (n T : Nat) (A : AL) : Prop where
  nd : (A.map (·.1)).Nodup
  le : ∀ q ∈ A, q.1.1 ≤ T
  io : ∀ q ∈ A, InO n q.1.2
theorem OkY.nil {T : Nat} : OkY n T [] := ⟨by simp, by simp, by simp⟩
theorem OkY.add {T v : Nat} {k : Ky} {A : AL} (h : OkY n T A) (h1 : k.1 ≤ T) (h2 : InO n k.2) : OkY n T (addA k v A) := ⟨addA_nd h.nd, fun q hq => by
  rcases addA_mem hq with e | ⟨z, hz, e⟩
  · rw [e]; exact h1
  · rw [← e]; exact h.le z hz, fun q hq => by
  rcases addA_mem hq with e | ⟨z, hz, e⟩
  · rw [e]; exact h2
  · rw [← e]; exact h.io z hz⟩
theorem mp_in (hf : Good n f) {x : Nat} (hx : x < n) : ∀ k, InO n (mp f x k)
  | 0 => .none
  | k + 1 => (mp_in hf hx k).opf hf (.some hx)
theorem OkY.inY {T x : Nat} {q : Ky × Nat} (hf : Good n f) (hx : x < n) (hq : InO n q.1.2) : ∀ {js : List Nat} {A : AL}, (∀ j ∈ js, q.1.1 + j ≤ T) → OkY n T A → OkY n T (BJ.inY f x q js A)
  | [], _, _, h => h
  | j :: js, A, hj, h => OkY.inY hf hx hq (js := js) (fun i hi => hj i (by simp [hi])) (h.add (hj j (by simp)) (hq.opf hf (mp_in hf hx j)))
theorem OkY.itY {T x : Nat} (hf : Good n f) (hx : x < n) : ∀ {L A : AL}, (∀ q ∈ L, q.1.1 ≤ T ∧ InO n q.1.2) → OkY n T A → OkY n T (BJ.itY f x T L A)
  | [], _, _, h => h
  | q :: L, A, hL, h => OkY.itY hf hx (L := L) (fun z hz => hL z (by simp [hz])) (h.inY hf hx (hL q (by simp)).2 (fun j hj => by
      have := List.mem_range.mp hj
      have := (hL q (by simp)).1
      omega))
theorem OkY.cj {T : Nat} (hf : Good n f) : ∀ {k : Nat}, k ≤ n → OkY n T (cjA f T k)
  | 0, _ => ⟨by simp [cjA], by simp [cjA], by simp only [cjA, List.mem_singleton, forall_eq]; exact .none⟩
  | k + 1, hk => by
    have ih := OkY.cj (T := T) hf (k := k) (by omega)
    exact OkY.itY hf (by omega) (fun q hq => ⟨ih.le q hq, ih.io q hq⟩) .nil
noncomputable def allK (n T : Nat) : List Ky := (List.range (T + 1)).flatMap fun s => (none :: (List.range n).map some).map fun o => (s, o)
theorem allK_len : ∀ m, ((List.range m).flatMap fun s => (none :: (List.range n).map some).map fun o => ((s, o) : Ky)).length = m * (n + 1)
  | 0 => by simp
  | m + 1 => by
    rw [List.range_succ, List.flatMap_append, List.length_append, allK_len m]
    simp [Nat.add_mul]
theorem OkY.lim {T : Nat} {A : AL} (h : OkY n T A) (h8 : n ≤ 8) (hT : T ≤ 40) : A.length ≤ 369 := by
  have h1 := nd_lenG (ys := allK n T) h.nd fun k hk => by
    obtain ⟨q, hq, rfl⟩ := List.mem_map.mp hk
    refine List.mem_flatMap.mpr ⟨q.1.1, List.mem_range.mpr (by have := h.le q hq; omega), List.mem_map.mpr ⟨q.1.2, ?_, rfl⟩⟩
    have := h.io q hq
    cases e : q.1.2 with
    | none => simp
    | some y => simp [this y e]
  rw [List.length_map] at h1
  have h2 : (allK n T).length = (T + 1) * (n + 1) := allK_len (T + 1)
  have h3 : (T + 1) * (n + 1) ≤ 41 * 9 := Nat.mul_le_mul (by omega) (by omega)
  omega
theorem itY_take {T x j : Nat} {L : AL} {q : Ky × Nat} (h : L[j]? = some q) : itY f x T (L.take (j + 1)) [] = inY f x q (List.range (T - q.1.1 + 1)) (itY f x T (L.take j) []) := by
  unfold itY
  rw [List.take_succ, h, List.foldl_append]
  rfl
theorem inY_take {x t : Nat} {q : Ky × Nat} {js : List Nat} {A : AL} {j : Nat} (h : js[t]? = some j) : inY f x q (js.take (t + 1)) A = addA (q.1.1 + j, opf f q.1.2 (mp f x j)) q.2 (inY f x q (js.take t) A) := by
  unfold inY
  rw [List.take_succ, h, List.foldl_append]
  rfl
noncomputable def vlD (f : Nat → Nat → Nat) (x m : Nat) : List D := (List.range (m + 1)).map fun j => optD (mp f x j)
theorem setN_Y {v0 : D} {A : AL} {k : Ky} {v : Nat} {P : Sto → Prop} (hn : (A.map (·.1)).Nodup) (hl : A.length < 2 ^ 24) (h : P (st ++ [.dN (kA (addA k v A)) (dA (addA k v A)), v0])) : ∃ s', setSN (.obj st.length) (tY k) (dI (getA k A + v)) (st ++ [.dN (kA A) (dA A), v0]) = some s' ∧ P s' := by
  refine setN_q (ks := kA A) (ds := dA A) nk_Y (by simp) kY_depth (by rw [kA, List.length_map]; exact hl) ?_
  obtain ⟨e1, e2⟩ := put_A (k := k) (v := v) hn
  rw [e1, e2]
  simpa using h
theorem cutz_two {i : Nat} {ws : List Nat} {x y : D} {e e' : En} (hi : e[i]? = some (some (.obj st.length))) (hx : x.closed 0 = true) (hy : y.closed 0 = true) (he : wipeE e (i :: ws) = e') (hd : closedE st.length e' = true) (h : Q (.nx (e'.set i (some x)) st)) : CutZQ st i ws Q (.nx e (st ++ [x, y])) := by
  subst he
  refine ⟨_, x, hi, .inl (List.take_left' rfl), hd, ?_, by rw [List.take_left' rfl]; exact h⟩
  rw [List.drop_left' rfl, List.length_append, Nat.add_sub_cancel_left]
  have c1 : D.closed (st.length + 1) y = true := closed_up (Nat.zero_le _) hy
  have c0 : D.closed st.length x = true := closed_up (Nat.zero_le _) hx
  have s1 : subs (st.length + 1) y [D.obj st.length] = [D.obj st.length] := by simp [subs, D.sub]
  have s2 : subs (st.length + 1) y [x] = [x] := by simp only [subs]; rw [D.sub_closed (closed_up (Nat.zero_le _) hx)]
  have s3 : subs st.length x [D.obj st.length] = [x] := by simp [subs, D.sub]
  show fzD st.length (1 + 1) [D.obj st.length] [x, y] = some [x]
  rw [fzD]
  simp only [List.getElem?_cons_succ, List.getElem?_cons_zero, c1, if_true, List.take_succ_cons, List.take_zero, s1, s2]
  rw [fzD]
  simp only [Nat.add_zero, List.getElem?_cons_zero, c0, if_true, s3]
  rfl
theorem vlD_snoc {x j : Nat} : vlD f x (j + 1) = vlD f x j ++ [optD (mp f x (j + 1))] := by
  unfold vlD
  rw [List.range_succ, List.map_append]
  rfl
theorem vlD_last {x j : Nat} : vlD f x j = (List.range j).map (fun j => optD (mp f x j)) ++ [optD (mp f x j)] := by
  unfold vlD
  rw [List.range_succ, List.map_append]
  rfl
theorem vlD_get {x m j : Nat} (h : j ≤ m) : (vlD f x m)[j]? = some (optD (mp f x j)) := by
  unfold vlD
  rw [List.getElem?_map, List.getElem?_range (by omega)]
  rfl
theorem count_jars_ok {T : Nat} (h8 : n ≤ 8) (hf : Good n f) (hp : trp n f = []) (hT0 : 1 ≤ T) (hT : T ≤ 40) : g_count_jars_k22 [tabD n f, dI T] st = some (.ok (.lst ((List.range n).map fun x => dI (getA (T, some x) (cjA f T n)))) st) := by
  refine wpG_eq ?_
  (unfold g_count_jars_k22); refine wp_exit ?_; (unfold b_count_jars_k22); (simp only [Dl.startE, List.map_cons, List.map_nil, List.length_cons, List.length_nil, Nat.reduceAdd, Nat.reduceSub, List.replicate_succ, List.replicate_zero, List.cons_append, List.nil_append])
  row_has drun
  (refine wpG_ok (passes_t h8 hf hp) ?_)
  row_has drun
  refine wp_dict1 ?_
  row_has drun
  refine ⟨kY (0, none), nk_Y (k := (0, none)), kY_depth, ?_⟩
  row_has drun
  refine loopI (List.range n) dI rfl (fun i e s => s = st ∧ e = [some (tabD n f), some (dI T), some (.dN (kA (cjA f T i)) (dA (cjA f T i))), none, none, none, none, none, none, none, none]) ⟨rfl, rfl⟩ (fun _ => trivial) (fun i a e s hi ⟨e1, e2⟩ => ?_) fun e s ⟨e1, e2⟩ => ?_
  · subst e1; subst e2
    obtain ⟨hin, hia⟩ := List.getElem?_eq_some_iff.mp hi
    rw [List.length_range] at hin
    rw [List.getElem_range] at hia
    subst hia
    have hO := OkY.cj (T := T) hf (k := i) (by omega)
    have hwS : cjA f T (i + 1) = itY f i T (cjA f T i) [] := rfl
    generalize cjA f T i = L at hO hwS ⊢
    refine ⟨_, _, rfl, ?_⟩
    dsimp only [List.set]
    refine wp_cutZ ?_
    row_has drun
    refine wp_dictNT ?_
    row_has drun
    rw [show s ++ [D.dN [] []] ++ [D.lst [D.non]] = s ++ [D.dN [] [], D.lst (vlD f i 0)] by simp [vlD, optD, mp], show (s ++ [D.dN [] []]).length = s.length + 1 by simp]
    refine loopI (List.range T) dI rfl (fun j e s' => s' = s ++ [.dN [] [], .lst (vlD f i j)] ∧ e = [some (tabD n f), some (dI T), some (.dN (kA L) (dA L)), some (dI i), some (.obj s.length), some (.obj (s.length + 1)), none, none, none, none, none]) ⟨rfl, rfl⟩ (fun _ => trivial) (fun j a e s' hj ⟨e1, e2⟩ => ?_) fun e s' ⟨e1, e2⟩ => ?_
    · subst e1; subst e2
      have hjl := (List.getElem?_eq_some_iff.mp hj).1
      rw [List.length_range] at hjl
      refine ⟨_, _, rfl, ?_⟩
      dsimp only [List.set]
      row_has drun
      refine ⟨by simp [isL], ?_⟩
      row_has drun
      refine ix_last (y := optD (mp f i j)) (xs := (List.range j).map fun j => optD (mp f i j)) (by rw [← vlD_last]; exact items_obj (by simp)) ?_
      row_has drun
      refine wpG_ok (product_ok (x := mp f i j) (y := some i) (mp_in hf hin j) (.some hin)) ?_
      row_has drun
      refine wp_lmS (k := s.length + 1) (xs := vlD f i j) (by simp) (z := .non) (xs' := vlD f i (j + 1)) ?_ ?_
      · simp only [mAppend, sizeLine_eq]
        rw [if_pos (by simp [vlD]; omega), vlD_snoc]
        rfl
      rw [show (s ++ [D.dN [] [], D.lst (vlD f i j)]).set (s.length + 1) (.lst (vlD f i (j + 1))) = s ++ [D.dN [] [], D.lst (vlD f i (j + 1))] by simp [List.set_append]]
      refine cut_nx (by simp) ?_
      exact ⟨rfl, rfl⟩
    · subst e1; subst e2
      rw [List.length_range]
      row_has drun
      refine wp_ni ?_
      row_has drun
      refine ni_q ?_
      rw [niD_A]
      refine loopI L (fun q => .tup [tY q.1, dI q.2]) rfl (fun j e s' => ∃ A, A = itY f i T (L.take j) [] ∧ OkY n T A ∧ s' = s ++ [.dN (kA A) (dA A), .lst (vlD f i T)] ∧ e = [some (tabD n f), some (dI T), some (.dN (kA L) (dA L)), some (dI i), some (.obj s.length), some (.obj (s.length + 1)), none, none, none, none, none]) ⟨[], rfl, .nil, rfl, rfl⟩ (fun _ => trivial) (fun j q e s' hj ⟨A, hA, hOA, e1, e2⟩ => ?_) fun e s' ⟨A, hA, hOA, e1, e2⟩ => ?_
      · subst e1; subst e2
        have hq := List.mem_of_getElem? hj
        have hqt := hO.le q hq
        have hqi := hO.io q hq
        have hA2 := itY_take (f := f) (x := i) (T := T) hj
        rw [← hA] at hA2
        refine ⟨_, _, rfl, ?_⟩
        dsimp only [List.set]
        row_has drun
        refine loopI (List.range (T - q.1.1 + 1)) dI rfl (fun t e s' => ∃ B, B = inY f i q ((List.range (T - q.1.1 + 1)).take t) A ∧ OkY n T B ∧ s' = s ++ [.dN (kA B) (dA B), .lst (vlD f i T)] ∧ e = [some (tabD n f), some (dI T), some (.dN (kA L) (dA L)), some (dI i), some (.obj s.length), some (.obj (s.length + 1)), none, some (dI q.1.1), some (optD q.1.2), some (dI q.2), none]) ⟨A, rfl, hOA, rfl, rfl⟩ (fun _ => trivial) (fun t m e s' ht ⟨B, hB, hOB, e1, e2⟩ => ?_) fun e s' ⟨B, hB, hOB, e1, e2⟩ => ?_
        · subst e1; subst e2
          have hB2 := inY_take (f := f) (x := i) (q := q) (A := A) ht
          rw [← hB] at hB2
          have hm := List.mem_range.mp (List.mem_of_getElem? ht)
          refine ⟨_, _, rfl, ?_⟩
          dsimp only [List.set]
          row_has drun
          refine ixG (m := m) (items_obj (xs := vlD f i T) (by simp)) (vlD_get (by omega)) ?_
          row_has drun
          refine wpG_ok (product_ok (x := q.1.2) (y := mp f i m) hqi (mp_in hf hin m)) ?_
          row_has drun
          refine wp_getN2 ?_
          row_has drun
          refine ⟨by simp [lkN, look], ?_⟩
          row_has drun
          refine ⟨_, getN_Y (k := (q.1.1 + m, opf f q.1.2 (mp f i m))), ?_⟩
          row_has drun
          refine setN_Y (k := (q.1.1 + m, opf f q.1.2 (mp f i m))) hOB.nd (by have := hOB.lim h8 hT; omega) ?_
          row_has drun
          exact ⟨_, hB2.symm, hOB.add (by show q.1.1 + m ≤ T; omega) (hqi.opf hf (mp_in hf hin m)), rfl, rfl⟩
        · subst e1; subst e2
          rw [List.take_length, ← hA2] at hB
          subst hB
          row_has drun
          exact ⟨_, rfl, hOB, rfl, rfl⟩
      · subst e1; subst e2
        rw [List.take_length] at hA
        rw [← hwS] at hA
        subst hA
        row_has drun
        refine cutz_two rfl (closeds_iff.mpr fun z hz => by
          obtain ⟨q, _, rfl⟩ := List.mem_map.mp hz
          rfl) (closeds_iff.mpr fun z hz => by
          obtain ⟨q, _, rfl⟩ := List.mem_map.mp hz
          cases mp f i q <;> rfl) rfl (by simp [closedE, wipeE, closed_tab, D.closed]) ?_
        exact ⟨rfl, rfl⟩
  · subst e1; subst e2
    rw [List.length_range]
    row_has drun
    (refine lcA (List.range n) (dI) (fun x => dI (getA (T, some x) (cjA f T n))) ?hi_1 ?ok_1 ?hl_1 (fun x hx => ?_) ?_; (case hi_1 => first | rfl | exact (List.map_id _).symm | (simp; done)); (case ok_1 => first | trivial | exact fun _ => trivial | assumption); (case hl_1 => first | (simp; done) | (simp; omega) | omega))
    · refine ⟨_, rfl, ?_⟩
      dsimp only [List.set, wipeE]
      row_has drun
      refine wp_getN2 ?_
      row_has drun
      refine ⟨rfl, ?_⟩
      row_has drun
      refine ⟨_, getN_F (k := (T, some x)), ?_⟩
      exact ⟨rfl, rfl⟩
    · row_has drun
end
end BJ
end
section
set_option Elab.async false
set_option linter.all false
set_option maxRecDepth 100000
set_option autoImplicit false
set_option maxHeartbeats 0
namespace BJ
open PySem Dl
section
variable {env : En} {st r : Sto} {QD : D → Sto → Prop} {Q : Out → Prop} {X : XQ} {p x : D} {n : Nat} {f : Nat → Nat → Nat}
/-! ### a list of pairs as a histogram -/
noncomputable def smA (g : Ky → Nat) (A : AL) : Nat := (A.map fun q => q.2 * g q.1).sum
theorem smA_add {g : Ky → Nat} {k : Ky} {v : Nat} : ∀ {A : AL}, smA g (addA k v A) = smA g A + v * g k
  | [] => by simp [addA, smA]
  | q :: A => by
    have ih := smA_add (g := g) (k := k) (v := v) (A := A)
    simp only [addA, smA] at ih ⊢
    by_cases e : q.1 = k
    · rw [if_pos e]
      subst e
      simp only [List.map_cons, List.sum_cons, Nat.add_mul]
      omega
    · rw [if_neg e]
      simp only [List.map_cons, List.sum_cons, ih]
      omega
noncomputable def stepS (f : Nat → Nat → Nat) (x T : Nat) (g : Ky → Nat) (k : Ky) : Nat := ((List.range (T - k.1 + 1)).map fun j => g (k.1 + j, opf f k.2 (mp f x j))).sum
theorem smA_in {f : Nat → Nat → Nat} {g : Ky → Nat} {x : Nat} {q : Ky × Nat} : ∀ (js : List Nat) (A : AL), smA g (inY f x q js A) = smA g A + q.2 * (js.map fun j => g (q.1.1 + j, opf f q.1.2 (mp f x j))).sum
  | [], A => by simp [inY]
  | j :: js, A => by
    have ih := smA_in (f := f) (g := g) (x := x) (q := q) js (addA (q.1.1 + j, opf f q.1.2 (mp f x j)) q.2 A)
    rw [smA_add] at ih
    show smA g (inY f x q js (addA (q.1.1 + j, opf f q.1.2 (mp f x j)) q.2 A)) = _
    rw [ih, List.map_cons, List.sum_cons, Nat.mul_add]
    omega
theorem smA_it {f : Nat → Nat → Nat} {g : Ky → Nat} {x T : Nat} : ∀ (L A : AL), smA g (itY f x T L A) = smA g A + smA (stepS f x T g) L
  | [], A => by simp [itY, smA]
  | q :: L, A => by
    have ih := smA_it (f := f) (g := g) (x := x) (T := T) L (inY f x q (List.range (T - q.1.1 + 1)) A)
    rw [smA_in] at ih
    show smA g (itY f x T L (inY f x q (List.range (T - q.1.1 + 1)) A)) = _
    rw [ih]
    simp only [smA, List.map_cons, List.sum_cons, stepS]
    omega
noncomputable def wY (f : Nat → Nat → Nat) (T : Nat) : Nat → List Ky
  | 0 => [(0, none)]
  | m + 1 => (wY f T m).flatMap fun k => (List.range (T - k.1 + 1)).map fun j => (k.1 + j, opf f k.2 (mp f m j))
theorem sum_flat {α β : Type} {g : β → Nat} {F : α → List β} : ∀ {xs : List α}, ((xs.flatMap F).map g).sum = (xs.map fun a => ((F a).map g).sum).sum
  | [] => rfl
  | a :: xs => by rw [List.flatMap_cons, List.map_append, List.sum_append, sum_flat, List.map_cons, List.sum_cons]
theorem hist {T : Nat} : ∀ (m : Nat) (g : Ky → Nat), smA g (cjA f T m) = ((wY f T m).map g).sum
  | 0, g => by simp [cjA, wY, smA]
  | m + 1, g => by
    show smA g (itY f m T (cjA f T m) []) = (((wY f T m).flatMap _).map g).sum
    rw [smA_it, hist m, sum_flat]
    simp only [smA, List.map_nil, List.sum_nil, Nat.zero_add, stepS, List.map_map]
    rfl
theorem smA_none {k : Ky} : ∀ {A : AL}, k ∉ A.map (·.1) → smA (fun z => if z = k then 1 else 0) A = 0
  | [], _ => rfl
  | q :: A, h => by
    rw [List.map_cons, List.mem_cons, not_or] at h
    have ih := smA_none h.2
    simp only [smA, List.map_cons, List.sum_cons] at ih ⊢
    rw [ih, if_neg fun e => h.1 e.symm]
    omega
theorem smA_get {k : Ky} : ∀ {A : AL}, (A.map (·.1)).Nodup → smA (fun z => if z = k then 1 else 0) A = getA k A
  | [], _ => rfl
  | q :: A, h => by
    rw [List.map_cons, List.nodup_cons] at h
    by_cases e : q.1 = k
    · have h0 := smA_none (k := k) (A := A) (e ▸ h.1)
      simp only [smA, List.map_cons, List.sum_cons, getA] at h0 ⊢
      rw [h0, if_pos e, if_pos e]
      omega
    · have ih := smA_get (k := k) h.2
      simp only [smA, List.map_cons, List.sum_cons, getA] at ih ⊢
      rw [ih, if_neg e, if_neg e]
      omega
/-! ### the jars -/
noncomputable def prL (f : Nat → Nat → Nat) (v : List Nat) : Option Nat := (List.range v.length).foldl (fun z i => opf f z (mp f i (v.getD i 0))) none
theorem foldl_congr22 {α β : Type} {F G : β → α → β} : ∀ {xs : List α} {z : β}, (∀ z, ∀ x ∈ xs, F z x = G z x) → xs.foldl F z = xs.foldl G z
  | [], _, _ => rfl
  | x :: xs, z, h => by
    rw [List.foldl_cons, List.foldl_cons, h z x (by simp)]
    exact foldl_congr22 fun z y hy => h z y (by simp [hy])
theorem prL_snoc {v : List Nat} {j : Nat} : prL f (v ++ [j]) = opf f (prL f v) (mp f v.length j) := by
  unfold prL
  rw [List.length_append, List.length_singleton, List.range_succ, List.foldl_append, List.foldl_cons, List.foldl_nil]
  have e1 : (v ++ [j]).getD v.length 0 = j := by simp
  rw [e1]
  congr 1
  refine foldl_congr22 fun z i hi => ?_
  have := List.mem_range.mp hi
  rw [show (v ++ [j]).getD i 0 = v.getD i 0 by simp only [List.getD_eq_getElem?_getD]; rw [List.getElem?_append_left this]]
noncomputable def kv (f : Nat → Nat → Nat) (v : List Nat) : Ky := (v.sum, prL f v)
theorem wY_jl {T : Nat} : ∀ m, wY f T m = (jl T m).map (kv f)
  | 0 => rfl
  | m + 1 => by
    show (wY f T m).flatMap _ = ((jl T m).flatMap _).map (kv f)
    rw [wY_jl m, List.flatMap_map, List.map_flatMap]
    simp only [List.flatMap]
    congr 1
    refine List.map_congr_left fun v hv => ?_
    rw [List.map_map]
    refine List.map_congr_left fun j _ => ?_
    show (v.sum + j, opf f (prL f v) (mp f m j)) = kv f (v ++ [j])
    unfold kv
    rw [prL_snoc, (jl_sum hv).2]
    simp
theorem cnt_two {α : Type} {P : α → Prop} {p q : α → Bool} [DecidablePred P] (h : ∀ v, P v ↔ (p v = true ∧ q v = true)) : ∀ {l : List α}, (l.map fun v => if P v then 1 else 0).sum = ((l.filter p).filter q).length
  | [] => rfl
  | v :: l => by
    have ih := cnt_two h (l := l)
    rw [List.map_cons, List.sum_cons, ih, List.filter_cons]
    by_cases hp : p v = true
    · rw [if_pos hp, List.filter_cons]
      by_cases hq : q v = true
      · rw [if_pos hq, if_pos ((h v).mpr ⟨hp, hq⟩), List.length_cons]; omega
      · rw [if_neg hq, if_neg fun z => hq ((h v).mp z).2]; omega
    · rw [if_neg hp, if_neg fun z => hp ((h v).mp z).1]; omega
theorem getA_jrs {T x : Nat} (hf : Good n f) : getA (T, some x) (cjA f T n) = ((jrsK n T).filter fun v => decide (prL f v = some x)).length := by
  rw [← smA_get (OkY.cj hf (Nat.le_refl n)).nd, hist, wY_jl, List.map_map]
  unfold jrsK
  rw [← cnt_two (P := fun v : List Nat => kv f v = (T, some x)) (fun v => by
    unfold kv
    rw [Prod.mk.injEq, decide_eq_true_eq, decide_eq_true_eq])]
  rfl
/-! ### the numbers of jars -/
theorem opf_non {a b : Option Nat} (h : opf f a b = none) : a = none ∧ b = none := by
  cases a <;> cases b <;> simp [opf] at h ⊢
theorem mp_non {x j : Nat} (h : mp f x j = none) : j = 0 := by
  cases j with
  | zero => rfl
  | succ j => exact absurd (opf_non h).2 (by simp)
theorem wY_in {T : Nat} (hf : Good n f) : ∀ {m : Nat}, m ≤ n → ∀ k ∈ wY f T m, k.1 ≤ T ∧ InO n k.2 ∧ (k.2 = none → k.1 = 0)
  | 0, _, k, hk => by
    simp only [wY, List.mem_singleton] at hk
    subst hk
    exact ⟨Nat.zero_le _, .none, fun _ => rfl⟩
  | m + 1, hm, k, hk => by
    simp only [wY] at hk
    obtain ⟨z, hz, hk⟩ := List.mem_flatMap.mp hk
    obtain ⟨j, hj, rfl⟩ := List.mem_map.mp hk
    have hj := List.mem_range.mp hj
    obtain ⟨h1, h2, h3⟩ := wY_in hf (by omega) z hz
    refine ⟨by show z.1 + j ≤ T; omega, h2.opf hf (mp_in hf (by omega) j), fun h => ?_⟩
    obtain ⟨e1, e2⟩ := opf_non h
    have := h3 e1
    have := mp_non e2
    show z.1 + j = 0
    omega
theorem ind_range {t : Nat} : ∀ {n : Nat}, ((List.range n).map fun x => if x = t then 1 else 0).sum = if t < n then 1 else 0
  | 0 => by simp
  | n + 1 => by
    rw [List.range_succ, List.map_append, List.sum_append, ind_range (n := n)]
    simp only [List.map_cons, List.map_nil, List.sum_cons, List.sum_nil]
    by_cases h : t < n
    · rw [if_pos h, if_neg (by omega), if_pos (by omega)]
      omega
    · by_cases e : n = t
      · rw [if_neg h, if_pos e, if_pos (by omega)]
        omega
      · rw [if_neg h, if_neg e, if_neg (by omega)]
        omega
theorem sum_swap {α β : Type} {g : α → β → Nat} {ys : List β} : ∀ {xs : List α}, (xs.map fun a => (ys.map fun b => g a b).sum).sum = (ys.map fun b => (xs.map fun a => g a b).sum).sum
  | [] => by
    simp only [List.map_nil, List.sum_nil]
    induction ys with
    | nil => rfl
    | cons y ys ih => rw [List.map_cons, List.sum_cons, ← ih]; rfl
  | a :: xs => by
    rw [List.map_cons, List.sum_cons, sum_swap (xs := xs)]
    induction ys with
    | nil => rfl
    | cons y ys ih =>
      simp only [List.map_cons, List.sum_cons] at ih ⊢
      omega
/-- how many of the first m colours' jars have s beans -/
noncomputable def preN (g : Nat → Nat) : Nat → Nat
  | 0 => g 0
  | s + 1 => preN g s + g (s + 1)
noncomputable def pc : Nat → Nat → Nat
  | 0 => fun s => if s = 0 then 1 else 0
  | k + 1 => preN (pc k)
noncomputable def nW (f : Nat → Nat → Nat) (T m s : Nat) : Nat := ((wY f T m).map fun k => if k.1 = s then 1 else 0).sum
noncomputable def nL (f : Nat → Nat → Nat) (T m s : Nat) : Nat := ((wY f T m).map fun k => if k.1 ≤ s then 1 else 0).sum
theorem nL_succ {T m s : Nat} : nL f T m (s + 1) = nL f T m s + nW f T m (s + 1) := by
  unfold nL nW
  induction wY f T m with
  | nil => rfl
  | cons k L ih =>
    simp only [List.map_cons, List.sum_cons]
    rw [ih]
    by_cases h1 : k.1 ≤ s
    · rw [if_pos (show k.1 ≤ s + 1 by omega), if_pos h1, if_neg (show ¬ k.1 = s + 1 by omega)]; omega
    · by_cases h2 : k.1 = s + 1
      · rw [if_pos (show k.1 ≤ s + 1 by omega), if_neg h1, if_pos h2]; omega
      · rw [if_neg (show ¬ k.1 ≤ s + 1 by omega), if_neg h1, if_neg h2]; omega
theorem nL_zero {T m : Nat} : nL f T m 0 = nW f T m 0 := by
  unfold nL nW
  congr 1
  refine List.map_congr_left fun k _ => ?_
  by_cases h : k.1 = 0
  · rw [if_pos h, if_pos (by omega)]
  · rw [if_neg h, if_neg (by omega)]
theorem nW_step {T m s : Nat} (hs : s ≤ T) : nW f T (m + 1) s = nL f T m s := by
  unfold nW nL
  show (((wY f T m).flatMap _).map _).sum = _
  rw [sum_flat]
  congr 1
  refine List.map_congr_left fun k _ => ?_
  rw [List.map_map]
  show ((List.range (T - k.1 + 1)).map fun j => if k.1 + j = s then 1 else 0).sum = _
  by_cases h : k.1 ≤ s
  · rw [if_pos h, show (fun j => if k.1 + j = s then (1 : Nat) else 0) = fun j => if j = s - k.1 then 1 else 0 by
      funext j
      by_cases e : j = s - k.1
      · rw [if_pos e, if_pos (by omega)]
      · rw [if_neg e, if_neg (by omega)], ind_range, if_pos (by omega)]
  · rw [if_neg h]
    have : ∀ xs : List Nat, (xs.map fun j => if k.1 + j = s then 1 else 0).sum = 0 := fun xs => by
      induction xs with
      | nil => rfl
      | cons j xs ih => rw [List.map_cons, List.sum_cons, ih, if_neg (by omega)]
    exact this _
theorem nW_pc {T : Nat} : ∀ (m s : Nat), s ≤ T → nW f T m s = pc m s
  | 0, s, _ => by
    show ((if 0 = s then 1 else 0) + 0) = if s = 0 then 1 else 0
    by_cases h : s = 0
    · subst h; rfl
    · rw [if_neg h, if_neg fun z => h z.symm]
      rfl
  | m + 1, 0, h => by rw [nW_step h, nL_zero, nW_pc m 0 h]; rfl
  | m + 1, s + 1, h => by
    rw [nW_step h, nL_succ, nW_pc m (s + 1) h]
    rw [← nW_step (show s ≤ T by omega), nW_pc (m + 1) s (by omega)]
    rfl
theorem all_sum {T : Nat} (hf : Good n f) (hT : 1 ≤ T) : ((List.range n).map fun x => getA (T, some x) (cjA f T n)).sum = pc n T := by
  rw [← nW_pc (f := f) (T := T) n T (Nat.le_refl T)]
  rw [show (fun x => getA (T, some x) (cjA f T n)) = fun x => ((wY f T n).map fun k => if k = (T, some x) then 1 else 0).sum by
    funext x
    rw [← smA_get (OkY.cj hf (Nat.le_refl n)).nd, hist]]
  rw [sum_swap]
  unfold nW
  congr 1
  refine List.map_congr_left fun k hk => ?_
  obtain ⟨s, o⟩ := k
  obtain ⟨h1, h2, h3⟩ := wY_in hf (Nat.le_refl n) _ hk
  by_cases h : s = T
  · subst h
    cases o with
    | none => have := h3 rfl; simp at this; omega
    | some y =>
      have hy : y < n := h2 y rfl
      rw [if_pos rfl, show (fun x => if ((s, some y) : Ky) = (s, some x) then (1 : Nat) else 0) = fun x => if x = y then 1 else 0 by
        funext x
        by_cases e : x = y
        · subst e; simp
        · rw [if_neg e, if_neg fun z => e (by injection z with _ z; injection z with z; exact z.symm)], ind_range, if_pos hy]
  · rw [if_neg h]
    have : ∀ xs : List Nat, (xs.map fun x => if ((s, o) : Ky) = (T, some x) then 1 else 0).sum = 0 := fun xs => by
      induction xs with
      | nil => rfl
      | cons j xs ih => rw [List.map_cons, List.sum_cons, ih, if_neg fun z => h (by injection z)]
    exact this _
noncomputable def psL : Nat → List Nat → List Nat
  | _, [] => []
  | a, x :: xs => (a + x) :: psL (a + x) xs
theorem psL_pc {k : Nat} : ∀ (m t : Nat), psL (pc (k + 1) t) ((List.range' (t + 1) m).map (pc k)) = (List.range' (t + 1) m).map (pc (k + 1))
  | 0, t => rfl
  | m + 1, t => by
    rw [List.range'_succ, List.map_cons, List.map_cons, psL]
    show (pc (k + 1) (t + 1)) :: psL (pc (k + 1) (t + 1)) _ = _
    rw [psL_pc m (t + 1)]
noncomputable def pcR : Nat → List Nat
  | 0 => List.replicate 40 0
  | k + 1 => psL 1 (pcR k)
theorem pc_zero : ∀ k, pc k 0 = 1
  | 0 => rfl
  | k + 1 => pc_zero k
theorem pcR_eq : ∀ k, (List.range' 1 40).map (pc k) = pcR k
  | 0 => by decide +kernel
  | k + 1 => by
    rw [pcR, ← pcR_eq k, ← psL_pc 40 0, pc_zero]
theorem pc_40 (k : Nat) : pc k 40 = (pcR k).getD 39 0 := by
  rw [← pcR_eq]
  rfl
end
end BJ
end
section
set_option Elab.async false
set_option linter.all false
set_option maxRecDepth 100000
set_option autoImplicit false
set_option maxHeartbeats 0
namespace BJ
open PySem Dl
section
variable {env : En} {st r : Sto} {QD : D → Sto → Prop} {Q : Out → Prop} {X : XQ} {p x : D} {n : Nat} {f : Nat → Nat → Nat}
theorem law_jars22 {t : Nat} (h8 : n ≤ 8) (ht : t ≤ 40) (hl : ∀ m, m ≤ n → (jl t m).length ≤ 343) : g__law_jars [dI n, dI t] st = some (.ok (.lst ((jrsK n t).map fun k => .lst (ndL k))) st) := by
  refine wpG_eq ?_
  (unfold g__law_jars); refine wp_exit ?_; (unfold b__law_jars); (simp only [Dl.startE, List.map_cons, List.map_nil, List.length_cons, List.length_nil, Nat.reduceAdd, Nat.reduceSub, List.replicate_succ, List.replicate_zero, List.cons_append, List.nil_append])
  row_has drun
  refine loopI (List.range n) dI rfl (fun i e s => s = st ∧ e = [some (dI n), some (dI t), some (.lst ((jl t i).map fun k => .lst (ndL k))), none, none, none, none]) ⟨rfl, rfl⟩ (fun _ => trivial) (fun i a e s hi ⟨e2, e3⟩ => ?_) fun e s ⟨e2, e3⟩ => ?_
  · subst e2; subst e3
    have hin : i < n := by have := (List.getElem?_eq_some_iff.mp hi).1; simpa using this
    have hB := hl (i + 1) (by omega)
    refine ⟨_, _, rfl, ?_⟩
    dsimp only [List.set]
    row_has drun
    refine loopFo (jl t i) (fun k => .lst (ndL k)) (fun z : List (List Nat) => [some (dI n), some (dI t), some (.lst ((jl t i).map fun k => .lst (ndL k))), some (dI a), some (.lst (z.map fun k => .lst (ndL k))), none, none]) (fun z k => z ++ (List.range (t - k.sum + 1)).map fun v => k ++ [v]) (fun j z => z = ((jl t i).take j).flatMap fun k => (List.range (t - k.sum + 1)).map fun v => k ++ [v]) [] rfl trivial rfl rfl (fun j k z hx hz => ⟨_, rfl, ?_⟩) fun hz => ?_
    · obtain ⟨hk1, hk2⟩ := jl_sum (List.mem_of_getElem? hx)
      dsimp only [List.set]
      row_has drun
      (refine lcA (List.range (t - k.sum + 1)) (dI) (fun v => .lst (ndL (k ++ [v]))) ?hi_1 ?ok_1 ?hl_1 (fun v hv => ?_) ?_; (case hi_1 => first | rfl | exact (List.map_id _).symm | (simp; done)); (case ok_1 => first | trivial | exact fun _ => trivial | assumption); (case hl_1 => first | (simp; done) | (simp; omega) | omega))
      · refine ⟨_, rfl, ?_⟩
        row_has drun
        refine wp_catF (by simp [ndL]; omega) ?_
        exact ⟨rfl, by simp [ndL]⟩
      · row_has drun
        have hb := flat_take12 (g := fun k : List Nat => (List.range (t - k.sum + 1)).map fun v => k ++ [v]) (xs := jl t i) (j := j + 1)
        rw [flat_snoc12 hx, List.length_append, List.length_map, List.length_range] at hb
        have hB' : ((jl t i).flatMap fun k : List Nat => (List.range (t - k.sum + 1)).map fun v => k ++ [v]).length ≤ 343 := hB
        refine wp_catF (by rw [List.length_map, List.length_map, List.length_range, hz]; omega) ?_
        row_has drun
        exact ⟨by rw [List.map_append, List.map_map]; rfl, rfl, by rw [hz, flat_snoc12 hx]⟩
    · have hz2 : (jl t i).foldl (fun z k => z ++ (List.range (t - k.sum + 1)).map fun v => k ++ [v]) [] = jl t (i + 1) := by rw [hz, List.take_length]; rfl
      rw [hz2]
      row_has drun
  · subst e2; subst e3
    rw [List.length_range]
    have hB := hl n (Nat.le_refl _)
    row_has drun
    (refine lcK (jl t n) (fun k => .lst (ndL k)) (fun k => decide (k.sum = t)) (fun k => .lst (ndL k)) ?hi_2 ?ok_2 ?hl_2 (fun k hk => ?_) ?_; (case hi_2 => first | rfl | exact (List.map_id _).symm | (simp; done)); (case ok_2 => first | trivial | exact fun _ => trivial | assumption); (case hl_2 => first | (simp; done) | (simp; omega) | omega))
    · refine ⟨_, rfl, ?_, fun _ => ?_⟩
      · row_has drun
        done
      · row_has drun
        done
    · row_has drun
      done
noncomputable def lm22 (n : Nat) : Nat := [0, 12, 8, 8, 6, 5].getD n 0
theorem jl_22 {t : Nat} (h1 : 1 ≤ n) (h5 : n ≤ 5) (ht : t ≤ lm22 n) : ∀ m, m ≤ n → (jl t m).length ≤ 343 := by
  have : ∀ n ∈ List.range 6, ∀ t ∈ List.range (lm22 n + 1), ∀ m ∈ List.range (n + 1), (jl t m).length ≤ 343 := by decide +kernel
  exact fun m hm => this n (List.mem_range.mpr (by omega)) t (List.mem_range.mpr (by omega)) m (List.mem_range.mpr (by omega))
/-! ### the tables -/
theorem rows22 {F : Nat → Nat → Nat → Nat} (hd : ∀ n ∈ List.range 6, trp n (F n) = []) {n : Nat} (h5 : n ≤ 5) : trp n (F n) = [] := hd n (List.mem_range.mpr (by omega))
theorem wp_rows22 {p0 : D} (hp : IsPool p0) (hr : closeds (r.length + 1) r = true) (h1 : 1 ≤ n) (h5 : n ≤ 5) (h : ∀ f p, IsPool p → Good n f → trp n f = [] → QD (matD n f) (p :: r)) : wpG g__law_rows_k22 [.obj 0, dI n] (p0 :: r) QD X := by
  have h8 : n ≤ 8 := by omega
  have hn0 : (0 : Int) < n := by omega
  (unfold g__law_rows_k22); refine wp_exitI ?_; (unfold b__law_rows_k22); (simp only [Dl.startE, List.map_cons, List.map_nil, List.length_cons, List.length_nil, Nat.reduceAdd, Nat.reduceSub, List.replicate_succ, List.replicate_zero, List.cons_append, List.nil_append])
  row_has drun
  refine wp_draw hp (by decide) (by decide) fun v p hp hv => ?_
  row_has drun
  have end0 : ∀ {F : Nat → Nat → Nat → Nat}, (∀ n ∈ List.range 6, trp n (F n) = []) → Good n (F n) → ∃ r_1, fzR (p0 :: r) (.ok (matD n (F n)) (p :: r)) = some r_1 ∧ postX QD X r_1 := fun {F} hd hg =>
    ⟨.ok (matD n (F n)) (p :: r), fz_same (st := p0 :: r) (st' := p :: r) ⟨rfl, .inr (by show closeds (r.length + 1) (p :: r) = true; simp only [closeds, pool_closed hp, hr, Bool.and_self])⟩, h _ p hp hg (rows22 hd h5)⟩
  refine if_dec (fun _ => ?_) fun _ => ?_
  · refine wp_ret ?_
    refine kind_lc (F := fun a b => (a + b) % n) h8 (fun a b ha hb x y => ?_) ?_
    · row_has drun
    · row_has drun
      exact end0 (F := fun n a b => (a + b) % n) (by decide +kernel) fun a b ha hb => ⟨Nat.mod_lt _ (by omega), show (a + b) % n = (b + a) % n by rw [Nat.add_comm]⟩
  row_has drun
  refine if_dec (fun _ => ?_) fun _ => ?_
  · refine wp_ret ?_
    refine kind_lc (F := fun a b => min a b) h8 (fun a b ha hb x y => ?_) ?_
    · row_has drun
    · row_has drun
      exact end0 (F := fun n a b => min a b) (by decide +kernel) fun a b ha hb => ⟨show min a b < n by omega, show min a b = min b a by omega⟩
  row_has drun
  refine if_dec (fun _ => ?_) fun _ => ?_
  · refine wp_ret ?_
    refine kind_lc (F := fun a b => min (a + b + 1) (n - 1)) h8 (fun a b ha hb x y => ?_) ?_
    · row_has drun
    · row_has drun
      exact end0 (F := fun n a b => min (a + b + 1) (n - 1)) (by decide +kernel) fun a b ha hb => ⟨show min (a + b + 1) (n - 1) < n by omega, show min (a + b + 1) (n - 1) = min (b + a + 1) (n - 1) by omega⟩
  row_has drun
  refine if_dec (fun _ => ?_) fun _ => ?_
  · refine wp_ret ?_
    refine kind_lc (F := fun a b => (a * b) % n) h8 (fun a b ha hb x y => ?_) ?_
    · row_has drun
    · row_has drun
      exact end0 (F := fun n a b => (a * b) % n) (by decide +kernel) fun a b ha hb => ⟨Nat.mod_lt _ (by omega), show a * b % n = b * a % n by rw [Nat.mul_comm]⟩
  refine wp_nil (then_nx (wp_ret ?_))
  refine kind_lc (F := fun a b => (a + b + 1) % n) h8 (fun a b ha hb x y => ?_) ?_
  · row_has drun
  · row_has drun
    exact end0 (F := fun n a b => (a + b + 1) % n) (by decide +kernel) fun a b ha hb => ⟨Nat.mod_lt _ (by omega), show (a + b + 1) % n = (b + a + 1) % n by rw [Nat.add_comm a b]⟩
theorem rep_mp (hf : Good n f) (ha : ∀ a b c, a < n → b < n → c < n → f (f a b) c = f a (f b c)) {i : Nat} (hi : i < n) : ∀ (k : Nat) (z : Option Nat), InO n z → (List.replicate k i).foldl (fun z b => opf f z (some b)) z = opf f z (mp f i k)
  | 0, z, _ => opf_none.symm
  | k + 1, z, hz => by
    rw [List.replicate_succ', List.foldl_append, rep_mp hf ha hi k z hz]
    show opf f (opf f z (mp f i k)) (some i) = opf f z (opf f (mp f i k) (some i))
    have hm := mp_in hf hi k
    cases z with
    | none => rfl
    | some a => cases e : mp f i k with
      | none => rfl
      | some b => show some (f (f a b) i) = some (f a (f b i)); rw [ha a b i (hz a rfl) (hm b e) hi]
noncomputable def bnL (v : List Nat) (k : Nat) : List Nat := (List.range k).flatMap fun i => List.replicate (v.getD i 0) i
theorem bnL_succ {v : List Nat} {k : Nat} : bnL v (k + 1) = bnL v k ++ List.replicate (v.getD k 0) k := by
  unfold bnL
  rw [List.range_succ, List.flatMap_append]
  simp
theorem bnL_lt {v : List Nat} {k : Nat} {b : Nat} (h : b ∈ bnL v k) : b < k := by
  obtain ⟨i, hi, h⟩ := List.mem_flatMap.mp h
  rw [(List.mem_replicate.mp h).2]
  exact List.mem_range.mp hi
theorem bnL_fold (hf : Good n f) (ha : ∀ a b c, a < n → b < n → c < n → f (f a b) c = f a (f b c)) {v : List Nat} : ∀ k, k ≤ n → (bnL v k).foldl (fun z b => opf f z (some b)) none = (List.range k).foldl (fun z i => opf f z (mp f i (v.getD i 0))) none ∧ InO n ((bnL v k).foldl (fun z b => opf f z (some b)) none)
  | 0, _ => ⟨rfl, .none⟩
  | k + 1, h => by
    obtain ⟨e, hI⟩ := bnL_fold hf ha (v := v) k (by omega)
    rw [bnL_succ, List.foldl_append, rep_mp hf ha (by omega) _ _ hI, List.range_succ, List.foldl_append, ← e]
    exact ⟨rfl, hI.opf hf (mp_in hf (by omega) _)⟩
theorem bnL_len {v : List Nat} : ∀ k, k ≤ v.length → (bnL v k).length = (v.take k).sum
  | 0, _ => by simp [bnL]
  | k + 1, h => by
    rw [bnL_succ, List.length_append, List.length_replicate, bnL_len k (by omega), List.take_succ]
    rw [List.getElem?_eq_getElem (show k < v.length by omega), List.sum_append, List.getD_eq_getElem?_getD, List.getElem?_eq_getElem (show k < v.length by omega)]
    rfl
theorem fold_some {b : Nat} : ∀ {bs : List Nat}, (b :: bs).foldl (fun z b => opf f z (some b)) none = some (bs.foldl f b) := fun {bs} => by
  show bs.foldl (fun z b => opf f z (some b)) (some b) = _
  induction bs generalizing b with
  | nil => rfl
  | cons c bs ih => exact ih (b := f b c)
theorem fold_lt22 (hf : Good n f) : ∀ {bs : List Nat} {b : Nat}, b < n → (∀ z ∈ bs, z < n) → bs.foldl f b < n
  | [], b, hb, _ => hb
  | c :: bs, b, hb, h => fold_lt22 hf (bs := bs) (hf b c hb (h c (by simp))).1 fun z hz => h z (by simp [hz])
theorem wp_tail22 {x : D} {xs : List D} (h : QD (.lst xs) st) : wpX (slS false (.lst (x :: xs)) (some 1) none) env st QD X := by
  have e : slS false (.lst (x :: xs)) (some 1) none env st = some (.ok (.lst (cutD (x :: xs) (some 1) none)) st) := rfl
  rw [cut_tail] at e
  exact ⟨_, e, h⟩
theorem law_last22 (h8 : n ≤ 8) (hf : Good n f) (ha : ∀ a b c, a < n → b < n → c < n → f (f a b) c = f a (f b c)) {v : List Nat} (hv : v.length = n) (h0 : 1 ≤ v.sum) (h1 : v.sum ≤ 1000) : ∃ y, y < n ∧ prL f v = some y ∧ g__law_last_k22 [matD n f, .lst (ndL v)] st = some (.ok (dI y) st) := by
  have hlen := bnL_len (v := v) n (by omega)
  rw [List.take_of_length_le (by omega)] at hlen
  obtain ⟨e, hI⟩ := bnL_fold hf ha (v := v) n (Nat.le_refl n)
  obtain ⟨b, bs, hb⟩ : ∃ b bs, bnL v n = b :: bs := by
    cases hq : bnL v n with
    | nil => rw [hq] at hlen; simp at hlen; omega
    | cons b bs => exact ⟨b, bs, rfl⟩
  rw [hb, fold_some] at e hI
  refine ⟨bs.foldl f b, hI _ rfl, by unfold prL; rw [hv, ← e], wpG_eq ?_⟩
  (unfold g__law_last_k22); refine wp_exit ?_; (unfold b__law_last_k22); (simp only [Dl.startE, List.map_cons, List.map_nil, List.length_cons, List.length_nil, Nat.reduceAdd, Nat.reduceSub, List.replicate_succ, List.replicate_zero, List.cons_append, List.nil_append])
  row_has drun
  refine loopI (List.range n) dI rfl (fun i e s => s = st ∧ e = [some (matD n f), some (.lst (ndL v)), some (.lst (ndL (bnL v i))), none, none, none]) ⟨rfl, rfl⟩ (fun _ => trivial) (fun i a e s hi ⟨e1, e2⟩ => ?_) fun e s ⟨e1, e2⟩ => ?_
  · subst e1; subst e2
    obtain ⟨hin, hia⟩ := List.getElem?_eq_some_iff.mp hi
    rw [List.length_range] at hin
    rw [List.getElem_range] at hia
    subst hia
    have hv1 : v[i]? = some (v.getD i 0) := by rw [List.getD_eq_getElem?_getD, List.getElem?_eq_getElem (by omega)]; rfl
    have hv2 : v.getD i 0 ≤ 1000 := by
      have := mem_le_sum (List.mem_of_getElem? hv1)
      omega
    have hb2 := bnL_len (v := v) i (by omega)
    have hb3 : (v.take i).sum ≤ v.sum := by
      conv => rhs; rw [← List.take_append_drop i v, List.sum_append]
      omega
    refine ⟨_, _, rfl, ?_⟩
    dsimp only [List.set]
    row_has drun
    refine ixG (m := i) (xs := ndL v) rfl (by rw [ndL, List.getElem?_map, hv1]; rfl) ?_
    row_has drun
    refine wp_repF (k := v.getD i 0) (by omega) (by simp) ?_
    row_has drun
    have hb4 := bnL_len (v := v) (i + 1) (by omega)
    have hb5 : (v.take (i + 1)).sum ≤ v.sum := by
      conv => rhs; rw [← List.take_append_drop (i + 1) v, List.sum_append]
      omega
    rw [bnL_succ, List.length_append, List.length_replicate] at hb4
    have e9 : (List.replicate (v.getD i 0) [dI i]).flatten = ndL (List.replicate (v.getD i 0) i) := by simp [ndL]
    rw [e9]
    refine wp_catF (by rw [ndL, ndL, List.length_map, List.length_map, List.length_replicate]; omega) ?_
    rw [show ndL (bnL v i) ++ ndL (List.replicate (v.getD i 0) i) = ndL (bnL v (i + 1)) by rw [bnL_succ, ndL, ndL, ndL, List.map_append]]
    row_has drun
  · subst e1; subst e2
    rw [List.length_range, hb]
    row_has drun
    refine ixG (m := 0) (xs := ndL (b :: bs)) rfl rfl ?_
    row_has drun
    refine ⟨_, rfl, ?_⟩
    row_has drun
    refine wp_tail22 (x := dI b) (xs := ndL bs) ?_
    row_has drun
    have hall : ∀ z ∈ b :: bs, z < n := fun z hz => bnL_lt (by rw [hb]; exact hz)
    refine loopI bs dI rfl (fun j e s' => s' = s ∧ e = [some (matD n f), some (.lst (ndL v)), some (.lst (ndL (b :: bs))), none, some (dI ((bs.take j).foldl f b)), none]) ⟨rfl, rfl⟩ (fun _ => trivial) (fun j c e s' hj ⟨e1, e2⟩ => ?_) fun e s' ⟨e1, e2⟩ => ?_
    · subst e1; subst e2
      have hc : c < n := hall c (List.mem_cons_of_mem _ (List.mem_of_getElem? hj))
      have hlt : (bs.take j).foldl f b < n := fold_lt22 hf (hall b (by simp)) fun z hz => hall z (List.mem_cons_of_mem _ (List.mem_of_mem_take hz))
      have hnx : (bs.take (j + 1)).foldl f b = f ((bs.take j).foldl f b) c := by rw [List.take_succ, hj, List.foldl_append]; rfl
      refine ⟨_, _, rfl, ?_⟩
      dsimp only [List.set]
      generalize (bs.take j).foldl f b = w at hlt hnx ⊢
      row_has drun
      exact ⟨rfl, by rw [hnx]; rfl⟩
    · subst e1; subst e2
      rw [List.take_length]
      row_has drun
end
end BJ
end
local macro_rules | `(tactic| row_has drun) => `(tactic| repeat (first | row_has drunC0 | row_has drunC1 | row_has drunC2 | row_has drunC3 | row_has drunC5 | row_has drunC6 | row_has drunC7))
section
set_option Elab.async false
set_option linter.all false
set_option maxRecDepth 100000
set_option autoImplicit false
set_option maxHeartbeats 0
namespace BJ
open PySem Dl
section
variable {env : En} {st r : Sto} {QD : D → Sto → Prop} {Q : Out → Prop} {X : XQ} {p x : D} {n : Nat} {f : Nat → Nat → Nat}
/-! ### powers -/
noncomputable def pwN (f : Nat → Nat → Nat) (x : Nat) : Nat → Nat
  | 0 => x
  | k + 1 => f (pwN f x k) x
theorem pwN_lt (hf : Good n f) {x : Nat} (hx : x < n) : ∀ k, pwN f x k < n
  | 0 => hx
  | k + 1 => (hf _ _ (pwN_lt hf hx k) hx).1
theorem mp_pwN {x : Nat} : ∀ k, mp f x (k + 1) = some (pwN f x k)
  | 0 => rfl
  | k + 1 => by
    show opf f (mp f x (k + 1)) (some x) = _
    rw [mp_pwN k]
    rfl
theorem pw_per {x m j : Nat} (h : pwN f x (m + 1) = pwN f x j) : ∀ t, pwN f x (m + 1 + t) = pwN f x (j + t)
  | 0 => h
  | t + 1 => by
    show f (pwN f x (m + 1 + t)) x = f (pwN f x (j + t)) x
    rw [pw_per h t]
theorem pw_mod {x m j : Nat} (hj : j ≤ m) (h : pwN f x (m + 1) = pwN f x j) : ∀ (q r : Nat), pwN f x (j + r + q * (m + 1 - j)) = pwN f x (j + r)
  | 0, r => by simp
  | q + 1, r => by
    have e : j + r + (q + 1) * (m + 1 - j) = m + 1 + (r + q * (m + 1 - j)) := by
      rw [Nat.add_mul, Nat.one_mul]
      omega
    rw [e, pw_per h, ← pw_mod hj h q r]
    congr 1
    omega
noncomputable def pwL (f : Nat → Nat → Nat) (x m : Nat) : List Nat := (List.range (m + 1)).map (pwN f x)
theorem pwL_nd_len (hf : Good n f) {x m : Nat} (hx : x < n) (h : (pwL f x m).Nodup) : m + 1 ≤ n := by
  have := List.Nodup.length_le_of_subset (l₁ := pwL f x m) (l₂ := List.range n) h fun y hy => by
    obtain ⟨k, _, rfl⟩ := List.mem_map.mp hy
    exact List.mem_range.mpr (pwN_lt hf hx k)
  simpa [pwL] using this
theorem in_look {y : D} {xs : List D} {neg : Bool} (hy : look st y = some (.lst xs)) (h : wpX (gIn neg x (.lst xs)) env st QD X) : wpX (gIn neg x y) env st QD X := by
  have e1 : inS neg st x y = inS neg st x (.lst xs) := by
    unfold inS
    rw [hy]
    rfl
  have e : gIn neg x y env st = gIn neg x (.lst xs) env st := by simp only [gIn, fP, e1]
  unfold wpX at h ⊢
  rw [e]
  exact h
theorem pwL_snoc {x m : Nat} : pwL f x (m + 1) = pwL f x m ++ [pwN f x (m + 1)] := by
  unfold pwL
  rw [List.range_succ, List.map_append]
  rfl
theorem ixOf_nat {y : Nat} : ∀ {xs : List Nat}, y ∈ xs → ∃ j, ixOf (y : Int) (xs.map fun (z : Nat) => (z : Int)) = some j ∧ xs[j]? = some y
  | [], h => by simp at h
  | z :: xs, h => by
    by_cases e : z = y
    · subst e
      exact ⟨0, by simp [ixOf], rfl⟩
    · have hm : y ∈ xs := by
        rcases List.mem_cons.mp h with h | h
        · exact absurd h.symm e
        · exact h
      obtain ⟨j, h1, h2⟩ := ixOf_nat hm
      have e' : ¬ (z : Int) = (y : Int) := by omega
      exact ⟨j + 1, by rw [List.map_cons, ixOf, if_neg e', h1]; rfl, by simpa using h2⟩
theorem closed_ndL {k : Nat} {xs : List Nat} : closeds k (ndL xs) = true := closeds_iff.mpr fun x hx => by
  obtain ⟨w, _, rfl⟩ := List.mem_map.mp hx
  rfl
theorem wp_powers {x : Nat} (h8 : n ≤ 8) (hf : Good n f) (hp : trp n f = []) (hx : x < n) (h : ∀ m j, j ≤ m → m < n → (pwL f x m).Nodup → pwN f x (m + 1) = pwN f x j → QD (.tup [.lst (ndL (pwL f x m)), dI (j + 1)]) st) : wpG g_powers_k22 [tabD n f, dI x] st QD X := by
  (unfold g_powers_k22); refine wp_exitI ?_; (unfold b_powers_k22); (simp only [Dl.startE, List.map_cons, List.map_nil, List.length_cons, List.length_nil, Nat.reduceAdd, Nat.reduceSub, List.replicate_succ, List.replicate_zero, List.cons_append, List.nil_append])
  row_has drun
  (refine wpG_ok (passes_t h8 hf hp) ?_)
  row_has drun
  (refine wpG_ok (validate_ok hx) ?_)
  row_has drun
  refine wp_whileW (fun μ e s => ∃ k o, μ = n - k ∧ (pwL f x k).Nodup ∧ s = st ++ [.lst (ndL (pwL f x k))] ∧ e = [some (tabD n f), some (dI x), some (.obj st.length), o]) n ⟨0, none, by omega, by simp [pwL], rfl, rfl⟩ fun μ e s ⟨k, o, hμ, hnd, e1, e2⟩ => ?_
  subst e1; subst e2
  have hk := pwL_nd_len hf hx hnd
  have hlt := pwN_lt hf hx k
  row_has drun
  have hs : ndL (pwL f x k) = ndL ((List.range k).map (pwN f x)) ++ [dI (pwN f x k)] := by
    rw [show pwL f x k = (List.range k).map (pwN f x) ++ [pwN f x k] by unfold pwL; rw [List.range_succ, List.map_append]; rfl]
    simp [ndL]
  have hit : items (st ++ [.lst (ndL (pwL f x k))]) (.obj st.length) = some (ndL ((List.range k).map (pwN f x)) ++ [dI (pwN f x k)]) := by
    rw [← hs]
    exact items_obj (by simp)
  refine ix_last hit ?_
  row_has drun
  (refine wpG_ok (getitem_ok hlt hx) ?_)
  rw [show f (pwN f x k) x = pwN f x (k + 1) from rfl]
  row_has drun
  refine in_look (xs := ndL (pwL f x k)) (by simp [look]) ?_
  row_has drun
  by_cases hm : pwN f x (k + 1) ∈ pwL f x k
  · refine ⟨false, by simp [hm], ?_⟩
    rw [if_neg Bool.false_ne_true]
    dsimp only [List.set]
    row_has drun
    obtain ⟨j, hj1, hj2⟩ := ixOf_nat hm
    have hit2 : items (st ++ [.lst (ndL (pwL f x k))]) (.obj st.length) = some (((pwL f x k).map fun (z : Nat) => (z : Int)).map .int) := by
      rw [show ((pwL f x k).map fun (z : Nat) => (z : Int)).map D.int = ndL (pwL f x k) by simp [ndL]]
      exact items_obj (by simp)
    refine wp_index ?_
    row_has drun
    refine ⟨_, _, j, hit2, hit2, rfl, hj1, ?_⟩
    row_has drun
    have hjk : j ≤ k := by
      have := (List.getElem?_eq_some_iff.mp hj2).1
      simp [pwL] at this
      omega
    refine ⟨.ok (.tup [.lst (ndL (pwL f x k)), dI (j + 1)]) st, fzR_app Old.rfl' (by simp [fzD, subs, D.sub, D.closed, closed_ndL]), h k j hjk (by omega) hnd ?_⟩
    have : (pwL f x k)[j]? = some (pwN f x j) := by
      simp only [pwL, List.getElem?_map]
      rw [List.getElem?_range (by omega)]
      rfl
    rw [this] at hj2
    exact (Option.some.inj hj2).symm
  · refine ⟨true, by simp [hm], ?_⟩
    rw [if_pos rfl]
    dsimp only [List.set]
    row_has drun
    refine lm_app (post := []) (by simp [ndL, pwL]; omega) ?_
    row_has drun
    refine ⟨n - (k + 1), by omega, k + 1, _, rfl, ?_, ?_, rfl⟩
    · rw [pwL_snoc, List.nodup_append]
      exact ⟨hnd, by simp, fun a ha b hb => by simp at hb; subst hb; exact fun e => hm (e ▸ ha)⟩
    · rw [pwL_snoc]
      simp [ndL]
theorem mp_map {α β : Type} {m : α → α → α} {g : β → β → β} (h : α → β) (hh : ∀ a b, h (m a b) = g (h a) (h b)) (x : α) : ∀ k, (mp m x k).map h = mp g (h x) k
  | 0 => rfl
  | k + 1 => by
    show (opf m (mp m x k) (some x)).map h = opf g (mp g (h x) k) (some (h x))
    rw [opf_map h hh, mp_map h hh x k]
    rfl
theorem ten30 : ∃ z : Nat, (10 : Int) ^ (30 : Int).toNat = (z : Int) ∧ 0 < z ∧ (z : Int).natAbs.log2 < 9000 := by
  refine ⟨10 ^ 30, by decide +kernel, by decide +kernel, ?_⟩
  rw [Int.natAbs_natCast]
  decide +kernel
theorem Jar_mulB {k : Nat} {c : Nat → Nat} (h1 : 1 ≤ n) (h8 : n ≤ 8) (hc : ∀ i, i < n → c i < 2 ^ 64) : g_Jar_mul [jarD n c, dI k] st = some (.ok (jarD n fun i => c i * k) st) := by
  refine wpG_eq ?_
  (unfold g_Jar_mul); refine wp_exit ?_; (unfold b_Jar_mul); (simp only [Dl.startE, List.map_cons, List.map_nil, List.length_cons, List.length_nil, Nat.reduceAdd, Nat.reduceSub, List.replicate_succ, List.replicate_zero, List.cons_append, List.nil_append])
  row_has drun
  (refine lcA (List.range n) (fun i => dI (c i)) (fun i => dI (c i * k)) ?hi_1 ?ok_1 ?hl_1 (fun i hi => ?_) ?_; (case hi_1 => first | rfl | exact (List.map_id _).symm | (simp; done)); (case ok_1 => first | trivial | exact fun _ => trivial | assumption); (case hl_1 => first | (simp; done) | (simp; omega) | omega))
  · have hi := List.mem_range.mp hi
    refine ⟨_, rfl, ?_⟩
    dsimp only [List.set, wipeE]
    row_has drun
    refine wp_mulN (.inl (hc i hi)) ?_
    row_has drun
  · row_has drun
    try refine wp_ok (mk_Jar (n := n) (c := fun i => c i * k) rfl h1 h8) ?_
    try row_has drun
theorem tot_pos {c : Nat → Nat} {v : Nat} (hv : v < n) (h : 0 < c v) : 0 < tot n c := by
  refine Classical.byContradiction fun hn => ?_
  have h2 : tot n (fun _ => 0) < tot n c := tot_lt (fun i _ => Nat.zero_le _) hv h
  omega
theorem bpw_mpN (hf : Good n f) (ha : ∀ a b c, a < n → b < n → c < n → f (f a b) c = f a (f b c)) {y : Nat} (hy : y < n) (k : Nat) : bpw f none y k = mp f y k := by
  have ac := ac_of hf ha
  have h1 := bpw_map (m := fsub hf) (g := f) Fin.val (fun a b => rfl) k none ⟨y, hy⟩
  have h2 := mp_map (m := fsub hf) (g := f) Fin.val (fun a b => rfl) ⟨y, hy⟩ k
  have h3 := ac.bpw_mp k none ⟨y, hy⟩
  rw [h3] at h1
  rw [← h2]
  rw [show opf (fsub hf) none (mp (fsub hf) ⟨y, hy⟩ k) = mp (fsub hf) ⟨y, hy⟩ k from rfl] at h1
  exact h1.symm
theorem last_many (hf : Good n f) (ha : ∀ a b c, a < n → b < n → c < n → f (f a b) c = f a (f b c)) {w : Nat} (hw : w < n) (k : Nat) : lastO n f (fun i => cnt [w] i * k) = mp f w k := by
  rw [lastO_fold, ← foldl_cols _ (fun i => decide (i = w)) fun i hi => ?_, filter_one hw fun j _ => by simp]
  · show opf f none (bpw f none w (cnt [w] w * k)) = _
    rw [show cnt [w] w = 1 by rw [cnt1]; simp, Nat.one_mul, bpw_mpN hf ha hw]
    rfl
  · have : ¬ w = i := fun e => by simp [e] at hi
    rw [cnt1, if_neg this, Nat.zero_mul, bpw_zero]
theorem pwL_len {x m : Nat} : (pwL f x m).length = m + 1 := by simp [pwL]
theorem pwL_get {x m k : Nat} (h : k ≤ m) : (pwL f x m)[k]? = some (pwN f x k) := by
  simp only [pwL, List.getElem?_map]
  rw [List.getElem?_range (by omega)]
  rfl
/-- the first k of them -/
noncomputable def pwT (f : Nat → Nat → Nat) (x k : Nat) : List Nat := (List.range k).map (pwN f x)
theorem pwT_notin {x m k : Nat} (hn : (pwL f x m).Nodup) (hk : k ≤ m) : pwN f x k ∉ pwT f x k := fun h => by
  obtain ⟨i, hi, e⟩ := List.mem_map.mp h
  have hi := List.mem_range.mp hi
  have h1 := pwL_get (f := f) (x := x) (m := m) (k := i) (by omega)
  have h2 := pwL_get (f := f) (x := x) (m := m) (k := k) hk
  rw [e] at h1
  have := (List.getElem?_inj (by rw [pwL_len]; omega) hn).mp (h1.trans h2.symm)
  omega
theorem pwT_snoc {x k : Nat} : pwT f x (k + 1) = pwT f x k ++ [pwN f x k] := by
  unfold pwT
  rw [List.range_succ, List.map_append]
  rfl
theorem ixOf_pw {x m j : Nat} (hn : (pwL f x m).Nodup) (hj : j ≤ m) : ixOf (pwN f x j : Int) ((pwL f x m).map fun (z : Nat) => (z : Int)) = some j := by
  refine ixOf_at (by rw [List.getElem?_map, pwL_get hj]; rfl) fun i hi e => ?_
  rw [List.getElem?_map, pwL_get (by omega)] at e
  have e : pwN f x i = pwN f x j := by
    have : ((pwN f x i : Nat) : Int) = (pwN f x j : Nat) := Option.some.inj e
    omega
  have h1 := pwL_get (f := f) (x := x) (m := m) (k := i) (by omega)
  have h2 := pwL_get (f := f) (x := x) (m := m) (k := j) hj
  rw [e] at h1
  have := (List.getElem?_inj (by rw [pwL_len]; omega) hn).mp (h1.trans h2.symm)
  omega
theorem wp_neLook22 {y : D} {A : List Nat} (e : look st y = some (.lst (ndL A))) (h : QD (.bl false) st) : wpX (gNe (.lst (ndL A)) y) env st QD X := by
  have hx : Pl (.lst (ndL A)) := pl_of (.lst' (PlA.map fun _ => .int))
  have h1 := eqS_pl (neg := true) (st := st) hx hx
  refine wp_P (a := .bl false) ?_ h
  show eqS true st (.lst (ndL A)) y = _
  unfold eqS at h1 ⊢
  rw [e]
  rw [look_self hx.noObj] at h1 ⊢
  rw [h1]
  simp
theorem wp_check_pw {p0 : D} (hp : IsPool p0) (h1 : 1 ≤ n) (h8 : n ≤ 8) (hf : Good n f) (ht : trp n f = []) (hr : closeds (r.length + 1) r = true) (h : ∀ p, IsPool p → QD (.bl true) (p :: r)) : wpG g__law_check_powers_k22 [.obj 0, tabD n f, matD n f, dI n] (p0 :: r) QD X := by
  have ha := asc_of ht
  (unfold g__law_check_powers_k22); refine wp_exit ?_; (unfold b__law_check_powers_k22); (simp only [Dl.startE, List.map_cons, List.map_nil, List.length_cons, List.length_nil, Nat.reduceAdd, Nat.reduceSub, List.replicate_succ, List.replicate_zero, List.cons_append, List.nil_append])
  row_has drun
  refine loopI (List.range n) dI rfl (fun i e s => ∃ p, IsPool p ∧ s = p :: r ∧ e = [some (.obj 0), some (tabD n f), some (matD n f), some (dI n), none, none, none, none, none, none, none]) ⟨p0, hp, rfl, rfl⟩ (fun _ => trivial) (fun i x e s hi ⟨p, hp, e1, e2⟩ => ?_) fun e s ⟨p, hp, e1, e2⟩ => ?_
  · subst e1; subst e2
    have hx : x < n := List.mem_range.mp (List.mem_of_getElem? hi)
    refine ⟨_, _, rfl, ?_⟩
    dsimp only [List.set]
    row_has drun
    refine wp_powers h8 hf ht hx fun m j hj hm hnd he => ?_
    row_has drun
    refine while_inv (fun k e s => ∃ i, k + i = m + 1 ∧ s = (p :: r) ++ [.lst (ndL (pwT f x i))] ∧ e = [some (.obj 0), some (tabD n f), some (matD n f), some (dI n), some (dI x), some (.lst (ndL (pwL f x m))), some (dI (j + 1)), some (.obj (r.length + 1)), some (dI (pwN f x i)), none, none]) (n := m + 1) ⟨0, rfl, rfl, rfl⟩ fun k e s ⟨i, hki, e1, e2⟩ => ?_
    subst e1; subst e2
    row_has drun
    refine in_look (xs := ndL (pwT f x i)) (by simp [look]) ?_
    row_has drun
    have gA : ∀ (p : D) (A : List Nat), (p :: (r ++ [D.lst (ndL A)]))[r.length + 1]? = some (.lst (ndL A)) := fun p A => by
      rw [← List.cons_append, List.getElem?_append_right (by simp)]; simp
    refine ⟨fun hb => ?_, fun hb => ?_⟩
    · have hb : pwN f x i ∉ pwT f x i := by simpa using hb
      have him : i ≤ m := Classical.byContradiction fun hno => hb (by
        have e1 : i = m + 1 := by omega
        rw [e1, he]
        exact List.mem_map.mpr ⟨j, List.mem_range.mpr (by omega), rfl⟩)
      have hlt := pwN_lt hf hx i
      row_has drun
      refine ⟨by simp only [List.cons_append, isL, gA], ?_⟩
      row_has drun
      refine lm_app (pre := p :: r) (post := []) (xs := ndL (pwT f x i)) (by simp [ndL, pwT]; omega) ?_
      row_has drun
      exact ⟨k - 1, by omega, i + 1, by omega, by rw [pwT_snoc]; simp [ndL], rfl⟩
    · have hb : pwN f x i ∈ pwT f x i := by simpa using hb
      have him : i = m + 1 := Classical.byContradiction fun hno => pwT_notin hnd (show i ≤ m by omega) hb
      subst him
      rw [show pwT f x (m + 1) = pwL f x m from rfl]
      row_has drun
      rw [List.cons_append]
      row_has drun
      refine wp_neLook22 (A := pwL f x m) (by simp only [look, gA]) ?_
      row_has drun
      have hit2 : ∀ p, items (p :: (r ++ [.lst (ndL (pwL f x m))])) (.obj (r.length + 1)) = some (((pwL f x m).map fun (z : Nat) => (z : Int)).map .int) := fun p => by
        rw [show ((pwL f x m).map fun (z : Nat) => (z : Int)).map D.int = ndL (pwL f x m) by simp [ndL]]
        exact items_obj (gA p _)
      refine wp_index ?_
      row_has drun
      refine ⟨_, _, j, hit2 p, hit2 p, rfl, by rw [he]; exact ixOf_pw hnd hj, ?_⟩
      row_has drun
      refine wp_len (items_obj (gA p _)) ?_
      row_has drun
      rw [show (ndL (pwL f x m)).length = m + 1 by simp [ndL, pwL]]
      refine wp_pow (pow_small (by decide) (by decide) (by decide) (by decide)) ?_
      obtain ⟨z, hz, hz0, hzl⟩ := ten30
      rw [hz]
      clear hz
      row_has drun
      refine wp_drawB hp (by omega) hzl fun w p hp hw => ?_
      clear hzl hw hz0 z
      row_has drun
      refine wp_len (items_obj (gA p _)) ?_
      rw [show (ndL (pwL f x m)).length = m + 1 by simp [ndL, pwL]]
      row_has drun
      obtain ⟨P, hP⟩ : ∃ P, P = m + 1 - j := ⟨_, rfl⟩
      rw [show m + 1 + 1 + w - (j + 1) = m + 1 + w - j by omega, show m + 1 - (j + 1) + 1 = P by omega]
      have hP0 : 0 < P := by omega
      rw [show j + 1 - 1 = j by omega]
      have hpl : j + (m + 1 + w - j) % P ≤ m := by
        have := Nat.mod_lt (m + 1 + w - j) hP0
        omega
      refine wpG_ok (of_beans_ok (bs := [x]) (.inl rfl) h1 h8 (fun b hb => by simp at hb; omega)) ?_
      row_has drun
      refine wpG_ok (Jar_mulB h1 h8 (fun i hi => by rw [cnt1]; split <;> decide)) ?_
      row_has drun
      have hl := last_many hf ha hx (m + 1 + 1 + w)
      have hmp : mp f x (m + 1 + 1 + w) = some (pwN f x (j + (m + 1 + w - j) % P)) := by
        rw [show m + 1 + 1 + w = (m + 1 + w) + 1 by omega, mp_pwN]
        have hd := Nat.div_add_mod (m + 1 + w - j) P
        have := pw_mod hj he ((m + 1 + w - j) / P) ((m + 1 + w - j) % P)
        rw [← hP, Nat.mul_comm] at this
        rw [← this]
        congr 2
        omega
      rw [hmp] at hl
      refine wpG_ok (last_bean_ok h8 hf ht (tot_pos hx (Nat.mul_pos (by rw [cnt1]; simp) (by omega)))) ?_
      rw [hl]
      dsimp only [optD]
      row_has drun
      refine ixG (m := j + (m + 1 + w - j) % P) (items_obj (gA p _)) (by rw [ndL, List.getElem?_map, pwL_get hpl]; rfl) ?_
      row_has drun
      refine cut_nxA (st := p :: r) (s2 := [.lst (ndL (pwL f x m))]) rfl (by simp [closeds, hr, pool_closed hp]) (by simp [closedE, wipeE, closed_tab, closed_mat, D.closed]) ?_
      exact ⟨p, hp, rfl, rfl⟩
  · subst e1; subst e2
    row_has drun
    exact h p hp
end
end BJ
end
local macro_rules | `(tactic| row_has drun) => `(tactic| repeat (first | row_has drunC0 | row_has drunC1 | row_has drunC2 | row_has drunC3 | row_has drunC4 | row_has drunC5 | row_has drunC6 | row_has drunC7))
section
set_option Elab.async false
set_option linter.all false
set_option maxRecDepth 100000
set_option autoImplicit false
set_option maxHeartbeats 0
namespace BJ
open PySem Dl
section
variable {env : En} {st r : Sto} {QD : D → Sto → Prop} {Q : Out → Prop} {X : XQ} {p x : D} {n : Nat} {f : Nat → Nat → Nat}
noncomputable def chN (a b k : Nat) : Nat := (List.range k).foldl (fun z i => z * (a - b + (i + 1)) / (i + 1)) 1
theorem chN_succ {a b k : Nat} : chN a b (k + 1) = chN a b k * (a - b + (k + 1)) / (k + 1) := by
  unfold chN
  rw [List.range_succ, List.foldl_append]
  rfl
theorem ch_small : ∀ n ∈ List.range 6, 1 ≤ n → chN (40 + n - 1) (n - 1) (n - 1) = pc n 40 := by
  have : ∀ n ∈ List.range 6, 1 ≤ n → chN (40 + n - 1) (n - 1) (n - 1) = (pcR n).getD 39 0 := by decide +kernel
  intro n h1 h2
  rw [pc_40]
  exact this n h1 h2
theorem choices_ok {a b : Nat} (hb : b ≤ 4) (hab : b ≤ a) (ha : a ≤ 100) : g__law_choices_k22 [dI a, dI b] st = some (.ok (dI (chN a b b)) st) := by
  refine wpG_eq ?_
  (unfold g__law_choices_k22); refine wp_exit ?_; (unfold b__law_choices_k22); (simp only [Dl.startE, List.map_cons, List.map_nil, List.length_cons, List.length_nil, Nat.reduceAdd, Nat.reduceSub, List.replicate_succ, List.replicate_zero, List.cons_append, List.nil_append])
  row_has drun
  rw [show b + 1 - 1 = b by omega]
  refine loopI (List.range b) (fun i => dI (1 + i)) rfl (fun j e s => s = st ∧ e = [some (dI a), some (dI b), some (dI (chN a b j)), none]) ⟨rfl, rfl⟩ (fun _ => trivial) (fun i a' e s hi ⟨e1, e2⟩ => ?_) fun e s ⟨e1, e2⟩ => ?_
  · subst e1; subst e2
    obtain ⟨hin, hia⟩ := List.getElem?_eq_some_iff.mp hi
    rw [List.length_range] at hin
    rw [List.getElem_range] at hia
    subst hia
    have hc := chN_succ (a := a) (b := b) (k := i)
    generalize chN a b i = z at hc ⊢
    refine ⟨_, _, rfl, ?_⟩
    dsimp only [List.set]
    row_has drun
    exact ⟨rfl, by rw [hc, show i + 1 = 1 + i by omega]; rfl⟩
  · subst e1; subst e2
    rw [List.length_range]
    row_has drun
theorem k22_law (ns : List Int) (hns : ns.length ≤ 63) : wpG g_law_k22 [.lstR (ns.map .int)] [] (fun d s => d = .bl true) NX := by
  (unfold g_law_k22); refine wp_exit ?_; (unfold b_law_k22); (simp only [Dl.startE, List.map_cons, List.map_nil, List.length_cons, List.length_nil, Nat.reduceAdd, Nat.reduceSub, List.replicate_succ, List.replicate_zero, List.cons_append, List.nil_append])
  row_has drun
  refine wp_len items_lstR ?_
  row_has drun
  (apply loopK; (case hi => first | rfl | exact (List.map_id _).symm | (simp; done)); (case hok => first | trivial | exact fun _ => trivial | assumption)); refine fun k hk => ⟨_, rfl, ?_⟩; (try dsimp only [Dl.wipeE, List.set])
  · have hk := List.mem_range.mp hk
    have hk : k < 64 := Nat.lt_of_lt_of_le hk (by rw [List.length_map]; show max 1 (min ns.length 6) ≤ 64; omega)
    row_has drun
    refine wp_pool (by omega) fun p hp => ?_
    row_has drun
    (refine wp_draw hp (by first | decide | omega) (by first | decide | omega) fun v p hp hv => ?_)
    row_has drun
    obtain ⟨n, hn⟩ : ∃ n, n = 1 + v := ⟨_, rfl⟩
    rw [← hn]
    have h1 : 1 ≤ n := by omega
    have h5 : n ≤ 5 := by omega
    have h8 : n ≤ 8 := by omega
    clear hn hv
    refine wp_rows22 hp rfl h1 h5 fun f p hp hf ht => ?_
    row_has drun
    obtain ⟨L, hL0, hL, hL1⟩ : ∃ L, [D.int 12, D.int 8, D.int 8, D.int 6, D.int 5][n - 1]? = some (dI L) ∧ L = lm22 n ∧ 1 ≤ L ∧ L ≤ 12 := by
      have : n = 1 ∨ n = 2 ∨ n = 3 ∨ n = 4 ∨ n = 5 := by omega
      rcases this with rfl | rfl | rfl | rfl | rfl <;> exact ⟨_, rfl, rfl, by decide, by decide⟩
    refine ixG (m := n - 1) rfl hL0 ?_
    clear hL0
    row_has drun
    (refine wp_draw hp (by first | decide | omega) (by first | decide | omega) fun w p hp hw => ?_)
    row_has drun
    obtain ⟨T, hT⟩ : ∃ T, T = 1 + w := ⟨_, rfl⟩
    rw [← hT]
    have hT1 : 1 ≤ T := by omega
    have hT2 : T ≤ lm22 n := by omega
    have hT3 : T ≤ 12 := by omega
    clear hT hw hL1 hL
    refine wp_repT (by omega) ?_
    rw [show List.replicate n (D.int 0) = cntL n fun _ => 0 by simp [cntL, List.map_const']]
    row_has drun
    (refine wpG_ok (law_jars22 h8 (by omega) (jl_22 h1 h5 hT2)) ?_)
    row_has drun
    have ha := asc_of ht
    refine loopI (jrsK n T) (fun k => .lst (ndL k)) rfl (fun j e s => s = [p, .lst (cntL n fun x => (((jrsK n T).take j).filter fun v => decide (prL f v = some x)).length)] ∧ e = [some (.lstR (ns.map .int)), some (dI k), some (.obj 0), some (dI n), some (matD n f), some (tabD n f), some (dI T), some (.obj 1), none, none]) ⟨rfl, rfl⟩ (fun _ => trivial) (fun j u e s hj ⟨e1, e2⟩ => ?_) fun e s ⟨e1, e2⟩ => ?_
    · subst e1; subst e2
      obtain ⟨hu1, hu2⟩ := jrs_ok (List.mem_of_getElem? hj)
      have hnx : ∀ x, (((jrsK n T).take (j + 1)).filter fun v => decide (prL f v = some x)).length = (((jrsK n T).take j).filter fun v => decide (prL f v = some x)).length + if prL f u = some x then 1 else 0 := fun x => by
        rw [List.take_succ, hj, List.filter_append, List.length_append, Option.toList_some, List.filter_cons]
        by_cases h : prL f u = some x
        · rw [if_pos (decide_eq_true h), if_pos h]; rfl
        · rw [if_neg (by simpa using h), if_neg h]; rfl
      generalize hC : (fun x => (((jrsK n T).take j).filter fun v => decide (prL f v = some x)).length) = C
      obtain ⟨y, hy, hpy, e3⟩ := law_last22 (st := [p, .lst (cntL n C)]) h8 hf ha hu1 (by omega) (by omega)
      refine ⟨_, _, rfl, ?_⟩
      dsimp only [List.set]
      row_has drun
      refine wpG_ok e3 ?_
      row_has drun
      refine ixG (m := y) (xs := cntL n C) rfl (cntL_get hy) ?_
      row_has drun
      have hset : setS (.obj 1) (dI y) (dI (C y + 1)) [p, .lst (cntL n C)] = some [p, .lst (cntL n fun j => if j = y then C y + 1 else C j)] := setO (st := [p]) (c := C) (v := C y + 1) hy
      refine ⟨_, hset, ?_⟩
      row_has drun
      refine ⟨?_, rfl⟩
      rw [show (fun j => if j = y then C y + 1 else C j) = fun x => (((jrsK n T).take (j + 1)).filter fun v => decide (prL f v = some x)).length by
        funext x
        have hCx : (((jrsK n T).take j).filter fun v => decide (prL f v = some x)).length = C x := congrFun hC x
        rw [hnx x, hCx, hpy]
        by_cases e : x = y
        · rw [e, if_pos rfl, if_pos rfl]
        · rw [if_neg e, if_neg fun z => e (Option.some.inj z).symm, Nat.add_zero]]
    · subst e1; subst e2
      rw [List.take_length]
      row_has drun
      (refine wpG_ok (count_jars_ok h8 hf ht hT1 (by omega)) ?_)
      row_has drun
      have eD : (List.range n).map (fun x => dI (getA (T, some x) (cjA f T n))) = ndL ((List.range n).map fun x => ((jrsK n T).filter fun v => decide (prL f v = some x)).length) := by
        rw [ndL, List.map_map]
        refine List.map_congr_left fun x _ => ?_
        rw [getA_jrs hf]
        rfl
      rw [eD]
      refine wp_neLook22 (A := (List.range n).map fun x => ((jrsK n T).filter fun v => decide (prL f v = some x)).length) (by simp [look, cntL, ndL]) ?_
      row_has drun
      generalize (fun x => ((jrsK n T).filter fun v => decide (prL f v = some x)).length) = C
      refine wp_check_pw (r := [.lst (cntL n C)]) hp h1 h8 hf ht (by simp [closeds, D.closed, closed_cntL]) fun p hp => ?_
      row_has drun
      refine if_dec (fun hk2 => ?_) fun hk2 => ?_
      · row_has drun
        (refine wpG_ok (count_jars_ok h8 hf ht (by decide) (Nat.le_refl 40)) ?_)
        row_has drun
        (refine wpG_ok (choices_ok (a := 40 + n - 1) (b := n - 1) (by omega) (by omega) (by omega)) ?_)
        rw [all_sum hf (by decide), ch_small n (List.mem_range.mpr (by omega)) h1]
        row_has drun
        refine cut_nx0 rfl (by simp [wipeE, closedE, D.closed, closeds, closeds_ints]) ?_
        exact ⟨rfl, rfl⟩
      · row_has drun
        refine cut_nx0 rfl (by simp [wipeE, closedE, D.closed, closeds, closeds_ints]) ?_
        exact ⟨rfl, rfl⟩
  · row_has drun
    rfl
end
end BJ
namespace K22
theorem law_ok (ns : List Int) (hns : ns.length ≤ 63) (_ : ∀ z ∈ ns, PySem.Builtin.Int.intBits z ≤ 1048576) : ∃ st, BJ.g_law_k22 [.lstR (ns.map .int)] [] = some (.ok (.bl true) st) := by
  obtain ⟨r, e, p⟩ := BJ.k22_law ns hns
  cases r with
  | ok d s => exact ⟨s, by rw [e]; cases p; rfl⟩
  | ex c ns ds s => exact p.elim
end K22
end
end
theorem PySem.Challenge.cw_beanjars_k22_powers_and_counts_holds : PySem.Challenge.rw_beanjars_k22_powers_and_counts.Holds :=
  K22.pre K22.law_ok
#print axioms PySem.Challenge.cw_beanjars_k22_powers_and_counts_holds
