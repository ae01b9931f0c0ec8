import PyProof.Rows.All
import Wide.All
import OpenK.AllK
import Wide.FinOn
import HandS.ForMost
import HandS.ForExc
import HandS.Wide
import HandS.IsInst
import HandS.Property
import HandS.Defaults
import HandS.More
import HandS.Walk
import HandS.FStr
import HandS.Flow
import HandS.Star
import HandS.Style
import HandS.TupMul
import KE.KStateDown
import HandS.Ends
import HandS.Words
import HandS.WordsExc
import HandS.Head0
import HandS.Head1
import HandS.Head2
import HandS.HeadEnd
import HandS.HeadHook1
import HandS.HeadHook2
import HandS.Zip
import KE.GoesMore
import KE.GoesEnum
import HandS.SlotsOwn
import HandS.EndBits
import HandS.ExcInit
import HandS.ExcField
import HandS.ExcIs
import KE.KExcInit
import PyProof.ReprRoads
import KE.KOpsOwn
import KE.KCallOwn
import HandS.Deep
import HandS.TupLe
import HandS.HotCalls
import HandS.MakeKw
import PyProof.InstNe
import KE.KDictZip
import KE.KItemsList
import HandS.ListItems
import HandS.TupAny
import KE.GoesZip
import HandS.ListEq
import KE.KEqNest
import PyProof.EqLayable
import PySem.Challenge.RW_rainvalleys_k12_invalid_profiles
set_option Elab.async false
set_option linter.all false
set_option maxRecDepth 100000
set_option maxHeartbeats 0
/-! R3z: promises of defs where no repr is under way. -/
namespace R3
open PySem PySem.Spec PyProof.Rows L2
/-- room for a call, and no guard stands -/
structure Room (k : Nat) (A : Around) : Prop extends L2.Room k A where
  gd : A.guards = some []
theorem Room.mono {j k : Nat} {A : Around} (r : Room k A) (h : j ≤ k) : Room j A := ⟨r.toRoom.mono h, r.gd⟩
theorem Room.deeper {k : Nat} {A : Around} (r : Room (k + 1) A) (env : PySem.Env) : Room k (A.deeper env) := ⟨r.toRoom.deeper env, r.gd⟩
theorem Room.in1 {k : Nat} {A : Around} (r : Room (k + 1) A) : Room k A.in1 := ⟨r.toRoom.in1, r.gd⟩
theorem Room.make {k : Nat} {A : Around} (r : Room (k + 1) A) (C : Addr) (us : List Value) (kw : List (Str × Value)) : Room k (A.under (.builtin "type.__call__" ⟨.ref C :: us, kw⟩)) :=
  ⟨r.toRoom.make C us kw, by
    obtain ⟨hd, d, fr, gs, u⟩ := A
    have e : gs = some [] := r.gd
    subst e
    first | rfl | (unfold Around.under; rfl) | simp [Around.under, pushGuards, Code.guards, Code.isGuard]⟩
theorem Room.depth {k : Nat} {A : Around} (r : Room k A) : A.depth < recursionLimit := r.toRoom.depth
theorem Room.units {k : Nat} {A : Around} (r : Room k A) : A.units + 64 < cLine := r.toRoom.units
theorem Room.units0 {k : Nat} {A : Around} (r : Room k A) : A.units < cLine := r.toRoom.units0
/-- a def's promise by positional values -/
def FnR (P : Program) (w : World) (K : PySem.W.Frag) (mg : Str → Option Value) (base : Heap) (CX : CXT) (k : Nat) (f : Addr) (sp : Sp) : Prop :=
  ∀ (A : Around) (outer : List PySem.Env) (s : Shared) (H : Hp) (us : List Value) (vs : List V) (Q : VK) (E : XK), Room k A → Env0 P w K mg base A outer s H → Vals vs us → sp vs H Q E → codeAny (model P w) A (.call (.ref f) ⟨us, []⟩) (CR CX outer P w H s Q E) s
structure FnOk (P : Program) (w : World) (K : PySem.W.Frag) (mg : Str → Option Value) (base : Heap) (CX : CXT) (k : Nat) (f : Addr) (fd : FuncData) (ps : List Str) (sp : Sp) : Prop where
  len : ∀ vs H Q E, sp vs H Q E → vs.length = ps.length
  run : ∀ (A : Around) (outer : List PySem.Env) (s : Shared) (H : Hp) (args : Args) (us : List Value) (vs : List V) (Q : VK) (E : XK), Room k A → Env0 P w K mg base A outer s H → BindsTo s fd args (ps.zip us) → Vals vs us → sp vs H Q E → codeAny (model P w) A (.call (.ref f) args) (CR CX outer P w H s Q E) s
section
variable {P : Program} {w : World} {K : PySem.W.Frag} {mg : Str → Option Value} {base : Heap} {CX : CXT} {j k : Nat} {f : Addr} {fd : FuncData} {ps : List Str} {sp sp' : Sp}
theorem FnR.mono (F : FnR P w K mg base CX j f sp) (h : j ≤ k) : FnR P w K mg base CX k f sp := fun A outer s H us vs Q E hr => F A outer s H us vs Q E (hr.mono h)
theorem FnR.imp (F : FnR P w K mg base CX k f sp) (h : ∀ vs H Q E, sp' vs H Q E → sp vs H Q E) : FnR P w K mg base CX k f sp' := fun A outer s H us vs Q E hr e0 r hs => F A outer s H us vs Q E hr e0 r (h _ _ _ _ hs)
theorem FnOk.raw {ds : List Value} {dvs : List V} (F : FnOk P w K mg base CX k f fd ps sp) (hb : Binds K fd ps ds) (hd : Vals dvs ds) : FnR P w K mg base CX k f (fun vs H Q E => sp (vs ++ dvs) H Q E) := fun A outer s H us vs Q E hr e0 r hs =>
  F.run A outer s H ⟨us, []⟩ (us ++ ds) (vs ++ dvs) Q E hr e0 (hb s us (e0.mod.kin.keeps fun b o e => (e0.bs b o e).1) (by rw [← (r.append hd).length]; exact F.len _ _ _ _ hs)) (r.append hd) hs
/-- a def by its body -/
theorem FunD.ok {x qual : Str} {params : Arguments} {body : List Stmt} {scope : Scope} {dvs : List V} {kws : List (Str × V)} {N : List Str} (F : FunD K x qual params body scope dvs kws f fd) (S : FnScope N ps scope) (len : ∀ vs H Q E, sp vs H Q E → vs.length = ps.length)
    (hbody : ∀ (cdv : Value) (A : Around) (outer : List PySem.Env) (s : Shared) (H : Hp) (vs : List V) (Q : VK) (E : XK), Room k (A.deeper (envOfC qual scope s.heap.objs.size f cdv)) → sp vs H Q E →
      ∃ t, PSs (cxOf CX P w K mg base N qual scope f cdv A outer s H E) body t ∧ t { nx := fun _ H' => Q .non H', rt := Q } (start N vs) H) : FnOk P w K mg base CX (k + 1) f fd ps sp := by
  obtain ⟨oc, od, dV, kV, doc, pm, an, cdv, ct, osl, rfl, lk, hcd, _, _⟩ := F.ex
  refine ⟨len, fun A outer s H args us vs Q E hr e0 hb r hsp => ?_⟩
  have KX : K.In s.heap := e0.mod.kin.keeps fun b o e => (e0.bs b o e).1
  have kinds : ∀ y ∈ ps.zip us, scope.names.lookup y.1 = some .local ∨ (scope.names.lookup y.1 = some .cell ∧ ((cellsFrom (s.heap.objs.size + 1) scope.names []).lookup y.1).isSome = true) := fun ⟨n, v⟩ hy =>
    (S.par n (List.of_mem_zip hy).1).imp id fun q => ⟨q, PySem.W.cellsFrom_some _ _ _ (.inl q)⟩
  refine codeAny_call_function hr.depth (KX _ _ lk) rfl S.co S.gen rfl (PySem.W.codeRec_of KX hcd) (hb _ _ _ _ ?_)
  refine wpAny_newFunctionEnv_cells S.kind kinds fun env he s1 x => ?_
  subst he
  refine ⟨(e0.mod.nolimit.keeps fun b o e => (e0.bs b o e).1).keeps x.toInCall.keep, codeAny_func ?_⟩
  obtain ⟨t, ht, hq⟩ := hbody cdv A outer s H vs Q E (hr.deeper _) hsp
  have I : Inv (cxOf CX P w K mg base N qual scope f cdv A outer s H E) [] (start N vs) H s1 := inv_start S hr.hd e0 (len _ _ _ _ hsp) r x
  refine wpAny_mono (ht.run [] s1 (start N vs) H _ I hq) (fun fl s' hs => ?_) fun e s' hs => hs
  have fin : ∀ {σ' : L2.St} {H' : Hp} {v : V} {u : Value}, Inv (cxOf CX P w K mg base N qual scope f cdv A outer s H E) [] σ' H' s' → RelV v u → Q v H' → CE outer P w H s Q u s' := fun {σ' H' v u} J rv q => ⟨v, H', J.os, J.bare, J.base, J.hok, rv, q⟩
  cases fl with
  | ret u => obtain ⟨v, σ', H', J, rv, q⟩ := hs; exact fin J rv q
  | next => obtain ⟨σ', H', J, q⟩ := hs; exact fin (v := V.non) (u := Value.none) J rfl q
  | brk => obtain ⟨_, _, _, q⟩ := hs; exact q.elim
  | cont => obtain ⟨_, _, _, q⟩ := hs; exact q.elim
end
/-- the law's call -/
theorem law_callG {P : Program} {w : World} {K : PySem.W.Frag} {mg mb : Str → Option Value} {CX : CXT} {k : Nat} {fa a : Addr} {fd : FuncData} {x : Str} {sp : Sp} {s1 : Shared} {vs : List Value} {ns : List Int}
    (KX : K.In s1.heap) (hns : s1.heap.Ns mainGlobals mg) (hb : s1.heap.Ns builtinsNs mb) (hbb : ∀ x : Str, x ≠ "__name__" → mb x = bootBuiltins x) (hlim : s1.heap.NoLimit) (hg : s1.gens = #[])
    (ha : s1.heap.get? a = some { cls := .type "list", data := .seq vs.toArray }) (hi : IntsAre vs ns) (hl : ns.length ≤ sizeLine) (hr : L2.Room k callerA)
    (F : ∀ base : Heap, FnOk P w K mg base CX k fa fd [x] sp) (hbind : ∀ (s : Shared) (u : Value), BindsTo s fd ⟨[u], []⟩ [(x, u)])
    (hsp : ∀ H : Hp, Only H → SqL K H a (ns.map V.int) → sp [.ref a] H (fun v _ => v = .bl true) fun _ _ _ => False) (hCX : ∀ H e s', CX [] H s1 (fun _ _ _ => False) e s' → False) :
    codeAny (model P w) callerA (.call (.ref fa) ⟨[.ref a], []⟩) (fun r s' => r = .ok (.ret (.bool true)) ∧ OldK s1.heap s'.heap ∧ s'.os = s1.os ∧ AllBare s'.gens) s1 := by
  have core : ∀ H : Hp, Only H → SqL K H a (ns.map V.int) → HOk P w H s1.heap → (∀ b, H b ≠ none → b = a) → (H a ≠ none → K.lookup a = none) →
      codeAny (model P w) callerA (.call (.ref fa) ⟨[.ref a], []⟩) (fun r s' => r = .ok (.ret (.bool true)) ∧ OldK s1.heap s'.heap ∧ s'.os = s1.os ∧ AllBare s'.gens) s1 := by
    intro H only hS hok alone hK
    have noDict : ∀ {b : Addr} {o : Obj} {es : Array DictEntry} {ep : Nat}, s1.heap.get? b = some o → o.data = .dict es ep → H b = none := fun {b o es ep} e d => Classical.byContradiction fun q => by
      have e' := alone b q
      subst e'
      rw [ha] at e; cases e
      cases (show Data.seq vs.toArray _ = Data.dict es ep from d)
    have nsK : ∀ {b : Addr} {m : Str → Option Value}, s1.heap.Ns b m → (hidT s1.heap H).Ns b m := fun {b m} ⟨o, es, ep, e, d, r⟩ => ⟨o, es, ep, hidT_get e (noDict e d), d, r⟩
    have hKb : K.In (hidT s1.heap H) := fun b o e => hidT_get (KX b o e) (Classical.byContradiction fun q => by
      have e' := alone b q
      subst e'
      rw [hK q] at e; cases e)
    have hM : Mod K mg (hidT s1.heap H) := ⟨hKb, nsK hns, ⟨mb, nsK hb, hbb⟩, let ⟨mc, h1, h2⟩ := hlim; ⟨mc, nsK h1, h2⟩⟩
    have e0 : Env0 P w K mg (hidT s1.heap H) callerA [] s1 H := ⟨rfl, hM, fun b o e => of_hidT e, Nat.le_of_eq (hidT_size _ _), trivial, fun b z => absurd (show b ∈ ([] : List Addr) from z) (by simp), hok, .of_eq hg⟩
    refine codeAny_mono ((F (hidT s1.heap H)).run callerA [] s1 H ⟨[.ref a], []⟩ [.ref a] [.ref a] _ _ ⟨hr, rfl⟩ e0 (hbind s1 (.ref a)) (.cons rfl .nil) (hsp H only hS)) fun r s' h => ?_
    cases r with
    | error e => exact (hCX H e s' h).elim
    | ok fl =>
      cases fl with
      | next => exact h.elim
      | brk => exact h.elim
      | cont => exact h.elim
      | ret u =>
        obtain ⟨v, H', os, bare, un, hok', r', q⟩ := h
        cases (show v = V.bl true from q)
        obtain rfl : u = Value.bool true := r'
        refine ⟨rfl, OldK.of_keep fun b o e => ?_, os, bare⟩
        cases q : H b with
        | none => exact un.keep b o e q (fun z => absurd (show b ∈ ([] : List Addr) from z) (by simp)) (by simp)
        | some u =>
          rcases only b with z | ⟨ob, xs, z⟩
          · rw [q] at z; cases z
          · obtain ⟨e1, _⟩ := hok b _ z
            obtain ⟨e2, _⟩ := hok' b _ (un.frzs b ob _ z)
            rw [e] at e1; cases e1
            exact e2
  cases hk : K.lookup a with
  | some o =>
    have e := KX a o hk
    rw [ha] at e
    cases e
    exact core (fun _ => none) (fun _ => .inl rfl) (.inr ⟨_, vs.toArray, _, hk, rfl, rfl, rfl, by rw [List.size_toArray, hi.length]; exact hl, by simpa using vals_ints hi⟩) (fun b u z => nomatch (show (none : Option HO) = some u from z)) (fun b z => absurd rfl z) fun z => absurd rfl z
  | none =>
    refine core (fun b => if b = a then some (.frz { cls := .type "list", data := .seq vs.toArray } (.lst (ns.map V.int))) else none) (fun b => ?_) (.inl (.inr ⟨{ cls := .type "list", data := .seq vs.toArray }, if_pos rfl⟩)) (fun b u z => ?_) (fun b z => ?_) fun _ => hk
    · exact (Classical.em (b = a)).elim (fun c => .inr ⟨_, _, if_pos c⟩) fun c => .inl (if_neg c)
    · by_cases c : b = a
      · cases (if_pos c).symm.trans z
        subst c
        exact ⟨ha, by rw [List.length_map]; exact hl, vs, _, vals_ints hi, ha⟩
      · cases (if_neg c).symm.trans z
    · exact Classical.byContradiction fun c => z (if_neg c)
end R3

/-! R3a: plain data, worlds, what stands where; the frame of a call. -/
namespace R3
open PySem PySem.Spec PyProof.Rows L2

/-- plain data: what a Python value is worth as long as nothing changes it; obj: an instance of a class of values (fields by place); ref: a mutable object of the store -/
inductive D where
  | non | bl (b : Bool) | int (i : Int) | str (x : Str) | ty (n : String)
  | tup (xs : List D) | lst (xs : List D) | obj (c : Nat) (xs : List D) | ref (n : Nat)
  | scr (ns : List Int)
  | dic (kvs : List (Int × Int))

/-- an error: its class, its fields -/
structure Exn where
  c : Nat
  fs : List D
/-- the error that an except suite holds: its slot, where it stands, its dict, its data -/
structure Xs where
  i : Nat
  a : Addr
  dd : Addr
  x : Exn
/-- the written part, the classes' addresses and their fields' names -/
structure Sg where
  K : PySem.W.Frag
  ad : Nat → Addr
  fl : Nat → List Str
  xs : Option Xs := none

/-- I: what never changes (values are read off it); F: what this code leaves as it is; φ: where the store's objects stand; n: how many there were -/
structure Wd where
  I : Hp
  F : Hp
  φ : Nat → Addr
  n : Nat

mutual
inductive Rep (g : Sg) (w : Wd) : V → D → Prop where
  | non : Rep g w .non .non
  | bl (b : Bool) : Rep g w (.bl b) (.bl b)
  | int (i : Int) : Rep g w (.int i) (.int i)
  | str (x : Str) : Rep g w (.str x) (.str x)
  | ty (n : String) : Rep g w (.ty n) (.ty n)
  | tup {a : Addr} {vs : List V} {ds : List D} (h : SqT g.K w.I a vs) (r : Reps g w vs ds) : Rep g w (.ref a) (.tup ds)
  | lst {a : Addr} {vs : List V} {ds : List D} (h : w.I a = some (.lst vs)) (r : Reps g w vs ds) : Rep g w (.ref a) (.lst ds)
  | scr {a : Addr} {ns : List Int} (h : SqL g.K w.I a (ns.map V.int)) : Rep g w (.ref a) (.scr ns)
  | obj {a dx : Addr} {c : Nat} {vs : List V} {ds : List D} (h : w.I a = some (.ins (g.ad c) dx ((g.fl c).zip vs))) (hl : vs.length = (g.fl c).length) (r : Reps g w vs ds) : Rep g w (.ref a) (.obj c ds)
  | ref {k : Nat} (h : k < w.n) : Rep g w (.ref (w.φ k)) (.ref k)
  | dic {a : Addr} {kvs : List (Int × Int)} (h : w.I a = some (.dK (kvs.map fun p => (Sum.inl p.1, V.int p.2)))) : Rep g w (.ref a) (.dic kvs)
inductive Reps (g : Sg) (w : Wd) : List V → List D → Prop where
  | nil : Reps g w [] []
  | cons {v : V} {d : D} {vs : List V} {ds : List D} (h : Rep g w v d) (r : Reps g w vs ds) : Reps g w (v :: vs) (d :: ds)
end

/-- what values lean on -/
structure Sub (w w' : Wd) : Prop where
  i : Same w.I w'.I
  p : ∀ k, k < w.n → w'.φ k = w.φ k
  n : w.n ≤ w'.n
/-- a later world -/
structure Le (w w' : Wd) : Prop where
  s : Sub w w'
  f : Same w.F w'.F
  new : ∀ b, w.I b = none → w.F b ≠ none → w'.I b = none

theorem same_t {K : PySem.W.Frag} {H H' : Hp} {a : Addr} {xs : List V} (e : Same H H') (h : SqT K H a xs) : SqT K H' a xs := by
  rcases h with (h | ⟨o, h⟩) | h
  · exact .inl (.inl (e _ _ h))
  · exact .inl (.inr ⟨o, e _ _ h⟩)
  · exact .inr h
mutual
theorem Rep.mono {g : Sg} {w w' : Wd} (l : Sub w w') : ∀ {v : V} {d : D}, Rep g w v d → Rep g w' v d
  | _, _, .non => .non
  | _, _, .bl b => .bl b
  | _, _, .int i => .int i
  | _, _, .str x => .str x
  | _, _, .ty n => .ty n
  | _, _, .tup h r => .tup (same_t l.i h) (Reps.mono l r)
  | _, _, .lst h r => .lst (l.i _ _ h) (Reps.mono l r)
  | _, _, .scr h => .scr (l.i.seq h)
  | _, _, .obj h hl r => .obj (l.i _ _ h) hl (Reps.mono l r)
  | _, _, .ref h => by
    rw [← l.p _ h]
    exact .ref (Nat.lt_of_lt_of_le h l.n)
  | _, _, .dic h => .dic (l.i _ _ h)
theorem Reps.mono {g : Sg} {w w' : Wd} (l : Sub w w') : ∀ {vs : List V} {ds : List D}, Reps g w vs ds → Reps g w' vs ds
  | _, _, .nil => .nil
  | _, _, .cons h r => .cons (Rep.mono l h) (Reps.mono l r)
end
theorem Sub.refl (w : Wd) : Sub w w := ⟨fun _ _ h => h, fun _ _ => rfl, Nat.le_refl _⟩
theorem Sub.trans {a b c : Wd} (x : Sub a b) (y : Sub b c) : Sub a c :=
  ⟨x.i.trans y.i, fun k h => (y.p k (Nat.lt_of_lt_of_le h x.n)).trans (x.p k h), Nat.le_trans x.n y.n⟩
theorem Le.refl (w : Wd) : Le w w := ⟨Sub.refl w, fun _ _ h => h, fun _ h _ => h⟩
theorem Le.trans {a b c : Wd} (x : Le a b) (y : Le b c) : Le a c :=
  ⟨x.s.trans y.s, x.f.trans y.f, fun q h1 h2 => by
    refine y.new q (x.new q h1 h2) ?_
    cases e : a.F q with
    | none => exact absurd e h2
    | some o => rw [x.f q o e]; exact fun z => nomatch z⟩
theorem Reps.length {g : Sg} {w : Wd} : ∀ {vs : List V} {ds : List D}, Reps g w vs ds → vs.length = ds.length
  | _, _, .nil => rfl
  | _, _, .cons _ r => congrArg (· + 1) (Reps.length r)
theorem Reps.get {g : Sg} {w : Wd} : ∀ {vs : List V} {ds : List D}, Reps g w vs ds → ∀ {i : Nat} {v : V}, vs[i]? = some v → ∃ d, ds[i]? = some d ∧ Rep g w v d
  | _, _, .nil, i, v, h => by simp at h
  | _, _, .cons h r, 0, v, e => by simp at e; subst e; exact ⟨_, rfl, h⟩
  | _, _, .cons h r, i + 1, v, e => Reps.get r (by simpa using e)
theorem Reps.got {g : Sg} {w : Wd} : ∀ {vs : List V} {ds : List D}, Reps g w vs ds → ∀ {i : Nat} {d : D}, ds[i]? = some d → ∃ v, vs[i]? = some v ∧ Rep g w v d
  | _, _, .nil, i, v, h => by simp at h
  | _, _, .cons h r, 0, v, e => by simp at e; subst e; exact ⟨_, rfl, h⟩
  | _, _, .cons h r, i + 1, v, e => Reps.got r (by simpa using e)
theorem Reps.app {g : Sg} {w : Wd} : ∀ {vs us : List V} {ds es : List D}, Reps g w vs ds → Reps g w us es → Reps g w (vs ++ us) (ds ++ es)
  | _, _, _, _, .nil, s => s
  | _, _, _, _, .cons h r, s => .cons h (Reps.app r s)
theorem Reps.take {g : Sg} {w : Wd} : ∀ (n : Nat) {vs : List V} {ds : List D}, Reps g w vs ds → Reps g w (vs.take n) (ds.take n)
  | 0, _, _, _ => .nil
  | _ + 1, _, _, .nil => .nil
  | n + 1, _, _, .cons h r => .cons h (Reps.take n r)
theorem Reps.drop {g : Sg} {w : Wd} : ∀ (n : Nat) {vs : List V} {ds : List D}, Reps g w vs ds → Reps g w (vs.drop n) (ds.drop n)
  | 0, _, _, r => r
  | _ + 1, _, _, .nil => .nil
  | n + 1, _, _, .cons h r => Reps.drop n r
theorem Reps.set {g : Sg} {w : Wd} {v : V} {d : D} (h : Rep g w v d) : ∀ (n : Nat) {vs : List V} {ds : List D}, Reps g w vs ds → Reps g w (vs.set n v) (ds.set n d)
  | _, _, _, .nil => .nil
  | 0, _, _, .cons _ r => .cons h r
  | n + 1, _, _, .cons q r => .cons q (Reps.set h n r)
theorem Reps.rev {g : Sg} {w : Wd} : ∀ {vs : List V} {ds : List D}, Reps g w vs ds → Reps g w vs.reverse ds.reverse
  | _, _, .nil => .nil
  | _, _, .cons h r => by
    rw [List.reverse_cons, List.reverse_cons]
    exact (Reps.rev r).app (.cons h .nil)
theorem Reps.one {g : Sg} {w : Wd} {v : V} {d : D} (h : Rep g w v d) : Reps g w [v] [d] := .cons h .nil
theorem Reps.ints {g : Sg} {w : Wd} : ∀ ns : List Int, Reps g w (ns.map V.int) (ns.map D.int)
  | [] => .nil
  | n :: r => .cons (.int n) (Reps.ints r)

/-- a mutable object: a list, an instance -/
inductive SO where
  | lst (ds : List D)
  | ins (c : Nat) (ds : List D)
  | new (c : Nat) (x : Addr) (fs : List (Str × D))
abbrev Store := List (Option SO)
/-- an instance's fields -/
inductive Flds (g : Sg) (w : Wd) : List (Str × V) → List (Str × D) → Prop where
  | nil : Flds g w [] []
  | cons {f : Str} {v : V} {d : D} {vs : List (Str × V)} {ds : List (Str × D)} (h : Rep g w v d) (r : Flds g w vs ds) : Flds g w ((f, v) :: vs) ((f, d) :: ds)
theorem Flds.mono {g : Sg} {w w' : Wd} (l : Sub w w') : ∀ {vs : List (Str × V)} {ds : List (Str × D)}, Flds g w vs ds → Flds g w' vs ds
  | _, _, .nil => .nil
  | _, _, .cons h r => .cons (h.mono l) (Flds.mono l r)
def ObjAt (g : Sg) (w : Wd) (H : Hp) (a : Addr) : SO → Prop
  | .lst ds => ∃ vs, H a = some (.lst vs) ∧ Reps g w vs ds
  | .ins c ds => ∃ dx vs, H a = some (.ins (g.ad c) dx ((g.fl c).zip vs)) ∧ vs.length = (g.fl c).length ∧ Reps g w vs ds
  | .new c x fs => a = x ∧ ∃ dx vs, H a = some (.ins (g.ad c) dx vs) ∧ Flds g w vs fs
theorem ObjAt.some {g : Sg} {w : Wd} {H : Hp} {a : Addr} {o : SO} (h : ObjAt g w H a o) : ∃ u, H a = some u := by
  cases o with
  | lst ds => obtain ⟨vs, e, _⟩ := h; exact ⟨_, e⟩
  | ins c ds => obtain ⟨dx, vs, e, _⟩ := h; exact ⟨_, e⟩
  | new c x fs => obtain ⟨_, dx, vs, e, _⟩ := h; exact ⟨_, e⟩
theorem ObjAt.mono {g : Sg} {w w' : Wd} {H H' : Hp} {a : Addr} {o : SO} (l : Sub w w') (k : H' a = H a) (h : ObjAt g w H a o) : ObjAt g w' H' a o := by
  cases o with
  | lst ds => obtain ⟨vs, e, r⟩ := h; exact ⟨vs, k.trans e, r.mono l⟩
  | ins c ds => obtain ⟨dx, vs, e, hl, r⟩ := h; exact ⟨dx, vs, k.trans e, hl, r.mono l⟩
  | new c x fs => obtain ⟨ea, dx, vs, e, r⟩ := h; exact ⟨ea, dx, vs, k.trans e, r.mono l⟩

/-- a slot: nothing told, a value, an object of this frame's own, the error that is held -/
inductive Sl where
  | no | val (d : D) | own (o : SO) | exc
def Env.at : List Sl → Nat → Sl
  | [], _ => .no
  | s :: _, 0 => s
  | _ :: r, i + 1 => Env.at r i
def Env.put : List Sl → Nat → Sl → List Sl
  | [], _, _ => []
  | _ :: r, 0, x => x :: r
  | s :: r, i + 1, x => s :: Env.put r i x
theorem Env.at_put : ∀ (ρ : List Sl) (i j : Nat) (x : Sl), Env.at (Env.put ρ i x) j = if j = i ∧ i < ρ.length then x else Env.at ρ j
  | [], i, j, x => by simp [Env.put, Env.at]
  | s :: r, 0, 0, x => by simp [Env.put, Env.at]
  | s :: r, 0, j + 1, x => by simp [Env.put, Env.at]
  | s :: r, i + 1, 0, x => by simp [Env.put, Env.at]
  | s :: r, i + 1, j + 1, x => by
    show Env.at (Env.put r i x) j = _
    rw [Env.at_put r i j x]
    simp [Env.at]
theorem Env.len_put : ∀ (ρ : List Sl) (i : Nat) (x : Sl), (Env.put ρ i x).length = ρ.length
  | [], _, _ => rfl
  | _ :: _, 0, _ => rfl
  | _ :: r, i + 1, x => congrArg (· + 1) (Env.len_put r i x)

/-- slot i holds the error that is held -/
def XcAt (g : Sg) (w : Wd) (σ : L2.St) (i : Nat) : Prop := ∃ Y : Xs, g.xs = some Y ∧ i = Y.i ∧ σ[i]? = some (some (.ref Y.a)) ∧ ∃ vs, w.I Y.dd = some (.xd ((g.fl Y.x.c).zip vs)) ∧ vs.length = (g.fl Y.x.c).length ∧ Reps g w vs Y.x.fs
theorem XcAt.mono {g : Sg} {w w' : Wd} {σ σ' : L2.St} {i : Nat} (l : Sub w w') (e : σ'[i]? = σ[i]?) : XcAt g w σ i → XcAt g w' σ' i
  | ⟨Y, h1, h2, h3, vs, h4, h5, h6⟩ => ⟨Y, h1, h2, e.trans h3, vs, l.i _ _ h4, h5, h6.mono l⟩
/-- the state: the world w, the slots ρ, the store S are those of σ and H -/
structure At (g : Sg) (w : Wd) (ρ : List Sl) (S : Store) (σ : L2.St) (H : Hp) : Prop where
  if_ : Same w.I w.F
  fh : Same w.F H
  len : S.length = w.n
  st : ∀ k o, S[k]? = some (some o) → w.F (w.φ k) = none ∧ ObjAt g w H (w.φ k) o
  inj : ∀ j k oj ok, S[j]? = some (some oj) → S[k]? = some (some ok) → w.φ j = w.φ k → j = k
  sl : σ.length = ρ.length
  val : ∀ i d, Env.at ρ i = .val d → ∃ v, σ[i]? = some (some v) ∧ Rep g w v d
  own : ∀ i o, Env.at ρ i = .own o → ∃ a, σ[i]? = some (some (.ref a)) ∧ w.F a = none ∧ ObjAt g w H a o ∧ (∀ k ok, S[k]? = some (some ok) → w.φ k ≠ a) ∧
    ∀ j oj, Env.at ρ j = .own oj → σ[j]? = some (some (.ref a)) → j = i
  xc : ∀ i, Env.at ρ i = .exc → XcAt g w σ i
section
variable {g : Sg} {w : Wd} {ρ : List Sl} {S : Store} {σ : L2.St} {H H' : Hp}
theorem At.ih (A : At g w ρ S σ H) : Same w.I H := A.if_.trans A.fh
theorem At.l {a : Addr} {vs : List V} (A : At g w ρ S σ H) (h : SqL g.K w.I a vs) : SqL g.K H a vs := A.ih.seq h
theorem At.t {a : Addr} {vs : List V} (A : At g w ρ S σ H) (h : SqT g.K w.I a vs) : SqT g.K H a vs := same_t A.ih h
/-- the heap holds new things beside -/
theorem At.grow (A : At g w ρ S σ H) (e : Same H H') : At g w ρ S σ H' where
  if_ := A.if_
  fh := A.fh.trans e
  len := A.len
  st := fun k o h => by
    obtain ⟨h1, h2⟩ := A.st k o h
    obtain ⟨u, hu⟩ := h2.some
    exact ⟨h1, h2.mono (Sub.refl w) ((e _ _ hu).trans hu.symm)⟩
  inj := A.inj
  sl := A.sl
  val := A.val
  own := fun i o h => by
    obtain ⟨a, h1, h2, h3, h4⟩ := A.own i o h
    obtain ⟨u, hu⟩ := h3.some
    exact ⟨a, h1, h2, h3.mono (Sub.refl w) ((e _ _ hu).trans hu.symm), h4⟩
  xc := A.xc
theorem same_new {p : Addr} {o : HO} (h : H p = none) : Same H (upd H p o) := fun b u e => by
  rw [upd_ne (ne_of_none e h)]
  exact e
/-- an object that nobody writes is told to be a value -/
def Wd.add (w : Wd) (p : Addr) (o : HO) : Wd := { w with I := upd w.I p o, F := upd w.F p o }
theorem le_add {p : Addr} {o : HO} (hi : Same w.I w.F) (h : w.F p = none) : Le w (w.add p o) := by
  have h0 : w.I p = none := by
    cases e : w.I p with
    | none => rfl
    | some u => rw [hi p u e] at h; cases h
  exact ⟨⟨same_new h0, fun _ _ => rfl, Nat.le_refl _⟩, same_new h, fun b h1 h2 => by
    have hb : b ≠ p := fun z => h2 (by rw [z]; exact h)
    show upd w.I p o b = none
    rw [upd_ne hb]
    exact h1⟩
/-- at p, where neither the store nor an own object stands, o stands for good -/
theorem At.fix {p : Addr} {o : HO} (A : At g w ρ S σ H) (hp : H p = some o) (hf : w.F p = none) (hs : ∀ k ok, S[k]? = some (some ok) → w.φ k ≠ p) (ho : ∀ i oi, Env.at ρ i = .own oi → σ[i]? ≠ some (some (.ref p))) :
    At g (w.add p o) ρ S σ H := by
  have l := le_add (o := o) A.if_ hf
  have h0 : w.I p = none := by
    cases e : w.I p with
    | none => rfl
    | some u => have := A.if_ p u e; rw [hf] at this; cases this
  refine ⟨fun b u e => ?_, fun b u e => ?_, A.len, fun k ok h => ?_, A.inj, A.sl, fun i d h => ?_, fun i oi h => ?_, fun i h => (A.xc i h).mono l.s rfl⟩
  · show upd w.F p o b = some u
    have e' : upd w.I p o b = some u := e
    by_cases hb : b = p
    · subst hb
      rw [upd_same] at e' ⊢
      exact e'
    · rw [upd_ne hb] at e' ⊢
      exact A.if_ b u e'
  · have e' : upd w.F p o b = some u := e
    by_cases hb : b = p
    · subst hb
      rw [upd_same] at e'
      exact hp.trans e'
    · rw [upd_ne hb] at e'
      exact A.fh b u e'
  · obtain ⟨h1, h2⟩ := A.st k ok h
    refine ⟨?_, h2.mono l.s rfl⟩
    show upd w.F p o (w.φ k) = none
    rw [upd_ne (hs k ok h)]
    exact h1
  · obtain ⟨v, h1, h2⟩ := A.val i d h
    exact ⟨v, h1, h2.mono l.s⟩
  · obtain ⟨a, h1, h2, h3, h4, h5⟩ := A.own i oi h
    refine ⟨a, h1, ?_, h3.mono l.s rfl, h4, h5⟩
    show upd w.F p o a = none
    rw [upd_ne fun z => ho i oi h (by rw [h1, z])]
    exact h2
/-- a new object is laid as a value -/
theorem At.lay {p : Addr} {o : HO} (A : At g w ρ S σ H) (hp : H p = none) : At g (w.add p o) ρ S σ (upd H p o) := by
  have B := A.grow (same_new (o := o) hp)
  refine B.fix upd_same ?_ (fun k ok h z => ?_) fun i oi h z => ?_
  · cases e : w.F p with
    | none => rfl
    | some u => rw [A.fh p u e] at hp; cases hp
  · obtain ⟨u, hu⟩ := (A.st k ok h).2.some
    rw [z, hp] at hu
    cases hu
  · obtain ⟨a, h1, _, h3, _⟩ := A.own i oi h
    obtain ⟨u, hu⟩ := h3.some
    rw [h1] at z
    cases z
    rw [hp] at hu
    cases hu
theorem At.free {p : Addr} (A : At g w ρ S σ H) (hp : H p = none) : w.F p = none := by
  cases e : w.F p with
  | none => rfl
  | some u => rw [A.fh p u e] at hp; cases hp
theorem At.freeI {p : Addr} (A : At g w ρ S σ H) (hp : w.F p = none) : w.I p = none := by
  cases e : w.I p with
  | none => rfl
  | some u => rw [A.if_ p u e] at hp; cases hp
end
/-- the state without slots -/
abbrev At0 (g : Sg) (w : Wd) (S : Store) (H : Hp) : Prop := At g w [] S [] H
section
variable {g : Sg} {w : Wd} {ρ : List Sl} {S : Store} {σ : L2.St} {H H' : Hp}
open Classical in
/-- the heap without the store's objects -/
noncomputable def strip (φ : Nat → Addr) (S : Store) (H : Hp) : Hp := fun a => if ∃ k o, S[k]? = some (some o) ∧ φ k = a then none else H a
theorem strip_store {φ : Nat → Addr} {k : Nat} {o : SO} (h : S[k]? = some (some o)) : strip φ S H (φ k) = none := by
  unfold strip
  rw [if_pos ⟨k, o, h, rfl⟩]
theorem strip_ne {φ : Nat → Addr} {a : Addr} (h : ∀ k o, S[k]? = some (some o) → φ k ≠ a) : strip φ S H a = H a := by
  unfold strip
  rw [if_neg fun ⟨k, o, h1, h2⟩ => h k o h1 h2]
theorem strip_some {φ : Nat → Addr} {a : Addr} {u : HO} (h : strip φ S H a = some u) : H a = some u ∧ ∀ k o, S[k]? = some (some o) → φ k ≠ a := by
  unfold strip at h
  by_cases c : ∃ k o, S[k]? = some (some o) ∧ φ k = a
  · rw [if_pos c] at h; cases h
  · rw [if_neg c] at h
    exact ⟨h, fun k o h1 h2 => c ⟨k, o, h1, h2⟩⟩
/-- what a callee sees -/
noncomputable def Wd.inner (w : Wd) (S : Store) (H : Hp) : Wd := { w with F := strip w.φ S H }
theorem sub_inner : Sub w (w.inner S H) := ⟨fun _ _ z => z, fun _ _ => rfl, Nat.le_refl _⟩
theorem At.enter (A : At g w ρ S σ H) : At0 g (w.inner S H) S H where
  if_ := fun a o h => by
    show strip w.φ S H a = some o
    rw [strip_ne fun k ok hk z => ?_]
    · exact A.ih a o h
    · have := A.if_ a o h
      rw [← z, (A.st k ok hk).1] at this
      cases this
  fh := fun a o h => (strip_some h).1
  len := A.len
  st := fun k o h => ⟨strip_store h, (A.st k o h).2.mono sub_inner rfl⟩
  inj := A.inj
  sl := rfl
  val := fun i d h => by cases i <;> cases h
  own := fun i d h => by cases i <;> cases h
  xc := fun i h => by cases i <;> cases h
theorem rep_inner {v : V} {d : D} (r : Rep g w v d) : Rep g (w.inner S H) v d := r.mono sub_inner
theorem reps_inner {v : List V} {d : List D} (r : Reps g w v d) : Reps g (w.inner S H) v d := r.mono sub_inner
open Classical in
noncomputable def hideO (ρ : List Sl) (σ : L2.St) (F : Hp) : Hp := fun a => if ∃ i o, Env.at ρ i = .own o ∧ σ[i]? = some (some (.ref a)) then none else F a
/-- the world behind a call: the frame's own objects are its own again -/
noncomputable def Wd.outer (w' : Wd) (ρ : List Sl) (σ : L2.St) : Wd := { w' with F := hideO ρ σ w'.F }
theorem outer_own {w' : Wd} {i : Nat} {o : SO} {a : Addr} (h : Env.at ρ i = .own o) (hs : σ[i]? = some (some (.ref a))) : (w'.outer ρ σ).F a = none := by
  show hideO ρ σ w'.F a = none
  unfold hideO
  rw [if_pos ⟨i, o, h, hs⟩]
theorem outer_ne {w' : Wd} {a : Addr} (h : ∀ i o, Env.at ρ i = .own o → σ[i]? ≠ some (some (.ref a))) : (w'.outer ρ σ).F a = w'.F a := by
  show hideO ρ σ w'.F a = _
  unfold hideO
  rw [if_neg fun ⟨i, o, h1, h2⟩ => h i o h1 h2]
theorem outer_some {w' : Wd} {a : Addr} {u : HO} (h : (w'.outer ρ σ).F a = some u) : w'.F a = some u := by
  have h' : hideO ρ σ w'.F a = some u := h
  unfold hideO at h'
  by_cases c : ∃ i o, Env.at ρ i = .own o ∧ σ[i]? = some (some (.ref a))
  · rw [if_pos c] at h'; cases h'
  · rw [if_neg c] at h'; exact h'
theorem sub_outer {w' : Wd} : Sub w' (w'.outer ρ σ) := ⟨fun _ _ z => z, fun _ _ => rfl, Nat.le_refl _⟩
/-- behind the call -/
theorem At.leave {w' : Wd} {S' : Store} (A : At g w ρ S σ H) (l : Le (w.inner S H) w') (B : At0 g w' S' H') : Le w (w'.outer ρ σ) ∧ At g (w'.outer ρ σ) ρ S' σ H' := by
  have ownF : ∀ i o a, Env.at ρ i = .own o → σ[i]? = some (some (.ref a)) → ∃ u, H a = some u ∧ (w.inner S H).F a = some u ∧ w.I a = none := fun i o a h hs => by
    obtain ⟨b, h1, h2, h3, h4, _⟩ := A.own i o h
    rw [hs] at h1
    cases h1
    obtain ⟨u, hu⟩ := h3.some
    exact ⟨u, hu, (strip_ne h4).trans hu, A.freeI h2⟩
  have keepF : ∀ a u, w.F a = some u → (w.inner S H).F a = some u := fun a u h => by
    refine (strip_ne fun k ok hk z => ?_).trans (A.fh a u h)
    rw [← z, (A.st k ok hk).1] at h
    cases h
  have notOwn : ∀ a u, w.F a = some u → ∀ i o, Env.at ρ i = .own o → σ[i]? ≠ some (some (.ref a)) := fun a u h i o h1 h2 => by
    obtain ⟨b, e1, e2, _⟩ := A.own i o h1
    rw [h2] at e1
    cases e1
    rw [h] at e2
    cases e2
  refine ⟨⟨⟨l.s.i, l.s.p, l.s.n⟩, fun a u h => ?_, fun b h1 h2 => ?_⟩, ⟨fun a u h => ?_, fun a u h => B.fh a u (outer_some h), B.len, fun k o h => ?_, B.inj, A.sl, fun i d h => ?_, fun i o h => ?_, fun i h => ((A.xc i h).mono (sub_inner (S := S) (H := H)) rfl).mono (l.s.trans sub_outer) rfl⟩⟩
  · exact (outer_ne (notOwn a u h)).trans (l.f a u (keepF a u h))
  · refine l.new b h1 ?_
    cases e : w.F b with
    | none => exact absurd e h2
    | some u => rw [keepF b u e]; exact fun z => nomatch z
  · refine (outer_ne fun i o h1 h2 => ?_).trans (B.if_ a u h)
    obtain ⟨x, _, hx, hi⟩ := ownF i o a h1 h2
    have := l.new a hi (by rw [hx]; exact fun z => nomatch z)
    rw [show w'.I a = some u from h] at this
    cases this
  · obtain ⟨h1, h2⟩ := B.st k o h
    refine ⟨?_, h2.mono sub_outer rfl⟩
    cases e : (w'.outer ρ σ).F ((w'.outer ρ σ).φ k) with
    | none => rfl
    | some u =>
      have e2 : w'.F (w'.φ k) = some u := outer_some e
      rw [h1] at e2
      cases e2
  · obtain ⟨v, h1, h2⟩ := A.val i d h
    exact ⟨v, h1, (h2.mono sub_inner).mono (l.s.trans sub_outer)⟩
  · obtain ⟨a, h1, h2, h3, h4, h5⟩ := A.own i o h
    obtain ⟨u, hu, hx, hi⟩ := ownF i o a h h1
    have e : H' a = H a := (B.fh a u (l.f a u hx)).trans hu.symm
    refine ⟨a, h1, outer_own h h1, (h3.mono (sub_inner (S := S) (H := H)) rfl).mono (l.s.trans sub_outer) e, fun k ok hk z => ?_, h5⟩
    have e1 := (B.st k ok hk).1
    have e2 := l.f a u hx
    rw [← show w'.φ k = a from z, e1] at e2
    cases e2
end
end R3

/-! R3b: readings over plain data; expressions, tests, arguments, statements, defs. -/
namespace R3
open PySem PySem.Spec PyProof.Rows L2

def ExcAt (g : Sg) (w : Wd) (H : Hp) (cls : Value) (dd : Option Addr) (x : Exn) : Prop :=
  cls = .ref (g.ad x.c) ∧ ∃ a vs, dd = some a ∧ w.I a = some (.xd ((g.fl x.c).zip vs)) ∧ vs.length = (g.fl x.c).length ∧ Reps g w vs x.fs

abbrev KD := D → Store → Prop
abbrev KX := Exn → Store → Prop
abbrev FE := List Sl → Store → KD → KX → Prop
abbrev FT := List Sl → Store → (Bool → Store → Prop) → KX → Prop
abbrev FA := List Sl → Store → (List D → Store → Prop) → KX → Prop

def XOk (g : Sg) (W : WX) (σ : L2.St) (ρ : List Sl) (w : Wd) (ex : KX) : Prop :=
  ∀ x S', ex x S' → ∀ w' H' cls dd, Le w w' → At g w' ρ S' σ H' → ExcAt g w' H' cls dd x → W cls dd σ H'
def KOk (g : Sg) (w : Wd) (ρ : List Sl) (σ : L2.St) (K : KD) (Q : VK) : Prop :=
  ∀ d S', K d S' → ∀ v w' H', Le w w' → At g w' ρ S' σ H' → Rep g w' v d → Q v H'
def TOk (g : Sg) (w : Wd) (ρ : List Sl) (σ : L2.St) (K : Bool → Store → Prop) (Q : Bool → Hp → Prop) : Prop :=
  ∀ b S', K b S' → ∀ w' H', Le w w' → At g w' ρ S' σ H' → Q b H'
def AOk (g : Sg) (w : Wd) (ρ : List Sl) (σ : L2.St) (K : List D → Store → Prop) (Q : List V → Hp → Prop) : Prop :=
  ∀ ds S', K ds S' → ∀ vs w' H', Le w w' → At g w' ρ S' σ H' → Reps g w' vs ds → Q vs H'
/-- nothing else holds the object at a -/
structure Fresh (w : Wd) (ρ : List Sl) (S : Store) (σ : L2.St) (a : Addr) : Prop where
  f : w.F a = none
  s : ∀ k ok, S[k]? = some (some ok) → w.φ k ≠ a
  o : ∀ i oi, Env.at ρ i = .own oi → σ[i]? ≠ some (some (.ref a))
def LOk (g : Sg) (w : Wd) (ρ : List Sl) (σ : L2.St) (K : List D → Store → Prop) (Q : VK) : Prop :=
  ∀ ds S', K ds S' → ∀ a vs w' H', Le w w' → At g w' ρ S' σ H' → H' a = some (.lst vs) → Fresh w' ρ S' σ a → Reps g w' vs ds → Q (.ref a) H'
def rdE (g : Sg) (W : WX) (f : FE) : TE := fun σ H Q => ∃ w ρ S K ex, At g w ρ S σ H ∧ XOk g W σ ρ w ex ∧ KOk g w ρ σ K Q ∧ f ρ S K ex
def rdT (g : Sg) (W : WX) (f : FT) : TT := fun σ H Q => ∃ w ρ S K ex, At g w ρ S σ H ∧ XOk g W σ ρ w ex ∧ TOk g w ρ σ K Q ∧ f ρ S K ex
def rdA (g : Sg) (W : WX) (f : FA) : TA := fun σ H Q => ∃ w ρ S K ex, At g w ρ S σ H ∧ XOk g W σ ρ w ex ∧ AOk g w ρ σ K Q ∧ f ρ S K ex
def rdL (g : Sg) (W : WX) (f : FA) : TE := fun σ H Q => ∃ w ρ S K ex, At g w ρ S σ H ∧ XOk g W σ ρ w ex ∧ LOk g w ρ σ K Q ∧ f ρ S K ex
/-- an expression, a test, arguments, an expression that gives a new list -/
abbrev EV (g : Sg) (X : Cx) (W : WX) (e : Expr) (f : FE) : Prop := PE X e (rdE g W f)
abbrev ET (g : Sg) (X : Cx) (W : WX) (e : Expr) (f : FT) : Prop := PT X e (rdT g W f)
abbrev EA (g : Sg) (X : Cx) (W : WX) (e : List Expr) (f : FA) : Prop := PA X e (rdA g W f)
abbrev EL (g : Sg) (X : Cx) (W : WX) (e : Expr) (f : FA) : Prop := PE X e (rdL g W f)

theorem PE.imp {X : Cx} {e : Expr} {t t' : TE} (h : PE X e t) (k : ∀ σ H Q, t' σ H Q → t σ H Q) : PE X e t' := ⟨fun pins s σ H Q I q => h.run pins s σ H Q I (k σ H Q q)⟩
theorem PT.imp {X : Cx} {e : Expr} {t t' : TT} (h : PT X e t) (k : ∀ σ H Q, t' σ H Q → t σ H Q) : PT X e t' := ⟨fun pins s σ H Q I q => h.run pins s σ H Q I (k σ H Q q)⟩
theorem PW.imp {X : Cx} {e : Expr} {t t' : TT} (h : PW X e t) (k : ∀ σ H Q, t' σ H Q → t σ H Q) : PW X e t' := ⟨fun wh pins s σ H Q I q => h.run wh pins s σ H Q I (k σ H Q q)⟩
theorem PA.imp {X : Cx} {e : List Expr} {t t' : TA} (h : PA X e t) (k : ∀ σ H Q, t' σ H Q → t σ H Q) : PA X e t' := ⟨fun pos pins s σ H Q I q => h.run pos pins s σ H Q I (k σ H Q q)⟩
theorem PS.imp {X : Cx} {e : Stmt} {t t' : TS} (h : PS X e t) (k : ∀ D σ H, t' D σ H → t D σ H) : PS X e t' := ⟨fun pins s σ H D I q => h.run pins s σ H D I (k D σ H q)⟩
theorem PSs.imp {X : Cx} {e : List Stmt} {t t' : TS} (h : PSs X e t) (k : ∀ D σ H, t' D σ H → t D σ H) : PSs X e t' := ⟨fun pins s σ H D I q => h.run pins s σ H D I (k D σ H q)⟩

theorem XOk.later {g : Sg} {W : WX} {σ : L2.St} {ρ : List Sl} {w w' : Wd} {ex : KX} (l : Le w w') (h : XOk g W σ ρ w ex) : XOk g W σ ρ w' ex := fun x S' e w2 H' cls dd l2 => h x S' e w2 H' cls dd (l.trans l2)
theorem KOk.later {g : Sg} {w w' : Wd} {ρ : List Sl} {σ : L2.St} {K : KD} {Q : VK} (l : Le w w') (h : KOk g w ρ σ K Q) : KOk g w' ρ σ K Q := fun d S' k v w2 H' l2 => h d S' k v w2 H' (l.trans l2)
theorem TOk.later {g : Sg} {w w' : Wd} {ρ : List Sl} {σ : L2.St} {K : Bool → Store → Prop} {Q : Bool → Hp → Prop} (l : Le w w') (h : TOk g w ρ σ K Q) : TOk g w' ρ σ K Q := fun d S' k w2 H' l2 => h d S' k w2 H' (l.trans l2)
theorem AOk.later {g : Sg} {w w' : Wd} {ρ : List Sl} {σ : L2.St} {K : List D → Store → Prop} {Q : List V → Hp → Prop} (l : Le w w') (h : AOk g w ρ σ K Q) : AOk g w' ρ σ K Q := fun d S' k v w2 H' l2 => h d S' k v w2 H' (l.trans l2)
theorem LOk.later {g : Sg} {w w' : Wd} {ρ : List Sl} {σ : L2.St} {K : List D → Store → Prop} {Q : VK} (l : Le w w') (h : LOk g w ρ σ K Q) : LOk g w' ρ σ K Q := fun d S' k a vs w2 H' l2 => h d S' k a vs w2 H' (l.trans l2)

/-- a choice by a Bool -/
def Br : Bool → Prop → Prop → Prop
  | true, p, _ => p
  | false, _, q => q
theorem br {b : Bool} {p q : Prop} (h1 : b = true → p) (h2 : b = false → q) : Br b p q := by
  cases b with
  | true => exact h1 rfl
  | false => exact h2 rfl
theorem brT {b : Bool} {p q : Prop} (e : b = true) (h : p) : Br b p q := by subst e; exact h
theorem brF {b : Bool} {p q : Prop} (e : b = false) (h : q) : Br b p q := by subst e; exact h
theorem brD {c : Prop} [Decidable c] {p q : Prop} (h1 : c → p) (h2 : ¬ c → q) : Br (decide c) p q := br (fun e => h1 (of_decide_eq_true e)) (fun e => h2 (of_decide_eq_false e))
theorem brN {c : Prop} [Decidable c] {p q : Prop} (h1 : ¬ c → p) (h2 : c → q) : Br (!decide c) p q := by
  by_cases h : c
  · rw [decide_eq_true h]; exact h2 h
  · rw [decide_eq_false h]; exact h1 h

section
variable {g : Sg} {X : Cx} {W : WX} {a b c e : Expr} {pos : Pos} {fa fb fe : FE} {es : List Expr} {fr : FA} {ft fu : FT}

/-! ### names, constants -/
def wVar (i : Nat) (ρ : List Sl) (S : Store) (K : KD) (_ : KX) : Prop := match Env.at ρ i with
  | .val d => K d S
  | _ => False
theorem ev_of_pe {i : Nat} (h : PE X e (tVar i)) : EV g X W e (wVar i) := PE.imp h fun σ H Q ⟨w, ρ, S, K, ex, A, _, k, q⟩ => by
  unfold wVar at q
  cases h : Env.at ρ i with
  | no => rw [h] at q; exact q.elim
  | own o => rw [h] at q; exact q.elim
  | exc => rw [h] at q; exact q.elim
  | val d =>
    rw [h] at q
    obtain ⟨v, h1, h2⟩ := A.val i d h
    exact ⟨v, h1, k d S q v w H (Le.refl w) A h2⟩
theorem vr (i : Nat) {x : Str} {pos : Pos} (hN : X.N[i]? = some x := by rfl) (hv : Vis X.env.scope x := by first | exact Or.inl rfl | exact Or.inr (Or.inl rfl) | exact Or.inr (Or.inr rfl)) (hd : (x == ("__debug__" : Str)) = false := by decide)
    (hcd : (x == ("__classdict__" : Str)) = false := by decide) : EV g X W (.Name x pos) (wVar i) := ev_of_pe (pe_var hN hv hd hcd)
def wC (d : D) (_ : List Sl) (S : Store) (K : KD) (_ : KX) : Prop := K d S
theorem ev_c {v : V} {d : D} (h : PE X e (tC v)) (r : ∀ w, Rep g w v d) : EV g X W e (wC d) := PE.imp h fun σ H Q ⟨w, ρ, S, K, ex, A, _, k, q⟩ => k d S q v w H (Le.refl w) A (r w)
theorem cint {i j pos} : EV g X W (.Constant (.int i) j pos) (wC (.int i)) := ev_c pe_int fun _ => .int i
theorem cbl {i j pos} : EV g X W (.Constant (.bool i) j pos) (wC (.bl i)) := ev_c pe_bl fun _ => .bl i
theorem cnon {j pos} : EV g X W (.Constant .none j pos) (wC .non) := ev_c pe_non fun _ => .non
theorem cstr {i j pos} : EV g X W (.Constant (.str i) j pos) (wC (.str i)) := ev_c pe_str fun _ => .str i
/-- a module's constant -/
theorem cglo {x : Str} {v : V} {d : D} {pos : Pos} (hg : Gl X x) (h : ∃ u, X.mg x = some u ∧ RelV v u) (r : ∀ w, Rep g w v d) (hd : (x == ("__debug__" : Str)) = false := by decide) : EV g X W (.Name x pos) (wC d) := by
  obtain ⟨u, h1, h2⟩ := h
  exact ev_c (pe_glob hg h1 h2 hd) r
/-- a built-in class as a value -/
theorem cty {x : Str} {n : String} {pos : Pos} (hg : Gl X x) (hm : X.mg x = none) (hv : bootBuiltins x = some (.type n)) (hn : x ≠ "__name__" := by decide) (hd : (x == ("__debug__" : Str)) = false := by decide) : EV g X W (.Name x pos) (wC (.ty n)) :=
  ev_c (pe_bltn (v := .ty n) hg hm hv rfl hn hd) fun _ => .ty n

/-! ### two in a row -/
theorem bin2 (ha : EV g X W a fa) (hb : EV g X W b fb) {pins : List (Addr × Obj)} {s : Shared} {σ : L2.St} {H : Hp} {w : Wd} {ρ : List Sl} {S : Store} {R : D → D → Store → Prop} {ex : KX} (I : Inv X pins σ H s)
    (A : At g w ρ S σ H) (xo : XOk g W σ ρ w ex) (h : fa ρ S (fun x S1 => fb ρ S1 (fun y S2 => R x y S2) ex) ex)
    {α : Type} {Q : α → Shared → Prop} {f : Value → Value → Sem α}
    (hf : ∀ v u s2 vx vy x y H2 w2 S2, Inv X pins σ H2 s2 → RelV vx v → RelV vy u → Le w w2 → At g w2 ρ S2 σ H2 → Rep g w2 vx x → Rep g w2 vy y → R x y S2 → wpAny (model X.prog X.w) X.A (f v u) Q X.xe s2) :
    wpAny (model X.prog X.w) X.A (eval a X.env) (fun v s₁ => wpAny (model X.prog X.w) X.A (eval b X.env) (fun u s₂ => wpAny (model X.prog X.w) X.A (f v u) Q X.xe s₂) X.xe s₁) X.xe s := by
  refine bin ha hb (R := fun vx vy H2 => ∃ x y w2 S2, Le w w2 ∧ At g w2 ρ S2 σ H2 ∧ Rep g w2 vx x ∧ Rep g w2 vy y ∧ R x y S2) I ?_ fun v u s2 vx vy H2 I2 rx ry q => ?_
  · refine ⟨w, ρ, S, _, ex, A, xo, fun x S1 q v w1 H1 l1 A1 r1 => ?_, h⟩
    refine ⟨w1, ρ, S1, _, ex, A1, xo.later l1, fun y S2 q2 v2 w2 H2 l2 A2 r2 => ?_, q⟩
    exact ⟨x, y, w2, S2, l1.trans l2, A2, r1.mono l2.s, r2, q2⟩
  · obtain ⟨x, y, w2, S2, l2, A2, r1, r2, q2⟩ := q
    exact hf v u s2 vx vy x y H2 w2 S2 I2 rx ry l2 A2 r1 r2 q2

/-! ### operators -/
abbrev RD := D → D → Store → KD → Prop
def OpD (g : Sg) (X : Cx) (sem : Value → Value → Sem Value) (r : RD) : Prop :=
  ∀ (pins : List (Addr × Obj)) (s : Shared) (σ : L2.St) (H : Hp) (w : Wd) (ρ : List Sl) (S : Store) (x y : D) (vx vy : V) (u v : Value) (K : KD) (Q : VK), Inv X pins σ H s → RelV vx u → RelV vy v → At g w ρ S σ H → Rep g w vx x → Rep g w vy y →
    KOk g w ρ σ K Q → r x y S K → wpAny (model X.prog X.w) X.A (sem u v) (EP X pins σ Q) X.xe s
theorem OpD.of {sem : Value → Value → Sem Value} {r : RD} {r2 : R2} (h : OpR X sem r2)
    (k : ∀ (σ : L2.St) (H : Hp) (w : Wd) (ρ : List Sl) (S : Store) (x y : D) (vx vy : V) (K : KD) (Q : VK), At g w ρ S σ H → Rep g w vx x → Rep g w vy y → KOk g w ρ σ K Q → r x y S K → r2 vx vy H Q) : OpD g X sem r :=
  fun pins s σ H w ρ S x y vx vy u v K Q I ru rv A rx ry ko q => h pins s σ H vx vy u v Q I ru rv (k σ H w ρ S x y vx vy K Q A rx ry ko q)
theorem OpD.or {sem : Value → Value → Sem Value} {r r' : RD} (h : OpD g X sem r) (h' : OpD g X sem r') : OpD g X sem (fun x y S K => r x y S K ∨ r' x y S K) :=
  fun pins s σ H w ρ S x y vx vy u v K Q I ru rv A rx ry ko q => q.elim (h pins s σ H w ρ S x y vx vy u v K Q I ru rv A rx ry ko) (h' pins s σ H w ρ S x y vx vy u v K Q I ru rv A rx ry ko)
def wOp (r : RD) (fa fb : FE) (ρ : List Sl) (S : Store) (K : KD) (ex : KX) : Prop := fa ρ S (fun x S1 => fb ρ S1 (fun y S2 => r x y S2 K) ex) ex
theorem bop {op : Operator} {r : RD} (ho : OpD g X (binaryOp op) r) (ha : EV g X W a fa) (hb : EV g X W b fb) : EV g X W (.BinOp a op b pos) (wOp r fa fb) := by
  refine ⟨fun pins s σ H Q I h => ?_⟩
  obtain ⟨w, ρ, S, K, ex, A, xo, ko, q⟩ := h
  exact wpAny_BinOp (bin2 ha hb (R := fun x y S2 => r x y S2 K) I A xo q fun v u s2 vx vy x y H2 w2 S2 I2 ru rv l2 A2 rx ry q2 => ho pins s2 σ H2 w2 ρ S2 x y vx vy v u K Q I2 ru rv A2 rx ry (ko.later l2) q2)
theorem cmp {op : CmpOp} {r : RD} (ho : OpD g X (compareOp op) r) (ha : EV g X W a fa) (hb : EV g X W b fb) (hm : behindInMarks op b = false := by first | exact nomark _ | rfl) : EV g X W (.Compare a [op] [b] pos) (wOp r fa fb) := by
  refine ⟨fun pins s σ H Q I h => ?_⟩
  obtain ⟨w, ρ, S, K, ex, A, xo, ko, q⟩ := h
  exact wpAny_Compare1 (bin2 ha hb (R := fun x y S2 => r x y S2 K) I A xo q fun v u s2 vx vy x y H2 w2 S2 I2 ru rv l2 A2 rx ry q2 => ho pins s2 σ H2 w2 ρ S2 x y vx vy v u K Q I2 ru rv A2 rx ry (ko.later l2) q2) hm
/-- a value that is a bool, as a test -/
def wTst (fa : FE) (ρ : List Sl) (S : Store) (K : Bool → Store → Prop) (ex : KX) : Prop := fa ρ S (fun x S1 => match x with | .bl k => K k S1 | _ => False) ex
theorem rep_bl {w : Wd} {v : V} {k : Bool} (r : Rep g w v (.bl k)) : v = .bl k := by cases r; rfl
theorem rep_int {w : Wd} {v : V} {k : Int} (r : Rep g w v (.int k)) : v = .int k := by cases r; rfl
theorem rep_str {w : Wd} {v : V} {k : Str} (r : Rep g w v (.str k)) : v = .str k := by cases r; rfl
theorem rep_non {w : Wd} {v : V} (r : Rep g w v .non) : v = .non := by cases r; rfl
theorem tst_of {t : TE} {tt : TT} (ht : ∀ σ H Q, t σ H (fun x H1 => ∃ c, x = .bl c ∧ Q c H1) → tt σ H Q) (h0 : PT X e tt) (k0 : ∀ σ H Q, rdE g W fa σ H Q → t σ H Q) : ET g X W e (wTst fa) :=
  PT.imp h0 fun σ H Q ⟨w, ρ, S, K, ex, A, xo, ko, q⟩ => ht σ H Q (k0 σ H _ ⟨w, ρ, S, _, ex, A, xo, fun d S' q2 v w' H' l A' r => by
    cases d with
    | bl k => exact ⟨k, rep_bl r, ko k S' q2 w' H' l A'⟩
    | _ => exact q2.elim, q⟩)
theorem tst (h : EV g X W e fe) (he : ∀ whole, isTrue e X.env whole = (do let v ← whole; standAt e.pos; holding [v] (truthy v)) := by intro _; rfl) : ET g X W e (wTst fe) :=
  tst_of (t := rdE g W fe) (fun _ _ _ q => q) (pt_val h he) fun _ _ _ q => q
theorem tcmp {op : CmpOp} {r : RD} (ho : OpD g X (compareOp op) r) (ha : EV g X W a fa) (hb : EV g X W b fb) (hm : behindInMarks op b = false := by first | exact nomark _ | rfl) : ET g X W (.Compare a [op] [b] pos) (wTst (wOp r fa fb)) := by
  refine ⟨fun pins s σ H Q I h => ?_⟩
  obtain ⟨w, ρ, S, K, ex, A, xo, ko, q⟩ := h
  refine wpAny_isTrue_Compare1 (bin2 ha hb (R := fun x y S2 => r x y S2 (fun x S1 => match x with | .bl k => K k S1 | _ => False)) I A xo q fun v u s2 vx vy x y H2 w2 S2 I2 ru rv l2 A2 rx ry q2 => ?_) hm
  refine thn (ho pins s2 σ H2 w2 ρ S2 x y vx vy v u _ (fun z H' => ∃ c, z = .bl c ∧ Q c H') I2 ru rv A2 rx ry (fun d S' q3 v3 w3 H3 l3 A3 r3 => ?_) q2) fun z s3 q3 => ?_
  · cases d with
    | bl k => exact ⟨k, rep_bl r3, ko k S' q3 w3 H3 (l2.trans l3) A3⟩
    | _ => exact q3.elim
  · obtain ⟨zv, H3, I3, r3, c, rfl, q3⟩ := q3
    cases r3
    exact wpAny_truthy_bool ⟨H3, I3, q3⟩
/-! ints -/
def rInt (C : Int → Int → Prop) (f : Int → Int → D) (x y : D) (S : Store) (K : KD) : Prop := match x, y with
  | .int i, .int j => C i j ∧ K (f i j) S
  | _, _ => False
def rInt0 (f : Int → Int → D) (x y : D) (S : Store) (K : KD) : Prop := match x, y with
  | .int i, .int j => K (f i j) S
  | _, _ => False
theorem opInt {sem : Value → Value → Sem Value} {C : Int → Int → Prop} {f : Int → Int → V} {fd : Int → Int → D} (h : OpR X sem (rI C f)) (hr : ∀ w i j, Rep g w (f i j) (fd i j)) : OpD g X sem (rInt C fd) :=
  OpD.of h fun σ H w ρ S x y vx vy K Q A rx ry ko q => by
    unfold rInt at q
    split at q
    · obtain ⟨hc, q⟩ := q
      cases rx
      cases ry
      exact ⟨_, _, rfl, rfl, hc, ko _ _ q _ w H (Le.refl w) A (hr w _ _)⟩
    · exact q.elim
theorem opInt0 {sem : Value → Value → Sem Value} {f : Int → Int → V} {fd : Int → Int → D} (h : OpR X sem (rI0 f)) (hr : ∀ w i j, Rep g w (f i j) (fd i j)) : OpD g X sem (rInt0 fd) :=
  OpD.of h fun σ H w ρ S x y vx vy K Q A rx ry ko q => by
    unfold rInt0 at q
    split at q
    · cases rx
      cases ry
      exact ⟨_, _, rfl, rfl, ko _ _ q _ w H (Le.refl w) A (hr w _ _)⟩
    · exact q.elim
abbrev dAdd : Int → Int → D := fun i j => .int (i + j)
abbrev dSub : Int → Int → D := fun i j => .int (i - j)
abbrev dMul : Int → Int → D := fun i j => .int (i * j)
theorem iadd : OpD g X (binaryOp .Add) (rInt0 fun i j => .int (i + j)) := opInt0 op_add fun _ _ _ => .int _
theorem isub : OpD g X (binaryOp .Sub) (rInt0 fun i j => .int (i - j)) := opInt0 op_sub fun _ _ _ => .int _
theorem imul : OpD g X (binaryOp .Mult) (rInt CMulW fun i j => .int (i * j)) := opInt op_mulW fun _ _ _ => .int _
theorem imulS : OpD g X (binaryOp .Mult) (rInt CMul fun i j => .int (i * j)) := opInt op_mul fun _ _ _ => .int _
theorem ifdiv : OpD g X (binaryOp .FloorDiv) (rInt CDivW fun i j => .int (i / j)) := opInt op_fdivW fun _ _ _ => .int _
theorem imod : OpD g X (binaryOp .Mod) (rInt (fun _ j => 0 < j) fun i j => .int (i % j)) := opInt op_mod fun _ _ _ => .int _
theorem ipow : OpD g X (binaryOp .Pow) (rInt CPow fun i j => .int (i ^ j.toNat)) := opInt op_pow fun _ _ _ => .int _
theorem ilt : OpD g X (compareOp .Lt) (rInt0 fun i j => .bl (decide (i < j))) := opInt0 op_lt fun _ _ _ => .bl _
theorem ile : OpD g X (compareOp .LtE) (rInt0 fun i j => .bl (decide (i ≤ j))) := opInt0 op_le fun _ _ _ => .bl _
theorem igt : OpD g X (compareOp .Gt) (rInt0 fun i j => .bl (decide (j < i))) := opInt0 op_gt fun _ _ _ => .bl _
theorem ige : OpD g X (compareOp .GtE) (rInt0 fun i j => .bl (decide (j ≤ i))) := opInt0 op_ge fun _ _ _ => .bl _
theorem dec_v {i j : Int} : decide (V.int i = V.int j) = decide (i = j) := decide_eq_decide.mpr ⟨fun z => by cases z; rfl, fun z => by rw [z]⟩
theorem ieq : OpD g X (compareOp .Eq) (rInt0 fun i j => .bl (decide (i = j))) :=
  OpD.of op_eq fun σ H w ρ S x y vx vy K Q A rx ry ko q => by
    unfold rInt0 at q
    split at q
    · cases rx
      cases ry
      exact ⟨rfl, by rw [dec_v]; exact ko _ _ q _ w H (Le.refl w) A (.bl _)⟩
    · exact q.elim
theorem ine : OpD g X (compareOp .NotEq) (rInt0 fun i j => .bl (!decide (i = j))) :=
  OpD.of op_ne fun σ H w ρ S x y vx vy K Q A rx ry ko q => by
    unfold rInt0 at q
    split at q
    · cases rx
      cases ry
      exact ⟨rfl, by rw [dec_v]; exact ko _ _ q _ w H (Le.refl w) A (.bl _)⟩
    · exact q.elim

/-! ### and, or, not, if -/
def wAnd (f h : FT) (ρ : List Sl) (S : Store) (K : Bool → Store → Prop) (ex : KX) : Prop := f ρ S (fun b S1 => Br b (h ρ S1 K ex) (K false S1)) ex
def wOr (f h : FT) (ρ : List Sl) (S : Store) (K : Bool → Store → Prop) (ex : KX) : Prop := f ρ S (fun b S1 => Br b (K true S1) (h ρ S1 K ex)) ex
def wNot (f : FT) (ρ : List Sl) (S : Store) (K : Bool → Store → Prop) (ex : KX) : Prop := f ρ S (fun b S1 => K (!b) S1) ex
abbrev EW (g : Sg) (X : Cx) (W : WX) (e : Expr) (f : FT) : Prop := PW X e (rdT g W f)
theorem and1 (ha : ET g X W a ft) : EW g X W (.BoolOp .And [a] pos) ft := pw_and1 ha
theorem or1 (ha : ET g X W a ft) : EW g X W (.BoolOp .Or [a] pos) ft := pw_or1 ha
theorem andc {rest : List Expr} (ha : ET g X W a ft) (hb : EW g X W (.BoolOp .And (b :: rest) pos) fu) : EW g X W (.BoolOp .And (a :: b :: rest) pos) (wAnd ft fu) :=
  PW.imp (pw_and ha hb) fun σ H Q ⟨w, ρ, S, K, ex, A, xo, ko, q⟩ => ⟨w, ρ, S, _, ex, A, xo, fun k S1 q1 w1 H1 l1 A1 => by
    cases k with
    | true => exact ⟨w1, ρ, S1, K, ex, A1, xo.later l1, ko.later l1, q1⟩
    | false => exact ko false S1 q1 w1 H1 l1 A1, q⟩
theorem orc {rest : List Expr} (ha : ET g X W a ft) (hb : EW g X W (.BoolOp .Or (b :: rest) pos) fu) : EW g X W (.BoolOp .Or (a :: b :: rest) pos) (wOr ft fu) :=
  PW.imp (pw_or ha hb) fun σ H Q ⟨w, ρ, S, K, ex, A, xo, ko, q⟩ => ⟨w, ρ, S, _, ex, A, xo, fun k S1 q1 w1 H1 l1 A1 => by
    cases k with
    | true => exact ko true S1 q1 w1 H1 l1 A1
    | false => exact ⟨w1, ρ, S1, K, ex, A1, xo.later l1, ko.later l1, q1⟩, q⟩
theorem EW.et {e : Expr} (h : EW g X W e ft) : ET g X W e ft := PW.pt h
theorem tnot (ha : ET g X W a ft) : ET g X W (.UnaryOp .Not a pos) (wNot ft) :=
  PT.imp (pt_not ha) fun σ H Q ⟨w, ρ, S, K, ex, A, xo, ko, q⟩ => ⟨w, ρ, S, _, ex, A, xo, fun k S1 q1 w1 H1 l1 A1 => ko (!k) S1 q1 w1 H1 l1 A1, q⟩
/-- .. as values -/
def wAndV (f h : FE) (ρ : List Sl) (S : Store) (K : KD) (ex : KX) : Prop := f ρ S (fun x S1 => match x with | .bl b => Br b (h ρ S1 K ex) (K (.bl false) S1) | _ => False) ex
def wOrV (f h : FE) (ρ : List Sl) (S : Store) (K : KD) (ex : KX) : Prop := f ρ S (fun x S1 => match x with | .bl b => Br b (K (.bl true) S1) (h ρ S1 K ex) | _ => False) ex
def wNotV (f : FE) (ρ : List Sl) (S : Store) (K : KD) (ex : KX) : Prop := f ρ S (fun x S1 => match x with | .bl b => K (.bl (!b)) S1 | _ => False) ex
theorem vone {op} (h : EV g X W a fa) : EV g X W (.BoolOp op [a] pos) fa := pe_one h
theorem vand {rest : List Expr} (ha : EV g X W a fa) (hb : EV g X W (.BoolOp .And (b :: rest) pos) fb) : EV g X W (.BoolOp .And (a :: b :: rest) pos) (wAndV fa fb) :=
  PE.imp (pe_and ha hb) fun σ H Q ⟨w, ρ, S, K, ex, A, xo, ko, q⟩ => ⟨w, ρ, S, _, ex, A, xo, fun d S1 q1 v w1 H1 l1 A1 r => by
    cases d with
    | bl k =>
      refine ⟨k, rep_bl r, ?_⟩
      cases k with
      | true => rw [if_pos rfl]; exact ⟨w1, ρ, S1, K, ex, A1, xo.later l1, ko.later l1, q1⟩
      | false => rw [if_neg Bool.false_ne_true]; exact ko _ S1 q1 _ w1 H1 l1 A1 (.bl false)
    | _ => exact q1.elim, q⟩
theorem vor {rest : List Expr} (ha : EV g X W a fa) (hb : EV g X W (.BoolOp .Or (b :: rest) pos) fb) : EV g X W (.BoolOp .Or (a :: b :: rest) pos) (wOrV fa fb) :=
  PE.imp (pe_or ha hb) fun σ H Q ⟨w, ρ, S, K, ex, A, xo, ko, q⟩ => ⟨w, ρ, S, _, ex, A, xo, fun d S1 q1 v w1 H1 l1 A1 r => by
    cases d with
    | bl k =>
      refine ⟨k, rep_bl r, ?_⟩
      cases k with
      | false => rw [if_neg Bool.false_ne_true]; exact ⟨w1, ρ, S1, K, ex, A1, xo.later l1, ko.later l1, q1⟩
      | true => rw [if_pos rfl]; exact ko _ S1 q1 _ w1 H1 l1 A1 (.bl true)
    | _ => exact q1.elim, q⟩
theorem vnot (ha : EV g X W a fa) : EV g X W (.UnaryOp .Not a pos) (wNotV fa) :=
  PE.imp (pe_not ha) fun σ H Q ⟨w, ρ, S, K, ex, A, xo, ko, q⟩ => ⟨w, ρ, S, _, ex, A, xo, fun d S1 q1 v w1 H1 l1 A1 r => by
    cases d with
    | bl k => exact ⟨k, rep_bl r, ko _ S1 q1 _ w1 H1 l1 A1 (.bl (!k))⟩
    | _ => exact q1.elim, q⟩
def wIf (f : FT) (h1 h2 : FE) (ρ : List Sl) (S : Store) (K : KD) (ex : KX) : Prop := f ρ S (fun b S1 => Br b (h1 ρ S1 K ex) (h2 ρ S1 K ex)) ex
theorem eif (hc : ET g X W c ft) (ha : EV g X W a fa) (hb : EV g X W b fb) : EV g X W (.IfExp c a b pos) (wIf ft fa fb) :=
  PE.imp (pe_ifExp hc ha hb) fun σ H Q ⟨w, ρ, S, K, ex, A, xo, ko, q⟩ => ⟨w, ρ, S, _, ex, A, xo, fun k S1 q1 w1 H1 l1 A1 => by
    cases k with
    | true => rw [if_pos rfl]; exact ⟨w1, ρ, S1, K, ex, A1, xo.later l1, ko.later l1, q1⟩
    | false => rw [if_neg Bool.false_ne_true]; exact ⟨w1, ρ, S1, K, ex, A1, xo.later l1, ko.later l1, q1⟩, q⟩
/-- unary minus of an int -/
def wNeg (f : FE) (ρ : List Sl) (S : Store) (K : KD) (ex : KX) : Prop := f ρ S (fun x S1 => match x with | .int i => K (.int (-i)) S1 | _ => False) ex
theorem eneg (ha : EV g X W a fa) : EV g X W (.UnaryOp .USub a pos) (wNeg fa) :=
  PE.imp (pe_un un_neg ha) fun σ H Q ⟨w, ρ, S, K, ex, A, xo, ko, q⟩ => ⟨w, ρ, S, _, ex, A, xo, fun d S1 q1 v w1 H1 l1 A1 r => by
    cases d with
    | int k => exact ⟨k, rep_int r, ko _ S1 q1 _ w1 H1 l1 A1 (.int (-k))⟩
    | _ => exact q1.elim, q⟩
/-- is None -/
def dIsN : D → Bool
  | .non => true
  | _ => false
def wIsN (neg : Bool) (f : FE) (ρ : List Sl) (S : Store) (K : KD) (ex : KX) : Prop := f ρ S (fun x S1 => K (.bl (if neg then !dIsN x else dIsN x)) S1) ex
theorem isN_of {w : Wd} {v : V} {d : D} (r : Rep g w v d) : decide (v = .non) = dIsN d := by cases r <;> rfl
theorem eisN {j pos'} (ha : EV g X W a fa) : EV g X W (.Compare a [.Is] [.Constant .none j pos'] pos) (wIsN false fa) :=
  PE.imp (pe_cmp (pc_isN ha)) fun σ H Q ⟨w, ρ, S, K, ex, A, xo, ko, q⟩ => ⟨w, ρ, S, _, ex, A, xo, fun d S1 q1 v w1 H1 l1 A1 r => by
    show Q (.bl (decide (v = .non))) H1
    rw [isN_of r]
    exact ko _ S1 q1 _ w1 H1 l1 A1 (.bl _), q⟩
theorem enotN {j pos'} (ha : EV g X W a fa) : EV g X W (.Compare a [.IsNot] [.Constant .none j pos'] pos) (wIsN true fa) :=
  PE.imp (pe_cmp (pc_notN ha)) fun σ H Q ⟨w, ρ, S, K, ex, A, xo, ko, q⟩ => ⟨w, ρ, S, _, ex, A, xo, fun d S1 q1 v w1 H1 l1 A1 r => by
    show Q (.bl (!decide (v = .non))) H1
    rw [isN_of r]
    exact ko _ S1 q1 _ w1 H1 l1 A1 (.bl _), q⟩
theorem tisN {j pos'} (ha : EV g X W a fa) : ET g X W (.Compare a [.Is] [.Constant .none j pos'] pos) (wTst (wIsN false fa)) :=
  tst_of (t := tIsN (rdE g W fa)) (fun _ _ _ q => q) (pt_cmp (pc_isN ha)) fun σ H Q ⟨w, ρ, S, K, ex, A, xo, ko, q⟩ => ⟨w, ρ, S, _, ex, A, xo, fun d S1 q1 v w1 H1 l1 A1 r => by
    show Q (.bl (decide (v = .non))) H1
    rw [isN_of r]
    exact ko _ S1 q1 _ w1 H1 l1 A1 (.bl _), q⟩
theorem tnotN {j pos'} (ha : EV g X W a fa) : ET g X W (.Compare a [.IsNot] [.Constant .none j pos'] pos) (wTst (wIsN true fa)) :=
  tst_of (t := tNotN (rdE g W fa)) (fun _ _ _ q => q) (pt_cmp (pc_notN ha)) fun σ H Q ⟨w, ρ, S, K, ex, A, xo, ko, q⟩ => ⟨w, ρ, S, _, ex, A, xo, fun d S1 q1 v w1 H1 l1 A1 r => by
    show Q (.bl (!decide (v = .non))) H1
    rw [isN_of r]
    exact ko _ S1 q1 _ w1 H1 l1 A1 (.bl _), q⟩

/-! ### arguments, tuples, lists -/
def wNil (_ : List Sl) (S : Store) (K : List D → Store → Prop) (_ : KX) : Prop := K [] S
def wCons (f : FE) (h : FA) (ρ : List Sl) (S : Store) (K : List D → Store → Prop) (ex : KX) : Prop := f ρ S (fun x S1 => h ρ S1 (fun xs S2 => K (x :: xs) S2) ex) ex
theorem anil : EA g X W [] wNil := PA.imp pa_nil fun σ H Q ⟨w, ρ, S, K, ex, A, xo, ko, q⟩ => ko [] S q [] w H (Le.refl w) A .nil
theorem acons (ha : EV g X W e fe) (hr : EA g X W es fr) (hs : starEach (e :: es) X.env = (false, eval e X.env) :: starEach es X.env := by rfl) : EA g X W (e :: es) (wCons fe fr) :=
  PA.imp (pa_cons ha hr hs) fun σ H Q ⟨w, ρ, S, K, ex, A, xo, ko, q⟩ => ⟨w, ρ, S, _, ex, A, xo, fun d S1 q1 v w1 H1 l1 A1 r1 =>
    ⟨w1, ρ, S1, _, ex, A1, xo.later l1, fun ds S2 q2 vs w2 H2 l2 A2 r2 => ko _ S2 q2 _ w2 H2 (l1.trans l2) A2 (.cons (r1.mono l2.s) r2), q1⟩, q⟩
def Small (n : Nat) : Prop := n ≤ 1000000
theorem Small.line {n : Nat} (h : Small n) : n ≤ sizeLine := Nat.le_trans h (by decide)
def wTup (f : FA) (ρ : List Sl) (S : Store) (K : KD) (ex : KX) : Prop := f ρ S (fun ds S1 => Small ds.length ∧ K (.tup ds) S1) ex
theorem etup {x1} (h : EA g X W es fr) : EV g X W (.Tuple es x1 pos) (wTup fr) :=
  PE.imp (pe_tup h) fun σ H Q ⟨w, ρ, S, K, ex, A, xo, ko, q⟩ => ⟨w, ρ, S, _, ex, A, xo, fun ds S1 q1 vs w1 H1 l1 A1 r1 => ⟨by rw [r1.length]; exact q1.1.line, fun p hp =>
    ko _ S1 q1.2 _ (w1.add p (.tup vs)) _ (l1.trans (le_add A1.if_ (A1.free hp))) (A1.lay hp) (.tup (SqT.of upd_same) (r1.mono (le_add A1.if_ (A1.free hp)).s))⟩, q⟩
def wLst (f : FA) (ρ : List Sl) (S : Store) (K : List D → Store → Prop) (ex : KX) : Prop := f ρ S (fun ds S1 => Small ds.length ∧ K ds S1) ex
theorem fresh_new {w : Wd} {ρ : List Sl} {S : Store} {σ : L2.St} {H : Hp} {p : Addr} (A : At g w ρ S σ H) (hp : H p = none) : Fresh w ρ S σ p := by
  refine ⟨A.free hp, fun k ok h z => ?_, fun i oi h z => ?_⟩
  · obtain ⟨u, hu⟩ := (A.st k ok h).2.some
    rw [z, hp] at hu
    cases hu
  · obtain ⟨a, h1, _, h3, _⟩ := A.own i oi h
    obtain ⟨u, hu⟩ := h3.some
    rw [h1] at z
    cases z
    rw [hp] at hu
    cases hu
theorem elst (h : EA g X W es fr) : EL g X W (.List es pos) (wLst fr) :=
  PE.imp (pe_lst h) fun σ H Q ⟨w, ρ, S, K, ex, A, xo, ko, q⟩ => ⟨w, ρ, S, _, ex, A, xo, fun ds S1 q1 vs w1 H1 l1 A1 r1 => ⟨by rw [r1.length]; exact q1.1.line, fun p hp =>
    ko _ S1 q1.2 p vs w1 _ l1 (A1.grow (same_new hp)) upd_same (fresh_new A1 hp) r1⟩, q⟩
/-- a new list that stays as it is -/
def wVal (f : FA) (ρ : List Sl) (S : Store) (K : KD) (ex : KX) : Prop := f ρ S (fun ds S1 => K (.lst ds) S1) ex
theorem At.settle {w : Wd} {ρ : List Sl} {S : Store} {σ : L2.St} {H : Hp} {a : Addr} {vs : List V} {ds : List D} (A : At g w ρ S σ H) (h : H a = some (.lst vs)) (f : Fresh w ρ S σ a) (r : Reps g w vs ds) :
    Le w (w.add a (.lst vs)) ∧ At g (w.add a (.lst vs)) ρ S σ H ∧ Rep g (w.add a (.lst vs)) (.ref a) (.lst ds) :=
  ⟨le_add A.if_ f.f, A.fix h f.f f.s f.o, .lst upd_same (r.mono (le_add A.if_ f.f).s)⟩
theorem lval (h : EL g X W e fr) : EV g X W e (wVal fr) :=
  PE.imp h fun σ H Q ⟨w, ρ, S, K, ex, A, xo, ko, q⟩ => ⟨w, ρ, S, _, ex, A, xo, fun ds S1 q1 a vs w1 H1 l1 A1 e1 f1 r1 =>
    ko _ S1 q1 _ _ H1 (l1.trans (A1.settle e1 f1 r1).1) (A1.settle e1 f1 r1).2.1 (A1.settle e1 f1 r1).2.2, q⟩
end

/-! ### statements -/
structure Fin where
  nx : List Sl → Store → Prop
  rt : KD
  bk : List Sl → Store → Prop := fun _ _ => False
  ct : List Sl → Store → Prop := fun _ _ => False
  ex : Exn → List Sl → Store → Prop := fun _ _ _ => False
  rl : List D → Store → Prop := fun _ _ => False
abbrev FS := Fin → List Sl → Store → Prop
structure EOk (g : Sg) (W : WX) (w : Wd) (D : Ends) (d : Fin) : Prop where
  nx : ∀ ρ' S', d.nx ρ' S' → ∀ w' σ' H', Le w w' → At g w' ρ' S' σ' H' → D.nx σ' H'
  rt : ∀ r S', d.rt r S' → ∀ v w' H', Le w w' → At0 g w' S' H' → Rep g w' v r → D.rt v H'
  bk : ∀ ρ' S', d.bk ρ' S' → ∀ w' σ' H', Le w w' → At g w' ρ' S' σ' H' → D.bk σ' H'
  ct : ∀ ρ' S', d.ct ρ' S' → ∀ w' σ' H', Le w w' → At g w' ρ' S' σ' H' → D.ct σ' H'
  ex : ∀ x ρ' S', d.ex x ρ' S' → ∀ w' σ' H' cls dd, Le w w' → At g w' ρ' S' σ' H' → ExcAt g w' H' cls dd x → W cls dd σ' H'
  rl : ∀ ds S', d.rl ds S' → ∀ a vs w' H', Le w w' → At0 g w' S' H' → H' a = some (.lst vs) → Fresh w' [] S' [] a → Reps g w' vs ds → D.rt (.ref a) H'
def rdS (g : Sg) (W : WX) (f : FS) : TS := fun D σ H => ∃ w ρ S d, At g w ρ S σ H ∧ EOk g W w D d ∧ f d ρ S
abbrev ES (g : Sg) (X : Cx) (W : WX) (st : Stmt) (f : FS) : Prop := PS X st (rdS g W f)
abbrev EB (g : Sg) (X : Cx) (W : WX) (st : List Stmt) (f : FS) : Prop := PSs X st (rdS g W f)
theorem EOk.later {g : Sg} {W : WX} {w w' : Wd} {D : Ends} {d : Fin} (l : Le w w') (h : EOk g W w D d) : EOk g W w' D d :=
  ⟨fun ρ S k w2 σ H l2 => h.nx ρ S k w2 σ H (l.trans l2), fun r S k v w2 H l2 => h.rt r S k v w2 H (l.trans l2), fun ρ S k w2 σ H l2 => h.bk ρ S k w2 σ H (l.trans l2), fun ρ S k w2 σ H l2 => h.ct ρ S k w2 σ H (l.trans l2),
    fun x ρ S k w2 σ H c dd l2 => h.ex x ρ S k w2 σ H c dd (l.trans l2), fun ds S k a vs w2 H l2 => h.rl ds S k a vs w2 H (l.trans l2)⟩
theorem EOk.xo {g : Sg} {W : WX} {w : Wd} {D : Ends} {d : Fin} {σ : L2.St} {ρ : List Sl} (h : EOk g W w D d) : XOk g W σ ρ w (fun x S => d.ex x ρ S) := fun x S e w' H' cls dd l A r => h.ex x ρ S e w' σ H' cls dd l A r
theorem At.bare {g : Sg} {w : Wd} {ρ : List Sl} {S : Store} {σ : L2.St} {H : Hp} (A : At g w ρ S σ H) : At0 g w S H :=
  ⟨A.if_, A.fh, A.len, A.st, A.inj, rfl, fun i d h => (by cases i <;> cases h), fun i d h => (by cases i <;> cases h), fun i h => (by cases i <;> cases h)⟩
section
variable {g : Sg} {X : Cx} {W : WX} {st : Stmt} {rest : List Stmt} {e c : Expr} {pos : Pos} {fe : FE} {ft : FT} {fa : FA} {f h : FS}
def wNext (d : Fin) (ρ : List Sl) (S : Store) : Prop := d.nx ρ S
def wSeq (f h : FS) (d : Fin) (ρ : List Sl) (S : Store) : Prop := f { d with nx := h d } ρ S
theorem bnil : EB g X W [] wNext := PSs.imp pss_nil fun D σ H ⟨w, ρ, S, d, A, eo, q⟩ => eo.nx ρ S q w σ H (Le.refl w) A
theorem bcons (h1 : ES g X W st f) (h2 : EB g X W rest h) : EB g X W (st :: rest) (wSeq f h) :=
  PSs.imp (pss_cons h1 h2) fun D σ H ⟨w, ρ, S, d, A, eo, q⟩ => ⟨w, ρ, S, { d with nx := h d }, A, ⟨fun ρ' S' k w' σ' H' l A' => ⟨w', ρ', S', d, A', eo.later l, k⟩, eo.rt, eo.bk, eo.ct, eo.ex, eo.rl⟩, q⟩
theorem bone (h1 : ES g X W st f) : EB g X W [st] f := pss_one h1
def wRet (f : FE) (d : Fin) (ρ : List Sl) (S : Store) : Prop := f ρ S d.rt (fun x S' => d.ex x ρ S')
theorem sret (he : EV g X W e fe) : ES g X W (.Return (some e) pos) (wRet fe) :=
  PS.imp (ps_ret he) fun D σ H ⟨w, ρ, S, d, A, eo, q⟩ => ⟨w, ρ, S, _, _, A, eo.xo, fun r S' k v w' H' l A' rr => eo.rt r S' k v w' H' l A'.bare rr, q⟩
def wRetN (d : Fin) (ρ : List Sl) (S : Store) : Prop := d.rt .non S
theorem sretN : ES g X W (.Return none pos) wRetN := PS.imp ps_retN fun D σ H ⟨w, ρ, S, d, A, eo, q⟩ => eo.rt _ S q _ w H (Le.refl w) A.bare .non
def wIfS (t : FT) (f h : FS) (d : Fin) (ρ : List Sl) (S : Store) : Prop := t ρ S (fun b S' => Br b (f d ρ S') (h d ρ S')) (fun x S' => d.ex x ρ S')
theorem sif {a b : List Stmt} (hc : ET g X W c ft) (ha : EB g X W a f) (hb : EB g X W b h) : ES g X W (.If c a b pos) (wIfS ft f h) :=
  PS.imp (ps_if hc ha hb) fun D σ H ⟨w, ρ, S, d, A, eo, q⟩ => ⟨w, ρ, S, _, _, A, eo.xo, fun k S1 q1 w1 H1 l1 A1 => by
    cases k with
    | true => rw [if_pos rfl]; exact ⟨w1, ρ, S1, d, A1, eo.later l1, q1⟩
    | false => rw [if_neg Bool.false_ne_true]; exact ⟨w1, ρ, S1, d, A1, eo.later l1, q1⟩, q⟩
def wDrop (f : FE) (d : Fin) (ρ : List Sl) (S : Store) : Prop := f ρ S (fun _ S' => d.nx ρ S') (fun x S' => d.ex x ρ S')
theorem sexpr (he : EV g X W e fe) (hs : swapsWith e none pos.line X.env = pure false := by rfl) : ES g X W (.Expr e pos) (wDrop fe) :=
  PS.imp (ps_expr he hs) fun D σ H ⟨w, ρ, S, d, A, eo, q⟩ => ⟨w, ρ, S, _, _, A, eo.xo, fun r S' k v w' H' l A' _ => eo.nx ρ S' k w' σ H' l A', q⟩
theorem spass : ES g X W (.Pass pos) wNext := PS.imp ps_pass fun D σ H ⟨w, ρ, S, d, A, eo, q⟩ => eo.nx ρ S q w σ H (Le.refl w) A
def wBreak (d : Fin) (ρ : List Sl) (S : Store) : Prop := d.bk ρ S
def wCont (d : Fin) (ρ : List Sl) (S : Store) : Prop := d.ct ρ S
theorem sbreak : ES g X W (.Break pos) wBreak := PS.imp ps_break fun D σ H ⟨w, ρ, S, d, A, eo, q⟩ => eo.bk ρ S q w σ H (Le.refl w) A
theorem scont : ES g X W (.Continue pos) wCont := PS.imp ps_continue fun D σ H ⟨w, ρ, S, d, A, eo, q⟩ => eo.ct ρ S q w σ H (Le.refl w) A
def wNever (_ : Fin) (_ : List Sl) (_ : Store) : Prop := False
theorem snever : ES g X W st wNever := PS.imp ps_never fun D σ H ⟨w, ρ, S, d, A, eo, q⟩ => q
/-! a name is given a value -/
theorem xc_put {w : Wd} {ρ : List Sl} {σ : L2.St} {i : Nat} {x : Sl} {u : Option V} (hx : x ≠ .exc) (hl : σ.length = ρ.length) (h : ∀ j, Env.at ρ j = .exc → XcAt g w σ j) (j : Nat) (e : Env.at (Env.put ρ i x) j = .exc) : XcAt g w (σ.set i u) j := by
  rw [Env.at_put] at e
  by_cases c : j = i ∧ i < ρ.length
  · rw [if_pos c] at e; exact absurd e hx
  · rw [if_neg c] at e
    refine (h j e).mono (Sub.refl w) ?_
    by_cases z : i = j
    · subst z
      have n : ¬ i < σ.length := fun q => c ⟨rfl, by rw [← hl]; exact q⟩
      rw [List.set_eq_of_length_le (by omega)]
    · rw [List.getElem?_set_ne z]
theorem xc_out {w : Wd} {ρ : List Sl} {σ : L2.St} {i : Nat} {x : Sl} (hx : x ≠ .exc) (h : ∀ j, Env.at ρ j = .exc → XcAt g w σ j) (j : Nat) (e : Env.at (Env.put ρ i x) j = .exc) : XcAt g w σ j := by
  rw [Env.at_put] at e
  by_cases c : j = i ∧ i < ρ.length
  · rw [if_pos c] at e; exact absurd e hx
  · rw [if_neg c] at e; exact h j e
theorem At.put {w : Wd} {ρ : List Sl} {S : Store} {σ : L2.St} {H : Hp} {i : Nat} {v : V} {d : D} (A : At g w ρ S σ H) (r : Rep g w v d) : At g w (Env.put ρ i (.val d)) S (σ.set i (some v)) H := by
  refine ⟨A.if_, A.fh, A.len, A.st, A.inj, by rw [List.length_set, Env.len_put, A.sl], fun j d' h => ?_, fun j o h => ?_, xc_put (fun z => nomatch z) A.sl A.xc⟩
  · rw [Env.at_put] at h
    by_cases c : j = i ∧ i < ρ.length
    · rw [if_pos c] at h
      cases h
      obtain ⟨rfl, c⟩ := c
      exact ⟨v, List.getElem?_set_self (by rw [A.sl]; exact c), r⟩
    · rw [if_neg c] at h
      obtain ⟨v', h1, h2⟩ := A.val j d' h
      refine ⟨v', ?_, h2⟩
      by_cases e : j = i
      · subst e
        have : ¬ j < ρ.length := fun z => c ⟨rfl, z⟩
        have z := (List.getElem?_eq_some_iff.mp h1).1
        rw [A.sl] at z
        exact absurd z this
      · rw [List.getElem?_set_ne (Ne.symm e)]
        exact h1
  · have ne : j ≠ i ∧ Env.at ρ j = .own o := by
      rw [Env.at_put] at h
      by_cases c : j = i ∧ i < ρ.length
      · rw [if_pos c] at h; cases h
      · rw [if_neg c] at h
        refine ⟨fun e => ?_, h⟩
        subst e
        obtain ⟨a, h1, _⟩ := A.own j o h
        have z := (List.getElem?_eq_some_iff.mp h1).1
        rw [A.sl] at z
        exact c ⟨rfl, z⟩
    obtain ⟨a, h1, h2, h3, h4, h5⟩ := A.own j o ne.2
    refine ⟨a, by rw [List.getElem?_set_ne (Ne.symm ne.1)]; exact h1, h2, h3, h4, fun k ok hk hs => ?_⟩
    rw [Env.at_put] at hk
    by_cases c : k = i ∧ i < ρ.length
    · rw [if_pos c] at hk; cases hk
    · rw [if_neg c] at hk
      by_cases e : k = i
      · subst e
        obtain ⟨a', q1, _⟩ := A.own k ok hk
        have z := (List.getElem?_eq_some_iff.mp q1).1
        rw [A.sl] at z
        exact absurd ⟨rfl, z⟩ c
      · rw [List.getElem?_set_ne (Ne.symm e)] at hs
        exact h5 k ok hk hs
def wSet (i : Nat) (f : FE) (d : Fin) (ρ : List Sl) (S : Store) : Prop := f ρ S (fun x S' => d.nx (Env.put ρ i (.val x)) S') (fun x S' => d.ex x ρ S')
theorem sset {i : Nat} {x : Str} {pos' : Pos} (hN : X.N.Nodup) (hi : X.N[i]? = some x) (hx : Loc X.env.scope x) (he : EV g X W e fe) (hs : swapsWith e (some (.Name x pos')) pos.line X.env = pure false := by rfl)
    (hf : X.fn x = true ∨ X.env.scope.names.lookup x = some .local := by first | exact .inl rfl | exact .inr rfl | assumption) : ES g X W (.Assign [.Name x pos'] e pos) (wSet i fe) :=
  PS.imp (ps_set hN hi hx he hs hf) fun D σ H ⟨w, ρ, S, d, A, eo, q⟩ => ⟨w, ρ, S, _, _, A, eo.xo, fun r S' k v w' H' l A' rr => eo.nx _ S' k w' _ H' l (A'.put rr), q⟩
end
end R3

/-! R3c: own objects, sequences, calls, defs, new instances. -/
namespace R3
open PySem PySem.Spec PyProof.Rows L2

theorem Env.put_put : ∀ (ρ : List Sl) (i : Nat) (x y : Sl), Env.put (Env.put ρ i x) i y = Env.put ρ i y
  | [], _, _, _ => rfl
  | _ :: _, 0, _, _ => rfl
  | s :: r, i + 1, x, y => congrArg (s :: ·) (Env.put_put r i x y)
section
variable {g : Sg} {w : Wd} {ρ : List Sl} {S : Store} {σ : L2.St} {H : Hp}
theorem At.islot {i : Nat} {o : SO} (A : At g w ρ S σ H) (h : Env.at ρ i = .own o) : i < ρ.length := by
  obtain ⟨a, h1, _⟩ := A.own i o h
  have z := (List.getElem?_eq_some_iff.mp h1).1
  rw [A.sl] at z
  exact z
/-- a slot is told an object of its own -/
theorem At.putOwn {i : Nat} {a : Addr} {o : SO} (A : At g w ρ S σ H) (hi : i < ρ.length) (ho : ObjAt g w H a o) (f : Fresh w ρ S σ a) : At g w (Env.put ρ i (.own o)) S (σ.set i (some (.ref a))) H := by
  have hiσ : i < σ.length := by rw [A.sl]; exact hi
  refine ⟨A.if_, A.fh, A.len, A.st, A.inj, by rw [List.length_set, Env.len_put, A.sl], fun j d h => ?_, fun j oj h => ?_, xc_put (fun z => nomatch z) A.sl A.xc⟩
  · rw [Env.at_put] at h
    by_cases c : j = i ∧ i < ρ.length
    · rw [if_pos c] at h; cases h
    · rw [if_neg c] at h
      have ne : j ≠ i := fun e => c ⟨e, hi⟩
      obtain ⟨v, h1, h2⟩ := A.val j d h
      exact ⟨v, by rw [List.getElem?_set_ne (Ne.symm ne)]; exact h1, h2⟩
  · rw [Env.at_put] at h
    by_cases c : j = i ∧ i < ρ.length
    · rw [if_pos c] at h
      cases h
      obtain ⟨rfl, _⟩ := c
      refine ⟨a, List.getElem?_set_self hiσ, f.f, ho, f.s, fun k ok hk hs => ?_⟩
      rw [Env.at_put] at hk
      by_cases c2 : k = j ∧ j < ρ.length
      · exact c2.1
      · rw [if_neg c2] at hk
        have ne : k ≠ j := fun e => c2 ⟨e, hi⟩
        rw [List.getElem?_set_ne (Ne.symm ne)] at hs
        exact absurd hs (f.o k ok hk)
    · rw [if_neg c] at h
      have ne : j ≠ i := fun e => c ⟨e, hi⟩
      obtain ⟨b, h1, h2, h3, h4, h5⟩ := A.own j oj h
      refine ⟨b, by rw [List.getElem?_set_ne (Ne.symm ne)]; exact h1, h2, h3, h4, fun k ok hk hs => ?_⟩
      rw [Env.at_put] at hk
      by_cases c2 : k = i ∧ i < ρ.length
      · obtain ⟨rfl, _⟩ := c2
        rw [List.getElem?_set_self hiσ] at hs
        cases hs
        exact absurd h1 (f.o j oj h)
      · rw [if_neg c2] at hk
        have ne2 : k ≠ i := fun e => c2 ⟨e, hi⟩
        rw [List.getElem?_set_ne (Ne.symm ne2)] at hs
        exact h5 k ok hk hs
/-- an object of the frame's own is changed -/
theorem At.mut {i : Nat} {a : Addr} {o o' : SO} {u : HO} (A : At g w ρ S σ H) (h : Env.at ρ i = .own o) (hs : σ[i]? = some (some (.ref a))) (ho : ObjAt g w (upd H a u) a o') : At g w (Env.put ρ i (.own o')) S σ (upd H a u) := by
  have hi := A.islot h
  obtain ⟨b, h1, h2, h3, h4, h5⟩ := A.own i o h
  rw [hs] at h1
  cases h1
  refine ⟨A.if_, fun b u' e => ?_, A.len, fun k ok hk => ?_, A.inj, by rw [Env.len_put]; exact A.sl, fun j d hj => ?_, fun j oj hj => ?_, xc_out (fun z => nomatch z) A.xc⟩
  · have ne : b ≠ a := fun z => by rw [z, h2] at e; cases e
    rw [upd_ne ne]
    exact A.fh b u' e
  · obtain ⟨q1, q2⟩ := A.st k ok hk
    exact ⟨q1, q2.mono (Sub.refl w) (upd_ne (h4 k ok hk))⟩
  · rw [Env.at_put] at hj
    by_cases c : j = i ∧ i < ρ.length
    · rw [if_pos c] at hj; cases hj
    · rw [if_neg c] at hj
      exact A.val j d hj
  · rw [Env.at_put] at hj
    by_cases c : j = i ∧ i < ρ.length
    · rw [if_pos c] at hj
      cases hj
      obtain ⟨rfl, _⟩ := c
      refine ⟨a, hs, h2, ho, h4, fun k ok hk hks => ?_⟩
      rw [Env.at_put] at hk
      by_cases c2 : k = j ∧ j < ρ.length
      · exact c2.1
      · rw [if_neg c2] at hk
        exact h5 k ok hk hks
    · rw [if_neg c] at hj
      obtain ⟨b, q1, q2, q3, q4, q5⟩ := A.own j oj hj
      have ne : b ≠ a := fun z => by
        subst z
        exact c ⟨h5 j oj hj q1, hi⟩
      refine ⟨b, q1, q2, q3.mono (Sub.refl w) (upd_ne ne), q4, fun k ok hk hks => ?_⟩
      rw [Env.at_put] at hk
      by_cases c2 : k = i ∧ i < ρ.length
      · obtain ⟨rfl, _⟩ := c2
        rw [hs] at hks
        cases hks
        exact absurd rfl ne
      · rw [if_neg c2] at hk
        exact q5 k ok hk hks
/-- an own list is a value from now on -/
theorem At.freeze {i : Nat} {ds : List D} (A : At g w ρ S σ H) (h : Env.at ρ i = .own (.lst ds)) : ∃ w', Le w w' ∧ At g w' (Env.put ρ i (.val (.lst ds))) S σ H := by
  have hi := A.islot h
  obtain ⟨a, h1, h2, ⟨vs, e, r⟩, h4, h5⟩ := A.own i _ h
  have B : At g w (Env.put ρ i .no) S σ H := by
    refine ⟨A.if_, A.fh, A.len, A.st, A.inj, by rw [Env.len_put]; exact A.sl, fun j d hj => ?_, fun j oj hj => ?_, xc_out (fun z => nomatch z) A.xc⟩
    · rw [Env.at_put] at hj
      by_cases c : j = i ∧ i < ρ.length
      · rw [if_pos c] at hj; cases hj
      · rw [if_neg c] at hj; exact A.val j d hj
    · rw [Env.at_put] at hj
      by_cases c : j = i ∧ i < ρ.length
      · rw [if_pos c] at hj; cases hj
      · rw [if_neg c] at hj
        obtain ⟨b, q1, q2, q3, q4, q5⟩ := A.own j oj hj
        refine ⟨b, q1, q2, q3, q4, fun k ok hk hks => ?_⟩
        rw [Env.at_put] at hk
        by_cases c2 : k = i ∧ i < ρ.length
        · rw [if_pos c2] at hk; cases hk
        · rw [if_neg c2] at hk; exact q5 k ok hk hks
  have fr : Fresh w (Env.put ρ i .no) S σ a := ⟨h2, h4, fun j oj hj hs => by
    rw [Env.at_put] at hj
    by_cases c : j = i ∧ i < ρ.length
    · rw [if_pos c] at hj; cases hj
    · rw [if_neg c] at hj
      exact c ⟨h5 j oj hj hs, hi⟩⟩
  obtain ⟨l, B2, rr⟩ := B.settle e fr r
  refine ⟨_, l, ?_⟩
  have B3 := B2.put (i := i) rr
  have e1 : Env.put (Env.put ρ i .no) i (.val (.lst ds)) = Env.put ρ i (.val (.lst ds)) := Env.put_put ρ i _ _
  have e2 : σ.set i (some (.ref a)) = σ := by
    refine List.ext_getElem? fun j => ?_
    by_cases c : j = i
    · subst c
      rw [List.getElem?_set_self (by rw [A.sl]; exact hi), h1]
    · rw [List.getElem?_set_ne (Ne.symm c)]
  rw [e1, e2] at B3
  exact B3
/-- an object of the store is changed -/
theorem At.write {k : Nat} {o o' : SO} {u : HO} (A : At g w ρ S σ H) (h : S[k]? = some (some o)) (ho : ObjAt g w (upd H (w.φ k) u) (w.φ k) o') : At g w ρ (S.set k (some o')) σ (upd H (w.φ k) u) := by
  obtain ⟨h2, h3⟩ := A.st k o h
  have hk : k < S.length := (List.getElem?_eq_some_iff.mp h).1
  have back : ∀ j oj, (S.set k (some o'))[j]? = some (some oj) → ∃ oj', S[j]? = some (some oj') := fun j oj hj => by
    by_cases c : j = k
    · subst c; exact ⟨o, h⟩
    · rw [List.getElem?_set_ne (Ne.symm c)] at hj; exact ⟨oj, hj⟩
  refine ⟨A.if_, fun b u' e => ?_, by rw [List.length_set]; exact A.len, fun j oj hj => ?_, fun j1 j2 o1 o2 e1 e2 e3 => ?_, A.sl, A.val, fun j oj hj => ?_, A.xc⟩
  · have ne : b ≠ w.φ k := fun z => by rw [z, h2] at e; cases e
    rw [upd_ne ne]
    exact A.fh b u' e
  · by_cases c : j = k
    · subst c
      rw [List.getElem?_set_self hk] at hj
      cases hj
      exact ⟨h2, ho⟩
    · rw [List.getElem?_set_ne (Ne.symm c)] at hj
      obtain ⟨q1, q2⟩ := A.st j oj hj
      exact ⟨q1, q2.mono (Sub.refl w) (upd_ne fun z => c (A.inj j k _ _ hj h z))⟩
  · obtain ⟨p1, q1⟩ := back j1 o1 e1
    obtain ⟨p2, q2⟩ := back j2 o2 e2
    exact A.inj j1 j2 p1 p2 q1 q2 e3
  · obtain ⟨b, q1, q2, q3, q4, q5⟩ := A.own j oj hj
    refine ⟨b, q1, q2, q3.mono (Sub.refl w) (upd_ne (Ne.symm (q4 k o h))), fun j2 o2 e2 => ?_, q5⟩
    obtain ⟨p2, z2⟩ := back j2 o2 e2
    exact q4 j2 p2 z2
/-- a fresh object joins the store -/
theorem At.join {a : Addr} {o : SO} (A : At g w ρ S σ H) (ho : ObjAt g w H a o) (f : Fresh w ρ S σ a) :
    ∃ w', Le w w' ∧ w'.φ S.length = a ∧ w'.n = S.length + 1 ∧ At g w' ρ (S ++ [some o]) σ H := by
  let w' : Wd := { w with φ := fun k => if k = S.length then a else w.φ k, n := S.length + 1 }
  have sub : Sub w w' := ⟨fun _ _ z => z, fun k hk => if_neg (by rw [A.len]; exact Nat.ne_of_lt hk), by show w.n ≤ S.length + 1; rw [A.len]; exact Nat.le_succ _⟩
  have φn : w'.φ S.length = a := if_pos rfl
  have φo : ∀ k, k < S.length → w'.φ k = w.φ k := fun k hk => if_neg (Nat.ne_of_lt hk)
  have look : ∀ k ok, (S ++ [some o])[k]? = some (some ok) → (k < S.length ∧ S[k]? = some (some ok)) ∨ (k = S.length ∧ ok = o) := fun k ok h => by
    by_cases c : k < S.length
    · rw [List.getElem?_append_left c] at h
      exact .inl ⟨c, h⟩
    · rw [List.getElem?_append_right (by omega)] at h
      have : k - S.length = 0 := by
        cases e : k - S.length with
        | zero => rfl
        | succ n => rw [e] at h; simp at h
      rw [this] at h
      simp at h
      exact .inr ⟨by omega, h.symm⟩
  refine ⟨w', ⟨sub, fun _ _ z => z, fun _ z _ => z⟩, φn, rfl, A.if_, A.fh, by rw [List.length_append]; rfl, fun k ok h => ?_, fun j k oj ok hj hk e => ?_, A.sl, fun i d h => ?_, fun i oi h => ?_, fun i h => (A.xc i h).mono sub rfl⟩
  · rcases look k ok h with ⟨c, h⟩ | ⟨rfl, rfl⟩
    · obtain ⟨q1, q2⟩ := A.st k ok h
      rw [φo k c]
      exact ⟨q1, q2.mono sub rfl⟩
    · rw [φn]
      exact ⟨f.f, ho.mono sub rfl⟩
  · rcases look j oj hj with ⟨c1, h1⟩ | ⟨rfl, rfl⟩
    · rcases look k ok hk with ⟨c2, h2⟩ | ⟨rfl, rfl⟩
      · rw [φo j c1, φo k c2] at e
        exact A.inj j k oj ok h1 h2 e
      · rw [φo j c1, φn] at e
        exact absurd e (f.s j oj h1)
    · rcases look k ok hk with ⟨c2, h2⟩ | ⟨rfl, rfl⟩
      · rw [φo k c2, φn] at e
        exact absurd e.symm (f.s k ok h2)
      · rfl
  · obtain ⟨v, h1, h2⟩ := A.val i d h
    exact ⟨v, h1, h2.mono sub⟩
  · obtain ⟨b, q1, q2, q3, q4, q5⟩ := A.own i oi h
    refine ⟨b, q1, q2, q3.mono sub rfl, fun k ok hk => ?_, q5⟩
    rcases look k ok hk with ⟨c, hk⟩ | ⟨rfl, rfl⟩
    · rw [φo k c]; exact q4 k ok hk
    · rw [φn]
      intro z
      subst z
      exact f.o i oi h q1
end

section
variable {g : Sg} {X : Cx} {W : WX} {a b c e : Expr} {pos : Pos} {fa fb fe : FE} {es : List Expr} {fr : FA} {ft fu : FT} {st : Stmt} {rest : List Stmt} {f h : FS}
/-! ### x = a new list, an own one; a value again -/
def wOwn (i : Nat) (f : FA) (d : Fin) (ρ : List Sl) (S : Store) : Prop := f ρ S (fun ds S' => d.nx (Env.put ρ i (.own (.lst ds))) S') (fun x S' => d.ex x ρ S')
theorem sown {i : Nat} {x : Str} {pos' : Pos} (hN : X.N.Nodup) (hi : X.N[i]? = some x) (hx : Loc X.env.scope x) (he : EL g X W e fr) (hs : swapsWith e (some (.Name x pos')) pos.line X.env = pure false := by rfl)
    (hf : X.fn x = true ∨ X.env.scope.names.lookup x = some .local := by first | exact .inl rfl | exact .inr rfl | assumption) : ES g X W (.Assign [.Name x pos'] e pos) (fun d ρ S => i < ρ.length ∧ wOwn i fr d ρ S) :=
  PS.imp (ps_set hN hi hx he hs hf) fun D σ H ⟨w, ρ, S, d, A, eo, hl, q⟩ => ⟨w, ρ, S, _, _, A, eo.xo, fun ds S' k a vs w' H' l A' e1 f1 r1 => eo.nx _ S' k w' _ H' l (A'.putOwn (o := .lst ds) hl ⟨vs, e1, r1⟩ f1), q⟩
def wFrz (i : Nat) (f : FS) (d : Fin) (ρ : List Sl) (S : Store) : Prop := match Env.at ρ i with
  | .own (.lst ds) => f d (Env.put ρ i (.val (.lst ds))) S
  | _ => False
theorem bfrz (i : Nat) (h1 : EB g X W rest f) : EB g X W rest (wFrz i f) := PSs.imp h1 fun D σ H ⟨w, ρ, S, d, A, eo, q⟩ => by
  unfold wFrz at q
  split at q
  · rename_i ds hs
    obtain ⟨w', l, A'⟩ := A.freeze hs
    exact ⟨w', _, S, d, A', eo.later l, q⟩
  · exact q.elim

/-- xs.append(e), xs an own list in slot i -/
def wApp (i : Nat) (f : FE) (d : Fin) (ρ : List Sl) (S : Store) : Prop := match Env.at ρ i with
  | .own (.lst ds) => f ρ S (fun x S' => Small (ds.length + 1) ∧ d.nx (Env.put ρ i (.own (.lst (ds ++ [x])))) S') (fun x S' => d.ex x ρ S')
  | _ => False
theorem Small.lt {n : Nat} (h : Small (n + 1)) : n < sizeLine := Nat.lt_of_lt_of_le (Nat.lt_of_succ_le h) (by decide)
theorem sapp {i : Nat} (hp : PS X st (tDrop (tBM X.K "list" rAppend (tVar i) (tCons (rdE g W fe) tNil)))) : ES g X W st (wApp i fe) :=
  PS.imp hp fun D σ H ⟨w, ρ, S, d, A, eo, q⟩ => by
    unfold wApp at q
    split at q
    · rename_i ds hc
      obtain ⟨a, h1, h2, ⟨vs, e1, r1⟩, h4, h5⟩ := A.own i _ hc
      refine ⟨.ref a, h1, .inl ⟨rfl, vs, SqL.of e1⟩, ?_⟩
      refine ⟨w, ρ, S, _, _, A, eo.xo, fun x S' q2 v w' H' l A' rr => ?_, q⟩
      obtain ⟨a', g1, g2, ⟨vs', e2, r2⟩, g4, g5⟩ := A'.own i _ hc
      rw [h1] at g1
      cases g1
      refine ⟨a, vs', v, rfl, rfl, e2, by rw [r2.length]; exact q2.1.lt, ?_⟩
      exact eo.nx _ S' q2.2 w' σ _ l (A'.mut (o' := .lst (ds ++ [x])) hc h1 ⟨_, upd_same, r2.app (.one rr)⟩)
    · exact q.elim
/-- xs.clear(), xs an own list -/
def wClear (i : Nat) (d : Fin) (ρ : List Sl) (S : Store) : Prop := match Env.at ρ i with
  | .own (.lst ds) => d.nx (Env.put ρ i (.own (.lst []))) S
  | _ => False
/-- xs[j] = v -/
def wPutIx (i : Nat) (fv fj : FE) (d : Fin) (ρ : List Sl) (S : Store) : Prop := match Env.at ρ i with
  | .own (.lst ds) => fv ρ S (fun x S1 => fj ρ S1 (fun y S2 => match y with
      | .int k => ∃ j, ixN ds.length k = some j ∧ d.nx (Env.put ρ i (.own (.lst (ds.set j x)))) S2
      | _ => False) (fun x S' => d.ex x ρ S')) (fun x S' => d.ex x ρ S')
  | _ => False
theorem sputix {i : Nat} {fv fj : FE} (hp : PS X st (tAsg (rdE g W fv) (gSub (tVar i) (rdE g W fj) rSetL))) : ES g X W st (wPutIx i fv fj) :=
  PS.imp hp fun D σ H ⟨w, ρ, S, d, A, eo, q⟩ => by
    unfold wPutIx at q
    split at q
    · rename_i ds hc
      refine ⟨w, ρ, S, _, _, A, eo.xo, fun x S1 q1 v w1 H1 l1 A1 r1 => ?_, q⟩
      obtain ⟨a, h1, h2, ⟨vs, e1, rr⟩, h4, h5⟩ := A1.own i _ hc
      refine ⟨.ref a, h1, ?_⟩
      refine ⟨w1, ρ, S1, _, _, A1, (eo.later l1).xo, fun y S2 q2 vy w2 H2 l2 A2 r2 => ?_, q1⟩
      cases y with
      | int k =>
        obtain ⟨j, hj, q2⟩ := q2
        obtain ⟨a', g1, g2, ⟨vs', e2, r2'⟩, g4, g5⟩ := A2.own i _ hc
        rw [h1] at g1
        cases g1
        refine ⟨a, vs', k, j, rfl, rep_int r2, e2, by rw [r2'.length]; exact hj, ?_⟩
        exact eo.nx _ S2 q2 w2 σ _ (l1.trans l2) (A2.mut (o' := .lst (ds.set j x)) hc h1 ⟨_, upd_same, Reps.set (r1.mono l2.s) j r2'⟩)
      | _ => exact q2.elim
    · exact q.elim
/-- xs[j] = v, xs a list of the store -/
def rPutD (x o y : D) (S : Store) (K : Store → Prop) : Prop := match o, y with
  | .ref n, .int k => ∃ ds, S[n]? = some (some (.lst ds)) ∧ ∃ j, ixN ds.length k = some j ∧ K (S.set n (some (.lst (ds.set j x))))
  | _, _ => False
def wPutRef (fv fo fj : FE) (d : Fin) (ρ : List Sl) (S : Store) : Prop := fv ρ S (fun x S1 => fo ρ S1 (fun o S2 => fj ρ S2 (fun y S3 => rPutD x o y S3 (fun S4 => d.nx ρ S4)) (fun x S' => d.ex x ρ S')) (fun x S' => d.ex x ρ S')) (fun x S' => d.ex x ρ S')
theorem rep_ref {w : Wd} {v : V} {k : Nat} (r : Rep g w v (.ref k)) : v = .ref (w.φ k) ∧ k < w.n := by cases r with | ref h => exact ⟨rfl, h⟩
theorem sputref {fv fo fj : FE} (hp : PS X st (tAsg (rdE g W fv) (gSub (rdE g W fo) (rdE g W fj) rSetL))) : ES g X W st (wPutRef fv fo fj) :=
  PS.imp hp fun D σ H ⟨w, ρ, S, d, A, eo, q⟩ => by
    refine ⟨w, ρ, S, _, _, A, eo.xo, fun x S1 q1 v w1 H1 l1 A1 r1 => ?_, q⟩
    refine ⟨w1, ρ, S1, _, _, A1, (eo.later l1).xo, fun o S2 q2 vo w2 H2 l2 A2 r2 => ?_, q1⟩
    refine ⟨w2, ρ, S2, _, _, A2, (eo.later (l1.trans l2)).xo, fun y S3 q3 vy w3 H3 l3 A3 r3 => ?_, q2⟩
    cases o with
    | ref n =>
      cases y with
      | int k =>
        obtain ⟨ds, hs, j, hj, q3⟩ := q3
        obtain ⟨e1, hn⟩ := rep_ref (r2.mono l3.s)
        obtain ⟨h2, vs, e2, rr⟩ := A3.st n _ hs
        refine ⟨w3.φ n, vs, k, j, e1, rep_int r3, e2, by rw [rr.length]; exact hj, ?_⟩
        exact eo.nx ρ _ q3 w3 σ _ (l1.trans (l2.trans l3)) (A3.write (o' := .lst (ds.set j x)) hs ⟨_, upd_same, Reps.set (r1.mono (l2.trans l3).s) j rr⟩)
      | _ => exact q3.elim
    | _ => cases y <;> exact q3.elim

/-! ### subscripts -/
theorem Reps.atI {w : Wd} {vs : List V} {ds : List D} {i : Int} {d : D} (r : Reps g w vs ds) (h : L2.atI ds i = some d) : ∃ v, L2.atI vs i = some v ∧ Rep g w v d := by
  unfold L2.atI at h ⊢
  rw [r.length]
  cases e : ixN ds.length i with
  | none => rw [e] at h; cases h
  | some j =>
    rw [e] at h
    obtain ⟨v, h1, h2⟩ := r.got (show ds[j]? = some d from h)
    exact ⟨v, h1, h2⟩
def rIxD (x y : D) (S : Store) (K : KD) : Prop := match x, y with
  | .lst xs, .int i => ∃ d, atI xs i = some d ∧ K d S
  | .tup xs, .int i => ∃ d, atI xs i = some d ∧ K d S
  | .str z, .int i => ∃ c, z.length ≤ sizeLine ∧ atI z.cps.toList i = some c ∧ K (.str ⟨#[c]⟩) S
  | .ref n, .int i => ∃ xs, S[n]? = some (some (.lst xs)) ∧ ∃ d, atI xs i = some d ∧ K d S
  | _, _ => False
theorem eix (ha : EV g X W a fa) (hb : EV g X W b fb) (hK : g.K = X.K) (hs : PlainIx b := by exact fun _ _ => rfl) : EV g X W (.Subscript a b pos) (wOp rIxD fa fb) := by
  refine ⟨fun pins s σ H Q I h => ?_⟩
  obtain ⟨w, ρ, S, K, ex, A, xo, ko, q⟩ := h
  refine Subscript_ (bin2 ha hb (R := fun x y S2 => rIxD x y S2 K) I A xo q fun v u s2 vx vy x y H2 w2 S2 I2 ru rv l2 A2 rx ry q2 => ?_)
  have key : rIx X.K vx vy H2 Q := by
    unfold rIxD at q2
    split at q2
    · obtain ⟨d, hd, q2⟩ := q2
      cases rx with
      | lst hh rr =>
        obtain ⟨v, h1, h2⟩ := rr.atI hd
        cases ry
        exact .inl ⟨_, _, _, v, rfl, rfl, SqL.of (A2.ih _ _ hh), h1, ko _ _ q2 _ w2 H2 l2 A2 h2⟩
    · obtain ⟨d, hd, q2⟩ := q2
      cases rx with
      | tup hh rr =>
        obtain ⟨v, h1, h2⟩ := rr.atI hd
        cases ry
        exact .inr (.inl ⟨_, _, _, v, rfl, rfl, by rw [← hK]; exact A2.t hh, h1, ko _ _ q2 _ w2 H2 l2 A2 h2⟩)
    · obtain ⟨c, hz, hc, q2⟩ := q2
      cases rx
      cases ry
      exact .inr (.inr ⟨_, _, c, rfl, rfl, hz, hc, ko _ _ q2 _ w2 H2 l2 A2 (.str _)⟩)
    · rename_i n i
      obtain ⟨xs, hS, d, hd, q2⟩ := q2
      obtain ⟨e1, hn⟩ := rep_ref rx
      obtain ⟨_, vs, e2, rr⟩ := A2.st n _ hS
      obtain ⟨v, h1, h2⟩ := rr.atI hd
      cases ry
      exact .inl ⟨_, _, _, v, e1, rfl, SqL.of e2, h1, ko _ _ q2 _ w2 H2 l2 A2 h2⟩
    · exact q2.elim
  exact ix_seq a b pins s2 σ H2 vx vy v u Q I2 ru rv key (hs _ _)
/-- x[j], x an own list in slot i -/
def wIxO (i : Nat) (fb : FE) (ρ : List Sl) (S : Store) (K : KD) (ex : KX) : Prop := match Env.at ρ i with
  | .own (.lst ds) => fb ρ S (fun y S1 => match y with
    | .int k => ∃ d, atI ds k = some d ∧ K d S1
    | _ => False) ex
  | _ => False
theorem eixo {i : Nat} (h0 : PE X e (tOp (rIxL X.K) (tVar i) (rdE g W fb))) : EV g X W e (wIxO i fb) := PE.imp h0 fun σ H Q ⟨w, ρ, S, K, ex, A, xo, ko, q⟩ => by
  unfold wIxO at q
  split at q
  · rename_i ds hc
    obtain ⟨a, h1, h2, ⟨vs, e1, r1⟩, h4, h5⟩ := A.own i _ hc
    refine ⟨.ref a, h1, w, ρ, S, _, ex, A, xo, fun y S1 q1 vy w1 H1 l1 A1 ry => ?_, q⟩
    cases y with
    | int k =>
      obtain ⟨d, hd, q1⟩ := q1
      obtain ⟨a', g1, g2, ⟨vs', e2, r2⟩, g4, g5⟩ := A1.own i _ hc
      rw [h1] at g1
      cases g1
      obtain ⟨v, z1, z2⟩ := r2.atI hd
      exact ⟨a, vs', k, v, rfl, rep_int ry, SqL.of e2, z1, ko _ _ q1 _ w1 H1 l1 A1 z2⟩
    | _ => exact q1.elim
  · exact q.elim

/-! ### calls of built-ins by values -/
def CallD (g : Sg) (X : Cx) (f : Value) (r : List D → Store → KD → Prop) : Prop :=
  ∀ (pins : List (Addr × Obj)) (s : Shared) (σ : L2.St) (H : Hp) (w : Wd) (ρ : List Sl) (S : Store) (ds : List D) (vs : List V) (us : List Value) (K : KD) (Q : VK), Inv X pins σ H s → Vals vs us → At g w ρ S σ H → Reps g w vs ds →
    KOk g w ρ σ K Q → r ds S K → wpAny (model X.prog X.w) X.A (call f us) (EP X pins σ Q) X.xe s
theorem CallD.of {fv : Value} {r : List D → Store → KD → Prop} {r2 : List V → Hp → VK → Prop} (h : CallR X fv r2)
    (k : ∀ (σ : L2.St) (H : Hp) (w : Wd) (ρ : List Sl) (S : Store) (ds : List D) (vs : List V) (K : KD) (Q : VK), At g w ρ S σ H → Reps g w vs ds → KOk g w ρ σ K Q → r ds S K → r2 vs H Q) : CallD g X fv r :=
  fun pins s σ H w ρ S ds vs us K Q I rv A rr ko q => h pins s σ H vs us Q I rv (k σ H w ρ S ds vs K Q A rr ko q)
def wCB (r : List D → Store → KD → Prop) (f : FA) (ρ : List Sl) (S : Store) (K : KD) (ex : KX) : Prop := f ρ S (fun ds S1 => r ds S1 K) ex
theorem rdA_run {es : List Expr} (ha : EA g X W es fr) {pins : List (Addr × Obj)} {s : Shared} {σ : L2.St} {H : Hp} {w : Wd} {ρ : List Sl} {S : Store} {K : List D → Store → Prop} {ex : KX} (pos : Pos) (I : Inv X pins σ H s) (A : At g w ρ S σ H) (xo : XOk g W σ ρ w ex) (q : fr ρ S K ex) :
    wpAny (model X.prog X.w) X.A (spliced (backTo pos (starEach es X.env))) (fun us s1 => ∃ vs H1 w1 ds S1, Inv X pins σ H1 s1 ∧ Vals vs us ∧ Le w w1 ∧ At g w1 ρ S1 σ H1 ∧ Reps g w1 vs ds ∧ K ds S1) X.xe s := by
  refine thn (ha.run pos pins s σ H (fun vs H1 => ∃ w1 ds S1, Le w w1 ∧ At g w1 ρ S1 σ H1 ∧ Reps g w1 vs ds ∧ K ds S1) I ⟨w, ρ, S, K, ex, A, xo, fun ds S1 k vs w1 H1 l1 A1 r1 => ⟨w1, ds, S1, l1, A1, r1, k⟩, q⟩) fun us s1 hh => ?_
  obtain ⟨vs, H1, I1, rv, w1, ds, S1, l1, A1, r1, k⟩ := hh
  exact ⟨vs, H1, w1, ds, S1, I1, rv, l1, A1, r1, k⟩
theorem ecb {x : Str} {id : String} {r : List D → Store → KD → Prop} {p : Pos} (hc : CallD g X (.builtin id) r) (hg : Gl X x) (hm : X.mg x = none) (hv : bootBuiltins x = some (.builtin id)) (ha : EA g X W (e :: es) fr) (hn : x ≠ "__name__" := by decide) (hdb : (x == ("__debug__" : Str)) = false := by decide)
    (he : starEach (e :: es) X.env = (false, eval e X.env) :: starEach es X.env := by rfl) (hpl : (backTo pos (starEach es X.env)).any (·.1) = false := by rfl) : EV g X W (.Call (.Name x p) (e :: es) [] pos) (wCB r fr) := by
  refine ⟨fun pins s σ H Q I h => ?_⟩
  obtain ⟨w, ρ, S, K, ex, A, xo, ko, q⟩ := h
  refine wpAny_Call_Name_kw (ld_blt I hg hm hv ?_ hn hdb)
  exact PyProof.Rows.callWith_builtin1 (thn (rdA_run ha pos I A xo q) fun us s1 ⟨vs, H1, w1, ds, S1, I1, rv, l1, A1, r1, k⟩ => hc pins s1 σ H1 w1 ρ S1 ds vs us K Q I1 rv A1 r1 (ko.later l1) k) he hpl
theorem ect {x : Str} {T : String} {r : List D → Store → KD → Prop} {p : Pos} (hc : CallD g X (.type T) r) (hg : Gl X x) (hm : X.mg x = none) (hv : bootBuiltins x = some (.type T)) (ha : EA g X W (e :: es) fr) (hn : x ≠ "__name__" := by decide) (hdb : (x == ("__debug__" : Str)) = false := by decide)
    (he : starEach (e :: es) X.env = (false, eval e X.env) :: starEach es X.env := by rfl) (hpl : (backTo pos (starEach es X.env)).any (·.1) = false := by rfl) : EV g X W (.Call (.Name x p) (e :: es) [] pos) (wCB r fr) := by
  refine ⟨fun pins s σ H Q I h => ?_⟩
  obtain ⟨w, ρ, S, K, ex, A, xo, ko, q⟩ := h
  refine wpAny_Call_Name_kw (ld_blt I hg hm hv ?_ hn hdb)
  exact PyProof.Rows.callWith_type1 (thn (rdA_run ha pos I A xo q) fun us s1 ⟨vs, H1, w1, ds, S1, I1, rv, l1, A1, r1, k⟩ => hc pins s1 σ H1 w1 ρ S1 ds vs us K Q I1 rv A1 r1 (ko.later l1) k) he hpl

/-! ### the built-ins -/
def rLenD (ds : List D) (S : Store) (K : KD) : Prop := match ds with
  | [.lst xs] => K (.int xs.length) S
  | [.tup xs] => K (.int xs.length) S
  | [.scr xs] => K (.int xs.length) S
  | [.str z] => z.length ≤ sizeLine ∧ K (.int z.length) S
  | [.ref n] => ∃ xs, S[n]? = some (some (.lst xs)) ∧ K (.int xs.length) S
  | _ => False
theorem Reps.inv1 {w : Wd} {vs : List V} {d : D} (r : Reps g w vs [d]) : ∃ v, vs = [v] ∧ Rep g w v d := by
  cases r with
  | cons h r => cases r; exact ⟨_, rfl, h⟩
theorem Reps.inv2 {w : Wd} {vs : List V} {d e : D} (r : Reps g w vs [d, e]) : ∃ v u, vs = [v, u] ∧ Rep g w v d ∧ Rep g w u e := by
  cases r with
  | cons h r =>
    obtain ⟨u, rfl, h2⟩ := r.inv1
    exact ⟨_, u, rfl, h, h2⟩
theorem clen (hK : g.K = X.K) : CallD g X (.builtin "len") rLenD :=
  CallD.of (call_len_seq.or call_len_str) fun σ H w ρ S ds vs K Q A r ko q => by
    unfold rLenD at q
    split at q
    · obtain ⟨v, rfl, h⟩ := r.inv1
      cases h with
      | lst hh rr => exact .inl ⟨_, _, rfl, .inl (SqL.of (A.ih _ _ hh)), by rw [rr.length]; exact ko _ _ q _ w H (Le.refl w) A (.int _)⟩
    · obtain ⟨v, rfl, h⟩ := r.inv1
      cases h with
      | tup hh rr => exact .inl ⟨_, _, rfl, .inr (by rw [← hK]; exact A.t hh), by rw [rr.length]; exact ko _ _ q _ w H (Le.refl w) A (.int _)⟩
    · obtain ⟨v, rfl, h⟩ := r.inv1
      cases h with
      | scr hh => exact .inl ⟨_, _, rfl, .inl (by rw [← hK]; exact A.l hh), by rw [List.length_map]; exact ko _ _ q _ w H (Le.refl w) A (.int _)⟩
    · obtain ⟨v, rfl, h⟩ := r.inv1
      cases h
      exact .inr ⟨_, rfl, q.1, ko _ _ q.2 _ w H (Le.refl w) A (.int _)⟩
    · rename_i n
      obtain ⟨xs, hS, q⟩ := q
      obtain ⟨v, rfl, h⟩ := r.inv1
      obtain ⟨e1, hn⟩ := rep_ref h
      subst e1
      obtain ⟨_, vs, e2, rr⟩ := A.st n _ hS
      exact .inl ⟨_, _, rfl, .inl (SqL.of e2), by rw [rr.length]; exact ko _ _ q _ w H (Le.refl w) A (.int _)⟩
    · exact q.elim
def rAbsD (ds : List D) (S : Store) (K : KD) : Prop := match ds with
  | [.int i] => K (.int (if i < 0 then -i else i)) S
  | _ => False
theorem cabs : CallD g X (.builtin "abs") rAbsD := CallD.of call_abs fun σ H w ρ S ds vs K Q A r ko q => by
  unfold rAbsD at q
  split at q
  · obtain ⟨v, rfl, h⟩ := r.inv1
    cases h
    exact ⟨_, rfl, ko _ _ q _ w H (Le.refl w) A (.int _)⟩
  · exact q.elim
def rInt1 (ds : List D) (S : Store) (K : KD) : Prop := match ds with
  | [.int i] => K (.int i) S
  | [.bl b] => K (.int (if b then 1 else 0)) S
  | _ => False
theorem cint1 : CallD g X (.type "int") rInt1 := CallD.of call_int1 fun σ H w ρ S ds vs K Q A r ko q => by
  unfold rInt1 at q
  split at q
  · obtain ⟨v, rfl, h⟩ := r.inv1
    cases h
    exact .inl ⟨_, rfl, ko _ _ q _ w H (Le.refl w) A (.int _)⟩
  · obtain ⟨v, rfl, h⟩ := r.inv1
    cases h
    exact .inr ⟨_, rfl, ko _ _ q _ w H (Le.refl w) A (.int _)⟩
  · exact q.elim
def rMinD (ds : List D) (S : Store) (K : KD) : Prop := match ds with
  | [.int i, .int j] => K (.int (if j < i then j else i)) S
  | _ => False
def rMaxD (ds : List D) (S : Store) (K : KD) : Prop := match ds with
  | [.int i, .int j] => K (.int (if j > i then j else i)) S
  | _ => False
theorem cmin2 (hc : X.calm = true) : CallD g X (.builtin "min") rMinD := CallD.of (call_min2 hc) fun σ H w ρ S ds vs K Q A r ko q => by
  unfold rMinD at q
  split at q
  · obtain ⟨v, u, rfl, h1, h2⟩ := r.inv2
    cases h1
    cases h2
    exact ⟨_, _, rfl, ko _ _ q _ w H (Le.refl w) A (.int _)⟩
  · exact q.elim
theorem cmax2 (hc : X.calm = true) : CallD g X (.builtin "max") rMaxD := CallD.of (call_max2 hc) fun σ H w ρ S ds vs K Q A r ko q => by
  unfold rMaxD at q
  split at q
  · obtain ⟨v, u, rfl, h1, h2⟩ := r.inv2
    cases h1
    cases h2
    exact ⟨_, _, rfl, ko _ _ q _ w H (Le.refl w) A (.int _)⟩
  · exact q.elim
end
end R3

/-! R3d: defs and their contracts, calls, methods, new instances, fields. -/
namespace R3
open PySem PySem.Spec PyProof.Rows L2

/-! ### contracts -/
abbrev Ct := List D → Store → KD → KX → Prop
/-- a contract as a promise -/
def spOf (g : Sg) (n : Nat) (C : Ct) : Sp := fun vs H Q E => ∃ w ds S K ex, ds.length = n ∧ At0 g w S H ∧ Reps g w vs ds ∧
  (∀ d S', K d S' → ∀ v w' H', Le w w' → At0 g w' S' H' → Rep g w' v d → Q v H') ∧
  (∀ x S', ex x S' → ∀ w' H' cls dd, Le w w' → At0 g w' S' H' → ExcAt g w' H' cls dd x → E cls dd H') ∧ C ds S K ex
theorem spOf_len {g : Sg} {n : Nat} {C : Ct} {vs : List V} {H : Hp} {Q : VK} {E : XK} (h : spOf g n C vs H Q E) : vs.length = n := by
  obtain ⟨w, ds, S, K, ex, hn, _, r, _⟩ := h
  rw [r.length, hn]
/-- a def of the module, by its name -/
structure Cal (P : Program) (w : World) (mg : Str → Option Value) (base : Heap) (g : Sg) (k : Nat) (x : Str) (n : Nat) (C : Ct) : Prop where
  ex : ∃ f, mg x = some (.ref f) ∧ PySem.W.keepIn g.K (.ref f) = true ∧ FnR P w g.K mg base (L2.CX P w) k f (spOf g n C)
/-- a method of a class -/
structure Met (P : Program) (w : World) (mg : Str → Option Value) (base : Heap) (g : Sg) (k : Nat) (c : Nat) (m : Str) (n : Nat) (C : Ct) : Prop where
  ex : ∃ f, Meth g.K (g.ad c) m f ∧ FnR P w g.K mg base (L2.CX P w) k f (spOf g n C)

section
variable {g : Sg} {X : Cx} {W : WX} {a b c e o : Expr} {pos apos : Pos} {fa fb fe fo : FE} {es : List Expr} {fr : FA} {st : Stmt}
/-- a callee runs with values -/
theorem run_ct {A0 : Around} {k n : Nat} {C : Ct} {fn : Addr} {pins : List (Addr × Obj)} {s : Shared} {σ : L2.St} {H : Hp} {w : Wd} {ρ : List Sl} {S : Store} {ds : List D} {vs : List V} {us : List Value} {K : KD} {ex : KX} {Q : VK}
    (F : FnR X.prog X.w X.K X.mg X.base (L2.CX X.prog X.w) k fn (spOf g n C)) (hr : Room k A0) (e0 : Env0 X.prog X.w X.K X.mg X.base A0 X.stack s H) (tk : Takes X W) (I : Inv X pins σ H s) (rv : Vals vs us) (A : At g w ρ S σ H) (rr : Reps g w vs ds) (hn : ds.length = n)
    (xo : XOk g W σ ρ w ex) (ko : KOk g w ρ σ K Q) (q : C ds S K ex) :
    codeAny (model X.prog X.w) A0 (.call (.ref fn) ⟨us, []⟩) (fun r s' => match r with | .ok (.ret v) => EP X pins σ Q v s' | .ok _ => False | .error e => X.xe e s') s := by
  refine codeAny_mono (F A0 X.stack s H us vs Q (WE W σ) hr e0 rv ?_) fun r s' hq => ?_
  · refine ⟨w.inner S H, ds, S, K, ex, hn, A.enter, reps_inner rr, fun d S' k v w' H' l A' r' => ?_, fun x S' e w' H' cls dd l A' r' => ?_, q⟩
    · obtain ⟨l2, A2⟩ := A.leave l A'
      exact ko d S' k v _ H' l2 A2 (r'.mono sub_outer)
    · obtain ⟨l2, A2⟩ := A.leave l A'
      obtain ⟨h1, a, vs, h2, h3, h4, h5⟩ := r'
      exact xo x S' e _ H' cls dd l2 A2 ⟨h1, a, vs, h2, h3, h4, h5.mono sub_outer⟩
  · cases r with
    | error e => exact passAt tk σ pins H s e s' I hq
    | ok fl =>
      cases fl with
      | ret u => exact I.after hq
      | next => exact False.elim hq
      | brk => exact False.elim hq
      | cont => exact False.elim hq
/-- f(e, ..) -/
def wCall (n : Nat) (C : Ct) (f : FA) (ρ : List Sl) (S : Store) (K : KD) (ex : KX) : Prop := f ρ S (fun ds S1 => ds.length = n ∧ C ds S1 K ex) ex
theorem ecall {x : Str} {k j n : Nat} {C : Ct} {p : Pos} (F : Cal X.prog X.w X.mg X.base g k x n C) (hK : g.K = X.K) (hr : Room j X.A) (hk : k ≤ j) (tk : Takes X W) (hg : Gl X x) (ha : EA g X W (e :: es) fr) (hdb : (x == ("__debug__" : Str)) = false := by decide)
    (he : starEach (e :: es) X.env = (false, eval e X.env) :: starEach es X.env := by rfl) (hpl : (backTo pos (starEach es X.env)).any (·.1) = false := by rfl) : EV g X W (.Call (.Name x p) (e :: es) [] pos) (wCall n C fr) := by
  refine ⟨fun pins s σ H Q I h => ?_⟩
  obtain ⟨w, ρ, S, K, ex, A, xo, ko, q⟩ := h
  obtain ⟨fn, hm, kp, F⟩ := F.ex
  rw [hK] at kp F
  refine wpAny_Call_Name_kw (ld_glob I hg hm ?_ hdb)
  refine PySem.W.callWith_K (h₀ := X.base) I.ok.mod.kin kp (thn (rdA_run ha pos I A xo q) fun us s1 ⟨vs, H1, w1, ds, S1, I1, rv, l1, A1, r1, hn, q1⟩ => ⟨I1.kIn, ?_⟩) he hpl
  exact wpAny_call (run_ct F (hr.mono hk) I1.env0 tk I1 rv A1 r1 hn (xo.later l1) (ko.later l1) q1)
/-- the fields of an instance that is a value or an object of the store -/
theorem lookup_zip {f : Str} : ∀ {ns : List Str} {vs : List V} {j : Nat} {v : V}, ns.findIdx? (· == f) = some j → vs[j]? = some v → (ns.zip vs).lookup f = some v
  | [], _, _, _, h, _ => by simp at h
  | n :: ns, [], _, _, _, h => by simp at h
  | n :: ns, u :: vs, j, v, h, hv => by
    rw [List.findIdx?_cons] at h
    rw [List.zip_cons_cons, List.lookup_cons]
    by_cases c : (n == f) = true
    · rw [if_pos c] at h
      cases h
      have e : (f == n) = true := by rw [beq_iff_eq] at c ⊢; exact c.symm
      rw [e]
      simpa using hv
    · rw [if_neg c] at h
      have e : (f == n) = false := by
        cases q : f == n with
        | false => rfl
        | true => rw [beq_iff_eq] at q; subst q; simp at c
      rw [e]
      cases hj : ns.findIdx? (· == f) with
      | none => rw [hj] at h; cases h
      | some i =>
        rw [hj] at h
        cases h
        exact lookup_zip hj (by simpa using hv)
theorem lookup_zip_none {f : Str} : ∀ {ns : List Str} {vs : List V}, f ∉ ns → (ns.zip vs).lookup f = none
  | [], _, _ => by simp
  | n :: ns, [], _ => by simp
  | n :: ns, u :: vs, h => by
    rw [List.zip_cons_cons, List.lookup_cons]
    have e : (f == n) = false := by
      cases q : f == n with
      | false => rfl
      | true => rw [beq_iff_eq] at q; subst q; exact absurd (List.mem_cons_self ..) h
    rw [e]
    exact lookup_zip_none fun z => h (List.mem_cons_of_mem _ z)
/-- the instance of class c behind a value -/
def insOf (c : Nat) (S : Store) : D → Option (List D)
  | .obj c' ds => if c' = c then some ds else none
  | .ref n => match S[n]? with
    | some (some (.ins c' ds)) => if c' = c then some ds else none
    | _ => none
  | _ => none
theorem ins_at {w : Wd} {ρ : List Sl} {S : Store} {σ : L2.St} {H : Hp} {c : Nat} {v : V} {d : D} {ds : List D} (A : At g w ρ S σ H) (r : Rep g w v d) (h : insOf c S d = some ds) :
    ∃ a dx vs, v = .ref a ∧ H a = some (.ins (g.ad c) dx ((g.fl c).zip vs)) ∧ vs.length = (g.fl c).length ∧ Reps g w vs ds := by
  unfold insOf at h
  split at h
  · rename_i c' ds'
    split at h
    · rename_i e
      subst e
      cases h
      cases r with
      | obj hh hl rr => exact ⟨_, _, _, rfl, A.ih _ _ hh, hl, rr⟩
    · cases h
  · rename_i n
    split at h
    · rename_i c' ds' hS
      split at h
      · rename_i e
        subst e
        cases h
        obtain ⟨rfl, _⟩ := rep_ref r
        obtain ⟨_, dx, vs, e, hl, rr⟩ := A.st n _ hS
        exact ⟨_, dx, vs, rfl, e, hl, rr⟩
      · cases h
    · cases h
  · cases h
/-- e.f, f the j-th field of the class c -/
def wFld (c j : Nat) (f : FE) (ρ : List Sl) (S : Store) (K : KD) (ex : KX) : Prop := f ρ S (fun x S1 => ∃ ds, insOf c S1 x = some ds ∧ ∃ d, ds[j]? = some d ∧ K d S1) ex
theorem efld {f : Str} {c j : Nat} (ha : EV g X W a fa) (hK : g.K = X.K) (hc : Cls g.K (g.ad c)) (hn : NoAttr g.K (g.ad c) f) (hj : (g.fl c).findIdx? (· == f) = some j) (hb : attributeBase a f X.env (eval a X.env) = eval a X.env := by rfl) : EV g X W (.Attribute a f pos) (wFld c j fa) :=
  PE.imp (pe_fld ha hb) fun σ H Q ⟨w, ρ, S, K, ex, A, xo, ko, q⟩ => ⟨w, ρ, S, _, ex, A, xo, fun x S1 q1 v w1 H1 l1 A1 r1 => by
    obtain ⟨ds, hi, d, hd, q1⟩ := q1
    obtain ⟨a, dx, vs, rfl, e1, hl, rr⟩ := ins_at A1 r1 hi
    obtain ⟨u, h1, h2⟩ := rr.got hd
    exact ⟨a, _, dx, _, u, rfl, e1, by rw [← hK]; exact hc, by rw [← hK]; exact hn, lookup_zip hj h1, ko _ _ q1 _ w1 H1 l1 A1 h2⟩, q⟩
/-- o.m(e, ..), o of the class c -/
def wMeth (c n : Nat) (C : Ct) (fo : FE) (f : FA) (ρ : List Sl) (S : Store) (K : KD) (ex : KX) : Prop := fo ρ S (fun x S1 => (∃ ds, insOf c S1 x = some ds) ∧ f ρ S1 (fun ds S2 => (x :: ds).length = n ∧ C (x :: ds) S2 K ex) ex) ex
theorem emeth {m : Str} {k j c n : Nat} {C : Ct} {pl : Sem Bool} (ho : EV g X W o fo) (F : Met X.prog X.w X.mg X.base g k c m n C) (hK : g.K = X.K) (hc : Cls g.K (g.ad c)) (hm : m ∉ g.fl c) (hr : Room j X.A) (hk : k ≤ j) (tk : Takes X W) (ha : EA g X W (e :: es) fr)
    (hst : starEach (e :: es) X.env = (false, eval e X.env) :: starEach es X.env := by rfl) (hpl : (backTo pos (starEach es X.env)).any (·.1) = false := by rfl)
    (ht : eval (.Call (.Attribute o m apos) (e :: es) [] pos) X.env = (do
      let ov ← eval o X.env
      standAt apos.atName
      let (f, first) ← holding [ov] (getMethod ov m pl)
      callWith pos f first (backTo pos (starEach (e :: es) X.env)) (backToKw pos (keywordEach [] X.env))) := by rfl) : EV g X W (.Call (.Attribute o m apos) (e :: es) [] pos) (wMeth c n C fo fr) := by
  refine ⟨fun pins s σ H Q I h => ?_⟩
  obtain ⟨w, ρ, S, K, ex, A, xo, ko, q⟩ := h
  obtain ⟨fn, hme, F⟩ := F.ex
  rw [hK] at hme F hc
  refine PySem.W.methodCall_KW (pl := pl) (thn (ho.run pins s σ H (fun v H1 => ∃ x w1 S1, Le w w1 ∧ At g w1 ρ S1 σ H1 ∧ Rep g w1 v x ∧ (∃ ds, insOf c S1 x = some ds) ∧ fr ρ S1 (fun ds S2 => (x :: ds).length = n ∧ C (x :: ds) S2 K ex) ex) I
    ⟨w, ρ, S, _, ex, A, xo, fun x S1 q1 v w1 H1 l1 A1 r1 => ⟨x, w1, S1, l1, A1, r1, q1⟩, q⟩) fun u s1 hh => ?_) ht
  obtain ⟨v, H1, I1, ru, x, w1, S1, l1, A1, r1, ⟨ds, hi⟩, q1⟩ := hh
  obtain ⟨a, dx, vs, rfl, e1, hl, rr⟩ := ins_at A1 r1 hi
  obtain rfl : u = Value.ref a := ru
  refine getmeth_ok I1 e1 hc hme (lookup_zip_none hm) ?_
  refine PySem.W.callWith_K (first := [.ref a]) (h₀ := X.base) I.ok.mod.kin hme.kp (thn (rdA_run ha pos I1 A1 (xo.later l1) q1) fun us s2 ⟨ws, H2, w2, es2, S2, I2, rv, l2, A2, r2, hn, q2⟩ => ⟨I2.kIn, ?_⟩) hst hpl
  exact wpAny_call (run_ct (us := .ref a :: us) (vs := .ref a :: ws) F (hr.mono hk) I2.env0 tk I2 (.cons rfl rv) A2 (.cons (r1.mono l2.s) r2) hn (xo.later (l1.trans l2)) (ko.later (l1.trans l2)) q2)
/-- o.m() -/
def wMeth0 (c : Nat) (C : Ct) (fo : FE) (ρ : List Sl) (S : Store) (K : KD) (ex : KX) : Prop := fo ρ S (fun x S1 => (∃ ds, insOf c S1 x = some ds) ∧ C [x] S1 K ex) ex
theorem emeth0 {m : Str} {k j c : Nat} {C : Ct} {pl : Sem Bool} (ho : EV g X W o fo) (F : Met X.prog X.w X.mg X.base g k c m 1 C) (hK : g.K = X.K) (hc : Cls g.K (g.ad c)) (hm : m ∉ g.fl c) (hr : Room j X.A) (hk : k ≤ j) (tk : Takes X W)
    (ht : eval (.Call (.Attribute o m apos) [] [] pos) X.env = (do
      let ov ← eval o X.env
      standAt apos.atName
      let (f, first) ← holding [ov] (getMethod ov m pl)
      callWith pos f first (backTo pos (starEach [] X.env)) (backToKw pos (keywordEach [] X.env))) := by rfl) : EV g X W (.Call (.Attribute o m apos) [] [] pos) (wMeth0 c C fo) := by
  refine ⟨fun pins s σ H Q I h => ?_⟩
  obtain ⟨w, ρ, S, K, ex, A, xo, ko, q⟩ := h
  obtain ⟨fn, hme, F⟩ := F.ex
  rw [hK] at hme F hc
  refine PySem.W.methodCall_KW (pl := pl) (thn (ho.run pins s σ H (fun v H1 => ∃ x w1 S1, Le w w1 ∧ At g w1 ρ S1 σ H1 ∧ Rep g w1 v x ∧ (∃ ds, insOf c S1 x = some ds) ∧ C [x] S1 K ex) I
    ⟨w, ρ, S, _, ex, A, xo, fun x S1 q1 v w1 H1 l1 A1 r1 => ⟨x, w1, S1, l1, A1, r1, q1⟩, q⟩) fun u s1 hh => ?_) ht
  obtain ⟨v, H1, I1, ru, x, w1, S1, l1, A1, r1, ⟨ds, hi⟩, q1⟩ := hh
  obtain ⟨a, dx, vs, rfl, e1, hl, rr⟩ := ins_at A1 r1 hi
  obtain rfl : u = Value.ref a := ru
  refine getmeth_ok I1 e1 hc hme (lookup_zip_none hm) ?_
  exact PySem.W.callWith_K0 (first := [.ref a]) I1.kIn hme.kp (wpAny_call (run_ct (us := [.ref a]) (vs := [.ref a]) F (hr.mono hk) I1.env0 tk I1 (.cons rfl .nil) A1 (.one r1) rfl (xo.later l1) (ko.later l1) q1))
/-- o.p, a property -/
structure Prp (P : Program) (w : World) (mg : Str → Option Value) (base : Heap) (g : Sg) (k : Nat) (c : Nat) (m : Str) (C : Ct) : Prop where
  ex : ∃ p f, PropOf g.K (g.ad c) m p f ∧ FnR P w g.K mg base (L2.CX P w) k f (spOf g 1 C)
/-- (it raises nothing) -/
def wProp (c : Nat) (C : Ct) (fo : FE) (ρ : List Sl) (S : Store) (K : KD) (ex : KX) : Prop := fo ρ S (fun x S1 => (∃ ds, insOf c S1 x = some ds) ∧ C [x] S1 K (fun _ _ => False)) ex
theorem EP.unwish {pins : List (Addr × Obj)} {σ : L2.St} {Q : VK} {u : Value} {s : Shared} {E : Value → Shared → Prop} (h : EP (X.wish E) pins σ Q u s) : EP X pins σ Q u s := by
  obtain ⟨v, H', I, r, q⟩ := h
  exact ⟨v, H', I.unwish, r, q⟩
theorem eprop {m : Str} {k j c : Nat} {C : Ct} (ho : EV g X W o fo) (F : Prp X.prog X.w X.mg X.base g k c m C) (hK : g.K = X.K) (hc : Cls g.K (g.ad c)) (hr : Room j X.A) (hk : k + 1 ≤ j)
    (hb : attributeBase o m X.env (eval o X.env) = eval o X.env := by rfl) : EV g X W (.Attribute o m pos) (wProp c C fo) := by
  refine ⟨fun pins s σ H Q I h => ?_⟩
  obtain ⟨w, ρ, S, K, ex, A, xo, ko, q⟩ := h
  obtain ⟨p, fn, hp, F⟩ := F.ex
  rw [hK] at hp F hc
  refine attr_of hb (thn (ho.run pins s σ H (fun v H1 => ∃ x w1 S1, Le w w1 ∧ At g w1 ρ S1 σ H1 ∧ Rep g w1 v x ∧ (∃ ds, insOf c S1 x = some ds) ∧ C [x] S1 K (fun _ _ => False)) I
    ⟨w, ρ, S, _, ex, A, xo, fun x S1 q1 v w1 H1 l1 A1 r1 => ⟨x, w1, S1, l1, A1, r1, q1⟩, q⟩) fun u s1 hh => ?_)
  obtain ⟨v, H1, I1, ru, x, w1, S1, l1, A1, r1, ⟨ds, hi⟩, q1⟩ := hh
  obtain ⟨a, dx, vs, rfl, e1, hl, rr⟩ := ins_at A1 r1 hi
  obtain rfl : u = Value.ref a := ru
  obtain ⟨mA, O, _, _, _, _⟩ := ins_get I1.hok e1
  obtain ⟨od, J, _⟩ := O.look
  obtain ⟨rest, hrec⟩ := hp.rec_
  have I2 := I1.tok (s1.toks + 1)
  have hcl : (PySem.W.clsIn X.K (g.ad c)).isSome = true := by
    obtain ⟨cd, hc, _⟩ := PySem.W.any_some hc.hd
    rw [hc]
    rfl
  refine PySem.W.get_bind I1.kIn J (PySem.W.plainGet_of (hc.get m)).1 (PySem.W.findObj_data hcl hp.at_ hp.get hp.tak) (PySem.W.plainGet_of (hc.get m)).2 (wpAny_call (PySem.W.prop_get (s := { s1 with toks := s1.toks + 1 }) I1.kIn hrec ?_))
  refine codeAny_mono (run_ct (X := X.nox) (W := fun _ _ _ _ => False) (us := [.ref a]) (vs := [.ref a]) F ((hr.mono hk : Room (k + 1) X.A).in1) I2.env0.in1 takes0 (I2.wish _) (.cons rfl .nil) A1 (.one r1) rfl (fun _ _ z => z.elim) (ko.later l1) q1) fun r s' hq => ?_
  cases r with
  | error er => exact False.elim hq
  | ok fl =>
    cases fl with
    | ret u =>
      obtain ⟨v, H', I3, rv, q3⟩ := EP.unwish hq
      show wpAny _ _ (handedOut u) _ _ _
      rw [PySem.W.handedOut_of (handed_of rv)]
      exact wpAny_pure ⟨v, H', I3, rv, q3⟩
    | next => exact False.elim hq
    | brk => exact False.elim hq
    | cont => exact False.elim hq
end

/-! ### a def keeps its contract -/
def startD (N : Nat) (ds : List D) : List Sl := ds.map Sl.val ++ List.replicate (N - ds.length) .no
theorem Env.at_get : ∀ (ρ : List Sl) (i : Nat), Env.at ρ i = (ρ[i]?).getD .no
  | [], i => by simp [Env.at]
  | s :: r, 0 => by simp [Env.at]
  | s :: r, i + 1 => by simp [Env.at, Env.at_get r i]
theorem startD_at {N : Nat} {ds : List D} {i : Nat} {x : Sl} (h : Env.at (startD N ds) i = x) (hx : x ≠ .no) : ∃ d, ds[i]? = some d ∧ x = .val d := by
  rw [Env.at_get] at h
  unfold startD at h
  by_cases c : i < ds.length
  · rw [List.getElem?_append_left (by simpa using c), List.getElem?_map] at h
    obtain ⟨d, hd⟩ : ∃ d, ds[i]? = some d := ⟨ds[i], by simp [c]⟩
    rw [hd] at h
    exact ⟨d, hd, h.symm⟩
  · rw [List.getElem?_append_right (by simpa using c), List.getElem?_replicate] at h
    split at h
    · exact absurd h.symm hx
    · exact absurd h.symm hx
theorem At.start {g : Sg} {w : Wd} {S : Store} {H : Hp} {N : List Str} {vs : List V} {ds : List D} (A : At0 g w S H) (r : Reps g w vs ds) : At g w (startD N.length ds) S (start N vs) H := by
  refine ⟨A.if_, A.fh, A.len, A.st, A.inj, ?_, fun i d h => ?_, fun i o h => ?_, fun i h => (by obtain ⟨d, _, z⟩ := startD_at h (fun z => nomatch z); cases z)⟩
  · unfold startD L2.start
    simp [r.length]
  · obtain ⟨d', h1, h2⟩ := startD_at h (fun z => nomatch z)
    cases h2
    obtain ⟨v, h3, h4⟩ := r.got h1
    refine ⟨v, ?_, h4⟩
    have hlt : i < vs.length := (List.getElem?_eq_some_iff.mp h3).1
    unfold L2.start
    rw [List.getElem?_append_left (by simpa using hlt), List.getElem?_map, h3]
    rfl
  · obtain ⟨d', h1, h2⟩ := startD_at h (fun z => nomatch z)
    cases h2
section
variable {P : Program} {w : World} {mg : Str → Option Value} {base : Heap} {g : Sg} {x qual : Str} {params : Arguments} {body : List Stmt} {scope : Scope} {dvs : List V} {kws : List (Str × V)} {f : Addr} {fd : FuncData}
abbrev cxD (P : Program) (w : World) (mg : Str → Option Value) (base : Heap) (g : Sg) (N : List Str) (qual : Str) (scope : Scope) (f : Addr) (cdv : Value) (A : Around) (outer : List PySem.Env) (s : Shared) (H : Hp) (E : XK) : Cx :=
  cxOf (L2.CX P w) P w g.K mg base N qual scope f cdv A outer s H E
/-- the wish of a def's body -/
abbrev wD (E : XK) : WX := fun cls d _ H => E cls d H
theorem def_ok {N ps : List Str} {k : Nat} {C : Ct} {fs : FS} (F : FunD g.K x qual params body scope dvs kws f fd) (S : FnScope N ps scope)
    (hb : ∀ (cdv : Value) (A : Around) (outer : List PySem.Env) (s : Shared) (H : Hp) (E : XK), Room k (A.deeper (envOfC qual scope s.heap.objs.size f cdv)) → EB g (cxOf (L2.CX P w) P w g.K mg base N qual scope f cdv A outer s H E) (wD E) body fs)
    (hc : ∀ ds S K ex, ds.length = ps.length → C ds S K ex → fs { nx := fun _ S' => K .non S', rt := K, ex := fun x _ S' => ex x S' } (startD N.length ds) S) : FnOk P w g.K mg base (L2.CX P w) (k + 1) f fd ps (spOf g ps.length C) := by
  refine FunD.ok F S (fun vs H Q E h => spOf_len h) fun cdv A outer s H vs Q E hr h => ⟨_, hb cdv A outer s H E hr, ?_⟩
  obtain ⟨w0, ds, St, K, ex, hn, A0, r, ko, xo, q⟩ := h
  exact ⟨w0, _, St, _, A0.start r, ⟨fun ρ' S' k w' σ' H' l A' => ko _ _ k _ w' H' l A'.bare .non, fun r S' k v w' H' l A' rr => ko _ _ k v w' H' l A' rr, fun _ _ z => False.elim z, fun _ _ z => False.elim z,
    fun x ρ' S' e w' σ' H' cls dd l A' r => xo x S' e w' H' cls dd l A'.bare r, fun _ _ z => False.elim z⟩, hc ds St K ex hn q⟩
end
end R3

/-! R3e: targets, for, while, comprehensions. -/
namespace R3
open PySem PySem.Spec PyProof.Rows L2

/-! ### targets -/
abbrev FG := D → List Sl → (List Sl → Prop) → Prop
abbrev FGs := List D → List Sl → (List Sl → Prop) → Prop
/-- only the slots js changed -/
structure Only (js : List Nat) (σ σ' : L2.St) : Prop where
  len : σ'.length = σ.length
  out : ∀ i, i ∉ js → σ'[i]? = σ[i]?
theorem Only.refl {js : List Nat} {σ : L2.St} : Only js σ σ := ⟨rfl, fun _ _ => rfl⟩
theorem Only.trans {js : List Nat} {a b c : L2.St} (x : Only js a b) (y : Only js b c) : Only js a c := ⟨y.len.trans x.len, fun i h => (y.out i h).trans (x.out i h)⟩
theorem Only.set {js : List Nat} {σ : L2.St} {i : Nat} {v : Option V} (h : i ∈ js) : Only js σ (σ.set i v) := ⟨List.length_set, fun j hj => List.getElem?_set_ne fun e => hj (by rw [← e]; exact h)⟩
def rdG (g : Sg) (js : List Nat) (f : FG) : TG := fun v σ H Q => ∃ w ρ S d K, At g w ρ S σ H ∧ Rep g w v d ∧ (∀ ρ', K ρ' → ∀ σ', At g w ρ' S σ' H → Only js σ σ' → Q σ' H) ∧ f d ρ K
def rdGs (g : Sg) (js : List Nat) (f : FGs) : TGs := fun vs σ H Q => ∃ w ρ S ds K, At g w ρ S σ H ∧ Reps g w vs ds ∧ (∀ ρ', K ρ' → ∀ σ', At g w ρ' S σ' H → Only js σ σ' → Q σ' H) ∧ f ds ρ K
abbrev GT (g : Sg) (X : Cx) (js : List Nat) (tg : Expr) (f : FG) : Prop := PG X tg (rdG g js f)
abbrev GTs (g : Sg) (X : Cx) (js : List Nat) (tg : List Expr) (f : FGs) : Prop := PGs X tg (rdGs g js f)
theorem PG.imp {X : Cx} {e : Expr} {t t' : TG} (h : PG X e t) (k : ∀ v σ H Q, t' v σ H Q → t v σ H Q) : PG X e t' := ⟨fun pins s σ H v u Q I r q => h.run pins s σ H v u Q I r (k v σ H Q q)⟩
theorem PGs.imp {X : Cx} {e : List Expr} {t t' : TGs} (h : PGs X e t) (k : ∀ v σ H Q, t' v σ H Q → t v σ H Q) : PGs X e t' := ⟨fun pins s σ H v u Q I r q => h.run pins s σ H v u Q I r (k v σ H Q q)⟩
section
variable {g : Sg} {X : Cx} {W : WX} {js : List Nat} {e tg iter : Expr} {es : List Expr} {pos : Pos} {fg : FG} {fgs : FGs} {fe : FE} {st : Stmt} {body : List Stmt} {fs : FS} {ft : FT}
def gNm (i : Nat) (d : D) (ρ : List Sl) (K : List Sl → Prop) : Prop := K (Env.put ρ i (.val d))
theorem gnm {i : Nat} {x : Str} (hj : i ∈ js) (hN : X.N.Nodup) (hi : X.N[i]? = some x) (hx : Loc X.env.scope x) (hf : X.fn x = true ∨ X.env.scope.names.lookup x = some .local := by first | exact .inl rfl | exact .inr rfl | assumption) : GT g X js (.Name x pos) (gNm i) :=
  PG.imp (pg_name hN hi hx hf) fun v σ H Q ⟨w, ρ, S, d, K, A, r, k, q⟩ => k _ q _ (A.put r) (Only.set hj)
def gTp (n : Nat) (f : FGs) (d : D) (ρ : List Sl) (K : List Sl → Prop) : Prop := match d with
  | .tup ds => ds.length = n ∧ f ds ρ K
  | _ => False
def gNl (ds : List D) (ρ : List Sl) (K : List Sl → Prop) : Prop := match ds with
  | [] => K ρ
  | _ => False
def gCs (f : FG) (h : FGs) (ds : List D) (ρ : List Sl) (K : List Sl → Prop) : Prop := match ds with
  | d :: r => f d ρ (fun ρ' => h r ρ' K)
  | _ => False
theorem gnil : GTs g X js [] gNl := PGs.imp pgs_nil fun vs σ H Q ⟨w, ρ, S, ds, K, A, r, k, q⟩ => by
  cases r with
  | nil => exact ⟨rfl, k ρ q σ A Only.refl⟩
  | cons _ _ => exact q.elim
theorem gcons (h1 : GT g X js e fg) (h2 : GTs g X js es fgs) (hs : (assignEach (e :: es) X.env).map (·.2) = assign e X.env :: (assignEach es X.env).map (·.2) := by rfl) : GTs g X js (e :: es) (gCs fg fgs) :=
  PGs.imp (pgs_cons h1 h2 hs) fun vs σ H Q ⟨w, ρ, S, ds, K, A, r, k, q⟩ => by
    cases r with
    | nil => exact q.elim
    | cons r1 r2 => exact ⟨_, _, rfl, w, ρ, S, _, _, A, r1, fun ρ' q' σ' A' o' => ⟨w, ρ', S, _, K, A', r2, fun ρ2 k2 σ2 A2 o2 => k ρ2 k2 σ2 A2 (o'.trans o2), q'⟩, q⟩
theorem gtup {k n : Nat} (hc : X.calm = true) (hK : g.K = X.K) (h : GTs g X js es fgs) (hn : (assignEach es X.env).length = n := by rfl) (hst : (assignEach es X.env).findIdx? (·.1) = none := by rfl) : GT g X js (.Tuple es k pos) (gTp n fgs) :=
  PG.imp (pg_tup hc h hn hst) fun v σ H Q ⟨w, ρ, S, d, K, A, r, k, q⟩ => by
    cases d with
    | tup ds =>
      obtain ⟨hl, q⟩ := q
      cases r with
      | tup hh rr => exact ⟨_, _, rfl, by rw [← hK]; exact A.t hh, by rw [rr.length]; exact hl, w, ρ, S, ds, K, A, rr, k, q⟩
    | _ => exact q.elim
/-- target = e -/
def wAsg (f : FE) (h : FG) (d : Fin) (ρ : List Sl) (S : Store) : Prop := f ρ S (fun x S' => h x ρ (fun ρ' => d.nx ρ' S')) (fun x S' => d.ex x ρ S')
theorem sasg (he : EV g X W e fe) (hg : GT g X js tg fg) (hs : swapsWithSole [tg] e pos.line X.env = pure false := by rfl) (hw : swappedStores [tg] e X.env = pure none := by rfl)
    (h1 : (assignEach [tg] X.env).map (·.2) = [assign tg X.env] := by rfl) : ES g X W (.Assign [tg] e pos) (wAsg fe fg) :=
  PS.imp (ps_asg he hg hs hw h1) fun D σ H ⟨w, ρ, S, d, A, eo, q⟩ => ⟨w, ρ, S, _, _, A, eo.xo, fun x S' q1 v w' H' l A' r => ⟨w', ρ, S', x, _, A', r, fun ρ' k σ' A2 _ => eo.nx ρ' S' k w' σ' H' l A2, q1⟩, q⟩
/-- a, b = x, y -/
def wPar (i j : Nat) (f : FA) (d : Fin) (ρ : List Sl) (S : Store) : Prop := f ρ S (fun ds S' => match ds with
  | [x, y] => d.nx (Env.put (Env.put ρ i (.val x)) j (.val y)) S'
  | _ => False) (fun x S' => d.ex x ρ S')
theorem spar {i j : Nat} {fa : FA} (h0 : PS X st (tPar i j (rdA g W fa))) : ES g X W st (wPar i j fa) :=
  PS.imp h0 fun D σ H ⟨w, ρ, S, d, A, eo, q⟩ => ⟨w, ρ, S, _, _, A, eo.xo, fun ds S' q1 vs w' H' l A' r => by
    split at q1
    · obtain ⟨v, u, rfl, r1, r2⟩ := r.inv2
      exact ⟨v, u, rfl, eo.nx _ S' q1 w' _ H' l ((A'.put r1).put r2)⟩
    · exact q1.elim, q⟩

/-! ### what is walked -/
/-- J gives the values ds, as long as w stands -/
structure Gen (g : Sg) (w : Wd) (J : It) (ds : List D) : Prop where
  go : ∀ (i : Nat) (w' : Wd) (ρ : List Sl) (S : Store) (σ : L2.St) (H : Hp), i < ds.length → Le w w' → At g w' ρ S σ H → J.go i H
  stop : ∀ (w' : Wd) (ρ : List Sl) (S : Store) (σ : L2.St) (H : Hp), Le w w' → At g w' ρ S σ H → J.stop ds.length H
  yld : ∀ (i : Nat) (w' : Wd) (ρ : List Sl) (S : Store) (σ : L2.St) (H : Hp) (x : V) (H' : Hp) (d : D), ds[i]? = some d → Le w w' → At g w' ρ S σ H → J.yld i H x H' → ∃ w'', Le w' w'' ∧ At g w'' ρ S σ H' ∧ Rep g w'' x d ∧ Same H H' ∧ ∀ b, w'.F b = none → H b ≠ none → w''.F b = none
abbrev FI := List Sl → Store → (List D → Store → Prop) → KX → Prop
def rdI (g : Sg) (W : WX) (f : FI) : TI := fun σ H R => ∃ w ρ S K ex, At g w ρ S σ H ∧ XOk g W σ ρ w ex ∧ (∀ ds S', K ds S' → ∀ J w' H', Le w w' → At g w' ρ S' σ H' → Gen g w' J ds → R J H') ∧ f ρ S K ex
abbrev EI (g : Sg) (X : Cx) (W : WX) (tg iter : Expr) (f : FI) : Prop := PI X tg iter (rdI g W f)
theorem PI.imp {X : Cx} {tg e : Expr} {t t' : TI} (h : PI X tg e t) (k : ∀ σ H R, t' σ H R → t σ H R) : PI X tg e t' := ⟨fun pins s σ H R I q => h.run pins s σ H R I (k σ H R q)⟩
theorem gen_list {w : Wd} {a : Addr} {vs : List V} {ds : List D} {K : PySem.W.Frag} (h : w.I a = some (.lst vs)) (r : Reps g w vs ds) : Gen g w (Itl K a) ds := by
  have sq : ∀ w' ρ S σ H, Le w w' → At g w' ρ S σ H → SqL K H a vs := fun w' ρ S σ H l A => SqL.of (A.ih _ _ (l.s.i _ _ h))
  refine ⟨fun i w' ρ S σ H hi l A => ?_, fun w' ρ S σ H l A => ⟨vs, sq w' ρ S σ H l A, by rw [r.length]; exact Nat.le_refl _⟩, fun i w' ρ S σ H x H' d hd l A y => ?_⟩
  · obtain ⟨v, hv, _⟩ := r.got (show ds[i]? = some ds[i] by simp [hi])
    exact ⟨vs, v, sq w' ρ S σ H l A, hv⟩
  · obtain ⟨e, y⟩ := y
    subst e
    obtain ⟨v, hv, rv⟩ := r.got hd
    have e := y vs (sq w' ρ S σ _ l A)
    rw [hv] at e
    cases e
    exact ⟨w', Le.refl _, A, rv.mono l.s, fun _ _ z => z, fun _ z _ => z⟩
theorem gen_tup {w : Wd} {a : Addr} {vs : List V} {ds : List D} (h : SqT g.K w.I a vs) (r : Reps g w vs ds) : Gen g w (Itt g.K a) ds := by
  have sq : ∀ w' ρ S σ H, Le w w' → At g w' ρ S σ H → SqT g.K H a vs := fun w' ρ S σ H l A => A.t (same_t l.s.i h)
  refine ⟨fun i w' ρ S σ H hi l A => ?_, fun w' ρ S σ H l A => ⟨vs, sq w' ρ S σ H l A, by rw [r.length]; exact Nat.le_refl _⟩, fun i w' ρ S σ H x H' d hd l A y => ?_⟩
  · obtain ⟨v, hv, _⟩ := r.got (show ds[i]? = some ds[i] by simp [hi])
    exact ⟨vs, v, sq w' ρ S σ H l A, hv⟩
  · obtain ⟨e, y⟩ := y
    subst e
    obtain ⟨v, hv, rv⟩ := r.got hd
    have e := y vs (sq w' ρ S σ _ l A)
    rw [hv] at e
    cases e
    exact ⟨w', Le.refl _, A, rv.mono l.s, fun _ _ z => z, fun _ z _ => z⟩
/-- for .. in a list -/
def wItL (f : FE) (ρ : List Sl) (S : Store) (K : List D → Store → Prop) (ex : KX) : Prop := f ρ S (fun x S1 => match x with | .lst ds => K ds S1 | _ => False) ex
theorem itl (he : EV g X W e fe) : EI g X W tg e (wItL fe) := PI.imp (pi_list he) fun σ H R ⟨w, ρ, S, K, ex, A, xo, ko, q⟩ => ⟨w, ρ, S, _, ex, A, xo, fun d S1 q1 v w1 H1 l1 A1 r1 => by
  cases d with
  | lst ds =>
    cases r1 with
    | lst hh rr => exact ⟨_, rfl, ⟨_, SqL.of (A1.ih _ _ hh)⟩, ko ds S1 q1 _ w1 H1 l1 A1 (gen_list hh rr)⟩
  | _ => exact q1.elim, q⟩
def wItT (f : FE) (ρ : List Sl) (S : Store) (K : List D → Store → Prop) (ex : KX) : Prop := f ρ S (fun x S1 => match x with | .tup ds => K ds S1 | _ => False) ex
theorem itt (he : EV g X W e fe) (hK : g.K = X.K) : EI g X W tg e (wItT fe) := PI.imp (pi_tup he) fun σ H R ⟨w, ρ, S, K, ex, A, xo, ko, q⟩ => ⟨w, ρ, S, _, ex, A, xo, fun d S1 q1 v w1 H1 l1 A1 r1 => by
  cases d with
  | tup ds =>
    cases r1 with
    | tup hh rr => exact ⟨_, rfl, ⟨_, by rw [← hK]; exact A1.t hh⟩, ko ds S1 q1 _ w1 H1 l1 A1 (by rw [← hK]; exact gen_tup hh rr)⟩
  | _ => exact q1.elim, q⟩
/-- range -/
def rng (lo : Int) : Nat → List D
  | 0 => []
  | n + 1 => .int lo :: rng (lo + 1) n
theorem rng_len : ∀ (n : Nat) (lo : Int), (rng lo n).length = n
  | 0, _ => rfl
  | n + 1, lo => congrArg (· + 1) (rng_len n (lo + 1))
theorem rng_get : ∀ {n : Nat} {lo : Int} {i : Nat}, i < n → (rng lo n)[i]? = some (.int (lo + i))
  | 0, _, _, h => absurd h (Nat.not_lt_zero _)
  | n + 1, lo, 0, _ => by simp [rng]
  | n + 1, lo, i + 1, h => by
    show (rng (lo + 1) n)[i]? = _
    rw [rng_get (Nat.lt_of_succ_lt_succ h)]
    congr 2
    omega
theorem gen_rng {w : Wd} {lo : Int} {n : Nat} : Gen g w (Itr lo n) (rng lo n) := by
  refine ⟨fun i w' ρ S σ H hi l A => by rw [rng_len] at hi; exact hi, fun w' ρ S σ H l A => by rw [rng_len]; exact Nat.le_refl _, fun i w' ρ S σ H x H' d hd l A y => ?_⟩
  have hi : i < n := by
    have := (List.getElem?_eq_some_iff.mp hd).1
    rw [rng_len] at this
    exact this
  rw [rng_get hi] at hd
  cases hd
  obtain ⟨rfl, rfl⟩ := y
  exact ⟨w', Le.refl _, A, .int _, fun _ _ z => z, fun _ z _ => z⟩
def wR1 (f : FA) (ρ : List Sl) (S : Store) (K : List D → Store → Prop) (ex : KX) : Prop := f ρ S (fun ds S1 => match ds with
  | [.int j] => (-(2 ^ 62) ≤ j ∧ j < 2 ^ 62) ∧ K (rng 0 j.toNat) S1
  | _ => False) ex
theorem itr1 {a : Expr} {fa : FA} {p pos : Pos} (hg : Gl X "range") (hm : X.mg "range" = none) (ha : EA g X W [a] fa) (hs : starEach [a] X.env = [(false, eval a X.env)] := by rfl) : EI g X W tg (.Call (.Name "range" p) [a] [] pos) (wR1 fa) :=
  PI.imp (pi_range1 hg hm ha hs) fun σ H R ⟨w, ρ, S, K, ex, A, xo, ko, q⟩ => ⟨w, ρ, S, _, ex, A, xo, fun ds S1 q1 vs w1 H1 l1 A1 r1 => by
    split at q1
    · obtain ⟨v, rfl, r⟩ := r1.inv1
      cases r
      exact ⟨_, rfl, q1.1.1, q1.1.2, ko _ S1 q1.2 _ w1 H1 l1 A1 gen_rng⟩
    · exact q1.elim, q⟩
def wR2 (f : FA) (ρ : List Sl) (S : Store) (K : List D → Store → Prop) (ex : KX) : Prop := f ρ S (fun ds S1 => match ds with
  | [.int i, .int j] => (-(2 ^ 62) ≤ i ∧ i < 2 ^ 62 ∧ -(2 ^ 62) ≤ j ∧ j < 2 ^ 62) ∧ K (rng i (j - i).toNat) S1
  | _ => False) ex
theorem itr2 {a b : Expr} {fa : FA} {p pos : Pos} (hg : Gl X "range") (hm : X.mg "range" = none) (ha : EA g X W [a, b] fa) (hs : starEach [a, b] X.env = [(false, eval a X.env), (false, eval b X.env)] := by rfl) (hs2 : starEach [b] X.env = [(false, eval b X.env)] := by rfl) :
    EI g X W tg (.Call (.Name "range" p) [a, b] [] pos) (wR2 fa) :=
  PI.imp (pi_range2 hg hm ha hs hs2) fun σ H R ⟨w, ρ, S, K, ex, A, xo, ko, q⟩ => ⟨w, ρ, S, _, ex, A, xo, fun ds S1 q1 vs w1 H1 l1 A1 r1 => by
    split at q1
    · obtain ⟨v, u, rfl, r, r'⟩ := r1.inv2
      cases r
      cases r'
      exact ⟨_, _, rfl, q1.1, ko _ S1 q1.2 _ w1 H1 l1 A1 gen_rng⟩
    · exact q1.elim, q⟩

/-! ### for -/
def forL (fg : FG) (fb : FS) (d : Fin) : List D → List Sl → Store → Prop
  | [], ρ, S => d.nx ρ S
  | x :: r, ρ, S => fg x ρ (fun ρ' => fb { d with nx := forL fg fb d r, ct := forL fg fb d r, bk := d.nx } ρ' S)
def wFor (fi : FI) (fg : FG) (fb : FS) (d : Fin) (ρ : List Sl) (S : Store) : Prop := fi ρ S (fun ds S' => forL fg fb d ds ρ S') (fun x S' => d.ex x ρ S')
theorem drop_cons {α : Type} {l : List α} {i : Nat} {x : α} (h : l[i]? = some x) : l.drop i = x :: l.drop (i + 1) := by
  obtain ⟨hi, e⟩ := List.getElem?_eq_some_iff.mp h
  rw [← e]
  exact List.drop_eq_getElem_cons hi
theorem sfor (hp : PassesOwn (model X.prog X.w) X.A X.env X.xe) (hc : X.calm = true) {fi : FI} (hi : EI g X W tg iter fi) (hg : GT g X js tg fg) (hb : EB g X W body fs) (hs : ∀ x, foldedSetIterable iter X.env x = pure x := by intro _; rfl) :
    ES g X W (.For tg iter body [] pos) (wFor fi fg fs) :=
  PS.imp (ps_for hp hc hi hg hb hs) fun D σ H ⟨w, ρ, S, d, A, eo, q⟩ => ⟨w, ρ, S, _, _, A, eo.xo, fun ds S1 q1 J w1 H1 l1 A1 G => by
    refine ⟨fun i m σ H => m = ds.length - i ∧ i ≤ ds.length ∧ ∃ w' ρ' S', Le w1 w' ∧ At g w' ρ' S' σ H ∧ forL fg fs d (ds.drop i) ρ' S', ⟨ds.length, by simp, Nat.zero_le _, w1, ρ, S1, Le.refl _, A1, q1⟩, ?_⟩
    rintro i m σ' H' ⟨rfl, hi, w2, ρ2, S2, l2, A2, q2⟩
    by_cases hlt : i < ds.length
    · have hd : ds[i]? = some ds[i] := by simp [hlt]
      rw [drop_cons hd] at q2
      refine .inr ⟨G.go i w2 ρ2 S2 σ' H' hlt l2 A2, fun σ3 H3 => ∃ w3 ρ3 S3, Le w1 w3 ∧ At g w3 ρ3 S3 σ3 H3 ∧ forL fg fs d (ds.drop (i + 1)) ρ3 S3, fun σ3 H3 p => ⟨_, by omega, rfl, hlt, p⟩, fun x H4 y => ?_⟩
      obtain ⟨w4, l4, A4, r4, _⟩ := G.yld i w2 ρ2 S2 σ' H' x H4 _ hd l2 A2 y
      refine ⟨w4, ρ2, S2, _, _, A4, r4, fun ρ5 q5 σ5 A5 _ => ?_, q2⟩
      have l14 : Le w1 w4 := l2.trans l4
      exact ⟨w4, ρ5, S2, { d with nx := forL fg fs d (ds.drop (i + 1)), ct := forL fg fs d (ds.drop (i + 1)), bk := d.nx }, A5, ⟨fun ρ' S' k w' σ'' H'' l A => ⟨w', ρ', S', l14.trans l, A, k⟩, fun r S' k v w' H'' l A rr => eo.rt r S' k v w' H'' (l1.trans (l14.trans l)) A rr, fun ρ' S' k w' σ'' H'' l A => eo.nx ρ' S' k w' σ'' H'' (l1.trans (l14.trans l)) A,
        fun ρ' S' k w' σ'' H'' l A => ⟨w', ρ', S', l14.trans l, A, k⟩, fun x ρ' S' k w' σ'' H'' cls dd l A r => eo.ex x ρ' S' k w' σ'' H'' cls dd (l1.trans (l14.trans l)) A r, fun ds S' k a vs w' H'' l => eo.rl ds S' k a vs w' H'' (l1.trans (l14.trans l))⟩, q5⟩
    · have e : i = ds.length := by omega
      subst e
      rw [List.drop_length] at q2
      exact .inl ⟨G.stop w2 ρ2 S2 σ' H' l2 A2, eo.nx ρ2 S2 q2 w2 σ' H' (l1.trans l2) A2⟩, q⟩
/-- by an invariant over the turn -/
theorem forL_inv {d : Fin} (P : Nat → List Sl → Store → Prop) {ds : List D} {ρ : List Sl} {S : Store} (h0 : P 0 ρ S)
    (hs : ∀ i x ρ S, ds[i]? = some x → P i ρ S → fg x ρ (fun ρ' => ∀ N : List Sl → Store → Prop, (∀ ρ S, P (i + 1) ρ S → N ρ S) → fs { d with nx := N, ct := N, bk := d.nx } ρ' S))
    (hm : ∀ x ρ K K', (∀ ρ, K ρ → K' ρ) → fg x ρ K → fg x ρ K') (hd : ∀ ρ S, P ds.length ρ S → d.nx ρ S) : forL fg fs d ds ρ S := by
  have key : ∀ (n i : Nat) (ρ : List Sl) (S : Store), ds.length - i = n → i ≤ ds.length → P i ρ S → forL fg fs d (ds.drop i) ρ S := by
    intro n
    induction n with
    | zero =>
      intro i ρ S hn hi p
      have e : i = ds.length := by omega
      subst e
      rw [List.drop_length]
      exact hd ρ S p
    | succ n ih =>
      intro i ρ S hn hi p
      have hlt : i < ds.length := by omega
      have hx : ds[i]? = some ds[i] := by simp [hlt]
      rw [drop_cons hx]
      exact hm _ _ _ _ (fun ρ' q => q _ fun ρ2 S2 p2 => ih (i + 1) ρ2 S2 (by omega) hlt p2) (hs i _ ρ S hx p)
  exact key _ 0 ρ S rfl (Nat.zero_le _) h0
theorem gNm_mono {i : Nat} : ∀ x ρ K K', (∀ ρ, K ρ → K' ρ) → gNm i x ρ K → gNm i x ρ K' := fun _ _ _ _ h q => h _ q

/-! ### while -/
def whileN (ft : FT) (fb : FS) (d : Fin) : Nat → List Sl → Store → Prop
  | 0, _, _ => False
  | n + 1, ρ, S => ft ρ S (fun b S' => Br b (fb { d with nx := whileN ft fb d n, ct := whileN ft fb d n, bk := d.nx } ρ S') (d.nx ρ S')) (fun x S' => d.ex x ρ S')
def wWhile (ft : FT) (fb : FS) (d : Fin) (ρ : List Sl) (S : Store) : Prop := ∃ n, whileN ft fb d n ρ S
theorem swhile {c : Expr} (hp : PassesOwn (model X.prog X.w) X.A X.env X.xe) (hc : ET g X W c ft) (hb : EB g X W body fs) : ES g X W (.While c body [] pos) (wWhile ft fs) :=
  PS.imp (ps_while hp hc hb) fun D σ H ⟨w, ρ, S, d, A, eo, n, q⟩ => by
    refine ⟨fun m σ H => ∃ w' ρ' S', Le w w' ∧ At g w' ρ' S' σ H ∧ whileN ft fs d m ρ' S', ⟨n, w, ρ, S, Le.refl _, A, q⟩, ?_⟩
    rintro m σ' H' ⟨w1, ρ1, S1, l1, A1, q1⟩
    cases m with
    | zero => exact q1.elim
    | succ m =>
      refine ⟨w1, ρ1, S1, _, _, A1, (eo.later l1).xo, fun b S2 q2 w2 H2 l2 A2 => ?_, q1⟩
      cases b with
      | true =>
        rw [if_pos rfl]
        refine ⟨fun σ3 H3 => ∃ w3 ρ3 S3, Le w w3 ∧ At g w3 ρ3 S3 σ3 H3 ∧ whileN ft fs d m ρ3 S3, fun σ3 H3 p => ⟨m, Nat.lt_succ_self _, p⟩, ?_⟩
        have l12 := l1.trans l2
        exact ⟨w2, ρ1, S2, { d with nx := whileN ft fs d m, ct := whileN ft fs d m, bk := d.nx }, A2, ⟨fun ρ' S' k w' σ'' H'' l A => ⟨w', ρ', S', l12.trans l, A, k⟩, fun r S' k v w' H'' l A rr => eo.rt r S' k v w' H'' (l12.trans l) A rr, fun ρ' S' k w' σ'' H'' l A => eo.nx ρ' S' k w' σ'' H'' (l12.trans l) A,
          fun ρ' S' k w' σ'' H'' l A => ⟨w', ρ', S', l12.trans l, A, k⟩, fun x ρ' S' k w' σ'' H'' cls dd l A r => eo.ex x ρ' S' k w' σ'' H'' cls dd (l12.trans l) A r, fun ds S' k a vs w' H'' l => eo.rl ds S' k a vs w' H'' (l12.trans l)⟩, q2⟩
      | false =>
        rw [if_neg Bool.false_ne_true]
        exact eo.nx ρ1 S2 q2 w2 σ' H2 (l1.trans l2) A2
end
end R3

/-! R3f: comprehensions; new instances. -/
namespace R3
open PySem PySem.Spec PyProof.Rows L2

/-! ### an object that is held while other code runs -/
def Wd.hold (w : Wd) (p : Addr) (o : HO) : Wd := { w with F := upd w.F p o }
def Wd.drop (w : Wd) (p : Addr) : Wd := { w with F := fun b => if b = p then none else w.F b }
section
variable {g : Sg} {w : Wd} {ρ : List Sl} {S : Store} {σ : L2.St} {H : Hp}
theorem sub_hold {p : Addr} {o : HO} : Sub w (w.hold p o) := ⟨fun _ _ z => z, fun _ _ => rfl, Nat.le_refl _⟩
theorem sub_drop {p : Addr} : Sub w (w.drop p) := ⟨fun _ _ z => z, fun _ _ => rfl, Nat.le_refl _⟩
theorem At.hold {p : Addr} {o : HO} (A : At g w ρ S σ H) (hp : H p = some o) (f : Fresh w ρ S σ p) : At g (w.hold p o) ρ S σ H := by
  refine ⟨fun b u e => ?_, fun b u e => ?_, A.len, fun k ok h => ?_, A.inj, A.sl, fun i d h => ?_, fun i oi h => ?_, fun i h => (A.xc i h).mono sub_hold rfl⟩
  · have ne : b ≠ p := fun z => by
      have := A.if_ b u e
      rw [z, f.f] at this
      cases this
    show upd w.F p o b = some u
    rw [upd_ne ne]
    exact A.if_ b u e
  · have e' : upd w.F p o b = some u := e
    by_cases hb : b = p
    · subst hb; rw [upd_same] at e'; exact hp.trans e'
    · rw [upd_ne hb] at e'; exact A.fh b u e'
  · obtain ⟨h1, h2⟩ := A.st k ok h
    refine ⟨?_, h2.mono sub_hold rfl⟩
    show upd w.F p o (w.φ k) = none
    rw [upd_ne (f.s k ok h)]
    exact h1
  · obtain ⟨v, h1, h2⟩ := A.val i d h
    exact ⟨v, h1, h2.mono sub_hold⟩
  · obtain ⟨a, h1, h2, h3, h4, h5⟩ := A.own i oi h
    refine ⟨a, h1, ?_, h3.mono sub_hold rfl, h4, h5⟩
    show upd w.F p o a = none
    rw [upd_ne fun z => f.o i oi h (by rw [h1, z])]
    exact h2
/-- .. and let go -/
theorem At.letgo {p : Addr} {o : HO} {w' : Wd} {S' : Store} {ρ' : List Sl} {σ' : L2.St} {H' : Hp} (hI : w.I p = none) (hF : w.F p = none) (l : Le (w.hold p o) w') (A : At g w' ρ' S' σ' H') :
    Le w (w'.drop p) ∧ At g (w'.drop p) ρ' S' σ' H' ∧ H' p = some o ∧ Fresh (w'.drop p) ρ' S' σ' p := by
  have hp : w'.F p = some o := l.f p o upd_same
  have hi : w'.I p = none := l.new p hI (by show upd w.F p o p ≠ none; rw [upd_same]; exact fun z => nomatch z)
  have dp : (w'.drop p).F p = none := if_pos rfl
  have dn : ∀ b, b ≠ p → (w'.drop p).F b = w'.F b := fun b h => if_neg h
  refine ⟨⟨⟨l.s.i, l.s.p, l.s.n⟩, fun b u e => ?_, fun b h1 h2 => ?_⟩, ⟨fun b u e => ?_, fun b u e => ?_, A.len, fun k ok h => ?_, A.inj, A.sl, fun i d h => ?_, fun i oi h => ?_, fun i h => (A.xc i h).mono sub_drop rfl⟩, A.fh p o hp, ⟨dp, fun k ok h z => ?_, fun i oi h z => ?_⟩⟩
  · have ne : b ≠ p := fun z => by rw [z, hF] at e; cases e
    rw [dn b ne]
    refine l.f b u ?_
    show upd w.F p o b = some u
    rw [upd_ne ne]; exact e
  · refine l.new b h1 ?_
    show upd w.F p o b ≠ none
    have ne : b ≠ p := fun z => h2 (by rw [z]; exact hF)
    rw [upd_ne ne]; exact h2
  · have ne : b ≠ p := fun z => by
      have e' : w'.I b = some u := e
      rw [z, hi] at e'; cases e'
    rw [dn b ne]
    exact A.if_ b u e
  · have ne : b ≠ p := fun z => by rw [z, dp] at e; cases e
    rw [dn b ne] at e
    exact A.fh b u e
  · obtain ⟨h1, h2⟩ := A.st k ok h
    refine ⟨?_, h2.mono sub_drop rfl⟩
    by_cases c : w'.φ k = p
    · show (w'.drop p).F (w'.φ k) = none
      rw [c]; exact dp
    · show (w'.drop p).F (w'.φ k) = none
      rw [dn _ c]; exact h1
  · obtain ⟨v, h1, h2⟩ := A.val i d h
    exact ⟨v, h1, h2.mono sub_drop⟩
  · obtain ⟨a, h1, h2, h3, h4, h5⟩ := A.own i oi h
    refine ⟨a, h1, ?_, h3.mono sub_drop rfl, h4, h5⟩
    by_cases c : a = p
    · rw [c]; exact dp
    · rw [dn _ c]; exact h2
  · have := (A.st k ok h).1
    rw [show w'.φ k = p from z, hp] at this
    cases this
  · obtain ⟨a, h1, h2, _⟩ := A.own i oi h
    rw [z] at h1
    cases h1
    rw [hp] at h2
    cases h2
/-- the slots of a block's own names forgotten -/
def wipeE (ρ : List Sl) : List Nat → List Sl
  | [] => ρ
  | v :: vs => Env.put (wipeE ρ vs) v .no
theorem At.wipe1 {i : Nat} (A : At g w ρ S σ H) : At g w (Env.put ρ i .no) S (σ.set i none) H := by
  have back : ∀ j x, Env.at (Env.put ρ i .no) j = x → x ≠ .no → j ≠ i ∧ Env.at ρ j = x := fun j x h hx => by
    rw [Env.at_put] at h
    by_cases c : j = i ∧ i < ρ.length
    · rw [if_pos c] at h; exact absurd h.symm hx
    · rw [if_neg c] at h
      refine ⟨fun e => ?_, h⟩
      subst e
      have hl : ¬ j < ρ.length := fun z => c ⟨rfl, z⟩
      rw [Env.at_get, List.getElem?_eq_none (by omega)] at h
      exact hx h.symm
  refine ⟨A.if_, A.fh, A.len, A.st, A.inj, by rw [List.length_set, Env.len_put]; exact A.sl, fun j d h => ?_, fun j o h => ?_, xc_put (fun z => nomatch z) A.sl A.xc⟩
  · obtain ⟨ne, h⟩ := back j _ h (fun z => nomatch z)
    obtain ⟨v, h1, h2⟩ := A.val j d h
    exact ⟨v, by rw [List.getElem?_set_ne (Ne.symm ne)]; exact h1, h2⟩
  · obtain ⟨ne, h⟩ := back j _ h (fun z => nomatch z)
    obtain ⟨a, h1, h2, h3, h4, h5⟩ := A.own j o h
    refine ⟨a, by rw [List.getElem?_set_ne (Ne.symm ne)]; exact h1, h2, h3, h4, fun k ok hk hs => ?_⟩
    obtain ⟨ne2, hk⟩ := back k _ hk (fun z => nomatch z)
    rw [List.getElem?_set_ne (Ne.symm ne2)] at hs
    exact h5 k ok hk hs
theorem At.wiped (A : At g w ρ S σ H) : ∀ vs : List Nat, At g w (wipeE ρ vs) S (wipe σ vs) H
  | [] => A
  | v :: vs => (A.wiped vs).wipe1
/-- the same heap and world, other slots -/
theorem At.unwipe {w' : Wd} {S' : Store} {H' : Hp} {ρ2 : List Sl} {σ2 : L2.St} (A : At g w ρ S σ H) (l : Le w w') (B : At g w' ρ2 S' σ2 H') (hown : ∀ i o, Env.at ρ i = .own o → Env.at ρ2 i = .own o ∧ σ2[i]? = σ[i]?) : At g w' ρ S' σ H' := by
  refine ⟨B.if_, B.fh, B.len, B.st, B.inj, A.sl, fun i d h => ?_, fun i o h => ?_, fun i h => (A.xc i h).mono l.s rfl⟩
  · obtain ⟨v, h1, h2⟩ := A.val i d h
    exact ⟨v, h1, h2.mono l.s⟩
  · obtain ⟨e1, e2⟩ := hown i o h
    obtain ⟨a, h1, h2, h3, h4, h5⟩ := B.own i o e1
    refine ⟨a, by rw [← e2]; exact h1, h2, h3, h4, fun j oj hj hs => ?_⟩
    obtain ⟨e3, e4⟩ := hown j oj hj
    exact h5 j oj e3 (by rw [e4]; exact hs)
end
theorem wipe_get {σ : L2.St} {i : Nat} : ∀ {vs : List Nat}, i ∉ vs → (wipe σ vs)[i]? = σ[i]?
  | [], _ => rfl
  | v :: vs, h => by
    unfold wipe
    rw [List.getElem?_set_ne fun e => h (by rw [e]; exact List.mem_cons_self ..)]
    exact wipe_get fun z => h (List.mem_cons_of_mem _ z)
theorem wipe_in {σ : L2.St} {i : Nat} : ∀ {vs : List Nat}, i ∈ vs → i < σ.length → (wipe σ vs)[i]? = some none
  | [], h, _ => by cases h
  | v :: vs, h, hl => by
    unfold wipe
    by_cases e : v = i
    · subst e
      rw [List.getElem?_set_self (by rw [wipe_length]; exact hl)]
    · rw [List.getElem?_set_ne e]
      rcases List.mem_cons.mp h with z | z
      · exact absurd z.symm e
      · exact wipe_in z hl
theorem wipe_only {σ σ' : L2.St} {vs : List Nat} (o : Only vs (wipe σ vs) σ') : wipe σ' vs = wipe σ vs := by
  have hl : σ'.length = σ.length := by rw [o.len, wipe_length]
  refine List.ext_getElem? fun i => ?_
  by_cases c : i ∈ vs
  · by_cases hi : i < σ.length
    · rw [wipe_in c (by rw [hl]; exact hi), wipe_in c hi]
    · rw [List.getElem?_eq_none (by rw [wipe_length, hl]; omega), List.getElem?_eq_none (by rw [wipe_length]; omega)]
  · rw [wipe_get c, o.out i c]
theorem wipeE_out {ρ : List Sl} {i : Nat} : ∀ {vs : List Nat}, i ∉ vs → Env.at (wipeE ρ vs) i = Env.at ρ i
  | [], _ => rfl
  | v :: vs, h => by
    unfold wipeE
    rw [Env.at_put, if_neg fun z => h (by rw [z.1]; exact List.mem_cons_self ..)]
    exact wipeE_out fun z => h (List.mem_cons_of_mem _ z)
/-- no own object in these slots -/
def noOwn (ρ : List Sl) : List Nat → Bool
  | [] => true
  | v :: vs => (match Env.at ρ v with | .own _ => false | _ => true) && noOwn ρ vs
theorem noOwn_at {ρ : List Sl} {i : Nat} {o : SO} : ∀ {vs : List Nat}, noOwn ρ vs = true → Env.at ρ i = .own o → i ∉ vs
  | [], _, _ => by simp
  | v :: vs, h, e => by
    unfold noOwn at h
    rw [Bool.and_eq_true] at h
    simp only [List.mem_cons, not_or]
    refine ⟨fun z => ?_, noOwn_at h.2 e⟩
    subst z
    rw [e] at h
    exact absurd h.1 (by simp)

section
variable {g : Sg} {X : Cx} {W : WX} {elt e tg iter : Expr} {pos : Pos} {fg : FG} {fi : FI} {fe : FE} {ft : FT} {vs : List Nat} {st : Stmt}
def noX : KX := fun _ _ => False
def W0 : WX := fun _ _ _ _ => False
theorem xo0 {σ : L2.St} {ρ : List Sl} {w : Wd} : XOk g W0 σ ρ w noX := fun _ _ z => z.elim
def lcL (fg : FG) (ft : FT) (fe : FE) (ρ : List Sl) (K : List D → Store → Prop) : List D → List D → Store → Prop
  | [], acc, S => K acc S
  | x :: r, acc, S => fg x ρ (fun ρ2 => ft ρ2 S (fun b S1 => Br b (fe ρ2 S1 (fun y S2 => Small (acc.length + 1) ∧ lcL fg ft fe ρ K r (acc ++ [y]) S2) noX) (lcL fg ft fe ρ K r acc S1)) noX)
/-- the target changes only slots of the block's own; own objects stay -/
def Tame (vs : List Nat) (fg : FG) : Prop := ∀ d ρ K, fg d ρ K → fg d ρ (fun ρ2 => K ρ2 ∧ ∀ i, i ∉ vs → Env.at ρ2 i = Env.at ρ i)
def wLc (fi : FI) (fg : FG) (ft : FT) (fe : FE) (vs : List Nat) (ρ : List Sl) (S : Store) (K : List D → Store → Prop) (ex : KX) : Prop := noOwn ρ vs = true ∧ fi ρ S (fun ds S' => lcL fg ft fe (wipeE ρ vs) K ds [] S') ex
def wYes (_ : List Sl) (S : Store) (K : Bool → Store → Prop) (_ : KX) : Prop := K true S
theorem elc_imp (tame : Tame vs fg) {σ : L2.St} {H : Hp} {Q : VK} (h : rdL g W (wLc fi fg ft fe vs) σ H Q) : tLc (rdI g W fi) (rdG g vs fg) (rdT g W0 ft) (rdE g W0 fe) vs σ H Q := by
  obtain ⟨w, ρ, S, K, ex, A, xo, ko, no, q⟩ := h
  refine ⟨w, ρ, S, _, ex, A, xo, fun ds S1 q1 J w1 H1 l1 A1 G => ?_, q⟩
  intro D0 hD
  have fr0 := fresh_new A1 hD
  have hI1 : w1.I D0 = none := A1.freeI fr0.f
  -- the state between turns: the list at D0 stands apart
  let Pv : Nat → Hp → Prop := fun i H' => ∃ w' S' acc vacc, Le w1 w' ∧ At g w' ρ S' σ H' ∧ H' D0 = some (.lst vacc) ∧ Fresh w' ρ S' σ D0 ∧ Reps g w' vacc acc ∧ lcL fg ft fe (wipeE ρ vs) K (ds.drop i) acc S'
  refine ⟨fun i m H' => m = ds.length - i ∧ i ≤ ds.length ∧ Pv i H', ⟨ds.length, by simp, Nat.zero_le _, w1, S1, [], [], Le.refl _, A1.grow (same_new hD), upd_same, fr0, .nil, q1⟩, ?_⟩
  rintro i m H2 ⟨rfl, hi, w2, S2, acc, vacc, l2, A2, eD, fr2, racc, q2⟩
  by_cases hlt : i < ds.length
  · have hd : ds[i]? = some ds[i] := by simp [hlt]
    rw [drop_cons hd] at q2
    refine .inr ⟨G.go i w2 ρ S2 σ H2 hlt l2 A2, Pv (i + 1), fun H' p => ⟨_, by omega, rfl, hlt, p⟩, fun x H3 y => ?_⟩
    obtain ⟨w3, l3, A3, r3, s3, nf3⟩ := G.yld i w2 ρ S2 σ H2 x H3 _ hd l2 A2 y
    have eD3 : H3 D0 = some (.lst vacc) := s3 _ _ eD
    have fr3 : Fresh w3 ρ S2 σ D0 := ⟨nf3 D0 fr2.f (by rw [eD]; exact fun z => nomatch z), fun k ok h z => by
      have k1 := (A2.st k ok h).2
      have hk : k < w2.n := by rw [← A2.len]; exact (List.getElem?_eq_some_iff.mp h).1
      rw [l3.s.p k hk] at z
      exact fr2.s k ok h z, fr2.o⟩
    have hI3 : w3.I D0 = none := A3.freeI fr3.f
    have Ah := (A3.hold eD3 fr3).wiped vs
    refine ⟨w3.hold D0 (.lst vacc), wipeE ρ vs, S2, _, _, Ah, r3.mono sub_hold, fun ρ4 q4 σ4 A4 o4 => ?_, tame _ _ _ q2⟩
    obtain ⟨q4, ou⟩ := q4
    have hown : ∀ j o, Env.at ρ j = .own o → Env.at ρ4 j = .own o ∧ σ4[j]? = σ[j]? := fun j o hj => by
      have nv := noOwn_at no hj
      exact ⟨by rw [ou j nv, wipeE_out nv]; exact hj, by rw [o4.out j nv, wipe_get nv]⟩
    refine ⟨wipe_only o4, w3.hold D0 (.lst vacc), ρ4, S2, _, noX, A4, xo0, fun b S5 q5 w5 H5 l5 A5 => ?_, q4⟩
    have back : ∀ {w6 S6 H6}, Le (w3.hold D0 (.lst vacc)) w6 → At g w6 ρ4 S6 σ4 H6 → Le w1 (w6.drop D0) ∧ At g (w6.drop D0) ρ S6 σ H6 ∧ H6 D0 = some (.lst vacc) ∧ Fresh (w6.drop D0) ρ S6 σ D0 := fun {w6 S6 H6} l6 A6 => by
      have Bu : At g w6 ρ S6 σ H6 := (A3.hold eD3 fr3).unwipe l6 A6 hown
      obtain ⟨z1, z2, z3, z4⟩ := At.letgo hI3 fr3.f l6 Bu
      exact ⟨(l2.trans l3).trans z1, z2, z3, z4⟩
    cases b with
    | true =>
      dsimp only
      rw [if_pos rfl]
      refine ⟨w5, ρ4, S5, _, noX, A5, xo0, fun y S6 q6 vy w6 H6 l6 A6 r6 => ?_, q5⟩
      obtain ⟨z1, z2, z3, z4⟩ := back (l5.trans l6) A6
      refine ⟨vacc, z3, by rw [racc.length]; exact q6.1.lt, w6.drop D0, S6, acc ++ [y], vacc ++ [vy], z1, ?_, upd_same, z4, ?_, q6.2⟩
      · -- the list at D0 grows: nothing of the world leans on it
        refine ⟨z2.if_, fun b u e => ?_, z2.len, fun k ok h => ?_, z2.inj, z2.sl, z2.val, fun j oj hj => ?_, z2.xc⟩
        · rw [upd_ne fun z => by rw [z, z4.f] at e; cases e]
          exact z2.fh b u e
        · obtain ⟨h1, h2⟩ := z2.st k ok h
          exact ⟨h1, h2.mono (Sub.refl _) (upd_ne (z4.s k ok h))⟩
        · obtain ⟨a, h1, h2, h3, h4, h5⟩ := z2.own j oj hj
          exact ⟨a, h1, h2, h3.mono (Sub.refl _) (upd_ne fun z => z4.o j oj hj (by rw [h1, z])), h4, h5⟩
      · have s36 : Sub w2 (w6.drop D0) := ((l3.s.trans sub_hold).trans (l5.trans l6).s).trans sub_drop
        exact (racc.mono s36).app (.one (r6.mono sub_drop))
    | false =>
      dsimp only
      rw [if_neg Bool.false_ne_true]
      obtain ⟨z1, z2, z3, z4⟩ := back l5 A5
      exact ⟨w5.drop D0, S5, acc, vacc, z1, z2, z3, z4, racc.mono (((l3.s.trans sub_hold).trans l5.s).trans sub_drop), q5⟩
  · have e : i = ds.length := by omega
    subst e
    rw [List.drop_length] at q2
    exact .inl ⟨G.stop w2 ρ S2 σ H2 l2 A2, ko acc S2 q2 D0 vacc w2 H2 (l1.trans l2) A2 eD fr2 racc⟩
theorem elc (tame : Tame vs fg) (h : PE X e (tLc (rdI g W fi) (rdG g vs fg) (rdT g W0 ft) (rdE g W0 fe) vs)) : EL g X W e (wLc fi fg ft fe vs) := PE.imp h fun σ H Q q => elc_imp tame q
/-- y = [..]: its own list, a value -/
theorem slcO {i : Nat} (tame : Tame vs fg) (h : PS X st (tAsg (tLc (rdI g W fi) (rdG g vs fg) (rdT g W0 ft) (rdE g W0 fe) vs) (gName i))) : ES g X W st (fun d ρ S => i < ρ.length ∧ wOwn i (wLc fi fg ft fe vs) d ρ S) :=
  PS.imp h fun D σ H ⟨w, ρ, S, d, A, eo, hl, q⟩ => elc_imp tame ⟨w, ρ, S, _, _, A, eo.xo, fun ds S' k a vs w' H' l A' e1 f1 r1 => eo.nx _ S' k w' _ H' l (A'.putOwn (o := .lst ds) hl ⟨vs, e1, r1⟩ f1), q⟩
theorem slcV {i : Nat} (tame : Tame vs fg) (h : PS X st (tAsg (tLc (rdI g W fi) (rdG g vs fg) (rdT g W0 ft) (rdE g W0 fe) vs) (gName i))) : ES g X W st (wSet i (wVal (wLc fi fg ft fe vs))) :=
  PS.imp h fun D σ H ⟨w, ρ, S, d, A, eo, q⟩ => elc_imp tame ⟨w, ρ, S, _, _, A, eo.xo, fun ds S1 q1 a vs w1 H1 l1 A1 e1 f1 r1 => by
    obtain ⟨z1, z2, z3⟩ := A1.settle e1 f1 r1
    exact eo.nx _ S1 q1 _ _ H1 (l1.trans z1) (z2.put z3), q⟩
theorem tame_nm {i : Nat} : Tame [i] (gNm i) := fun d ρ K q => ⟨q, fun j hj => by
  rw [Env.at_put, if_neg fun z => hj (by rw [z.1]; exact List.mem_cons_self ..)]⟩
theorem yes_pt {X : Cx} : PTs X [] (rdT g W0 wYes) := ⟨fun pins s σ H Q I h => by
  obtain ⟨w, ρ, S, K, ex, A, xo, ko, q⟩ := h
  exact (pts_nil (X := X)).run pins s σ H Q I (ko true S q w H (Le.refl w) A)⟩
end
end R3

/-! R3g: new instances; isinstance; sequences. -/
namespace R3
open PySem PySem.Spec PyProof.Rows L2

/-! ### __init__ and C(..) -/
/-- the promise of an __init__: C is the contract of the whole call C(..) -/
def spInit (g : Sg) (c n : Nat) (C : Ct) : Sp := fun vs H Q E => ∃ x dx rest w ds S K ex, vs = .ref x :: rest ∧ H x = some (.ins (g.ad c) dx []) ∧ ds.length = n ∧ At0 g w S H ∧ w.F x = none ∧ (∀ k ok, S[k]? = some (some ok) → w.φ k ≠ x) ∧ Reps g w rest ds ∧
  (∀ fs S', K (.obj c fs) S' → ∀ w' H' dx' us, Le w w' → At0 g w' S' H' → w'.F x = none → (∀ k ok, S'[k]? = some (some ok) → w'.φ k ≠ x) → H' x = some (.ins (g.ad c) dx' ((g.fl c).zip us)) → us.length = (g.fl c).length → Reps g w' us fs → Q .non H') ∧
  (∀ y S', ex y S' → ∀ w' H' cls dd, Le w w' → At0 g w' S' H' → ExcAt g w' H' cls dd y → E cls dd H') ∧ C ds S K ex
structure Mak (P : Program) (w : World) (mg : Str → Option Value) (base : Heap) (g : Sg) (k : Nat) (x : Str) (c n : Nat) (C : Ct) : Prop where
  ex : ∃ f, mg x = some (.ref (g.ad c)) ∧ Mk g.K (g.ad c) f ∧ FnR P w g.K mg base (L2.CX P w) k f (spInit g c n C)
section
variable {g : Sg} {X : Cx} {W : WX} {a b e o : Expr} {pos apos : Pos} {fa fb fe fo : FE} {es : List Expr} {fr : FA} {st : Stmt}
theorem run_mk {k c n : Nat} {C : Ct} {fn : Addr} {pins : List (Addr × Obj)} {s : Shared} {σ : L2.St} {H : Hp} {w : Wd} {ρ : List Sl} {S : Store} {ds : List D} {vs : List V} {us : List Value} {K : KD} {ex : KX} {Q : VK}
    (M : Mk X.K (g.ad c) fn) (F : FnR X.prog X.w X.K X.mg X.base (L2.CX X.prog X.w) k fn (spInit g c n C)) (hr : Room (k + 1) X.A) (tk : Takes X W) (I : Inv X pins σ H s) (rv : Vals vs us) (A : At g w ρ S σ H) (rr : Reps g w vs ds) (hn : ds.length = n)
    (xo : XOk g W σ ρ w ex) (ko : KOk g w ρ σ K Q) (q : C ds S K ex) : wpAny (model X.prog X.w) X.A (call (.ref (g.ad c)) us) (EP X pins σ Q) X.xe s := by
  have hx : H (s.heap.objs.size + 1) = none := I.hok.fresh (Nat.le_succ _)
  have hdx : H s.heap.objs.size = none := I.hok.fresh (Nat.le_refl _)
  have I2 := Inv.made (C := g.ad c) I
  have ne : s.heap.objs.size + 1 ≠ s.heap.objs.size := Nat.succ_ne_self _
  have hx1 : upd H s.heap.objs.size (.own (s.heap.objs.size + 1)) (s.heap.objs.size + 1) = none := by rw [upd_ne ne]; exact hx
  have A2 : At g w ρ S σ (upd (upd H s.heap.objs.size (.own (s.heap.objs.size + 1))) (s.heap.objs.size + 1) (.ins (g.ad c) s.heap.objs.size [])) := (A.grow (same_new hdx)).grow (same_new hx1)
  have A1 := A.grow (same_new (o := .own (s.heap.objs.size + 1)) hdx)
  have fx : Fresh w ρ S σ (s.heap.objs.size + 1) := fresh_new A hx
  -- inside, the new instance is nobody's: the frame is the heap without it
  let wi : Wd := (w.inner S (upd (upd H s.heap.objs.size (.own (s.heap.objs.size + 1))) (s.heap.objs.size + 1) (.ins (g.ad c) s.heap.objs.size []))).drop (s.heap.objs.size + 1)
  have Ai : At0 g wi S (upd (upd H s.heap.objs.size (.own (s.heap.objs.size + 1))) (s.heap.objs.size + 1) (.ins (g.ad c) s.heap.objs.size [])) := by
    have E := A2.enter
    refine ⟨fun b u h => ?_, fun b u h => ?_, E.len, fun k ok h => ?_, E.inj, rfl, fun i d h => (by cases i <;> cases h), fun i d h => (by cases i <;> cases h), fun i h => (by cases i <;> cases h)⟩
    · have nb : b ≠ s.heap.objs.size + 1 := fun z => by
        have := A.ih b u h
        rw [z, hx] at this
        cases this
      show (if b = s.heap.objs.size + 1 then none else _) = _
      rw [if_neg nb]
      exact E.if_ b u h
    · have h' : (if b = s.heap.objs.size + 1 then none else (w.inner S _).F b) = some u := h
      by_cases c : b = s.heap.objs.size + 1
      · rw [if_pos c] at h'; cases h'
      · rw [if_neg c] at h'; exact E.fh b u h'
    · obtain ⟨h1, h2⟩ := E.st k ok h
      refine ⟨?_, h2.mono sub_drop rfl⟩
      show (if w.φ k = s.heap.objs.size + 1 then none else _) = none
      split
      · rfl
      · exact h1
  refine wpAny_call (make_map (f := fn) I.kIn M.makes M.init (beq_iff_eq.mp M.fn) (codeAny_mono (F _ X.stack _ _ (Value.ref (s.heap.objs.size + 1) :: us) (V.ref (s.heap.objs.size + 1) :: vs) (fun v H2 => v = .non ∧ Q (.ref (s.heap.objs.size + 1)) H2) (WE W σ) (hr.make (g.ad c) us [])
    (I2.env0.make (g.ad c) us []) (.cons rfl rv) ?_) fun r s' hq' => ?_))
  · refine ⟨_, _, vs, wi, ds, S, K, ex, rfl, upd_same, hn, Ai, if_pos rfl, fx.s, (rr.mono sub_inner).mono sub_drop, fun fs S' kk w' H' dx' us' l A' hF hS hH hl ru => ⟨rfl, ?_⟩, fun y S' ey w' H' cls dd l A' ry => ?_, q⟩
    · -- behind: the instance is a value
      have l' : Le (w.inner S H) (w'.add (s.heap.objs.size + 1) (.ins (g.ad c) dx' ((g.fl c).zip us'))) := by
        have la := le_add (o := .ins (g.ad c) dx' ((g.fl c).zip us')) A'.if_ hF
        refine ⟨⟨l.s.i.trans la.s.i, fun k hk => (la.s.p k (Nat.lt_of_lt_of_le hk l.s.n)).trans (l.s.p k hk), Nat.le_trans l.s.n la.s.n⟩, fun b u h => ?_, fun b h1 h2 => ?_⟩
        · refine la.f b u (l.f b u ?_)
          obtain ⟨e1, e2⟩ := strip_some h
          have nb : b ≠ s.heap.objs.size + 1 := fun z => by rw [z, hx] at e1; cases e1
          show (if b = s.heap.objs.size + 1 then none else strip w.φ S _ b) = some u
          rw [if_neg nb, strip_ne e2, upd_ne nb, upd_ne (fun z => by rw [z, hdx] at e1; cases e1)]
          exact e1
        · obtain ⟨u, hu⟩ : ∃ u, (w.inner S H).F b = some u := by
            cases e : (w.inner S H).F b with
            | none => exact absurd e h2
            | some u => exact ⟨u, rfl⟩
          obtain ⟨e1, e2⟩ := strip_some hu
          have nb : b ≠ s.heap.objs.size + 1 := fun z => by rw [z, hx] at e1; cases e1
          show upd w'.I _ _ b = none
          rw [upd_ne nb]
          refine l.new b h1 ?_
          show (if b = s.heap.objs.size + 1 then none else strip w.φ S _ b) ≠ none
          rw [if_neg nb, strip_ne e2, upd_ne nb, upd_ne (fun z => by rw [z, hdx] at e1; cases e1), e1]
          exact fun z => nomatch z
      have Af : At0 g (w'.add (s.heap.objs.size + 1) (.ins (g.ad c) dx' ((g.fl c).zip us'))) S' H' := A'.fix hH hF hS fun i oi h => (by cases i <;> cases h)
      obtain ⟨l2, A3⟩ := A.leave l' Af
      exact ko _ S' kk _ _ H' l2 A3 (.obj upd_same hl (ru.mono ((le_add (o := .ins (g.ad c) dx' ((g.fl c).zip us')) A'.if_ hF).s.trans sub_outer)))
    · -- an error leaves
      have l' : Le (w.inner S H) w' := by
        refine ⟨⟨l.s.i, l.s.p, l.s.n⟩, fun b u h => ?_, fun b h1 h2 => ?_⟩
        · refine l.f b u ?_
          obtain ⟨e1, e2⟩ := strip_some h
          have nb : b ≠ s.heap.objs.size + 1 := fun z => by rw [z, hx] at e1; cases e1
          show (if b = s.heap.objs.size + 1 then none else strip w.φ S _ b) = some u
          rw [if_neg nb, strip_ne e2, upd_ne nb, upd_ne (fun z => by rw [z, hdx] at e1; cases e1)]
          exact e1
        · obtain ⟨u, hu⟩ : ∃ u, (w.inner S H).F b = some u := by
            cases e : (w.inner S H).F b with
            | none => exact absurd e h2
            | some u => exact ⟨u, rfl⟩
          obtain ⟨e1, e2⟩ := strip_some hu
          have nb : b ≠ s.heap.objs.size + 1 := fun z => by rw [z, hx] at e1; cases e1
          refine l.new b h1 ?_
          show (if b = s.heap.objs.size + 1 then none else strip w.φ S _ b) ≠ none
          rw [if_neg nb, strip_ne e2, upd_ne nb, upd_ne (fun z => by rw [z, hdx] at e1; cases e1), e1]
          exact fun z => nomatch z
      obtain ⟨l2, A3⟩ := A.leave l' A'
      obtain ⟨h1, a, vs, h2, h3, h4, h5⟩ := ry
      exact xo y S' ey _ H' cls dd l2 A3 ⟨h1, a, vs, h2, h3, h4, h5.mono sub_outer⟩
  · cases r with
    | error e => exact passAt tk σ pins _ _ e s' I2 hq'
    | ok fl =>
      cases fl with
      | ret u =>
        obtain ⟨v, H', I3, rv, ev, q3⟩ := I2.after hq'
        subst ev
        exact ⟨rv, ⟨V.ref (s.heap.objs.size + 1), H', I3, rfl, q3⟩⟩
      | next => exact False.elim hq'
      | brk => exact False.elim hq'
      | cont => exact False.elim hq'
theorem emake {x : Str} {k j c n : Nat} {C : Ct} {p : Pos} (F : Mak X.prog X.w X.mg X.base g k x c n C) (hK : g.K = X.K) (hr : Room j X.A) (hk : k + 1 ≤ j) (tk : Takes X W) (hg : Gl X x) (ha : EA g X W (e :: es) fr) (hdb : (x == ("__debug__" : Str)) = false := by decide)
    (he : starEach (e :: es) X.env = (false, eval e X.env) :: starEach es X.env := by rfl) (hpl : (backTo pos (starEach es X.env)).any (·.1) = false := by rfl) : EV g X W (.Call (.Name x p) (e :: es) [] pos) (wCall n C fr) := by
  refine ⟨fun pins s σ H Q I h => ?_⟩
  obtain ⟨w, ρ, S, K, ex, A, xo, ko, q⟩ := h
  obtain ⟨fn, hm, M, F⟩ := F.ex
  rw [hK] at M F
  refine wpAny_Call_Name_kw (ld_glob I hg hm ?_ hdb)
  refine PySem.W.callWith_K (h₀ := X.base) I.ok.mod.kin M.kp (thn (rdA_run ha pos I A xo q) fun us s1 ⟨vs, H1, w1, ds, S1, I1, rv, l1, A1, r1, hn, q1⟩ => ⟨I1.kIn, ?_⟩) he hpl
  exact run_mk M F (hr.mono hk) tk I1 rv A1 r1 hn (xo.later l1) (ko.later l1) q1

/-! ### the body of an __init__ -/
/-- self.f = e, self an instance that is being made in slot i -/
def putD (f : Str) (x : D) : List (Str × D) → List (Str × D)
  | [] => [(f, x)]
  | (h, y) :: r => if h = f then (f, x) :: r else (h, y) :: putD f x r
def wSelf (i : Nat) (f : Str) (fe : FE) (d : Fin) (ρ : List Sl) (S : Store) : Prop := match Env.at ρ i with
  | .own (.new c a fs) => fe ρ S (fun x S' => fs.length < 1000 ∧ d.nx (Env.put ρ i (.own (.new c a (putD f x fs)))) S') (fun x S' => d.ex x ρ S')
  | _ => False
theorem Flds.put {w : Wd} {f : Str} {v : V} {d : D} (h : Rep g w v d) : ∀ {vs : List (Str × V)} {ds : List (Str × D)}, Flds g w vs ds → Flds g w (putF f v vs) (putD f d ds)
  | _, _, .nil => .cons h .nil
  | _, _, .cons (f := n) h' r => by
    show Flds g w (if n = f then _ else _) (if n = f then _ else _)
    by_cases c : n = f
    · rw [if_pos c, if_pos c]
      subst c
      exact .cons h r
    · rw [if_neg c, if_neg c]
      exact .cons h' (Flds.put h r)
theorem Flds.length {w : Wd} : ∀ {vs : List (Str × V)} {ds : List (Str × D)}, Flds g w vs ds → vs.length = ds.length
  | _, _, .nil => rfl
  | _, _, .cons _ r => congrArg (· + 1) (Flds.length r)
theorem sself {i c : Nat} {f : Str} (hK : g.K = X.K) (hc : Cls g.K (g.ad c)) (hn : NoAttr g.K (g.ad c) f) (hp : PS X st (sFld X.K (tVar i) (rdE g W fe) f)) : ES g X W st (fun d ρ S => (∃ a fs, Env.at ρ i = .own (.new c a fs)) ∧ wSelf i f fe d ρ S) :=
  PS.imp hp fun D σ H ⟨w, ρ, S, d, A, eo, ⟨x0, fs, hs⟩, q⟩ => by
    unfold wSelf at q
    rw [hs] at q
    refine ⟨w, ρ, S, _, _, A, eo.xo, fun x S1 q1 v w1 H1 l1 A1 r1 => ?_, q⟩
    obtain ⟨a, h1, h2, ⟨ea, dx, vs, e1, r2⟩, h4, h5⟩ := A1.own i _ hs
    refine ⟨.ref a, h1, a, g.ad c, dx, vs, rfl, e1, by rw [← hK]; exact hc, by rw [← hK]; exact hn, by rw [r2.length]; exact q1.1, ?_⟩
    exact eo.nx _ S1 q1.2 w1 σ _ l1 (A1.mut (o' := .new c x0 (putD f x fs)) hs h1 ⟨ea, dx, _, upd_same, r2.put r1⟩)
end
section
variable {P : Program} {w : World} {mg : Str → Option Value} {base : Heap} {g : Sg} {x qual : Str} {params : Arguments} {body : List Stmt} {scope : Scope} {dvs : List V} {kws : List (Str × V)} {f : Addr} {fd : FuncData}
theorem Flds.names {w : Wd} : ∀ {vs : List (Str × V)} {ds : List (Str × D)}, Flds g w vs ds → ∃ us, vs = (ds.map (·.1)).zip us ∧ us.length = ds.length ∧ Reps g w us (ds.map (·.2))
  | _, _, .nil => ⟨[], rfl, rfl, .nil⟩
  | _, _, .cons h r => by
    obtain ⟨us, e, hl, rr⟩ := Flds.names r
    exact ⟨_ :: us, by rw [e]; rfl, congrArg (· + 1) hl, .cons h rr⟩
theorem init_ok {N : List Str} {ps : List Str} {k c : Nat} {C : Ct} {fs : FS} (F : FunD g.K x qual params body scope dvs kws f fd) (S : FnScope N ("self" :: ps) scope)
    (hb : ∀ (cdv : Value) (A : Around) (outer : List PySem.Env) (s : Shared) (H : Hp) (E : XK), Room k (A.deeper (envOfC qual scope s.heap.objs.size f cdv)) → EB g (cxOf (L2.CX P w) P w g.K mg base N qual scope f cdv A outer s H E) (wD E) body fs)
    (hc : ∀ x0 ds S K ex, ds.length = ps.length → C ds S K ex →
      fs { nx := fun ρ S' => ∃ fl, Env.at ρ 0 = .own (.new c x0 fl) ∧ fl.map (·.1) = g.fl c ∧ K (.obj c (fl.map (·.2))) S', rt := fun _ _ => False, ex := fun x _ S' => ex x S' } (.own (.new c x0 []) :: startD (N.length - 1) ds) S) (hN : 1 ≤ N.length) :
    FnOk P w g.K mg base (L2.CX P w) (k + 1) f fd ("self" :: ps) (spInit g c ps.length C) := by
  refine FunD.ok F S (fun vs H Q E h => ?_) fun cdv A outer s H vs Q E hr h => ⟨_, hb cdv A outer s H E hr, ?_⟩
  · obtain ⟨x, dx, rest, w, ds, S, K, ex, rfl, _, hn, _, _, _, r, _⟩ := h
    show rest.length + 1 = ps.length + 1
    rw [r.length, hn]
  · obtain ⟨x, dx, rest, w0, ds, St, K, ex, rfl, hx, hn, A0, hF, hS, r, ko, xo, q⟩ := h
    have B := A0.start (N := N.drop 1) r
    have A1 : At g w0 (.own (.new c x []) :: startD (N.length - 1) ds) St (start N (.ref x :: rest)) H := by
      have el : start N (V.ref x :: rest) = some (.ref x) :: start (N.drop 1) rest := by
        unfold L2.start
        rw [List.map_cons, List.cons_append, List.length_drop, List.length_cons, Nat.sub_sub, Nat.add_comm 1]
      rw [el]
      rw [List.length_drop] at B
      refine ⟨B.if_, B.fh, B.len, B.st, B.inj, by rw [List.length_cons, List.length_cons, B.sl], fun i d h => ?_, fun i o h => ?_, fun i h => ?_⟩
      · cases i with
        | zero => cases h
        | succ i => exact B.val i d h
      · cases i with
        | zero =>
          cases h
          refine ⟨x, rfl, hF, ⟨rfl, dx, [], hx, .nil⟩, hS, fun j oj hj hs => ?_⟩
          cases j with
          | zero => rfl
          | succ j =>
            obtain ⟨d', _, h2⟩ := startD_at hj (fun z => nomatch z)
            cases h2
        | succ i =>
          obtain ⟨d', _, h2⟩ := startD_at h (fun z => nomatch z)
          cases h2
      · cases i with
        | zero => cases h
        | succ i =>
          obtain ⟨d', _, h2⟩ := startD_at h (fun z => nomatch z)
          cases h2
    refine ⟨w0, _, St, _, A1, ⟨fun ρ' S' kk w' σ' H' l A' => ?_, fun _ _ z => False.elim z, fun _ _ z => False.elim z, fun _ _ z => False.elim z, fun y ρ' S' e w' σ' H' cls dd l A' r => xo y S' e w' H' cls dd l A'.bare r, fun _ _ z => False.elim z⟩, hc x ds St K ex hn q⟩
    obtain ⟨fl, e0, en, kk⟩ := kk
    obtain ⟨a, h1, h2, ⟨rfl, dx', vs', e1, r1⟩, h4, _⟩ := A'.own 0 _ e0
    obtain ⟨us, ev, hl, rr⟩ := r1.names
    rw [ev, en] at e1
    exact ko _ S' kk w' H' dx' us l A'.bare h2 h4 e1 (by rw [hl, ← en, List.length_map]) rr
end
end R3

/-! R3h: isinstance, ==, slices, list, tuple, +. -/
namespace R3
open PySem PySem.Spec PyProof.Rows L2
/-- what isinstance asks of a class of ours -/
structure ClsI (K : PySem.W.Frag) (C : Addr) : Prop where
  cl : Cls K C
  ha : PySem.W.findIn K (.ref C) "__class__" = some (some (.builtin "object.__class__"))
  hn : PySem.W.specialIn K (.builtin "object.__class__") "__get__" = some (some (.builtin "getset_descriptor.__get__"))
  ht : PySem.W.takesIn K (.builtin "object.__class__") = some true
  hm : PySem.W.mroIn K C (.type "object") = some true
/-- a value's type; ok: the classes that are told -/
def tyD (g : Sg) : D → Option Value
  | .non => some (.type "NoneType")
  | .bl _ => some (.type "bool")
  | .int _ => some (.type "int")
  | .str _ => some (.type "str")
  | .tup _ => some (.type "tuple")
  | .lst _ => some (.type "list")
  | .scr _ => some (.type "list")
  | .obj c _ => some (.ref (g.ad c))
  | .dic _ => some (.type "dict")
  | _ => none
section
variable {g : Sg} {X : Cx} {W : WX} {a b e o : Expr} {pos apos : Pos} {fa fb fe fo : FE} {es : List Expr} {fr : FA} {st : Stmt}
theorem tyX_tup {K : PySem.W.Frag} {H : Hp} {a : Addr} {vs : List V} (h : SqT K H a vs) : TyX K H (.ref a) (.type "tuple") := by
  rcases h with (h | ⟨o, h⟩) | ⟨o, its, n, h, c, _⟩
  · exact .base (.tup h)
  · exact .fTuple h
  · exact .kTuple h c
theorem tyX_lst {K : PySem.W.Frag} {H : Hp} {a : Addr} {vs : List V} (h : SqL K H a vs) : TyX K H (.ref a) (.type "list") := by
  rcases h with (h | ⟨o, h⟩) | ⟨o, its, n, h, c, _⟩
  · exact .base (.lst h)
  · exact .base (.frz h)
  · exact .kList h c
theorem tyX_of {w : Wd} {ρ : List Sl} {S : Store} {σ : L2.St} {H : Hp} {v : V} {d : D} {t : Value} (A : At g w ρ S σ H) (r : Rep g w v d) (ht : tyD g d = some t) (hc : ∀ c ds, d = .obj c ds → ClsI g.K (g.ad c)) : TyX g.K H v t := by
  cases r with
  | non => cases ht; exact .base .non
  | bl b => cases ht; exact .base (.bl b)
  | int i => cases ht; exact .base (.int i)
  | str x => cases ht; exact .base (.str x)
  | ty n => cases ht
  | tup h r => cases ht; exact tyX_tup (A.t h)
  | lst h r => cases ht; exact .base (.lst (A.ih _ _ h))
  | scr h => cases ht; exact tyX_lst (A.l h)
  | obj h hl r =>
    cases ht
    obtain ⟨k1, k2, k3, k4, k5⟩ := hc _ _ rfl
    exact .base (.ins (A.ih _ _ h) k1 k2 k3 k4 k5)
  | ref h => cases ht
  | dic h => cases ht; exact .base (.dK (A.ih _ _ h))
/-- isinstance(x, T): the answer by p -/
def wIsi (p : D → Option Bool) (f : FE) (ρ : List Sl) (S : Store) (K : KD) (ex : KX) : Prop := f ρ S (fun x S1 => match p x with | some b => K (.bl b) S1 | none => False) ex
/-- p tells kitOne's answers for the class u -/
structure Kit (g : Sg) (u : Value) (p : D → Option Bool) : Prop where
  ok : ∀ d b, p d = some b → ∃ t, tyD g d = some t ∧ PySem.W.kitOne g.K t u = some b ∧ ∀ c ds, d = .obj c ds → ClsI g.K (g.ad c)
theorem eisi {c : V} {u : Value} {p : D → Option Bool} (hK : g.K = X.K) (hc : ClsV c u) (hp : Kit g u p) (h : PE X e (tCB (rIsi X.K) (tCons (rdE g W fa) (tCons (tC c) tNil)))) : EV g X W e (wIsi p fa) :=
  PE.imp h fun σ H Q ⟨w, ρ, S, K, ex, A, xo, ko, q⟩ => ⟨w, ρ, S, _, ex, A, xo, fun x S1 q1 v w1 H1 l1 A1 r1 => by
    split at q1
    · rename_i b hb
      obtain ⟨t, h1, h2, h3⟩ := hp.ok x b hb
      exact ⟨v, c, t, u, b, rfl, hc, by rw [← hK]; exact tyX_of A1 r1 h1 h3, by rw [← hK]; exact h2, ko _ S1 q1 _ w1 H1 l1 A1 (.bl b)⟩
    · exact q1.elim, q⟩
/-- isinstance(x, (T1, T2)) -/
structure Kit2 (g : Sg) (us : List Value) (p : D → Option Bool) : Prop where
  ok : ∀ d b, p d = some b → ∃ t, tyD g d = some t ∧ PySem.W.kitAny g.K t us = some b ∧ ∀ c ds, d = .obj c ds → ClsI g.K (g.ad c)
theorem eisi2 {c1 c2 : V} {u1 u2 : Value} {p : D → Option Bool} (hK : g.K = X.K) (hc1 : ClsV c1 u1) (hc2 : ClsV c2 u2) (hp : Kit2 g [u1, u2] p) (h : PE X e (tCB (rIsiT X.K) (tCons (rdE g W fa) (tCons (tTup (tCons (tC c1) (tCons (tC c2) tNil))) tNil)))) : EV g X W e (wIsi p fa) :=
  PE.imp h fun σ H Q ⟨w, ρ, S, K, ex, A, xo, ko, q⟩ => ⟨w, ρ, S, _, ex, A, xo, fun x S1 q1 v w1 H1 l1 A1 r1 => by
    split at q1
    · rename_i b hb
      obtain ⟨t, h1, h2, h3⟩ := hp.ok x b hb
      refine ⟨by show 2 ≤ sizeLine; decide, fun p hp => ?_⟩
      have A2 := A1.lay (o := .tup [c1, c2]) hp
      have l2 := le_add (o := .tup [c1, c2]) A1.if_ (A1.free hp)
      exact ⟨v, p, [c1, c2], t, [u1, u2], b, rfl, upd_same, .cons hc1 (.cons hc2 .nil), by rw [← hK]; exact tyX_of A2 (r1.mono l2.s) h1 h3, by rw [← hK]; exact h2, ko _ S1 q1 _ _ _ (l1.trans l2) A2 (.bl b)⟩
    · exact q1.elim, q⟩

/-! ### == of data -/
mutual
def toPy : D → Option PyData
  | .non => some .none
  | .bl b => some (.bool b)
  | .int i => some (.int i)
  | .str x => some (.str x)
  | .tup xs => (toPys xs).map .tuple
  | .lst xs => (toPys xs).map .list
  | _ => none
def toPys : List D → Option (List PyData)
  | [] => some []
  | d :: r => match toPy d, toPys r with
    | some x, some xs => some (x :: xs)
    | _, _ => none
end
mutual
theorem dp_of {w : Wd} {ρ : List Sl} {S : Store} {σ : L2.St} {H : Hp} (A : At g w ρ S σ H) : ∀ {v : V} {d : D} {p : PyData}, Rep g w v d → toPy d = some p → Dp g.K H v p
  | _, _, _, .non, h => by cases h; exact .non
  | _, _, _, .bl b, h => by cases h; exact .bl b
  | _, _, _, .int b, h => by cases h; exact .int b
  | _, _, _, .str b, h => by cases h; exact .str b
  | _, _, _, .ty b, h => by cases h
  | _, _, _, .tup (ds := ds) hh r, h => by
    unfold toPy at h
    cases e : toPys ds with
    | none => rw [e] at h; cases h
    | some ps => rw [e] at h; cases h; exact .tup (A.t hh) (dps_of A r e)
  | _, _, _, .lst (ds := ds) hh r, h => by
    unfold toPy at h
    cases e : toPys ds with
    | none => rw [e] at h; cases h
    | some ps => rw [e] at h; cases h; exact .lst (SqL.of (A.ih _ _ hh)) (dps_of A r e)
  | _, _, _, .scr _, h => by cases h
  | _, _, _, .obj _ _ _, h => by cases h
  | _, _, _, .ref _, h => by cases h
theorem dps_of {w : Wd} {ρ : List Sl} {S : Store} {σ : L2.St} {H : Hp} (A : At g w ρ S σ H) : ∀ {vs : List V} {ds : List D} {ps : List PyData}, Reps g w vs ds → toPys ds = some ps → DpAll g.K H vs ps
  | _, _, _, .nil, h => by cases h; exact .nil
  | _, _, _, .cons (d := d) (ds := ds) hh r, h => by
    unfold toPys at h
    cases e1 : toPy d with
    | none => rw [e1] at h; cases h
    | some x =>
      cases e2 : toPys ds with
      | none => rw [e1, e2] at h; cases h
      | some xs => rw [e1, e2] at h; cases h; exact .cons (dp_of A hh e1) (dps_of A r e2)
end
def rEqDD (neg : Bool) (x y : D) (S : Store) (K : KD) : Prop := ∃ p q, toPy x = some p ∧ toPy y = some q ∧ SeqAt.shaped p = true ∧ SeqAt.shaped q = true ∧ K (.bl (if neg then !PyData.eqv p q else PyData.eqv p q)) S
theorem deq (hK : g.K = X.K) (hu : X.A.units + 64 < cLine) : OpD g X (compareOp .Eq) (rEqDD false) := OpD.of (op_eqD hu) fun σ H w ρ S x y vx vy K Q A rx ry ko ⟨p, q, h1, h2, h3, h4, q5⟩ =>
  ⟨p, q, by rw [← hK]; exact dp_of A rx h1, by rw [← hK]; exact dp_of A ry h2, h3, h4, ko _ S q5 _ w H (Le.refl w) A (.bl _)⟩
theorem dne (hK : g.K = X.K) (hu : X.A.units + 64 < cLine) : OpD g X (compareOp .NotEq) (rEqDD true) := OpD.of (op_neD hu) fun σ H w ρ S x y vx vy K Q A rx ry ko ⟨p, q, h1, h2, h3, h4, q5⟩ =>
  ⟨p, q, by rw [← hK]; exact dp_of A rx h1, by rw [← hK]; exact dp_of A ry h2, h3, h4, ko _ S q5 _ w H (Le.refl w) A (.bl _)⟩

/-! ### list(x), tuple(x) -/
def wListC (f : FE) (ρ : List Sl) (S : Store) (K : List D → Store → Prop) (ex : KX) : Prop := f ρ S (fun x S1 => match x with
  | .lst ds => K ds S1
  | .tup ds => K ds S1
  | _ => False) ex
theorem elist (hK : g.K = X.K) (h : PE X e (tCB (fun xs H Q => ∃ p ys, xs = [.ref p] ∧ (SqL X.K H p ys ∨ SqT X.K H p ys) ∧ ∀ l, H l = none → Q (.ref l) (upd H l (.lst ys))) (tCons (rdE g W fa) tNil))) : EL g X W e (wListC fa) :=
  PE.imp h fun σ H Q ⟨w, ρ, S, K, ex, A, xo, ko, q⟩ => ⟨w, ρ, S, _, ex, A, xo, fun x S1 q1 v w1 H1 l1 A1 r1 => by
    split at q1
    · cases r1 with
      | lst hh rr => exact ⟨_, _, rfl, .inl (SqL.of (A1.ih _ _ hh)), fun p hp => ko _ S1 q1 p _ w1 _ l1 (A1.grow (same_new hp)) upd_same (fresh_new A1 hp) rr⟩
    · cases r1 with
      | tup hh rr => exact ⟨_, _, rfl, .inr (by rw [← hK]; exact A1.t hh), fun p hp => ko _ S1 q1 p _ w1 _ l1 (A1.grow (same_new hp)) upd_same (fresh_new A1 hp) rr⟩
    · exact q1.elim, q⟩
def wTupC (f : FE) (ρ : List Sl) (S : Store) (K : KD) (ex : KX) : Prop := f ρ S (fun x S1 => match x with
  | .lst ds => K (.tup ds) S1
  | .tup ds => K (.tup ds) S1
  | _ => False) ex
theorem etupc (hK : g.K = X.K) (h : PE X e (tCB (fun xs H Q => ∃ p ys, xs = [.ref p] ∧ ((SqL X.K H p ys ∧ ∀ l, H l = none → Q (.ref l) (upd H l (.tup ys))) ∨ (SqT X.K H p ys ∧ Q (.ref p) H))) (tCons (rdE g W fa) tNil))) : EV g X W e (wTupC fa) :=
  PE.imp h fun σ H Q ⟨w, ρ, S, K, ex, A, xo, ko, q⟩ => ⟨w, ρ, S, _, ex, A, xo, fun x S1 q1 v w1 H1 l1 A1 r1 => by
    split at q1
    · cases r1 with
      | lst hh rr => exact ⟨_, _, rfl, .inl ⟨SqL.of (A1.ih _ _ hh), fun p hp => ko _ S1 q1 _ _ _ (l1.trans (le_add A1.if_ (A1.free hp))) (A1.lay hp) (.tup (SqT.of upd_same) (rr.mono (le_add A1.if_ (A1.free hp)).s))⟩⟩
    · cases r1 with
      | tup hh rr => exact ⟨_, _, rfl, .inr ⟨by rw [← hK]; exact A1.t hh, ko _ S1 q1 _ w1 H1 l1 A1 (.tup hh rr)⟩⟩
    · exact q1.elim, q⟩
/-! ### slices of lists -/
abbrev FO := List Sl → Store → (Option Int → Store → Prop) → KX → Prop
def rdO (g : Sg) (W : WX) (f : FO) : TO := fun σ H Q => ∃ w ρ S K ex, At g w ρ S σ H ∧ XOk g W σ ρ w ex ∧ (∀ o S', K o S' → ∀ w' H', Le w w' → At g w' ρ S' σ H' → Q o H') ∧ f ρ S K ex
abbrev EO (g : Sg) (X : Cx) (W : WX) (e : Option Expr) (f : FO) : Prop := PO X e (rdO g W f)
theorem PO.imp {X : Cx} {e : Option Expr} {t t' : TO} (h : PO X e t) (k : ∀ σ H Q, t' σ H Q → t σ H Q) : PO X e t' := ⟨fun pins s σ H Q I q => h.run pins s σ H Q I (k σ H Q q)⟩
def wNoP (_ : List Sl) (S : Store) (K : Option Int → Store → Prop) (_ : KX) : Prop := K none S
def wPrt (f : FE) (ρ : List Sl) (S : Store) (K : Option Int → Store → Prop) (ex : KX) : Prop := f ρ S (fun x S1 => match x with | .int i => K (some i) S1 | _ => False) ex
theorem onone : EO g X W none wNoP := PO.imp po_none fun σ H Q ⟨w, ρ, S, K, ex, A, xo, ko, q⟩ => ko none S q w H (Le.refl w) A
theorem osome (h : EV g X W e fe) : EO g X W (some e) (wPrt fe) := PO.imp (po_some h) fun σ H Q ⟨w, ρ, S, K, ex, A, xo, ko, q⟩ => ⟨w, ρ, S, _, ex, A, xo, fun x S1 q1 v w1 H1 l1 A1 r1 => by
  cases x with
  | int i => exact ⟨i, rep_int r1, ko _ S1 q1 w1 H1 l1 A1⟩
  | _ => exact q1.elim, q⟩
def cutD (xs : List D) (lo hi : Option Int) : List D := (xs.drop (HT.sIx xs.length 0 lo)).take (HT.sIx xs.length xs.length hi - HT.sIx xs.length 0 lo)
theorem Reps.cut {w : Wd} {vs : List V} {ds : List D} (r : Reps g w vs ds) (lo hi : Option Int) : Reps g w (cutV vs lo hi) (cutD ds lo hi) := by
  unfold cutV cutD
  rw [r.length]
  exact (r.drop _).take _
def wSlL (f : FE) (fl fh : FO) (ρ : List Sl) (S : Store) (K : List D → Store → Prop) (ex : KX) : Prop := f ρ S (fun x S1 => fl ρ S1 (fun lo S2 => fh ρ S2 (fun hi S3 => match x with
  | .lst ds => K (cutD ds lo hi) S3
  | .scr ns => K (cutD (ns.map D.int) lo hi) S3
  | _ => False) ex) ex) ex
theorem esll {lo hi : Option Expr} {fl fh : FO} {p2 : Pos} (hK : g.K = X.K) (he : EV g X W e fe) (hl : EO g X W lo fl) (hh : EO g X W hi fh) : EL g X W (.Subscript e (.Slice lo hi none p2) pos) (wSlL fe fl fh) :=
  PE.imp (pe_slice sl_list he hl hh) fun σ H Q ⟨w, ρ, S, K, ex, A, xo, ko, q⟩ => ⟨w, ρ, S, _, ex, A, xo, fun x S1 q1 v w1 H1 l1 A1 r1 => ⟨w1, ρ, S1, _, ex, A1, xo.later l1, fun lo S2 q2 w2 H2 l2 A2 => ⟨w2, ρ, S2, _, ex, A2, xo.later (l1.trans l2), fun hi S3 q3 w3 H3 l3 A3 => by
    have l13 := l1.trans (l2.trans l3)
    have r3 := r1.mono (l2.trans l3).s
    split at q3
    · cases r3 with
      | lst hh rr => exact ⟨_, _, rfl, SqL.of (A3.ih _ _ hh), fun p hp => ko _ S3 q3 p _ w3 _ l13 (A3.grow (same_new hp)) upd_same (fresh_new A3 hp) (rr.cut lo hi)⟩
    · cases r3 with
      | scr hh => exact ⟨_, _, rfl, by rw [← hK]; exact A3.l hh, fun p hp => ko _ S3 q3 p _ w3 _ l13 (A3.grow (same_new hp)) upd_same (fresh_new A3 hp) ((Reps.ints _).cut lo hi)⟩
    · exact q3.elim, q2⟩, q1⟩, q⟩
/-! ### xs + ys -/
def wCat (f h : FE) (ρ : List Sl) (S : Store) (K : List D → Store → Prop) (ex : KX) : Prop := f ρ S (fun x S1 => h ρ S1 (fun y S2 => match x, y with
  | .lst xs, .lst ys => Small (xs.length + ys.length) ∧ K (xs ++ ys) S2
  | _, _ => False) ex) ex
theorem ecat (ha : EV g X W a fa) (hb : EV g X W b fb) : EL g X W (.BinOp a .Add b pos) (wCat fa fb) :=
  PE.imp (pe_op op_cat ha hb) fun σ H Q ⟨w, ρ, S, K, ex, A, xo, ko, q⟩ => ⟨w, ρ, S, _, ex, A, xo, fun x S1 q1 v w1 H1 l1 A1 r1 => ⟨w1, ρ, S1, _, ex, A1, xo.later l1, fun y S2 q2 u w2 H2 l2 A2 r2 => by
    have r1' := r1.mono l2.s
    split at q2
    · cases r1' with
      | lst h1 rr1 =>
        cases r2 with
        | lst h2 rr2 => exact ⟨_, _, _, _, rfl, rfl, A2.ih _ _ h1, A2.ih _ _ h2, by rw [rr1.length, rr2.length]; exact q2.1.line, fun p hp => ko _ S2 q2.2 p _ w2 _ (l1.trans l2) (A2.grow (same_new hp)) upd_same (fresh_new A2 hp) (rr1.app rr2)⟩
    · exact q2.elim, q1⟩, q⟩
/-! ### a < b < c -/
def wChain (r r' : RD) (fa fb fc : FE) (ρ : List Sl) (S : Store) (K : KD) (ex : KX) : Prop := fa ρ S (fun x S1 => fb ρ S1 (fun y S2 => r x y S2 (fun z S3 => match z with
  | .bl k => Br k (fc ρ S3 (fun u S4 => r' y u S4 K) ex) (K (.bl false) S3)
  | _ => False)) ex) ex
theorem echain {c : Expr} {fc : FE} {op op' : CmpOp} {r r' : R2} {rd rd' : RD} (h : PE X e (tChain r r' (rdE g W fa) (rdE g W fb) (rdE g W fc)))
    (k1 : ∀ (σ : L2.St) (H : Hp) (w : Wd) (ρ : List Sl) (S : Store) (x y : D) (vx vy : V) (K : KD) (Q : VK), At g w ρ S σ H → Rep g w vx x → Rep g w vy y → KOk g w ρ σ K Q → rd x y S K → r vx vy H Q)
    (k2 : ∀ (σ : L2.St) (H : Hp) (w : Wd) (ρ : List Sl) (S : Store) (x y : D) (vx vy : V) (K : KD) (Q : VK), At g w ρ S σ H → Rep g w vx x → Rep g w vy y → KOk g w ρ σ K Q → rd' x y S K → r' vx vy H Q) : EV g X W e (wChain rd rd' fa fb fc) :=
  PE.imp h fun σ H Q ⟨w, ρ, S, K, ex, A, xo, ko, q⟩ => ⟨w, ρ, S, _, ex, A, xo, fun x S1 q1 v w1 H1 l1 A1 r1 => ⟨w1, ρ, S1, _, ex, A1, xo.later l1, fun y S2 q2 u w2 H2 l2 A2 r2 =>
    k1 σ H2 w2 ρ S2 x y v u _ _ A2 (r1.mono l2.s) r2 (fun z S3 q3 vz w3 H3 l3 A3 r3 => by
      cases z with
      | bl k =>
        refine ⟨k, rep_bl r3, ?_⟩
        cases k with
        | true =>
          rw [if_pos rfl]
          exact ⟨w3, ρ, S3, _, ex, A3, xo.later (l1.trans (l2.trans l3)), fun t S4 q4 vt w4 H4 l4 A4 r4 => k2 σ H4 w4 ρ S4 y t u vt K Q A4 (r2.mono (l3.trans l4).s) r4 (ko.later (l1.trans (l2.trans (l3.trans l4)))) q4, q3⟩
        | false =>
          rw [if_neg Bool.false_ne_true]
          exact ko _ S3 q3 _ w3 H3 (l1.trans (l2.trans l3)) A3 (.bl false)
      | _ => exact q3.elim) q2, q1⟩, q⟩
theorem kI0 {f : Int → Int → V} {fd : Int → Int → D} (hr : ∀ w i j, Rep g w (f i j) (fd i j)) : ∀ (σ : L2.St) (H : Hp) (w : Wd) (ρ : List Sl) (S : Store) (x y : D) (vx vy : V) (K : KD) (Q : VK), At g w ρ S σ H → Rep g w vx x → Rep g w vy y → KOk g w ρ σ K Q → rInt0 fd x y S K → rI0 f vx vy H Q :=
  fun σ H w ρ S x y vx vy K Q A rx ry ko q => by
    unfold rInt0 at q
    split at q
    · cases rx
      cases ry
      exact ⟨_, _, rfl, rfl, ko _ _ q _ w H (Le.refl w) A (hr w _ _)⟩
    · exact q.elim
end
end R3

/-! R3i: new lists out of calls; lists joined to the store; lists lent. -/
namespace R3
open PySem PySem.Spec PyProof.Rows L2

/-! ### defs that give a new list -/
abbrev CtL := List D → Store → (List D → Store → Prop) → KX → Prop
def spOfL (g : Sg) (n : Nat) (C : CtL) : Sp := fun vs H Q E => ∃ w ds S K ex, ds.length = n ∧ At0 g w S H ∧ Reps g w vs ds ∧
  (∀ es S', K es S' → ∀ a us w' H', Le w w' → At0 g w' S' H' → H' a = some (.lst us) → Fresh w' [] S' [] a → Reps g w' us es → Q (.ref a) H') ∧
  (∀ x S', ex x S' → ∀ w' H' cls dd, Le w w' → At0 g w' S' H' → ExcAt g w' H' cls dd x → E cls dd H') ∧ C ds S K ex
theorem spOfL_len {g : Sg} {n : Nat} {C : CtL} {vs : List V} {H : Hp} {Q : VK} {E : XK} (h : spOfL g n C vs H Q E) : vs.length = n := by
  obtain ⟨w, ds, S, K, ex, hn, _, r, _⟩ := h
  rw [r.length, hn]
structure CalL (P : Program) (w : World) (mg : Str → Option Value) (base : Heap) (g : Sg) (k : Nat) (x : Str) (n : Nat) (C : CtL) : Prop where
  ex : ∃ f, mg x = some (.ref f) ∧ PySem.W.keepIn g.K (.ref f) = true ∧ FnR P w g.K mg base (L2.CX P w) k f (spOfL g n C)
structure MetL (P : Program) (w : World) (mg : Str → Option Value) (base : Heap) (g : Sg) (k : Nat) (c : Nat) (m : Str) (n : Nat) (C : CtL) : Prop where
  ex : ∃ f, Meth g.K (g.ad c) m f ∧ FnR P w g.K mg base (L2.CX P w) k f (spOfL g n C)
section
variable {g : Sg} {X : Cx} {W : WX} {a b c e o : Expr} {pos apos : Pos} {fa fb fe fo : FE} {es : List Expr} {fr : FA} {st : Stmt} {ft : FT}
theorem fresh_out {w w' : Wd} {ρ : List Sl} {S S' : Store} {σ : L2.St} {H : Hp} {p : Addr} (A : At g w ρ S σ H) (l : Le (w.inner S H) w') (f : Fresh w' [] S' [] p) : Fresh (w'.outer ρ σ) ρ S' σ p := by
  refine ⟨?_, f.s, fun i oi h hs => ?_⟩
  · cases q : (w'.outer ρ σ).F p with
    | none => rfl
    | some u =>
      have z := outer_some q
      rw [f.f] at z
      cases z
  · obtain ⟨b, h1, h2, h3, h4, _⟩ := A.own i oi h
    rw [hs] at h1
    cases h1
    obtain ⟨u, hu⟩ := h3.some
    have z := l.f p u ((strip_ne h4).trans hu)
    rw [f.f] at z
    cases z
theorem run_ctL {A0 : Around} {k n : Nat} {C : CtL} {fn : Addr} {pins : List (Addr × Obj)} {s : Shared} {σ : L2.St} {H : Hp} {w : Wd} {ρ : List Sl} {S : Store} {ds : List D} {vs : List V} {us : List Value} {K : List D → Store → Prop} {ex : KX} {Q : VK}
    (F : FnR X.prog X.w X.K X.mg X.base (L2.CX X.prog X.w) k fn (spOfL g n C)) (hr : Room k A0) (e0 : Env0 X.prog X.w X.K X.mg X.base A0 X.stack s H) (tk : Takes X W) (I : Inv X pins σ H s) (rv : Vals vs us) (A : At g w ρ S σ H) (rr : Reps g w vs ds) (hn : ds.length = n)
    (xo : XOk g W σ ρ w ex) (ko : LOk g w ρ σ K Q) (q : C ds S K ex) :
    codeAny (model X.prog X.w) A0 (.call (.ref fn) ⟨us, []⟩) (fun r s' => match r with | .ok (.ret v) => EP X pins σ Q v s' | .ok _ => False | .error e => X.xe e s') s := by
  refine codeAny_mono (F A0 X.stack s H us vs Q (WE W σ) hr e0 rv ?_) fun r s' hq => ?_
  · refine ⟨w.inner S H, ds, S, K, ex, hn, A.enter, reps_inner rr, fun d S' k p ps w' H' l A' e1 f1 r' => ?_, fun x S' e w' H' cls dd l A' r' => ?_, q⟩
    · obtain ⟨l2, A2⟩ := A.leave l A'
      exact ko d S' k p ps _ H' l2 A2 e1 (fresh_out A l f1) (r'.mono sub_outer)
    · obtain ⟨l2, A2⟩ := A.leave l A'
      obtain ⟨h1, a, vs, h2, h3, h4, h5⟩ := r'
      exact xo x S' e _ H' cls dd l2 A2 ⟨h1, a, vs, h2, h3, h4, h5.mono sub_outer⟩
  · cases r with
    | error e => exact passAt tk σ pins H s e s' I hq
    | ok fl =>
      cases fl with
      | ret u => exact I.after hq
      | next => exact False.elim hq
      | brk => exact False.elim hq
      | cont => exact False.elim hq
def wCallL (n : Nat) (C : CtL) (f : FA) (ρ : List Sl) (S : Store) (K : List D → Store → Prop) (ex : KX) : Prop := f ρ S (fun ds S1 => ds.length = n ∧ C ds S1 K ex) ex
theorem ecallL {x : Str} {k j n : Nat} {C : CtL} {p : Pos} (F : CalL X.prog X.w X.mg X.base g k x n C) (hK : g.K = X.K) (hr : Room j X.A) (hk : k ≤ j) (tk : Takes X W) (hg : Gl X x) (ha : EA g X W (e :: es) fr) (hdb : (x == ("__debug__" : Str)) = false := by decide)
    (he : starEach (e :: es) X.env = (false, eval e X.env) :: starEach es X.env := by rfl) (hpl : (backTo pos (starEach es X.env)).any (·.1) = false := by rfl) : EL g X W (.Call (.Name x p) (e :: es) [] pos) (wCallL n C fr) := by
  refine ⟨fun pins s σ H Q I h => ?_⟩
  obtain ⟨w, ρ, S, K, ex, A, xo, ko, q⟩ := h
  obtain ⟨fn, hm, kp, F⟩ := F.ex
  rw [hK] at kp F
  refine wpAny_Call_Name_kw (ld_glob I hg hm ?_ hdb)
  refine PySem.W.callWith_K (h₀ := X.base) I.ok.mod.kin kp (thn (rdA_run ha pos I A xo q) fun us s1 ⟨vs, H1, w1, ds, S1, I1, rv, l1, A1, r1, hn, q1⟩ => ⟨I1.kIn, ?_⟩) he hpl
  exact wpAny_call (run_ctL F (hr.mono hk) I1.env0 tk I1 rv A1 r1 hn (xo.later l1) (ko.later l1) q1)
/-- return x, x an own list -/
def wRetO (i : Nat) (d : Fin) (ρ : List Sl) (S : Store) : Prop := match Env.at ρ i with
  | .own (.lst ds) => d.rl ds S
  | _ => False
theorem sretO {i : Nat} (hp : PS X st (tRet (tVar i))) : ES g X W st (wRetO i) :=
  PS.imp hp fun D σ H ⟨w, ρ, S, d, A, eo, q⟩ => by
    unfold wRetO at q
    split at q
    · rename_i ds hc
      obtain ⟨a, h1, h2, ⟨vs, e1, r1⟩, h4, h5⟩ := A.own i _ hc
      exact ⟨.ref a, h1, eo.rl ds S q a vs w H (Le.refl w) A.bare e1 ⟨h2, h4, fun i oi h => (by cases i <;> cases h)⟩ r1⟩
    · exact q.elim
def wRetL (f : FA) (d : Fin) (ρ : List Sl) (S : Store) : Prop := f ρ S d.rl (fun x S' => d.ex x ρ S')
theorem sretL (he : EL g X W e fr) : ES g X W (.Return (some e) pos) (wRetL fr) :=
  PS.imp (ps_ret he) fun D σ H ⟨w, ρ, S, d, A, eo, q⟩ => ⟨w, ρ, S, _, _, A, eo.xo, fun ds S' k a vs w' H' l A' e1 f1 r1 => eo.rl ds S' k a vs w' H' l A'.bare e1 ⟨f1.f, f1.s, fun i oi h => (by cases i <;> cases h)⟩ r1, q⟩
/-- x = a new list, an object of the store -/
def wJoin (i : Nat) (f : FA) (d : Fin) (ρ : List Sl) (S : Store) : Prop := f ρ S (fun ds S' => d.nx (Env.put ρ i (.val (.ref S'.length))) (S' ++ [some (.lst ds)])) (fun x S' => d.ex x ρ S')
theorem sjoin {i : Nat} {x : Str} {pos' : Pos} (hN : X.N.Nodup) (hi : X.N[i]? = some x) (hx : Loc X.env.scope x) (he : EL g X W e fr) (hs : swapsWith e (some (.Name x pos')) pos.line X.env = pure false := by rfl)
    (hf : X.fn x = true ∨ X.env.scope.names.lookup x = some .local := by first | exact .inl rfl | exact .inr rfl | assumption) : ES g X W (.Assign [.Name x pos'] e pos) (wJoin i fr) :=
  PS.imp (ps_set hN hi hx he hs hf) fun D σ H ⟨w, ρ, S, d, A, eo, q⟩ => ⟨w, ρ, S, _, _, A, eo.xo, fun ds S' k a vs w' H' l A' e1 f1 r1 => by
    obtain ⟨w2, l2, hφ, hn, A2⟩ := A'.join (o := .lst ds) ⟨vs, e1, r1⟩ f1
    have r : Rep g w2 (.ref (w2.φ S'.length)) (.ref S'.length) := .ref (by rw [hn]; exact Nat.lt_succ_self _)
    rw [hφ] at r
    exact eo.nx _ _ k w2 _ H' (l.trans l2) (A2.put r), q⟩
end
section
variable {P : Program} {w : World} {mg : Str → Option Value} {base : Heap} {g : Sg} {x qual : Str} {params : Arguments} {body : List Stmt} {scope : Scope} {dvs : List V} {kws : List (Str × V)} {f : Addr} {fd : FuncData}
theorem def_okL {N ps : List Str} {k : Nat} {C : CtL} {fs : FS} (F : FunD g.K x qual params body scope dvs kws f fd) (S : FnScope N ps scope)
    (hb : ∀ (cdv : Value) (A : Around) (outer : List PySem.Env) (s : Shared) (H : Hp) (E : XK), Room k (A.deeper (envOfC qual scope s.heap.objs.size f cdv)) → EB g (cxOf (L2.CX P w) P w g.K mg base N qual scope f cdv A outer s H E) (wD E) body fs)
    (hc : ∀ ds S K ex, ds.length = ps.length → C ds S K ex → fs { nx := fun _ _ => False, rt := fun _ _ => False, ex := fun x _ S' => ex x S', rl := K } (startD N.length ds) S) : FnOk P w g.K mg base (L2.CX P w) (k + 1) f fd ps (spOfL g ps.length C) := by
  refine FunD.ok F S (fun vs H Q E h => spOfL_len h) fun cdv A outer s H vs Q E hr h => ⟨_, hb cdv A outer s H E hr, ?_⟩
  obtain ⟨w0, ds, St, K, ex, hn, A0, r, ko, xo, q⟩ := h
  exact ⟨w0, _, St, _, A0.start r, ⟨fun _ _ z => False.elim z, fun _ _ z => False.elim z, fun _ _ z => False.elim z, fun _ _ z => False.elim z,
    fun x ρ' S' e w' σ' H' cls dd l A' r => xo x S' e w' H' cls dd l A'.bare r, fun es S' k a us w' H' l A' e1 f1 r1 => ko es S' k a us w' H' l A' e1 f1 r1⟩, hc ds St K ex hn q⟩
end

/-! ### lists lent: while an expression runs, own lists and the store's lists are values -/
mutual
def nolst : D → Bool
  | .tup xs => nolsts xs
  | .obj _ xs => nolsts xs
  | .lst _ => false
  | .ref _ => false
  | .scr _ => false
  | .dic _ => false
  | _ => true
def nolsts : List D → Bool
  | [] => true
  | d :: r => nolst d && nolsts r
end
def flatD (S : Store) (d : D) : D := match d with
  | .ref k => (match S[k]? with
    | some (some (.lst ds)) => .lst ds
    | _ => .ref k)
  | d => d
def flatL (S : Store) : Sl → Sl
  | .no => .no
  | .val d => .val (flatD S d)
  | .own (.lst ds) => .val (.lst ds)
  | .own _ => .no
  | .exc => .exc
def flatE (S : Store) : List Sl → List Sl
  | [] => []
  | s :: r => flatL S s :: flatE S r
def flatS : Store → Store
  | [] => []
  | _ :: r => none :: flatS r
theorem flatS_len : ∀ S : Store, (flatS S).length = S.length
  | [] => rfl
  | _ :: r => congrArg (· + 1) (flatS_len r)
theorem flatS_no : ∀ (S : Store) (k : Nat) (o : SO), (flatS S)[k]? ≠ some (some o)
  | [], k, o, h => by simp [flatS] at h
  | _ :: r, 0, o, h => by simp [flatS] at h
  | _ :: r, k + 1, o, h => flatS_no r k o (by simpa [flatS] using h)
theorem flatE_len (S : Store) : ∀ ρ : List Sl, (flatE S ρ).length = ρ.length
  | [] => rfl
  | _ :: r => congrArg (· + 1) (flatE_len S r)
theorem flatE_at (S : Store) : ∀ (ρ : List Sl) (i : Nat), Env.at (flatE S ρ) i = flatL S (Env.at ρ i)
  | [], i => rfl
  | s :: r, 0 => rfl
  | s :: r, i + 1 => flatE_at S r i
section
open Classical
variable {g : Sg} {w : Wd} {ρ : List Sl} {S : Store} {σ : L2.St} {H : Hp}
/-- a list that is lent -/
def Lent (w : Wd) (ρ : List Sl) (S : Store) (σ : L2.St) (a : Addr) : Prop := (∃ i ds, Env.at ρ i = .own (.lst ds) ∧ σ[i]? = some (some (.ref a))) ∨ ∃ k ds, S[k]? = some (some (.lst ds)) ∧ w.φ k = a
/-- a mutable object -/
def Muta (w : Wd) (ρ : List Sl) (S : Store) (σ : L2.St) (a : Addr) : Prop := (∃ i o, Env.at ρ i = .own o ∧ σ[i]? = some (some (.ref a))) ∨ ∃ k o, S[k]? = some (some o) ∧ w.φ k = a
theorem Lent.muta {a : Addr} (h : Lent w ρ S σ a) : Muta w ρ S σ a := by
  rcases h with ⟨i, ds, h1, h2⟩ | ⟨k, ds, h1, h2⟩
  · exact .inl ⟨i, _, h1, h2⟩
  · exact .inr ⟨k, _, h1, h2⟩
theorem Muta.free {a : Addr} (A : At g w ρ S σ H) (h : Muta w ρ S σ a) : w.F a = none ∧ ∃ u, H a = some u := by
  rcases h with ⟨i, o, h1, h2⟩ | ⟨k, o, h1, h2⟩
  · obtain ⟨b, e1, e2, e3, _⟩ := A.own i o h1
    rw [h2] at e1
    cases e1
    exact ⟨e2, e3.some⟩
  · subst h2
    obtain ⟨e1, e2⟩ := A.st k o h1
    exact ⟨e1, e2.some⟩
theorem Lent.lst {a : Addr} (A : At g w ρ S σ H) (h : Lent w ρ S σ a) : ∃ vs, H a = some (.lst vs) := by
  rcases h with ⟨i, o, h1, h2⟩ | ⟨k, o, h1, h2⟩
  · obtain ⟨b, e1, e2, ⟨vs, e3, _⟩, _⟩ := A.own i _ h1
    rw [h2] at e1
    cases e1
    exact ⟨vs, e3⟩
  · subst h2
    obtain ⟨e1, vs, e2, _⟩ := A.st k _ h1
    exact ⟨vs, e2⟩
open Classical in
noncomputable def Wd.flat (w : Wd) (ρ : List Sl) (S : Store) (σ : L2.St) (H : Hp) : Wd := { w with I := fun a => if Lent w ρ S σ a then H a else w.I a, F := H }
theorem flat_sub (A : At g w ρ S σ H) : Sub w (w.flat ρ S σ H) := ⟨fun a o h => by
  show (if _ then _ else _) = _
  split
  · exact A.ih a o h
  · exact h, fun _ _ => rfl, Nat.le_refl _⟩
theorem At.flat (A : At g w ρ S σ H) : At g (w.flat ρ S σ H) (flatE S ρ) (flatS S) σ H := by
  have look : ∀ a, Lent w ρ S σ a → (w.flat ρ S σ H).I a = H a := fun a h => if_pos h
  refine ⟨fun a o h => ?_, fun _ _ z => z, by rw [flatS_len]; exact A.len, fun k o h => absurd h (flatS_no S k o), fun j k oj ok h => absurd h (flatS_no S j oj), by rw [flatE_len]; exact A.sl, fun i d h => ?_, fun i o h => ?_, fun i h => ?_⟩
  · have h' : (if Lent w ρ S σ a then H a else w.I a) = some o := h
    split at h'
    · exact h'
    · exact A.ih a o h'
  · rw [flatE_at] at h
    cases e : Env.at ρ i with
    | no => rw [e] at h; cases h
    | val d0 =>
      rw [e] at h
      cases h
      obtain ⟨v, h1, h2⟩ := A.val i d0 e
      refine ⟨v, h1, ?_⟩
      unfold flatD
      split
      · rename_i k
        split
        · rename_i ds hS
          obtain ⟨rfl, _⟩ := rep_ref h2
          obtain ⟨_, vs, e2, rr⟩ := A.st k _ hS
          exact .lst ((look _ (.inr ⟨k, ds, hS, rfl⟩)).trans e2) (rr.mono (flat_sub A))
        · exact h2.mono (flat_sub A)
      · exact h2.mono (flat_sub A)
    | own o =>
      rw [e] at h
      cases o with
      | lst ds =>
        cases h
        obtain ⟨a, h1, h2, ⟨vs, e2, rr⟩, _⟩ := A.own i _ e
        exact ⟨.ref a, h1, .lst ((look _ (.inl ⟨i, ds, e, h1⟩)).trans e2) (rr.mono (flat_sub A))⟩
      | _ => cases h
    | exc => rw [e] at h; cases h
  · rw [flatE_at] at h
    cases e : Env.at ρ i with
    | no => rw [e] at h; cases h
    | val d0 => rw [e] at h; cases h
    | own o => rw [e] at h; cases o <;> cases h
    | exc => rw [e] at h; cases h
  · rw [flatE_at] at h
    cases e : Env.at ρ i with
    | no => rw [e] at h; cases h
    | val d0 => rw [e] at h; cases h
    | own o => rw [e] at h; cases o <;> cases h
    | exc => exact (A.xc i e).mono (flat_sub A) rfl
open Classical in
noncomputable def Wd.unflat (w w' : Wd) (ρ : List Sl) (S : Store) (σ : L2.St) : Wd := { w with I := fun a => if Lent w ρ S σ a then none else w'.I a, F := fun a => if Muta w ρ S σ a then none else w'.F a }
theorem At.unflat {w' : Wd} {ρ' : List Sl} {S' : Store} {σ' : L2.St} {H' : Hp} (A : At g w ρ S σ H) (l : Le (w.flat ρ S σ H) w') (B : At g w' ρ' S' σ' H') : Le w (w.unflat w' ρ S σ) ∧ At g (w.unflat w' ρ S σ) ρ S σ H' := by
  have notM : ∀ a u, w.F a = some u → ¬ Muta w ρ S σ a := fun a u h m => by
    have z := (m.free A).1
    rw [h] at z
    cases z
  have keep : ∀ a u, H a = some u → H' a = some u ∧ w'.F a = some u := fun a u h => ⟨B.fh a u (l.f a u h), l.f a u h⟩
  have sI : Same w.I (w.unflat w' ρ S σ).I := fun a u h => by
    have nl : ¬ Lent w ρ S σ a := fun z => notM a u (A.if_ a u h) z.muta
    show (if _ then _ else _) = _
    rw [if_neg nl]
    exact l.s.i a u ((flat_sub A).i a u h)
  have sub : Sub w (w.unflat w' ρ S σ) := ⟨sI, fun _ _ => rfl, Nat.le_refl _⟩
  refine ⟨⟨sub, fun a u h => ?_, fun b h1 h2 => ?_⟩, ⟨fun a u h => ?_, fun a u h => ?_, A.len, fun k o h => ⟨if_pos (.inr ⟨k, o, h, rfl⟩), ?_⟩, A.inj, A.sl, fun i d h => ?_, fun i o h => ?_, fun i h => (A.xc i h).mono sub rfl⟩⟩
  · show (if _ then _ else _) = _
    rw [if_neg (notM a u h)]
    exact (keep a u (A.fh a u h)).2
  · show (if _ then _ else _) = _
    split
    · rfl
    · rename_i nl
      refine l.new b ?_ ?_
      · show (if _ then _ else _) = _
        rw [if_neg nl]
        exact h1
      · show H b ≠ none
        cases e : w.F b with
        | none => exact absurd e h2
        | some u => rw [A.fh b u e]; exact fun z => nomatch z
  · have h' : (if Lent w ρ S σ a then none else w'.I a) = some u := h
    split at h'
    · cases h'
    · rename_i nl
      have nm : ¬ Muta w ρ S σ a := fun m => by
        obtain ⟨m1, u2, m2⟩ := m.free A
        have z := l.new a (by show (if _ then _ else _) = _; rw [if_neg nl]; exact A.freeI m1) (by show H a ≠ none; rw [m2]; exact fun z => nomatch z)
        rw [h'] at z
        cases z
      show (if _ then _ else _) = _
      rw [if_neg nm]
      exact B.if_ a u h'
  · have h' : (if Muta w ρ S σ a then none else w'.F a) = some u := h
    split at h'
    · cases h'
    · exact B.fh a u h'
  · obtain ⟨h1, h2⟩ := A.st k o h
    obtain ⟨u, hu⟩ := h2.some
    exact h2.mono sub ((keep _ u hu).1.trans hu.symm)
  · obtain ⟨v, h1, h2⟩ := A.val i d h
    exact ⟨v, h1, h2.mono sub⟩
  · obtain ⟨a, h1, h2, h3, h4, h5⟩ := A.own i o h
    obtain ⟨u, hu⟩ := h3.some
    exact ⟨a, h1, if_pos (.inl ⟨i, o, h, h1⟩), h3.mono sub ((keep _ u hu).1.trans hu.symm), h4, h5⟩
theorem lent_lst {w' : Wd} (A : At g w ρ S σ H) (l : Le (w.flat ρ S σ H) w') {a : Addr} (h : Lent w ρ S σ a) : ∃ vs, w'.I a = some (.lst vs) := by
  obtain ⟨vs, e⟩ := h.lst A
  exact ⟨vs, l.s.i a _ ((if_pos h).trans e)⟩
mutual
theorem Rep.unflat {w' : Wd} (A : At g w ρ S σ H) (l : Le (w.flat ρ S σ H) w') : ∀ {v : V} {d : D}, Rep g w' v d → nolst d = true → Rep g (w.unflat w' ρ S σ) v d
  | _, _, .non, _ => .non
  | _, _, .bl b, _ => .bl b
  | _, _, .int b, _ => .int b
  | _, _, .str b, _ => .str b
  | _, _, .ty b, _ => .ty b
  | _, _, .tup (a := a) h r, n => by
    refine .tup ?_ (Reps.unflat A l r n)
    have nl : ∀ o, w'.I a = some o → (∀ vs, o ≠ .lst vs) → (w.unflat w' ρ S σ).I a = some o := fun o e ne => by
      have z : ¬ Lent w ρ S σ a := fun z => by
        obtain ⟨vs, q⟩ := lent_lst A l z
        rw [e] at q
        cases q
        exact ne vs rfl
      exact (if_neg z).trans e
    rcases h with (h | ⟨o, h⟩) | h
    · exact .inl (.inl (nl _ h fun _ z => nomatch z))
    · exact .inl (.inr ⟨o, nl _ h fun _ z => nomatch z⟩)
    · exact .inr h
  | _, _, .lst _ _, n => by cases n
  | _, _, .scr _, n => by cases n
  | _, _, .obj (a := a) (dx := dx) h hl r, n => by
    refine .obj (dx := dx) ?_ hl (Reps.unflat A l r n)
    have z : ¬ Lent w ρ S σ a := fun z => by
      obtain ⟨vs, q⟩ := lent_lst A l z
      rw [h] at q
      cases q
    exact (if_neg z).trans h
  | _, _, .ref _, n => by cases n
  | _, _, .dic _, n => by cases n
theorem Reps.unflat {w' : Wd} (A : At g w ρ S σ H) (l : Le (w.flat ρ S σ H) w') : ∀ {v : List V} {d : List D}, Reps g w' v d → nolsts d = true → Reps g (w.unflat w' ρ S σ) v d
  | _, _, .nil, _ => .nil
  | _, _, .cons h r, n => by
    have n' := Bool.and_eq_true_iff.mp n
    exact .cons (Rep.unflat A l h n'.1) (Reps.unflat A l r n'.2)
end
theorem fresh_unflat {w' : Wd} {ρ' : List Sl} {S' : Store} {σ' : L2.St} (A : At g w ρ S σ H) (l : Le (w.flat ρ S σ H) w') {a : Addr} (f : Fresh w' ρ' S' σ' a) : Fresh (w.unflat w' ρ S σ) ρ S σ a := by
  have no : ∀ u, H a ≠ some u := fun u h => by
    have z := l.f a u h
    rw [f.f] at z
    cases z
  refine ⟨?_, fun k ok h z => ?_, fun i oi h z => ?_⟩
  · show (if _ then _ else _) = _
    split
    · rfl
    · exact f.f
  · obtain ⟨u, hu⟩ := (A.st k ok h).2.some
    rw [show w.φ k = a from z] at hu
    exact no u hu
  · obtain ⟨b, h1, _, h3, _⟩ := A.own i oi h
    rw [z] at h1
    cases h1
    obtain ⟨u, hu⟩ := h3.some
    exact no u hu
end
section
variable {g : Sg} {X : Cx} {W : WX} {e : Expr} {fe : FE} {ft : FT} {fr : FA}
theorem xo_lend {σ : L2.St} {ρ : List Sl} {S : Store} {H : Hp} {w : Wd} {ex : KX} (A : At g w ρ S σ H) (xo : XOk g W σ ρ w ex) : XOk g W σ (flatE S ρ) (w.flat ρ S σ H) (fun x _ => nolsts x.fs = true ∧ ex x S) := fun x S' e w' H' cls dd l B r => by
  obtain ⟨l2, A2⟩ := A.unflat l B
  obtain ⟨h1, a, vs, h2, h3, h4, h5⟩ := r
  have z : ¬ Lent w ρ S σ a := fun z => by
    obtain ⟨us, q⟩ := lent_lst A l z
    rw [h3] at q
    cases q
  exact xo x S e.2 _ H' cls dd l2 A2 ⟨h1, a, vs, h2, (if_neg z).trans h3, h4, h5.unflat A l e.1⟩
def wLend (f : FE) (ρ : List Sl) (S : Store) (K : KD) (ex : KX) : Prop := f (flatE S ρ) (flatS S) (fun d _ => nolst d = true ∧ K d S) (fun x _ => nolsts x.fs = true ∧ ex x S)
theorem lend (h : EV g X W e fe) : EV g X W e (wLend fe) := PE.imp h fun σ H Q ⟨w, ρ, S, K, ex, A, xo, ko, q⟩ =>
  ⟨w.flat ρ S σ H, flatE S ρ, flatS S, _, _, A.flat, xo_lend A xo, fun d S' k v w' H' l B r => by
    obtain ⟨l2, A2⟩ := A.unflat l B
    exact ko d S k.2 v _ H' l2 A2 (r.unflat A l k.1), q⟩
def wLendT (f : FT) (ρ : List Sl) (S : Store) (K : Bool → Store → Prop) (ex : KX) : Prop := f (flatE S ρ) (flatS S) (fun b _ => K b S) (fun x _ => nolsts x.fs = true ∧ ex x S)
theorem lendT (h : ET g X W e ft) : ET g X W e (wLendT ft) := PT.imp h fun σ H Q ⟨w, ρ, S, K, ex, A, xo, ko, q⟩ =>
  ⟨w.flat ρ S σ H, flatE S ρ, flatS S, _, _, A.flat, xo_lend A xo, fun b S' k w' H' l B => by
    obtain ⟨l2, A2⟩ := A.unflat l B
    exact ko b S k _ H' l2 A2, q⟩
def wLendL (f : FA) (ρ : List Sl) (S : Store) (K : List D → Store → Prop) (ex : KX) : Prop := f (flatE S ρ) (flatS S) (fun ds _ => nolsts ds = true ∧ K ds S) (fun x _ => nolsts x.fs = true ∧ ex x S)
theorem lendL (h : EL g X W e fr) : EL g X W e (wLendL fr) := PE.imp h fun σ H Q ⟨w, ρ, S, K, ex, A, xo, ko, q⟩ =>
  ⟨w.flat ρ S σ H, flatE S ρ, flatS S, _, _, A.flat, xo_lend A xo, fun ds S' k a vs w' H' l B e1 f1 r => by
    obtain ⟨l2, A2⟩ := A.unflat l B
    exact ko ds S k.2 a vs _ H' l2 A2 e1 (fresh_unflat A l f1) (r.unflat A l k.1), q⟩
end
end R3


/-! R3j: the head's facts: a list of Bools over the written part, and the defs by where they stand. -/
namespace R3
open PySem PySem.Spec PyProof.Rows L2
abbrev Fr := PySem.W.Frag
abbrev Seen := Option (Str × Str × Arguments × FuncBody × Scope × Addr × List (Str × Addr) × Addr)
/-- a def: its place, names, text, defaults -/
structure DefR where
  ad : Fr → Addr
  name : Str
  qual : Str
  params : Arguments
  body : List Stmt
  scope : Scope
  dfl : List V
  kws : List (Str × V)
def seenAt (K : Fr) (p : Addr) : Seen := match K.lookup p with
  | some ⟨_, _, .func f, _⟩ =>
    some (f.name, f.qualname, f.params, f.body, f.scope, f.globals, f.closure, f.builtins)
  | _ => none
def DefR.want (d : DefR) : Seen :=
  some (d.name, d.qual, d.params, .stmts d.body, d.scope, mainGlobals, [], builtinsNs)
def DefR.good (K : Fr) (d : DefR) : Bool := PySem.W.keepIn K (.ref (d.ad K)) && match K.lookup (d.ad K) with
  | some ⟨_, _, .func f, _⟩ => PySem.W.codeIn K f.code d.qual && (He.dflB K f.defaults d.dfl && He.kwdB K f.kwdefaults d.kws)
  | _ => false
theorem DefR.fun_ {K : Fr} {d : DefR} (e : seenAt K (d.ad K) = d.want) (c : d.good K = true) : ∃ fd, FunD K d.name d.qual d.params d.body d.scope d.dfl d.kws (d.ad K) fd := by
  have c' := Bool.and_eq_true_iff.mp c
  have c2 := c'.2
  unfold seenAt at e
  cases q : K.lookup (d.ad K) with
  | none =>
    rw [q] at c2
    cases c2
  | some ob =>
    cases ob with
    | mk oc od dt osl =>
      rw [q] at c2 e
      cases dt with
      | func f =>
        cases f with
        | mk n1 n2 n3 n4 n5 n6 n7 n8 n9 n10 n11 n12 n13 n14 n15 =>
          have e2 : (n1, n2, n3, n4, n5, n6, n7, n15) = (d.name, d.qual, d.params, FuncBody.stmts d.body, d.scope, mainGlobals, [], builtinsNs) := Option.some.inj e
          have c3 := Bool.and_eq_true_iff.mp (show (PySem.W.codeIn K n13 d.qual && (He.dflB K n8 d.dfl && He.kwdB K n9 d.kws)) = true from c2)
          have c4 := Bool.and_eq_true_iff.mp c3.2
          simp only [Prod.mk.injEq] at e2
          obtain ⟨g1, g2, g3, g4, g5, g6, g7, g8⟩ := e2
          subst g1 g2 g3 g4 g5 g6 g7 g8
          exact ⟨_, ⟨oc, od, n8, n9, n10, n11, n12, n13, n14, osl, rfl, q, c3.1, He.dflB_ok c4.1, He.kwdB_ok c4.2⟩, c'.1⟩
      | _ => cases c2
abbrev Obs := Bool × List Seen
def obsR (fa : List (Fr → Bool)) (fn : List DefR) (K : Fr) : Obs := ((fa.all fun f => f K) && (fn.all fun d => d.good K), fn.map fun d => seenAt K (d.ad K))
def wantR (fn : List DefR) : Obs := (true, fn.map DefR.want)
def Told (fa : List (Fr → Bool)) (fn : List DefR) (K : Fr) : Prop := obsR fa fn K = wantR fn
def hookR (n : Nat) (fa : List (Fr → Bool)) (fn : List DefR) : PySem.W.Hook where
  α := Obs
  obs := fun s => obsR fa fn (He.frG s.heap.get? (He.asD s.heap.get? n ++ [cStatics]))
  val := fun _ => wantR fn
  says := fun _ h => ∃ K : Fr, K.In h ∧ Told fa fn K
  of := fun _ _ e => ⟨_, He.frG_in, e⟩
  keeps := fun _ _ _ p k => p.elim fun K q => ⟨K, PySem.W.Frag.In.keeps q.1 k, q.2⟩
def obsT (n : Nat) (fa : List (Fr → Bool)) (fn : List DefR) (s : PySem.W.SharedT) : Obs := obsR fa fn (He.frG (HandSHeadRun.getT s) (He.asD (HandSHeadRun.getT s) n ++ [cStatics]))
theorem obsT_eq {n : Nat} {fa : List (Fr → Bool)} {fn : List DefR} (s : PySem.W.SharedT) : obsT n fa fn s = (hookR n fa fn).obs s.abs := by
  have e : HandSHeadRun.getT s = s.abs.heap.get? := funext (HandSHeadRun.getT_eq s)
  unfold obsT
  rw [e]
  rfl
theorem Told.fact {fa : List (Fr → Bool)} {fn : List DefR} {K : Fr} (c : Told fa fn K) (i : Nat) {f : Fr → Bool} (h : fa[i]? = some f := by rfl) : f K = true :=
  List.all_eq_true.mp (Bool.and_eq_true_iff.mp (congrArg Prod.fst c : ((fa.all fun f => f K) && (fn.all fun d => d.good K)) = true)).1 f (List.mem_of_getElem? h)
theorem Told.fun_ {fa : List (Fr → Bool)} {fn : List DefR} {K : Fr} (c : Told fa fn K) (i : Nat) {d : DefR} (h : fn[i]? = some d := by rfl) : ∃ fd, FunD K d.name d.qual d.params d.body d.scope d.dfl d.kws (d.ad K) fd := by
  have c2 := (Bool.and_eq_true_iff.mp (congrArg Prod.fst c : ((fa.all fun f => f K) && (fn.all fun d => d.good K)) = true)).2
  have e : fn.map (fun d => seenAt K (d.ad K)) = fn.map DefR.want := congrArg Prod.snd c
  have e2 := congrArg (fun l : List Seen => l[i]?) e
  simp only [List.getElem?_map, h, Option.map_some] at e2
  exact DefR.fun_ (Option.some.inj e2) (List.all_eq_true.mp c2 d (List.mem_of_getElem? h))
/-- the getter of a property -/
def prA (K : Fr) (C : Addr) (m : Str) : Addr := match PySem.W.recIn K (He.ma K C m) "property" with
  | some (.ref q :: _) => q
  | _ => 0
/-! Bools -/
def fGlo (x : Str) (K : Fr) : Bool := (He.Fa.glo x).ok K
def fFree (x : Str) (K : Fr) : Bool := (He.Fa.free x).ok K
def fInt (x : Str) (i : Int) (K : Fr) : Bool := (He.Fa.int x i).ok K
def fCls (x : Str) (K : Fr) : Bool := (He.Fa.cls x).ok K
def fNo (x f : Str) (K : Fr) : Bool := (He.Fa.noat x f).ok K
def fMeth (x m : Str) (K : Fr) : Bool := (He.Fa.meth x m).ok K
def fMk (x : Str) (K : Fr) : Bool := (He.Fa.mkr x).ok K
def fProp (x m : Str) (K : Fr) : Bool := He.eqO (PySem.W.findIn K (.ref (He.ga K x)) m) (some (some (.ref (He.ma K (He.ga K x) m)))) &&
  (He.eqO (PySem.W.specialIn K (.ref (He.ma K (He.ga K x) m)) "__get__") (some (some (.builtin "property.__get__"))) && (decide (PySem.W.takesIn K (.ref (He.ma K (He.ga K x) m)) = some true) &&
  (match PySem.W.recIn K (He.ma K (He.ga K x) m) "property" with | some (.ref _ :: _) => true | _ => false)))
theorem fProp_ok {x m : Str} {K : Fr} (c : fProp x m K = true) : PropOf K (He.ga K x) m (He.ma K (He.ga K x) m) (prA K (He.ga K x) m) := by
  unfold fProp at c
  simp only [Bool.and_eq_true] at c
  obtain ⟨c1, c2, c3, c4⟩ := c
  refine ⟨He.eqO_ok c1, He.eqO_ok c2, of_decide_eq_true c3, ?_⟩
  unfold prA
  split at c4
  · rename_i q rest e
    rw [e]
    exact ⟨rest, rfl⟩
  · cases c4
def fIsi (x : Str) (K : Fr) : Bool := (He.Fa.cls x).ok K && (He.eqO (PySem.W.findIn K (.ref (He.ga K x)) "__class__") (some (some (.builtin "object.__class__"))) &&
  (He.eqO (PySem.W.specialIn K (.builtin "object.__class__") "__get__") (some (some (.builtin "getset_descriptor.__get__"))) && (decide (PySem.W.takesIn K (.builtin "object.__class__") = some true) && decide (PySem.W.mroIn K (He.ga K x) (.type "object") = some true))))
theorem fIsi_ok {x : Str} {K : Fr} (c : fIsi x K = true) : ClsI K (He.ga K x) := by
  unfold fIsi at c
  simp only [Bool.and_eq_true] at c
  obtain ⟨c1, c2, c3, c4, c5⟩ := c
  exact ⟨He.cls_ok c1, He.eqO_ok c2, He.eqO_ok c3, of_decide_eq_true c4, of_decide_eq_true c5⟩
/-- kitOne's answer -/
def fKit (t u : Fr → Value) (b : Bool) (K : Fr) : Bool := decide (PySem.W.kitOne K (t K) (u K) = some b)
end R3

/-! R3k: enumerate, zip. -/
namespace R3
open PySem PySem.Spec PyProof.Rows L2
/-! ### enumerate over a tuple -/
/-- the tuple at a, each item in a new pair -/
def IteT (K : Fr) (a : Addr) : It where
  go := fun i H => ∃ (xs : List V) (x : V), SqT K H a xs ∧ xs[i]? = some x
  yld := fun i H v H' => ∃ T x, v = .ref T ∧ H T = none ∧ H' = upd H T (.tup [.int (i : Nat), x]) ∧ ∀ xs, SqT K H a xs → xs[i]? = some x
  stop := fun i H => ∃ xs : List V, SqT K H a xs ∧ xs.length ≤ i
theorem turn_enumT {P : Program} {w : World} {K : Fr} {elts : List Expr} {kk : Nat} {tpos : Pos} (a e it : Addr) (ha : a ≠ it) (ha2 : a ≠ e) :
    Turn P w K (.Tuple elts kk tpos) (IteT K a) [e, it] e (fun i h => (∃ old, IsEnum h e it ((i : Nat) : Int) old) ∧ h.IsTupleIter it a i ∧ e ≠ it) where
  mem := by simp
  obj := fun i h st b hb => by
    obtain ⟨⟨old, he⟩, ⟨o, ho, hc, hd⟩, _⟩ := st
    rcases (by simpa using hb : b = e ∨ b = it) with z | z
    · rw [z]
      exact ⟨_, he, fun v q => nomatch q⟩
    · rw [z]
      exact ⟨o, ho, fun v q => by rw [hd] at q; cases q⟩
  keep := fun i h h' st k => by
    obtain ⟨⟨old, he⟩, hi, hne⟩ := st
    exact ⟨⟨old, k e (by simp) _ he⟩, hi.at fun o q => k it (by simp) o q, hne⟩
  item := by
    intro X hP hw hK hc i pins s σ H E I hf st hg
    subst hP hw hK
    obtain ⟨⟨old, he⟩, hit, hne⟩ := st
    obtain ⟨xs, x, hq, hx⟩ := hg
    obtain ⟨its, rv, p, hz⟩ := I.tuple hq
    obtain ⟨u, hu, ru⟩ := rv.get hx
    have hel : e < s.heap.objs.size := Heap.lt_size he
    have hil : it < s.heap.objs.size := by obtain ⟨_, q, _⟩ := hit; exact Heap.lt_size q
    have hh : X.A.in1.handled = none := I.ok.hd hc
    have hlt : i < its.toArray.size := by
      have := (List.getElem?_eq_some_iff.mp hu).1
      simpa using this
    refine wpAny_pyNext_enum_itemD (Draws.tuple hh it a ha its.toArray) he ⟨hit, p⟩ hlt hne (by simp [hne, Ne.symm ha2]) fun x' h' tk hP' ho hit' hT hsz hk => ?_
    have ex : x' = u := by
      rw [List.getElem?_toArray, hu] at hP'
      exact (Option.some.inj hP').symm
    subst ex
    refine ⟨_, rfl, wpAny_letOwnedTupleGo_enum (s := { s with heap := h', toks := tk + 1 }) ho fun h'' he' sb => ?_⟩
    have hT2 : h''.get? s.heap.objs.size = some { cls := .type "tuple", data := .seq #[.int i tk, x'] } := (sb.2 _ (Nat.ne_of_gt hel)).trans hT
    have new : ObjOk X.prog X.w (upd H s.heap.objs.size (.tup [.int (i : Nat), x])) h'' s.heap.objs.size (.tup [.int (i : Nat), x]) :=
      ⟨(by decide : 2 ≤ sizeLine), [.int i tk, x'], .cons ⟨_, rfl⟩ (.cons ru .nil), ⟨_, hT2, rfl, _, rfl⟩⟩
    have I1 : Inv X pins σ (upd H s.heap.objs.size (.tup [.int (i : Nat), x])) { s with heap := h'', toks := tk + 1 } :=
      I.turnedNew (ch := [e, it]) (fun b ob hb q => (sb.2 b fun z => hb (by simp [z])).trans (hk b ob (fun z => hb (by simp [z])) (fun z => hb (by simp [z])) q)) hf (Nat.le_refl _) new
    refine ⟨.ref s.heap.objs.size, _, I1, rfl, ⟨_, x, rfl, I.hok.fresh (Nat.le_refl _), rfl, fun ys hy => (by rw [I.tuple_inj hy hq]; exact hx)⟩, ⟨⟨x', ?_⟩, hit'.1.at fun o q => (sb.2 it (Ne.symm hne)).trans q, hne⟩, fun b hb => ?_⟩
    · rw [show ((i + 1 : Nat) : Int) = (i : Int) + 1 by omega]
      exact he'
    · have hb' : b < s.heap.objs.size := by
        rcases (by simpa using hb : b = e ∨ b = it) with z | z
        · rw [z]; exact hel
        · rw [z]; exact hil
      rw [upd_ne (Nat.ne_of_lt hb')]
      exact (hf b hb).1
  done := by
    intro X hP hw hK hc i pins s σ H E I hf st hg
    subst hP hw hK
    obtain ⟨⟨old, he⟩, hit, hne⟩ := st
    obtain ⟨xs, hq, hx⟩ := hg
    obtain ⟨its, rv, p, hz⟩ := I.tuple hq
    obtain ⟨f0, f1, f2, f3, f4, f5⟩ := hf it (by simp)
    have hl := rv.length
    -- at the end the place is not below the length: the end by the inner iterator itself
    have hT : s.TypeIs (.ref e) "enumerate" := ⟨_, he, rfl⟩
    have key : ∀ Q : Option Value → Shared → Prop, (∀ h', Heap.ExtBut it s.heap h' → Q none { s with heap := h' }) → wpAny (model X.prog X.w) X.A (pyNext (.ref e)) Q E s := fun Q hQ => by
      unfold pyNext
      refine wpAny_bind (wpAny_attempt (wpAny_callSpecial?_slot (name := Str.ofString "__next__") hT F.slot_enumerate_next (wpAny_call_entry F.slot_enumerate_next hT F.entry_enumerate_next ?_ (F.args_enumerate_next_1 _))))
      show wpAny _ _ (field (.ref e) 2 >>= _) _ _ _
      refine wpAny_bind (wpAny_field he rfl (x := .ref it) rfl ?_)
      refine wpAny_bind (wpAny_nextOf_tuple_end (A := X.A.in1) (I.ok.hd hc) hit p (by simp; omega) fun h' x he' hx' => ?_)
      obtain ⟨o, ho, hcl⟩ := hx'
      exact wpAny_bind (wpAny_isInstance (T := "StopIteration") (b := true) ⟨o, ho, hcl⟩ isSubtype_stop (wpAny_pure (hQ _ he')))
    exact key _ fun h' eb => ⟨rfl, I.turned (t' := s.toks) (fun b o hb q => eb b o hb q) f0 f1 f3 f4 f5⟩
  self := fun A i s Q E st h => by
    obtain ⟨⟨old, he⟩, _⟩ := st
    exact wpAny_pyIter_enum he h
theorem meets_enumT {v : Value} {o : Obj} {H : Heap → Prop} (B : Begins v o H) : Meets (Builtin.«enumerate.__new__» ⟨[.type "enumerate", v], []⟩) (fun _ R s => H s.heap ∧
    R (.ok (.ret (.ref (s.heap.push o).objs.size))) { s with heap := (s.heap.push o).push { cls := .type "enumerate", data := .fields #[.none, .bool false, .ref s.heap.objs.size, rawInt 0, .none, .none] } }) :=
  .of_wp fun prog w A R s h => by
    obtain ⟨hp, g, d, tk, os⟩ := s
    obtain ⟨h1, h⟩ := h
    have hsub := sub_enumerate
    have q1 : ∀ {A' : Around} {E : Value → Shared → Prop} {Q : Value → Shared → Prop}, Q (.ref hp.objs.size) ⟨hp.push o, g, d, tk, os⟩ → wpAny (model prog w) A' (pyIter v) Q E ⟨hp, g, d, tk, os⟩ := fun q => B.iter prog w _ _ ⟨hp, g, d, tk, os⟩ _ h1 q
    wp_walk using q1
    refine wpAny_stack_any fun st => wpAny_pure ?_
    split
    · rename_i c _ _ _ _ _
      cases (c == Value.type "enumerate")
      · wp_walk using q1
        exact ⟨_, rfl, h⟩
      · wp_walk using q1
        exact ⟨_, rfl, h⟩
    · wp_walk using q1
      exact ⟨_, rfl, h⟩
theorem call_enumT {prog : Program} {w : World} {A : Around} {E : Value → Shared → Prop} {s : Shared} {v : Value} {o : Obj} {H : Heap → Prop} {Q : Value → Shared → Prop} (B : Begins v o H) (h1 : H s.heap)
    (h : ∀ h', IsEnum h' (s.heap.objs.size + 1) s.heap.objs.size 0 .none → h'.get? s.heap.objs.size = some o → (∀ b o, s.heap.get? b = some o → h'.get? b = some o) → Q (.ref (s.heap.objs.size + 1)) { s with heap := h' }) : wpAny (model prog w) A (call (.type "enumerate") [v]) Q E s := by
  refine callType_new F.called_enumerate (by decide) (F.typeCall_enumerate_1 _) (F.newCall_enumerate_1 _) (fun obj => F.args_object_init_2 obj _) F.entry_enumerate_new (meets_enumT B) ⟨h1, ?_⟩
  have hz : (s.heap.push o).objs.size = s.heap.objs.size + 1 := Heap.size_push ..
  show _ ∧ _
  rw [hz]
  have he := Heap.get?_push_size (s.heap.push o) (o := { cls := .type "enumerate", data := .fields #[.none, .bool false, .ref s.heap.objs.size, rawInt 0, .none, .none] }) rfl
  rw [hz] at he
  exact ⟨⟨_, he, rfl⟩, h _ he (Heap.get?_push_of_some _ (Heap.get?_push_size _ B.free)) fun b o x => Heap.get?_push_of_some _ (Heap.get?_push_of_some _ x)⟩
def iEnumA (K : Fr) (ta : TA) : TI := fun σ H R => ta σ H fun vs H1 => ∃ a xs, vs = [.ref a] ∧ ((SqL K H1 a xs ∧ R (Ite K a) H1) ∨ (SqT K H1 a xs ∧ R (IteT K a) H1))
theorem pi_enumA {X : Cx} {e : Expr} {ta : TA} {p pos tpos : Pos} {elts : List Expr} {kk : Nat} (hg : Gl X "enumerate") (hm : X.mg "enumerate" = none) (ha : PA X [e] ta) (hs : starEach [e] X.env = [(false, eval e X.env)] := by rfl) :
    PI X (.Tuple elts kk tpos) (.Call (.Name "enumerate" p) [e] [] pos) (iEnumA X.K ta) := by
  refine ⟨fun pins s σ H R I h => Call_ (ld_blt I hg hm boot_enumerate (PyProof.Rows.callWith_type1 (thn (ha.run pos pins s σ H _ I h) fun us s1 hh => ?_) hs rfl))⟩
  obtain ⟨vs, H1, I1, r1, a, xs, ex, q1⟩ := hh
  subst ex
  obtain ⟨u, rfl, ru⟩ := r1.one
  cases (show u = Value.ref a from ru)
  have fp : ∀ b ∈ [s1.heap.objs.size + 1, s1.heap.objs.size], FpOk X pins H1 b := fun b hb => by
    have hle : s1.heap.objs.size ≤ b := by
      rcases (by simpa using hb : b = s1.heap.objs.size + 1 ∨ b = s1.heap.objs.size) with z | z <;> omega
    exact I1.fpOk hle (I1.hok.fresh hle)
  rcases q1 with ⟨hq, q⟩ | ⟨hq, q⟩
  · obtain ⟨its, rv, p', hz⟩ := I1.list hq
    refine call_enumerate_list p'.isList fun h' he hit hsz hk => wpAny_pyIter_enum he ?_
    exact ⟨s1.heap.objs.size + 1, _, _, _, H1, rfl, I1.kept (t' := s1.toks) hk, turn_enum a (s1.heap.objs.size + 1) s1.heap.objs.size, ⟨⟨.none, he⟩, hit, Nat.succ_ne_self _⟩, fp, q⟩
  · obtain ⟨its, rv, p', hz⟩ := I1.tuple hq
    have hlt : a < s1.heap.objs.size := by obtain ⟨_, q, _⟩ := id p'; exact Heap.lt_size q
    refine call_enumT (begins_tuple a its.toArray) p' fun h' he ho hk => wpAny_pyIter_enum he ?_
    exact ⟨s1.heap.objs.size + 1, _, _, _, H1, rfl, I1.kept (t' := s1.toks) hk, turn_enumT a (s1.heap.objs.size + 1) s1.heap.objs.size (Nat.ne_of_lt hlt) (Nat.ne_of_lt (Nat.lt_succ_of_lt hlt)), ⟨⟨.none, he⟩, ⟨_, ho, rfl, rfl⟩, Nat.succ_ne_self _⟩, fp, q⟩
/-! ### .. over data -/
def enumD : Nat → List D → List D
  | _, [] => []
  | i, d :: r => .tup [.int (i : Nat), d] :: enumD (i + 1) r
theorem enumD_len : ∀ (i : Nat) (ds : List D), (enumD i ds).length = ds.length
  | _, [] => rfl
  | i, _ :: r => congrArg (· + 1) (enumD_len (i + 1) r)
theorem enumD_get : ∀ (ds : List D) (k i : Nat), (enumD k ds)[i]? = (ds[i]?).map fun d => .tup [.int ((k + i : Nat) : Int), d]
  | [], k, i => by simp [enumD]
  | d :: r, k, 0 => by simp [enumD]
  | d :: r, k, i + 1 => by
    show (enumD (k + 1) r)[i]? = _
    rw [enumD_get r (k + 1) i]
    simp only [List.getElem?_cons_succ]
    rw [show k + 1 + i = k + (i + 1) by omega]
def zipD : List D → List D → List D
  | x :: xs, y :: ys => .tup [x, y] :: zipD xs ys
  | _, _ => []
theorem zipD_get : ∀ (xs ys : List D) (i : Nat), (zipD xs ys)[i]? = match xs[i]?, ys[i]? with
    | some x, some y => some (.tup [x, y])
    | _, _ => none
  | [], ys, i => by simp [zipD]
  | x :: xs, [], i => by cases i <;> simp [zipD] <;> split <;> simp_all
  | x :: xs, y :: ys, 0 => by simp [zipD]
  | x :: xs, y :: ys, i + 1 => by
    show (zipD xs ys)[i]? = _
    rw [zipD_get xs ys i]
    simp
theorem zipD_len (xs ys : List D) : (zipD xs ys).length ≤ xs.length ∧ (zipD xs ys).length ≤ ys.length ∧ (xs.length ≤ (zipD xs ys).length ∨ ys.length ≤ (zipD xs ys).length) := by
  induction xs generalizing ys with
  | nil => simp [zipD]
  | cons x xs ih =>
    cases ys with
    | nil => simp [zipD]
    | cons y ys =>
      obtain ⟨h1, h2, h3⟩ := ih ys
      simp only [zipD, List.length_cons]
      omega
section
variable {g : Sg} {X : Cx} {W : WX} {e e2 : Expr} {fa : FA}
theorem gen_pair {w w' : Wd} {ρ : List Sl} {S : Store} {σ : L2.St} {H : Hp} {T : Addr} {vs : List V} {ds : List D} (A : At g w' ρ S σ H) (hT : H T = none) (r : Reps g w' vs ds) :
    ∃ w'', Le w' w'' ∧ At g w'' ρ S σ (upd H T (.tup vs)) ∧ Rep g w'' (.ref T) (.tup ds) ∧ Same H (upd H T (.tup vs)) ∧ ∀ b, w'.F b = none → H b ≠ none → w''.F b = none :=
  ⟨_, le_add A.if_ (A.free hT), A.lay hT, .tup (SqT.of upd_same) (r.mono (le_add A.if_ (A.free hT)).s), same_new hT, fun b h1 h2 => by
    show upd w'.F T _ b = none
    rw [upd_ne fun z => h2 (by rw [z]; exact hT)]
    exact h1⟩
theorem gen_enumL {w : Wd} {a : Addr} {vs : List V} {ds : List D} (h : w.I a = some (.lst vs)) (r : Reps g w vs ds) : Gen g w (Ite g.K a) (enumD 0 ds) := by
  have sq : ∀ w' ρ S σ H, Le w w' → At g w' ρ S σ H → SqL g.K H a vs := fun w' ρ S σ H l A => SqL.of (A.ih _ _ (l.s.i _ _ h))
  refine ⟨fun i w' ρ S σ H hi l A => ?_, fun w' ρ S σ H l A => ⟨vs, sq w' ρ S σ H l A, by rw [enumD_len, r.length]; exact Nat.le_refl _⟩, fun i w' ρ S σ H x H' d hd l A y => ?_⟩
  · rw [enumD_len] at hi
    obtain ⟨v, hv, _⟩ := r.got (show ds[i]? = some ds[i] by simp [hi])
    exact ⟨vs, v, sq w' ρ S σ H l A, hv⟩
  · rw [enumD_get] at hd
    obtain ⟨d0, hd0, rfl⟩ := Option.map_eq_some_iff.mp hd
    obtain ⟨T, x0, rfl, hT, rfl, y⟩ := y
    obtain ⟨v, hv, rv⟩ := r.got hd0
    have e := y vs (sq w' ρ S σ _ l A)
    rw [hv] at e
    cases e
    rw [Nat.zero_add]
    exact gen_pair (w := w) A hT (.cons (.int _) (.one (rv.mono l.s)))
theorem gen_enumT {w : Wd} {a : Addr} {vs : List V} {ds : List D} (h : SqT g.K w.I a vs) (r : Reps g w vs ds) : Gen g w (IteT g.K a) (enumD 0 ds) := by
  have sq : ∀ w' ρ S σ H, Le w w' → At g w' ρ S σ H → SqT g.K H a vs := fun w' ρ S σ H l A => A.t (same_t l.s.i h)
  refine ⟨fun i w' ρ S σ H hi l A => ?_, fun w' ρ S σ H l A => ⟨vs, sq w' ρ S σ H l A, by rw [enumD_len, r.length]; exact Nat.le_refl _⟩, fun i w' ρ S σ H x H' d hd l A y => ?_⟩
  · rw [enumD_len] at hi
    obtain ⟨v, hv, _⟩ := r.got (show ds[i]? = some ds[i] by simp [hi])
    exact ⟨vs, v, sq w' ρ S σ H l A, hv⟩
  · rw [enumD_get] at hd
    obtain ⟨d0, hd0, rfl⟩ := Option.map_eq_some_iff.mp hd
    obtain ⟨T, x0, rfl, hT, rfl, y⟩ := y
    obtain ⟨v, hv, rv⟩ := r.got hd0
    have e := y vs (sq w' ρ S σ _ l A)
    rw [hv] at e
    cases e
    rw [Nat.zero_add]
    exact gen_pair (w := w) A hT (.cons (.int _) (.one (rv.mono l.s)))
def wEnum (f : FA) (ρ : List Sl) (S : Store) (K : List D → Store → Prop) (ex : KX) : Prop := f ρ S (fun ds S1 => match ds with
  | [.lst xs] => K (enumD 0 xs) S1
  | [.tup xs] => K (enumD 0 xs) S1
  | _ => False) ex
theorem ienum {p pos tpos : Pos} {elts : List Expr} {kk : Nat} (hK : g.K = X.K) (hg : Gl X "enumerate") (hm : X.mg "enumerate" = none) (ha : EA g X W [e] fa) (hs : starEach [e] X.env = [(false, eval e X.env)] := by rfl) :
    EI g X W (.Tuple elts kk tpos) (.Call (.Name "enumerate" p) [e] [] pos) (wEnum fa) :=
  PI.imp (pi_enumA hg hm ha hs) fun σ H R ⟨w, ρ, S, K, ex, A, xo, ko, q⟩ => ⟨w, ρ, S, _, ex, A, xo, fun ds S1 q1 vs w1 H1 l1 A1 r1 => by
    split at q1
    · obtain ⟨v, rfl, r⟩ := r1.inv1
      cases r with
      | lst hh rr => exact ⟨_, _, rfl, .inl ⟨SqL.of (A1.ih _ _ hh), ko _ S1 q1 _ w1 H1 l1 A1 (by rw [← hK]; exact gen_enumL hh rr)⟩⟩
    · obtain ⟨v, rfl, r⟩ := r1.inv1
      cases r with
      | tup hh rr => exact ⟨_, _, rfl, .inr ⟨by rw [← hK]; exact A1.t hh, ko _ S1 q1 _ w1 H1 l1 A1 (by rw [← hK]; exact gen_enumT hh rr)⟩⟩
    · exact q1.elim, q⟩
theorem gen_zipL {w : Wd} {a b : Addr} {vs us : List V} {ds es : List D} (h : w.I a = some (.lst vs)) (h' : w.I b = some (.lst us)) (r : Reps g w vs ds) (r' : Reps g w us es) : Gen g w (Itz g.K a b) (zipD ds es) := by
  have sq : ∀ w' ρ S σ H, Le w w' → At g w' ρ S σ H → SqL g.K H a vs ∧ SqL g.K H b us := fun w' ρ S σ H l A => ⟨SqL.of (A.ih _ _ (l.s.i _ _ h)), SqL.of (A.ih _ _ (l.s.i _ _ h'))⟩
  have zl := zipD_len ds es
  refine ⟨fun i w' ρ S σ H hi l A => ?_, fun w' ρ S σ H l A => ⟨vs, us, (sq w' ρ S σ H l A).1, (sq w' ρ S σ H l A).2, by rw [r.length, r'.length]; exact zl.2.2⟩, fun i w' ρ S σ H x H' d hd l A y => ?_⟩
  · obtain ⟨v, hv, _⟩ := r.got (show ds[i]? = some (ds[i]'(by omega)) by simp)
    obtain ⟨u, hu, _⟩ := r'.got (show es[i]? = some (es[i]'(by omega)) by simp)
    exact ⟨vs, us, v, u, (sq w' ρ S σ H l A).1, (sq w' ρ S σ H l A).2, hv, hu⟩
  · rw [zipD_get] at hd
    split at hd
    · rename_i x1 y1 hx1 hy1
      cases hd
      obtain ⟨T, x0, y0, rfl, hT, rfl, y1', y2'⟩ := y
      obtain ⟨v, hv, rv⟩ := r.got hx1
      obtain ⟨u, hu, ru⟩ := r'.got hy1
      have e := y1' vs (sq w' ρ S σ _ l A).1
      have e2 := y2' us (sq w' ρ S σ _ l A).2
      rw [hv] at e
      rw [hu] at e2
      cases e
      cases e2
      exact gen_pair (w := w) A hT (.cons (rv.mono l.s) (.one (ru.mono l.s)))
    · cases hd
theorem gen_zipT {w : Wd} {a b : Addr} {vs us : List V} {ds es : List D} (h : SqT g.K w.I a vs) (h' : SqT g.K w.I b us) (r : Reps g w vs ds) (r' : Reps g w us es) : Gen g w (RZ.ItzT g.K a b) (zipD ds es) := by
  have sq : ∀ w' ρ S σ H, Le w w' → At g w' ρ S σ H → SqT g.K H a vs ∧ SqT g.K H b us := fun w' ρ S σ H l A => ⟨A.t (same_t l.s.i h), A.t (same_t l.s.i h')⟩
  have zl := zipD_len ds es
  refine ⟨fun i w' ρ S σ H hi l A => ?_, fun w' ρ S σ H l A => ⟨vs, us, (sq w' ρ S σ H l A).1, (sq w' ρ S σ H l A).2, by rw [r.length, r'.length]; exact zl.2.2⟩, fun i w' ρ S σ H x H' d hd l A y => ?_⟩
  · obtain ⟨v, hv, _⟩ := r.got (show ds[i]? = some (ds[i]'(by omega)) by simp)
    obtain ⟨u, hu, _⟩ := r'.got (show es[i]? = some (es[i]'(by omega)) by simp)
    exact ⟨vs, us, v, u, (sq w' ρ S σ H l A).1, (sq w' ρ S σ H l A).2, hv, hu⟩
  · rw [zipD_get] at hd
    split at hd
    · rename_i x1 y1 hx1 hy1
      cases hd
      obtain ⟨T, x0, y0, rfl, hT, rfl, y1', y2'⟩ := y
      obtain ⟨v, hv, rv⟩ := r.got hx1
      obtain ⟨u, hu, ru⟩ := r'.got hy1
      have e := y1' vs (sq w' ρ S σ _ l A).1
      have e2 := y2' us (sq w' ρ S σ _ l A).2
      rw [hv] at e
      rw [hu] at e2
      cases e
      cases e2
      exact gen_pair (w := w) A hT (.cons (rv.mono l.s) (.one (ru.mono l.s)))
    · cases hd
def wZip (f : FA) (ρ : List Sl) (S : Store) (K : List D → Store → Prop) (ex : KX) : Prop := f ρ S (fun ds S1 => match ds with
  | [.lst xs, .lst ys] => K (zipD xs ys) S1
  | [.tup xs, .tup ys] => K (zipD xs ys) S1
  | _ => False) ex
theorem izip {p pos tpos : Pos} {elts : List Expr} {kk : Nat} (hK : g.K = X.K) (hg : Gl X "zip") (hm : X.mg "zip" = none) (ha : EA g X W [e, e2] fa)
    (hs : starEach [e, e2] X.env = (false, eval e X.env) :: starEach [e2] X.env := by rfl) (hpl : (backTo pos (starEach [e2] X.env)).any (·.1) = false := by rfl) :
    EI g X W (.Tuple elts kk tpos) (.Call (.Name "zip" p) [e, e2] [] pos) (wZip fa) :=
  PI.imp (RZ.pi_zipA hg hm ha hs hpl) fun σ H R ⟨w, ρ, S, K, ex, A, xo, ko, q⟩ => ⟨w, ρ, S, _, ex, A, xo, fun ds S1 q1 vs w1 H1 l1 A1 r1 => by
    split at q1
    · obtain ⟨v, u, rfl, r, r'⟩ := r1.inv2
      cases r with
      | lst hh rr =>
        cases r' with
        | lst hh' rr' => exact ⟨_, _, _, _, rfl, .inl ⟨SqL.of (A1.ih _ _ hh), SqL.of (A1.ih _ _ hh'), ko _ S1 q1 _ w1 H1 l1 A1 (by rw [← hK]; exact gen_zipL hh hh' rr rr')⟩⟩
    · obtain ⟨v, u, rfl, r, r'⟩ := r1.inv2
      cases r with
      | tup hh rr =>
        cases r' with
        | tup hh' rr' => exact ⟨_, _, _, _, rfl, .inr ⟨by rw [← hK]; exact A1.t hh, by rw [← hK]; exact A1.t hh', ko _ S1 q1 _ w1 H1 l1 A1 (by rw [← hK]; exact gen_zipT hh hh' rr rr')⟩⟩
    · exact q1.elim, q⟩
end
end R3

/-! R3l: == of data and of instances; truth; or; products; lists emptied; calls by name in short. -/
namespace R3
open PySem PySem.Spec PyProof.Rows L2
/-! ### == of data -/
mutual
def eqD : D → D → Bool
  | .non, .non => true
  | .bl a, .bl b => a == b
  | .bl a, .int j => decide ((if a then 1 else 0) = j)
  | .int i, .bl b => decide (i = if b then 1 else 0)
  | .int i, .int j => decide (i = j)
  | .str x, .str y => x == y
  | .tup xs, .tup ys => eqDs xs ys
  | .lst xs, .lst ys => eqDs xs ys
  | _, _ => false
def eqDs : List D → List D → Bool
  | [], [] => true
  | x :: xs, y :: ys => eqD x y && eqDs xs ys
  | _, _ => false
end
mutual
def okN : Nat → D → Bool
  | _, .non => true
  | _, .bl _ => true
  | _, .int _ => true
  | _, .str x => PyData.strOk x
  | n + 1, .tup xs => okNs n xs
  | n + 1, .lst xs => okNs n xs
  | _, _ => false
def okNs : Nat → List D → Bool
  | _, [] => true
  | n, x :: xs => okN n x && okNs n xs
end
mutual
theorem okN_py : ∀ (n : Nat) (d : D), okN n d = true → ∃ p, toPy d = some p ∧ p.canLay0 = true ∧ p.depth ≤ n
  | _, .non, _ => ⟨_, rfl, rfl, Nat.zero_le _⟩
  | _, .bl _, _ => ⟨_, rfl, rfl, Nat.zero_le _⟩
  | _, .int _, _ => ⟨_, rfl, rfl, Nat.zero_le _⟩
  | n, .str x, h => ⟨.str x, rfl, by cases n <;> exact h, Nat.zero_le _⟩
  | n + 1, .tup xs, h => by
    obtain ⟨ps, h1, h2, h3⟩ := okNs_py n xs h
    exact ⟨.tuple ps, by unfold toPy; rw [h1]; rfl, h2, Nat.succ_le_succ h3⟩
  | n + 1, .lst xs, h => by
    obtain ⟨ps, h1, h2, h3⟩ := okNs_py n xs h
    exact ⟨.list ps, by unfold toPy; rw [h1]; rfl, h2, Nat.succ_le_succ h3⟩
  | 0, .tup xs, h => by cases h
  | 0, .lst xs, h => by cases h
  | n, .ty _, h => by cases n <;> cases h
  | n, .obj _ _, h => by cases n <;> cases h
  | n, .ref _, h => by cases n <;> cases h
  | n, .scr _, h => by cases n <;> cases h
theorem okNs_py : ∀ (n : Nat) (ds : List D), okNs n ds = true → ∃ ps, toPys ds = some ps ∧ PyData.canLayAll0 ps = true ∧ PyData.depthAll ps ≤ n
  | _, [], _ => ⟨[], rfl, rfl, Nat.zero_le _⟩
  | n, d :: ds, h => by
    have h' := Bool.and_eq_true_iff.mp (show (okN n d && okNs n ds) = true by cases n <;> exact h)
    obtain ⟨p, h1, h2, h3⟩ := okN_py n d h'.1
    obtain ⟨ps, k1, k2, k3⟩ := okNs_py n ds h'.2
    exact ⟨p :: ps, by unfold toPys; rw [h1, k1], Bool.and_eq_true_iff.mpr ⟨h2, k2⟩, Nat.max_le.mpr ⟨h3, k3⟩⟩
end
theorem beq_dec {i j : Int} : (i == j) = decide (i = j) := by
  by_cases h : i = j
  · subst h; simp
  · simp [h]
mutual
theorem eqv_eqD : ∀ (x y : D) (p q : PyData), toPy x = some p → toPy y = some q → PyData.eqv p q = eqD x y
  | .non, y, p, q, h, k => by cases h; cases y <;> simp [toPy] at k <;> (first | subst k | (obtain ⟨qs, k1, k⟩ := k; subst k)) <;> rfl
  | .bl a, y, p, q, h, k => by
    cases h; cases y <;> simp [toPy] at k <;> (first | subst k | (obtain ⟨qs, k1, k⟩ := k; subst k)) <;> first | rfl | (unfold PyData.eqv eqD; exact beq_dec)
  | .int a, y, p, q, h, k => by
    cases h; cases y <;> simp [toPy] at k <;> (first | subst k | (obtain ⟨qs, k1, k⟩ := k; subst k)) <;> first | rfl | (unfold PyData.eqv eqD; exact beq_dec)
  | .str a, y, p, q, h, k => by cases h; cases y <;> simp [toPy] at k <;> (first | subst k | (obtain ⟨qs, k1, k⟩ := k; subst k)) <;> rfl
  | .tup xs, y, p, q, h, k => by
    simp [toPy] at h
    obtain ⟨ps, h, rfl⟩ := h
    cases y <;> simp [toPy] at k <;> (first | subst k | (obtain ⟨qs, k1, k⟩ := k; subst k)) <;> first | rfl | (unfold PyData.eqv eqD; exact eqvs_eqDs _ _ _ _ h k1)
  | .lst xs, y, p, q, h, k => by
    simp [toPy] at h
    obtain ⟨ps, h, rfl⟩ := h
    cases y <;> simp [toPy] at k <;> (first | subst k | (obtain ⟨qs, k1, k⟩ := k; subst k)) <;> first | rfl | (unfold PyData.eqv eqD; exact eqvs_eqDs _ _ _ _ h k1)
  | .ty _, y, p, q, h, k => by cases h
  | .obj _ _, y, p, q, h, k => by cases h
  | .ref _, y, p, q, h, k => by cases h
  | .scr _, y, p, q, h, k => by cases h
theorem eqvs_eqDs : ∀ (xs ys : List D) (ps qs : List PyData), toPys xs = some ps → toPys ys = some qs → PyData.eqvAll ps qs = eqDs xs ys
  | [], [], ps, qs, h, k => by cases h; cases k; rfl
  | [], y :: ys, ps, qs, h, k => by
    cases h
    unfold toPys at k
    split at k
    · cases k; rfl
    · cases k
  | x :: xs, [], ps, qs, h, k => by
    cases k
    unfold toPys at h
    split at h
    · cases h; rfl
    · cases h
  | x :: xs, y :: ys, ps, qs, h, k => by
    unfold toPys at h k
    split at h
    · rename_i p ps' h1 h2
      cases h
      split at k
      · rename_i q qs' k1 k2
        cases k
        unfold PyData.eqvAll eqDs
        rw [eqv_eqD x y p q h1 k1, eqvs_eqDs xs ys ps' qs' h2 k2]
      · cases k
    · cases h
end
def rEqU (neg : Bool) (x y : D) (S : Store) (K : KD) : Prop := okN 8 x = true ∧ okN 8 y = true ∧ K (.bl (if neg then !eqD x y else eqD x y)) S
section
variable {g : Sg} {X : Cx} {W : WX} {a b e o : Expr} {pos apos : Pos} {fa fb fe fo : FE} {es : List Expr} {fr : FA} {st : Stmt} {ft : FT}
theorem rEqU_dd {neg : Bool} {x y : D} {S : Store} {K : KD} (h : rEqU neg x y S K) : rEqDD neg x y S K := by
  obtain ⟨h1, h2, h3⟩ := h
  obtain ⟨p, p1, p2, p3⟩ := okN_py 8 x h1
  obtain ⟨q, q1, q2, q3⟩ := okN_py 8 y h2
  have s : ∀ r : PyData, r.canLay0 = true → r.depth ≤ 8 → SeqAt.shaped r = true := fun r c d => Bool.and_eq_true_iff.mpr ⟨c, decide_eq_true (Nat.le_trans d (by decide))⟩
  refine ⟨p, q, p1, q1, s p p2 p3, s q q2 q3, ?_⟩
  rw [eqv_eqD x y p q p1 q1]
  exact h3
theorem ueq (hK : g.K = X.K) (hu : X.A.units + 64 < cLine) : OpD g X (compareOp .Eq) (rEqU false) := fun pins s σ H w ρ S x y vx vy u v K Q I ru rv A rx ry ko q => deq hK hu pins s σ H w ρ S x y vx vy u v K Q I ru rv A rx ry ko (rEqU_dd q)
theorem une (hK : g.K = X.K) (hu : X.A.units + 64 < cLine) : OpD g X (compareOp .NotEq) (rEqU true) := fun pins s σ H w ρ S x y vx vy u v K Q I ru rv A rx ry ko q => dne hK hu pins s σ H w ρ S x y vx vy u v K Q I ru rv A rx ry ko (rEqU_dd q)
/-! ### == by an own __eq__ -/
structure Own2 (P : Program) (w : World) (mg : Str → Option Value) (base : Heap) (g : Sg) (k : Nat) (c : Nat) (m : Str) (C : Ct) : Prop where
  ex : ∃ f, PySem.W.findIn g.K (.ref (g.ad c)) m = some (some (.ref f)) ∧ PySem.W.isFn g.K (.ref f) = true ∧ FnR P w g.K mg base (L2.CX P w) k f (spOf g 2 C)
def rOwn2 (c : Nat) (C : Ct) (x y : D) (S : Store) (K : KD) : Prop := (∃ ds, insOf c S x = some ds) ∧ (∃ es, insOf c S y = some es) ∧ C [x, y] S K noX
theorem cmp_own {op : CmpOp} {k j c : Nat} {C : Ct} (hop : ∀ a b, compareOp op a b = richCompare op a b) (F : Own2 X.prog X.w X.mg X.base g k c (cmpInfo op).2.1 C) (hK : g.K = X.K) (hr : Room j X.A) (hk : k ≤ j) (tk : Takes X W) : OpD g X (compareOp op) (rOwn2 c C) := by
  intro pins s σ H w ρ S x y vx vy u v K Q I ru rv A rx ry ko q
  obtain ⟨⟨ds, hi⟩, ⟨es, hi2⟩, q⟩ := q
  obtain ⟨fn, hs, hf, F⟩ := F.ex
  rw [hK] at hs hf F
  obtain ⟨p, dx, vs, rfl, e1, hl, rr⟩ := ins_at A rx hi
  obtain ⟨p2, dx2, vs2, rfl, e2, hl2, rr2⟩ := ins_at A ry hi2
  obtain rfl : u = Value.ref p := ru
  obtain rfl : v = Value.ref p2 := rv
  obtain ⟨_, O, _, _, _, _⟩ := ins_get I.hok e1
  obtain ⟨od, J, _⟩ := O.look
  obtain ⟨_, O2, _, _, _, _⟩ := ins_get I.hok e2
  obtain ⟨od2, J2, _⟩ := O2.look
  obtain ⟨m, hF⟩ := I.fr
  rw [hop]
  refine PySem.W.cmp_K (op := op) (tb := .ref (g.ad c)) hr.units0 hF I.ok.mod.kin J J2.type (by simp [PySem.W.notFirst]) hs hf ?_
  refine wpAny_mono (wpAny_call (run_ct (W := W) (us := [.ref p, .ref p2]) (vs := [.ref p, .ref p2]) F (hr.mono hk) I.env0 tk I (.cons rfl (.cons rfl .nil)) A (.cons rx (.one ry)) rfl (fun _ _ z => z.elim) ko q)) (fun z s' h => ?_) fun _ _ x => x
  obtain ⟨z', H', I', rz, qz⟩ := h
  exact SlX.cmpback rz ⟨z', H', I', rz, qz⟩
/-! ### truth; or -/
def truD (S : Store) : D → Option Bool
  | .non => some false
  | .bl b => some b
  | .int i => some (i != 0)
  | .tup xs => some (!xs.isEmpty)
  | .lst xs => some (!xs.isEmpty)
  | .scr xs => some (!xs.isEmpty)
  | .ref k => match S[k]? with
    | some (some (.lst xs)) => some (!xs.isEmpty)
    | _ => none
  | _ => none
theorem Reps.empty {w : Wd} {vs : List V} {ds : List D} (r : Reps g w vs ds) : (!ds.isEmpty) = !vs.isEmpty := by cases r <;> rfl
theorem tru_of {w : Wd} {ρ : List Sl} {S : Store} {σ : L2.St} {H : Hp} {v : V} {d : D} {k : Bool} (A : At g w ρ S σ H) (r : Rep g w v d) (h : truD S d = some k) : TruV g.K v H k := by
  cases r with
  | non => cases h; rfl
  | bl b => cases h; rfl
  | int i => cases h; rfl
  | str x => cases h
  | ty x => cases h
  | tup hh rr => cases h; exact .inr (.inl ⟨_, A.t hh, rr.empty⟩)
  | lst hh rr => cases h; exact .inl ⟨_, SqL.of (A.ih _ _ hh), rr.empty⟩
  | scr hh => cases h; exact .inl ⟨_, A.l hh, by simp⟩
  | obj _ _ _ => cases h
  | ref hk =>
    rename_i n
    have h' : (match S[n]? with | some (some (SO.lst xs)) => some (!xs.isEmpty) | _ => none) = some k := h
    split at h'
    · rename_i xs hS
      cases h'
      obtain ⟨_, vs, e, rr⟩ := A.st n _ hS
      exact .inl ⟨_, SqL.of e, rr.empty⟩
    · cases h'
  | dic _ => cases h
def wOrT (f h : FE) (ρ : List Sl) (S : Store) (K : KD) (ex : KX) : Prop := f ρ S (fun x S1 => match truD S1 x with
  | some b => Br b (K x S1) (h ρ S1 K ex)
  | none => False) ex
theorem vorT {rest : List Expr} (hK : g.K = X.K) (ha : EV g X W a fa) (hb : EV g X W (.BoolOp .Or (b :: rest) pos) fb) : EV g X W (.BoolOp .Or (a :: b :: rest) pos) (wOrT fa fb) :=
  PE.imp (pe_orT ha hb) fun σ H Q ⟨w, ρ, S, K, ex, A, xo, ko, q⟩ => ⟨w, ρ, S, _, ex, A, xo, fun d S1 q1 v w1 H1 l1 A1 r => by
    split at q1
    · rename_i k hk
      refine ⟨k, by rw [← hK]; exact tru_of A1 r hk, ?_⟩
      cases k with
      | true => rw [if_pos rfl]; exact ko _ S1 q1 _ w1 H1 l1 A1 r
      | false => rw [if_neg Bool.false_ne_true]; exact ⟨w1, ρ, S1, K, ex, A1, xo.later l1, ko.later l1, q1⟩
    · exact q1.elim, q⟩
/-- a test of a value by its truth -/
def wTru (f : FE) (ρ : List Sl) (S : Store) (K : Bool → Store → Prop) (ex : KX) : Prop := f ρ S (fun x S1 => match truD S1 x with
  | some b => K b S1
  | none => False) ex
/-! ### products -/
/-- (x, ..) * 1 -/
theorem tuple_mul1 (l : Addr) (items : Array Value) (n : Nat) (dd : Option Addr) (sl : Array (Option Value)) (u : Tok) : Meets (Builtin.«tuple.__mul__» ⟨[.ref l, .int 1 u], []⟩) (fun _ R s =>
    s.heap.get? l = some { cls := .type "tuple", dict := dd, data := .seq items n, slots := sl } ∧ R (.ok (.ret (Value.ref l))) s) :=
  .of_wp fun prog w A R s h => by
    obtain ⟨hp, g, d, tk, os⟩ := s
    obtain ⟨hl, h⟩ := h
    have f1 := AutoSeq1.idx_int
    wp_walk using wpAny_loadPart' hl
    have c1 : (items.isEmpty || (1 : Int) == 1) = true := by simp
    repeat (first
      | (refine wpAny_ite_true (decide_eq_true (by rw [c1])) ?_; wp_walk using wpAny_loadPart' hl)
      | (refine wpAny_ite_false (decide_eq_false (by decide)) ?_; wp_walk using wpAny_loadPart' hl))
    exact ⟨_, rfl, h⟩
theorem op_rep1 : OpR X (binaryOp .Mult) (fun x y H Q => ∃ l xs, x = .ref l ∧ y = .int 1 ∧ SqT X.K H l xs ∧ Q (.ref l) H) := by
  intro pins s σ H x y v u Q I rx ry h
  obtain ⟨l, xs, rfl, rfl, hT, q⟩ := h
  cases rx
  obtain ⟨t, rfl⟩ := ry
  obtain ⟨its, r, ⟨⟨cls, dd, data, sl⟩, ho, hc, n, hd⟩, hs⟩ := I.tuple hT
  simp only at hc hd
  subst hc hd
  exact wpAny_binaryOp_repeat_ref (T := "tuple") (U := "int") (by decide) ⟨_, ho, rfl⟩ (fun s' => typeIs_int s' 1 t) noFill_tuple_mul F.fills_int_mul F.slot_int_rmul repeat_tuple F.slot_int_index.lookup
    (call_meets F.slot_int_rmul (typeIs_int s 1 t) F.entry_int_rmul (F.args_int_rmul_2 _ _) (int_rmul_tuple 1 t l its.toArray n dd sl)
      ⟨ho, rfl, ⟨_, ho, rfl⟩, call_meets F.slot_tuple_mul ⟨_, ho, rfl⟩ F.entry_tuple_mul (F.args_tuple_mul_2 _ _) (tuple_mul1 l its.toArray n dd sl t) ⟨ho, .ref l, H, I, rfl, q⟩⟩)
def rMulU (x y : D) (S : Store) (K : KD) : Prop := match x, y with
  | .int i, .int j => (CMul i j ∨ CMulW i j) ∧ K (.int (i * j)) S
  | .tup xs, .int k => (xs ≠ [] ∧ 1 ≤ k ∧ k ≤ 1000 ∧ xs.length ≤ 1000) ∧ K (.tup (List.replicate k.toNat xs).flatten) S
  | _, _ => False
theorem Reps.rep {w : Wd} {vs : List V} {ds : List D} (r : Reps g w vs ds) : ∀ n : Nat, Reps g w (List.replicate n vs).flatten (List.replicate n ds).flatten
  | 0 => .nil
  | n + 1 => by
    rw [List.replicate_succ, List.replicate_succ, List.flatten_cons, List.flatten_cons]
    exact r.app (Reps.rep r n)
theorem umul (hK : g.K = X.K) : OpD g X (binaryOp .Mult) rMulU := fun pins s σ H w ρ S x y vx vy u v K Q I ru rv A rx ry ko q => by
  unfold rMulU at q
  split at q
  · obtain ⟨h | h, q⟩ := q
    · exact imulS pins s σ H w ρ S (.int _) (.int _) vx vy u v K Q I ru rv A rx ry ko ⟨h, q⟩
    · exact imul pins s σ H w ρ S (.int _) (.int _) vx vy u v K Q I ru rv A rx ry ko ⟨h, q⟩
  · rename_i xs k
    obtain ⟨⟨h1, h2, h3, h4⟩, q⟩ := q
    have hx := rx
    cases rx with
    | tup hh rr =>
      have ey := rep_int ry
      subst ey
      have hT := A.t hh
      rw [hK] at hT
      by_cases e : k = 1
      · subst e
        refine op_rep1 pins s σ H _ _ u v Q I ru rv ⟨_, _, rfl, rfl, hT, ?_⟩
        refine ko _ S q _ w H (Le.refl w) A ?_
        rw [show (List.replicate (1 : Int).toNat xs).flatten = xs by simp]
        exact hx
      · refine op_repT pins s σ H _ _ u v Q I ru rv ⟨_, k, _, rfl, rfl, hT, fun z => h1 ?_, by omega, h3, by rw [rr.length]; exact h4, fun p hp => ?_⟩
        · subst z
          cases rr
          rfl
        · exact ko _ S q _ _ _ (le_add A.if_ (A.free hp)) (A.lay hp) (.tup (SqT.of upd_same) ((rr.rep k.toNat).mono (le_add A.if_ (A.free hp)).s))
  · exact q.elim
/-! ### xs.clear(), xs an own list -/
theorem sclear {i : Nat} (hp : PS X st (tDrop (tBM0 X.K "list" rClear (tVar i)))) : ES g X W st (wClear i) :=
  PS.imp hp fun D σ H ⟨w, ρ, S, d, A, eo, q⟩ => by
    unfold wClear at q
    split at q
    · rename_i ds hc
      obtain ⟨a, h1, h2, ⟨vs, e1, r1⟩, h4, h5⟩ := A.own i _ hc
      refine ⟨.ref a, h1, .inl ⟨rfl, vs, SqL.of e1⟩, ?_⟩
      exact ⟨a, vs, rfl, rfl, e1, eo.nx _ S q w σ _ (Le.refl w) (A.mut (o' := .lst []) hc h1 ⟨_, upd_same, .nil⟩)⟩
    · exact q.elim
end
/-! ### defs in short -/
section
variable {P : Program} {w : World} {mg : Str → Option Value} {base : Heap} {g : Sg} {x qual : Str} {params : Arguments} {body : List Stmt} {scope : Scope} {f : Addr} {fd : FuncData}
theorem raw0 {k : Nat} {ps : List Str} {sp : Sp} (G : FnOk P w g.K mg base (L2.CX P w) k f fd ps sp) (hb : Binds g.K fd ps []) : FnR P w g.K mg base (L2.CX P w) k f sp :=
  (G.raw hb .nil).imp fun vs H Q E h => by rw [List.append_nil]; exact h
end
end R3

/-! R3m: the rules in short, side conditions by rfl. -/
namespace R3
open PySem PySem.Spec PyProof.Rows L2
section
variable {g : Sg} {X : Cx} {W : WX} {a b e o v : Expr} {pos apos cpos p p2 p3 : Pos} {fa fb fe fo : FE} {es : List Expr} {fr : FA} {st : Stmt} {ft : FT} {x : Str}
/-- x.append(e) -/
theorem mapp (i : Nat) (he : EV g X W e fe) (hN : X.N[i]? = some x := by rfl) (hv : Vis X.env.scope x := by first | exact Or.inl rfl | exact Or.inr (Or.inl rfl) | exact Or.inr (Or.inr rfl)) (hd : (x == ("__debug__" : Str)) = false := by decide) (hcd : (x == ("__classdict__" : Str)) = false := by decide)
    (hbase : attributeBase (.Name x p) "append" X.env (eval (.Name x p) X.env) = eval (.Name x p) X.env := by rfl)
    (hfew : ((backTo cpos (starEach [e] X.env)).all (fun x => !x.1) && (backToKw cpos (keywordEach [] X.env)).all (fun x => x.1.isSome) && decide (([e] : List Expr).length + ([] : List Keyword).length + (if ([] : List Keyword).isEmpty then 0 else 1) < 30)) = true := by rfl)
    (hline : (apos.endLine == cpos.line) = true := by rfl) (hs : starEach [e] X.env = (false, eval e X.env) :: starEach [] X.env := by rfl) (hsw : swapsWith (.Call (.Attribute (.Name x p) "append" apos) [e] [] cpos) none pos.line X.env = pure false := by rfl) :
    ES g X W (.Expr (.Call (.Attribute (.Name x p) "append" apos) [e] [] cpos) pos) (wApp i fe) :=
  sapp (ps_expr (pe_bm PySem.F.plainAttrs_list PySem.F.slot_list_append PySem.F.type_list_append mt_append (pe_var hN hv hd hcd) (pa_cons he pa_nil hs) hbase hfew hline hs rfl) hsw)
/-- x.clear() -/
theorem mclear (i : Nat) (hN : X.N[i]? = some x := by rfl) (hv : Vis X.env.scope x := by first | exact Or.inl rfl | exact Or.inr (Or.inl rfl) | exact Or.inr (Or.inr rfl)) (hd : (x == ("__debug__" : Str)) = false := by decide) (hcd : (x == ("__classdict__" : Str)) = false := by decide)
    (hbase : attributeBase (.Name x p) "clear" X.env (eval (.Name x p) X.env) = eval (.Name x p) X.env := by rfl)
    (hline : (apos.endLine == cpos.line) = true := by rfl) (hsw : swapsWith (.Call (.Attribute (.Name x p) "clear" apos) [] [] cpos) none pos.line X.env = pure false := by rfl) :
    ES g X W (.Expr (.Call (.Attribute (.Name x p) "clear" apos) [] [] cpos) pos) (wClear i) :=
  sclear (ps_expr (pe_bm0 PySem.F.plainAttrs_list PySem.F.slot_list_clear PySem.F.type_list_clear mt_clear (pe_var hN hv hd hcd) hbase hline) hsw)
/-- x[j] = e, x an own list -/
theorem mput (i : Nat) (he : EV g X W e fe) (hj : EV g X W b fb) (hN : X.N[i]? = some x := by rfl) (hv : Vis X.env.scope x := by first | exact Or.inl rfl | exact Or.inr (Or.inl rfl) | exact Or.inr (Or.inr rfl)) (hd : (x == ("__debug__" : Str)) = false := by decide) (hcd : (x == ("__classdict__" : Str)) = false := by decide)
    (ha : ∀ v, assign (.Subscript (.Name x p) b p2) X.env v = (do
      let ov ← holding [v] (eval (.Name x p) X.env)
      let iv ← holding [v, ov] (eval b X.env)
      standAt p2
      holding [v, ov, iv] (setItem ov iv v)
      release [v, ov, iv] []) := by intro _; rfl)
    (hs : swapsWithSole [.Subscript (.Name x p) b p2] e pos.line X.env = pure false := by rfl) (hw : swappedStores [.Subscript (.Name x p) b p2] e X.env = pure none := by rfl)
    (h1 : (assignEach [.Subscript (.Name x p) b p2] X.env).map (·.2) = [assign (.Subscript (.Name x p) b p2) X.env] := by rfl) : ES g X W (.Assign [.Subscript (.Name x p) b p2] e pos) (wPutIx i fe fb) :=
  sputix (ps_asg he (pg_sub (pe_var hN hv hd hcd) hj set_list ha) hs hw h1)
/-- o[j] = e, o a list of the store -/
theorem mputr (he : EV g X W e fe) (ho : EV g X W o fo) (hj : EV g X W b fb)
    (ha : ∀ v, assign (.Subscript o b p2) X.env v = (do
      let ov ← holding [v] (eval o X.env)
      let iv ← holding [v, ov] (eval b X.env)
      standAt p2
      holding [v, ov, iv] (setItem ov iv v)
      release [v, ov, iv] []) := by intro _; rfl)
    (hs : swapsWithSole [.Subscript o b p2] e pos.line X.env = pure false := by rfl) (hw : swappedStores [.Subscript o b p2] e X.env = pure none := by rfl)
    (h1 : (assignEach [.Subscript o b p2] X.env).map (·.2) = [assign (.Subscript o b p2) X.env] := by rfl) : ES g X W (.Assign [.Subscript o b p2] e pos) (wPutRef fe fo fb) :=
  sputref (ps_asg he (pg_sub ho hj set_list ha) hs hw h1)
/-- return x, x an own list -/
theorem mretO (i : Nat) (hN : X.N[i]? = some x := by rfl) (hv : Vis X.env.scope x := by first | exact Or.inl rfl | exact Or.inr (Or.inl rfl) | exact Or.inr (Or.inr rfl)) (hd : (x == ("__debug__" : Str)) = false := by decide) (hcd : (x == ("__classdict__" : Str)) = false := by decide) : ES g X W (.Return (some (.Name x p)) pos) (wRetO i) :=
  sretO (ps_ret (pe_var hN hv hd hcd))
/-- self.f = e -/
theorem mself (i c : Nat) {f : Str} (hK : g.K = X.K) (hc : Cls g.K (g.ad c)) (hn : NoAttr g.K (g.ad c) f) (he : EV g X W e fe) (hN : X.N[i]? = some x := by rfl) (hv : Vis X.env.scope x := by first | exact Or.inl rfl | exact Or.inr (Or.inl rfl) | exact Or.inr (Or.inr rfl)) (hd : (x == ("__debug__" : Str)) = false := by decide) (hcd : (x == ("__classdict__" : Str)) = false := by decide)
    (hs : swapsWith e (some (.Attribute (.Name x p) f p2)) pos.line X.env = pure false := by rfl) : ES g X W (.Assign [.Attribute (.Name x p) f p2] e pos) (fun d ρ S => (∃ a fs, Env.at ρ i = .own (.new c a fs)) ∧ wSelf i f fe d ρ S) :=
  sself hK hc hn (ps_fld (pe_var hN hv hd hcd) he hs)
/-! isinstance -/
abbrev tyNames : List String := ["NoneType", "bool", "int", "str", "tuple", "list", "dict"]
def pIsi (yes : List String) (own : List (Nat × Bool)) : D → Option Bool
  | .non => some (yes.contains "NoneType")
  | .bl _ => some (yes.contains "bool")
  | .int _ => some (yes.contains "int")
  | .str _ => some (yes.contains "str")
  | .tup _ => some (yes.contains "tuple")
  | .lst _ => some (yes.contains "list")
  | .scr _ => some (yes.contains "list")
  | .obj c _ => own.lookup c
  | .dic _ => some (yes.contains "dict")
  | _ => none
def fIsa (nm : Nat → Str) (kit : Fr → Value → Option Bool) (yes : List String) (own : List (Nat × Bool)) (K : Fr) : Bool :=
  (tyNames.all fun t => decide (kit K (.type t) = some (yes.contains t))) && own.all fun q => fIsi (nm q.1) K && decide (kit K (.ref (He.ga K (nm q.1))) = some q.2)
theorem isa_ok {nm : Nat → Str} {kit : Fr → Value → Option Bool} {yes : List String} {own : List (Nat × Bool)} {K : Fr} {fl : Nat → List Str} {xs0 : Option Xs} (h : fIsa nm kit yes own K = true) (d : D) (b : Bool) (hd : pIsi yes own d = some b) :
    ∃ t, tyD ⟨K, fun c => He.ga K (nm c), fl, xs0⟩ d = some t ∧ kit K t = some b ∧ ∀ c ds, d = .obj c ds → ClsI K (He.ga K (nm c)) := by
  have h' := Bool.and_eq_true_iff.mp h
  have ht : ∀ t ∈ tyNames, kit K (.type t) = some (yes.contains t) := fun t m => of_decide_eq_true (List.all_eq_true.mp h'.1 t m)
  have ho : ∀ q ∈ own, fIsi (nm q.1) K = true ∧ kit K (.ref (He.ga K (nm q.1))) = some q.2 := fun q m => by
    have z := Bool.and_eq_true_iff.mp (List.all_eq_true.mp h'.2 q m)
    exact ⟨z.1, of_decide_eq_true z.2⟩
  cases d with
  | obj c xs =>
    have e : own.lookup c = some b := hd
    have m : (c, b) ∈ own := by
      clear h h' ht ho hd
      induction own with
      | nil => cases e
      | cons q r ih =>
        rw [List.lookup_cons] at e
        split at e
        · rename_i k
          cases e
          rw [beq_iff_eq.mp k]
          exact List.mem_cons_self
        · exact List.mem_cons_of_mem _ (ih e)
    exact ⟨_, rfl, (ho _ m).2, fun c' ds z => by cases z; exact fIsi_ok (ho _ m).1⟩
  | non => cases hd; exact ⟨_, rfl, ht _ (by simp), fun _ _ z => nomatch z⟩
  | bl _ => cases hd; exact ⟨_, rfl, ht _ (by simp), fun _ _ z => nomatch z⟩
  | int _ => cases hd; exact ⟨_, rfl, ht _ (by simp), fun _ _ z => nomatch z⟩
  | str _ => cases hd; exact ⟨_, rfl, ht _ (by simp), fun _ _ z => nomatch z⟩
  | tup _ => cases hd; exact ⟨_, rfl, ht _ (by simp), fun _ _ z => nomatch z⟩
  | lst _ => cases hd; exact ⟨_, rfl, ht _ (by simp), fun _ _ z => nomatch z⟩
  | scr _ => cases hd; exact ⟨_, rfl, ht _ (by simp), fun _ _ z => nomatch z⟩
  | ty _ => cases hd
  | ref _ => cases hd
  | dic _ => cases hd; exact ⟨_, rfl, ht _ (by simp), fun _ _ z => nomatch z⟩
/-- isinstance(e, T), T built-in -/
theorem misi {nm : Nat → Str} {fl : Nat → List Str} {xs0 : Option Xs} {yes : List String} {own : List (Nat × Bool)} {T : Str} {n : String} (hG : g = ⟨X.K, fun c => He.ga X.K (nm c), fl, xs0⟩) (hf : fIsa nm (fun K t => PySem.W.kitOne K t (.type n)) yes own X.K = true)
    (hgi : Gl X "isinstance") (hmi : X.mg "isinstance" = none) (hgT : Gl X T) (hmT : X.mg T = none) (hv : bootBuiltins T = some (.type n)) (ha : EV g X W a fa) (hn : T ≠ "__name__" := by decide) (hdT : (T == ("__debug__" : Str)) = false := by decide)
    (he : starEach [a, .Name T p2] X.env = (false, eval a X.env) :: starEach [.Name T p2] X.env := by rfl) (he2 : starEach [.Name T p2] X.env = (false, eval (.Name T p2) X.env) :: starEach [] X.env := by rfl) (hpl : (backTo pos (starEach [.Name T p2] X.env)).any (·.1) = false := by rfl) :
    EV g X W (.Call (.Name "isinstance" p) [a, .Name T p2] [] pos) (wIsi (pIsi yes own) fa) := by
  subst hG
  exact eisi rfl (c := .ty n) (u := .type n) (by constructor) ⟨fun d b hd => isa_ok hf d b hd⟩ (pe_callB call_isi hgi hmi boot_isinstance (pa_cons ha (pa_cons (pe_bltn (v := .ty n) hgT hmT hv rfl hn hdT) pa_nil he2) he) (by decide) (by decide) he hpl)
/-- isinstance(e, C), C a class of ours -/
theorem misc {nm : Nat → Str} {fl : Nat → List Str} {xs0 : Option Xs} {yes : List String} {own : List (Nat × Bool)} {T : Str} (hG : g = ⟨X.K, fun c => He.ga X.K (nm c), fl, xs0⟩) (hf : fIsa nm (fun K t => PySem.W.kitOne K t (.ref (He.ga K T))) yes own X.K = true)
    (hgi : Gl X "isinstance") (hmi : X.mg "isinstance" = none) (hgT : Gl X T) (hmT : X.mg T = some (.ref (He.ga X.K T))) (ha : EV g X W a fa) (hdT : (T == ("__debug__" : Str)) = false := by decide)
    (he : starEach [a, .Name T p2] X.env = (false, eval a X.env) :: starEach [.Name T p2] X.env := by rfl) (he2 : starEach [.Name T p2] X.env = (false, eval (.Name T p2) X.env) :: starEach [] X.env := by rfl) (hpl : (backTo pos (starEach [.Name T p2] X.env)).any (·.1) = false := by rfl) :
    EV g X W (.Call (.Name "isinstance" p) [a, .Name T p2] [] pos) (wIsi (pIsi yes own) fa) := by
  subst hG
  exact eisi rfl (c := .ref (He.ga X.K T)) (u := .ref (He.ga X.K T)) (by constructor) ⟨fun d b hd => isa_ok hf d b hd⟩ (pe_callB call_isi hgi hmi boot_isinstance (pa_cons ha (pa_cons (pe_glob (v := .ref (He.ga X.K T)) hgT hmT rfl hdT) pa_nil he2) he) (by decide) (by decide) he hpl)
/-- isinstance(e, (T, U)) -/
theorem misi2 {nm : Nat → Str} {fl : Nat → List Str} {xs0 : Option Xs} {yes : List String} {own : List (Nat × Bool)} {T U : Str} {n m : String} {k : Nat} (hG : g = ⟨X.K, fun c => He.ga X.K (nm c), fl, xs0⟩) (hf : fIsa nm (fun K t => PySem.W.kitAny K t [.type n, .type m]) yes own X.K = true)
    (hgi : Gl X "isinstance") (hmi : X.mg "isinstance" = none) (hgT : Gl X T) (hmT : X.mg T = none) (hv : bootBuiltins T = some (.type n)) (hgU : Gl X U) (hmU : X.mg U = none) (hvU : bootBuiltins U = some (.type m)) (ha : EV g X W a fa)
    (hn : T ≠ "__name__" := by decide) (hdT : (T == ("__debug__" : Str)) = false := by decide) (hnU : U ≠ "__name__" := by decide) (hdU : (U == ("__debug__" : Str)) = false := by decide)
    (he : starEach [a, .Tuple [.Name T p2, .Name U p3] k apos] X.env = (false, eval a X.env) :: starEach [.Tuple [.Name T p2, .Name U p3] k apos] X.env := by rfl) (he2 : starEach [.Tuple [.Name T p2, .Name U p3] k apos] X.env = (false, eval (.Tuple [.Name T p2, .Name U p3] k apos) X.env) :: starEach [] X.env := by rfl)
    (he3 : starEach [.Name T p2, .Name U p3] X.env = (false, eval (.Name T p2) X.env) :: starEach [.Name U p3] X.env := by rfl) (he4 : starEach [.Name U p3] X.env = (false, eval (.Name U p3) X.env) :: starEach [] X.env := by rfl)
    (hpl : (backTo pos (starEach [.Tuple [.Name T p2, .Name U p3] k apos] X.env)).any (·.1) = false := by rfl) :
    EV g X W (.Call (.Name "isinstance" p) [a, .Tuple [.Name T p2, .Name U p3] k apos] [] pos) (wIsi (pIsi yes own) fa) := by
  subst hG
  exact eisi2 rfl (c1 := .ty n) (u1 := .type n) (c2 := .ty m) (u2 := .type m) (by constructor) (by constructor) ⟨fun d b hd => isa_ok hf d b hd⟩ (pe_callB call_isiT hgi hmi boot_isinstance
    (pa_cons ha (pa_cons (pe_tup (pa_cons (pe_bltn (v := .ty n) hgT hmT hv rfl hn hdT) (pa_cons (pe_bltn (v := .ty m) hgU hmU hvU rfl hnU hdU) pa_nil he4) he3)) pa_nil he2) he) (by decide) (by decide) he hpl)
/-! tuple(e), list(e) -/
theorem mtuple (hK : g.K = X.K) (hg : Gl X "tuple") (hm : X.mg "tuple" = none) (ha : EV g X W a fa) (he : starEach [a] X.env = (false, eval a X.env) :: starEach [] X.env := by rfl) : EV g X W (.Call (.Name "tuple" p) [a] [] pos) (wTupC fa) :=
  etupc hK (pe_callTy call_tuple_of hg hm boot_tuple (pa_cons ha pa_nil he) (by decide) (by decide) he rfl)
theorem mlist (hK : g.K = X.K) (hg : Gl X "list") (hm : X.mg "list" = none) (ha : EV g X W a fa) (he : starEach [a] X.env = (false, eval a X.env) :: starEach [] X.env := by rfl) : EL g X W (.Call (.Name "list" p) [a] [] pos) (wListC fa) :=
  elist hK (pe_callTy call_list_of hg hm boot_list (pa_cons ha pa_nil he) (by decide) (by decide) he rfl)
/-! a ≤ b ≤ c -/
theorem mchain {c : Expr} {fc : FE} {op op' : CmpOp} {f f' : Int → Int → V} {fd fd' : Int → Int → D} (h1 : OpR X (compareOp op) (rI0 f)) (h2 : OpR X (compareOp op') (rI0 f')) (r1 : ∀ w i j, Rep g w (f i j) (fd i j)) (r2 : ∀ w i j, Rep g w (f' i j) (fd' i j)) (ha : EV g X W a fa) (hb : EV g X W b fb) (hc : EV g X W c fc)
    (hm : lastMarks [op, op'] [b, c] = false := by with_unfolding_all rfl) : EV g X W (.Compare a [op, op'] [b, c] pos) (wChain (rInt0 fd) (rInt0 fd') fa fb fc) :=
  echain (c := c) (op := op) (op' := op') (pe_chain h1 h2 ha hb hc hm) (kI0 r1) (kI0 r2)
/-- .. as a test -/
theorem mtchain {c : Expr} {fc : FE} {op op' : CmpOp} {f f' : Int → Int → V} {fd fd' : Int → Int → D} (h1 : OpR X (compareOp op) (rI0 f)) (h2 : OpR X (compareOp op') (rI0 f')) (r1 : ∀ w i j, Rep g w (f i j) (fd i j)) (r2 : ∀ w i j, Rep g w (f' i j) (fd' i j)) (ha : EV g X W a fa) (hb : EV g X W b fb) (hc : EV g X W c fc)
    (hm : lastMarks [op, op'] [b, c] = false := by with_unfolding_all rfl) : ET g X W (.Compare a [op, op'] [b, c] pos) (wTst (wChain (rInt0 fd) (rInt0 fd') fa fb fc)) :=
  PT.imp (pt_chain h1 h2 ha hb hc hm) fun σ H Q ⟨w, ρ, S, K, ex, A, xo, ko, q⟩ => ⟨w, ρ, S, _, ex, A, xo, fun x S1 q1 v w1 H1 l1 A1 r1' => ⟨w1, ρ, S1, _, ex, A1, xo.later l1, fun y S2 q2 u w2 H2 l2 A2 r2' =>
    kI0 r1 σ H2 w2 ρ S2 x y v u _ _ A2 (r1'.mono l2.s) r2' (fun z S3 q3 vz w3 H3 l3 A3 r3 => by
      cases z with
      | bl k =>
        refine ⟨k, rep_bl r3, ?_⟩
        cases k with
        | true =>
          rw [if_pos rfl]
          exact ⟨w3, ρ, S3, _, ex, A3, xo.later (l1.trans (l2.trans l3)), fun t S4 q4 vt w4 H4 l4 A4 r4 => kI0 r2 σ H4 w4 ρ S4 y t u vt _ _ A4 (r2'.mono (l3.trans l4).s) r4 (fun z5 S5 q5 v5 w5 H5 l5 A5 r5 => by
            cases z5 with
            | bl k5 => exact ⟨k5, rep_bl r5, ko k5 S5 q5 w5 H5 (l1.trans (l2.trans (l3.trans (l4.trans l5)))) A5⟩
            | _ => exact q5.elim) q4, q3⟩
        | false =>
          rw [if_neg Bool.false_ne_true]
          exact ⟨false, rfl, ko false S3 q3 w3 H3 (l1.trans (l2.trans l3)) A3⟩
      | _ => exact q3.elim) q2, q1⟩, q⟩
end
theorem glo_int {mg : Str → Option Value} {x : Str} {i : Int} (h : ∃ t, mg x = some (.int i t)) : ∃ u, mg x = some u ∧ RelV (.int i) u := h.elim fun t e => ⟨_, e, t, rfl⟩
theorem put_at {ρ : List Sl} {i j : Nat} {s : Sl} (h : j ≠ i) : Env.at (Env.put ρ i s) j = Env.at ρ j := by
  rw [Env.at_put, if_neg fun z => h z.1]
theorem tame2 {i j : Nat} : Tame [i, j] (gTp 2 (gCs (gNm i) (gCs (gNm j) gNl))) := fun d ρ K q => by
  cases d with
  | tup ds =>
    obtain ⟨hl, q⟩ := q
    match ds, hl, q with
    | [x, y], _, q =>
      refine ⟨rfl, q, fun k hk => ?_⟩
      have h1 : k ≠ i := fun z => hk (by simp [z])
      have h2 : k ≠ j := fun z => hk (by simp [z])
      rw [put_at h2, put_at h1]
  | _ => exact q.elim
/-! names of readings -/
abbrev rdAdd : RD := rInt0 fun i j => .int (i + j)
abbrev rdSub : RD := rInt0 fun i j => .int (i - j)
abbrev rdFdv : RD := rInt CDivW fun i j => .int (i / j)
abbrev rdMod : RD := rInt (fun _ j => 0 < j) fun i j => .int (i % j)
abbrev rdPow : RD := rInt CPow fun i j => .int (i ^ j.toNat)
abbrev rdLt : RD := rInt0 fun i j => .bl (decide (i < j))
abbrev rdLe : RD := rInt0 fun i j => .bl (decide (i ≤ j))
abbrev rdGt : RD := rInt0 fun i j => .bl (decide (j < i))
abbrev rdGe : RD := rInt0 fun i j => .bl (decide (j ≤ i))
abbrev wOwnS (i : Nat) (fr : FA) : FS := fun d ρ S => i < ρ.length ∧ wOwn i fr d ρ S
abbrev wSelfS (i c : Nat) (f : Str) (fe : FE) : FS := fun d ρ S => (∃ a fs, Env.at ρ i = .own (.new c a fs)) ∧ wSelf i f fe d ρ S
end R3

/-! R3n: for over a list or a tuple; steps of plain proofs. -/
namespace R3
open PySem PySem.Spec PyProof.Rows L2
def iSeqA (K : Fr) (tl : TE) : TI := fun σ H R => tl σ H fun x H1 => ∃ a, x = .ref a ∧ (((∃ xs, SqL K H1 a xs) ∧ R (Itl K a) H1) ∨ ((∃ xs, SqT K H1 a xs) ∧ R (Itt K a) H1))
theorem pi_seqA {X : Cx} {tg l : Expr} {tl : TE} (hl : PE X l tl) : PI X tg l (iSeqA X.K tl) :=
  ⟨fun pins s σ H R I h => thn (hl.run pins s σ H _ I h) fun v s1 hh => by
    obtain ⟨x, H1, I1, r1, a, e, q1⟩ := hh
    subst e
    cases r1
    have fp : ∀ b ∈ [s1.heap.objs.size], FpOk X pins H1 b := fun b hb => by
      rw [(by simpa using hb : b = s1.heap.objs.size)]
      exact I1.fpOk (Nat.le_refl _) (I1.hok.fresh (Nat.le_refl _))
    rcases q1 with ⟨⟨xs, hq⟩, q⟩ | ⟨⟨xs, hq⟩, q⟩
    · obtain ⟨its, _, p, _⟩ := I1.list hq
      exact wpAny_pyIter_list p.isList ⟨_, _, _, _, H1, rfl, I1.kept (t' := s1.toks) fun b o e => Heap.get?_push_of_some _ e, turn_list a _, ⟨_, Heap.get?_push_size _ rfl, rfl, rfl⟩, fp, q⟩
    · obtain ⟨its, _, p, _⟩ := I1.tuple hq
      exact wpAny_pyIter_tuple (show s1.heap.IsTuple a its.toArray from p) ⟨_, _, _, _, H1, rfl, I1.kept (t' := s1.toks) fun b o e => Heap.get?_push_of_some _ e, turn_tuple a _, ⟨_, Heap.get?_push_size _ rfl, rfl, rfl⟩, fp, q⟩⟩
section
variable {g : Sg} {X : Cx} {W : WX} {e tg : Expr} {fe : FE}
def wItU (f : FE) (ρ : List Sl) (S : Store) (K : List D → Store → Prop) (ex : KX) : Prop := f ρ S (fun x S1 => match x with
  | .lst ds => K ds S1
  | .tup ds => K ds S1
  | _ => False) ex
theorem itu (he : EV g X W e fe) (hK : g.K = X.K) : EI g X W tg e (wItU fe) := PI.imp (pi_seqA he) fun σ H R ⟨w, ρ, S, K, ex, A, xo, ko, q⟩ => ⟨w, ρ, S, _, ex, A, xo, fun d S1 q1 v w1 H1 l1 A1 r1 => by
  split at q1
  · cases r1 with
    | lst hh rr => exact ⟨_, rfl, .inl ⟨⟨_, SqL.of (A1.ih _ _ hh)⟩, ko _ S1 q1 _ w1 H1 l1 A1 (gen_list hh rr)⟩⟩
  · cases r1 with
    | tup hh rr => exact ⟨_, rfl, .inr ⟨⟨_, by rw [← hK]; exact A1.t hh⟩, ko _ S1 q1 _ w1 H1 l1 A1 (by rw [← hK]; exact gen_tup hh rr)⟩⟩
  · exact q1.elim, q⟩
/-! ### defaults of an __init__ -/
theorem dflI {P : Program} {wl : World} {mg : Str → Option Value} {base : Heap} {k c n m : Nat} {f : Addr} {dvs : List V} {dd : List D} {C C1 : Ct} (hd : ∀ w, Reps g w dvs dd) (hC : ∀ ds S K ex, C1 ds S K ex → ds.length = n → C (ds ++ dd) S K ex) (hm : n + dd.length = m)
    (F : FnR P wl g.K mg base (L2.CX P wl) k f (fun vs H Q E => spInit g c m C (vs ++ dvs) H Q E)) : FnR P wl g.K mg base (L2.CX P wl) k f (spInit g c n C1) := F.imp fun vs H Q E h => by
  obtain ⟨x, dx, rest, w, ds, S, K, ex, rfl, hx, hn, A0, hF, hS, r, ko, xo, q⟩ := h
  exact ⟨x, dx, rest ++ dvs, w, ds ++ dd, S, K, ex, rfl, hx, by rw [List.length_append, hn, hm], A0, hF, hS, r.app (hd w), ko, xo, hC ds S K ex q hn⟩
theorem dfl0 {P : Program} {wl : World} {mg : Str → Option Value} {base : Heap} {k : Nat} {f : Addr} {sp : Sp} (F : FnR P wl g.K mg base (L2.CX P wl) k f (fun vs H Q E => sp (vs ++ []) H Q E)) : FnR P wl g.K mg base (L2.CX P wl) k f sp := F.imp fun vs H Q E h => by rw [List.append_nil]; exact h
end
/-! ### steps -/
theorem ixl {i : Int} {xs : List D} {d : D} {S : Store} {K : KD} (hd : atI xs i = some d) (k : K d S) : rIxD (.lst xs) (.int i) S K := ⟨d, hd, k⟩
theorem ixt {i : Int} {xs : List D} {d : D} {S : Store} {K : KD} (hd : atI xs i = some d) (k : K d S) : rIxD (.tup xs) (.int i) S K := ⟨d, hd, k⟩
def Oth (n : Nat) (S S' : Store) : Prop := S'.length = S.length ∧ ∀ m, m ≠ n → S'[m]? = S[m]?
theorem Oth.refl (n : Nat) (S : Store) : Oth n S S := ⟨rfl, fun _ _ => rfl⟩
theorem Oth.trans {n : Nat} {a b c : Store} (x : Oth n a b) (y : Oth n b c) : Oth n a c := ⟨y.1.trans x.1, fun m h => (y.2 m h).trans (x.2 m h)⟩
/-- a list of the store is changed at a place -/
theorem put_ok {n : Nat} {xs ys : List D} {S : Store} (h : S[n]? = some (some (.lst xs))) : (S.set n (some (.lst ys)))[n]? = some (some (.lst ys)) ∧ Oth n S (S.set n (some (.lst ys))) :=
  ⟨List.getElem?_set_self (List.getElem?_eq_some_iff.mp h).1, List.length_set, fun m hm => List.getElem?_set_ne (Ne.symm hm)⟩
theorem atIn {α : Type} {xs : List α} {i : Nat} {d : α} (h : xs[i]? = some d) : atI xs (i : Int) = some d := by
  have hi := (List.getElem?_eq_some_iff.mp h).1
  unfold L2.atI ixN
  rw [if_pos (by omega), if_pos (by omega)]
  simpa using h
end R3

/-! R3o: a law's end. -/
namespace R3
open PySem PySem.Spec PyProof.Rows L2
/-- what the law's promise is asked at the start -/
theorem sp_start {g : Sg} {C : Ct} {H : Hp} {a : Addr} {ns : List Int} (hS : SqL g.K H a (ns.map V.int)) (q : C [.scr ns] [] (fun d _ => d = .bl true) noX) : spOf g 1 C [.ref a] H (fun v _ => v = .bl true) fun _ _ _ => False :=
  ⟨⟨H, H, fun _ => 0, 0⟩, [.scr ns], [], fun d _ => d = .bl true, noX, rfl, ⟨fun _ _ z => z, fun _ _ z => z, rfl, fun k o h => (by simp at h), fun j k oj ok h => (by simp at h), rfl, fun i d h => (by cases i <;> cases h), fun i d h => (by cases i <;> cases h), fun i h => (by cases i <;> cases h)⟩, .one (.scr hS),
    fun d S' k v w' H' _ _ r => (by subst k; exact rep_bl r), fun _ _ z => z.elim, q⟩
theorem walk_ofR {l : PySem.W.OpenLaw} {n k : Nat} {q : Program} {loose : List Str} {XP : (Str → Option Value) → Heap → Prop} {YP : World → Heap → Prop} {d : DefRec} {x : Str} {C : Ct} {g : Fr → Sg} (hK : ∀ K, (g K).K = K)
    (hn : l.most = some n) (hn2 : n ≤ sizeLine) (hdf : d.params.defaults = []) (hr : L2.Room k callerA)
    (hC : ∀ ns : List Int, ns.length ≤ n → (∀ z ∈ ns, Builtin.Int.intBits z ≤ 1048576) → C [.scr ns] [] (fun d _ => d = .bl true) noX)
    (F : ∀ (w : World) (mg : Str → Option Value) (fa : Addr) (h : Heap), YP w h → h.Ns mainGlobals mg → mg d.name = some (.ref fa) → ∃ (K : Fr) (fd : FuncData), K.In h ∧ (∀ (s : Shared) (u : Value), BindsTo s fd ⟨[u], []⟩ [(x, u)]) ∧
      ∀ base : Heap, FnOk l.prog w (g K).K mg base (L2.CX l.prog w) k fa fd [x] (spOf (g K) 1 C)) : PySem.W.WalkO q loose XP YP l.row.toRowW d [] (fun f vs => PySem.call f vs) :=
  Att.attach_callB hn hdf fun w s₀ s₁ mg mb fa o pm cd doc a vs ns G Y ho hd hcd hmg hobj hints hlen hbits hg => by
    obtain ⟨K, fd, KX, hb, hF⟩ := F w mg fa _ Y G.T.g hmg
    have hF' : ∀ base : Heap, FnOk l.prog w K mg base (L2.CX l.prog w) k fa fd [x] (spOf (g K) 1 C) := fun base => by
      have z := hF base
      rw [hK K] at z
      exact z
    exact law_callG KX G.T.g G.T.b G.T.builtins G.T.nolimit hg hobj hints (Nat.le_trans hlen hn2) hr hF' hb (fun H hO hS => sp_start (by rw [hK]; exact hS) (hC ns hlen hbits)) fun H e s' z => by
      obtain ⟨_, _, _, _, _, _, _, _, _, _, _, _, z⟩ := z
      exact z
end R3

/-! R3p: own errors with one field: made, raised, caught. -/
namespace R3
open PySem PySem.Spec PyProof.Rows L2

/-- the built-in class below an own error -/
structure Bas (tl : List Value) (newId initId : String) : Prop where
  b : ∃ B, ExcBaseFacts B newId initId tl ∧ StoreFacts B tl "object.__setattr__" "object"
  hh : PySem.W.handedIn (.builtin initId) = true
theorem bas_VE : Bas [.type "ValueError", .type "Exception", .type "BaseException", .type "object"] "ValueError.__new__" "ValueError.__init__" := ⟨⟨_, PySem.F.excBase_ValueError, PySem.F.store_ValueError⟩, by decide +kernel⟩
theorem bas_IE : Bas [.type "IndexError", .type "LookupError", .type "Exception", .type "BaseException", .type "object"] "IndexError.__new__" "IndexError.__init__" := ⟨⟨_, PySem.F.excBase_IndexError, PySem.F.store_IndexError⟩, by decide +kernel⟩
theorem bas_OE : Bas [.type "OverflowError", .type "ArithmeticError", .type "Exception", .type "BaseException", .type "object"] "OverflowError.__new__" "OverflowError.__init__" := ⟨⟨_, PySem.F.excBase_OverflowError, PySem.F.store_OverflowError⟩, by decide +kernel⟩
theorem bas_RE : Bas [.type "RuntimeError", .type "Exception", .type "BaseException", .type "object"] "RuntimeError.__new__" "RuntimeError.__init__" := ⟨⟨_, PySem.F.excBase_RuntimeError, PySem.F.store_RuntimeError⟩, by decide +kernel⟩
/-- what the written part says of an error's class -/
structure ErrK (K : Fr) (C fI : Addr) (tl : List Value) (newId : String) (f : Str) : Prop where
  ini : PySem.W.excInitIn K C tl newId = true
  ovr : PySem.W.excOver K C tl = true
  tkr : PySem.W.takerIn K C f = some none
  hd : PySem.W.hasDictIn K C = true
  sa : PySem.W.findIn K (.ref C) "__setattr__" = some (some (.builtin "object.__setattr__"))
  ga : PySem.W.findIn K (.ref C) "__getattribute__" = some (some (.builtin "BaseException.__getattribute__"))
  gg : PySem.W.findIn K (.ref C) "__getattr__" = some none
  nof : PySem.W.findIn K (.ref C) f = some none
  iC : PySem.W.findIn K (.ref C) "__init__" = some (some (.ref fI))
  tI : PySem.W.typeIn K (.ref fI) = some (.type "function")
  kC : PySem.W.keepIn K (.ref C) = true
  exC : PySem.W.subIn K (.ref C) (.type "BaseException") = some true
  tyC : PySem.W.typeIn K (.ref C) = some (.type "type")
section
variable {X : Cx} {pins : List (Addr × Obj)} {σ : L2.St} {H : Hp} {s : Shared} {a C fI : Addr} {f : Str} {y : V} {u : Value} {tl : List Value} {newId initId : String}
/-- self.f = y, the first store -/
theorem est (T : ErrK X.K C fI tl newId f) (B : Bas tl newId initId) (I : Inv X pins σ H s) (e : H a = some (exo a C none)) (ry : RelV y u) {Q : Unit → Shared → Prop} {E : Value → Shared → Prop} {A : Around}
    (h : ∀ dx s', H dx = none → dx ≠ a → Inv X pins σ (upd (upd H dx (exd dx [(f, y)])) a (exo a C (some dx))) s' → Q () s') : wpAny (model X.prog X.w) A (setAttr (.ref a) f u) Q E s := by
  obtain ⟨Bn, FB, SF⟩ := B.b
  obtain ⟨t1, ho⟩ := exo_at I.hok e
  obtain ⟨hp, g, d, t, os⟩ := s
  have J : PySem.W.InstAt hp a { cls := .ref C, dict := none, data := .fields #[.ref t1, .none, .none, .none, .bool false, .none] } C none := ⟨ho, rfl, rfl, trivial⟩
  refine PySem.W.set_plain I.kIn J T.sa ?_
  refine PySem.W.osa_openX (od := none) SF I.kIn J T.ovr T.tkr fun b => ?_
  obtain ⟨cd, hc, hd'⟩ := PySem.W.any_some T.hd
  have hcls : PySem.W.Looks (model X.prog X.w) hp (classData C) cd := PySem.W.looks_clsIn I.kIn hc
  have hxs : a ≠ hp.objs.size := Nat.ne_of_lt (Heap.lt_size ho)
  have hnd : H hp.objs.size = none := I.hok.fresh (Nat.le_refl _)
  have x1 : (hp.push { cls := .type "dict", data := .dict #[] }).get? a = some { cls := .ref C, data := .fields #[.ref t1, .none, .none, .none, .bool false, .none] } := Heap.get?_push_of_some _ ho
  have fin : ∀ h' tk', h'.Ns1 hp.objs.size (fun z => if z = f then some u else none) → Heap.SameBut hp.objs.size ((hp.push { cls := .type "dict", data := .dict #[] }).update a fun o => { o with dict := some hp.objs.size }) h' → Q () ⟨h', g, d, tk', os⟩ := by
    intro h' tk' hn hs
    have k : ∀ b o, b ≠ a → hp.get? b = some o → h'.get? b = some o := fun b o hb q => (hs.2 b (Nat.ne_of_lt (Heap.lt_size q))).trans ((Heap.get?_update_ne _ _ _ _ hb).trans (Heap.get?_push_of_some _ q))
    have hx : h'.get? a = some { cls := .ref C, dict := some hp.objs.size, data := .fields #[.ref t1, .none, .none, .none, .bool false, .none] } := (hs.2 a hxs).trans (Heap.get?_update_self _ x1 rfl)
    have na : ∀ {b : Addr}, H b = none → b ≠ a := fun {b} n z => by rw [z, e] at n; cases n
    have nd : ∀ {b : Addr} {o : Obj}, hp.get? b = some o → b ≠ hp.objs.size := fun {b o} q => Nat.ne_of_lt (Heap.lt_size q)
    have U : Un X.fs [] H (upd (upd H hp.objs.size (exd hp.objs.size [(f, y)])) a (exo a C (some hp.objs.size))) hp h' := {
      keep := fun b o q n _ _ => k b o (na n) q
      slot := fun b o q n _ _ => ⟨o.slots, k b o (na n) q⟩
      free := fun b o q n _ => (upd_ne (na n)).trans ((upd_ne (nd q)).trans n)
      there := fun b o q _ => (Classical.em (b = a)).elim (fun z => ⟨_, z ▸ hx⟩) fun z => ⟨o, k b o z q⟩
      tups := fun b xs q => (upd_ne (at_ne e q exo_tup)).trans ((upd_ne (ne_of_none q hnd)).trans q)
      frzs := fun b o v q => (upd_ne (at_ne e q exo_frz)).trans ((upd_ne (ne_of_none q hnd)).trans q)
      tbls := fun b ps q => ⟨#[], by rw [upd_ne (at_ne e q exo_tbl), upd_ne (ne_of_none q hnd), q]; simp⟩ }
    refine h hp.objs.size _ hnd (Ne.symm hxs) (I.un (t' := tk') U fun b o q => ?_)
    by_cases hb : b = a
    · subst hb; rw [upd_same] at q; cases q; exact exo_ok hx
    · rw [upd_ne hb] at q
      by_cases hd : b = hp.objs.size
      · subst hd; rw [upd_same] at q; cases q; exact exd_ok hn (relO_put (fs := []) ry fun g => True.intro)
      · rw [upd_ne hd] at q
        exact (I.hok b o q).stay (fun c v hc z => k c v (by rcases hc with hc | hc; (rw [hc]; exact hb); exact at_ne e hc exo_own) z)
          (fun c hc => (upd_ne (at_ne e hc exo_own)).trans ((upd_ne (ne_of_none hc hnd)).trans hc)) (fun c xs hc => (upd_ne (at_ne e hc exo_tup)).trans ((upd_ne (ne_of_none hc hnd)).trans hc))
  show wpAny _ _ (Builtin.ObjectAttr.storeInOwnDict (.ref a) (.ref C) _ f u b) _ _ _
  obtain ⟨nm, bs, mro, ns, qn, hdd, sn, sb, ab, col, del⟩ := cd
  dsimp only at hd'
  subst hd'
  unfold Builtin.ObjectAttr.storeInOwnDict Builtin.ObjectAttr.ownDictForStores
  repeat (first | with_reducible refine HandSPX.store_in_new ?_ ?_ | with_reducible refine wpAny_loadPart_at ho ?_ | with_reducible refine hcls.at ?_ | wp_step)
  · exact ⟨_, #[], _, (Heap.get?_update_ne _ _ _ _ hxs.symm).trans (Heap.get?_push_at rfl rfl), rfl, fun e he => absurd he (by simp), fun _ => rfl⟩
  · exact fin
/-- B.__init__(self, ..): nothing of it is told -/
theorem ebi {us : List Value} {Q : Value → Shared → Prop} {E : Value → Shared → Prop} {A : Around} (T : ErrK X.K C fI tl newId f) (B : Bas tl newId initId) (I : Inv X pins σ H s) (e : H a = some (exo a C none)) (hl : us.length ≤ sizeLine) (h : ∀ s', Inv X pins σ H s' → Q .none s') :
    wpAny (model X.prog X.w) A (call (.builtin initId) (.ref a :: us)) Q E s := by
  obtain ⟨Bn, FB, SF⟩ := B.b
  obtain ⟨nm, N, qn, bs, bm, hdct, sn, sub, ab, col, dd, k0, k1, k2, k3, k5, hC, hT⟩ := PySem.W.excInit_of I.kIn T.ini
  obtain ⟨t1, ho⟩ := exo_at I.hok e
  obtain ⟨hp, g, d, t, os⟩ := s
  refine wpAny_call (HandSPX.init_base FB hT hC ho hl fun h' t2 k hx => ?_)
  have J := I.write (t' := t) (x := a) (e := a) (o := exo a C none) (by rw [e]; exact True.intro) (.inl rfl) k ⟨_, hx⟩ (exo_ok hx)
  rw [show upd H a (exo a C none) = H from funext fun b => (Classical.em (b = a)).elim (fun z => by rw [z, upd_same, e]) upd_ne] at J
  exact h _ J
/-- how the base is named -/
structure BasOwn (K : Fr) (mg : Str → Option Value) (b : Str) (R : Addr) (initId : String) : Prop where
  g : mg b = some (.ref R)
  sp : PySem.W.specialIn K (.ref R) "__getattribute__" = some (some (.builtin "type.__getattribute__"))
  rd : PySem.W.readsIn K R (.type "type") = true
  fc : PySem.W.findCls K (.ref R) (.type "type") "__init__" = some (.val (.builtin initId))
structure BasTy (K : Fr) (mg : Str → Option Value) (b : Str) (T : String) (initId : String) : Prop where
  g : mg b = none
  bt : bootBuiltins b = some (.type T)
  ty : typeOf (.type T) = pure (.type "type")
  st : Manifest.isStub T = false
  fc : PySem.W.findCls K (.type T) (.type "type") "__init__" = some (.val (.builtin initId))
/-- the reading of the base's call -/
def tBI (C : Addr) (ta : TA) : TE := fun σ H Q => ta σ H fun vs H1 => ∃ (a : Addr) (ws : List V), vs = .ref a :: ws ∧ ws.length ≤ 1000 ∧ H1 a = some (exo a C none) ∧ Q .non H1
end
section
variable {X : Cx} {a C fI R : Addr} {f b : Str} {tl : List Value} {newId initId Tn : String} {o e : Expr} {es : List Expr} {to te : TE} {ta : TA} {p p' p1 p2 pos : Pos} {pl : Sem Bool}
theorem bi_args {pins : List (Addr × Obj)} {σ : L2.St} {H : Hp} {s : Shared} {Q : VK} (T : ErrK X.K C fI tl newId f) (B : Bas tl newId initId) (ha : PA X (e :: es) ta) (I : Inv X pins σ H s) (h : tBI C ta σ H Q)
    (he : starEach (e :: es) X.env = (false, eval e X.env) :: starEach es X.env) (hpl : (backTo pos (starEach es X.env)).any (·.1) = false) :
    wpAny (model X.prog X.w) X.A (callWith pos (Value.builtin initId) [] (backTo pos (starEach (e :: es) X.env)) []) (EP X pins σ Q) X.xe s := by
  refine PyProof.Rows.callWith_method1 (thn (ha.run pos pins _ σ H _ I h) fun us s1 ⟨vs, H1, I1, r1, a, ws, ev, hl, ea, q⟩ => ?_) he hpl
  subst ev
  cases r1 with
  | @cons _ u0 _ ur ra rw' =>
    obtain rfl : u0 = Value.ref a := ra
    exact ebi T B I1 ea (Nat.le_trans (show ur.length ≤ 1000 by rw [← Paired.length rw']; exact hl) (by decide)) fun s' J => ⟨.non, H1, J, rfl, q⟩
theorem pe_biOwn (T : ErrK X.K C fI tl newId f) (B : Bas tl newId initId) (N : BasOwn X.K X.mg b R initId) (hg : Gl X b) (ha : PA X (e :: es) ta) (hdb : (b == ("__debug__" : Str)) = false := by decide)
    (hc : eval (.Call (.Attribute (.Name b p1) "__init__" p2) (e :: es) [] pos) X.env = (do
      let ov ← eval (.Name b p1) X.env
      standAt p2.atName
      let (f, first) ← holding [ov] (getMethod ov "__init__" pl)
      callWith pos f first (backTo pos (starEach (e :: es) X.env)) (backToKw pos (keywordEach [] X.env))) := by rfl)
    (he : starEach (e :: es) X.env = (false, eval e X.env) :: starEach es X.env := by rfl) (hpl : (backTo pos (starEach es X.env)).any (·.1) = false := by rfl) :
    PE X (.Call (.Attribute (.Name b p1) "__init__" p2) (e :: es) [] pos) (tBI C ta) := by
  refine ⟨fun pins s σ H Q I h => ?_⟩
  refine PySem.W.methodCall_KW (ld_glob I hg N.g ?_ hdb) hc
  refine PySem.W.method_cls I.kIn N.sp (PySem.W.cls_value I.kIn N.rd N.fc B.hh ?_)
  exact bi_args T B ha (I.tok _) h he hpl
theorem pe_biTy (T : ErrK X.K C fI tl newId f) (B : Bas tl newId initId) (N : BasTy X.K X.mg b Tn initId) (hg : Gl X b) (ha : PA X (e :: es) ta) (hn : b ≠ "__name__" := by decide) (hdb : (b == ("__debug__" : Str)) = false := by decide)
    (hc : eval (.Call (.Attribute (.Name b p1) "__init__" p2) (e :: es) [] pos) X.env = (do
      let ov ← eval (.Name b p1) X.env
      standAt p2.atName
      let (f, first) ← holding [ov] (getMethod ov "__init__" pl)
      callWith pos f first (backTo pos (starEach (e :: es) X.env)) (backToKw pos (keywordEach [] X.env))) := by rfl)
    (he : starEach (e :: es) X.env = (false, eval e X.env) :: starEach es X.env := by rfl) (hpl : (backTo pos (starEach es X.env)).any (·.1) = false := by rfl) :
    PE X (.Call (.Attribute (.Name b p1) "__init__" p2) (e :: es) [] pos) (tBI C ta) := by
  refine ⟨fun pins s σ H Q I h => ?_⟩
  refine PySem.W.methodCall_KW (ld_blt I hg N.g N.bt ?_ hn hdb) hc
  obtain ⟨m, fr⟩ := I.fr
  refine PySem.W.method_type fr I.ok.mod.kin N.ty N.st N.fc B.hh ?_
  exact bi_args T B ha (I.tok _) h he hpl
/-- self.f = e in such an __init__ -/
def tEst (C : Addr) (f : Str) (to te : TE) : TS := fun D σ H => te σ H fun y H1 => to σ H1 fun x H2 => ∃ a : Addr, x = .ref a ∧ H2 a = some (exo a C none) ∧ ∀ dx, H2 dx = none → dx ≠ a → D.nx σ (upd (upd H2 dx (exd dx [(f, y)])) a (exo a C (some dx)))
theorem ps_est (T : ErrK X.K C fI tl newId f) (B : Bas tl newId initId) (ho : PE X o to) (he : PE X e te) (hs : swapsWith e (some (.Attribute o f p')) pos.line X.env = pure false := by rfl) : PS X (.Assign [.Attribute o f p'] e pos) (tEst C f to te) := by
  refine ⟨fun pins s σ H D I h => ?_⟩
  refine plainObj_wpAny_Assign_Attribute (thn (he.run pins s σ H _ I h) fun v s1 ⟨y, H1, I1, r1, q1⟩ => thn (ho.run pins s1 σ H1 _ I1 q1) fun u s2 ⟨x, H2, I2, r2, a, ex, ea, q⟩ => ?_) hs
  subst ex
  obtain rfl : u = Value.ref a := r2
  exact est T B I2 ea r1 fun dx s' n ne J => ⟨σ, _, J, q dx n ne⟩
/-- what such an __init__ promises -/
def spErr (C : Addr) (f : Str) : Sp := fun vs H Q _ => ∃ (a : Addr) (y : V), vs = [.ref a, y] ∧ H a = some (exo a C none) ∧ ∀ dx, H dx = none → dx ≠ a → Q .non (upd (upd H dx (exd dx [(f, y)])) a (exo a C (some dx)))
theorem err_fn {P : Program} {w : World} {K : Fr} {mg : Str → Option Value} {base : Heap} {qual : Str} {params : Arguments} {body : List Stmt} {scope : Scope} {fd : FuncData} {txt : Str} (F : FunD K "__init__" qual params body scope [] [] fI fd) (S : FnScope ["self", f] ["self", f] scope)
    (hb : ∀ (cdv : Value) (A : Around) (outer : List PySem.Env) (s : Shared) (H : Hp) (E : XK), PSs (cxOf (L2.CX P w) P w K mg base ["self", f] qual scope fI cdv A outer s H E) body (tSeq (tDrop (tBI C (tCons (tVar 0) (tCons (tC (.str txt)) tNil)))) (tEst C f (tVar 0) (tVar 1))))
    (hbd : Binds K fd ["self", f] []) : FnR P w K mg base (L2.CX P w) 1 fI (spErr C f) := by
  have G : FnOk P w K mg base (L2.CX P w) 1 fI fd ["self", f] (spErr C f) := FunD.ok F S (fun vs H Q E ⟨a, y, e, _⟩ => by rw [e]; rfl) fun cdv A outer s H vs Q E hr ⟨a, y, e, ea, q⟩ => ⟨_, hb cdv A outer s H E, by
    subst e
    refine ⟨.ref a, rfl, a, [.str txt], rfl, (show 1 ≤ 1000 by decide), ea, ?_⟩
    exact ⟨y, rfl, .ref a, rfl, a, rfl, ea, fun dx n ne => q dx n ne⟩⟩
  exact (G.raw hbd .nil).imp fun vs H Q E h => by rw [List.append_nil]; exact h
/-- an error that can be raised -/
structure Err (P : Program) (w : World) (K : Fr) (mg : Str → Option Value) (base : Heap) (x : Str) (C : Addr) (f : Str) : Prop where
  g : mg x = some (.ref C)
  k : ∃ tl newId initId fI, ErrK K C fI tl newId f ∧ Bas tl newId initId ∧ FnR P w K mg base (L2.CX P w) 1 fI (spErr C f)
def tMkE (C : Addr) (f : Str) (ta : TA) : L2.St → Hp → XK → Prop := fun σ H Q => ta σ H fun vs H1 => ∃ v, vs = [v] ∧ ∀ d, H1 d = none → Q (.ref C) (some d) (upd H1 d (.xd [(f, v)]))
theorem pmk_err {x : Str} {j : Nat} {W : WX} (T : Err X.prog X.w X.K X.mg X.base x C f) (hr : Room j X.A) (hj : 2 ≤ j) (hg : Gl X x) (ha : PA X [e] ta)
    (hdb : (x == ("__debug__" : Str)) = false := by decide) (he : starEach [e] X.env = (false, eval e X.env) :: starEach [] X.env := by rfl) (hpl : (backTo pos (starEach [] X.env)).any (·.1) = false := by rfl) :
    PMk X (.Call (.Name x p) [e] [] pos) (tMkE C f ta) := by
  intro pins s σ H Q I h
  obtain ⟨tl, newId, initId, fI, K1, B, F1⟩ := T.k
  obtain ⟨Bn, FB, SF⟩ := B.b
  refine wpAny_Call_Name_kw (ld_glob I hg T.g ?_ hdb)
  refine PySem.W.callWith_K (h₀ := X.base) I.ok.mod.kin K1.kC (thn (ha.run pos pins s σ H _ I h) fun us s1 ⟨vs, H1, I1, r1, v, ev, q1⟩ => ⟨I1.kIn, ?_⟩) he hpl
  subst ev
  show wpAny _ _ (call (.ref C) us) _ _ _
  obtain ⟨nm, N, qn, bs, bm, hdct, sn, sub, ab, col, dd, k0, k1, k2, k3, k5, hC, hT⟩ := PySem.W.excInit_of I1.kIn K1.ini
  obtain ⟨hp, g, dr, tk, os⟩ := s1
  have hsz : hp.objs.size ≤ hp.objs.size + 1 := Nat.le_succ _
  have hn : H1 (hp.objs.size + 1) = none := I1.hok.fresh hsz
  have kk : ∀ b o, hp.get? b = some o → ((hp.push (PySem.W.kdv_tup us)).push (HandSPX.excO C hp.objs.size)).get? b = some o := fun b o z => Heap.get?_push_of_some _ (Heap.get?_push_of_some _ z)
  have hget : ((hp.push (PySem.W.kdv_tup us)).push (HandSPX.excO C hp.objs.size)).get? (hp.objs.size + 1) = some (HandSPX.excO C hp.objs.size) := by heap_get
  have I2 : Inv X pins σ (upd H1 (hp.objs.size + 1) (exo (hp.objs.size + 1) C none)) ⟨(hp.push (PySem.W.kdv_tup us)).push (HandSPX.excO C hp.objs.size), g, dr, tk, os⟩ := I1.laid (t' := tk) kk hsz (exo_ok hget)
  have hus : us.length ≤ sizeLine := Nat.le_trans (show us.length ≤ 1 by rw [← Paired.length r1]; exact Nat.le_refl _) (by decide)
  refine wpAny_call (HandSPX.call_own FB hT hC (PySem.W.looks_findIn I1.kIn K1.iC) (fun self => PySem.W.bind_fn I1.kIn self K1.tI) hus
    (codeAny_mono (F1 _ X.stack _ _ (Value.ref (hp.objs.size + 1) :: us) (V.ref (hp.objs.size + 1) :: [v]) (fun r H2 => r = .non ∧ ∃ dx, H1 dx = none ∧ dx ≠ hp.objs.size + 1 ∧ H2 = upd (upd (upd H1 (hp.objs.size + 1) (exo (hp.objs.size + 1) C none)) dx (exd dx [(f, v)])) (hp.objs.size + 1) (exo (hp.objs.size + 1) C (some dx))) (fun _ _ _ => False) ((hr.mono hj).make C us []) (I2.env0.make C us []) (.cons rfl r1)
      ⟨_, v, rfl, upd_same, fun dx n ne => ⟨rfl, dx, by rw [upd_ne ne] at n; exact n, ne, rfl⟩⟩) fun r s' hq' => ?_))
  cases r with
  | error er => exact (passAt (X := X.wish fun _ _ => False) (W := fun _ _ _ _ => False) (fun u s2 ⟨_, _, _, _, _, _, _, _, _, _, _, _, _, _, _, _, z⟩ => z.elim) σ pins _ _ er s' (I2.wish _) hq').elim
  | ok fl =>
    cases fl with
    | ret u =>
      obtain ⟨r, H2, os2, bare2, un2, hok2, rv, ev, dx, hd1, dne, eH⟩ := hq'
      subst ev
      obtain ⟨h2, g2, d2, t2, os'⟩ := s'
      have ea : H2 (hp.objs.size + 1) = some (exo (hp.objs.size + 1) C (some dx)) := by rw [eH, upd_same]
      have ed : H2 dx = some (exd dx [(f, v)]) := by rw [eH, upd_ne dne, upd_same]
      have eq : upd (del H2 (hp.objs.size + 1)) dx (.xd [(f, v)]) = upd H1 dx (.xd [(f, v)]) := funext fun b => by
        by_cases z : b = dx
        · rw [z, upd_same, upd_same]
        · rw [upd_ne z, upd_ne z]
          by_cases z2 : b = hp.objs.size + 1
          · rw [z2, del_same, hn]
          · rw [del_ne z2, eH, upd_ne z2, upd_ne z, upd_ne z2]
      exact ⟨rv, mk_end (raises_own K1.exC K1.tyC) I1 hsz kk un2 hok2 os2 bare2 ea ed hd1 (by rw [eq]; exact q1 dx hd1)⟩
    | next => exact False.elim hq'
    | brk => exact False.elim hq'
    | cont => exact False.elim hq'
end
end R3

/-! R3q: raise, try .. except over data. -/
namespace R3
open PySem PySem.Spec PyProof.Rows L2
/-! ### raise -/
def wRaise (c : Nat) (f : FE) (d : Fin) (ρ : List Sl) (S : Store) : Prop := f ρ S (fun x S' => d.ex ⟨c, [x]⟩ ρ S') (fun x S' => d.ex x ρ S')
section
variable {g : Sg} {X : Cx} {W : WX} {e : Expr} {fe : FE} {p pos pos2 : Pos}
theorem sraise {x f : Str} {c j : Nat} (T : Err X.prog X.w X.K X.mg X.base x (g.ad c) f) (hf : g.fl c = [f]) (hc : X.calm = true) (hr : Room j X.A) (hj : 2 ≤ j) (tk : Takes X W) (hg : Gl X x) (he : EV g X W e fe) (hdb : (x == ("__debug__" : Str)) = false := by decide)
    (hs : starEach [e] X.env = (false, eval e X.env) :: starEach [] X.env := by rfl) (hpl : (backTo pos (starEach [] X.env)).any (·.1) = false := by rfl) : ES g X W (.Raise (some (.Call (.Name x p) [e] [] pos)) none pos2) (wRaise c fe) :=
  PS.imp (ps_raise hc tk (pmk_err (W := W) T hr hj hg (pa_cons he pa_nil hs) hdb hs hpl)) fun D σ H ⟨w, ρ, S, d, A, eo, q⟩ => by
    refine ⟨w, ρ, S, _, _, A, eo.xo, fun y S1 q1 v w1 H1 l1 A1 r1 => ⟨v, rfl, fun dd hd => ?_⟩, q⟩
    have l2 := le_add (o := .xd [(f, v)]) A1.if_ (A1.free hd)
    refine eo.ex ⟨c, [y]⟩ ρ S1 q1 (w1.add dd (.xd [(f, v)])) σ _ (.ref (g.ad c)) (some dd) (l1.trans l2) (A1.lay hd) ⟨rfl, dd, [v], rfl, ?_, by rw [hf]; rfl, .one (r1.mono l2.s)⟩
    show upd w1.I dd _ dd = _
    rw [upd_same, hf]
    rfl
end
/-! ### the signature with an error held -/
def Sg.held (g : Sg) (X : Xs) : Sg := { g with xs := some X }
section
variable {g : Sg} {Y : Xs} {w : Wd} {ρ : List Sl} {S : Store} {σ : L2.St} {H : Hp}
mutual
theorem Rep.held : ∀ {v : V} {d : D}, Rep g w v d → Rep (g.held Y) w v d
  | _, _, .non => .non
  | _, _, .bl b => .bl b
  | _, _, .int i => .int i
  | _, _, .str x => .str x
  | _, _, .ty n => .ty n
  | _, _, .tup h r => .tup h (Reps.held r)
  | _, _, .lst h r => .lst h (Reps.held r)
  | _, _, .scr h => .scr h
  | _, _, .obj h hl r => .obj h hl (Reps.held r)
  | _, _, .ref h => .ref h
  | _, _, .dic h => .dic h
theorem Reps.held : ∀ {vs : List V} {ds : List D}, Reps g w vs ds → Reps (g.held Y) w vs ds
  | _, _, .nil => .nil
  | _, _, .cons h r => .cons (Rep.held h) (Reps.held r)
end
mutual
theorem Rep.unheld : ∀ {v : V} {d : D}, Rep (g.held Y) w v d → Rep g w v d
  | _, _, .non => .non
  | _, _, .bl b => .bl b
  | _, _, .int i => .int i
  | _, _, .str x => .str x
  | _, _, .ty n => .ty n
  | _, _, .tup h r => .tup h (Reps.unheld r)
  | _, _, .lst h r => .lst h (Reps.unheld r)
  | _, _, .scr h => .scr h
  | _, _, .obj h hl r => .obj h hl (Reps.unheld r)
  | _, _, .ref h => .ref h
  | _, _, .dic h => .dic h
theorem Reps.unheld : ∀ {vs : List V} {ds : List D}, Reps (g.held Y) w vs ds → Reps g w vs ds
  | _, _, .nil => .nil
  | _, _, .cons h r => .cons (Rep.unheld h) (Reps.unheld r)
end
theorem Flds.held : ∀ {vs : List (Str × V)} {ds : List (Str × D)}, Flds g w vs ds → Flds (g.held Y) w vs ds
  | _, _, .nil => .nil
  | _, _, .cons h r => .cons h.held (Flds.held r)
theorem Flds.unheld : ∀ {vs : List (Str × V)} {ds : List (Str × D)}, Flds (g.held Y) w vs ds → Flds g w vs ds
  | _, _, .nil => .nil
  | _, _, .cons h r => .cons h.unheld (Flds.unheld r)
theorem ObjAt.held {a : Addr} {o : SO} (h : ObjAt g w H a o) : ObjAt (g.held Y) w H a o := by
  cases o with
  | lst ds => obtain ⟨vs, e, r⟩ := h; exact ⟨vs, e, r.held⟩
  | ins c ds => obtain ⟨dx, vs, e, hl, r⟩ := h; exact ⟨dx, vs, e, hl, r.held⟩
  | new c x fs => obtain ⟨ea, dx, vs, e, r⟩ := h; exact ⟨ea, dx, vs, e, r.held⟩
theorem ObjAt.unheld {a : Addr} {o : SO} (h : ObjAt (g.held Y) w H a o) : ObjAt g w H a o := by
  cases o with
  | lst ds => obtain ⟨vs, e, r⟩ := h; exact ⟨vs, e, r.unheld⟩
  | ins c ds => obtain ⟨dx, vs, e, hl, r⟩ := h; exact ⟨dx, vs, e, hl, r.unheld⟩
  | new c x fs => obtain ⟨ea, dx, vs, e, r⟩ := h; exact ⟨ea, dx, vs, e, r.unheld⟩
/-- the suite begins: slot i holds the error -/
theorem At.hold1 (A : At g w ρ S σ H) (h0 : g.xs = none) (hi : Y.i < ρ.length) {vs : List V} (hd : w.I Y.dd = some (.xd ((g.fl Y.x.c).zip vs))) (hl : vs.length = (g.fl Y.x.c).length) (hr : Reps g w vs Y.x.fs) :
    At (g.held Y) w (Env.put ρ Y.i .exc) S (σ.set Y.i (some (.ref Y.a))) H := by
  have hiσ : Y.i < σ.length := by rw [A.sl]; exact hi
  have ne : ∀ {j : Nat} {x : Sl}, Env.at (Env.put ρ Y.i .exc) j = x → x ≠ .exc → j ≠ Y.i ∧ Env.at ρ j = x := fun {j x} h hx => by
    rw [Env.at_put] at h
    by_cases c : j = Y.i ∧ Y.i < ρ.length
    · rw [if_pos c] at h; exact absurd h.symm hx
    · rw [if_neg c] at h; exact ⟨fun z => c ⟨z, hi⟩, h⟩
  refine ⟨A.if_, A.fh, A.len, fun k o h => ⟨(A.st k o h).1, (A.st k o h).2.held⟩, A.inj, by rw [List.length_set, Env.len_put, A.sl], fun j d h => ?_, fun j o h => ?_, fun j h => ?_⟩
  · obtain ⟨n, h⟩ := ne h fun z => nomatch z
    obtain ⟨v, h1, h2⟩ := A.val j d h
    exact ⟨v, by rw [List.getElem?_set_ne (Ne.symm n)]; exact h1, h2.held⟩
  · obtain ⟨n, h⟩ := ne h fun z => nomatch z
    obtain ⟨a, h1, h2, h3, h4, h5⟩ := A.own j o h
    refine ⟨a, by rw [List.getElem?_set_ne (Ne.symm n)]; exact h1, h2, h3.held, h4, fun k ok hk hs => ?_⟩
    obtain ⟨n2, hk⟩ := ne hk fun z => nomatch z
    rw [List.getElem?_set_ne (Ne.symm n2)] at hs
    exact h5 k ok hk hs
  · rw [Env.at_put] at h
    by_cases c : j = Y.i ∧ Y.i < ρ.length
    · rw [c.1]
      exact ⟨Y, rfl, rfl, List.getElem?_set_self hiσ, vs, hd, hl, hr.held⟩
    · rw [if_neg c] at h
      obtain ⟨Z, hz, _⟩ := A.xc j h
      rw [h0] at hz
      cases hz
/-- .. and ends -/
theorem At.letgo1 (A : At (g.held Y) w ρ S σ H) : At g w (Env.put ρ Y.i .no) S (σ.set Y.i none) H := by
  have B := A.wipe1 (i := Y.i)
  refine ⟨B.if_, B.fh, B.len, fun k o h => ⟨(B.st k o h).1, (B.st k o h).2.unheld⟩, B.inj, B.sl, fun j d h => ?_, fun j o h => ?_, fun j h => ?_⟩
  · obtain ⟨v, h1, h2⟩ := B.val j d h
    exact ⟨v, h1, h2.unheld⟩
  · obtain ⟨a, h1, h2, h3, h4⟩ := B.own j o h
    exact ⟨a, h1, h2, h3.unheld, h4⟩
  · exfalso
    rw [Env.at_put] at h
    by_cases c : j = Y.i ∧ Y.i < ρ.length
    · rw [if_pos c] at h; cases h
    · rw [if_neg c] at h
      obtain ⟨Z, hz, ei, hs, _⟩ := A.xc j h
      cases hz
      exact c ⟨ei, by rw [← A.sl, ← ei]; exact (List.getElem?_eq_some_iff.mp hs).1⟩
theorem At0.unheld (A : At0 (g.held Y) w S H) : At0 g w S H :=
  ⟨A.if_, A.fh, A.len, fun k o h => ⟨(A.st k o h).1, (A.st k o h).2.unheld⟩, A.inj, rfl, fun i d h => (by cases i <;> cases h), fun i d h => (by cases i <;> cases h), fun i h => (by cases i <;> cases h)⟩
theorem At0.held (A : At0 g w S H) : At0 (g.held Y) w S H :=
  ⟨A.if_, A.fh, A.len, fun k o h => ⟨(A.st k o h).1, (A.st k o h).2.held⟩, A.inj, rfl, fun i d h => (by cases i <;> cases h), fun i d h => (by cases i <;> cases h), fun i h => (by cases i <;> cases h)⟩
end
/-! ### try .. except C as n -/
/-- the ends of a suite in which slot i holds the error -/
def Fin.suite (d : Fin) (i : Nat) : Fin := { nx := fun ρ S => d.nx (Env.put ρ i .no) S, rt := d.rt, bk := fun ρ S => d.bk (Env.put ρ i .no) S, ct := fun ρ S => d.ct (Env.put ρ i .no) S, rl := d.rl }
def wTryAs (cs : Nat → Option Bool) (i : Nat) (fb : FS) (fs : Exn → FS) (d : Fin) (ρ : List Sl) (S : Store) : Prop :=
  fb { d with ex := fun x ρ' S' => match cs x.c with
    | some true => i < ρ'.length ∧ fs x (d.suite i) (Env.put ρ' i .exc) S'
    | some false => d.ex x ρ' S'
    | none => False } ρ S
theorem wTry_imp {g : Sg} {Wout : WX} {c : Value} {i : Nat} {cs : Nat → Option Bool} {ts : Addr → Value → Option Addr → TS} {fb : FS} {fs : Exn → FS} (h0 : g.xs = none) (hcs : ∀ k b, cs k = some b → PySem.W.exmOne g.K (.ref (g.ad k)) c = some b)
    (hts : ts = fun a cls d D σ H => ∃ (x : Exn) (dd : Addr), cls = .ref (g.ad x.c) ∧ d = some dd ∧ rdS (g.held ⟨i, a, dd, x⟩) W0 (fs x) D σ H) {D : Ends} {σ : L2.St} {H : Hp} (h : rdS g Wout (wTryAs cs i fb fs) D σ H) : rdS g (wAs g.K c i ts Wout D) fb D σ H := by
  obtain ⟨w, ρ, S, d, A, eo, q⟩ := h
  refine ⟨w, ρ, S, { d with ex := fun x ρ' S' => match cs x.c with
    | some true => i < ρ'.length ∧ fs x (d.suite i) (Env.put ρ' i .exc) S'
    | some false => d.ex x ρ' S'
    | none => False }, A, ⟨eo.nx, eo.rt, eo.bk, eo.ct, fun x ρ' S' e w' σ' H' cls dd l A' r => ?_, eo.rl⟩, q⟩
  obtain ⟨e1, p, vs, e2, e3, e4, e5⟩ := r
  subst e1 e2
  have e' : (match cs x.c with
    | some true => i < ρ'.length ∧ fs x (d.suite i) (Env.put ρ' i .exc) S'
    | some false => d.ex x ρ' S'
    | none => False) := e
  cases hc : cs x.c with
  | none => rw [hc] at e'; exact e'.elim
  | some b =>
    rw [hc] at e'
    refine ⟨b, hcs _ _ hc, fun hb a ha => ?_, fun hb => ?_⟩
    · subst hb
      rw [hts]
      refine ⟨x, p, rfl, rfl, w', _, S', d.suite i, A'.hold1 (Y := ⟨i, a, p, x⟩) h0 e'.1 e3 e4 e5, ⟨?_, ?_, ?_, ?_, ?_, ?_⟩, e'.2⟩
      · exact fun ρ2 S2 k w2 σ2 H2 l2 A2 => eo.nx _ S2 k w2 _ H2 (l.trans l2) (A2.letgo1 (Y := ⟨i, a, p, x⟩))
      · exact fun r2 S2 k v w2 H2 l2 A2 rr => eo.rt _ S2 k v w2 H2 (l.trans l2) A2.unheld rr.unheld
      · exact fun ρ2 S2 k w2 σ2 H2 l2 A2 => eo.bk _ S2 k w2 _ H2 (l.trans l2) (A2.letgo1 (Y := ⟨i, a, p, x⟩))
      · exact fun ρ2 S2 k w2 σ2 H2 l2 A2 => eo.ct _ S2 k w2 _ H2 (l.trans l2) (A2.letgo1 (Y := ⟨i, a, p, x⟩))
      · exact fun _ _ _ z => z.elim
      · exact fun ds S2 k b vs2 w2 H2 l2 A2 hH fr rr => eo.rl ds S2 k b vs2 w2 H2 (l.trans l2) A2.unheld hH fr rr.unheld
    · subst hb
      exact eo.ex x ρ' S' e' w' σ' H' _ _ l A' ⟨rfl, p, vs, rfl, e3, e4, e5⟩
section
variable {g : Sg} {X : Cx} {W : WX} {x n : Str} {c : Value} {i : Nat} {body suite : List Stmt} {b₀ : Stmt} {np pos pos' : Pos} {cs : Nat → Option Bool} {fb : FS} {fs : Exn → FS}
theorem stryAs (h0 : g.xs = none) (hK : g.K = X.K) (hs : X.stack = X.env :: X.outer) (hf : X.env.frame = some X.env.locals) (hN : X.N.Nodup) (hi : X.N[i]? = some n) (hln : X.env.kindOf n = some .local) (hc : Names X x c) (tk : Takes X W) (hcs : ∀ k b, cs k = some b → PySem.W.exmOne g.K (.ref (g.ad k)) c = some b)
    (hb : ∀ (W1 : WX) (pn : List (Addr × Obj)) (xe : Value → Shared → Prop), Takes (X.tr pn xe) W1 → PassesOwn (model X.prog X.w) X.A X.env xe → EB g (X.tr pn xe) W1 body fb)
    (hsu : ∀ (a : Addr) (oe : Obj) (dd : Addr) (pn : List (Addr × Obj)) (y : Exn), Zc (.ref (g.ad y.c)) (some dd) oe → (∃ vs, oe.data = .fields vs) → EB (g.held ⟨i, a, dd, y⟩) (X.suite a ((a, oe) :: pn)) W0 (b₀ :: suite) (fs y)) :
    ES g X W (.Try body [.ExceptHandler (some (.Name x np)) (some n) (b₀ :: suite) pos'] [] [] pos) (wTryAs cs i fb fs) := by
  refine PS.imp (ps_try_as (tb := fun W1 => rdS g W1 fb) (ts := fun a cls d D σ H => ∃ (y : Exn) (dd : Addr), cls = .ref (g.ad y.c) ∧ d = some dd ∧ rdS (g.held ⟨i, a, dd, y⟩) W0 (fs y) D σ H) (Wout := W) hs hf hN hi hln hc tk hb fun a oe cls d pn hz hv => ⟨fun pins s σ H D I ⟨y, dd, e1, e2, q⟩ => ?_⟩) fun D σ H h => ?_
  · subst e1 e2
    exact (hsu a oe dd pn y hz hv).run pins s σ H D I q
  · have := wTry_imp (c := c) h0 hcs rfl h
    rw [hK] at this
    exact this
end
end R3

/-! R3r: try with several except clauses, each with a name or without. -/
namespace R3
open PySem PySem.Spec PyProof.Rows L2
abbrev TSx := Addr → Value → Option Addr → TS
/-- what the clauses wish -/
def wMix (K : Fr) (Wout : WX) (D : Ends) : List (Value × Option Nat × TSx) → WX
  | [] => Wout
  | (c, none, ts) :: r => fun cls d σ H => ∃ b, PySem.W.exmOne K cls c = some b ∧ (b = true → ∀ a, H a = none → ts a cls d D σ H) ∧ (b = false → wMix K Wout D r cls d σ H)
  | (c, some i, ts) :: r => fun cls d σ H => ∃ b, PySem.W.exmOne K cls c = some b ∧
      (b = true → ∀ a, H a = none → ts a cls d { nx := fun τ G => D.nx (τ.set i none) G, rt := D.rt, bk := fun τ G => D.bk (τ.set i none) G, ct := fun τ G => D.ct (τ.set i none) G } (σ.set i (some (.ref a))) H) ∧ (b = false → wMix K Wout D r cls d σ H)
/-- a suite with the error held -/
def SuiteOk (X : Cx) (b : Stmt) (rest : List Stmt) (ts : TSx) : Prop := ∀ (a : Addr) (oe : Obj) (cls : Value) (d : Option Addr) (pn : List (Addr × Obj)), Zc cls d oe → (∃ vs, oe.data = .fields vs) → PSs (X.suite a ((a, oe) :: pn)) (b :: rest) (ts a cls d)
inductive Hnds (X : Cx) : List ExceptHandler → List (Value × Option Nat × TSx) → Prop
  | nil : Hnds X [] []
  | plain {x : Str} {c : Value} {ts : TSx} {b : Stmt} {rest : List Stmt} {np q : Pos} {hs : List ExceptHandler} {l : List (Value × Option Nat × TSx)} (hc : Names X x c) (su : SuiteOk X b rest ts) (r : Hnds X hs l) :
      Hnds X (.ExceptHandler (some (.Name x np)) none (b :: rest) q :: hs) ((c, none, ts) :: l)
  | named {x n : Str} {i : Nat} {c : Value} {ts : TSx} {b : Stmt} {rest : List Stmt} {np q : Pos} {hs : List ExceptHandler} {l : List (Value × Option Nat × TSx)} (hc : Names X x c) (hN : X.N.Nodup) (hi : X.N[i]? = some n) (hl : X.env.kindOf n = some .local) (su : SuiteOk X b rest ts) (r : Hnds X hs l) :
      Hnds X (.ExceptHandler (some (.Name x np)) (some n) (b :: rest) q :: hs) ((c, some i, ts) :: l)
section
variable {X : Cx} {body : List Stmt} {h0 : ExceptHandler} {hds : List ExceptHandler} {l : List (Value × Option Nat × TSx)} {pos : Pos} {tb : WX → TS} {Wout : WX}
theorem ps_mix (hst : X.stack = X.env :: X.outer) (hfr0 : X.env.frame = some X.env.locals) (tk : Takes X Wout)
    (hb : ∀ (W : WX) (pn : List (Addr × Obj)) (xe : Value → Shared → Prop), Takes (X.tr pn xe) W → PassesOwn (model X.prog X.w) X.A X.env xe → PSs (X.tr pn xe) body (tb W))
    (hh : Hnds X (h0 :: hds) l) : PS X (.Try body (h0 :: hds) [] [] pos) (fun D σ H => tb (wMix X.K Wout D l) D σ H) := by
  refine ⟨fun pins s σ H D I q0 => ?_⟩
  have okX := I.ok
  have frames : X.A.frames = some (X.env :: X.outer) := okX.frames.trans (congrArg some hst)
  refine wpAny_Try_except ?_
  refine wpAny_mono ((hb (wMix X.K Wout D l) (X.pn ++ pins) (fun e s₁ => wpAny (model X.prog X.w) X.A (noteFrame e X.env) (fun _ s₂ => wpAny (model X.prog X.w) X.A (setFlight e none) (fun _ s₃ => wpAny (model X.prog X.w) X.A (handleBy e X.env (h0 :: hds)) (SP X pins D) X.xe s₃) X.xe s₂) X.xe s₁) ?_ PassesOwn.looking).run [] s σ H D (I.toTry _) q0) (fun f s1 hf => ?_) (fun e s1 he => he)
  rotate_left
  · cases f with
    | next => obtain ⟨τ, G, J, q⟩ := hf; exact wpAny_execs_nil ⟨τ, G, J.ofTry okX, q⟩
    | brk => obtain ⟨τ, G, J, q⟩ := hf; exact ⟨τ, G, J.ofTry okX, q⟩
    | cont => obtain ⟨τ, G, J, q⟩ := hf; exact ⟨τ, G, J.ofTry okX, q⟩
    | ret u => obtain ⟨v, τ, G, J, r, q⟩ := hf; exact ⟨v, τ, G, J.ofTry okX, r, q⟩
  · intro u s' xx
    obtain ⟨a, B, sI, pins', τ, G, cls, d, rfl, J', nb, up, sky, na, os, ag, wish⟩ := xx
    have J : Inv X pins τ G sI := J'.ofTry okX
    show wpAny (model X.prog X.w) X.A (noteFrame (.ref a) X.env) _ _ _
    refine Sky.land Zc.steady frames hfr0 (by rw [← hst]; exact sky) fun h3 fly up3 => ?_
    have J3 : Inv X pins τ G { s' with heap := h3 } := J.landed nb fly.1 (up.trans up3) os ag
    obtain ⟨oe3, vs3, he3, hz3, hd3⟩ := fly.there
    have out : a ∉ frs (X.env :: X.outer) := fun hm => by
      obtain ⟨_, o', e', hnf⟩ := fly.2.2.1.mem hm
      rw [he3] at e'; cases e'
      exact hnf _ hd3
    have nL : a ≠ X.env.locals := fun z => out (List.mem_filterMap.mpr ⟨X.env, List.mem_cons_self, by rw [hfr0, z]⟩)
    have nF : a ∉ X.fs := fun hm => by
      obtain ⟨e, he, q⟩ := List.mem_filterMap.mp hm
      exact out (List.mem_filterMap.mpr ⟨e, List.mem_cons_of_mem _ he, q⟩)
    have S3 := J3.suite he3 hd3 na nL nF
    have look : ∀ {x : Str} {c : Value} {np : Pos}, Names X x c → ∀ {Q : Value → Shared → Prop} {E : Value → Shared → Prop}, Q c { s' with heap := h3 } → wpAny (model X.prog X.w) (X.A.mark (some (.ref a))) (eval (.Name x np) X.env) Q E { s' with heap := h3 } := fun {x c np} hc {Q E} q => by
      obtain ⟨hg, hdb, hm | ⟨hm, hv, hn⟩⟩ := hc
      · exact ld_glob (X := X.suite a ((a, oe3) :: (X.pn ++ pins))) S3 hg hm q hdb
      · exact ld_blt (X := X.suite a ((a, oe3) :: (X.pn ++ pins))) S3 hg hm hv q hn hdb
    have LT : PySem.W.Looks (model X.prog X.w) h3 (typeOf (.ref a)) cls := fun A Q E s k q => wpAny_typeOf_ref (k _ _ he3) (by rw [hz3.1]; exact q)
    have go : ∀ {hs' : List ExceptHandler} {l' : List (Value × Option Nat × TSx)}, Hnds X hs' l' → wMix X.K Wout D l' cls d τ G → wpAny (model X.prog X.w) X.A (handleBy (.ref a) X.env hs') (SP X pins D) X.xe { s' with heap := h3 } := by
      intro hs' l' hk
      induction hk with
      | nil =>
        intro wo
        refine wpAny_handleBy_nil ?_
        obtain ⟨k1, k2, k3, oe, vs, T, oT, ts', he, hz, hd, h1, hr⟩ := id fly
        unfold PySem.passOn
        refine wpAny_bind (wpAny_field he hd h1 ?_)
        rw [if_neg (show ¬ ((Value.ref T == Value.none) = true) by simp)]
        have on : wpAny (model X.prog X.w) X.A (setFlight (.ref a) X.env.frame) (fun _ s4 => wpAny (model X.prog X.w) X.A (throw (.ref a) : Sem Flow) (SP X pins D) X.xe s4) X.xe { s' with heap := h3 } := by
          rw [hfr0]
          refine HandSPX.setFlight_upZ fly fun h4 hh4 up4 => wpAny_throw (tk _ _ ?_)
          exact ⟨a, B, sI, pins, τ, G, cls, d, rfl, J, nb, (up.trans up3).trans up4, .inr (.inr (hst ▸ hh4)), na, os, ag, wo⟩
        first
          | exact wpAny_bind (wpAny_pure (wpAny_bind on))
          | exact wpAny_bind on
      | @plain x c ts b rest np q hs2 l2 hc su r ih =>
        intro ⟨bb, hx, yes, no⟩
        refine wpAny_handleBy_cons (codeAny_handlers_test ?_) (fun z => nomatch z)
        refine look hc ((PySem.W.exm_one (M := model X.prog X.w) J3.kIn LT hx).here ?_)
        cases bb with
        | false => exact ih (no rfl)
        | true =>
          refine codeAny_handlers_suite ?_
          refine HandSPX.lands_againZ fly fun h4 fl4 up4 => ?_
          obtain ⟨oe4, vs4, he4, hz4, hd4⟩ := fl4.there
          have J4 : Inv X pins τ G { s' with heap := h4 } := J.landed nb fl4.1 ((up.trans up3).trans up4) os ag
          have S4 := J4.suite he4 hd4 na nL nF
          refine wpAny_mono ((su a oe4 cls d (X.pn ++ pins) hz4 ⟨_, hd4⟩).run [] _ _ G _ S4 (yes rfl a na)) (fun f s6 hf => ?_) (fun _ _ z => z.elim)
          cases f with
          | next => obtain ⟨τ6, G6, S6, q6⟩ := hf; exact ⟨_, _, S6.unsuite okX, q6⟩
          | brk => obtain ⟨τ6, G6, S6, q6⟩ := hf; exact ⟨_, _, S6.unsuite okX, q6⟩
          | cont => obtain ⟨τ6, G6, S6, q6⟩ := hf; exact ⟨_, _, S6.unsuite okX, q6⟩
          | ret u => obtain ⟨v6, τ6, G6, S6, r6, q6⟩ := hf; exact ⟨_, _, _, S6.unsuite okX, r6, q6⟩
      | @named x n i c ts b rest np q hs2 l2 hc hN hi hl su r ih =>
        intro ⟨bb, hx, yes, no⟩
        refine wpAny_handleBy_cons (codeAny_handlers_test ?_) (fun z => nomatch z)
        refine look hc ((PySem.W.exm_one (M := model X.prog X.w) J3.kIn LT hx).here ?_)
        cases bb with
        | false => exact ih (no rfl)
        | true =>
          refine codeAny_handlers_suite_as ?_
          refine HandSPX.lands_againZ fly fun h4 fl4 up4 => ?_
          obtain ⟨oe4, vs4, he4, hz4, hd4⟩ := fl4.there
          have J4 : Inv X pins τ G { s' with heap := h4 } := J.landed nb fl4.1 ((up.trans up3).trans up4) os ag
          have S4 := J4.suite he4 hd4 na nL nF
          refine store_ok (X := X.suite a ((a, oe4) :: (X.pn ++ pins))) (v := .ref a) S4 hN hi (.inl hl) rfl (fun s5 S5 => ?_) (.inr hl)
          refine wpAny_mono ((su a oe4 cls d (X.pn ++ pins) hz4 ⟨_, hd4⟩).run [] s5 _ G _ S5 (yes rfl a na)) (fun f s6 hf => ?_) (fun _ _ z => z.elim)
          have gone : ∀ {τ6 : L2.St} {G6 : Hp} {Q : Shared → Prop}, Inv (X.suite a ((a, oe4) :: (X.pn ++ pins))) [] τ6 G6 s6 → (∀ s7, Inv X pins (τ6.set i none) G6 s7 → Q s7) → wpAny (model X.prog X.w) X.A (do bindName X.env n .none; unbindBehindTheSuite X.env n q) (fun _ s7 => Q s7) X.xe s6 :=
            fun {τ6 G6 Q} S6 hq => gone_ok (S6.unsuite okX) hN hi hl hq
          cases f with
          | next => obtain ⟨τ6, G6, S6, q6⟩ := hf; exact gone S6 fun s7 J7 => ⟨_, _, J7, q6⟩
          | brk => obtain ⟨τ6, G6, S6, q6⟩ := hf; exact gone S6 fun s7 J7 => ⟨_, _, J7, q6⟩
          | cont => obtain ⟨τ6, G6, S6, q6⟩ := hf; exact gone S6 fun s7 J7 => ⟨_, _, J7, q6⟩
          | ret u => obtain ⟨v6, τ6, G6, S6, r6, q6⟩ := hf; exact gone S6 fun s7 J7 => ⟨_, _, _, J7, r6, q6⟩
    exact go hh wish
end
/-! ### over data -/
structure Hnd where
  cs : Nat → Option Bool
  i : Option Nat
  fs : Exn → FS
def Fin.suite0 (d : Fin) : Fin := { nx := d.nx, rt := d.rt, bk := d.bk, ct := d.ct, rl := d.rl }
def catchL (d : Fin) (x : Exn) (ρ : List Sl) (S : Store) : List Hnd → Prop
  | [] => d.ex x ρ S
  | ⟨cs, some i, fs⟩ :: r => (match cs x.c with
    | some true => i < ρ.length ∧ fs x (d.suite i) (Env.put ρ i .exc) S
    | some false => catchL d x ρ S r
    | none => False)
  | ⟨cs, none, fs⟩ :: r => (match cs x.c with
    | some true => fs x d.suite0 ρ S
    | some false => catchL d x ρ S r
    | none => False)
def wTryL (hs : List Hnd) (fb : FS) (d : Fin) (ρ : List Sl) (S : Store) : Prop := fb { d with ex := fun x ρ' S' => catchL d x ρ' S' hs } ρ S
inductive Hds (g : Sg) (X : Cx) : List ExceptHandler → List Hnd → List (Value × Option Nat × TSx) → Prop
  | nil : Hds g X [] [] []
  | plain {x : Str} {c : Value} {cs : Nat → Option Bool} {fs : Exn → FS} {b : Stmt} {rest : List Stmt} {np q : Pos} {hs : List ExceptHandler} {hn : List Hnd} {l : List (Value × Option Nat × TSx)} (hc : Names X x c) (hcs : ∀ k b, cs k = some b → PySem.W.exmOne g.K (.ref (g.ad k)) c = some b)
      (su : ∀ (a : Addr) (oe : Obj) (d : Option Addr) (pn : List (Addr × Obj)) (y : Exn), Zc (.ref (g.ad y.c)) d oe → (∃ vs, oe.data = .fields vs) → EB g (X.suite a ((a, oe) :: pn)) W0 (b :: rest) (fs y)) (r : Hds g X hs hn l) :
      Hds g X (.ExceptHandler (some (.Name x np)) none (b :: rest) q :: hs) (⟨cs, none, fs⟩ :: hn) ((c, none, fun a cls d D σ H => ∃ y : Exn, cls = .ref (g.ad y.c) ∧ rdS g W0 (fs y) D σ H) :: l)
  | named {x n : Str} {i : Nat} {c : Value} {cs : Nat → Option Bool} {fs : Exn → FS} {b : Stmt} {rest : List Stmt} {np q : Pos} {hs : List ExceptHandler} {hn : List Hnd} {l : List (Value × Option Nat × TSx)} (hc : Names X x c) (hcs : ∀ k b, cs k = some b → PySem.W.exmOne g.K (.ref (g.ad k)) c = some b) (hN : X.N.Nodup) (hi : X.N[i]? = some n) (hl : X.env.kindOf n = some .local)
      (su : ∀ (a : Addr) (oe : Obj) (dd : Addr) (pn : List (Addr × Obj)) (y : Exn), Zc (.ref (g.ad y.c)) (some dd) oe → (∃ vs, oe.data = .fields vs) → EB (g.held ⟨i, a, dd, y⟩) (X.suite a ((a, oe) :: pn)) W0 (b :: rest) (fs y)) (r : Hds g X hs hn l) :
      Hds g X (.ExceptHandler (some (.Name x np)) (some n) (b :: rest) q :: hs) (⟨cs, some i, fs⟩ :: hn) ((c, some i, fun a cls d D σ H => ∃ (y : Exn) (dd : Addr), cls = .ref (g.ad y.c) ∧ d = some dd ∧ rdS (g.held ⟨i, a, dd, y⟩) W0 (fs y) D σ H) :: l)
theorem Hds.to {g : Sg} {X : Cx} : ∀ {hs : List ExceptHandler} {hn : List Hnd} {l : List (Value × Option Nat × TSx)}, Hds g X hs hn l → Hnds X hs l
  | _, _, _, .nil => .nil
  | _, _, _, .plain hc hcs su r => .plain hc (fun a oe cls d pn hz hv => ⟨fun pins s σ H D I ⟨y, e1, q⟩ => by subst e1; exact (su a oe d pn y hz hv).run pins s σ H D I q⟩) r.to
  | _, _, _, .named hc hcs hN hi hl su r => .named hc hN hi hl (fun a oe cls d pn hz hv => ⟨fun pins s σ H D I ⟨y, dd, e1, e2, q⟩ => by subst e1 e2; exact (su a oe dd pn y hz hv).run pins s σ H D I q⟩) r.to
theorem catch_ok {g : Sg} {X : Cx} {W : WX} (h0 : g.xs = none) {D : Ends} {w : Wd} {d : Fin} (eo : EOk g W w D d) {x : Exn} {ρ' : List Sl} {S' : Store} {w' : Wd} {σ' : L2.St} {H' : Hp} {p : Addr} {vs : List V} (l : Le w w') (A' : At g w' ρ' S' σ' H') (e3 : w'.I p = some (.xd ((g.fl x.c).zip vs))) (e4 : vs.length = (g.fl x.c).length) (e5 : Reps g w' vs x.fs) :
    ∀ {hs : List ExceptHandler} {hn : List Hnd} {tl : List (Value × Option Nat × TSx)}, Hds g X hs hn tl → catchL d x ρ' S' hn → wMix g.K W D tl (.ref (g.ad x.c)) (some p) σ' H'
  | _, _, _, .nil, e => eo.ex x ρ' S' e w' σ' H' _ _ l A' ⟨rfl, p, vs, rfl, e3, e4, e5⟩
  | _, _, _, .plain (cs := cs) (fs := fs) (hn := hn) hc hcs su r, e => by
    have e' : (match cs x.c with
      | some true => fs x d.suite0 ρ' S'
      | some false => catchL d x ρ' S' hn
      | none => False) := e
    cases hh : cs x.c with
    | none => rw [hh] at e'; exact e'.elim
    | some b =>
      rw [hh] at e'
      refine ⟨b, hcs _ _ hh, fun hb a ha => ?_, fun hb => ?_⟩
      · subst hb
        exact ⟨x, rfl, w', ρ', S', d.suite0, A', ⟨(eo.later l).nx, (eo.later l).rt, (eo.later l).bk, (eo.later l).ct, fun _ _ _ z => z.elim, (eo.later l).rl⟩, e'⟩
      · subst hb
        exact catch_ok h0 eo l A' e3 e4 e5 r e'
  | _, _, _, .named (i := i) (cs := cs) (fs := fs) (hn := hn) hc hcs hN hi hl su r, e => by
    have e' : (match cs x.c with
      | some true => i < ρ'.length ∧ fs x (d.suite i) (Env.put ρ' i .exc) S'
      | some false => catchL d x ρ' S' hn
      | none => False) := e
    cases hh : cs x.c with
    | none => rw [hh] at e'; exact e'.elim
    | some b =>
      rw [hh] at e'
      refine ⟨b, hcs _ _ hh, fun hb a ha => ?_, fun hb => ?_⟩
      · subst hb
        refine ⟨x, p, rfl, rfl, w', _, S', d.suite i, A'.hold1 (Y := ⟨i, a, p, x⟩) h0 e'.1 e3 e4 e5, ⟨?_, ?_, ?_, ?_, ?_, ?_⟩, e'.2⟩
        · exact fun ρ2 S2 k w2 σ2 H2 l2 A2 => eo.nx _ S2 k w2 _ H2 (l.trans l2) (A2.letgo1 (Y := ⟨i, a, p, x⟩))
        · exact fun r2 S2 k v w2 H2 l2 A2 rr => eo.rt _ S2 k v w2 H2 (l.trans l2) A2.unheld rr.unheld
        · exact fun ρ2 S2 k w2 σ2 H2 l2 A2 => eo.bk _ S2 k w2 _ H2 (l.trans l2) (A2.letgo1 (Y := ⟨i, a, p, x⟩))
        · exact fun ρ2 S2 k w2 σ2 H2 l2 A2 => eo.ct _ S2 k w2 _ H2 (l.trans l2) (A2.letgo1 (Y := ⟨i, a, p, x⟩))
        · exact fun _ _ _ z => z.elim
        · exact fun ds S2 k b vs2 w2 H2 l2 A2 hH fr rr => eo.rl ds S2 k b vs2 w2 H2 (l.trans l2) A2.unheld hH fr rr.unheld
      · subst hb
        exact catch_ok h0 eo l A' e3 e4 e5 r e'
section
variable {g : Sg} {X : Cx} {W : WX} {body : List Stmt} {h0 : ExceptHandler} {hds : List ExceptHandler} {hn : List Hnd} {tl : List (Value × Option Nat × TSx)} {pos : Pos} {fb : FS}
theorem stry (hx : g.xs = none) (hK : g.K = X.K) (hs : X.stack = X.env :: X.outer) (hf : X.env.frame = some X.env.locals) (tk : Takes X W)
    (hb : ∀ (W1 : WX) (pn : List (Addr × Obj)) (xe : Value → Shared → Prop), Takes (X.tr pn xe) W1 → PassesOwn (model X.prog X.w) X.A X.env xe → EB g (X.tr pn xe) W1 body fb) (hh : Hds g X (h0 :: hds) hn tl) : ES g X W (.Try body (h0 :: hds) [] [] pos) (wTryL hn fb) := by
  refine PS.imp (ps_mix (tb := fun W1 => rdS g W1 fb) (Wout := W) hs hf tk hb hh.to) fun D σ H h => ?_
  obtain ⟨w, ρ, S, d, A, eo, q⟩ := h
  refine ⟨w, ρ, S, { d with ex := fun x ρ' S' => catchL d x ρ' S' hn }, A, ⟨eo.nx, eo.rt, eo.bk, eo.ct, fun x ρ' S' e w' σ' H' cls dd l A' r => ?_, eo.rl⟩, q⟩
  obtain ⟨e1, p, vs, e2, e3, e4, e5⟩ := r
  subst e1 e2
  have := catch_ok hx eo l A' e3 e4 e5 hh e
  rw [hK] at this
  exact this
end
end R3

/-! R3s: the error that a suite holds: its field, isinstance of it; calls there. -/
namespace R3
open PySem PySem.Spec PyProof.Rows L2
section
open PySem.W PySem.Calls
variable {prog : Program} {w : World} {A : Around} {E : Value → Shared → Prop} {s : Shared} {K : Fr} {x D : Addr} {ox : Obj} {od : Option Obj}
theorem find_desc {name : Str} {a g : Value} {C : Addr} (hc : (clsIn K C).isSome = true) (ha : findIn K (.ref C) name = some (some a)) (hg : specialIn K a "__get__" = some (some g)) (ht : takesIn K a = some true) : findObj K C od name = some (.bind g a) := by
  obtain ⟨cd, e⟩ := Option.isSome_iff_exists.mp hc
  unfold findObj
  rw [e, Option.bind_some, ha, Option.bind_some]
  simp [hg, ht]
/-- an error's __class__ -/
theorem class_of_exc {Q : Option Value → Shared → Prop} (C : ExcC K D) (X : K.In s.heap) (I : InstAt s.heap x ox D od) (h : Q (some (.ref D)) { s with toks := s.toks + 1 }) : wpAny (model prog w) A (getAttr? (.ref x) "__class__") Q E s := by
  have hf : findObj K D od "__class__" = some (.bind (.builtin "getset_descriptor.__get__") (.builtin "object.__class__")) := find_desc (by obtain ⟨cd, hc, _⟩ := any_some C.hd; rw [hc]; rfl) C.ha C.hn C.ht
  obtain ⟨hp, g, d, t, os⟩ := s
  have ty := I.type (M := model prog w)
  have find := looks_find (M := model prog w) X I hf
  have sub : Looks (model prog w) hp (isInstance (.ref x) (.type "BaseException")) true := ty.andThen (looks_subIn X C.hs)
  have no1 : (Value.builtin "BaseException.__getattribute__" == Value.builtin "object.__getattribute__") = false := by decide +kernel
  unfold getAttr? getAttrBy? getAttrBy
  refine wpAny_bind (wpAny_mkText (wpAny_bind (wpAny_attempt (wpAny_holding (wpAny_bind (ty.at (wpAny_bind ((looks_findIn (M := model prog w) X C.hg).at ?_))))))))
  show wpAny _ _ (if (onTheHeap (Value.ref D) && Value.builtin "BaseException.__getattribute__" == Value.builtin "object.__getattribute__") = true then _ else _) _ _ _
  rw [no1, Bool.and_false, if_neg Bool.false_ne_true]
  unfold getAttrByItsOwn hookBefore
  refine wpAny_bind ?_
  rw [if_pos (show onTheHeap (Value.ref D) = true from rfl)]
  refine (looks_findIn (M := model prog w) X C.hk).at ?_
  refine wpAny_bind (wpAny_attempt (wpAny_holding ?_))
  unfold callGetattribute
  rw [show (false && onTheHeap (Value.builtin "BaseException.__getattribute__")) = false from rfl, if_neg Bool.false_ne_true]
  unfold boundAndCalled
  rw [PySem.F.excAttr_ValueError.ga.bind (.ref x)]
  refine wpAny_bind (wpAny_pure ?_)
  show wpAny _ _ (call (.builtin "BaseException.__getattribute__") [.ref x, .str "__class__" t]) _ _ _
  refine wpAny_call (codeAny_call_builtin PySem.F.excAttr_ValueError.ga.plain PySem.F.entry_bexc_ga ?_)
  refine @check_slot (model prog w) _ _ ⟨hp, g, d, t + 1, os⟩ "BaseException.__getattribute__" "BaseException" "__getattribute__" (.ref x) [.str "__class__" t] [] _ (by decide +kernel) (by decide +kernel) sub (PySem.F.args_bexc_ga (.ref x) (.str "__class__" t)) ?_
  unfold Builtin.«object.__getattribute__»
  refine wpAny_bind (wpAny_of_eq (a := ((Value.ref x : Value), [Value.str "__class__" t])) (by first | rfl | (simp only [slotArgs]; rfl)) ?_)
  refine wpAny_bind (wpAny_pure (wpAny_bind (ty.at (wpAny_bind (find.at ?_)))))
  show wpAny _ _ (holding [Value.builtin "object.__class__"] (call (.builtin "getset_descriptor.__get__") [.builtin "object.__class__", .ref x, .ref D]) >>= ret) _ _ _
  refine wpAny_bind (wpAny_holding (wpAny_call (class_get (s := ⟨hp, g, d, t + 1, os⟩) (ox := ox) (od := od) X I C.hm ?_)))
  refine wpAny_pure ?_
  show wpAny _ _ (handedOut (.ref D)) _ _ _
  rw [handedOut_of (v := .ref D) rfl]
  first
    | exact wpAny_pure (wpAny_pure h)
    | exact wpAny_pure h
    | exact wpAny_pure (wpAny_bind (wpAny_pure (wpAny_pure h)))
theorem kit_exc (C : ExcC K D) : KitX K (.ref x) (.ref D) (fun h => ∃ od, InstAt h x ox D od) where
  ty := fun _ _ _ ⟨_, I⟩ => I.type
  it := fun _ _ X _ => by
    obtain ⟨cdD, hcD, _⟩ := any_some C.hd
    unfold clsIn at hcD
    split at hcD
    · rename_i c' d' cd' sl' ho
      intro A' Q' E' s' k q
      unfold isType loadHead
      exact wpAny_bind (wpAny_loadPart (k _ _ (X _ _ ho)) (wpAny_pure q))
    · cases hcD
  ne := fun h tp dd its n sl X htp => by
    obtain ⟨cdD, hcD, _⟩ := any_some C.hd
    refine Bool.eq_false_iff.mpr fun q => ?_
    have e : D = tp := Value.ref.inj (beq_iff_eq.mp q)
    subst e
    unfold clsIn at hcD
    split at hcD
    · rename_i c' d' cd' sl' ho
      exact absurd ((X _ _ ho).symm.trans htp) (fun z => nomatch z)
    · cases hcD
  ca := fun X ⟨_, I⟩ k => class_of_exc C X I k
end
section
variable {g : Sg} {X : Cx} {a dd : Addr} {oe : Obj} {pn : List (Addr × Obj)} {y : Exn} {i : Nat} {e : Expr} {pos p p2 : Pos} {n f : Str}
/-- isinstance(e, c) -/
theorem call_isX {D : Addr} {d : Option Addr} {fs : List (Str × V)} (C : ExcC X.K D) (hz : Zc (.ref D) (some dd) oe) (hv : ∃ vs, oe.data = .fields vs) :
    CallR (X.suite a ((a, oe) :: pn)) (.builtin "isinstance") (fun xs H Q => ∃ (c : V) (cv : Value) (b : Bool) (fs : List (Str × V)), xs = [.ref a, c] ∧ (∀ u, RelV c u → u = cv) ∧ H dd = some (.xd fs) ∧ PySem.W.kitOne X.K (.ref D) cv = some b ∧ Q (.bl b) H) := by
  intro pins s σ H xs us Q I r h
  obtain ⟨c, cv, b, fs, rfl, hcv, hd, e, q⟩ := h
  cases r with
  | cons rx rr =>
    cases rr with
    | cons rt rr =>
      cases rr
      cases rx
      have ec := hcv _ rt
      subst ec
      obtain ⟨hget, _⟩ := I.pin (a, oe) (List.mem_append.mpr (.inl List.mem_cons_self))
      obtain ⟨vs, hv⟩ := hv
      have hx : ObjOk X.prog X.w H s.heap dd (.xd fs) := I.hok dd _ hd
      obtain ⟨mA, hns, hr⟩ := hx
      obtain ⟨od, ho, hl⟩ := lookIn_ns hns
      have J : PySem.W.InstAt s.heap a oe D (some od) := ⟨hget, hz.1, by unfold PySem.W.notCls; rw [hv] <;> rfl, by rw [hz.2]; exact ho⟩
      exact PySem.W.kia_one (kit_exc (ox := oe) C) I.kIn ⟨_, J⟩ e (fun z => nomatch z) fun tk => ⟨.bl b, H, I.kept (t' := tk) fun _ _ z => z, rfl, q⟩
def wIsX (cs : Nat → Option Bool) (i : Nat) (y : Exn) (ρ : List Sl) (S : Store) (K : KD) (_ : KX) : Prop := Env.at ρ i = .exc ∧ match cs y.c with | some b => K (.bl b) S | none => False
/-- e.f, its only field -/
def wXf (cs : List Nat) (i : Nat) (y : Exn) (ρ : List Sl) (S : Store) (K : KD) (_ : KX) : Prop := Env.at ρ i = .exc ∧ cs.contains y.c = true ∧ ∃ d, y.fs = [d] ∧ K d S
theorem exf {cs : List Nat} (hfl : cs.contains y.c = true → g.fl y.c = [f] ∧ XfC X.K (g.ad y.c) ∧ PySem.W.findIn X.K (.ref (g.ad y.c)) f = some none) (hz : Zc (.ref (g.ad y.c)) (some dd) oe) (hv : ∃ vs, oe.data = .fields vs) (hn : PE (X.suite a ((a, oe) :: pn)) (.Name n p) (tVar i))
    (hb : attributeBase (.Name n p) f X.env (eval (.Name n p) X.env) = eval (.Name n p) X.env := by rfl) : EV (g.held ⟨i, a, dd, y⟩) (X.suite a ((a, oe) :: pn)) W0 (.Attribute (.Name n p) f pos) (wXf cs i y) := by
  refine ⟨fun pins s σ H Q I h => ?_⟩
  obtain ⟨w, ρ, S, K, ex, A, xo, ko, hi, hcs, d, ed, q⟩ := h
  obtain ⟨ef, T, no⟩ := hfl hcs
  obtain ⟨Y, e1, e2, e3, vs, e4, e5, e6⟩ := A.xc i hi
  cases e1
  have fl' : (g.held ⟨i, a, dd, y⟩).fl y.c = [f] := ef
  rw [ed] at e6
  obtain ⟨v, rfl, rv⟩ := Reps.inv1 e6
  rw [show (g.held ⟨i, a, dd, y⟩).fl y.c = [f] from ef] at e4
  refine (pe_xf T no hz hv hn hb).run pins s σ H Q I ⟨.ref a, e3, rfl, rfl, dd, [(f, v)], v, rfl, A.ih _ _ e4, by simp [List.lookup], ?_⟩
  exact ko d S q v w H (Le.refl w) A rv
/-- isinstance(e, C) -/
theorem exis {cs : Nat → Option Bool} {cE : Expr} {c : V} {cv : Value} (hcs : ∀ b, cs y.c = some b → ExcC X.K (g.ad y.c) ∧ PySem.W.kitOne X.K (.ref (g.ad y.c)) cv = some b) (hcv : ∀ u, RelV c u → u = cv) (hz : Zc (.ref (g.ad y.c)) (some dd) oe) (hv : ∃ vs, oe.data = .fields vs) (hn : PE (X.suite a ((a, oe) :: pn)) (.Name n p) (tVar i))
    (hc : PE (X.suite a ((a, oe) :: pn)) cE (tC c)) (hg : Gl X "isinstance") (hm : X.mg "isinstance" = none) (he : starEach [.Name n p, cE] X.env = (false, eval (.Name n p) X.env) :: starEach [cE] X.env := by rfl) (he2 : starEach [cE] X.env = (false, eval cE X.env) :: starEach [] X.env := by rfl)
    (hpl : (backTo pos (starEach [cE] X.env)).any (·.1) = false := by rfl) : EV (g.held ⟨i, a, dd, y⟩) (X.suite a ((a, oe) :: pn)) W0 (.Call (.Name "isinstance" p2) [.Name n p, cE] [] pos) (wIsX cs i y) := by
  refine ⟨fun pins s σ H Q I h => ?_⟩
  obtain ⟨w, ρ, S, K, ex, A, xo, ko, hi, q⟩ := h
  obtain ⟨Y, e1, e2, e3, vs, e4, e5, e6⟩ := A.xc i hi
  cases e1
  cases hb : cs y.c with
  | none => rw [hb] at q; exact q.elim
  | some b =>
    rw [hb] at q
    obtain ⟨C, hk⟩ := hcs b hb
    refine (pe_callB (call_isX (d := some dd) (fs := []) C hz hv) hg hm boot_isinstance (pa_cons hn (pa_cons hc pa_nil he2) he) (by decide) (by decide) he hpl).run pins s σ H Q I ?_
    refine ⟨.ref a, e3, ?_⟩
    exact ⟨c, cv, b, _, rfl, hcv, A.ih _ _ e4, hk, ko _ S q _ w H (Le.refl w) A (.bl b)⟩
end
/-! ### promises where an error is held -/
theorem spOf_held {g : Sg} {Y : Xs} {n : Nat} {C : Ct} {vs : List V} {H : Hp} {Q : VK} {E : XK} (h : spOf (g.held Y) n C vs H Q E) : spOf g n C vs H Q E := by
  obtain ⟨w, ds, S, K, ex, hn, A, r, ko, xo, q⟩ := h
  exact ⟨w, ds, S, K, ex, hn, A.unheld, r.unheld, fun d S' k v w' H' l A' rr => ko d S' k v w' H' l A'.held rr.held, fun x S' e w' H' cls dd l A' ⟨h1, p, us, h2, h3, h4, h5⟩ => xo x S' e w' H' cls dd l A'.held ⟨h1, p, us, h2, h3, h4, h5.held⟩, q⟩
theorem spOfL_held {g : Sg} {Y : Xs} {n : Nat} {C : CtL} {vs : List V} {H : Hp} {Q : VK} {E : XK} (h : spOfL (g.held Y) n C vs H Q E) : spOfL g n C vs H Q E := by
  obtain ⟨w, ds, S, K, ex, hn, A, r, ko, xo, q⟩ := h
  exact ⟨w, ds, S, K, ex, hn, A.unheld, r.unheld, fun d S' k v us w' H' l A' hH fr rr => ko d S' k v us w' H' l A'.held hH fr rr.held, fun x S' e w' H' cls dd l A' ⟨h1, p, us, h2, h3, h4, h5⟩ => xo x S' e w' H' cls dd l A'.held ⟨h1, p, us, h2, h3, h4, h5.held⟩, q⟩
section
variable {P : Program} {w : World} {mg : Str → Option Value} {base : Heap} {g : Sg} {Y : Xs} {k n c : Nat} {x m : Str}
theorem Cal.held {C : Ct} (F : Cal P w mg base g k x n C) : Cal P w mg base (g.held Y) k x n C := by
  obtain ⟨f, h1, h2, h3⟩ := F.ex
  exact ⟨f, h1, h2, h3.imp fun vs H Q E h => spOf_held h⟩
theorem CalL.held {C : CtL} (F : CalL P w mg base g k x n C) : CalL P w mg base (g.held Y) k x n C := by
  obtain ⟨f, h1, h2, h3⟩ := F.ex
  exact ⟨f, h1, h2, h3.imp fun vs H Q E h => spOfL_held h⟩
theorem Met.held {C : Ct} (F : Met P w mg base g k c m n C) : Met P w mg base (g.held Y) k c m n C := by
  obtain ⟨f, h1, h3⟩ := F.ex
  exact ⟨f, h1, h3.imp fun vs H Q E h => spOf_held h⟩
theorem Prp.held {C : Ct} (F : Prp P w mg base g k c m C) : Prp P w mg base (g.held Y) k c m C := by
  obtain ⟨p, f, h1, h3⟩ := F.ex
  exact ⟨p, f, h1, h3.imp fun vs H Q E h => spOf_held h⟩
theorem Own2.held {C : Ct} (F : Own2 P w mg base g k c m C) : Own2 P w mg base (g.held Y) k c m C := by
  obtain ⟨f, h1, h2, h3⟩ := F.ex
  exact ⟨f, h1, h2, h3.imp fun vs H Q E h => spOf_held h⟩
end
end R3

/-! R3t: repr, str, f-strings of data; texts. -/
namespace R3
open PySem PySem.Spec PyProof.Rows L2
/-! ### what is shown -/
def toPs : D → Option PyData
  | .dic kvs => some (.dict (kvs.map fun p => (.int p.1, .int p.2)))
  | d => toPy d
/-- it can be shown, in at most n signs -/
def Shw (n : Nat) (d : D) : Prop := ∃ p, toPs d = some p ∧ p.showable = true ∧ p.depth ≤ 8 ∧ p.shown.length ≤ n
/-- the text of repr -/
def shw (d : D) : Str := ((toPs d).map PyData.shown).getD Str.empty
theorem Shw.mono {n m : Nat} {d : D} (h : Shw n d) (hm : n ≤ m) : Shw m d := by
  obtain ⟨p, h1, h2, h3, h4⟩ := h
  exact ⟨p, h1, h2, h3, Nat.le_trans h4 hm⟩
section
variable {g : Sg} {X : Cx} {W : WX} {pins : List (Addr × Obj)} {w : Wd} {ρ : List Sl} {S : Store} {σ : L2.St} {H : Hp} {s : Shared}
theorem pairs_reads {h : Heap} {P : Program} {wl : World} : ∀ {kvs : List (Int × Int)} {es : List DictEntry} {vs : List (Key × Value)}, KV (kvs.map fun p => ((Sum.inl p.1 : Key), V.int p.2)) vs → Pairs (mixKind P wl) es vs →
    ReadsAll h (es.map (·.key)) (kvs.map fun p => PyData.int p.1) [] ∧ ReadsAll h (es.map (·.val)) (kvs.map fun p => PyData.int p.2) []
  | [], _, _, .nil, .nil => ⟨.nil, .nil⟩
  | (k, v) :: kvs, _, _, .cons (b := q) ⟨e1, e2⟩ r, .cons (e := e) h1 h2 p => by
    obtain ⟨t, ht⟩ := (show ∃ t, q.2 = Value.int v t from e2)
    obtain ⟨a, b⟩ := pairs_reads r p
    have e1' : (Sum.inl k : Key) = q.1 := e1
    have h1' : keyIs q.1 e.key = true := h1
    rw [← e1'] at h1'
    have hk : ∃ t, e.key = Value.int k t := by
      rcases keyIs_shape h1' with ⟨i, t, ei, ek⟩ | ⟨x, t, ei, ek⟩
      · first | (cases ei; exact ⟨t, ek⟩) | (cases ek; exact ⟨t, ei⟩)
      · first | cases ei | cases ek
    obtain ⟨u, hk⟩ := hk
    exact ⟨.cons (as := []) (bs := []) (by show Reads h e.key (.int k) []; rw [hk]; exact .int k u) a, .cons (as := []) (bs := []) (by show Reads h e.val (.int v) []; rw [h2, ht]; exact .int v t) b⟩
theorem kv_split (kvs : List (Int × Int)) : (kvs.map fun p => (PyData.int p.1, PyData.int p.2)).map (·.1) = kvs.map (fun p => PyData.int p.1) ∧ (kvs.map fun p => (PyData.int p.1, PyData.int p.2)).map (·.2) = kvs.map (fun p => PyData.int p.2) := by
  constructor <;> rw [List.map_map] <;> rfl
mutual
theorem toPy_nd1 : ∀ (d : D) (p : PyData), toPy d = some p → p.hasDict = false
  | .non, _, h => by cases h; rfl
  | .bl _, _, h => by cases h; rfl
  | .int _, _, h => by cases h; rfl
  | .str _, _, h => by cases h; rfl
  | .tup xs, p, h => by
    unfold toPy at h
    cases e : toPys xs with
    | none => rw [e] at h; cases h
    | some ps => rw [e] at h; cases h; exact toPy_nds xs ps e
  | .lst xs, p, h => by
    unfold toPy at h
    cases e : toPys xs with
    | none => rw [e] at h; cases h
    | some ps => rw [e] at h; cases h; exact toPy_nds xs ps e
  | .ty _, _, h => by cases h
  | .obj _ _, _, h => by cases h
  | .ref _, _, h => by cases h
  | .scr _, _, h => by cases h
  | .dic _, _, h => by cases h
theorem toPy_nds : ∀ (ds : List D) (ps : List PyData), toPys ds = some ps → PyData.hasDictAll ps = false
  | [], _, h => by cases h; rfl
  | d :: ds, ps, h => by
    unfold toPys at h
    cases e1 : toPy d with
    | none => rw [e1] at h; cases h
    | some x =>
      cases e2 : toPys ds with
      | none => rw [e1, e2] at h; cases h
      | some xs =>
        rw [e1, e2] at h
        cases h
        show (x.hasDict || PyData.hasDictAll xs) = false
        rw [toPy_nd1 d x e1, toPy_nds ds xs e2]
        rfl
end
theorem toPy_nd {d : D} {p : PyData} (h : toPy d = some p) : p.hasDict = false := toPy_nd1 d p h
theorem toPs_str : ∀ {d : D} {x : Str}, toPs d = some (.str x) → d = .str x
  | .str y, x, h => by cases h; rfl
  | .tup xs, x, h => by simp only [toPs, toPy] at h; cases e : toPys xs <;> rw [e] at h <;> cases h
  | .lst xs, x, h => by simp only [toPs, toPy] at h; cases e : toPys xs <;> rw [e] at h <;> cases h
  | .non, x, h => by cases h
  | .bl _, x, h => by cases h
  | .int _, x, h => by cases h
  | .ty _, x, h => by cases h
  | .obj _ _, x, h => by cases h
  | .ref _, x, h => by cases h
  | .scr _, x, h => by cases h
  | .dic _, x, h => by cases h
theorem reads_of {v : V} {d : D} {p : PyData} {u : Value} (A : At g w ρ S σ H) (I : Inv X pins σ H s) (hK : g.K = X.K) (r : Rep g w v d) (h : toPs d = some p) (ru : RelV v u) : ∃ as, Reads s.heap u p as ∧ (p.hasDict = true → sysModules ∉ as) := by
  have gen : toPy d = some p → ∃ as, Reads s.heap u p as ∧ (p.hasDict = true → sysModules ∉ as) := fun h => by
    have dp := dp_of A r h
    rw [hK] at dp
    obtain ⟨as, q⟩ := Dp.reads I p v u dp ru
    exact ⟨as, q, fun z => by rw [toPy_nd h] at z; cases z⟩
  cases r with
  | @dic a kvs hi =>
    cases h
    obtain rfl : u = Value.ref a := ru
    have hx : ObjOk X.prog X.w H s.heap a (.dK (kvs.map fun p => ((Sum.inl p.1 : Key), V.int p.2))) := I.hok a _ (A.ih _ _ hi)
    obtain ⟨_, hsys, vs, kv, o, es, ep, ho, ex, hd, _, pr, _⟩ := hx
    obtain ⟨r1, r2⟩ := pairs_reads (h := s.heap) kv pr
    obtain ⟨e1, e2⟩ := kv_split kvs
    refine ⟨[a], ?_, fun _ hm => ?_⟩
    · have := Reads.dict (kvs := kvs.map fun p => (PyData.int p.1, PyData.int p.2)) (as := []) (bs := []) ho ex.1 hd (by rw [e1]; exact r1) (by rw [e2]; exact r2)
      exact this
    · rw [List.mem_singleton] at hm
      rw [← hm] at hsys
      simp at hsys
  | _ => exact gen h
/-- repr(x) -/
def rReprD (ds : List D) (S : Store) (K : KD) : Prop := match ds with
  | [d] => Shw 1000000 d ∧ K (.str (shw d)) S
  | _ => False
theorem crepr (hK : g.K = X.K) (hun : X.A.units + 64 < cLine) (hgd : X.A.guards = some []) : CallD g X (.builtin "repr") rReprD := fun pins s σ H w ρ S ds vs us K Q I rv A rr ko q => by
  unfold rReprD at q
  split at q
  · rename_i d
    obtain ⟨⟨p, h1, h2, h3, h4⟩, q⟩ := q
    obtain ⟨v, rfl, rd⟩ := rr.inv1
    obtain ⟨u, rfl, ru⟩ := vals1 rv
    have hs : shw d = p.shown := by unfold shw; rw [h1]; rfl
    rw [hs] at q
    obtain ⟨as, rds, hsm⟩ := reads_of A I hK rd h1 ru
    have hz : p.shown.length ≤ sizeLine := Nat.le_trans h4 (by decide)
    cases rds with
    | none => exact PySem.P.repr_of_none ⟨.str _, H, I.tok _, ⟨_, rfl⟩, ko _ _ q _ w H (Le.refl w) A (.str _)⟩
    | bool b => exact PySem.P.repr_of_bool ⟨.str _, H, I.tok _, ⟨_, rfl⟩, ko _ _ q _ w H (Le.refl w) A (.str _)⟩
    | int i t => exact PySem.P.repr_of_int (of_decide_eq_true h2) ⟨.str _, H, I.tok _, ⟨_, rfl⟩, ko _ _ q _ w H (Le.refl w) A (.str _)⟩
    | str x t => exact PySem.P.repr_of_str ⟨.str _, H, I.tok _, ⟨_, rfl⟩, ko _ _ q _ w H (Le.refl w) A (.str _)⟩ hz
    | list a1 a2 a3 a4 => exact repr_of_reads' (Reads.list a1 a2 a3 a4) h2 hsm hgd (by omega) (fun _ _ z => z) (fun h' u tk hk => ⟨.str _, H, I.kept hk, ⟨_, rfl⟩, ko _ _ q _ w H (Le.refl w) A (.str _)⟩) hz
    | tuple a1 a2 a3 a4 => exact repr_of_reads' (Reads.tuple a1 a2 a3 a4) h2 hsm hgd (by omega) (fun _ _ z => z) (fun h' u tk hk => ⟨.str _, H, I.kept hk, ⟨_, rfl⟩, ko _ _ q _ w H (Le.refl w) A (.str _)⟩) hz
    | dict a1 a2 a3 a4 a5 => exact repr_of_reads' (Reads.dict a1 a2 a3 a4 a5) h2 hsm hgd (by omega) (fun _ _ z => z) (fun h' u tk hk => ⟨.str _, H, I.kept hk, ⟨_, rfl⟩, ko _ _ q _ w H (Le.refl w) A (.str _)⟩) hz
  · exact q.elim
/-- str(x), {x} -/
def stw : D → Str
  | .str x => x
  | d => shw d
def Stw (n : Nat) : D → Prop
  | .str x => x.length ≤ n
  | d => Shw n d
def rStrD (ds : List D) (S : Store) (K : KD) : Prop := match ds with
  | [d] => Stw 1000000 d ∧ K (.str (stw d)) S
  | _ => False
theorem cstr1 (hK : g.K = X.K) (hun : X.A.units + 64 < cLine) (hgd : X.A.guards = some []) : CallD g X (.type "str") rStrD := fun pins s σ H w ρ S ds vs us K Q I rv A rr ko q => by
  unfold rStrD at q
  split at q
  · rename_i d
    obtain ⟨v, rfl, rd⟩ := rr.inv1
    obtain ⟨u, rfl, ru⟩ := vals1 rv
    have gen : (∀ x, d ≠ .str x) → Shw 1000000 d → K (.str (shw d)) S → wpAny (model X.prog X.w) X.A (call (.type "str") [u]) (EP X pins σ Q) X.xe s := fun ns ⟨p, h1, h2, h3, h4⟩ q => by
      have hs : shw d = p.shown := by unfold shw; rw [h1]; rfl
      rw [hs] at q
      obtain ⟨as, rds, hsm⟩ := reads_of A I hK rd h1 ru
      have hz : p.shown.length ≤ sizeLine := Nat.le_trans h4 (by decide)
      cases rds with
      | none => exact PySem.P.str_of_none ⟨.str _, H, I.tok _, ⟨_, rfl⟩, ko _ _ q _ w H (Le.refl w) A (.str _)⟩
      | bool b => exact PySem.P.str_of_bool ⟨.str _, H, I.tok _, ⟨_, rfl⟩, ko _ _ q _ w H (Le.refl w) A (.str _)⟩
      | int i t => exact PySem.P.str_of_int (of_decide_eq_true h2) ⟨.str _, H, I.tok _, ⟨_, rfl⟩, ko _ _ q _ w H (Le.refl w) A (.str _)⟩
      | str x t =>
        exact absurd (toPs_str h1) (ns _)
      | list a1 a2 a3 a4 => exact str_of_reads (Reads.list a1 a2 a3 a4) h2 hsm hgd (by omega) (fun _ _ z => z) (fun h' u tk hk => ⟨.str _, H, I.kept hk, ⟨_, rfl⟩, ko _ _ q _ w H (Le.refl w) A (.str _)⟩) hz
      | tuple a1 a2 a3 a4 => exact str_of_reads (Reads.tuple a1 a2 a3 a4) h2 hsm hgd (by omega) (fun _ _ z => z) (fun h' u tk hk => ⟨.str _, H, I.kept hk, ⟨_, rfl⟩, ko _ _ q _ w H (Le.refl w) A (.str _)⟩) hz
      | dict a1 a2 a3 a4 a5 => exact str_of_reads (Reads.dict a1 a2 a3 a4 a5) h2 hsm hgd (by omega) (fun _ _ z => z) (fun h' u tk hk => ⟨.str _, H, I.kept hk, ⟨_, rfl⟩, ko _ _ q _ w H (Le.refl w) A (.str _)⟩) hz
    cases d with
    | str x =>
      have ev := rep_str rd
      subst ev
      obtain ⟨t, rfl⟩ := ru
      exact PySem.P.str_of_str ⟨.str x, H, I, ⟨t, rfl⟩, ko _ _ q.2 _ w H (Le.refl w) A (.str _)⟩
    | _ => exact gen (fun _ z => nomatch z) q.1 q.2
  · exact q.elim
end
/-! ### f-strings -/
section
variable {g : Sg} {X : Cx} {W : WX} {e a b : Expr} {es : List Expr} {fe fa fb : FE} {pos : Pos}
def wFmt (f : FE) (ρ : List Sl) (S : Store) (K : KD) (ex : KX) : Prop := f ρ S (fun d S1 => Stw 1000000 d ∧ K (.str (stw d)) S1) ex
theorem efmt (hK : g.K = X.K) (hun : X.A.units + 64 < cLine) (hgd : X.A.guards = some []) (he : EV g X W e fe) : EV g X W (.FormattedValue e (-1) none pos) (wFmt fe) := by
  refine ⟨fun pins s σ H Q I h => ?_⟩
  obtain ⟨w, ρ, S, K, ex, A, xo, ko, q⟩ := h
  refine wpAny_FormattedValue_plain (thn (he.run pins s σ H (fun v H1 => ∃ d w1 S1, Le w w1 ∧ At g w1 ρ S1 σ H1 ∧ Rep g w1 v d ∧ Stw 1000000 d ∧ K (.str (stw d)) S1) I ⟨w, ρ, S, _, ex, A, xo, fun d S1 q1 v w1 H1 l1 A1 r1 => ⟨d, w1, S1, l1, A1, r1, q1.1, q1.2⟩, q⟩) fun u s1 hv => ?_)
  obtain ⟨v, H1, I1, ru, d, w1, S1, l1, A1, rd, hz0, q⟩ := hv
  have gen : (∀ x, d ≠ .str x) → Shw 1000000 d → K (.str (shw d)) S1 → wpAny (model X.prog X.w) X.A (formatField u Str.empty) (EP X pins σ Q) X.xe s1 := fun ns ⟨p, h1, h2, h3, h4⟩ q => by
    have hs : shw d = p.shown := by unfold shw; rw [h1]; rfl
    rw [hs] at q
    obtain ⟨as, rds, hsm⟩ := reads_of A1 I1 hK rd h1 ru
    have hz : p.shown.length ≤ sizeLine := Nat.le_trans h4 (by decide)
    have fin : ∀ {h' : Heap} {u : Tok} {tk : Nat}, (∀ b o, s1.heap.get? b = some o → h'.get? b = some o) → EP X pins σ Q (.str p.shown u) { s1 with heap := h', toks := tk } := fun hk => ⟨.str _, H1, I1.kept hk, ⟨_, rfl⟩, ko _ _ q _ w1 H1 l1 A1 (.str _)⟩
    cases rds with
    | none => exact wpAny_formatField_none (fin fun _ _ z => z)
    | bool b => exact wpAny_formatField_bool (fin fun _ _ z => z)
    | int i t => exact wpAny_formatField_int (of_decide_eq_true h2) (fin fun _ _ z => z)
    | str x t =>
      exact absurd (toPs_str h1) (ns _)
    | list a1 a2 a3 a4 => exact formatField_of_reads (Reads.list a1 a2 a3 a4) h2 hsm hgd (by omega) (fun _ _ z => z) (fun h' u tk hk => fin hk) hz
    | tuple a1 a2 a3 a4 => exact formatField_of_reads (Reads.tuple a1 a2 a3 a4) h2 hsm hgd (by omega) (fun _ _ z => z) (fun h' u tk hk => fin hk) hz
    | dict a1 a2 a3 a4 a5 => exact formatField_of_reads (Reads.dict a1 a2 a3 a4 a5) h2 hsm hgd (by omega) (fun _ _ z => z) (fun h' u tk hk => fin hk) hz
  cases d with
  | str x =>
    have ev := rep_str rd
    subst ev
    obtain ⟨t, rfl⟩ := ru
    exact wpAny_formatField_str ⟨.str x, H1, I1, ⟨t, rfl⟩, ko _ _ q _ w1 H1 l1 A1 (.str _)⟩ ⟨.str x, H1, I1.tok _, ⟨_, rfl⟩, ko _ _ q _ w1 H1 l1 A1 (.str _)⟩ (Nat.le_trans (show x.length ≤ 1000000 from hz0) (by decide))
  | _ => exact gen (fun _ z => nomatch z) hz0 q
/-- the parts -/
inductive EJ (g : Sg) (X : Cx) (W : WX) : List Expr → List FE → Prop where
  | nil : EJ g X W [] []
  | cons {e : Expr} {f : FE} {es : List Expr} {fs : List FE} (h : EV g X W e f) (r : EJ g X W es fs) : EJ g X W (e :: es) (f :: fs)
def wJs : List FE → Str → List Sl → Store → KD → KX → Prop
  | [], acc, _, S, K, _ => K (.str acc) S
  | f :: fs, acc, ρ, S, K, ex => f ρ S (fun x S1 => match x with
    | .str y => (acc ++ y).length ≤ 10000000 ∧ wJs fs (acc ++ y) ρ S1 K ex
    | _ => False) ex
theorem ej_run {fs : List FE} {σ : L2.St} {ρ : List Sl} {K : KD} {ex : KX} {Q : VK} : ∀ {es : List Expr} {fs : List FE}, EJ g X W es fs → ∃ ts, PJ X es ts ∧ ∀ (acc : Str) (w : Wd) (S : Store) (H : Hp), At g w ρ S σ H → XOk g W σ ρ w ex → KOk g w ρ σ K Q → wJs fs acc ρ S K ex → tJs ts acc σ H fun out H1 => Q (.str out) H1
  | _, _, .nil => ⟨[], .nil, fun acc w S H A xo ko q => ko _ S q _ w H (Le.refl w) A (.str _)⟩
  | _, _, .cons (f := f) h r => by
    obtain ⟨ts, pj, hq⟩ := ej_run (fs := fs) (σ := σ) (ρ := ρ) (K := K) (ex := ex) (Q := Q) r
    refine ⟨rdE g W f :: ts, .cons h pj, fun acc w S H A xo ko q => ⟨w, ρ, S, _, ex, A, xo, fun x S1 q1 v w1 H1 l1 A1 r1 => ?_, q⟩⟩
    cases x with
    | str y => exact ⟨y, rep_str r1, Nat.le_trans q1.1 (by decide), hq _ w1 S1 H1 A1 (xo.later l1) (ko.later l1) q1.2⟩
    | _ => exact q1.elim
theorem ejoin {v1 v2 : Expr} {rest : List Expr} {fs : List FE} (h : EJ g X W (v1 :: v2 :: rest) fs) : EV g X W (.JoinedStr (v1 :: v2 :: rest) pos) (wJs fs Str.empty) := by
  refine ⟨fun pins s σ H Q I hh => ?_⟩
  obtain ⟨w, ρ, S, K, ex, A, xo, ko, q⟩ := hh
  obtain ⟨ts, pj, hq⟩ := ej_run (fs := fs) (σ := σ) (ρ := ρ) (K := K) (ex := ex) (Q := Q) h
  exact (pe_joined pj).run pins s σ H Q I (hq _ w S H A xo ko q)
theorem ejoin1 (h : EV g X W e fe) : EV g X W (.JoinedStr [e] pos) fe := PE.imp (pe_joined1 h) fun _ _ _ q => q
/-! ### + of texts, lists, tuples, ints -/
def rAddS (x y : D) (S : Store) (K : KD) : Prop := match x, y with
  | .str i, .str j => i.length + j.length ≤ 10000000 ∧ K (.str (i ++ j)) S
  | _, _ => False
theorem sadd : OpD g X (binaryOp .Add) rAddS := OpD.of op_add_str fun σ H w ρ S x y vx vy K Q A rx ry ko q => by
  unfold rAddS at q
  split at q
  · cases rx
    cases ry
    exact ⟨_, _, rfl, rfl, Nat.le_trans q.1 (by decide), ko _ _ q.2 _ w H (Le.refl w) A (.str _)⟩
  · exact q.elim
/-! ### {} -/
def wDic0 (_ : List Sl) (S : Store) (K : KD) (_ : KX) : Prop := K (.dic []) S
theorem edic0 : EV g X W (.Dict [] [] pos) wDic0 := PE.imp pe_dnewK fun σ H Q ⟨w, ρ, S, K, ex, A, xo, ko, q⟩ => fun p hp =>
  ko _ S q _ (w.add p (.dK [])) _ (le_add A.if_ (A.free hp)) (A.lay hp) (.dic (kvs := []) upd_same)
end
end R3

/-! R3u: operators, len, repr, str, truth, abs, minus by methods of our own. -/
namespace R3
open PySem PySem.Spec PyProof.Rows L2
/-- a special method -/
structure OwnN (P : Program) (w : World) (mg : Str → Option Value) (base : Heap) (g : Sg) (k : Nat) (c : Nat) (m : Str) (n : Nat) (C : Ct) : Prop where
  ex : ∃ f, PySem.W.findIn g.K (.ref (g.ad c)) m = some (some (.ref f)) ∧ PySem.W.isFn g.K (.ref f) = true ∧ FnR P w g.K mg base (L2.CX P w) k f (spOf g n C)
theorem Own2.toN {P : Program} {w : World} {mg : Str → Option Value} {base : Heap} {g : Sg} {k c : Nat} {m : Str} {C : Ct} (F : Own2 P w mg base g k c m C) : OwnN P w mg base g k c m 2 C := ⟨F.ex⟩
theorem OwnN.to2 {P : Program} {w : World} {mg : Str → Option Value} {base : Heap} {g : Sg} {k c : Nat} {m : Str} {C : Ct} (F : OwnN P w mg base g k c m 2 C) : Own2 P w mg base g k c m C := ⟨F.ex⟩
/-! ### operators that may raise -/
abbrev RX := D → D → Store → KD → KX → Prop
def OpX (g : Sg) (X : Cx) (W : WX) (sem : Value → Value → Sem Value) (r : RX) : Prop :=
  ∀ (pins : List (Addr × Obj)) (s : Shared) (σ : L2.St) (H : Hp) (w : Wd) (ρ : List Sl) (S : Store) (x y : D) (vx vy : V) (u v : Value) (K : KD) (ex : KX) (Q : VK), Inv X pins σ H s → RelV vx u → RelV vy v → At g w ρ S σ H → Rep g w vx x → Rep g w vy y →
    XOk g W σ ρ w ex → KOk g w ρ σ K Q → r x y S K ex → wpAny (model X.prog X.w) X.A (sem u v) (EP X pins σ Q) X.xe s
section
variable {g : Sg} {X : Cx} {W : WX} {a b c e : Expr} {pos : Pos} {fa fb fe : FE}
theorem OpX.of {sem : Value → Value → Sem Value} {r : RD} (h : OpD g X sem r) : OpX g X W sem (fun x y S K _ => r x y S K) := fun pins s σ H w ρ S x y vx vy u v K ex Q I ru rv A rx ry _ ko q => h pins s σ H w ρ S x y vx vy u v K Q I ru rv A rx ry ko q
theorem OpX.or {sem : Value → Value → Sem Value} {r r' : RX} (h : OpX g X W sem r) (h' : OpX g X W sem r') : OpX g X W sem (fun x y S K ex => r x y S K ex ∨ r' x y S K ex) :=
  fun pins s σ H w ρ S x y vx vy u v K ex Q I ru rv A rx ry xo ko q => q.elim (h pins s σ H w ρ S x y vx vy u v K ex Q I ru rv A rx ry xo ko) (h' pins s σ H w ρ S x y vx vy u v K ex Q I ru rv A rx ry xo ko)
def wOpX (r : RX) (fa fb : FE) (ρ : List Sl) (S : Store) (K : KD) (ex : KX) : Prop := fa ρ S (fun x S1 => fb ρ S1 (fun y S2 => r x y S2 K ex) ex) ex
theorem bopX {op : Operator} {r : RX} (ho : OpX g X W (binaryOp op) r) (ha : EV g X W a fa) (hb : EV g X W b fb) : EV g X W (.BinOp a op b pos) (wOpX r fa fb) := by
  refine ⟨fun pins s σ H Q I h => ?_⟩
  obtain ⟨w, ρ, S, K, ex, A, xo, ko, q⟩ := h
  exact wpAny_BinOp (bin2 ha hb (R := fun x y S2 => r x y S2 K ex) I A xo q fun v u s2 vx vy x y H2 w2 S2 I2 ru rv l2 A2 rx ry q2 => ho pins s2 σ H2 w2 ρ S2 x y vx vy v u K ex Q I2 ru rv A2 rx ry (xo.later l2) (ko.later l2) q2)
theorem cmpX {op : CmpOp} {r : RX} (ho : OpX g X W (compareOp op) r) (ha : EV g X W a fa) (hb : EV g X W b fb) (hm : behindInMarks op b = false := by first | exact nomark _ | rfl) : EV g X W (.Compare a [op] [b] pos) (wOpX r fa fb) := by
  refine ⟨fun pins s σ H Q I h => ?_⟩
  obtain ⟨w, ρ, S, K, ex, A, xo, ko, q⟩ := h
  exact wpAny_Compare1 (bin2 ha hb (R := fun x y S2 => r x y S2 K ex) I A xo q fun v u s2 vx vy x y H2 w2 S2 I2 ru rv l2 A2 rx ry q2 => ho pins s2 σ H2 w2 ρ S2 x y vx vy v u K ex Q I2 ru rv A2 rx ry (xo.later l2) (ko.later l2) q2) hm
theorem tcmpX {op : CmpOp} {r : RX} (ho : OpX g X W (compareOp op) r) (ha : EV g X W a fa) (hb : EV g X W b fb) (hm : behindInMarks op b = false := by first | exact nomark _ | rfl) : ET g X W (.Compare a [op] [b] pos) (wTst (wOpX r fa fb)) := by
  refine ⟨fun pins s σ H Q I h => ?_⟩
  obtain ⟨w, ρ, S, K, ex, A, xo, ko, q⟩ := h
  refine wpAny_isTrue_Compare1 (bin2 ha hb (R := fun x y S2 => r x y S2 (fun x S1 => match x with | .bl k => K k S1 | _ => False) ex) I A xo q fun v u s2 vx vy x y H2 w2 S2 I2 ru rv l2 A2 rx ry q2 => ?_) hm
  refine thn (ho pins s2 σ H2 w2 ρ S2 x y vx vy v u _ ex (fun z H' => ∃ c, z = .bl c ∧ Q c H') I2 ru rv A2 rx ry (xo.later l2) (fun d S' q3 v3 w3 H3 l3 A3 r3 => ?_) q2) fun z s3 q3 => ?_
  · cases d with
    | bl k => exact ⟨k, rep_bl r3, ko k S' q3 w3 H3 (l2.trans l3) A3⟩
    | _ => exact q3.elim
  · obtain ⟨zv, H3, I3, r3, c, rfl, q3⟩ := q3
    cases r3
    exact wpAny_truthy_bool ⟨H3, I3, q3⟩
/-! ### by methods -/
theorem inst_of {pins : List (Addr × Obj)} {s : Shared} {σ : L2.St} {H : Hp} {w : Wd} {ρ : List Sl} {S : Store} {c : Nat} {v : V} {d : D} {ds : List D} {u : Value} (I : Inv X pins σ H s) (A : At g w ρ S σ H) (r : Rep g w v d) (h : insOf c S d = some ds) (ru : RelV v u) :
    ∃ p ox od, u = .ref p ∧ v = .ref p ∧ PySem.W.InstAt s.heap p ox (g.ad c) (some od) := by
  obtain ⟨p, dx, vs, rfl, e1, hl, rr⟩ := ins_at A r h
  obtain rfl : u = Value.ref p := ru
  obtain ⟨_, O, _, _, _, _⟩ := ins_get I.hok e1
  obtain ⟨od, J, _⟩ := O.look
  exact ⟨p, _, od, rfl, rfl, J⟩
/-- what may stand at the right -/
def rightD (c : Nat) : D → Bool
  | .obj c' _ => c' == c
  | .ty _ => false
  | .ref _ => false
  | _ => true
def fRight (x : Str) (K : Fr) : Bool := fIsi x K && tyNames.all fun t => decide (PySem.W.subIn K (.type t) (.ref (He.ga K x)) = some false)
theorem right_ok {pins : List (Addr × Obj)} {s : Shared} {σ : L2.St} {H : Hp} {w : Wd} {ρ : List Sl} {S : Store} {c : Nat} {x : Str} {v : V} {d : D} {u : Value} (hK : g.K = X.K) (hx : g.ad c = He.ga X.K x) (hf : fRight x X.K = true) (I : Inv X pins σ H s) (A : At g w ρ S σ H) (r : Rep g w v d) (ru : RelV v u) (h : rightD c d = true) :
    ∃ tb, PySem.W.Looks (model X.prog X.w) s.heap (typeOf u) tb ∧ PySem.W.notFirst X.K (g.ad c) tb = true := by
  obtain ⟨f1, f2⟩ := Bool.and_eq_true_iff.mp hf
  have ft : ∀ t ∈ tyNames, PySem.W.subIn X.K (.type t) (.ref (g.ad c)) = some false := fun t m => by rw [hx]; exact of_decide_eq_true (List.all_eq_true.mp f2 t m)
  have go : ∀ t, TyX X.K H v t → (t = .ref (g.ad c) ∨ ∃ n ∈ tyNames, t = .type n) → ∃ tb, PySem.W.Looks (model X.prog X.w) s.heap (typeOf u) tb ∧ PySem.W.notFirst X.K (g.ad c) tb = true := fun t ty ht => by
    obtain ⟨P, kx, hp, _⟩ := kit_of I ru ty
    refine ⟨t, kx.ty _ _ I.kIn hp, ?_⟩
    rcases ht with rfl | ⟨n, m, rfl⟩
    · simp [PySem.W.notFirst]
    · simp [PySem.W.notFirst, ft n m]
  have tyx : ∀ t, tyD g d = some t → TyX X.K H v t := fun t ht => by
    rw [← hK]
    refine tyX_of A r ht fun c' ds e => ?_
    subst e
    have ec : c' = c := beq_iff_eq.mp h
    rw [ec, hx, hK]
    exact fIsi_ok f1
  cases d with
  | non => exact go _ (tyx _ rfl) (.inr ⟨_, by simp, rfl⟩)
  | bl _ => exact go _ (tyx _ rfl) (.inr ⟨_, by simp, rfl⟩)
  | int _ => exact go _ (tyx _ rfl) (.inr ⟨_, by simp, rfl⟩)
  | str _ => exact go _ (tyx _ rfl) (.inr ⟨_, by simp, rfl⟩)
  | tup _ => exact go _ (tyx _ rfl) (.inr ⟨_, by simp, rfl⟩)
  | lst _ => exact go _ (tyx _ rfl) (.inr ⟨_, by simp, rfl⟩)
  | scr _ => exact go _ (tyx _ rfl) (.inr ⟨_, by simp, rfl⟩)
  | dic _ => exact go _ (tyx _ rfl) (.inr ⟨_, by simp, rfl⟩)
  | obj c' ds => exact go _ (tyx _ rfl) (.inl (by rw [show c' = c from beq_iff_eq.mp h]))
  | ty _ => cases h
  | ref _ => cases h
def rOwnX (c : Nat) (C : Ct) (x y : D) (S : Store) (K : KD) (ex : KX) : Prop := (∃ ds, insOf c S x = some ds) ∧ rightD c y = true ∧ C [x, y] S K ex
/-- a < b, a == b, .. by a's method -/
theorem cmp_ownX {op : CmpOp} {k j c : Nat} {C : Ct} {x : Str} (hop : ∀ a b, compareOp op a b = richCompare op a b) (F : OwnN X.prog X.w X.mg X.base g k c (cmpInfo op).2.1 2 C) (hx : g.ad c = He.ga X.K x) (hf : fRight x X.K = true) (hK : g.K = X.K) (hr : Room j X.A) (hk : k ≤ j) (tk : Takes X W) : OpX g X W (compareOp op) (rOwnX c C) := by
  intro pins s σ H w ρ S x y vx vy u v K ex Q I ru rv A rx ry xo ko q
  obtain ⟨⟨ds, hi⟩, hy, q⟩ := q
  obtain ⟨fn, hs, hfn, F⟩ := F.ex
  rw [hK] at hs hfn F
  obtain ⟨p, ox, od, rfl, rfl, J⟩ := inst_of I A rx hi ru
  obtain ⟨tb, lk, nf⟩ := right_ok hK hx hf I A ry rv hy
  obtain ⟨m, hF⟩ := I.fr
  rw [hop]
  refine PySem.W.cmp_K (op := op) (tb := tb) hr.units0 hF I.ok.mod.kin J lk nf hs hfn ?_
  refine wpAny_mono (wpAny_call (run_ct (W := W) (us := [.ref p, v]) (vs := [.ref p, vy]) F (hr.mono hk) I.env0 tk I (.cons rfl (.cons rv .nil)) A (.cons rx (.one ry)) rfl xo ko q)) (fun z s' h => ?_) fun _ _ x => x
  obtain ⟨z', H', I', rz, qz⟩ := h
  exact SlX.cmpback rz ⟨z', H', I', rz, qz⟩
/-- a + b, .. by a's method: b of the same class, or an int -/
def rOwnB (c : Nat) (C : Ct) (x y : D) (S : Store) (K : KD) (ex : KX) : Prop := (∃ ds, insOf c S x = some ds) ∧ ((∃ es, y = .obj c es) ∨ ∃ i, y = .int i) ∧ C [x, y] S K ex
def fOpI (x : Str) (op : Operator) (K : Fr) : Bool := PySem.W.selfFirst K (He.ga K x) && (decide (PySem.W.subIn K (.type "int") (.ref (He.ga K x)) = some false) && ((match PySem.W.findIn K (.type "int") (PySem.dunder op.info.2) with | some _ => true | none => false) &&
  ((match PySem.W.findIn K (.type "int") (dunderR op.info.2) with | some _ => true | none => false) && (match PySem.W.findIn K (.ref (He.ga K x)) (dunderR op.info.2) with | some none => true | some (some (.ref _)) => true | _ => false))))
theorem bin_own {op : Operator} {k j c : Nat} {C : Ct} {x : Str} (F : OwnN X.prog X.w X.mg X.base g k c (PySem.dunder op.info.2) 2 C) (hx : g.ad c = He.ga X.K x) (hf : fOpI x op X.K = true) (hK : g.K = X.K) (hr : Room j X.A) (hk : k ≤ j) (tk : Takes X W) : OpX g X W (binaryOp op) (rOwnB c C) := by
  intro pins s σ H w ρ S x y vx vy u v K ex Q I ru rv A rx ry xo ko q
  obtain ⟨⟨ds, hi⟩, hy, q⟩ := q
  obtain ⟨fn, hs, hfn, F⟩ := F.ex
  rw [hK] at hs hfn F
  obtain ⟨p, ox, od, rfl, rfl, J⟩ := inst_of I A rx hi ru
  obtain ⟨m, hF⟩ := I.fr
  obtain ⟨f1, f2⟩ := Bool.and_eq_true_iff.mp hf
  obtain ⟨f2, f3⟩ := Bool.and_eq_true_iff.mp f2
  obtain ⟨f3, f4⟩ := Bool.and_eq_true_iff.mp f3
  obtain ⟨f4, f5⟩ := Bool.and_eq_true_iff.mp f4
  rw [← hx] at f1 f2 f5
  have call : wpAny (model X.prog X.w) X.A (call (.ref fn) [.ref p, v]) (PySem.W.CmpBack (EP X pins σ Q)) X.xe s := by
    refine wpAny_mono (wpAny_call (run_ct (W := W) (us := [.ref p, v]) (vs := [.ref p, vy]) F (hr.mono hk) I.env0 tk I (.cons rfl (.cons rv .nil)) A (.cons rx (.one ry)) rfl xo ko q)) (fun z s' h => ?_) fun _ _ x => x
    obtain ⟨z', H', I', rz, qz⟩ := h
    exact SlX.cmpback rz ⟨z', H', I', rz, qz⟩
  rcases hy with ⟨es, rfl⟩ | ⟨i, rfl⟩
  · obtain ⟨p2, ox2, od2, rfl, rfl, J2⟩ := inst_of (c := c) (ds := es) I A ry (by unfold insOf; simp) rv
    exact PySem.W.binop_K hF I.ok.mod.kin J J2.type f1 hs hfn call
  · obtain rfl := rep_int ry
    obtain ⟨t, rfl⟩ := rv
    have h1 : ∃ fo, PySem.W.findIn X.K (.type "int") (PySem.dunder op.info.2) = some fo := by
      split at f3
      · exact ⟨_, by assumption⟩
      · cases f3
    have h2 : ∃ fo, PySem.W.findIn X.K (.type "int") (dunderR op.info.2) = some fo := by
      split at f4
      · exact ⟨_, by assumption⟩
      · cases f4
    have h3 : ∃ rc, PySem.W.findIn X.K (.ref (g.ad c)) (dunderR op.info.2) = some rc ∧ (rc = none ∨ ∃ g : Addr, rc = some (.ref g)) := by
      split at f5
      · exact ⟨_, by assumption, .inl rfl⟩
      · exact ⟨_, by assumption, .inr ⟨_, rfl⟩⟩
      · cases f5
    obtain ⟨fo, h1⟩ := h1
    obtain ⟨ro, h2⟩ := h2
    obtain ⟨rc, h3, hp⟩ := h3
    exact PySem.W.ksp_binT (T := "int") hF I.ok.mod.kin J rfl f1 hs hfn h3 hp h1 h2 (of_decide_eq_true f2) call
/-! ### len(o), repr(o), str(o), abs(o), -o, truth -/
def ownK (c : Nat) (C : Ct) (P : D → Option D) (K : KD) (ex : KX) (ds : List D) (S : Store) : Prop := match ds with
  | [x] => (∃ es, insOf c S x = some es) ∧ C [x] S (fun d S2 => ∃ z, P d = some z ∧ K z S2) ex
  | _ => False
def wOwn1 (c : Nat) (C : Ct) (P : D → Option D) (f : FA) (ρ : List Sl) (S : Store) (K : KD) (ex : KX) : Prop := f ρ S (ownK c C P K ex) ex
def bkInt : D → Option D
  | .int n => if 0 ≤ n ∧ n < 2 ^ 62 then some (.int n) else none
  | _ => none
def bkStr : D → Option D
  | .str x => some (.str x)
  | _ => none
def bkAny : D → Option D := some
theorem run1 {A0 : Around} {pins : List (Addr × Obj)} {s : Shared} {σ : L2.St} {H : Hp} {w : Wd} {ρ : List Sl} {S : Store} {k : Nat} {C : Ct} {fn p : Addr} {x : D} {K : KD} {ex : KX} {Q : VK} (F : FnR X.prog X.w X.K X.mg X.base (L2.CX X.prog X.w) k fn (spOf g 1 C)) (hr : Room k A0) (e0 : Env0 X.prog X.w X.K X.mg X.base A0 X.stack s H) (tk : Takes X W)
    (I : Inv X pins σ H s) (A : At g w ρ S σ H) (rx : Rep g w (.ref p) x) (xo : XOk g W σ ρ w ex) (ko : KOk g w ρ σ K Q) (q : C [x] S K ex) : wpAny (model X.prog X.w) A0 (call (.ref fn) [.ref p]) (EP X pins σ Q) X.xe s :=
  wpAny_call (run_ct (W := W) (us := [.ref p]) (vs := [.ref p]) F hr e0 tk I (.cons rfl .nil) A (.one rx) rfl xo ko q)
theorem own_inv {pins : List (Addr × Obj)} {s : Shared} {σ : L2.St} {H : Hp} {w : Wd} {ρ : List Sl} {S : Store} {c : Nat} {C : Ct} {P : D → Option D} {K : KD} {ex : KX} {ds : List D} {vs : List V} {us : List Value} (I : Inv X pins σ H s) (A : At g w ρ S σ H) (rv : Vals vs us) (rr : Reps g w vs ds) (q : ownK c C P K ex ds S) :
    ∃ p x ox od, us = [.ref p] ∧ Rep g w (.ref p) x ∧ PySem.W.InstAt s.heap p ox (g.ad c) (some od) ∧ C [x] S (fun d S2 => ∃ z, P d = some z ∧ K z S2) ex := by
  unfold ownK at q
  split at q
  · rename_i x
    obtain ⟨v, rfl, rx⟩ := rr.inv1
    obtain ⟨u, rfl, ru⟩ := vals1 rv
    obtain ⟨⟨es, hi⟩, q⟩ := q
    obtain ⟨p, ox, od, rfl, rfl, J⟩ := inst_of I A rx hi ru
    exact ⟨p, x, ox, od, rfl, rx, J, q⟩
  · exact q.elim
variable {es : List Expr} {fr : FA}
theorem elenO {k j c : Nat} {C : Ct} {p : Pos} (F : OwnN X.prog X.w X.mg X.base g k c "__len__" 1 C) (hK : g.K = X.K) (hr : Room j X.A) (hk : k + 1 ≤ j) (tk : Takes X W) (hg : Gl X "len") (hm : X.mg "len" = none) (ha : EA g X W [e] fr)
    (hs : starEach [e] X.env = (false, eval e X.env) :: starEach [] X.env := by rfl) (hpl : (backTo pos (starEach [] X.env)).any (·.1) = false := by rfl) : EV g X W (.Call (.Name "len" p) [e] [] pos) (wOwn1 c C bkInt fr) := by
  refine ⟨fun pins s σ H Q I h => ?_⟩
  obtain ⟨w, ρ, S, K, ex, A, xo, ko, q⟩ := h
  obtain ⟨fn, h1, h2, F⟩ := F.ex
  rw [hK] at h1 h2 F
  refine wpAny_Call_Name_kw (ld_blt I hg hm boot_len ?_ (by decide) (by decide))
  refine PyProof.Rows.callWith_builtin1 (thn (rdA_run ha pos I A xo q) fun us s1 ⟨vs, H1, w1, ds, S1, I1, rv, l1, A1, r1, q1⟩ => ?_) hs hpl
  obtain ⟨p, x, ox, od, rfl, rx, J, q1⟩ := own_inv I1 A1 rv r1 q1
  obtain ⟨m, hF⟩ := I1.fr
  refine PySem.W.len_K hF I1.ok.mod.kin J h1 h2 (wpAny_mono (run1 (Q := fun v H2 => ∃ d w2 S2 z, Le w1 w2 ∧ At g w2 ρ S2 σ H2 ∧ Rep g w2 v d ∧ bkInt d = some z ∧ K z S2) F (hr.mono hk).in1 I1.env0.in1 tk I1 A1 rx (xo.later l1) (fun d S2 ⟨z, hz, kz⟩ v w2 H2 l2 A2 r2 => ⟨d, w2, S2, z, l2, A2, r2, hz, kz⟩) q1) (fun r s2 hb => ?_) fun _ _ y => y)
  obtain ⟨v, H2, I2, rv2, d, w2, S2, z, l2, A2, r2, hz, kz⟩ := hb
  unfold bkInt at hz
  split at hz
  · rename_i n
    split at hz
    · rename_i hn
      cases hz
      obtain rfl := rep_int r2
      obtain ⟨t, rfl⟩ := rv2
      exact ⟨⟨hn.1, by omega⟩, .int n, H2, I2.tok _, ⟨_, rfl⟩, ko _ _ kz _ w2 H2 (l1.trans l2) A2 (.int n)⟩
    · cases hz
  · cases hz
theorem ereprO {k j c : Nat} {C : Ct} {p : Pos} (F : OwnN X.prog X.w X.mg X.base g k c "__repr__" 1 C) (hK : g.K = X.K) (hr : Room j X.A) (hk : k + 1 ≤ j) (tk : Takes X W) (hg : Gl X "repr") (hm : X.mg "repr" = none) (ha : EA g X W [e] fr)
    (hs : starEach [e] X.env = (false, eval e X.env) :: starEach [] X.env := by rfl) (hpl : (backTo pos (starEach [] X.env)).any (·.1) = false := by rfl) : EV g X W (.Call (.Name "repr" p) [e] [] pos) (wOwn1 c C bkStr fr) := by
  refine ⟨fun pins s σ H Q I h => ?_⟩
  obtain ⟨w, ρ, S, K, ex, A, xo, ko, q⟩ := h
  obtain ⟨fn, h1, h2, F⟩ := F.ex
  rw [hK] at h1 h2 F
  refine wpAny_Call_Name_kw (ld_blt I hg hm boot_repr ?_ (by decide) (by decide))
  refine PyProof.Rows.callWith_builtin1 (thn (rdA_run ha pos I A xo q) fun us s1 ⟨vs, H1, w1, ds, S1, I1, rv, l1, A1, r1, q1⟩ => ?_) hs hpl
  obtain ⟨p, x, ox, od, rfl, rx, J, q1⟩ := own_inv I1 A1 rv r1 q1
  obtain ⟨m, hF⟩ := I1.fr
  have hun := hr.units
  refine PySem.W.repr_K (by show X.A.units + 1 < cLine; omega) hF I1.ok.mod.kin J h1 h2 (wpAny_mono (run1 (Q := fun v H2 => ∃ d w2 S2 z, Le w1 w2 ∧ At g w2 ρ S2 σ H2 ∧ Rep g w2 v d ∧ bkStr d = some z ∧ K z S2) F (hr.mono hk).in1 I1.env0.in1 tk I1 A1 rx (xo.later l1) (fun d S2 ⟨z, hz, kz⟩ v w2 H2 l2 A2 r2 => ⟨d, w2, S2, z, l2, A2, r2, hz, kz⟩) q1) (fun r s2 hb => ?_) fun _ _ y => y)
  obtain ⟨v, H2, I2, rv2, d, w2, S2, z, l2, A2, r2, hz, kz⟩ := hb
  unfold bkStr at hz
  split at hz
  · cases hz
    obtain rfl := rep_str r2
    obtain ⟨t, rfl⟩ := rv2
    exact ⟨.str _, H2, I2, ⟨t, rfl⟩, ko _ _ kz _ w2 H2 (l1.trans l2) A2 (.str _)⟩
  · cases hz
theorem estrO {k j c : Nat} {C : Ct} {p : Pos} (F : OwnN X.prog X.w X.mg X.base g k c "__str__" 1 C) (hK : g.K = X.K) (hr : Room j X.A) (hk : k + 2 ≤ j) (tk : Takes X W) (hg : Gl X "str") (hm : X.mg "str" = none) (ha : EA g X W [e] fr)
    (hs : starEach [e] X.env = (false, eval e X.env) :: starEach [] X.env := by rfl) (hpl : (backTo pos (starEach [] X.env)).any (·.1) = false := by rfl) : EV g X W (.Call (.Name "str" p) [e] [] pos) (wOwn1 c C bkStr fr) := by
  refine ⟨fun pins s σ H Q I h => ?_⟩
  obtain ⟨w, ρ, S, K, ex, A, xo, ko, q⟩ := h
  obtain ⟨fn, h1, h2, F⟩ := F.ex
  rw [hK] at h1 h2 F
  refine wpAny_Call_Name_kw (ld_blt I hg hm boot_str ?_ (by decide) (by decide))
  refine PyProof.Rows.callWith_type1 (thn (rdA_run ha pos I A xo q) fun us s1 ⟨vs, H1, w1, ds, S1, I1, rv, l1, A1, r1, q1⟩ => ?_) hs hpl
  obtain ⟨p, x, ox, od, rfl, rx, J, q1⟩ := own_inv I1 A1 rv r1 q1
  have hun := hr.units
  refine PySem.W.kso_call (by show X.A.units + 1 + 1 < cLine; omega) I1.kIn J h1 h2 (wpAny_mono (run1 (Q := fun v H2 => ∃ d w2 S2 z, Le w1 w2 ∧ At g w2 ρ S2 σ H2 ∧ Rep g w2 v d ∧ bkStr d = some z ∧ K z S2) F (hr.mono hk).in1.in1 I1.env0.in1.in1 tk I1 A1 rx (xo.later l1) (fun d S2 ⟨z, hz, kz⟩ v w2 H2 l2 A2 r2 => ⟨d, w2, S2, z, l2, A2, r2, hz, kz⟩) q1) (fun r s2 hb => ?_) fun _ _ y => y)
  obtain ⟨v, H2, I2, rv2, d, w2, S2, z, l2, A2, r2, hz, kz⟩ := hb
  unfold bkStr at hz
  split at hz
  · cases hz
    obtain rfl := rep_str r2
    obtain ⟨t, rfl⟩ := rv2
    exact ⟨.str _, H2, I2, ⟨t, rfl⟩, ko _ _ kz _ w2 H2 (l1.trans l2) A2 (.str _)⟩
  · cases hz
/-- -o -/
def wNegO (c : Nat) (C : Ct) (f : FE) (ρ : List Sl) (S : Store) (K : KD) (ex : KX) : Prop := f ρ S (fun x S1 => (∃ es, insOf c S1 x = some es) ∧ C [x] S1 K ex) ex
theorem enegO {k j c : Nat} {C : Ct} (F : OwnN X.prog X.w X.mg X.base g k c "__neg__" 1 C) (hK : g.K = X.K) (hr : Room j X.A) (hk : k ≤ j) (tk : Takes X W) (he : EV g X W e fe) : EV g X W (.UnaryOp .USub e pos) (wNegO c C fe) := by
  refine ⟨fun pins s σ H Q I h => ?_⟩
  obtain ⟨w, ρ, S, K, ex, A, xo, ko, q⟩ := h
  obtain ⟨fn, h1, h2, F⟩ := F.ex
  rw [hK] at h1 h2 F
  refine UnaryOp_ (thn (he.run pins s σ H (fun v H1 => ∃ x w1 S1, Le w w1 ∧ At g w1 ρ S1 σ H1 ∧ Rep g w1 v x ∧ (∃ es, insOf c S1 x = some es) ∧ C [x] S1 K ex) I ⟨w, ρ, S, _, ex, A, xo, fun x S1 q1 v w1 H1 l1 A1 r1 => ⟨x, w1, S1, l1, A1, r1, q1⟩, q⟩) fun u s1 hv => ?_)
  obtain ⟨v, H1, I1, ru, x, w1, S1, l1, A1, rx, ⟨es, hi⟩, q1⟩ := hv
  obtain ⟨p, ox, od, rfl, rfl, J⟩ := inst_of I1 A1 rx hi ru
  obtain ⟨m, hF⟩ := I1.fr
  exact PySem.W.ksp_neg hF I1.ok.mod.kin J h1 h2 (run1 F (hr.mono hk) I1.env0 tk I1 A1 rx (xo.later l1) (ko.later l1) q1)
/-- abs(o) -/
theorem eabsO {k j c : Nat} {C : Ct} {p : Pos} (F : OwnN X.prog X.w X.mg X.base g k c "__abs__" 1 C) (hK : g.K = X.K) (hr : Room j X.A) (hk : k + 1 ≤ j) (tk : Takes X W) (hg : Gl X "abs") (hm : X.mg "abs" = none) (ha : EA g X W [e] fr)
    (hs : starEach [e] X.env = (false, eval e X.env) :: starEach [] X.env := by rfl) (hpl : (backTo pos (starEach [] X.env)).any (·.1) = false := by rfl) : EV g X W (.Call (.Name "abs" p) [e] [] pos) (wOwn1 c C bkAny fr) := by
  refine ⟨fun pins s σ H Q I h => ?_⟩
  obtain ⟨w, ρ, S, K, ex, A, xo, ko, q⟩ := h
  obtain ⟨fn, h1, h2, F⟩ := F.ex
  rw [hK] at h1 h2 F
  refine wpAny_Call_Name_kw (ld_blt I hg hm boot_abs ?_ (by decide) (by decide))
  refine PyProof.Rows.callWith_builtin1 (thn (rdA_run ha pos I A xo q) fun us s1 ⟨vs, H1, w1, ds, S1, I1, rv, l1, A1, r1, q1⟩ => ?_) hs hpl
  obtain ⟨p, x, ox, od, rfl, rx, J, q1⟩ := own_inv I1 A1 rv r1 q1
  refine Calls.call_function_entry (id := "abs") (b := Builtin.«abs») (by decide +kernel) (by decide +kernel) (entryFor_of_tree (by kernel_rfl)) (by unfold argsOk; kernel_rfl) ?_
  unfold Builtin.«abs»
  refine wpAny_bind (m := oneArg "abs" _) (wpAny_pure ?_)
  refine wpAny_bind (m := callSpecial? (.ref p) (Str.ofString "__abs__")) (PySem.W.special_fn I1.kIn J h1 (beq_iff_eq.mp h2) (wpAny_mono (run1 F (hr.mono hk).in1 I1.env0.in1 tk I1 A1 rx (xo.later l1) (fun d S2 ⟨z, hz, kz⟩ v w2 H2 l2 A2 r2 => ko d S2 (by cases hz; exact kz) v w2 H2 (l1.trans l2) A2 r2) q1) (fun r s2 hb => ?_) fun _ _ y => y))
  exact wpAny_pure ⟨_, rfl, hb⟩
/-- bool(o) -/
def bkBool : D → Option D
  | .bl b => some (.bl b)
  | _ => none
end
end R3

/-! R3v: lists: insert, in, max, min, sum, any, all; tuples in order. -/
namespace R3
open PySem PySem.Spec PyProof.Rows L2
section
variable {g : Sg} {X : Cx} {W : WX} {a b e o j : Expr} {pos apos cpos p : Pos} {fa fb fe fj fo : FE} {fr : FA} {x : Str}
/-- xs.insert(j, e), xs an own list -/
def wIns (i : Nat) (fj fe : FE) (d : Fin) (ρ : List Sl) (S : Store) : Prop := match Env.at ρ i with
  | .own (.lst ds) => fj ρ S (fun y S1 => fe ρ S1 (fun x S2 => match y with
      | .int k => 0 ≤ k ∧ k ≤ 1000000 ∧ Small (ds.length + 1) ∧ d.nx (Env.put ρ i (.own (.lst (ds.take k.toNat ++ [x] ++ ds.drop k.toNat)))) S2
      | _ => False) (fun x S' => d.ex x ρ S')) (fun x S' => d.ex x ρ S')
  | _ => False
theorem mins (i : Nat) (hj : EV g X W j fj) (he : EV g X W e fe) (hN : X.N[i]? = some x := by rfl) (hv : Vis X.env.scope x := by first | exact Or.inl rfl | exact Or.inr (Or.inl rfl) | exact Or.inr (Or.inr rfl)) (hd : (x == ("__debug__" : Str)) = false := by decide) (hcd : (x == ("__classdict__" : Str)) = false := by decide)
    (hbase : attributeBase (.Name x p) "insert" X.env (eval (.Name x p) X.env) = eval (.Name x p) X.env := by rfl)
    (hfew : ((backTo cpos (starEach [j, e] X.env)).all (fun x => !x.1) && (backToKw cpos (keywordEach [] X.env)).all (fun x => x.1.isSome) && decide (([j, e] : List Expr).length + ([] : List Keyword).length + (if ([] : List Keyword).isEmpty then 0 else 1) < 30)) = true := by rfl)
    (hline : (apos.endLine == cpos.line) = true := by rfl) (hs : starEach [j, e] X.env = (false, eval j X.env) :: starEach [e] X.env := by rfl) (hs2 : starEach [e] X.env = (false, eval e X.env) :: starEach [] X.env := by rfl)
    (hsw : swapsWith (.Call (.Attribute (.Name x p) "insert" apos) [j, e] [] cpos) none pos.line X.env = pure false := by rfl) (hpl : (backTo cpos (starEach [e] X.env)).any (·.1) = false := by rfl) :
    ES g X W (.Expr (.Call (.Attribute (.Name x p) "insert" apos) [j, e] [] cpos) pos) (wIns i fj fe) :=
  PS.imp (ps_expr (pe_bm PySem.F.plainAttrs_list PySem.F.slot_list_insert PySem.F.type_list_insert mt_insert (pe_var hN hv hd hcd) (pa_cons hj (pa_cons he pa_nil hs2) hs) hbase hfew hline hs hpl) hsw) fun D σ H ⟨w, ρ, S, d, A, eo, q⟩ => by
    unfold wIns at q
    split at q
    · rename_i ds hc
      obtain ⟨a, h1, h2, ⟨vs, e1, r1⟩, h4, h5⟩ := A.own i _ hc
      refine ⟨.ref a, h1, .inl ⟨rfl, vs, SqL.of e1⟩, ?_⟩
      refine ⟨w, ρ, S, _, _, A, eo.xo, fun y S1 q1 vy w1 H1 l1 A1 ry => ?_, q⟩
      refine ⟨w1, ρ, S1, _, _, A1, (eo.later l1).xo, fun z S2 q2 vz w2 H2 l2 A2 rz => ?_, q1⟩
      cases y with
      | int k =>
        obtain ⟨k0, k1, hsm, q2⟩ := q2
        obtain rfl := rep_int ry
        obtain ⟨a', g1, g2, ⟨vs', e2, r2⟩, g4, g5⟩ := A2.own i _ hc
        rw [h1] at g1
        cases g1
        refine ⟨a, vs', k, vz, rfl, rfl, e2, by rw [r2.length]; exact hsm.lt, k0, by omega, ?_⟩
        exact eo.nx _ S2 q2 w2 σ _ (l1.trans l2) (A2.mut (o' := .lst (ds.take k.toNat ++ [z] ++ ds.drop k.toNat)) hc h1 ⟨_, upd_same, ((Reps.take k.toNat r2).app (.one rz)).app (Reps.drop k.toNat r2)⟩)
      | _ => exact q2.elim
    · exact q.elim
/-! ### tuples of ints in order -/
def intsOf : List D → Option (List Int)
  | [] => some []
  | .int i :: r => (intsOf r).map (i :: ·)
  | _ => none
theorem intsOf_reps {w : Wd} : ∀ {vs : List V} {ds : List D} {ns : List Int}, Reps g w vs ds → intsOf ds = some ns → vs = ns.map V.int
  | _, _, _, .nil, h => by cases h; rfl
  | _, _, _, .cons (d := .int i) (ds := ds) hh r, h => by
    unfold intsOf at h
    cases e : intsOf ds with
    | none => rw [e] at h; cases h
    | some ms =>
      rw [e] at h
      cases h
      rw [rep_int hh, intsOf_reps r e]
      rfl
  | _, _, _, .cons (d := .non) _ _, h => by cases h
  | _, _, _, .cons (d := .bl _) _ _, h => by cases h
  | _, _, _, .cons (d := .str _) _ _, h => by cases h
  | _, _, _, .cons (d := .ty _) _ _, h => by cases h
  | _, _, _, .cons (d := .tup _) _ _, h => by cases h
  | _, _, _, .cons (d := .lst _) _ _, h => by cases h
  | _, _, _, .cons (d := .obj _ _) _ _, h => by cases h
  | _, _, _, .cons (d := .ref _) _ _, h => by cases h
  | _, _, _, .cons (d := .scr _) _ _, h => by cases h
  | _, _, _, .cons (d := .dic _) _ _, h => by cases h
theorem intsOf_map : ∀ ns : List Int, intsOf (ns.map D.int) = some ns
  | [] => rfl
  | n :: r => by
    show (intsOf (r.map D.int)).map (n :: ·) = _
    rw [intsOf_map r]
    rfl
/-- t <= u -/
def lexLe : List Int → List Int → Bool
  | [], _ => true
  | _ :: _, [] => false
  | x :: xs, y :: ys => if x = y then lexLe xs ys else decide (x ≤ y)
theorem lexAt_le : ∀ (ns ms : List Int) (e r : Nat → Bool) (i : Nat), (∀ j, e (i + j) = decide (ns.getD j 0 = ms.getD j 0)) → (∀ j, r (i + j) = decide (ns.getD j 0 ≤ ms.getD j 0)) → Ob.lexAt e r (decide (ns.length ≤ ms.length)) i (min ns.length ms.length) = lexLe ns ms
  | [], ms, e, r, i, _, _ => by simp [Ob.lexAt_zero, lexLe]
  | _ :: _, [], e, r, i, _, _ => by simp [Ob.lexAt_zero, lexLe]
  | x :: xs, y :: ys, e, r, i, he, hr => by
    have h0 := he 0
    have h1 := hr 0
    simp only [Nat.add_zero, List.getD_cons_zero] at h0 h1
    rw [List.length_cons, List.length_cons, Nat.succ_min_succ, Ob.lexAt_succ, h0, h1]
    have ih := lexAt_le xs ys e r (i + 1) (fun j => by have := he (j + 1); simp only [List.getD_cons_succ] at this; rw [← this]; congr 1; omega) (fun j => by have := hr (j + 1); simp only [List.getD_cons_succ] at this; rw [← this]; congr 1; omega)
    have e1 : decide (xs.length + 1 ≤ ys.length + 1) = decide (xs.length ≤ ys.length) := by simp
    rw [e1, ih]
    show _ = (if x = y then lexLe xs ys else decide (x ≤ y))
    by_cases c : x = y
    · simp [c]
    · simp [c]
def rTup (f : List Int → List Int → Bool) (x y : D) (S : Store) (K : KD) : Prop := match x, y with
  | .tup xs, .tup ys => ∃ ns ms, intsOf xs = some ns ∧ intsOf ys = some ms ∧ K (.bl (f ns ms)) S
  | _, _ => False
theorem ttle (hK : g.K = X.K) (hu : X.A.units < cLine) : OpD g X (compareOp .LtE) (rTup lexLe) := OpD.of (op_leT hu) fun σ H w ρ S x y vx vy K Q A rx ry ko q => by
  unfold rTup at q
  split at q
  · obtain ⟨ns, ms, e1, e2, q⟩ := q
    cases rx with
    | tup h1 r1 =>
      cases ry with
      | tup h2 r2 =>
        have t1 := A.t h1
        have t2 := A.t h2
        rw [intsOf_reps r1 e1, hK] at t1
        rw [intsOf_reps r2 e2, hK] at t2
        refine ⟨_, _, ns, ms, rfl, rfl, t1, t2, ?_⟩
        rw [lexAt_le ns ms _ _ 0 (fun j => by simp) (fun j => by simp)]
        exact ko _ _ q _ w H (Le.refl w) A (.bl _)
  · exact q.elim
theorem ttlt (hK : g.K = X.K) (hu : X.A.units < cLine) : OpD g X (compareOp .Lt) (rTup HT.lexLt) := OpD.of (op_ltT hu) fun σ H w ρ S x y vx vy K Q A rx ry ko q => by
  unfold rTup at q
  split at q
  · obtain ⟨ns, ms, e1, e2, q⟩ := q
    cases rx with
    | tup h1 r1 =>
      cases ry with
      | tup h2 r2 =>
        have t1 := A.t h1
        have t2 := A.t h2
        rw [intsOf_reps r1 e1, hK] at t1
        rw [intsOf_reps r2 e2, hK] at t2
        exact ⟨_, _, ns, ms, rfl, rfl, t1, t2, ko _ _ q _ w H (Le.refl w) A (.bl _)⟩
  · exact q.elim
/-! ### x in xs -/
def inD (x : D) (ys : List D) : Bool := ys.any fun z => eqD z x
theorem any_eqv {x : D} {p : PyData} (hx : toPy x = some p) : ∀ {ys : List D} {qs : List PyData}, toPys ys = some qs → (qs.any fun z => PyData.eqv z p) = inD x ys
  | [], _, h => by cases h; rfl
  | y :: ys, qs, h => by
    unfold toPys at h
    cases e1 : toPy y with
    | none => rw [e1] at h; cases h
    | some q =>
      cases e2 : toPys ys with
      | none => rw [e1, e2] at h; cases h
      | some qs' =>
        rw [e1, e2] at h
        cases h
        show (PyData.eqv q p || qs'.any _) = (eqD y x || inD x ys)
        rw [eqv_eqD y x q p e1 hx, any_eqv hx e2]
def rInU (neg : Bool) (x y : D) (S : Store) (K : KD) : Prop := match y with
  | .lst ys => okN 7 x = true ∧ okNs 7 ys = true ∧ K (.bl (if neg then !inD x ys else inD x ys)) S
  | _ => False
theorem inU {neg : Bool} {op : CmpOp} {r : R2} (hr : r = if neg then rNotInD X.K else rInD X.K) (ho : OpR X (compareOp op) r) (hK : g.K = X.K) : OpD g X (compareOp op) (rInU neg) := OpD.of ho fun σ H w ρ S x y vx vy K Q A rx ry ko q => by
  unfold rInU at q
  split at q
  · rename_i ys
    obtain ⟨h1, h2, q⟩ := q
    obtain ⟨p, p1, p2, p3⟩ := okN_py 7 x h1
    obtain ⟨qs, q1, q2, q3⟩ := okNs_py 7 ys h2
    have d1 := dp_of A rx p1
    have e2 : toPy (.lst ys) = some (.list qs) := by unfold toPy; rw [q1]; rfl
    have d2 := dp_of A ry e2
    rw [hK] at d1 d2
    have s1 : SeqAt.shaped p = true := Bool.and_eq_true_iff.mpr ⟨p2, decide_eq_true (Nat.le_trans p3 (by decide))⟩
    have s2 : SeqAt.shaped (.list qs) = true := Bool.and_eq_true_iff.mpr ⟨q2, decide_eq_true (by show PyData.depthAll qs + 1 ≤ 64; omega)⟩
    subst hr
    rw [← any_eqv p1 q1] at q
    cases neg with
    | true => exact ⟨p, qs, d1, d2, s1, s2, ko _ _ q _ w H (Le.refl w) A (.bl _)⟩
    | false => exact ⟨p, qs, d1, d2, s1, s2, ko _ _ q _ w H (Le.refl w) A (.bl _)⟩
  · exact q.elim
theorem uin {k : Nat} (hK : g.K = X.K) (hr : Room k X.A) : OpD g X (compareOp .In) (rInU false) := inU (r := rInD X.K) rfl (op_inD (by have := hr.un; omega)) hK
theorem unin {k : Nat} (hK : g.K = X.K) (hr : Room k X.A) : OpD g X (compareOp .NotIn) (rInU true) := inU (r := rNotInD X.K) rfl (op_notInD (by have := hr.un; omega)) hK
/-! ### max, min, sum of a list of ints; any, all of bools -/
def rMaxL (ds : List D) (S : Store) (K : KD) : Prop := match ds with
  | [.lst xs] => ∃ ns, intsOf xs = some ns ∧ 0 < ns.length ∧ ∀ m, m ∈ ns → (∀ y, y ∈ ns → y ≤ m) → K (.int m) S
  | _ => False
def rMinL (ds : List D) (S : Store) (K : KD) : Prop := match ds with
  | [.lst xs] => ∃ ns, intsOf xs = some ns ∧ 0 < ns.length ∧ ∀ m, m ∈ ns → (∀ y, y ∈ ns → m ≤ y) → K (.int m) S
  | _ => False
def rSumL (ds : List D) (S : Store) (K : KD) : Prop := match ds with
  | [.lst xs] => ∃ ns, intsOf xs = some ns ∧ K (.int ns.sum) S
  | _ => False
theorem lst_ints {w : Wd} {ρ : List Sl} {S : Store} {σ : L2.St} {H : Hp} {v : V} {xs : List D} {ns : List Int} (hK : g.K = X.K) (A : At g w ρ S σ H) (r : Rep g w v (.lst xs)) (e : intsOf xs = some ns) : ∃ a, v = .ref a ∧ SqL X.K H a (ns.map V.int) := by
  cases r with
  | lst hh rr =>
    have := SqL.of (K := X.K) (A.ih _ _ hh)
    rw [intsOf_reps rr e] at this
    exact ⟨_, rfl, this⟩
theorem cmaxL (hK : g.K = X.K) (hc : X.calm = true) : CallD g X (.builtin "max") rMaxL := CallD.of (cr_max hc) fun σ H w ρ S ds vs K Q A r ko q => by
  unfold rMaxL at q
  split at q
  · obtain ⟨ns, e, h0, q⟩ := q
    obtain ⟨v, rfl, h⟩ := r.inv1
    obtain ⟨a, rfl, h'⟩ := lst_ints hK A h e
    exact ⟨a, ns, rfl, h', h0, fun m h1 h2 => ko _ _ (q m h1 h2) _ w H (Le.refl w) A (.int _)⟩
  · exact q.elim
theorem cminL (hK : g.K = X.K) (hc : X.calm = true) : CallD g X (.builtin "min") rMinL := CallD.of (cr_min hc) fun σ H w ρ S ds vs K Q A r ko q => by
  unfold rMinL at q
  split at q
  · obtain ⟨ns, e, h0, q⟩ := q
    obtain ⟨v, rfl, h⟩ := r.inv1
    obtain ⟨a, rfl, h'⟩ := lst_ints hK A h e
    exact ⟨a, ns, rfl, h', h0, fun m h1 h2 => ko _ _ (q m h1 h2) _ w H (Le.refl w) A (.int _)⟩
  · exact q.elim
theorem csumL (hK : g.K = X.K) (hc : X.calm = true) : CallD g X (.builtin "sum") rSumL := CallD.of (cr_sum hc) fun σ H w ρ S ds vs K Q A r ko q => by
  unfold rSumL at q
  split at q
  · obtain ⟨ns, e, q⟩ := q
    obtain ⟨v, rfl, h⟩ := r.inv1
    obtain ⟨a, rfl, h'⟩ := lst_ints hK A h e
    exact ⟨a, ns, rfl, h', ko _ _ q _ w H (Le.refl w) A (.int _)⟩
  · exact q.elim
def boolsOf : List D → Option (List Bool)
  | [] => some []
  | .bl i :: r => (boolsOf r).map (i :: ·)
  | _ => none
theorem boolsOf_map : ∀ ns : List Bool, boolsOf (ns.map D.bl) = some ns
  | [] => rfl
  | n :: r => by
    show (boolsOf (r.map D.bl)).map (n :: ·) = _
    rw [boolsOf_map r]
    rfl
theorem boolsOf_reps {w : Wd} : ∀ {vs : List V} {ds : List D} {ns : List Bool}, Reps g w vs ds → boolsOf ds = some ns → vs = ns.map V.bl
  | _, _, _, .nil, h => by cases h; rfl
  | _, _, _, .cons (d := .bl i) (ds := ds) hh r, h => by
    unfold boolsOf at h
    cases e : boolsOf ds with
    | none => rw [e] at h; cases h
    | some ms =>
      rw [e] at h
      cases h
      rw [rep_bl hh, boolsOf_reps r e]
      rfl
  | _, _, _, .cons (d := .non) _ _, h => by cases h
  | _, _, _, .cons (d := .int _) _ _, h => by cases h
  | _, _, _, .cons (d := .str _) _ _, h => by cases h
  | _, _, _, .cons (d := .ty _) _ _, h => by cases h
  | _, _, _, .cons (d := .tup _) _ _, h => by cases h
  | _, _, _, .cons (d := .lst _) _ _, h => by cases h
  | _, _, _, .cons (d := .obj _ _) _ _, h => by cases h
  | _, _, _, .cons (d := .ref _) _ _, h => by cases h
  | _, _, _, .cons (d := .scr _) _ _, h => by cases h
  | _, _, _, .cons (d := .dic _) _ _, h => by cases h
def rAnyL (ds : List D) (S : Store) (K : KD) : Prop := match ds with
  | [.lst xs] => ∃ ns, boolsOf xs = some ns ∧ K (.bl (ns.any id)) S
  | _ => False
def rAllL (ds : List D) (S : Store) (K : KD) : Prop := match ds with
  | [.lst xs] => ∃ ns, boolsOf xs = some ns ∧ K (.bl (ns.all id)) S
  | _ => False
theorem canyL (hK : g.K = X.K) (hc : X.calm = true) : CallD g X (.builtin "any") rAnyL := CallD.of (cr_any hc) fun σ H w ρ S ds vs K Q A r ko q => by
  unfold rAnyL at q
  split at q
  · obtain ⟨ns, e, q⟩ := q
    obtain ⟨v, rfl, h⟩ := r.inv1
    cases h with
    | lst hh rr =>
      have := SqL.of (K := X.K) (A.ih _ _ hh)
      rw [boolsOf_reps rr e] at this
      exact ⟨_, ns, rfl, this, ko _ _ q _ w H (Le.refl w) A (.bl _)⟩
  · exact q.elim
theorem callL (hK : g.K = X.K) (hc : X.calm = true) : CallD g X (.builtin "all") rAllL := CallD.of (cr_all hc) fun σ H w ρ S ds vs K Q A r ko q => by
  unfold rAllL at q
  split at q
  · obtain ⟨ns, e, q⟩ := q
    obtain ⟨v, rfl, h⟩ := r.inv1
    cases h with
    | lst hh rr =>
      have := SqL.of (K := X.K) (A.ih _ _ hh)
      rw [boolsOf_reps rr e] at this
      exact ⟨_, ns, rfl, this, ko _ _ q _ w H (Le.refl w) A (.bl _)⟩
  · exact q.elim
end
end R3

/-! R3w: the head's facts of errors; rules in short. -/
namespace R3
open PySem PySem.Spec PyProof.Rows L2
theorem band {a b : Bool} (h : (a && b) = true) : a = true ∧ b = true := Bool.and_eq_true_iff.mp h
/-! ### errors -/
def fErr (x f : Str) (tl : List Value) (newId : String) (K : Fr) : Bool :=
  PySem.W.excInitIn K (He.ga K x) tl newId && (PySem.W.excOver K (He.ga K x) tl && (decide (PySem.W.takerIn K (He.ga K x) f = some none) && (PySem.W.hasDictIn K (He.ga K x) &&
  (He.eqO (PySem.W.findIn K (.ref (He.ga K x)) "__setattr__") (some (some (.builtin "object.__setattr__"))) && (He.eqO (PySem.W.findIn K (.ref (He.ga K x)) "__getattribute__") (some (some (.builtin "BaseException.__getattribute__"))) &&
  (He.eqO (PySem.W.findIn K (.ref (He.ga K x)) "__getattr__") (some none) && (He.eqO (PySem.W.findIn K (.ref (He.ga K x)) f) (some none) && (He.eqO (PySem.W.findIn K (.ref (He.ga K x)) "__init__") (some (some (.ref (He.ma K (He.ga K x) "__init__")))) &&
  (decide (PySem.W.typeIn K (.ref (He.ma K (He.ga K x) "__init__")) = some (.type "function")) && (PySem.W.keepIn K (.ref (He.ga K x)) && (decide (PySem.W.subIn K (.ref (He.ga K x)) (.type "BaseException") = some true) && decide (PySem.W.typeIn K (.ref (He.ga K x)) = some (.type "type")))))))))))))
theorem fErr_ok {x f : Str} {tl : List Value} {newId : String} {K : Fr} (h : fErr x f tl newId K = true) : ErrK K (He.ga K x) (He.ma K (He.ga K x) "__init__") tl newId f := by
  obtain ⟨h1, h⟩ := band h
  obtain ⟨h2, h⟩ := band h
  obtain ⟨h3, h⟩ := band h
  obtain ⟨h4, h⟩ := band h
  obtain ⟨h5, h⟩ := band h
  obtain ⟨h6, h⟩ := band h
  obtain ⟨h7, h⟩ := band h
  obtain ⟨h8, h⟩ := band h
  obtain ⟨h9, h⟩ := band h
  obtain ⟨h10, h⟩ := band h
  obtain ⟨h11, h⟩ := band h
  obtain ⟨h12, h13⟩ := band h
  exact ⟨h1, h2, of_decide_eq_true h3, h4, He.eqO_ok h5, He.eqO_ok h6, He.eqO_ok h7, He.eqO_ok h8, He.eqO_ok h9, of_decide_eq_true h10, h11, of_decide_eq_true h12, of_decide_eq_true h13⟩
def isVal (f : Option PySem.W.CFound) (id : String) : Bool := match f with
  | some (.val (.builtin n)) => n == id
  | _ => false
theorem isVal_ok {f : Option PySem.W.CFound} {id : String} (h : isVal f id = true) : f = some (.val (.builtin id)) := by
  unfold isVal at h
  split at h
  · rw [beq_iff_eq.mp h]
  · cases h
def fBO (b : Str) (initId : String) (K : Fr) : Bool := decide (PySem.W.specialIn K (.ref (He.ga K b)) "__getattribute__" = some (some (.builtin "type.__getattribute__"))) && (PySem.W.readsIn K (He.ga K b) (.type "type") && isVal (PySem.W.findCls K (.ref (He.ga K b)) (.type "type") "__init__") initId)
theorem fBO_ok {b : Str} {initId : String} {K : Fr} {mg : Str → Option Value} (hg : mg b = some (.ref (He.ga K b))) (h : fBO b initId K = true) : BasOwn K mg b (He.ga K b) initId := by
  obtain ⟨h1, h⟩ := band h
  obtain ⟨h2, h3⟩ := band h
  exact ⟨hg, of_decide_eq_true h1, h2, isVal_ok h3⟩
def fBT (T : String) (initId : String) (K : Fr) : Bool := isVal (PySem.W.findCls K (.type T) (.type "type") "__init__") initId
theorem fBT_ok {b : Str} {T initId : String} {K : Fr} {mg : Str → Option Value} (hg : mg b = none) (hb : bootBuiltins b = some (.type T)) (ty : typeOf (.type T) = pure (.type "type")) (st : Manifest.isStub T = false) (h : fBT T initId K = true) : BasTy K mg b T initId := ⟨hg, hb, ty, st, isVal_ok h⟩
theorem typ_IE : typeOf (.type "IndexError") = pure (.type "type") := by kernel_rfl
theorem typ_OE : typeOf (.type "OverflowError") = pure (.type "type") := by kernel_rfl
theorem typ_RE : typeOf (.type "RuntimeError") = pure (.type "type") := by kernel_rfl
theorem typ_KE : typeOf (.type "KeyError") = pure (.type "type") := by kernel_rfl
/-! ### which errors a clause takes, isinstance of an error, its field -/
def csOf (l : List (Nat × Bool)) (k : Nat) : Option Bool := l.lookup k
theorem lookup_mem {β : Type} {l : List (Nat × β)} {k : Nat} {b : β} (e : l.lookup k = some b) : (k, b) ∈ l := by
  induction l with
  | nil => cases e
  | cons q r ih =>
    rw [List.lookup_cons] at e
    split at e
    · rename_i h
      cases e
      rw [beq_iff_eq.mp h]
      exact List.mem_cons_self
    · exact List.mem_cons_of_mem _ (ih e)
def fExm (nm : Nat → Str) (x : Str) (l : List (Nat × Bool)) (K : Fr) : Bool := l.all fun q => decide (PySem.W.exmOne K (.ref (He.ga K (nm q.1))) (.ref (He.ga K x)) = some q.2)
theorem fExm_ok {nm : Nat → Str} {x : Str} {l : List (Nat × Bool)} {K : Fr} (h : fExm nm x l K = true) (k : Nat) (b : Bool) (e : csOf l k = some b) : PySem.W.exmOne K (.ref (He.ga K (nm k))) (.ref (He.ga K x)) = some b :=
  of_decide_eq_true (List.all_eq_true.mp h (k, b) (lookup_mem e))
def fExcC (x : Str) (K : Fr) : Bool := He.eqO (PySem.W.findIn K (.ref (He.ga K x)) "__getattribute__") (some (some (.builtin "BaseException.__getattribute__"))) && (He.eqO (PySem.W.findIn K (.ref (He.ga K x)) "__getattr__") (some none) && (decide (PySem.W.subIn K (.ref (He.ga K x)) (.type "BaseException") = some true) &&
  (PySem.W.hasDictIn K (He.ga K x) && (He.eqO (PySem.W.findIn K (.ref (He.ga K x)) "__class__") (some (some (.builtin "object.__class__"))) && (decide (PySem.W.specialIn K (.builtin "object.__class__") "__get__" = some (some (.builtin "getset_descriptor.__get__"))) &&
  (decide (PySem.W.takesIn K (.builtin "object.__class__") = some true) && decide (PySem.W.mroIn K (He.ga K x) (.type "object") = some true)))))))
theorem fExcC_ok {x : Str} {K : Fr} (h : fExcC x K = true) : ExcC K (He.ga K x) := by
  obtain ⟨h1, h⟩ := band h
  obtain ⟨h2, h⟩ := band h
  obtain ⟨h3, h⟩ := band h
  obtain ⟨h4, h⟩ := band h
  obtain ⟨h5, h⟩ := band h
  obtain ⟨h6, h⟩ := band h
  obtain ⟨h7, h8⟩ := band h
  exact ⟨He.eqO_ok h1, He.eqO_ok h2, of_decide_eq_true h3, h4, He.eqO_ok h5, of_decide_eq_true h6, of_decide_eq_true h7, of_decide_eq_true h8⟩
def fXis (nm : Nat → Str) (t : Fr → Value) (l : List (Nat × Bool)) (K : Fr) : Bool := l.all fun q => fExcC (nm q.1) K && decide (PySem.W.kitOne K (.ref (He.ga K (nm q.1))) (t K) = some q.2)
theorem fXis_ok {nm : Nat → Str} {t : Fr → Value} {l : List (Nat × Bool)} {K : Fr} (h : fXis nm t l K = true) {k : Nat} (b : Bool) (e : csOf l k = some b) : ExcC K (He.ga K (nm k)) ∧ PySem.W.kitOne K (.ref (He.ga K (nm k))) (t K) = some b := by
  obtain ⟨h1, h2⟩ := band (List.all_eq_true.mp h (k, b) (lookup_mem e))
  exact ⟨fExcC_ok h1, of_decide_eq_true h2⟩
def fXf (nm : Nat → Str) (f : Str) (cs : List Nat) (K : Fr) : Bool := cs.all fun c => xfB K (He.ga K (nm c)) && He.eqO (PySem.W.findIn K (.ref (He.ga K (nm c))) f) (some none)
theorem fXf_ok {nm : Nat → Str} {fl : Nat → List Str} {f : Str} {cs : List Nat} {K : Fr} (h : fXf nm f cs K = true) (hfl : ∀ c ∈ cs, fl c = [f]) {k : Nat} (e : cs.contains k = true) : fl k = [f] ∧ XfC K (He.ga K (nm k)) ∧ PySem.W.findIn K (.ref (He.ga K (nm k))) f = some none := by
  have m : k ∈ cs := by simpa using e
  obtain ⟨h1, h2⟩ := band (List.all_eq_true.mp h k m)
  exact ⟨hfl k m, xfB_ok h1, He.eqO_ok h2⟩
section
variable {X : Cx} {pos : Pos} {x : Str}
theorem xv (i : Nat) (hN : X.N[i]? = some x := by rfl) (hv : Vis X.env.scope x := by first | exact Or.inl rfl | exact Or.inr (Or.inl rfl) | exact Or.inr (Or.inr rfl)) (hd : (x == ("__debug__" : Str)) = false := by decide)
    (hcd : (x == ("__classdict__" : Str)) = false := by decide) : PE X (.Name x pos) (tVar i) := pe_var hN hv hd hcd
end
end R3

/-! R3x: loops of plain proofs by invariants. -/
namespace R3
open PySem PySem.Spec PyProof.Rows L2
section
variable {fg : FG} {fb : FS} {ft : FT} {fe : FE} {d : Fin}
/-- for: P at the turn, over the slots and the store -/
theorem forI (P : Nat → List Sl → Store → Prop) {ds : List D} {ρ : List Sl} {S : Store} (h0 : P 0 ρ S)
    (hs : ∀ (i : Nat) (x : D) (ρ : List Sl) (S : Store) (N : List Sl → Store → Prop), ds[i]? = some x → P i ρ S → (∀ ρ' S', P (i + 1) ρ' S' → N ρ' S') → fg x ρ (fun ρ' => fb { d with nx := N, ct := N, bk := d.nx } ρ' S))
    (hd : ∀ ρ S, P ds.length ρ S → d.nx ρ S) : forL fg fb d ds ρ S := by
  have key : ∀ (n i : Nat) (ρ : List Sl) (S : Store), i + n = ds.length → P i ρ S → forL fg fb d (ds.drop i) ρ S := by
    intro n
    induction n with
    | zero =>
      intro i ρ S hn p
      have e : i = ds.length := by omega
      subst e
      rw [List.drop_length]
      exact hd ρ S p
    | succ n ih =>
      intro i ρ S hn p
      have hlt : i < ds.length := by omega
      have hx : ds[i]? = some ds[i] := by simp [hlt]
      rw [drop_cons hx]
      exact hs i _ ρ S _ hx p fun ρ' S' p' => ih (i + 1) ρ' S' (by omega) p'
  exact key ds.length 0 ρ S (by omega) h0
/-- a comprehension: P at the turn, over what is made and the store -/
theorem lcI {ρ : List Sl} {K : List D → Store → Prop} (P : Nat → List D → Store → Prop) {ds acc : List D} {S : Store} (h0 : P 0 acc S)
    (hs : ∀ (i : Nat) (x : D) (acc : List D) (S : Store) (N : List D → Store → Prop), ds[i]? = some x → P i acc S → (∀ acc' S', P (i + 1) acc' S' → N acc' S') →
      fg x ρ (fun ρ' => ft ρ' S (fun b S' => Br b (fe ρ' S' (fun y S'' => Small (acc.length + 1) ∧ N (acc ++ [y]) S'') noX) (N acc S')) noX))
    (hd : ∀ acc S, P ds.length acc S → K acc S) : lcL fg ft fe ρ K ds acc S := by
  have key : ∀ (n i : Nat) (acc : List D) (S : Store), i + n = ds.length → P i acc S → lcL fg ft fe ρ K (ds.drop i) acc S := by
    intro n
    induction n with
    | zero =>
      intro i acc S hn p
      have e : i = ds.length := by omega
      subst e
      rw [List.drop_length]
      exact hd acc S p
    | succ n ih =>
      intro i acc S hn p
      have hlt : i < ds.length := by omega
      have hx : ds[i]? = some ds[i] := by simp [hlt]
      rw [drop_cons hx]
      exact hs i _ acc S (fun acc S => lcL fg ft fe ρ K (ds.drop (i + 1)) acc S) hx p fun acc' S' p' => ih (i + 1) acc' S' (by omega) p'
  exact key ds.length 0 acc S (by omega) h0
/-- while: P at a measure -/
theorem whI (P : Nat → List Sl → Store → Prop) {n : Nat} {ρ : List Sl} {S : Store} (h0 : P n ρ S)
    (hs : ∀ (n : Nat) (ρ : List Sl) (S : Store) (N : List Sl → Store → Prop), P n ρ S → (∀ m ρ' S', m < n → P m ρ' S' → N ρ' S') → ft ρ S (fun b S' => Br b (fb { d with nx := N, ct := N, bk := d.nx } ρ S') (d.nx ρ S')) (fun x S' => d.ex x ρ S')) : wWhile ft fb d ρ S := by
  have key : ∀ (n k : Nat) (ρ : List Sl) (S : Store), k ≤ n → P k ρ S → whileN ft fb d (n + 1) ρ S := by
    intro n
    induction n with
    | zero => exact fun k ρ S hk p => hs k ρ S _ p fun m ρ' S' hm _ => (by omega)
    | succ n ih => exact fun k ρ S hk p => hs k ρ S _ p fun m ρ' S' hm p' => ih m ρ' S' (by omega) p'
  exact ⟨n + 1, key n n ρ S (Nat.le_refl _) h0⟩
end
theorem rng_at {lo : Int} {n i : Nat} {x : D} (h : (rng lo n)[i]? = some x) : i < n ∧ x = .int (lo + i) := by
  have hi : i < n := by
    have := (List.getElem?_eq_some_iff.mp h).1
    rw [rng_len] at this
    exact this
  rw [rng_get hi] at h
  cases h
  exact ⟨hi, rfl⟩
theorem map_at {α : Type} {f : α → D} {xs : List α} {i : Nat} {x : D} (h : (xs.map f)[i]? = some x) : ∃ a, xs[i]? = some a ∧ x = f a := by
  rw [List.getElem?_map] at h
  cases e : xs[i]? with
  | none => rw [e] at h; cases h
  | some a => rw [e] at h; cases h; exact ⟨a, rfl, rfl⟩
end R3

/-! R3y: lists of the store: walked, grown. -/
namespace R3
open PySem PySem.Spec PyProof.Rows L2
/-- for .. in a list of the store that stays as it is -/
def forLr (n : Nat) (ds0 : List D) (fg : FG) (fb : FS) (d : Fin) : List D → List Sl → Store → Prop
  | [], ρ, S => S[n]? = some (some (.lst ds0)) ∧ d.nx ρ S
  | x :: r, ρ, S => S[n]? = some (some (.lst ds0)) ∧ fg x ρ (fun ρ' => fb { d with nx := forLr n ds0 fg fb d r, ct := forLr n ds0 fg fb d r, bk := d.nx } ρ' S)
def wForR (fe : FE) (fg : FG) (fb : FS) (d : Fin) (ρ : List Sl) (S : Store) : Prop := fe ρ S (fun x S1 => match x with
  | .ref n => ∃ ds, S1[n]? = some (some (.lst ds)) ∧ forLr n ds fg fb d ds ρ S1
  | _ => False) (fun x S' => d.ex x ρ S')
section
variable {g : Sg} {X : Cx} {W : WX} {e tg o : Expr} {fe fo : FE} {fg : FG} {fb : FS} {js : List Nat} {body : List Stmt} {pos apos cpos p : Pos}
theorem sforR (hp : PassesOwn (model X.prog X.w) X.A X.env X.xe) (hc : X.calm = true) (he : EV g X W e fe) (hg : GT g X js tg fg) (hb : EB g X W body fb) (hs : ∀ x, foldedSetIterable e X.env x = pure x := by intro _; rfl) :
    ES g X W (.For tg e body [] pos) (wForR fe fg fb) :=
  PS.imp (ps_for hp hc (pi_list he) hg hb hs) fun D σ H ⟨w, ρ, S, d, A, eo, q⟩ => by
    refine ⟨w, ρ, S, _, _, A, eo.xo, fun x S1 q1 v w1 H1 l1 A1 r1 => ?_, q⟩
    cases x with
    | ref n =>
      obtain ⟨ds, hS, q1⟩ := q1
      obtain ⟨ev, hn⟩ := rep_ref r1
      subst ev
      obtain ⟨_, vs0, e0, rr0⟩ := A1.st n _ hS
      refine ⟨_, rfl, ⟨vs0, SqL.of e0⟩, ?_⟩
      refine ⟨fun i m σ H => m = ds.length - i ∧ i ≤ ds.length ∧ ∃ w' ρ' S', Le w1 w' ∧ At g w' ρ' S' σ H ∧ forLr n ds fg fb d (ds.drop i) ρ' S', ⟨ds.length, by simp, Nat.zero_le _, w1, ρ, S1, Le.refl _, A1, q1⟩, ?_⟩
      rintro i m σ' H' ⟨rfl, hi, w2, ρ2, S2, l2, A2, q2⟩
      have adr : w2.φ n = w1.φ n := l2.s.p n hn
      by_cases hlt : i < ds.length
      · have hd : ds[i]? = some ds[i] := by simp [hlt]
        rw [drop_cons hd] at q2
        obtain ⟨hS2, q2⟩ := q2
        obtain ⟨_, vs, e2, rr⟩ := A2.st n _ hS2
        rw [adr] at e2
        obtain ⟨v, hv, rv⟩ := rr.got hd
        refine .inr ⟨⟨vs, v, SqL.of e2, hv⟩, fun σ3 H3 => ∃ w3 ρ3 S3, Le w1 w3 ∧ At g w3 ρ3 S3 σ3 H3 ∧ forLr n ds fg fb d (ds.drop (i + 1)) ρ3 S3, fun σ3 H3 p => ⟨_, by omega, rfl, hlt, p⟩, fun x H4 y => ?_⟩
        obtain ⟨ey, y⟩ := y
        subst ey
        have ex := y vs (SqL.of e2)
        rw [hv] at ex
        cases ex
        refine ⟨w2, ρ2, S2, _, _, A2, rv, fun ρ5 q5 σ5 A5 _ => ?_, q2⟩
        exact ⟨w2, ρ5, S2, { d with nx := forLr n ds fg fb d (ds.drop (i + 1)), ct := forLr n ds fg fb d (ds.drop (i + 1)), bk := d.nx }, A5, ⟨fun ρ' S' k w' σ'' H'' l A => ⟨w', ρ', S', l2.trans l, A, k⟩, fun r S' k v w' H'' l A rr => eo.rt r S' k v w' H'' (l1.trans (l2.trans l)) A rr, fun ρ' S' k w' σ'' H'' l A => eo.nx ρ' S' k w' σ'' H'' (l1.trans (l2.trans l)) A,
          fun ρ' S' k w' σ'' H'' l A => ⟨w', ρ', S', l2.trans l, A, k⟩, fun x ρ' S' k w' σ'' H'' cls dd l A r => eo.ex x ρ' S' k w' σ'' H'' cls dd (l1.trans (l2.trans l)) A r, fun ds S' k a vs w' H'' l => eo.rl ds S' k a vs w' H'' (l1.trans (l2.trans l))⟩, q5⟩
      · have ei : i = ds.length := by omega
        subst ei
        rw [List.drop_length] at q2
        obtain ⟨hS2, q2⟩ := q2
        obtain ⟨_, vs, e2, rr⟩ := A2.st n _ hS2
        rw [adr] at e2
        exact .inl ⟨⟨vs, SqL.of e2, by rw [rr.length]; exact Nat.le_refl _⟩, eo.nx ρ2 S2 q2 w2 σ' H' (l1.trans l2) A2⟩
    | _ => exact q1.elim
/-- o.append(e), o a list of the store -/
def wAppR (fo fe : FE) (d : Fin) (ρ : List Sl) (S : Store) : Prop := fo ρ S (fun o S1 => match o with
  | .ref n => (∃ ds0, S1[n]? = some (some (.lst ds0))) ∧ fe ρ S1 (fun x S2 => ∃ ds, S2[n]? = some (some (.lst ds)) ∧ Small (ds.length + 1) ∧ d.nx ρ (S2.set n (some (.lst (ds ++ [x]))))) (fun x S' => d.ex x ρ S')
  | _ => False) (fun x S' => d.ex x ρ S')
theorem mappR (ho : EV g X W o fo) (he : EV g X W e fe)
    (hbase : attributeBase o "append" X.env (eval o X.env) = eval o X.env := by rfl)
    (hfew : ((backTo cpos (starEach [e] X.env)).all (fun x => !x.1) && (backToKw cpos (keywordEach [] X.env)).all (fun x => x.1.isSome) && decide (([e] : List Expr).length + ([] : List Keyword).length + (if ([] : List Keyword).isEmpty then 0 else 1) < 30)) = true := by rfl)
    (hline : (apos.endLine == cpos.line) = true := by rfl) (hs : starEach [e] X.env = (false, eval e X.env) :: starEach [] X.env := by rfl) (hsw : swapsWith (.Call (.Attribute o "append" apos) [e] [] cpos) none pos.line X.env = pure false := by rfl) :
    ES g X W (.Expr (.Call (.Attribute o "append" apos) [e] [] cpos) pos) (wAppR fo fe) :=
  PS.imp (ps_expr (pe_bm PySem.F.plainAttrs_list PySem.F.slot_list_append PySem.F.type_list_append mt_append ho (pa_cons he pa_nil hs) hbase hfew hline hs rfl) hsw) fun D σ H ⟨w, ρ, S, d, A, eo, q⟩ => by
    refine ⟨w, ρ, S, _, _, A, eo.xo, fun x S1 q1 v w1 H1 l1 A1 r1 => ?_, q⟩
    cases x with
    | ref n =>
      obtain ⟨⟨ds0, hS0⟩, q1⟩ := q1
      obtain ⟨ev, hn⟩ := rep_ref r1
      subst ev
      obtain ⟨_, vs0, e0, _⟩ := A1.st n _ hS0
      refine ⟨.inl ⟨rfl, vs0, SqL.of e0⟩, ?_⟩
      refine ⟨w1, ρ, S1, _, _, A1, (eo.later l1).xo, fun y S2 q2 vy w2 H2 l2 A2 ry => ?_, q1⟩
      obtain ⟨ds, hS, sm, q2⟩ := q2
      obtain ⟨_, vs, e2, rr⟩ := A2.st n _ hS
      have adr : w2.φ n = w1.φ n := l2.s.p n hn
      have e2' := e2
      rw [adr] at e2'
      refine ⟨w1.φ n, vs, vy, rfl, rfl, e2', by rw [rr.length]; exact sm.lt, ?_⟩
      rw [← adr]
      exact eo.nx ρ _ q2 w2 σ _ (l1.trans l2) (A2.write (o' := .lst (ds ++ [y])) hS ⟨_, upd_same, rr.app (.one ry)⟩)
    | _ => exact q1.elim
end
/-- the same by an invariant -/
theorem forRI {fg : FG} {fb : FS} {d : Fin} (P : Nat → List Sl → Store → Prop) {n : Nat} {ds : List D} {ρ : List Sl} {S : Store} (h0 : P 0 ρ S) (hS : ∀ i ρ S, P i ρ S → S[n]? = some (some (.lst ds)))
    (hs : ∀ (i : Nat) (x : D) (ρ : List Sl) (S : Store) (N : List Sl → Store → Prop), ds[i]? = some x → P i ρ S → (∀ ρ' S', P (i + 1) ρ' S' → N ρ' S') → fg x ρ (fun ρ' => fb { d with nx := N, ct := N, bk := d.nx } ρ' S))
    (hd : ∀ ρ S, P ds.length ρ S → d.nx ρ S) : forLr n ds fg fb d ds ρ S := by
  have key : ∀ (k i : Nat) (ρ : List Sl) (S : Store), i + k = ds.length → P i ρ S → forLr n ds fg fb d (ds.drop i) ρ S := by
    intro k
    induction k with
    | zero =>
      intro i ρ S hn p
      have e : i = ds.length := by omega
      subst e
      rw [List.drop_length]
      exact ⟨hS _ _ _ p, hd ρ S p⟩
    | succ k ih =>
      intro i ρ S hn p
      have hlt : i < ds.length := by omega
      have hx : ds[i]? = some ds[i] := by simp [hlt]
      rw [drop_cons hx]
      exact ⟨hS _ _ _ p, hs i _ ρ S _ hx p fun ρ' S' p' => ih (i + 1) ρ' S' (by omega) p'⟩
  exact key ds.length 0 ρ S (by omega) h0
end R3

/-! R3ba: stars in displays, rows times a number, rows backwards. -/
namespace R3
open PySem PySem.Spec PyProof.Rows L2
section
variable {g : Sg} {X : Cx} {W : WX} {a b c e : Expr} {pos p : Pos} {fa fb fe : FE} {es : List Expr} {fr : FA}
/-- *e, .. -/
def wStar (f : FE) (r : FA) (ρ : List Sl) (S : Store) (K : List D → Store → Prop) (ex : KX) : Prop := f ρ S (fun x S1 => match x with
  | .tup xs => r ρ S1 (fun ys S2 => K (xs ++ ys) S2) ex
  | .lst xs => r ρ S1 (fun ys S2 => K (xs ++ ys) S2) ex
  | _ => False) ex
theorem astar (hK : g.K = X.K) (ha : EV g X W e fe) (hr : EA g X W es fr) (hs : starEach (.Starred e p :: es) X.env = (true, eval e X.env) :: starEach es X.env := by rfl) : EA g X W (.Starred e p :: es) (wStar fe fr) :=
  PA.imp (StX.pa_star ha hr hs) fun σ H Q ⟨w, ρ, S, K, ex, A, xo, ko, q⟩ => ⟨w, ρ, S, _, ex, A, xo, fun x S1 q1 v w1 H1 l1 A1 r1 => by
    split at q1
    · cases r1 with
      | tup h rr =>
        refine ⟨_, _, rfl, .inl (by rw [← hK]; exact A1.t h), ⟨w1, ρ, S1, _, ex, A1, xo.later l1, fun ys S2 q2 us w2 H2 l2 A2 r2 => ?_, q1⟩⟩
        exact ko _ S2 q2 _ w2 H2 (l1.trans l2) A2 ((rr.mono l2.s).app r2)
    · cases r1 with
      | lst h rr =>
        refine ⟨_, _, rfl, .inr (SqL.of (A1.ih _ _ h)), ⟨w1, ρ, S1, _, ex, A1, xo.later l1, fun ys S2 q2 us w2 H2 l2 A2 r2 => ?_, q1⟩⟩
        exact ko _ S2 q2 _ w2 H2 (l1.trans l2) A2 ((rr.mono l2.s).app r2)
    · exact q1.elim, q⟩
/-- xs * n, a new list -/
def wRep (f h : FE) (ρ : List Sl) (S : Store) (K : List D → Store → Prop) (ex : KX) : Prop := f ρ S (fun x S1 => h ρ S1 (fun y S2 => match x, y with
  | .lst xs, .int k => (-1000000 ≤ k ∧ k ≤ 1000000 ∧ Small (xs.length * k.toNat)) ∧ K (List.replicate k.toNat xs).flatten S2
  | _, _ => False) ex) ex
theorem erep (ha : EV g X W a fa) (hb : EV g X W b fb) : EL g X W (.BinOp a .Mult b pos) (wRep fa fb) :=
  PE.imp (pe_op op_rep ha hb) fun σ H Q ⟨w, ρ, S, K, ex, A, xo, ko, q⟩ => ⟨w, ρ, S, _, ex, A, xo, fun x S1 q1 v w1 H1 l1 A1 r1 => ⟨w1, ρ, S1, _, ex, A1, xo.later l1, fun y S2 q2 u w2 H2 l2 A2 r2 => by
    have r1' := r1.mono l2.s
    split at q2
    · cases r1' with
      | lst h1 rr1 =>
        obtain rfl := rep_int r2
        obtain ⟨⟨k1, k2, k3⟩, q2⟩ := q2
        exact ⟨_, _, _, rfl, rfl, A2.ih _ _ h1, by omega, by omega, by rw [rr1.length]; exact k3.line, fun p hp => ko _ S2 q2 p _ w2 _ (l1.trans l2) (A2.grow (same_new hp)) upd_same (fresh_new A2 hp) (rr1.rep _)⟩
    · exact q2.elim, q1⟩, q⟩
/-- xs[::-1], a new list -/
def wRev (f : FE) (ρ : List Sl) (S : Store) (K : List D → Store → Prop) (ex : KX) : Prop := f ρ S (fun x S1 => match x with
  | .lst xs => K xs.reverse S1
  | _ => False) ex
theorem erev {k : Nat} {p1 p2 p3 : Pos} (ha : EV g X W e fe) : EL g X W (.Subscript e (.Slice none none (some (.UnaryOp .USub (.Constant (.int 1) k p1) p2)) p3) pos) (wRev fe) :=
  PE.imp (pe_revL ha) fun σ H Q ⟨w, ρ, S, K, ex, A, xo, ko, q⟩ => ⟨w, ρ, S, _, ex, A, xo, fun x S1 q1 v w1 H1 l1 A1 r1 => by
    split at q1
    · cases r1 with
      | lst h rr => exact ⟨_, _, rfl, SqL.of (A1.ih _ _ h), fun p hp => ko _ S1 q1 p _ w1 _ l1 (A1.grow (same_new hp)) upd_same (fresh_new A1 hp) rr.rev⟩
    · exact q1.elim, q⟩
end
end R3

/-! R3bb: promises of defs that are called where an error is held; repr of what may be an instance. -/
namespace R3
open PySem PySem.Spec PyProof.Rows L2
/-- room, whatever is handled -/
structure RoomN (k : Nat) (A : Around) : Prop where
  rm : L2H.RoomH k A
  gd : A.guards = some []
theorem RoomN.mono {j k : Nat} {A : Around} (r : RoomN k A) (h : j ≤ k) : RoomN j A := ⟨r.rm.mono h, r.gd⟩
theorem RoomN.deeper {k : Nat} {A : Around} (r : RoomN (k + 1) A) (env : PySem.Env) : RoomN k (A.deeper env) := ⟨r.rm.deeper env, r.gd⟩
theorem RoomN.in1 {k : Nat} {A : Around} (r : RoomN (k + 1) A) : RoomN k A.in1 := ⟨⟨by have := r.rm.dp; show A.depth + 3 * k + 5 < _; omega, by have := r.rm.un; show A.units + 1 + 16 * k + 200 < _; omega⟩, r.gd⟩
theorem RoomN.units {k : Nat} {A : Around} (r : RoomN k A) : A.units + 64 < cLine := by have := r.rm.un; omega
theorem Room.n {k : Nat} {A : Around} (r : Room k A) : RoomN k A := ⟨L2H.roomH_of r.toRoom, r.gd⟩
theorem Room.held {k : Nat} {A : Around} (r : Room k A) (h : Option Value) : RoomN k (A.mark h) := ⟨⟨r.toRoom.dp, r.toRoom.un⟩, r.gd⟩
/-- a def's promise there -/
def FnN (P : Program) (w : World) (K : PySem.W.Frag) (mg : Str → Option Value) (base : Heap) (CX : CXT) (k : Nat) (f : Addr) (sp : Sp) : Prop :=
  ∀ (A : Around) (outer : List PySem.Env) (s : Shared) (H : Hp) (us : List Value) (vs : List V) (Q : VK) (E : XK) (p : Addr × Obj), RoomN k A → L2H.PinOk outer H s p → Env0 P w K mg base A outer s H → Vals vs us → sp vs H Q E → codeAny (model P w) A (.call (.ref f) ⟨us, []⟩) (CR CX outer P w H s Q E) s
section
variable {P : Program} {w : World} {K : PySem.W.Frag} {mg : Str → Option Value} {base : Heap} {CX : CXT} {j k : Nat} {f : Addr} {fd : FuncData} {ps : List Str} {sp sp' : Sp}
theorem FunD.okN {x qual : Str} {params : Arguments} {body : List Stmt} {scope : Scope} {dvs : List V} {kws : List (Str × V)} {N : List Str} (F : FunD K x qual params body scope dvs kws f fd) (hb : Binds K fd ps []) (S : FnScope N ps scope) (len : ∀ vs H Q E, sp vs H Q E → vs.length = ps.length)
    (hbody : ∀ (cdv : Value) (A : Around) (outer : List PySem.Env) (s : Shared) (H : Hp) (vs : List V) (Q : VK) (E : XK) (p : Addr × Obj), RoomN k (A.deeper (envOfC qual scope s.heap.objs.size f cdv)) → sp vs H Q E →
      ∃ t, PSs (L2H.cxH CX P w K mg base N qual scope f cdv A outer s H E p) body t ∧ t { nx := fun _ H' => Q .non H', rt := Q } (start N vs) H) : FnN P w K mg base CX (k + 1) f sp := by
  obtain ⟨oc, od, dV, kV, doc, pm, an, cdv, ct, osl, rfl, lk, hcd, _, _⟩ := F.ex
  intro A outer s H us vs Q E p hr hpin e0 r hsp
  have hl := len _ _ _ _ hsp
  have KX : K.In s.heap := e0.mod.kin.keeps fun b o e => (e0.bs b o e).1
  have b := hb s us KX (by rw [List.append_nil, ← r.length]; exact hl)
  rw [List.append_nil] at b
  have kinds : ∀ y ∈ ps.zip us, scope.names.lookup y.1 = some .local ∨ (scope.names.lookup y.1 = some .cell ∧ ((cellsFrom (s.heap.objs.size + 1) scope.names []).lookup y.1).isSome = true) := fun ⟨n, v⟩ hy =>
    (S.par n (List.of_mem_zip hy).1).imp id fun q => ⟨q, PySem.W.cellsFrom_some _ _ _ (.inl q)⟩
  refine codeAny_call_function hr.rm.depth (KX _ _ lk) rfl S.co S.gen rfl (PySem.W.codeRec_of KX hcd) (b _ _ _ _ ?_)
  refine wpAny_newFunctionEnv_cells S.kind kinds fun env he s1 x => ?_
  subst he
  refine ⟨(e0.mod.nolimit.keeps fun b o e => (e0.bs b o e).1).keeps x.toInCall.keep, codeAny_func ?_⟩
  obtain ⟨t, ht, hq⟩ := hbody cdv A outer s H vs Q E p (hr.deeper _) hsp
  have I : Inv (L2H.cxH CX P w K mg base N qual scope f cdv A outer s H E p) [] (start N vs) H s1 := L2H.inv_startH S hpin e0 hl r x
  refine wpAny_mono (ht.run [] s1 (start N vs) H _ I hq) (fun fl s' hs => ?_) fun e s' hs => hs
  have fin : ∀ {σ' : L2.St} {H' : Hp} {v : V} {u : Value}, Inv (L2H.cxH CX P w K mg base N qual scope f cdv A outer s H E p) [] σ' H' s' → RelV v u → Q v H' → CE outer P w H s Q u s' := fun {σ' H' v u} J rv q => ⟨v, H', J.os, J.bare, J.base, J.hok, rv, q⟩
  cases fl with
  | ret u => obtain ⟨v, σ', H', J, rv, q⟩ := hs; exact fin J rv q
  | next => obtain ⟨σ', H', J, q⟩ := hs; exact fin (v := V.non) (u := Value.none) J rfl q
  | brk => obtain ⟨_, _, _, q⟩ := hs; exact q.elim
  | cont => obtain ⟨_, _, _, q⟩ := hs; exact q.elim
end
section
variable {P : Program} {w : World} {g : Sg} {mg : Str → Option Value} {base : Heap} {f : Addr} {fd : FuncData} {x qual : Str} {params : Arguments} {body : List Stmt} {scope : Scope} {dvs : List V} {kws : List (Str × V)}
theorem def_okN {N ps : List Str} {k : Nat} {C : Ct} {fs : FS} (F : FunD g.K x qual params body scope dvs kws f fd) (bd : Binds g.K fd ps []) (S : FnScope N ps scope)
    (hb : ∀ (cdv : Value) (A : Around) (outer : List PySem.Env) (s : Shared) (H : Hp) (E : XK) (p : Addr × Obj), RoomN k (A.deeper (envOfC qual scope s.heap.objs.size f cdv)) → EB g (L2H.cxH (L2.CX P w) P w g.K mg base N qual scope f cdv A outer s H E p) (wD E) body fs)
    (hc : ∀ ds S K ex, ds.length = ps.length → C ds S K ex → fs { nx := fun _ S' => K .non S', rt := K, ex := fun x _ S' => ex x S' } (startD N.length ds) S) : FnN P w g.K mg base (L2.CX P w) (k + 1) f (spOf g ps.length C) := by
  refine FunD.okN F bd S (fun vs H Q E h => spOf_len h) fun cdv A outer s H vs Q E p hr h => ⟨_, hb cdv A outer s H E p hr, ?_⟩
  obtain ⟨w0, ds, St, K, ex, hn, A0, r, ko, xo, q⟩ := h
  exact ⟨w0, _, St, _, A0.start r, ⟨fun ρ' S' k w' σ' H' l A' => ko _ _ k _ w' H' l A'.bare .non, fun r S' k v w' H' l A' rr => ko _ _ k v w' H' l A' rr, fun _ _ z => False.elim z, fun _ _ z => False.elim z,
    fun x ρ' S' e w' σ' H' cls dd l A' r => xo x S' e w' H' cls dd l A'.bare r, fun _ _ z => False.elim z⟩, hc ds St K ex hn q⟩
end
section
variable {g : Sg} {X : Cx} {W : WX} {a b c e : Expr} {pos : Pos} {fa fb fe : FE} {es : List Expr} {fr : FA}
theorem run_ctN {A0 : Around} {k n : Nat} {C : Ct} {fn : Addr} {pins : List (Addr × Obj)} {s : Shared} {σ : L2.St} {H : Hp} {w : Wd} {ρ : List Sl} {S : Store} {ds : List D} {vs : List V} {us : List Value} {K : KD} {ex : KX} {Q : VK} {p : Addr × Obj}
    (F : FnN X.prog X.w X.K X.mg X.base (L2.CX X.prog X.w) k fn (spOf g n C)) (hr : RoomN k A0) (hp : p ∈ X.pn) (e0 : Env0 X.prog X.w X.K X.mg X.base A0 X.stack s H) (tk : Takes X W) (I : Inv X pins σ H s) (rv : Vals vs us) (A : At g w ρ S σ H) (rr : Reps g w vs ds) (hn : ds.length = n)
    (xo : XOk g W σ ρ w ex) (ko : KOk g w ρ σ K Q) (q : C ds S K ex) :
    codeAny (model X.prog X.w) A0 (.call (.ref fn) ⟨us, []⟩) (fun r s' => match r with | .ok (.ret v) => EP X pins σ Q v s' | .ok _ => False | .error e => X.xe e s') s := by
  have P1 := I.pin p (List.mem_append_left _ hp)
  have hpin : L2H.PinOk X.stack H s p := ⟨P1.1, P1.2.1, fun hm => (List.mem_cons.mp (I.stkSub p.1 hm)).elim P1.2.2.1 P1.2.2.2.1, P1.2.2.2.2⟩
  refine codeAny_mono (F A0 X.stack s H us vs Q (WE W σ) p hr hpin e0 rv ?_) fun r s' hq => ?_
  · refine ⟨w.inner S H, ds, S, K, ex, hn, A.enter, reps_inner rr, fun d S' k v w' H' l A' r' => ?_, fun x S' e w' H' cls dd l A' r' => ?_, q⟩
    · obtain ⟨l2, A2⟩ := A.leave l A'
      exact ko d S' k v _ H' l2 A2 (r'.mono sub_outer)
    · obtain ⟨l2, A2⟩ := A.leave l A'
      obtain ⟨h1, a, vs, h2, h3, h4, h5⟩ := r'
      exact xo x S' e _ H' cls dd l2 A2 ⟨h1, a, vs, h2, h3, h4, h5.mono sub_outer⟩
  · cases r with
    | error e => exact passAt tk σ pins H s e s' I hq
    | ok fl =>
      cases fl with
      | ret u => exact I.after hq
      | next => exact False.elim hq
      | brk => exact False.elim hq
      | cont => exact False.elim hq
/-- a special method, called where an error is held -/
structure OwnH (P : Program) (w : World) (mg : Str → Option Value) (base : Heap) (g : Sg) (k : Nat) (c : Nat) (m : Str) (n : Nat) (C : Ct) : Prop where
  ex : ∃ f, PySem.W.findIn g.K (.ref (g.ad c)) m = some (some (.ref f)) ∧ PySem.W.isFn g.K (.ref f) = true ∧ FnN P w g.K mg base (L2.CX P w) k f (spOf g n C)
theorem OwnH.held {P : Program} {w : World} {mg : Str → Option Value} {base : Heap} {g : Sg} {Y : Xs} {k c n : Nat} {m : Str} {C : Ct} (F : OwnH P w mg base g k c m n C) : OwnH P w mg base (g.held Y) k c m n C := by
  obtain ⟨f, h1, h2, h3⟩ := F.ex
  exact ⟨f, h1, h2, fun A outer s H us vs Q E p hr hp e0 r h => h3 A outer s H us vs Q E p hr hp e0 r (spOf_held h)⟩
theorem OwnN.held {P : Program} {w : World} {mg : Str → Option Value} {base : Heap} {g : Sg} {Y : Xs} {k c n : Nat} {m : Str} {C : Ct} (F : OwnN P w mg base g k c m n C) : OwnN P w mg base (g.held Y) k c m n C := by
  obtain ⟨f, h1, h2, h3⟩ := F.ex
  exact ⟨f, h1, h2, h3.imp fun vs H Q E h => spOf_held h⟩
/-! ### repr of plain data or of an instance -/
def reprA (c : Nat) (C : Ct) (K : KD) (ex : KX) (ds : List D) (S : Store) : Prop := match ds with
  | [.obj c' es] => c' = c ∧ C [.obj c' es] S (fun d S2 => ∃ z, bkStr d = some z ∧ K z S2) ex
  | _ => rReprD ds S K
def wReprA (c : Nat) (C : Ct) (f : FA) (ρ : List Sl) (S : Store) (K : KD) (ex : KX) : Prop := f ρ S (reprA c C K ex) ex
theorem reprA_of {c : Nat} {C : Ct} (hK : g.K = X.K) (hun : X.A.units + 64 < cLine) (hgd : X.A.guards = some [])
    (run : ∀ {pins : List (Addr × Obj)} {s : Shared} {σ : L2.St} {H : Hp} {w : Wd} {ρ : List Sl} {S : Store} {x : D} {p : Addr} {K : KD} {ex : KX} {Q : VK}, Inv X pins σ H s → At g w ρ S σ H → Rep g w (.ref p) x → XOk g W σ ρ w ex → KOk g w ρ σ K Q → C [x] S K ex → ∃ fn, PySem.W.findIn X.K (.ref (g.ad c)) "__repr__" = some (some (.ref fn)) ∧ PySem.W.isFn X.K (.ref fn) = true ∧ wpAny (model X.prog X.w) X.A.in1 (call (.ref fn) [.ref p]) (EP X pins σ Q) X.xe s)
    {p : Pos} (hg : Gl X "repr") (hm : X.mg "repr" = none) (ha : EA g X W [e] fr)
    (hs : starEach [e] X.env = (false, eval e X.env) :: starEach [] X.env := by rfl) (hpl : (backTo pos (starEach [] X.env)).any (·.1) = false := by rfl) : EV g X W (.Call (.Name "repr" p) [e] [] pos) (wReprA c C fr) := by
  refine ⟨fun pins s σ H Q I h => ?_⟩
  obtain ⟨w, ρ, S, K, ex, A, xo, ko, q⟩ := h
  refine wpAny_Call_Name_kw (ld_blt I hg hm boot_repr ?_ (by decide) (by decide))
  refine PyProof.Rows.callWith_builtin1 (thn (rdA_run ha pos I A xo q) fun us s1 ⟨vs, H1, w1, ds, S1, I1, rv, l1, A1, r1, q1⟩ => ?_) hs hpl
  unfold reprA at q1
  split at q1
  · rename_i c' es
    obtain ⟨rfl, q1⟩ := q1
    obtain ⟨v, rfl, rx⟩ := r1.inv1
    obtain ⟨u, rfl, ru⟩ := vals1 rv
    obtain ⟨p, ox, od, rfl, rfl, J⟩ := inst_of (c := c') (ds := es) I1 A1 rx (by unfold insOf; simp) ru
    obtain ⟨m, hF⟩ := I1.fr
    obtain ⟨fn, h1, h2, hr⟩ := run (Q := fun v H2 => ∃ d w2 S2 z, Le w1 w2 ∧ At g w2 ρ S2 σ H2 ∧ Rep g w2 v d ∧ bkStr d = some z ∧ K z S2) I1 A1 rx (xo.later l1) (fun d S2 ⟨z, hz, kz⟩ v w2 H2 l2 A2 r2 => ⟨d, w2, S2, z, l2, A2, r2, hz, kz⟩) q1
    refine PySem.W.repr_K (by show X.A.units + 1 < cLine; omega) hF I1.ok.mod.kin J h1 h2 (wpAny_mono hr (fun r s2 hb => ?_) fun _ _ y => y)
    obtain ⟨v, H2, I2, rv2, d, w2, S2, z, l2, A2, r2, hz, kz⟩ := hb
    unfold bkStr at hz
    split at hz
    · cases hz
      obtain rfl := rep_str r2
      obtain ⟨t, rfl⟩ := rv2
      exact ⟨.str _, H2, I2, ⟨t, rfl⟩, ko _ _ kz _ w2 H2 (l1.trans l2) A2 (.str _)⟩
    · cases hz
  · exact crepr hK hun hgd pins s1 σ H1 w1 ρ S1 ds vs us K Q I1 rv A1 r1 (ko.later l1) q1
theorem ereprA {k j c : Nat} {C : Ct} {p : Pos} (F : OwnN X.prog X.w X.mg X.base g k c "__repr__" 1 C) (hK : g.K = X.K) (hr : Room j X.A) (hk : k + 1 ≤ j) (tk : Takes X W) (hg : Gl X "repr") (hm : X.mg "repr" = none) (ha : EA g X W [e] fr)
    (hs : starEach [e] X.env = (false, eval e X.env) :: starEach [] X.env := by rfl) (hpl : (backTo pos (starEach [] X.env)).any (·.1) = false := by rfl) : EV g X W (.Call (.Name "repr" p) [e] [] pos) (wReprA c C fr) :=
  reprA_of hK hr.units hr.gd (fun I A rx xo ko q => by
    obtain ⟨fn, h1, h2, F⟩ := F.ex
    rw [hK] at h1 h2 F
    exact ⟨fn, h1, h2, run1 F (hr.mono hk).in1 I.env0.in1 tk I A rx xo ko q⟩) hg hm ha hs hpl
theorem ereprH {k j c : Nat} {C : Ct} {p : Pos} {pp : Addr × Obj} (F : OwnH X.prog X.w X.mg X.base g k c "__repr__" 1 C) (hK : g.K = X.K) (hr : RoomN j X.A) (hk : k + 1 ≤ j) (hp : pp ∈ X.pn) (tk : Takes X W) (hg : Gl X "repr") (hm : X.mg "repr" = none) (ha : EA g X W [e] fr)
    (hs : starEach [e] X.env = (false, eval e X.env) :: starEach [] X.env := by rfl) (hpl : (backTo pos (starEach [] X.env)).any (·.1) = false := by rfl) : EV g X W (.Call (.Name "repr" p) [e] [] pos) (wReprA c C fr) :=
  reprA_of hK hr.units hr.gd (fun {pins s σ H w ρ S x q K ex Q} I A rx xo ko qq => by
    obtain ⟨fn, h1, h2, F⟩ := F.ex
    rw [hK] at h1 h2 F
    exact ⟨fn, h1, h2, wpAny_call (run_ctN (W := W) (us := [.ref q]) (vs := [.ref q]) F (hr.mono hk).in1 hp I.env0.in1 tk I (.cons rfl .nil) A (.one rx) rfl xo ko qq)⟩) hg hm ha hs hpl
end
end R3

/-! R3bc: += and -= of ints, at a name, at a place of an own list. -/
namespace R3
open PySem PySem.Spec PyProof.Rows L2
section
variable {g : Sg} {X : Cx} {W : WX} {a b c e : Expr} {pos p p2 : Pos} {fa fb fe fv fj : FE} {x : Str}
def rGetL (K : PySem.W.Frag) : V → V → Hp → VK → Prop := fun o i H Q => ∃ p xs k v, o = .ref p ∧ i = .int k ∧ SqL K H p xs ∧ atI xs k = some v ∧ Q v H
theorem get_list : PGet X (rGetL X.K) := by
  intro pins s σ H o i ov iv Q I ro ri h
  obtain ⟨p, xs, k, z, rfl, rfl, hq, he, q⟩ := h
  cases ro
  obtain ⟨t, rfl⟩ := ri
  obtain ⟨its, r, pl, hz⟩ := I.list hq
  obtain ⟨j, h1, h2, h3, h4, h5⟩ := atI_get he
  obtain ⟨w, ew, rw'⟩ := r.get h2
  have hl := r.length
  have hn := line63
  have fin : EP X pins σ Q w s := ⟨z, H, I, rw', q⟩
  by_cases h0 : 0 ≤ k
  · have hj : k.toNat = j := by
      rw [seqIndex_of h0 h5] at h1
      exact Option.some.inj h1
    exact wpAny_getItem_list pl.isList h0 (by omega) (by rw [hj]; simpa using ew) fin
  · have hj : (k + (its.toArray.size : Int)).toNat = j := by
      rw [seqIndex_neg (by omega) h4] at h1
      rw [List.size_toArray, ← hl]
      exact Option.some.inj h1
    exact wpAny_getItem_list_neg pl.isList (by omega) (by rw [List.size_toArray] <;> omega) (by omega) (by rw [hj]; simpa using ew) fin
/-- xs[j] op= v, xs an own list -/
def wAugIx (i : Nat) (f : Int → Int → Int) (fj fv : FE) (d : Fin) (ρ : List Sl) (S : Store) : Prop := match Env.at ρ i with
  | .own (.lst ds) => fj ρ S (fun y S1 => match y with
      | .int k => ∃ j m, ixN ds.length k = some j ∧ ds[j]? = some (.int m) ∧ fv ρ S1 (fun z S2 => match z with
        | .int n => d.nx (Env.put ρ i (.own (.lst (ds.set j (.int (f m n)))))) S2
        | _ => False) (fun x S' => d.ex x ρ S')
      | _ => False) (fun x S' => d.ex x ρ S')
  | _ => False
theorem saugix {op : Operator} {f : Int → Int → Int} (i : Nat) (ho : PIp X op (ipI f)) (hK : g.K = X.K) (hj : EV g X W b fj) (hv : EV g X W e fv) (hN : X.N[i]? = some x := by rfl) (hvis : Vis X.env.scope x := by first | exact Or.inl rfl | exact Or.inr (Or.inl rfl) | exact Or.inr (Or.inr rfl)) (hd : (x == ("__debug__" : Str)) = false := by decide) (hcd : (x == ("__classdict__" : Str)) = false := by decide)
    (ha : ∀ ov iv new, augStore b ov iv new = (do holding [new, ov, iv] (setItem ov iv new); release [new, ov, iv] []; pure .next) := by intros; rfl) : ES g X W (.AugAssign (.Subscript (.Name x p) b p2) op e pos) (wAugIx i f fj fv) :=
  PS.imp (ps_augS (pe_var hN hvis hd hcd) hj get_list hv ho set_list ha) fun D σ H ⟨w, ρ, S, d, A, eo, q⟩ => by
    unfold wAugIx at q
    split at q
    · rename_i ds hc
      obtain ⟨a, h1, h2, ⟨vs, e1, rr⟩, h4, h5⟩ := A.own i _ hc
      refine ⟨.ref a, h1, w, ρ, S, _, _, A, eo.xo, fun y S1 q1 vy w1 H1 l1 A1 r1 => ?_, q⟩
      cases y with
      | int k =>
        obtain ⟨j, m, hj, hm, q1⟩ := q1
        obtain ⟨a', g1, g2, ⟨vs', e2, r2'⟩, g4, g5⟩ := A1.own i _ hc
        rw [h1] at g1
        cases g1
        obtain ⟨v, hv1, hv2⟩ := r2'.got hm
        have hat : atI vs' k = some v := by
          unfold atI
          rw [r2'.length, hj]
          exact hv1
        refine ⟨a, vs', k, v, rfl, rep_int r1, SqL.of e2, hat, ?_⟩
        refine ⟨w1, ρ, S1, _, _, A1, (eo.later l1).xo, fun z S2 q2 vz w2 H2 l2 A2 r2 => ?_, q1⟩
        cases z with
        | int n =>
          refine ⟨m, n, rep_int hv2, rep_int r2, ?_⟩
          obtain ⟨a'', k1, k2, ⟨vs'', e3, r3'⟩, k4, k5⟩ := A2.own i _ hc
          rw [h1] at k1
          cases k1
          refine ⟨a, vs'', k, j, rfl, rep_int r1, e3, by rw [r3'.length]; exact hj, ?_⟩
          exact eo.nx _ S2 q2 w2 σ _ (l1.trans l2) (A2.mut (o' := .lst (ds.set j (.int (f m n)))) hc h1 ⟨_, upd_same, Reps.set (.int _) j r3'⟩)
        | _ => exact q2.elim
      | _ => exact q1.elim
    · exact q.elim
/-- x op= v -/
def wAugN (i : Nat) (f : Int → Int → Int) (fv : FE) (d : Fin) (ρ : List Sl) (S : Store) : Prop := match Env.at ρ i with
  | .val (.int m) => fv ρ S (fun z S1 => match z with
    | .int n => d.nx (Env.put ρ i (.val (.int (f m n)))) S1
    | _ => False) (fun x S' => d.ex x ρ S')
  | _ => False
theorem saug {op : Operator} {f : Int → Int → Int} {i : Nat} (ho : PIp X op (ipI f)) (hN : X.N.Nodup) (hi : X.N[i]? = some x) (hx : Loc X.env.scope x) (hv : EV g X W e fv) (hf : X.fn x = true ∨ X.env.scope.names.lookup x = some .local := by first | exact .inl rfl | exact .inr rfl | assumption) :
    ES g X W (.AugAssign (.Name x p) op e pos) (wAugN i f fv) :=
  PS.imp (ps_aug hN hi hx hv ho hf) fun D σ H ⟨w, ρ, S, d, A, eo, q⟩ => by
    unfold wAugN at q
    split at q
    · rename_i m hc
      obtain ⟨v, h1, h2⟩ := A.val i _ hc
      obtain rfl := rep_int h2
      refine ⟨_, h1, w, ρ, S, _, _, A, eo.xo, fun z S1 q1 vz w1 H1 l1 A1 r1 => ?_, q⟩
      cases z with
      | int n => exact ⟨m, n, rfl, rep_int r1, eo.nx _ S1 q1 w1 _ H1 l1 (A1.put (.int _))⟩
      | _ => exact q1.elim
    · exact q.elim
end
end R3

/-! R3bd: calls with keywords. -/
namespace R3
open PySem PySem.Spec PyProof.Rows L2
/-- the items at the places is -/
def pickI {α : Type} (is : List Nat) (l : List α) : List α := is.filterMap (l[·]?)
theorem pick_len {α : Type} {l : List α} : ∀ {is : List Nat}, (∀ i ∈ is, i < l.length) → (pickI is l).length = is.length
  | [], _ => rfl
  | i :: is, h => by
    have hi := h i List.mem_cons_self
    unfold pickI
    rw [List.filterMap_cons, List.getElem?_eq_getElem hi]
    exact congrArg (· + 1) (pick_len fun j hj => h j (List.mem_cons_of_mem _ hj))
theorem Vals.pick {vs : List V} {us : List Value} (r : Vals vs us) : ∀ is : List Nat, Vals (pickI is vs) (pickI is us)
  | [] => .nil
  | i :: is => by
    have ih := Vals.pick r is
    unfold pickI at ih ⊢
    rw [List.filterMap_cons, List.filterMap_cons]
    cases e : vs[i]? with
    | none =>
      have hl := List.getElem?_eq_none_iff.mp e
      rw [List.getElem?_eq_none (by rw [← r.length]; exact hl)]
      exact ih
    | some v =>
      obtain ⟨u, eu, ru⟩ := r.get e
      rw [eu]
      exact .cons ru ih
section
variable {g : Sg}
theorem Reps.pick {w : Wd} {vs : List V} {ds : List D} (r : Reps g w vs ds) : ∀ is : List Nat, Reps g w (pickI is vs) (pickI is ds)
  | [] => .nil
  | i :: is => by
    have ih := Reps.pick r is
    unfold pickI at ih ⊢
    rw [List.filterMap_cons, List.filterMap_cons]
    cases e : vs[i]? with
    | none =>
      have hl := List.getElem?_eq_none_iff.mp e
      rw [List.getElem?_eq_none (by rw [← r.length]; exact hl)]
      exact ih
    | some v =>
      obtain ⟨d, ed, rd⟩ := r.get e
      rw [ed]
      exact .cons rd ih
end
/-- a def's promise by positional values and keywords, as written -/
def FnK (P : Program) (w : World) (K : PySem.W.Frag) (mg : Str → Option Value) (base : Heap) (CX : CXT) (k : Nat) (f : Addr) (n : Nat) (ks : List Str) (sp : Sp) : Prop :=
  ∀ (A : Around) (outer : List PySem.Env) (s : Shared) (H : Hp) (us ws : List Value) (vs zs : List V) (Q : VK) (E : XK), Room k A → Env0 P w K mg base A outer s H → Vals vs us → Vals zs ws → vs.length = n → zs.length = ks.length → sp (vs ++ zs) H Q E →
    codeAny (model P w) A (.call (.ref f) ⟨us, ks.zip ws⟩) (CR CX outer P w H s Q E) s
section
variable {P : Program} {w : World} {K : PySem.W.Frag} {mg : Str → Option Value} {base : Heap} {CX : CXT} {k n : Nat} {f : Addr} {fd : FuncData} {ps ks : List Str} {sp sp' : Sp} {gg : List Value → List Value → List Value} {gV : List V → List V → List V}
theorem FnOk.kw (F : FnOk P w K mg base CX k f fd ps sp) (hb : KBn K fd ps n ks gg gV) (hsp : ∀ vs zs H Q E, vs.length = n → zs.length = ks.length → sp' (vs ++ zs) H Q E → sp (gV vs zs) H Q E) : FnK P w K mg base CX k f n ks sp' := fun A outer s H us ws vs zs Q E hr e0 r rz l1 l2 h =>
  F.run A outer s H ⟨us, ks.zip ws⟩ (gg us ws) (gV vs zs) Q E hr e0 (hb.to s us ws (e0.mod.kin.keeps fun b o e => (e0.bs b o e).1) (r.length.symm.trans l1) (rz.length.symm.trans l2)) (hb.rel r rz) (hsp vs zs H Q E l1 l2 h)
variable {x qual : Str} {params : Arguments} {body : List Stmt} {scope : Scope} {dvs : List V} {kws : List (Str × V)}
/-- where a default is used -/
theorem FunD.kbD (F : FunD K x qual params body scope dvs kws f fd) (n : Nat) (ks : List Str) (is : List Nat) (hd : dvs ≠ [])
    (h : ∀ (T : Addr) (kV doc pm : Value) (an : Option Addr) (cdv ct : Value) (us its ws : List Value), us.length = n → its.length = dvs.length → ws.length = ks.length →
      ∃ k, bindArgs (PySem.W.fnOf x qual params body scope (.ref T) kV doc pm an cdv ct) ⟨us, ks.zip ws⟩ = seqItems? (.ref T) >>= k ∧ k (some its.toArray) = pure (ps.zip (pickI is (us ++ its ++ ws)))) :
    ∃ its : List Value, KBn K fd ps n ks (fun us ws => pickI is (us ++ its ++ ws)) (fun vs zs => pickI is (vs ++ dvs ++ zs)) :=
  FunD.kbindsD F n ks (fun us its ws => pickI is (us ++ its ++ ws)) hd (fun r1 r2 r3 => Vals.pick ((r1.append r2).append r3) is) h
/-- where none is -/
theorem FunD.kb0 (F : FunD K x qual params body scope dvs kws f fd) (n : Nat) (ks : List Str) (is : List Nat)
    (h : ∀ (dV kV doc pm : Value) (an : Option Addr) (cdv ct : Value) (us ws : List Value), us.length = n → ws.length = ks.length → bindArgs (PySem.W.fnOf x qual params body scope dV kV doc pm an cdv ct) ⟨us, ks.zip ws⟩ = pure (ps.zip (pickI is (us ++ ws)))) :
    KBn K fd ps n ks (fun us ws => pickI is (us ++ ws)) (fun vs zs => pickI is (vs ++ zs)) := by
  obtain ⟨oc, od, dV, kV, doc, pm, an, cdv, ct, osl, rfl, lk, hcd, hD, hK⟩ := F.ex
  refine ⟨fun s us ws X l1 l2 => BindsTo.of_looks fun M => ?_, fun r1 r2 => Vals.pick (r1.append r2) is⟩
  rw [h dV kV doc pm an cdv ct us ws l1 l2]
  exact .now
end
section
variable {g : Sg} {n m N : Nat} {is : List Nat} {dvs : List V} {dd : List D} {C C1 : Ct}
theorem spOf_kw (hd : ∀ w, Reps g w dvs dd) (hN : is.length = N) (hi : ∀ i ∈ is, i < n + dd.length + m) (hC : ∀ ds es S K ex, ds.length = n → es.length = m → C1 (ds ++ es) S K ex → C (pickI is (ds ++ dd ++ es)) S K ex) {vs zs : List V} {H : Hp} {Q : VK} {E : XK} (l1 : vs.length = n) (l2 : zs.length = m)
    (h : spOf g (n + m) C1 (vs ++ zs) H Q E) : spOf g N C (pickI is (vs ++ dvs ++ zs)) H Q E := by
  obtain ⟨w, ds, S, K, ex, hn, A0, r, ko, xo, q⟩ := h
  have r1 := r.take n
  have r2 := r.drop n
  rw [List.take_left' l1] at r1
  rw [List.drop_left' l1] at r2
  have e : ds.take n ++ ds.drop n = ds := List.take_append_drop n ds
  have h1 : (ds.take n).length = n := by rw [List.length_take, hn]; omega
  have h2 : (ds.drop n).length = m := by rw [List.length_drop, hn]; omega
  refine ⟨w, pickI is (ds.take n ++ dd ++ ds.drop n), S, K, ex, ?_, A0, ((r1.app (hd w)).app r2).pick is, ko, xo, hC _ _ S K ex h1 h2 (by rw [e]; exact q)⟩
  rw [pick_len fun i hh => ?_, hN]
  rw [List.length_append, List.length_append, h1, h2]
  exact hi i hh
end
/-! ### keywords of a call -/
abbrev EK (g : Sg) (X : Cx) (W : WX) (kws : List Keyword) (f : FA) : Prop := PK X kws (rdA g W f)
section
variable {g : Sg} {X : Cx} {W : WX} {e o : Expr} {es : List Expr} {kws : List Keyword} {fe fo : FE} {fr fk : FA} {pos apos kpos p : Pos} {nm : Option Str}
theorem PK.imp {X : Cx} {e : List Keyword} {t t' : TA} (h : PK X e t) (k : ∀ σ H Q, t' σ H Q → t σ H Q) : PK X e t' := ⟨fun pos pins s σ H Q I q => h.run pos pins s σ H Q I (k σ H Q q)⟩
theorem knil : EK g X W [] wNil := PK.imp pk_nil fun σ H Q ⟨w, ρ, S, K, ex, A, xo, ko, q⟩ => ko [] S q [] w H (Le.refl w) A .nil
theorem kcons (ha : EV g X W e fe) (hr : EK g X W kws fk) : EK g X W (⟨nm, e, kpos⟩ :: kws) (wCons fe fk) :=
  PK.imp (pk_cons ha hr) fun σ H Q ⟨w, ρ, S, K, ex, A, xo, ko, q⟩ => ⟨w, ρ, S, _, ex, A, xo, fun x S1 q1 v w1 H1 l1 A1 r1 => ⟨w1, ρ, S1, _, ex, A1, xo.later l1, fun ds S2 q2 vs w2 H2 l2 A2 r2 => ko _ S2 q2 _ w2 H2 (l1.trans l2) A2 (.cons (r1.mono l2.s) r2), q1⟩, q⟩
theorem rdK_run (ha : EK g X W kws fk) {pins : List (Addr × Obj)} {s : Shared} {σ : L2.St} {H : Hp} {w : Wd} {ρ : List Sl} {S : Store} {K : List D → Store → Prop} {ex : KX} (pos : Pos) (I : Inv X pins σ H s) (A : At g w ρ S σ H) (xo : XOk g W σ ρ w ex) (q : fk ρ S K ex) :
    wpAny (model X.prog X.w) X.A (evalAll ((backToKw pos (keywordEach kws X.env)).map (·.2))) (fun us s1 => ∃ vs H1 w1 ds S1, Inv X pins σ H1 s1 ∧ Vals vs us ∧ Le w w1 ∧ At g w1 ρ S1 σ H1 ∧ Reps g w1 vs ds ∧ K ds S1) X.xe s :=
  thn (ha.run pos pins s σ H (fun vs H1 => ∃ w1 ds S1, Le w w1 ∧ At g w1 ρ S1 σ H1 ∧ Reps g w1 vs ds ∧ K ds S1) I ⟨w, ρ, S, K, ex, A, xo, fun ds S1 k vs w1 H1 l1 A1 r1 => ⟨w1, ds, S1, l1, A1, r1, k⟩, q⟩) fun us s1 ⟨vs, H1, I1, rv, w1, ds, S1, l1, A1, r1, k⟩ => ⟨vs, H1, w1, ds, S1, I1, rv, l1, A1, r1, k⟩
theorem run_ctK {A0 : Around} {k n : Nat} {ks : List Str} {C : Ct} {fn : Addr} {pins : List (Addr × Obj)} {s : Shared} {σ : L2.St} {H : Hp} {w : Wd} {ρ : List Sl} {S : Store} {ds es : List D} {vs zs : List V} {us ws : List Value} {K : KD} {ex : KX} {Q : VK}
    (F : FnK X.prog X.w X.K X.mg X.base (L2.CX X.prog X.w) k fn n ks (spOf g (n + ks.length) C)) (hr : Room k A0) (e0 : Env0 X.prog X.w X.K X.mg X.base A0 X.stack s H) (tk : Takes X W) (I : Inv X pins σ H s) (rv : Vals vs us) (rz : Vals zs ws) (A : At g w ρ S σ H) (rr : Reps g w vs ds) (re : Reps g w zs es) (hn : ds.length = n) (hm : es.length = ks.length)
    (xo : XOk g W σ ρ w ex) (ko : KOk g w ρ σ K Q) (q : C (ds ++ es) S K ex) :
    codeAny (model X.prog X.w) A0 (.call (.ref fn) ⟨us, ks.zip ws⟩) (fun r s' => match r with | .ok (.ret v) => EP X pins σ Q v s' | .ok _ => False | .error e => X.xe e s') s := by
  refine codeAny_mono (F A0 X.stack s H us ws vs zs Q (WE W σ) hr e0 rv rz (rr.length.trans hn) (re.length.trans hm) ?_) fun r s' hq => ?_
  · refine ⟨w.inner S H, ds ++ es, S, K, ex, by rw [List.length_append, hn, hm], A.enter, reps_inner (rr.app re), fun d S' k v w' H' l A' r' => ?_, fun x S' e w' H' cls dd l A' r' => ?_, q⟩
    · obtain ⟨l2, A2⟩ := A.leave l A'
      exact ko d S' k v _ H' l2 A2 (r'.mono sub_outer)
    · obtain ⟨l2, A2⟩ := A.leave l A'
      obtain ⟨h1, a, vs, h2, h3, h4, h5⟩ := r'
      exact xo x S' e _ H' cls dd l2 A2 ⟨h1, a, vs, h2, h3, h4, h5.mono sub_outer⟩
  · cases r with
    | error e => exact passAt tk σ pins H s e s' I hq
    | ok fl =>
      cases fl with
      | ret u => exact I.after hq
      | next => exact False.elim hq
      | brk => exact False.elim hq
      | cont => exact False.elim hq
/-- a method by keywords -/
structure MetK (P : Program) (w : World) (mg : Str → Option Value) (base : Heap) (g : Sg) (k : Nat) (c : Nat) (m : Str) (n : Nat) (ks : List Str) (C : Ct) : Prop where
  ex : ∃ f, Meth g.K (g.ad c) m f ∧ FnK P w g.K mg base (L2.CX P w) k f n ks (spOf g (n + ks.length) C)
/-- o.m(k = v, ..) -/
def wMethK0 (c m : Nat) (C : Ct) (fo : FE) (f : FA) (ρ : List Sl) (S : Store) (K : KD) (ex : KX) : Prop := fo ρ S (fun x S1 => (∃ ds, insOf c S1 x = some ds) ∧ f ρ S1 (fun es S2 => es.length = m ∧ C (x :: es) S2 K ex) ex) ex
theorem emethK0 {m : Str} {k j c : Nat} {ks : List Str} {C : Ct} {pl : Sem Bool} (ho : EV g X W o fo) (F : MetK X.prog X.w X.mg X.base g k c m 1 ks C) (hK : g.K = X.K) (hc : Cls g.K (g.ad c)) (hm : m ∉ g.fl c) (hr : Room j X.A) (hk : k ≤ j) (tk : Takes X W) (ha : EK g X W kws fk)
    (hall : (backToKw pos (keywordEach kws X.env)).all (·.1.isSome) = true := by rfl) (hks : (backToKw pos (keywordEach kws X.env)).filterMap (·.1) = ks := by rfl)
    (hpl : ((backTo pos (starEach [] X.env)).any (·.1) || (backToKw pos (keywordEach kws X.env)).any (·.1.isNone)) = false := by rfl)
    (ht : eval (.Call (.Attribute o m apos) [] kws pos) X.env = (do
      let ov ← eval o X.env
      standAt apos.atName
      let (f, first) ← holding [ov] (getMethod ov m pl)
      callWith pos f first (backTo pos (starEach [] X.env)) (backToKw pos (keywordEach kws X.env))) := by rfl) : EV g X W (.Call (.Attribute o m apos) [] kws pos) (wMethK0 c ks.length C fo fk) := by
  refine ⟨fun pins s σ H Q I h => ?_⟩
  obtain ⟨w, ρ, S, K, ex, A, xo, ko, q⟩ := h
  obtain ⟨fn, hme, F⟩ := F.ex
  rw [hK] at hme F hc
  refine PySem.W.methodCall_KW (pl := pl) (thn (ho.run pins s σ H (fun v H1 => ∃ x w1 S1, Le w w1 ∧ At g w1 ρ S1 σ H1 ∧ Rep g w1 v x ∧ (∃ ds, insOf c S1 x = some ds) ∧ fk ρ S1 (fun es S2 => es.length = ks.length ∧ C (x :: es) S2 K ex) ex) I
    ⟨w, ρ, S, _, ex, A, xo, fun x S1 q1 v w1 H1 l1 A1 r1 => ⟨x, w1, S1, l1, A1, r1, q1⟩, q⟩) fun u s1 hh => ?_) ht
  obtain ⟨v, H1, I1, ru, x, w1, S1, l1, A1, r1, ⟨ds, hi⟩, q1⟩ := hh
  obtain ⟨a, dx, vs, rfl, e1, hl, rr⟩ := ins_at A1 r1 hi
  obtain rfl : u = Value.ref a := ru
  refine getmeth_ok I1 e1 hc hme (lookup_zip_none hm) ?_
  refine PySem.W.callWith_KW0 (first := [.ref a]) (h₀ := X.base) I.ok.mod.kin hme.kp hall (thn (rdK_run ha pos I1 A1 (xo.later l1) q1) fun us s2 ⟨ws, H2, w2, es2, S2, I2, rv, l2, A2, r2, hn, q2⟩ => ⟨I2.kIn, ?_⟩) hpl
  rw [hks]
  exact wpAny_call (run_ctK (us := [.ref a]) (vs := [.ref a]) (ds := [x]) F (hr.mono hk) I2.env0 tk I2 (.cons rfl .nil) rv A2 (.one (r1.mono l2.s)) r2 rfl hn (xo.later (l1.trans l2)) (ko.later (l1.trans l2)) q2)
end
section
variable {g : Sg}
theorem dflO {P : Program} {wl : World} {mg : Str → Option Value} {base : Heap} {k n m : Nat} {f : Addr} {dvs : List V} {dd : List D} {C C1 : Ct} (hd : ∀ w, Reps g w dvs dd) (hC : ∀ ds S K ex, C1 ds S K ex → ds.length = n → C (ds ++ dd) S K ex) (hm : n + dd.length = m)
    (F : FnR P wl g.K mg base (L2.CX P wl) k f (fun vs H Q E => spOf g m C (vs ++ dvs) H Q E)) : FnR P wl g.K mg base (L2.CX P wl) k f (spOf g n C1) := F.imp fun vs H Q E h => by
  obtain ⟨w, ds, S, K, ex, hn, A0, r, ko, xo, q⟩ := h
  exact ⟨w, ds ++ dd, S, K, ex, by rw [List.length_append, hn, hm], A0, r.app (hd w), ko, xo, hC ds S K ex q hn⟩
end
end R3

/-! R3be: tuples backwards. -/
namespace R3
open PySem PySem.Spec PyProof.Rows L2 HT
section
variable {prog : Program} {w : World} {A : Around} {E : Value → Shared → Prop} {s : Shared}
theorem adjust_rev (n : Nat) : Builtin.Slice.sliceAdjust none none (-1) (n : Int) = ((n : Int) - 1, -1) := by
  first
  | rfl
  | (unfold Builtin.Slice.sliceAdjust; simp)
theorem places_rev (n : Nat) : Builtin.Slice.slicePlaces ((n : Int) - 1) (-1) (-1) = n := by
  unfold Builtin.Slice.slicePlaces
  first
  | (simp; omega)
  | (split <;> simp <;> omega)
theorem sliceApplied_rev {sl : Addr} {vl vu vs : Value} {n : Nat} {Q : Int × Int × Nat → Shared → Prop} (hs : s.heap.IsSliceOf sl vl vu vs) (pl : IsPart vl none) (pu : IsPart vu none) (ps : IsPart vs (some (-1)))
    (h : Q ((n : Int) - 1, -1, n) s) : wpAny (model prog w) A (Builtin.Slice.sliceApplied (.ref sl) (pure (n : Int))) Q E s := by
  obtain ⟨os, hos, hcs, hds⟩ := id hs
  unfold Builtin.Slice.sliceApplied Builtin.Slice.sliceFields
  refine wpAny_bind (wpAny_bind (wpAny_field hos hds (x := vl) rfl (wpAny_bind (wpAny_field hos hds (x := vu) rfl (wpAny_bind (wpAny_field hos hds (x := vs) rfl (wpAny_pure ?_)))))))
  refine wpAny_bind (slicePart_ ps ?_)
  show wpAny _ _ (if ((-1 : Int) == 0) = true then _ else _) _ _ s
  rw [if_neg (by decide)]
  refine wpAny_bind (slicePart_ pl (wpAny_bind (slicePart_ pu (wpAny_bind (wpAny_pure ?_)))))
  show wpAny _ _ (match Builtin.Slice.sliceAdjust none none (-1) (n : Int) with | (lo, hi) => pure (lo, (-1 : Int), Builtin.Slice.slicePlaces lo hi (-1))) _ _ s
  rw [adjust_rev n]
  show wpAny _ _ (pure ((n : Int) - 1, (-1 : Int), Builtin.Slice.slicePlaces ((n : Int) - 1) (-1) (-1))) _ _ s
  rw [places_rev]
  exact wpAny_pure h
theorem fm_congr {α β : Type} {f h : α → Option β} : ∀ {l : List α}, (∀ a ∈ l, f a = h a) → l.filterMap f = l.filterMap h
  | [], _ => rfl
  | a :: l, e => by rw [List.filterMap_cons, List.filterMap_cons, e a List.mem_cons_self, fm_congr fun b hb => e b (List.mem_cons_of_mem _ hb)]
theorem pick_rev (xs : Array Value) : ((List.range xs.size).filterMap fun (m : Nat) => xs[((xs.size : Int) - 1 + (m : Int) * -1).toNat]?).toArray = xs.toList.reverse.toArray := by
  have e : ((List.range xs.size).filterMap fun (m : Nat) => xs[((xs.size : Int) - 1 + (m : Int) * -1).toNat]?) = ((List.range xs.size).map fun k => xs.size - 1 - k).filterMap (xs[·]?) := by
    rw [List.filterMap_map]
    refine fm_congr fun m hm => ?_
    have := List.mem_range.mp hm
    show xs[((xs.size : Int) - 1 + (m : Int) * -1).toNat]? = xs[xs.size - 1 - m]?
    congr 1
    omega
  rw [e, PySem.W.krv_range, List.filterMap_reverse, PySem.W.krv_all]
theorem getItem_tuple_rev {t sl : Addr} {items : Array Value} {vl vu vs : Value} {Q : Value → Shared → Prop} (ht : IsTup s.heap t items) (hs : s.heap.IsSliceOf sl vl vu vs) (pl : IsPart vl none) (pu : IsPart vu none) (ps : IsPart vs (some (-1)))
    (h : Q (.ref s.heap.objs.size) { s with heap := s.heap.push { cls := .type "tuple", data := .seq items.toList.reverse.toArray } })
    (hsz : items.size ≤ sizeLine) : wpAny (model prog w) A (getItem (.ref t) (.ref sl)) Q E s := by
  have htake : sizeOk (.seq items.toList.reverse.toArray) := by
    show items.toList.reverse.toArray.size ≤ sizeLine
    rw [List.size_toArray, List.length_reverse, Array.length_toList]
    exact hsz
  obtain ⟨os, hos, hcs, hds⟩ := id hs
  have hTs : s.TypeIs (.ref sl) "slice" := ⟨os, hos, hcs⟩
  unfold getItem
  try with_reducible refine wpAny_holding ?_
  first | refine wpAny_bind (wpAny_pure ?_) | skip
  refine wpAny_bind (wpAny_sequenceKey ht.typeIs (by decide) ?_)
  refine wpAny_bind (wpAny_callSpecial?_slot (name := Str.ofString "__getitem__") ht.typeIs PyProof.Rows.slot_tuple_getitem
    (wpAny_call_entry PyProof.Rows.slot_tuple_getitem ht.typeIs entry_tuple_getitem ?_ (args_tuple_getitem _ _)))
  show wpAny _ _ (Builtin.Tuple.tupleItemsOf (.ref t) >>= _) _ _ s
  refine wpAny_bind (tupleItemsOf_ ht ?_)
  refine wpAny_bind (wpAny_typeOf hTs ?_)
  rw [if_pos (by decide)]
  refine wpAny_bind (sliceApplied_rev hs pl pu ps ?_)
  have hno : ¬ ((((items.size : Int) - 1) == 0 && (-1 : Int) == 1 && items.size == items.size) = true) := by
    rw [show ((-1 : Int) == 1) = false from rfl, Bool.and_false, Bool.false_and]
    exact Bool.false_ne_true
  show wpAny _ _ (if (((items.size : Int) - 1) == 0 && (-1 : Int) == 1 && items.size == items.size) = true then _ else _) _ _ s
  rw [if_neg hno, pick_rev]
  first
    | exact wpAny_bind (m := Builtin.Tuple.tupleExact _) (wpAny_newObj_type (wpAny_pure ⟨_, rfl, wpAny_pure h⟩) htake)
    | exact wpAny_bind (m := Builtin.Tuple.tupleExact _) (wpAny_newObj_type (wpAny_bind (wpAny_pure (wpAny_pure ⟨_, rfl, wpAny_pure h⟩))) htake)
    | exact wpAny_bind (wpAny_bind (m := Builtin.Tuple.tupleExact _) (wpAny_newObj_type (wpAny_pure (wpAny_pure ⟨_, rfl, wpAny_pure h⟩)) htake))
    | exact wpAny_bind (wpAny_bind (m := Builtin.Tuple.tupleExact _) (wpAny_newObj_type (wpAny_pure ⟨_, rfl, wpAny_pure h⟩) htake))
end
section
variable {g : Sg} {X : Cx} {W : WX} {e : Expr} {fe : FE} {pos : Pos}
/-- t[::-1] of a tuple -/
def wRevT (f : FE) (ρ : List Sl) (S : Store) (K : KD) (ex : KX) : Prop := f ρ S (fun x S1 => match x with
  | .tup xs => K (.tup xs.reverse) S1
  | _ => False) ex
theorem erevT {k : Nat} {p1 p2 p3 : Pos} (hK : g.K = X.K) (he : EV g X W e fe) : EV g X W (.Subscript e (.Slice none none (some (.UnaryOp .USub (.Constant (.int 1) k p1) p2)) p3) pos) (wRevT fe) := by
  refine ⟨fun pins s σ H Q I h => ?_⟩
  obtain ⟨w, ρ, S, K, ex, A, xo, ko, q⟩ := h
  refine Subscript_ (thn (he.run pins s σ H (fun v H1 => ∃ d w1 S1, Le w w1 ∧ At g w1 ρ S1 σ H1 ∧ Rep g w1 v d ∧ (match d with | .tup xs => K (.tup xs.reverse) S1 | _ => False)) I ⟨w, ρ, S, _, ex, A, xo, fun d S1 q1 v w1 H1 l1 A1 r1 => ⟨d, w1, S1, l1, A1, r1, q1⟩, q⟩) fun v s1 hh => ?_)
  obtain ⟨x, H1, I1, rx, d, w1, S1, l1, A1, rd, q1⟩ := hh
  split at q1
  · rename_i xs
    cases rd with
    | tup hT rr =>
      rename_i a vs
      cases rx
      have hx : SqT X.K H1 a vs := by rw [← hK]; exact A1.t hT
      have hst : PO X (some (.UnaryOp .USub (.Constant (.int 1) k p1) p2)) (tPart (tUn (rU fun i => .int (-i)) (tC (.int 1)))) := po_some (pe_un un_neg pe_int)
      refine wpAny_Slice (thn (po_none.run pins s1 σ H1 (fun o H2 => o = none ∧ H2 = H1) I1 ⟨rfl, rfl⟩) fun vl s2 ⟨l, H2, I2, pl, el, e2⟩ => ?_)
      subst el e2
      refine thn (po_none.run pins s2 σ H2 (fun o H3 => o = none ∧ H3 = H2) I2 ⟨rfl, rfl⟩) fun vu s3 ⟨u, H3, I3, pu, eu, e3⟩ => ?_
      subst eu e3
      refine thn (hst.run pins s3 σ H3 (fun o H4 => o = some (-1) ∧ H4 = H3) I3 ⟨1, rfl, -1, rfl, rfl, rfl⟩) fun vst s4 ⟨o, H4, I4, pst, eo, e4⟩ => ?_
      subst eo e4
      have I5 : Inv X pins σ H4 { s4 with heap := s4.heap.push { cls := .type "slice", data := .fields #[vl, vu, vst] } } := I4.kept (t' := s4.toks) fun b ob q => Heap.get?_push_of_some _ q
      obtain ⟨its, r, ht, hz⟩ := I5.tuple hx
      have hlen := r.length
      show wpAny (model X.prog X.w) X.A (subscriptTail e (.Slice none none (some (.UnaryOp .USub (.Constant (.int 1) k p1) p2)) p3) (.ref a) (.ref s4.heap.objs.size)) (EP X pins σ Q) X.xe { s4 with heap := s4.heap.push { cls := .type "slice", data := .fields #[vl, vu, vst] } }
      refine tail_any (ops := [.ref a, .ref s4.heap.objs.size]) ht.typeIs (slot_tuple_getitem.lookup) ?_ (by with_unfolding_all rfl)
      refine getItem_tuple_rev ht (Heap.IsSliceOf.new _ vl vu vst) pl pu pst ?_ (by rw [List.size_toArray]; omega)
      have hp := I5.hok.fresh (Nat.le_refl _)
      refine ⟨.ref _, _, I5.laid (t' := s4.toks) (o := .tup vs.reverse) (fun b ob q => Heap.get?_push_of_some _ q) (Nat.le_refl _) ?_, rfl, ?_⟩
      · exact ⟨by rw [List.length_reverse]; exact hz, _, r.reverse, ⟨_, Heap.get?_push_size _ rfl, rfl, 0, by simp⟩⟩
      · exact ko _ S1 q1 _ (w1.add _ (.tup vs.reverse)) _ (l1.trans (le_add A1.if_ (A1.free hp))) (A1.lay hp) (.tup (SqT.of upd_same) (rr.rev.mono (le_add A1.if_ (A1.free hp)).s))
  · exact q1.elim
end
end R3

/-! R3bf: != by an own __eq__. -/
namespace R3
open PySem PySem.Spec PyProof.Rows L2
section
variable {prog : Program} {w : World} {A : Around} {E : Value → Shared → Prop} {s : Shared} {K : Fr} {x C L f : Addr} {h₀ : Heap} {m : Str → Option Value} {ox : Obj} {od : Option Obj} {b tb : Value}
theorem ne_bind (self : Value) : bindSpecial (.builtin "object.__ne__") self = pure (.builtin "object.__ne__", [self]) := PySem.F.cmp_object.ne.bind self
/-- the slot of object, found at an instance -/
theorem ifBound_ne {M : Model} {args : List Value} {Q : Option Value → Shared → Prop} (X : K.In s.heap) (I : PySem.W.InstAt s.heap x ox C od) (hs : PySem.W.findIn K (.ref C) "__ne__" = some (some (.builtin "object.__ne__")))
    (h : wpAny M A (call (.builtin "object.__ne__") (.ref x :: args)) (fun v => Q (some v)) E s) : wpAny M A (callSpecialIfBound? (.ref x) "__ne__" args) Q E s := by
  simp only [callSpecialIfBound?, bindSpecialIfBound?]
  refine wpAny_holding (wpAny_bind (wpAny_bind (wpAny_bind (I.type.here ((PySem.W.looks_findIn X hs).here ?_)))))
  simp only [ne_bind]
  refine wpAny_bind (wpAny_askSetting (wpAny_ite ?_))
  have fin : wpAny M A (call (.builtin "object.__ne__") ([.ref x] ++ args) >>= fun v => pure (some v)) Q E s := wpAny_bind (wpAny_mono h (fun v s' h' => wpAny_pure h') fun _ _ h' => h')
  split
  · exact wpAny_bind (wpAny_pure (wpAny_pure fin))
  · exact wpAny_tryCatch (wpAny_bind (wpAny_pure (wpAny_pure fin)))
theorem ne_entry {Q : PySem.Fin → Shared → Prop} (hu : A.units < cLine) (X : K.In s.heap) (I : PySem.W.InstAt s.heap x ox C od) (hs : PySem.W.findIn K (.ref C) "__eq__" = some (some (.ref f))) (hf : PySem.W.isFn K (.ref f) = true)
    (h : wpAny (model prog w) A (call (.ref f) [.ref x, b]) (fun v s' => ∃ c, v = .bool c ∧ Q (.done (.ret (.bool (!c)))) s') E s) : wpAny (model prog w) A (Builtin.«object.__ne__» ⟨[.ref x, b], []⟩) Q E s := by
  unfold Builtin.«object.__ne__»
  repeat (first
    | with_reducible refine wpAny_cRoomFor hu ?_
    | (refine wpAny_bind (m := callSpecialIfBound? (.ref x) (Str.ofString "__eq__") [b])
        (PySem.W.ifBound_K X I hs hf (wpAny_mono h (fun r s' hr => by
          obtain ⟨c, rfl, hq⟩ := hr
          repeat (first | exact hq | exact wpAny_pure hq | exact wpAny_truthy_bool hq | (refine wpAny_bind (m := truthy (.bool _)) (wpAny_truthy_bool ?_)) | wp_step)) fun _ _ e => e)))
    | wp_step)
theorem ne_K {Q : Value → Shared → Prop} (hu : A.units + 1 < cLine) (F : PyProof.Rows.Fr h₀ L s.heap m) (X₀ : K.In h₀) (I : PySem.W.InstAt s.heap x ox C od) (hb : PySem.W.Looks (model prog w) s.heap (typeOf b) tb) (hn : PySem.W.notFirst K C tb = true)
    (hne : PySem.W.findIn K (.ref C) "__ne__" = some (some (.builtin "object.__ne__"))) (ho : PySem.W.mroIn K C (.type "object") = some true)
    (hs : PySem.W.findIn K (.ref C) "__eq__" = some (some (.ref f))) (hf : PySem.W.isFn K (.ref f) = true)
    (h : wpAny (model prog w) A.in1 (call (.ref f) [.ref x, b]) (fun v s' => ∃ c, v = .bool c ∧ Q (.bool (!c)) s') E s) : wpAny (model prog w) A (richCompare .NotEq (.ref x) b) Q E s := by
  have X := X₀.keeps F.keep
  have one : wpAny (model prog w) A (tryCompare (.ref x) "__ne__" b) (fun r s' => ∃ v, r = some v ∧ Q v s') E s := by
    unfold tryCompare
    refine wpAny_bind (ifBound_ne X I hne (wpAny_call (codeAny_call_builtin PySem.F.cmp_object.ne.plain PySem.F.cmpEntry_ne (PySem.W.check_slot PySem.F.cmpKind_ne PySem.F.cmpSplit_ne
      ((I.type).andThen (PySem.W.looks_mroIn X ho)) (PySem.F.cmpArgs_ne _ _) (ne_entry (A := A.in1) hu X I hs hf (wpAny_mono h (fun v s' hv => ?_) fun _ _ e => e))))))
    obtain ⟨c, rfl, hq⟩ := hv
    first | exact ⟨c, rfl, wpAny_pure ⟨_, rfl, hq⟩⟩ | exact ⟨c, rfl, wpAny_pure (wpAny_pure ⟨_, rfl, hq⟩)⟩ | exact ⟨c, rfl, ⟨_, rfl, hq⟩⟩
  unfold richCompare
  simp only [oneThing_ref]
  refine wpAny_holding (wpAny_bind (wpAny_cRoomFor (Nat.lt_of_succ_lt hu) ?_))
  rw [cmpInfo_NotEq]
  dsimp only
  refine wpAny_bind (I.type.here (wpAny_bind (hb.here ?_)))
  split
  · rename_i q
    have e : PySem.W.subIn K tb (.ref C) = some false := by
      rcases Bool.or_eq_true_iff.mp hn with e | e
      · rw [beq_iff_eq.mp e] at q; simp at q
      · exact beq_iff_eq.mp e
    refine wpAny_bind ((PySem.W.looks_subIn X e).here ?_)
    simp only [Bool.false_eq_true, if_false]
    refine wpAny_bind (wpAny_mono one (fun r s' z => ?_) fun _ _ e => e)
    obtain ⟨v, rfl, hq⟩ := z
    exact wpAny_pure hq
  · refine wpAny_bind (wpAny_pure ?_)
    simp only [Bool.false_eq_true, if_false]
    refine wpAny_bind (wpAny_mono one (fun r s' z => ?_) fun _ _ e => e)
    obtain ⟨v, rfl, hq⟩ := z
    exact wpAny_pure hq
end
section
variable {g : Sg} {X : Cx} {W : WX}
def fNe (x : Str) (K : Fr) : Bool := fRight x K && (decide (PySem.W.findIn K (.ref (He.ga K x)) "__ne__" = some (some (.builtin "object.__ne__"))) && decide (PySem.W.mroIn K (He.ga K x) (.type "object") = some true))
def notK (K : KD) : KD := fun d S => match d with
  | .bl b => K (.bl (!b)) S
  | _ => False
def rOwnNe (c : Nat) (C : Ct) (x y : D) (S : Store) (K : KD) (ex : KX) : Prop := (∃ ds, insOf c S x = some ds) ∧ rightD c y = true ∧ C [x, y] S (notK K) ex
theorem ne_own {k j c : Nat} {C : Ct} {x : Str} (F : OwnN X.prog X.w X.mg X.base g k c "__eq__" 2 C) (hx : g.ad c = He.ga X.K x) (hf : fNe x X.K = true) (hK : g.K = X.K) (hr : Room j X.A) (hk : k + 1 ≤ j) (tk : Takes X W) : OpX g X W (compareOp .NotEq) (rOwnNe c C) := by
  intro pins s σ H w ρ S x y vx vy u v K ex Q I ru rv A rx ry xo ko q
  obtain ⟨⟨ds, hi⟩, hy, q⟩ := q
  obtain ⟨fn, hs, hfn, F⟩ := F.ex
  rw [hK] at hs hfn F
  obtain ⟨f1, f2⟩ := Bool.and_eq_true_iff.mp hf
  obtain ⟨f2, f3⟩ := Bool.and_eq_true_iff.mp f2
  obtain ⟨p, ox, od, rfl, rfl, J⟩ := inst_of I A rx hi ru
  obtain ⟨tb, lk, nf⟩ := right_ok hK hx f1 I A ry rv hy
  obtain ⟨m, hF⟩ := I.fr
  show wpAny (model X.prog X.w) X.A (richCompare .NotEq (.ref p) v) (EP X pins σ Q) X.xe s
  refine ne_K (by have := hr.units; omega) hF I.ok.mod.kin J lk nf (by rw [hx]; exact of_decide_eq_true f2) (by rw [hx]; exact of_decide_eq_true f3) hs hfn ?_
  refine wpAny_mono (wpAny_call (run_ct (W := W) (us := [.ref p, v]) (vs := [.ref p, vy]) (Q := fun v H2 => ∃ c w2 S2, v = .bl c ∧ Le w w2 ∧ At g w2 ρ S2 σ H2 ∧ K (.bl (!c)) S2) F (hr.mono hk).in1 I.env0.in1 tk I (.cons rfl (.cons rv .nil)) A (.cons rx (.one ry)) rfl xo (fun d S2 kz v w2 H2 l2 A2 r2 => ?_) q)) (fun z s' h => ?_) fun _ _ x => x
  · cases d with
    | bl c => exact ⟨c, w2, S2, rep_bl r2, l2, A2, kz⟩
    | _ => exact kz.elim
  · obtain ⟨z', H', I', rz, c, w2, S2, rfl, l2, A2, kz⟩ := h
    cases rz
    exact ⟨c, rfl, .bl (!c), H', I', rfl, ko _ _ kz _ w2 H' l2 A2 (.bl _)⟩
end
end R3

/-! R3bg: // by any number but 0. -/
namespace R3
open PySem PySem.Spec PyProof.Rows L2
section
variable {g : Sg} {X : Cx}
def CDivZ (_ j : Int) : Prop := j ≠ 0 ∧ j.natAbs.log2 < 9000
theorem op_fdivZ : OpR X (binaryOp .FloorDiv) (rI CDivZ fun i j => .int (Int.fdiv i j)) := opI fun i j _ _ _ _ _ hc q => floordiv_int hc.1 q (.inl (PyProof.noPylong_of_log2 hc.2))
theorem ifdivZ : OpD g X (binaryOp .FloorDiv) (rInt CDivZ fun i j => .int (Int.fdiv i j)) := opInt op_fdivZ fun _ _ _ => .int _
abbrev rdFdz : RD := rInt CDivZ fun i j => .int (Int.fdiv i j)
end
end R3

/-! R3bh: operators at a number that is an int or of a class of our own. -/
namespace R3
open PySem PySem.Spec PyProof.Rows L2
section
variable {g : Sg} {X : Cx} {W : WX}
def rOrX (r : RX) (r' : RD) : RX := fun x y S K ex => r x y S K ex ∨ r' x y S K
theorem orX {sem : Value → Value → Sem Value} {r : RX} {r' : RD} (h : OpX g X W sem r) (h' : OpD g X sem r') : OpX g X W sem (rOrX r r') := h.or (OpX.of h')
def rOrXX (r r' : RX) : RX := fun x y S K ex => r x y S K ex ∨ r' x y S K ex
theorem orXX {sem : Value → Value → Sem Value} {r r' : RX} (h : OpX g X W sem r) (h' : OpX g X W sem r') : OpX g X W sem (rOrXX r r') := h.or h'
end
end R3

/-! R3bi: int op instance, by the instance's method. -/
namespace R3
open PySem PySem.Spec PyProof.Rows L2
section
variable {prog : Program} {w : World} {A : Around} {E : Value → Shared → Prop} {s : Shared} {K : Fr} {x C L f dx : Addr} {h₀ : Heap} {m : Str → Option Value} {i : Int} {t : Tok} {ox : Obj} {od : Option Obj}
theorem int_ni {M : Model} {name : String} {fn : Int → Int → Sem PySem.Fin} {Q : PySem.Fin → Shared → Prop} (hx : s.heap.get? x = some (PySem.W.instObj C dx)) (hq : Q (.done (.ret .notImplemented)) s) : wpAny M A (Builtin.Int.intBinary name fn false ⟨[.int i t, .ref x], []⟩) Q E s := by
  unfold Builtin.Int.intBinary
  repeat (first | with_reducible refine wpAny_load hx ?_ | exact hq | wp_step)
/-- the slot of int that answers a comparison -/
structure IntCmp (op : CmpOp) (id : String) (name : String) (fn : Int → Int → Sem PySem.Fin) : Prop where
  slot : Slot "int" (cmpInfo op).2.1 id
  entry : entryFor table id = some (Builtin.Int.intBinary name fn false)
  args : ∀ a b, argsOk id ⟨[a, b], []⟩
theorem ic_lt : ∃ id name fn, IntCmp .Lt id name fn := ⟨_, _, _, PySem.F.slot_int_lt, PySem.F.entry_int_lt, PySem.F.args_int_lt_2⟩
theorem ic_le : ∃ id name fn, IntCmp .LtE id name fn := ⟨_, _, _, PySem.F.slot_int_le, PySem.F.entry_int_le, PySem.F.args_int_le_2⟩
theorem ic_gt : ∃ id name fn, IntCmp .Gt id name fn := ⟨_, _, _, PySem.F.slot_int_gt, PySem.F.entry_int_gt, PySem.F.args_int_gt_2⟩
theorem ic_ge : ∃ id name fn, IntCmp .GtE id name fn := ⟨_, _, _, PySem.F.slot_int_ge, PySem.F.entry_int_ge, PySem.F.args_int_ge_2⟩
theorem ic_eq : ∃ id name fn, IntCmp .Eq id name fn := ⟨_, _, _, PySem.F.slot_int_eq, PySem.F.entry_int_eq, PySem.F.args_int_eq_2⟩
theorem ic_ne : ∃ id name fn, IntCmp .NotEq id name fn := ⟨_, _, _, PySem.F.slot_int_ne, PySem.F.entry_int_ne, PySem.F.args_int_ne_2⟩
theorem one_int (op : CmpOp) (b : Addr) : oneThing? op (.int i t) (.ref b) = none := by cases op <;> rfl
theorem try_int {op : CmpOp} {id name : String} {fn : Int → Int → Sem PySem.Fin} (c : IntCmp op id name fn) (hx : s.heap.get? x = some (PySem.W.instObj C dx)) {Q : Option Value → Shared → Prop} (q : Q none s) : wpAny (model prog w) A (tryCompare (.int i t) (cmpInfo op).2.1 (.ref x)) Q E s := by
  unfold tryCompare
  refine wpAny_bind (wpAny_callSpecialIfBound?_slot (typeIs_int s i t) c.slot (wpAny_call (codeAny_call_builtin c.slot.plain c.entry (c.slot.check _ _ _ _ _ _ _ _ (typeIs_int s i t) (c.args _ _) (int_ni hx ?_)))))
  first | exact wpAny_pure q | exact wpAny_pure (wpAny_pure q)
/-- i op o, by o's method -/
theorem cmp_refl {op : CmpOp} {Q : Value → Shared → Prop} (hc : ∃ id name fn, IntCmp op id name fn) (hu : A.units < cLine) (F : PyProof.Rows.Fr h₀ L s.heap m) (X₀ : K.In h₀) (hx : s.heap.get? x = some (PySem.W.instObj C dx)) (I : PySem.W.InstAt s.heap x ox C od) (hn : PySem.W.subIn K (.ref C) (.type "int") = some false)
    (h : wpAny (model prog w) A (tryCompare (.ref x) (cmpInfo op).2.2 (.int i t)) (fun r s' => ∃ v, r = some v ∧ Q v s') E s) : wpAny (model prog w) A (richCompare op (.int i t) (.ref x)) Q E s := by
  have X := X₀.keeps F.keep
  obtain ⟨id, name, fn, c⟩ := hc
  unfold richCompare
  simp only [one_int]
  refine wpAny_holding (wpAny_bind (wpAny_cRoomFor hu ?_))
  refine wpAny_bind ((PySem.W.Looks.of_pure (show typeOf (.int i t) = pure (.type "int") from rfl)).here (wpAny_bind (I.type.here ?_)))
  rw [show ((Value.type "int") != (Value.ref C)) = true from by simp]
  simp only [if_true]
  refine wpAny_bind ((PySem.W.looks_subIn X hn).here ?_)
  simp only [Bool.false_eq_true, if_false]
  refine wpAny_bind (try_int c hx ?_)
  simp only [Bool.not_false, if_true]
  refine wpAny_bind (wpAny_mono h (fun r s' z => ?_) fun _ _ e => e)
  obtain ⟨v, rfl, hq⟩ := z
  exact wpAny_pure hq
end
section
variable {g : Sg} {X : Cx} {W : WX}
theorem inst_raw {pins : List (Addr × Obj)} {s : Shared} {σ : L2.St} {H : Hp} {w : Wd} {ρ : List Sl} {S : Store} {c : Nat} {v : V} {d : D} {ds : List D} {u : Value} (I : Inv X pins σ H s) (A : At g w ρ S σ H) (r : Rep g w v d) (h : insOf c S d = some ds) (ru : RelV v u) :
    ∃ p dx od, u = .ref p ∧ v = .ref p ∧ s.heap.get? p = some (PySem.W.instObj (g.ad c) dx) ∧ PySem.W.InstAt s.heap p (PySem.W.instObj (g.ad c) dx) (g.ad c) (some od) := by
  obtain ⟨p, dx, vs, rfl, e1, hl, rr⟩ := ins_at A r h
  obtain rfl : u = Value.ref p := ru
  obtain ⟨_, O, _, _, _, _⟩ := ins_get I.hok e1
  obtain ⟨od, J, _⟩ := O.look
  exact ⟨p, dx, od, rfl, rfl, J.at_, J⟩
/-- what is told of the class -/
def fRefl (x : Str) (K : Fr) : Bool := decide (PySem.W.subIn K (.ref (He.ga K x)) (.type "int") = some false)
/-- i op o: C is the contract of o's reflected method -/
def rReflX (c : Nat) (C : Ct) (x y : D) (S : Store) (K : KD) (ex : KX) : Prop := (∃ i, x = .int i) ∧ (∃ ds, insOf c S y = some ds) ∧ C [y, x] S K ex
theorem cmp_reflX {op : CmpOp} {k j c : Nat} {C : Ct} {x : Str} (hop : ∀ a b, compareOp op a b = richCompare op a b) (hc : ∃ id name fn, IntCmp op id name fn) (F : OwnN X.prog X.w X.mg X.base g k c (cmpInfo op).2.2 2 C) (hx : g.ad c = He.ga X.K x) (hf : fRefl x X.K = true) (hK : g.K = X.K) (hr : Room j X.A) (hk : k ≤ j) (tk : Takes X W) : OpX g X W (compareOp op) (rReflX c C) := by
  intro pins s σ H w ρ S x y vx vy u v K ex Q I ru rv A rx ry xo ko q
  obtain ⟨⟨i, rfl⟩, ⟨ds, hi⟩, q⟩ := q
  obtain ⟨fn, hs, hfn, F⟩ := F.ex
  rw [hK] at hs hfn F
  obtain rfl := rep_int rx
  obtain ⟨t, rfl⟩ := ru
  obtain ⟨p, dx, od, rfl, rfl, hp, J⟩ := inst_raw I A ry hi rv
  obtain ⟨m, hF⟩ := I.fr
  rw [hop]
  refine cmp_refl hc hr.units0 hF I.ok.mod.kin hp J (by rw [hx]; exact of_decide_eq_true hf) ?_
  unfold tryCompare
  refine wpAny_bind (PySem.W.ifBound_K (I.ok.mod.kin.keeps hF.keep) J hs hfn ?_)
  refine wpAny_mono (wpAny_call (run_ct (W := W) (us := [.ref p, .int i t]) (vs := [.ref p, .int i]) F (hr.mono hk) I.env0 tk I (.cons rfl (.cons ⟨t, rfl⟩ .nil)) A (.cons ry (.one rx)) rfl xo ko q)) (fun z s' h => ?_) fun _ _ x => x
  obtain ⟨z', H', I', rz, qz⟩ := h
  have back := SlX.cmpback rz (P := EP X pins σ Q) ⟨z', H', I', rz, qz⟩
  cases z <;> first | exact back.elim | exact wpAny_pure ⟨_, rfl, back⟩
/-- o.__ne__(b) by o's __eq__ -/
theorem try_ne {prog : Program} {w : World} {A : Around} {E : Value → Shared → Prop} {s : Shared} {K : Fr} {x C f : Addr} {b : Value} {ox : Obj} {od : Option Obj} {Q : Value → Shared → Prop} (hu : A.units + 1 < cLine) (X : K.In s.heap) (I : PySem.W.InstAt s.heap x ox C od)
    (hne : PySem.W.findIn K (.ref C) "__ne__" = some (some (.builtin "object.__ne__"))) (ho : PySem.W.mroIn K C (.type "object") = some true)
    (hs : PySem.W.findIn K (.ref C) "__eq__" = some (some (.ref f))) (hf : PySem.W.isFn K (.ref f) = true)
    (h : wpAny (model prog w) A.in1 (call (.ref f) [.ref x, b]) (fun v s' => ∃ c, v = .bool c ∧ Q (.bool (!c)) s') E s) : wpAny (model prog w) A (tryCompare (.ref x) "__ne__" b) (fun r s' => ∃ v, r = some v ∧ Q v s') E s := by
  unfold tryCompare
  refine wpAny_bind (ifBound_ne X I hne (wpAny_call (codeAny_call_builtin PySem.F.cmp_object.ne.plain PySem.F.cmpEntry_ne (PySem.W.check_slot PySem.F.cmpKind_ne PySem.F.cmpSplit_ne
    ((I.type).andThen (PySem.W.looks_mroIn X ho)) (PySem.F.cmpArgs_ne _ _) (ne_entry (A := A.in1) hu X I hs hf (wpAny_mono h (fun v s' hv => ?_) fun _ _ e => e))))))
  obtain ⟨c, rfl, hq⟩ := hv
  first | exact ⟨c, rfl, wpAny_pure ⟨_, rfl, hq⟩⟩ | exact ⟨c, rfl, wpAny_pure (wpAny_pure ⟨_, rfl, hq⟩)⟩ | exact ⟨c, rfl, ⟨_, rfl, hq⟩⟩
def rReflNe (c : Nat) (C : Ct) (x y : D) (S : Store) (K : KD) (ex : KX) : Prop := (∃ i, x = .int i) ∧ (∃ ds, insOf c S y = some ds) ∧ C [y, x] S (notK K) ex
theorem ne_reflX {k j c : Nat} {C : Ct} {x : Str} (F : OwnN X.prog X.w X.mg X.base g k c "__eq__" 2 C) (hx : g.ad c = He.ga X.K x) (hf : fRefl x X.K = true) (hf2 : fNe x X.K = true) (hK : g.K = X.K) (hr : Room j X.A) (hk : k + 1 ≤ j) (tk : Takes X W) : OpX g X W (compareOp .NotEq) (rReflNe c C) := by
  intro pins s σ H w ρ S x y vx vy u v K ex Q I ru rv A rx ry xo ko q
  obtain ⟨⟨i, rfl⟩, ⟨ds, hi⟩, q⟩ := q
  obtain ⟨fn, hs, hfn, F⟩ := F.ex
  rw [hK] at hs hfn F
  obtain ⟨_, f2⟩ := Bool.and_eq_true_iff.mp hf2
  obtain ⟨f2, f3⟩ := Bool.and_eq_true_iff.mp f2
  obtain rfl := rep_int rx
  obtain ⟨t, rfl⟩ := ru
  obtain ⟨p, dx, od, rfl, rfl, hp, J⟩ := inst_raw I A ry hi rv
  obtain ⟨m, hF⟩ := I.fr
  show wpAny (model X.prog X.w) X.A (richCompare .NotEq (.int i t) (.ref p)) (EP X pins σ Q) X.xe s
  refine cmp_refl ic_ne hr.units0 hF I.ok.mod.kin hp J (by rw [hx]; exact of_decide_eq_true hf) ?_
  refine try_ne (by have := hr.units; omega) (I.ok.mod.kin.keeps hF.keep) J (by rw [hx]; exact of_decide_eq_true f2) (by rw [hx]; exact of_decide_eq_true f3) hs hfn ?_
  refine wpAny_mono (wpAny_call (run_ct (W := W) (us := [.ref p, .int i t]) (vs := [.ref p, .int i]) (Q := fun v H2 => ∃ c w2 S2, v = .bl c ∧ Le w w2 ∧ At g w2 ρ S2 σ H2 ∧ K (.bl (!c)) S2) F (hr.mono hk).in1 I.env0.in1 tk I (.cons rfl (.cons ⟨t, rfl⟩ .nil)) A (.cons ry (.one rx)) rfl xo (fun d S2 kz v w2 H2 l2 A2 r2 => ?_) q)) (fun z s' h => ?_) fun _ _ x => x
  · cases d with
    | bl c => exact ⟨c, w2, S2, rep_bl r2, l2, A2, kz⟩
    | _ => exact kz.elim
  · obtain ⟨z', H', I', rz, c, w2, S2, rfl, l2, A2, kz⟩ := h
    cases rz
    exact ⟨c, rfl, .bl (!c), H', I', rfl, ko _ _ kz _ w2 H' l2 A2 (.bl _)⟩
end
end R3

/-! R3bj: bool(x); a class or a def called by keywords; int + instance. -/
namespace R3
open PySem PySem.Spec PyProof.Rows L2
section
variable {prog : Program} {w : World} {A : Around} {E : Value → Shared → Prop} {s : Shared} {K : Fr} {x C f : Addr} {ox : Obj} {od : Option Obj}
theorem bool_call {Q : Value → Shared → Prop} (X : K.In s.heap) (I : PySem.W.InstAt s.heap x ox C od) (hs : PySem.W.findIn K (.ref C) "__bool__" = some (some (.ref f))) (hf : PySem.W.isFn K (.ref f) = true)
    (h : wpAny (model prog w) A.in1.in1 (call (.ref f) [.ref x]) (fun v s' => ∃ b, v = .bool b ∧ Q (.bool b) s') E s) : wpAny (model prog w) A (call (.type "bool") [.ref x]) Q E s := by
  refine callType_codes (T := "bool") (Bi := Builtin.«object.__init__») (Q₁ := fun r s₁ => ∃ b, r = .bool b ∧ Q r s₁) PySem.F.called_bool (PySem.F.typeCall_bool_1 _) PySem.F.entry_object_init ?_ ?_
  · refine codeAny_of_tree ?_
    show wpAny _ A.in1.in1 (do checkBuiltinCall "bool.__new__" ⟨[.type "bool", .ref x], []⟩; again (.builtin "bool.__new__" ⟨[.type "bool", .ref x], []⟩)) _ _ s
    refine wpAny_bind (wpAny_of_eq (PySem.F.newCall_bool_1 _) (wpAny_pure ⟨plainId_quiet (by decide +kernel) _, codeAny_builtin PySem.F.entry_bool_new ?_⟩))
    rw [Around.under_plainId (by decide +kernel) _]
    unfold Builtin.«bool.__new__»
    have f1 := PySem.F.conv_sub_bool
    refine wpAny_bind (wpAny_pure ?_)
    simp only [Bool.not_true, Bool.false_eq_true, if_false]
    refine wpAny_bind (wpAny_of_eq f1 ?_)
    simp only [Bool.not_true, Bool.false_eq_true, if_false]
    refine wpAny_bind (m := someArgs _ _ _ _) (wpAny_pure ?_)
    refine wpAny_bind (m := truthy (.ref x)) ?_
    unfold truthy
    refine wpAny_bind (m := callSpecial? (.ref x) (Str.ofString "__bool__")) (PySem.W.special_fn X I hs (beq_iff_eq.mp hf) (wpAny_mono h (fun r s' hr => ?_) fun _ _ y => y))
    obtain ⟨b, rfl, hq⟩ := hr
    exact wpAny_pure (wpAny_pure ⟨b, rfl, hq⟩)
  · rintro obj s₁ ⟨b, rfl, hq⟩
    exact ⟨PySem.typeIs_bool _ _, PySem.F.args_object_init_2 _ _, object_init_meets PySem.F.called_bool.init.lookup PySem.F.called_bool.made (by decide) prog w A.in1 _ s₁ ⟨PySem.typeIs_bool _ _, rfl, hq⟩⟩
end
section
variable {g : Sg} {X : Cx} {W : WX} {e o : Expr} {pos : Pos} {fe fo : FE} {es : List Expr} {fr : FA}
/-- bool(x), x plain -/
def rBool1 (ds : List D) (S : Store) (K : KD) : Prop := match ds with
  | [.bl b] => K (.bl b) S
  | [.int i] => K (.bl (i != 0)) S
  | _ => False
theorem cbool1 : CallD g X (.type "bool") rBool1 := fun pins s σ H w ρ S ds vs us K Q I rv A rr ko q => by
  unfold rBool1 at q
  split at q
  · obtain ⟨v, rfl, h⟩ := rr.inv1
    obtain ⟨u, rfl, ru⟩ := vals1 rv
    obtain rfl := rep_bl h
    cases ru
    exact call_bool_bool ⟨.bl _, H, I, rfl, ko _ _ q _ w H (Le.refl w) A (.bl _)⟩
  · obtain ⟨v, rfl, h⟩ := rr.inv1
    obtain ⟨u, rfl, ru⟩ := vals1 rv
    obtain rfl := rep_int h
    obtain ⟨t, rfl⟩ := ru
    exact call_bool_int ⟨.bl _, H, I, rfl, ko _ _ q _ w H (Le.refl w) A (.bl _)⟩
  · exact q.elim
theorem eboolO {k j c : Nat} {C : Ct} {p : Pos} (F : OwnN X.prog X.w X.mg X.base g k c "__bool__" 1 C) (hK : g.K = X.K) (hr : Room j X.A) (hk : k + 2 ≤ j) (tk : Takes X W) (hg : Gl X "bool") (hm : X.mg "bool" = none) (ha : EA g X W [e] fr)
    (hs : starEach [e] X.env = (false, eval e X.env) :: starEach [] X.env := by rfl) (hpl : (backTo pos (starEach [] X.env)).any (·.1) = false := by rfl) : EV g X W (.Call (.Name "bool" p) [e] [] pos) (wOwn1 c C bkBool fr) := by
  refine ⟨fun pins s σ H Q I h => ?_⟩
  obtain ⟨w, ρ, S, K, ex, A, xo, ko, q⟩ := h
  obtain ⟨fn, h1, h2, F⟩ := F.ex
  rw [hK] at h1 h2 F
  refine wpAny_Call_Name_kw (ld_blt I hg hm boot_bool ?_ (by decide) (by decide))
  refine PyProof.Rows.callWith_type1 (thn (rdA_run ha pos I A xo q) fun us s1 ⟨vs, H1, w1, ds, S1, I1, rv, l1, A1, r1, q1⟩ => ?_) hs hpl
  obtain ⟨p, x, ox, od, rfl, rx, J, q1⟩ := own_inv I1 A1 rv r1 q1
  refine bool_call I1.kIn J h1 h2 (wpAny_mono (run1 (Q := fun v H2 => ∃ d w2 S2 z, Le w1 w2 ∧ At g w2 ρ S2 σ H2 ∧ Rep g w2 v d ∧ bkBool d = some z ∧ K z S2) F (hr.mono hk).in1.in1 I1.env0.in1.in1 tk I1 A1 rx (xo.later l1) (fun d S2 ⟨z, hz, kz⟩ v w2 H2 l2 A2 r2 => ⟨d, w2, S2, z, l2, A2, r2, hz, kz⟩) q1) (fun r s2 hb => ?_) fun _ _ y => y)
  obtain ⟨v, H2, I2, rv2, d, w2, S2, z, l2, A2, r2, hz, kz⟩ := hb
  unfold bkBool at hz
  split at hz
  · cases hz
    obtain rfl := rep_bl r2
    cases rv2
    exact ⟨_, rfl, .bl _, H2, I2, rfl, ko _ _ kz _ w2 H2 (l1.trans l2) A2 (.bl _)⟩
  · cases hz
end
section
variable {K : PySem.W.Frag} {f : Addr} {fd : FuncData} {ps : List Str} {x qual : Str} {params : Arguments} {body : List Stmt} {scope : Scope} {dvs : List V} {kws : List (Str × V)}
/-- where there are no defaults -/
theorem FunD.kb0N (F : FunD K x qual params body scope dvs kws f fd) (hd : dvs = []) (n : Nat) (ks : List Str) (is : List Nat)
    (h : ∀ (kV doc pm : Value) (an : Option Addr) (cdv ct : Value) (us ws : List Value), us.length = n → ws.length = ks.length → bindArgs (PySem.W.fnOf x qual params body scope .none kV doc pm an cdv ct) ⟨us, ks.zip ws⟩ = pure (ps.zip (pickI is (us ++ ws)))) :
    KBn K fd ps n ks (fun us ws => pickI is (us ++ ws)) (fun vs zs => pickI is (vs ++ zs)) := by
  obtain ⟨oc, od, dV, kV, doc, pm, an, cdv, ct, osl, rfl, lk, hcd, hD, hK⟩ := F.ex
  obtain rfl : dV = .none := by
    rcases hD with ⟨_, e⟩ | ⟨e, _⟩
    · exact e
    · exact absurd hd e
  refine ⟨fun s us ws X l1 l2 => BindsTo.of_looks fun M => ?_, fun r1 r2 => Vals.pick (r1.append r2) is⟩
  rw [h kV doc pm an cdv ct us ws l1 l2]
  exact .now
end
/-! ### a class by keywords -/
structure MakK (P : Program) (w : World) (mg : Str → Option Value) (base : Heap) (g : Sg) (k : Nat) (x : Str) (c : Nat) (ks : List Str) (C : Ct) : Prop where
  ex : ∃ f, mg x = some (.ref (g.ad c)) ∧ Mk g.K (g.ad c) f ∧ FnK P w g.K mg base (L2.CX P w) k f 1 ks (spInit g c ks.length C)
theorem pick_cons {α : Type} {x : α} {l : List α} : ∀ is : List Nat, pickI (is.map (· + 1)) (x :: l) = pickI is l
  | [] => rfl
  | i :: is => by
    have ih := pick_cons (x := x) (l := l) is
    unfold pickI at ih ⊢
    rw [List.map_cons, List.filterMap_cons, List.filterMap_cons, List.getElem?_cons_succ, ih]
theorem pick_head {α : Type} {x : α} {l : List α} (is : List Nat) : pickI (0 :: is.map (· + 1)) (x :: l) = x :: pickI is l := by
  show List.filterMap _ (0 :: _) = _
  rw [List.filterMap_cons]
  show x :: pickI (is.map (· + 1)) (x :: l) = _
  rw [pick_cons]
section
variable {g : Sg} {c m N : Nat} {is js : List Nat} {dvs : List V} {dd : List D} {C C1 : Ct}
theorem spInit_kw (hj : js = 0 :: is.map (· + 1)) (hd : ∀ w, Reps g w dvs dd) (hN : is.length = N) (hi : ∀ i ∈ is, i < dd.length + m) (hC : ∀ es S K ex, es.length = m → C1 es S K ex → C (pickI is (dd ++ es)) S K ex) {vs zs : List V} {H : Hp} {Q : VK} {E : XK} (l1 : vs.length = 1) (l2 : zs.length = m)
    (h : spInit g c m C1 (vs ++ zs) H Q E) : spInit g c N C (pickI js (vs ++ dvs ++ zs)) H Q E := by
  obtain ⟨x, dx, rest, w, ds, S, K, ex, ev, e1, hn, A0, hf, hs, r, ko, xo, q⟩ := h
  obtain ⟨v, rfl⟩ : ∃ v, vs = [v] := by
    match vs, l1 with
    | [v], _ => exact ⟨v, rfl⟩
  have e' : v :: zs = .ref x :: rest := ev
  cases e'
  subst hj
  have rr := (hd w).app r
  refine ⟨x, dx, pickI is (dvs ++ zs), w, pickI is (dd ++ ds), S, K, ex, pick_head is, e1, ?_, A0, hf, hs, rr.pick is, ko, xo, hC ds S K ex hn q⟩
  rw [pick_len fun i hh => ?_, hN]
  rw [List.length_append, hn]
  exact hi i hh
end
section
variable {g : Sg} {X : Cx} {W : WX} {a b e o : Expr} {pos apos : Pos} {fa fb fe fo : FE} {es : List Expr} {kws : List Keyword} {fr fk : FA} {st : Stmt}
theorem run_mkK {k c : Nat} {ks : List Str} {C : Ct} {fn : Addr} {pins : List (Addr × Obj)} {s : Shared} {σ : L2.St} {H : Hp} {w : Wd} {ρ : List Sl} {S : Store} {ds : List D} {vs : List V} {us : List Value} {K : KD} {ex : KX} {Q : VK}
    (M : Mk X.K (g.ad c) fn) (F : FnK X.prog X.w X.K X.mg X.base (L2.CX X.prog X.w) k fn 1 ks (spInit g c ks.length C)) (hr : Room (k + 1) X.A) (tk : Takes X W) (I : Inv X pins σ H s) (rv : Vals vs us) (A : At g w ρ S σ H) (rr : Reps g w vs ds) (hn : ds.length = ks.length)
    (xo : XOk g W σ ρ w ex) (ko : KOk g w ρ σ K Q) (q : C ds S K ex) : wpAny (model X.prog X.w) X.A (call (.ref (g.ad c)) [] (ks.zip us)) (EP X pins σ Q) X.xe s := by
  have hx : H (s.heap.objs.size + 1) = none := I.hok.fresh (Nat.le_succ _)
  have hdx : H s.heap.objs.size = none := I.hok.fresh (Nat.le_refl _)
  have I2 := Inv.made (C := g.ad c) I
  have ne : s.heap.objs.size + 1 ≠ s.heap.objs.size := Nat.succ_ne_self _
  have hx1 : upd H s.heap.objs.size (.own (s.heap.objs.size + 1)) (s.heap.objs.size + 1) = none := by rw [upd_ne ne]; exact hx
  have A2 : At g w ρ S σ (upd (upd H s.heap.objs.size (.own (s.heap.objs.size + 1))) (s.heap.objs.size + 1) (.ins (g.ad c) s.heap.objs.size [])) := (A.grow (same_new hdx)).grow (same_new hx1)
  have A1 := A.grow (same_new (o := .own (s.heap.objs.size + 1)) hdx)
  have fx : Fresh w ρ S σ (s.heap.objs.size + 1) := fresh_new A hx
  -- inside, the new instance is nobody's: the frame is the heap without it
  let wi : Wd := (w.inner S (upd (upd H s.heap.objs.size (.own (s.heap.objs.size + 1))) (s.heap.objs.size + 1) (.ins (g.ad c) s.heap.objs.size []))).drop (s.heap.objs.size + 1)
  have Ai : At0 g wi S (upd (upd H s.heap.objs.size (.own (s.heap.objs.size + 1))) (s.heap.objs.size + 1) (.ins (g.ad c) s.heap.objs.size [])) := by
    have E := A2.enter
    refine ⟨fun b u h => ?_, fun b u h => ?_, E.len, fun k ok h => ?_, E.inj, rfl, fun i d h => (by cases i <;> cases h), fun i d h => (by cases i <;> cases h), fun i h => (by cases i <;> cases h)⟩
    · have nb : b ≠ s.heap.objs.size + 1 := fun z => by
        have := A.ih b u h
        rw [z, hx] at this
        cases this
      show (if b = s.heap.objs.size + 1 then none else _) = _
      rw [if_neg nb]
      exact E.if_ b u h
    · have h' : (if b = s.heap.objs.size + 1 then none else (w.inner S _).F b) = some u := h
      by_cases c : b = s.heap.objs.size + 1
      · rw [if_pos c] at h'; cases h'
      · rw [if_neg c] at h'; exact E.fh b u h'
    · obtain ⟨h1, h2⟩ := E.st k ok h
      refine ⟨?_, h2.mono sub_drop rfl⟩
      show (if w.φ k = s.heap.objs.size + 1 then none else _) = none
      split
      · rfl
      · exact h1
  refine wpAny_call (make_map (f := fn) I.kIn M.makes M.init (beq_iff_eq.mp M.fn) (codeAny_mono (F _ X.stack _ _ [Value.ref (s.heap.objs.size + 1)] us [V.ref (s.heap.objs.size + 1)] vs (fun v H2 => v = .non ∧ Q (.ref (s.heap.objs.size + 1)) H2) (WE W σ) (hr.make (g.ad c) [] (ks.zip us))
    (I2.env0.make (g.ad c) [] (ks.zip us)) (.cons rfl .nil) rv rfl (rr.length.trans hn) ?_) fun r s' hq' => ?_))
  · refine ⟨_, _, vs, wi, ds, S, K, ex, rfl, upd_same, hn, Ai, if_pos rfl, fx.s, (rr.mono sub_inner).mono sub_drop, fun fs S' kk w' H' dx' us' l A' hF hS hH hl ru => ⟨rfl, ?_⟩, fun y S' ey w' H' cls dd l A' ry => ?_, q⟩
    · -- behind: the instance is a value
      have l' : Le (w.inner S H) (w'.add (s.heap.objs.size + 1) (.ins (g.ad c) dx' ((g.fl c).zip us'))) := by
        have la := le_add (o := .ins (g.ad c) dx' ((g.fl c).zip us')) A'.if_ hF
        refine ⟨⟨l.s.i.trans la.s.i, fun k hk => (la.s.p k (Nat.lt_of_lt_of_le hk l.s.n)).trans (l.s.p k hk), Nat.le_trans l.s.n la.s.n⟩, fun b u h => ?_, fun b h1 h2 => ?_⟩
        · refine la.f b u (l.f b u ?_)
          obtain ⟨e1, e2⟩ := strip_some h
          have nb : b ≠ s.heap.objs.size + 1 := fun z => by rw [z, hx] at e1; cases e1
          show (if b = s.heap.objs.size + 1 then none else strip w.φ S _ b) = some u
          rw [if_neg nb, strip_ne e2, upd_ne nb, upd_ne (fun z => by rw [z, hdx] at e1; cases e1)]
          exact e1
        · obtain ⟨u, hu⟩ : ∃ u, (w.inner S H).F b = some u := by
            cases e : (w.inner S H).F b with
            | none => exact absurd e h2
            | some u => exact ⟨u, rfl⟩
          obtain ⟨e1, e2⟩ := strip_some hu
          have nb : b ≠ s.heap.objs.size + 1 := fun z => by rw [z, hx] at e1; cases e1
          show upd w'.I _ _ b = none
          rw [upd_ne nb]
          refine l.new b h1 ?_
          show (if b = s.heap.objs.size + 1 then none else strip w.φ S _ b) ≠ none
          rw [if_neg nb, strip_ne e2, upd_ne nb, upd_ne (fun z => by rw [z, hdx] at e1; cases e1), e1]
          exact fun z => nomatch z
      have Af : At0 g (w'.add (s.heap.objs.size + 1) (.ins (g.ad c) dx' ((g.fl c).zip us'))) S' H' := A'.fix hH hF hS fun i oi h => (by cases i <;> cases h)
      obtain ⟨l2, A3⟩ := A.leave l' Af
      exact ko _ S' kk _ _ H' l2 A3 (.obj upd_same hl (ru.mono ((le_add (o := .ins (g.ad c) dx' ((g.fl c).zip us')) A'.if_ hF).s.trans sub_outer)))
    · -- an error leaves
      have l' : Le (w.inner S H) w' := by
        refine ⟨⟨l.s.i, l.s.p, l.s.n⟩, fun b u h => ?_, fun b h1 h2 => ?_⟩
        · refine l.f b u ?_
          obtain ⟨e1, e2⟩ := strip_some h
          have nb : b ≠ s.heap.objs.size + 1 := fun z => by rw [z, hx] at e1; cases e1
          show (if b = s.heap.objs.size + 1 then none else strip w.φ S _ b) = some u
          rw [if_neg nb, strip_ne e2, upd_ne nb, upd_ne (fun z => by rw [z, hdx] at e1; cases e1)]
          exact e1
        · obtain ⟨u, hu⟩ : ∃ u, (w.inner S H).F b = some u := by
            cases e : (w.inner S H).F b with
            | none => exact absurd e h2
            | some u => exact ⟨u, rfl⟩
          obtain ⟨e1, e2⟩ := strip_some hu
          have nb : b ≠ s.heap.objs.size + 1 := fun z => by rw [z, hx] at e1; cases e1
          refine l.new b h1 ?_
          show (if b = s.heap.objs.size + 1 then none else strip w.φ S _ b) ≠ none
          rw [if_neg nb, strip_ne e2, upd_ne nb, upd_ne (fun z => by rw [z, hdx] at e1; cases e1), e1]
          exact fun z => nomatch z
      obtain ⟨l2, A3⟩ := A.leave l' A'
      obtain ⟨h1, a, vs, h2, h3, h4, h5⟩ := ry
      exact xo y S' ey _ H' cls dd l2 A3 ⟨h1, a, vs, h2, h3, h4, h5.mono sub_outer⟩
  · cases r with
    | error e => exact passAt tk σ pins _ _ e s' I2 hq'
    | ok fl =>
      cases fl with
      | ret u =>
        obtain ⟨v, H', I3, rv, ev, q3⟩ := I2.after hq'
        subst ev
        exact ⟨rv, ⟨V.ref (s.heap.objs.size + 1), H', I3, rfl, q3⟩⟩
      | next => exact False.elim hq'
      | brk => exact False.elim hq'
      | cont => exact False.elim hq'
/-- f(k = v, ..) -/
def wCallK (n : Nat) (C : Ct) (f : FA) (ρ : List Sl) (S : Store) (K : KD) (ex : KX) : Prop := f ρ S (fun ds S1 => ds.length = n ∧ C ds S1 K ex) ex
theorem emakeK {x : Str} {k j c : Nat} {n : Nat} {ks : List Str} {C : Ct} {p : Pos} (F : MakK X.prog X.w X.mg X.base g k x c ks C) (hK : g.K = X.K) (hr : Room j X.A) (hk : k + 1 ≤ j) (tk : Takes X W) (hg : Gl X x) (ha : EK g X W kws fk) (hdb : (x == ("__debug__" : Str)) = false := by decide)
    (hall : (backToKw pos (keywordEach kws X.env)).all (·.1.isSome) = true := by rfl) (hks : (backToKw pos (keywordEach kws X.env)).filterMap (·.1) = ks := by rfl)
    (hpl : ((backTo pos (starEach [] X.env)).any (·.1) || (backToKw pos (keywordEach kws X.env)).any (·.1.isNone)) = false := by rfl) (hn0 : ks.length = n := by rfl) : EV g X W (.Call (.Name x p) [] kws pos) (wCallK n C fk) := by
  subst hn0
  refine ⟨fun pins s σ H Q I h => ?_⟩
  obtain ⟨w, ρ, S, K, ex, A, xo, ko, q⟩ := h
  obtain ⟨fn, hm, M, F⟩ := F.ex
  rw [hK] at M F
  refine wpAny_Call_Name_kw (ld_glob I hg hm ?_ hdb)
  refine PySem.W.callWith_KW0 (first := []) (h₀ := X.base) I.ok.mod.kin M.kp hall (thn (rdK_run ha pos I A xo q) fun us s2 ⟨ws, H2, w2, es2, S2, I2, rv, l2, A2, r2, hn, q2⟩ => ⟨I2.kIn, ?_⟩) hpl
  rw [hks]
  exact run_mkK M F (hr.mono hk) tk I2 rv A2 r2 hn (xo.later l2) (ko.later l2) q2
/-! ### a def by keywords -/
structure CalK (P : Program) (w : World) (mg : Str → Option Value) (base : Heap) (g : Sg) (k : Nat) (x : Str) (ks : List Str) (C : Ct) : Prop where
  ex : ∃ f, mg x = some (.ref f) ∧ PySem.W.keepIn g.K (.ref f) = true ∧ FnK P w g.K mg base (L2.CX P w) k f 0 ks (spOf g (0 + ks.length) C)
theorem ecallK {x : Str} {k j : Nat} {n : Nat} {ks : List Str} {C : Ct} {p : Pos} (F : CalK X.prog X.w X.mg X.base g k x ks C) (hK : g.K = X.K) (hr : Room j X.A) (hk : k ≤ j) (tk : Takes X W) (hg : Gl X x) (ha : EK g X W kws fk) (hdb : (x == ("__debug__" : Str)) = false := by decide)
    (hall : (backToKw pos (keywordEach kws X.env)).all (·.1.isSome) = true := by rfl) (hks : (backToKw pos (keywordEach kws X.env)).filterMap (·.1) = ks := by rfl)
    (hpl : ((backTo pos (starEach [] X.env)).any (·.1) || (backToKw pos (keywordEach kws X.env)).any (·.1.isNone)) = false := by rfl) (hn0 : ks.length = n := by rfl) : EV g X W (.Call (.Name x p) [] kws pos) (wCallK n C fk) := by
  subst hn0
  refine ⟨fun pins s σ H Q I h => ?_⟩
  obtain ⟨w, ρ, S, K, ex, A, xo, ko, q⟩ := h
  obtain ⟨fn, hm, kp, F⟩ := F.ex
  rw [hK] at kp F
  refine wpAny_Call_Name_kw (ld_glob I hg hm ?_ hdb)
  refine PySem.W.callWith_KW0 (first := []) (h₀ := X.base) I.ok.mod.kin kp hall (thn (rdK_run ha pos I A xo q) fun us s2 ⟨ws, H2, w2, es2, S2, I2, rv, l2, A2, r2, hn, q2⟩ => ⟨I2.kIn, ?_⟩) hpl
  rw [hks]
  exact wpAny_call (run_ctK (us := []) (vs := []) (ds := []) F (hr.mono hk) I2.env0 tk I2 .nil rv A2 .nil r2 rfl hn (xo.later l2) (ko.later l2) q2)
theorem spOfL_kw {n m N : Nat} {is : List Nat} {dvs : List V} {dd : List D} {C C1 : CtL} (hd : ∀ w, Reps g w dvs dd) (hN : is.length = N) (hi : ∀ i ∈ is, i < n + dd.length + m) (hC : ∀ ds es S K ex, ds.length = n → es.length = m → C1 (ds ++ es) S K ex → C (pickI is (ds ++ dd ++ es)) S K ex) {vs zs : List V} {H : Hp} {Q : VK} {E : XK} (l1 : vs.length = n) (l2 : zs.length = m)
    (h : spOfL g (n + m) C1 (vs ++ zs) H Q E) : spOfL g N C (pickI is (vs ++ dvs ++ zs)) H Q E := by
  obtain ⟨w, ds, S, K, ex, hn, A0, r, ko, xo, q⟩ := h
  have r1 := r.take n
  have r2 := r.drop n
  rw [List.take_left' l1] at r1
  rw [List.drop_left' l1] at r2
  have e : ds.take n ++ ds.drop n = ds := List.take_append_drop n ds
  have h1 : (ds.take n).length = n := by rw [List.length_take, hn]; omega
  have h2 : (ds.drop n).length = m := by rw [List.length_drop, hn]; omega
  refine ⟨w, pickI is (ds.take n ++ dd ++ ds.drop n), S, K, ex, ?_, A0, ((r1.app (hd w)).app r2).pick is, ko, xo, hC _ _ S K ex h1 h2 (by rw [e]; exact q)⟩
  rw [pick_len fun i hh => ?_, hN]
  rw [List.length_append, List.length_append, h1, h2]
  exact hi i hh
structure CalLK (P : Program) (w : World) (mg : Str → Option Value) (base : Heap) (g : Sg) (k : Nat) (x : Str) (ks : List Str) (C : CtL) : Prop where
  ex : ∃ f, mg x = some (.ref f) ∧ PySem.W.keepIn g.K (.ref f) = true ∧ FnK P w g.K mg base (L2.CX P w) k f 0 ks (spOfL g (0 + ks.length) C)
def wCallLK (n : Nat) (C : CtL) (f : FA) (ρ : List Sl) (S : Store) (K : List D → Store → Prop) (ex : KX) : Prop := f ρ S (fun ds S1 => ds.length = n ∧ C ds S1 K ex) ex
theorem ecallLK {x : Str} {k j : Nat} {n : Nat} {ks : List Str} {C : CtL} {p : Pos} (F : CalLK X.prog X.w X.mg X.base g k x ks C) (hK : g.K = X.K) (hr : Room j X.A) (hk : k ≤ j) (tk : Takes X W) (hg : Gl X x) (ha : EK g X W kws fk) (hdb : (x == ("__debug__" : Str)) = false := by decide)
    (hall : (backToKw pos (keywordEach kws X.env)).all (·.1.isSome) = true := by rfl) (hks : (backToKw pos (keywordEach kws X.env)).filterMap (·.1) = ks := by rfl)
    (hpl : ((backTo pos (starEach [] X.env)).any (·.1) || (backToKw pos (keywordEach kws X.env)).any (·.1.isNone)) = false := by rfl) (hn0 : ks.length = n := by rfl) : EL g X W (.Call (.Name x p) [] kws pos) (wCallLK n C fk) := by
  subst hn0
  refine ⟨fun pins s σ H Q I h => ?_⟩
  obtain ⟨w, ρ, S, K, ex, A, xo, ko, q⟩ := h
  obtain ⟨fn, hm, kp, F⟩ := F.ex
  rw [hK] at kp F
  refine wpAny_Call_Name_kw (ld_glob I hg hm ?_ hdb)
  refine PySem.W.callWith_KW0 (first := []) (h₀ := X.base) I.ok.mod.kin kp hall (thn (rdK_run ha pos I A xo q) fun us s2 ⟨ws, H2, w2, es2, S2, I2, rv, l2, A2, r2, hn, q2⟩ => ⟨I2.kIn, ?_⟩) hpl
  rw [hks]
  have ko2 := ko.later l2
  have xo2 := xo.later l2
  refine wpAny_call (codeAny_mono (F X.A X.stack s2 H2 [] us [] ws Q (WE W σ) (hr.mono hk) I2.env0 .nil rv rfl (r2.length.trans hn) ?_) fun r s' hq => ?_)
  · refine ⟨w2.inner S2 H2, es2, S2, K, ex, by rw [Nat.zero_add]; exact hn, A2.enter, reps_inner r2, fun d S' k p ps w' H' l A' e1 f1 r' => ?_, fun x S' e w' H' cls dd l A' r' => ?_, q2⟩
    · obtain ⟨l3, A3⟩ := A2.leave l A'
      exact ko2 d S' k p ps _ H' l3 A3 e1 (fresh_out A2 l f1) (r'.mono sub_outer)
    · obtain ⟨l3, A3⟩ := A2.leave l A'
      obtain ⟨h1, a, vs, h2, h3, h4, h5⟩ := r'
      exact xo2 x S' e _ H' cls dd l3 A3 ⟨h1, a, vs, h2, h3, h4, h5.mono sub_outer⟩
  · cases r with
    | error e => exact passAt tk σ pins H2 s2 e s' I2 hq
    | ok fl =>
      cases fl with
      | ret u => exact I2.after hq
      | next => exact False.elim hq
      | brk => exact False.elim hq
      | cont => exact False.elim hq
end
end R3

/-! R3bk: int + instance, by the instance's reflected method. -/
namespace R3
open PySem PySem.Spec PyProof.Rows L2
/-- the slot of int that answers an operator -/
structure IntBin (op : Operator) (id : String) (name : String) (fn : Int → Int → Sem PySem.Fin) : Prop where
  slot : Slot "int" (PySem.dunder op.info.2) id
  entry : entryFor table id = some (Builtin.Int.intBinary name fn false)
  args : ∀ a b, argsOk id ⟨[a, b], []⟩
  fills : fillsNumberSlot (.type "int") op.info.2 = pure true
theorem ib_add : ∃ id name fn, IntBin .Add id name fn := ⟨_, _, _, PySem.F.slot_int_add, PySem.F.entry_int_add, PySem.F.args_int_add_2, PySem.F.fills_int_add⟩
theorem ib_sub : ∃ id name fn, IntBin .Sub id name fn := ⟨_, _, _, PySem.F.slot_int_sub, PySem.F.entry_int_sub, PySem.F.args_int_sub_2, PySem.F.fills_int_sub⟩
theorem ib_mul : ∃ id name fn, IntBin .Mult id name fn := ⟨_, _, _, PySem.F.slot_int_mul, PySem.F.entry_int_mul, PySem.F.args_int_mul_2, PySem.F.fills_int_mul⟩
section
variable {prog : Program} {w : World} {A : Around} {E : Value → Shared → Prop} {s : Shared} {K : Fr} {x C L f f0 dx : Addr} {h₀ : Heap} {m : Str → Option Value} {i : Int} {t : Tok} {ox : Obj} {od : Option Obj}
theorem bin_refl {op : Operator} {Q : Value → Shared → Prop} (hb : ∃ id name fn, IntBin op id name fn) (F : PyProof.Rows.Fr h₀ L s.heap m) (X₀ : K.In h₀) (hx : s.heap.get? x = some (PySem.W.instObj C dx)) (I : PySem.W.InstAt s.heap x ox C od) (hc : PySem.W.selfFirst K C = true)
    (hn : PySem.W.subIn K (.ref C) (.type "int") = some false) (h0 : PySem.W.findIn K (.ref C) (PySem.dunder op.info.2) = some (some (.ref f0))) (hs : PySem.W.findIn K (.ref C) (dunderR op.info.2) = some (some (.ref f))) (hf : PySem.W.isFn K (.ref f) = true)
    (h : wpAny (model prog w) A (call (.ref f) [.ref x, .int i t]) (PySem.W.CmpBack Q) E s) : wpAny (model prog w) A (binaryOp op (.int i t) (.ref x)) Q E s := by
  have X := X₀.keeps F.keep
  obtain ⟨cd, rest, hcd, hm⟩ := PySem.W.ksp_first hc
  obtain ⟨id, name, fn, c⟩ := hb
  have cs := c.slot
  have cf := c.fills
  rcases hi : op.info with ⟨sym, nm'⟩
  rw [hi] at hs h0 cs cf
  dsimp only at hs h0 cs cf
  have one := PySem.W.ksp_try X I hs hf h
  have L3 : PySem.W.Looks (model prog w) s.heap (fillsNumberSlot (.ref C) nm') true := PySem.W.fills_K X hcd hm h0
  simp only [binaryOp, hi]
  refine wpAny_holding (wpAny_bind ?_)
  unfold binaryOp1
  refine wpAny_bind (wpAny_typeOf (typeIs_int s i t) (wpAny_bind (I.type.here (wpAny_bind (wpAny_of_eq cf ?_)))))
  have hne : (Value.type "int" == Value.ref C) = false := Bool.eq_false_iff.mpr fun q => by cases beq_iff_eq.mp q
  simp only [hne, Bool.false_eq_true, if_false]
  refine wpAny_bind (L3.here ?_)
  simp only [Bool.and_self, if_true]
  refine wpAny_bind ((PySem.W.looks_subIn X hn).here ?_)
  have hpy : numberSlotInPython (.type "int") nm' = pure false := rfl
  simp only [Bool.false_eq_true, if_false, pure_bind, Bool.not_false, Bool.and_self, if_true, hpy]
  refine wpAny_bind (wpAny_tryMethod_declines (typeIs_int s i t) cs (wpAny_call (codeAny_call_builtin cs.plain c.entry (cs.check _ _ _ _ _ _ _ _ (typeIs_int s i t) (c.args _ _) (int_ni hx ?_)))))
  refine ⟨rfl, ?_⟩
  refine wpAny_bind (wpAny_mono one (fun r s' hr' => ?_) fun _ _ e => e)
  obtain ⟨v, rfl, hq⟩ := hr'
  first | exact wpAny_bind (wpAny_rule (wpAny_pure (wpAny_pure hq))) | exact wpAny_bind (wpAny_rule (wpAny_pure hq)) | exact wpAny_pure (wpAny_pure hq)
end
section
variable {g : Sg} {X : Cx} {W : WX}
def rReflB (c : Nat) (C : Ct) (x y : D) (S : Store) (K : KD) (ex : KX) : Prop := (∃ i, x = .int i) ∧ (∃ ds, insOf c S y = some ds) ∧ C [y, x] S K ex
/-- what is told of the class -/
def fReflB (x : Str) (op : Operator) (K : Fr) : Bool := PySem.W.selfFirst K (He.ga K x) && (decide (PySem.W.subIn K (.ref (He.ga K x)) (.type "int") = some false) && (match PySem.W.findIn K (.ref (He.ga K x)) (PySem.dunder op.info.2) with | some (some (.ref _)) => true | _ => false))
theorem bin_reflX {op : Operator} {k j c : Nat} {C : Ct} {x : Str} (hb : ∃ id name fn, IntBin op id name fn) (F : OwnN X.prog X.w X.mg X.base g k c (dunderR op.info.2) 2 C) (hx : g.ad c = He.ga X.K x) (hf : fReflB x op X.K = true) (hK : g.K = X.K) (hr : Room j X.A) (hk : k ≤ j) (tk : Takes X W) : OpX g X W (binaryOp op) (rReflB c C) := by
  intro pins s σ H w ρ S x y vx vy u v K ex Q I ru rv A rx ry xo ko q
  obtain ⟨⟨i, rfl⟩, ⟨ds, hi⟩, q⟩ := q
  obtain ⟨fn, hs, hfn, F⟩ := F.ex
  rw [hK] at hs hfn F
  obtain ⟨f1, f2⟩ := Bool.and_eq_true_iff.mp hf
  obtain ⟨f2, f3⟩ := Bool.and_eq_true_iff.mp f2
  rw [← hx] at f1 f2 f3
  have h3 : ∃ f0, PySem.W.findIn X.K (.ref (g.ad c)) (PySem.dunder op.info.2) = some (some (.ref f0)) := by
    split at f3
    · exact ⟨_, by assumption⟩
    · cases f3
  obtain ⟨f0, h3⟩ := h3
  obtain rfl := rep_int rx
  obtain ⟨t, rfl⟩ := ru
  obtain ⟨p, dx, od, rfl, rfl, hp, J⟩ := inst_raw I A ry hi rv
  obtain ⟨m, hF⟩ := I.fr
  refine bin_refl hb hF I.ok.mod.kin hp J f1 (of_decide_eq_true f2) h3 hs hfn ?_
  refine wpAny_mono (wpAny_call (run_ct (W := W) (us := [.ref p, .int i t]) (vs := [.ref p, .int i]) F (hr.mono hk) I.env0 tk I (.cons rfl (.cons ⟨t, rfl⟩ .nil)) A (.cons ry (.one rx)) rfl xo ko q)) (fun z s' h => ?_) fun _ _ x => x
  obtain ⟨z', H', I', rz, qz⟩ := h
  exact SlX.cmpback rz ⟨z', H', I', rz, qz⟩
end
end R3

/-! R3bl: list(zip(a, b, c)), below the frame. -/
namespace R3
open PySem PySem.Spec PyProof.Rows L2
/-- an iterator of tuples that are kept; S is the list that keeps them -/
structure Kept (prog : Program) (w : World) (A : Around) (S z : Addr) (ty : String) (wr : List Addr) (n : Nat) (P : Nat → Array Value → Prop) (St : Nat → Heap → Prop) : Prop where
  typ : ∀ i (s : Shared), St i s.heap → s.TypeIs (.ref z) ty
  out : S ∉ wr
  frame : ∀ i h h', St i h → (∀ b o, b ≠ S → h.get? b = some o → h'.get? b = some o) → St i h'
  item : ∀ i (s : Shared) (Q : Option Value → Shared → Prop) (E : Value → Shared → Prop), i < n → St i s.heap → S < s.heap.objs.size →
    (∀ vals h' tk, P i vals → h'.get? s.heap.objs.size = some { cls := .type "tuple", data := .seq vals } → h'.objs.size = s.heap.objs.size + 1 → St (i + 1) h' → (∀ b o, b ∉ wr → s.heap.get? b = some o → h'.get? b = some o) → Q (some (.ref s.heap.objs.size)) { s with heap := h', toks := tk }) →
    wpAny (model prog w) A (pyNext (.ref z)) Q E s
  done : ∀ (s : Shared) (Q : Option Value → Shared → Prop) (E : Value → Shared → Prop), St n s.heap →
    (∀ h' tk, (∀ b o, b ∉ wr → s.heap.get? b = some o → h'.get? b = some o) → Q none { s with heap := h', toks := tk }) → wpAny (model prog w) A (pyNext (.ref z)) Q E s
  self : ∀ i (s : Shared) (Q : Value → Shared → Prop) (E : Value → Shared → Prop), St i s.heap → Q (.ref z) s → wpAny (model prog w) A (pyIter (.ref z)) Q E s
/-- the tuples that are there -/
structure Tups (P : Nat → Array Value → Prop) (lo : Addr) (h : Heap) (as : List Addr) : Prop where
  rise : as.Pairwise (· < ·)
  above : ∀ a ∈ as, lo ≤ a
  vals : ∀ (j : Nat) (a : Addr), as[j]? = some a → ∃ vals, P j vals ∧ h.get? a = some { cls := .type "tuple", data := .seq vals }
theorem Tups.there {P : Nat → Array Value → Prop} {lo : Addr} {h : Heap} {as : List Addr} (g : Tups P lo h as) {a : Addr} (ha : a ∈ as) : a < h.objs.size := by
  obtain ⟨j, hj⟩ := List.mem_iff_getElem?.mp ha
  obtain ⟨_, _, e⟩ := g.vals j a hj
  exact Heap.lt_size e
section
variable {prog : Program} {w : World} {A : Around} {s : Shared} {R : Result → Shared → Prop} {S z : Addr} {ty : String} {wr : List Addr} {n : Nat} {P : Nat → Array Value → Prop} {St : Nat → Heap → Prop}
theorem kept_loop (W : Kept prog w A.in1 S z ty wr n P St) (hn : n ≤ sizeLine) (res : Value) {h₁ : Heap} {lo : Addr} (hlo : ∀ b ∈ wr, b < lo) (hSl : S < lo)
    (hR : ∀ h' tk acc c as, (∀ b o, b ≠ S → b ∉ wr → h₁.get? b = some o → h'.get? b = some o) → h'.get? S = some { cls := .type "list", dict := none, data := .seq acc c, slots := #[] } → as.length = n → Tups P lo h' as →
      acc.toList = as.map Value.ref → R (.ok (.ret res)) { s with heap := h', toks := tk }) :
    ∀ (k i : Nat) (h : Heap) (tk c : Nat) (acc : Array Value) (as : List Addr), n - i = k → i ≤ n → St i h → (∀ b o, b ≠ S → b ∉ wr → h₁.get? b = some o → h.get? b = some o) →
      h.get? S = some { cls := .type "list", dict := none, data := .seq acc c, slots := #[] } → acc.toList = as.map Value.ref → as.length = i → Tups P lo h as → lo ≤ h.objs.size →
      codeAny (model prog w) A (.builtin "list.extend.loop" ⟨[.ref S, .ref z, res], []⟩) R { s with heap := h, toks := tk } := by
  intro k
  induction k with
  | zero =>
    intro i h tk c acc as hk hi hst hkeep hS hacc hal hG hlz
    have hin : i = n := by omega
    refine codeAny_builtin PySem.F.entry_extend_loop ?_
    rw [Around.under_plainId PySem.F.plain_extend_loop _]
    show wpAny _ A.in1 (pyNext (.ref z) >>= _) _ _ _
    refine wpAny_bind (W.done { s with heap := h, toks := tk } _ _ (by rw [← hin]; exact hst) fun h' tk' he => ?_)
    refine wpAny_pure (hR h' tk' acc c as (fun b o h1 h2 e => he b o h2 (hkeep b o h1 h2 e)) (he S _ W.out hS) (by omega) ⟨hG.rise, hG.above, fun j a hj => ?_⟩ hacc)
    obtain ⟨vals, e1, e2⟩ := hG.vals j a hj
    have ha := hG.above a (List.mem_of_getElem? hj)
    exact ⟨vals, e1, he a _ (fun q => absurd (hlo a q) (Nat.not_lt.mpr ha)) e2⟩
  | succ k ih =>
    intro i h tk c acc as hk hi hst hkeep hS hacc hal hG hlz
    have hlt : i < n := by omega
    have hsz : acc.size = i := by rw [← Array.length_toList, hacc, List.length_map, hal]
    have hSh : S < h.objs.size := Heap.lt_size hS
    refine codeAny_builtin PySem.F.entry_extend_loop ?_
    rw [Around.under_plainId PySem.F.plain_extend_loop _]
    show wpAny _ A.in1 (pyNext (.ref z) >>= _) _ _ _
    refine wpAny_bind (W.item i { s with heap := h, toks := tk } _ _ hlt hst hSh fun vals h' tk' hP ht hz hst' hkp => ?_)
    dsimp only at ht hz hkp ⊢
    have hS' := hkp S _ W.out hS
    have up : ∀ b o, b ≠ S → h'.get? b = some o → (h'.update S (Obj.mapSeq (·.push (Value.ref h.objs.size)))).get? b = some o := fun b o hb e => (Heap.get?_update_other _ _ (Ne.symm hb)).trans e
    show wpAny _ A.in1 (updateSeq S (·.push (Value.ref h.objs.size)) >>= _) _ _ _
    refine wpAny_bind ?_
    refine wpAny_updateSeq hS' rfl (wpAny_pure ⟨plainId_quiet PySem.F.plain_extend_loop _, ih (i + 1) _ _ _ (acc.push (Value.ref h.objs.size)) (as ++ [h.objs.size]) (by omega) hlt (W.frame _ _ _ hst' up)
      (fun b o h1 h2 e => up b o h1 (hkp b o h2 (hkeep b o h1 h2 e))) (Heap.get?_update_self _ hS' rfl) (by rw [Array.toList_push, hacc, List.map_append]; rfl) (by rw [List.length_append, hal]; rfl) ⟨?_, ?_, ?_⟩ ?_⟩) (by rw [hsz]; omega) (by show (acc.push _).size ≤ sizeLine + 1; rw [Array.size_push, hsz]; omega)
    · refine List.pairwise_append.mpr ⟨hG.rise, List.pairwise_singleton _ _, fun a ha b hb => ?_⟩
      rw [List.mem_singleton.mp hb]
      exact hG.there ha
    · intro a ha
      rcases List.mem_append.mp ha with ha | ha
      · exact hG.above a ha
      · rw [List.mem_singleton.mp ha]; exact hlz
    · intro j b hj
      rcases Nat.lt_trichotomy j as.length with h1 | h1 | h1
      · rw [List.getElem?_append_left h1] at hj
        obtain ⟨vals', e1, e2⟩ := hG.vals j b hj
        have hb := hG.above b (List.mem_of_getElem? hj)
        exact ⟨vals', e1, up b _ (Nat.ne_of_gt (Nat.lt_of_lt_of_le hSl hb)) (hkp b _ (fun q => absurd (hlo b q) (Nat.not_lt.mpr hb)) e2)⟩
      · subst h1
        have hb : h.objs.size = b := by simpa using hj
        subst hb
        exact ⟨vals, by rw [hal]; exact hP, up _ _ (Nat.ne_of_gt hSh) ht⟩
      · have hnone : (as ++ [h.objs.size])[j]? = none := List.getElem?_eq_none (by rw [List.length_append, List.length_singleton]; omega)
        rw [hnone] at hj; cases hj
    · have e : (h'.update S (Obj.mapSeq (·.push (Value.ref h.objs.size)))).get? h.objs.size = _ := up _ _ (Nat.ne_of_gt hSh) ht
      exact Nat.le_of_lt (Nat.lt_of_le_of_lt hlz (Heap.lt_size e))
/-- what list() asks of the type -/
structure NoLen (ty : String) : Prop where
  len : typeLookup (.type ty) "__len__" = pure none
  hint : typeLookup (.type ty) "__length_hint__" = pure none
  nl : (Value.type ty == Value.type "list") = false
  nt : (Value.type ty == Value.type "tuple") = false
theorem nolen_zip : NoLen "zip" := ⟨am_miss_of_fast (by decide +kernel), am_miss_of_fast (by decide +kernel), by decide, by decide⟩
theorem kept_extend (L : NoLen ty) (W : Kept prog w A.in1 S z ty wr n P St) (hn : n ≤ sizeLine) (hst : St 0 s.heap) (hw : ∀ b ∈ wr, b < s.heap.objs.size) (hSz : S ≠ z) (res : Value) (c₀ : Nat) (hS : s.heap.get? S = some { cls := .type "list", data := .seq #[] c₀ })
    (hR : ∀ h' tk acc c as, (∀ b o, b ≠ S → b ∉ wr → s.heap.get? b = some o → h'.get? b = some o) → h'.get? S = some { cls := .type "list", dict := none, data := .seq acc c, slots := #[] } → as.length = n → Tups P s.heap.objs.size h' as →
      acc.toList = as.map Value.ref → R (.ok (.ret res)) { s with heap := h', toks := tk }) :
    wpAny (model prog w) A.in1 (Builtin.List.listExtendWith (.ref S) (.ref z) res)
      (fun fin s' => match fin with | .done f => R (.ok f) s' | .again c' => c'.quiet = true ∧ codeAny (model prog w) A c' R s') (fun e s' => R (.error e) s') s := by
  unfold Builtin.List.listExtendWith
  refine wpAny_bind (wpAny_typeOf (W.typ 0 _ hst) ?_)
  have h1 : Builtin.List.listSameRef (.ref S) (.ref z) = false := by simp [Builtin.List.listSameRef, hSz]
  simp only [h1, L.nl, L.nt, Bool.or_false, Bool.false_eq_true, if_false]
  refine wpAny_bind (W.self 0 _ _ _ hst ?_)
  refine wpAny_bind (wpAny_holding ?_)
  unfold Builtin.List.listLengthHint
  refine wpAny_bind (wpAny_specialOf (W.typ 0 _ hst) L.len ?_)
  show wpAny _ A.in1 (specialOf (Value.ref z) (Str.ofString "__length_hint__") >>= _) _ _ _
  refine wpAny_bind (wpAny_specialOf (W.typ 0 _ hst) L.hint ?_)
  refine wpAny_pure ?_
  show wpAny _ A.in1 (rule "list.extend.makes-room" >>= fun _ => Builtin.List.listTouch (.ref S) >>= fun _ =>
    again (.builtin "list.extend.loop" ⟨[.ref S, .ref z, res], []⟩)) _ _ _
  refine wpAny_bind (wpAny_rule ?_)
  refine wpAny_bind ?_
  show wpAny _ A.in1 (updateSeq S (·.push .none) >>= fun _ => updateSeq S (·.pop)) _ _ _
  refine wpAny_bind (wpAny_updateSeq hS rfl ?_)
  have hS₂ := Heap.get?_update_self (Obj.mapSeq (·.push Value.none)) hS rfl
  refine wpAny_updateSeq (hz := by seq_fits) hS₂ rfl ?_
  have hS₃ := Heap.get?_update_self (Obj.mapSeq (·.pop)) hS₂ rfl
  have oth : ∀ b o, b ≠ S → s.heap.get? b = some o → ((s.heap.update S (Obj.mapSeq (·.push Value.none))).update S (Obj.mapSeq (·.pop))).get? b = some o :=
    fun b o hb e => (Heap.get?_update_other _ _ (Ne.symm hb)).trans ((Heap.get?_update_other _ _ (Ne.symm hb)).trans e)
  have hsz : ((s.heap.update S (Obj.mapSeq (·.push Value.none))).update S (Obj.mapSeq (·.pop))).objs.size = s.heap.objs.size := by rw [(Heap.SameBut.update ..).1, (Heap.SameBut.update ..).1]
  refine wpAny_pure ⟨plainId_quiet PySem.F.plain_extend_loop _, kept_loop (s := s) (h₁ := s.heap) (lo := s.heap.objs.size) W hn res hw (Heap.lt_size hS) hR n 0 _ s.toks _ _ [] (Nat.sub_zero _) (Nat.zero_le _) (W.frame _ _ _ hst oth) (fun b o hb _ e => oth b o hb e) hS₃ rfl rfl
    ⟨List.Pairwise.nil, (fun _ ha => nomatch ha), (fun j a hj => by simp at hj)⟩ (by rw [hsz]; exact Nat.le_refl _)⟩
theorem kept_init (L : NoLen ty) (W : Kept prog w A.in1 S z ty wr n P St) (hn : n ≤ sizeLine) (hst : St 0 s.heap) (hw : ∀ b ∈ wr, b < s.heap.objs.size) (hSz : S ≠ z) (hS : s.heap.get? S = some { cls := .type "list", data := .seq #[] })
    (hR : ∀ h' tk acc c as, (∀ b o, b ≠ S → b ∉ wr → s.heap.get? b = some o → h'.get? b = some o) → h'.get? S = some { cls := .type "list", dict := none, data := .seq acc c, slots := #[] } → as.length = n → Tups P s.heap.objs.size h' as →
      acc.toList = as.map Value.ref → R (.ok (.ret .none)) { s with heap := h', toks := tk }) :
    wpAny (model prog w) A.in1 (Builtin.«list.__init__» ⟨[.ref S, .ref z], []⟩)
      (fun fin s' => match fin with | .done f => R (.ok f) s' | .again c' => c'.quiet = true ∧ codeAny (model prog w) A c' R s') (fun e s' => R (.error e) s') s := by
  show wpAny _ _ (do let old ← Builtin.List.listItems (.ref S); Builtin.List.listUpdate (.ref S) (fun _ => #[]); letGo old.toList.reverse; Builtin.List.listExtendWith (.ref S) (.ref z) .none) _ _ s
  refine wpAny_bind ?_
  unfold Builtin.List.listItems
  refine wpAny_bind (wpAny_seqItems hS rfl (wpAny_pure ?_))
  show wpAny _ _ (updateSeq S (fun _ => #[]) >>= fun _ => letGo (#[] : Array Value).toList.reverse >>= fun _ => Builtin.List.listExtendWith (.ref S) (.ref z) .none) _ _ s
  refine wpAny_bind (wpAny_updateSeq hS rfl ?_)
  have hS₂ := Heap.get?_update_self (Obj.mapSeq (fun _ => (#[] : Array Value))) hS rfl
  have oth : ∀ b o, b ≠ S → s.heap.get? b = some o → (s.heap.update S (Obj.mapSeq (fun _ => (#[] : Array Value)))).get? b = some o :=
    fun b o hb e => (Heap.get?_update_other _ _ (Ne.symm hb)).trans e
  have hsz : (s.heap.update S (Obj.mapSeq (fun _ => (#[] : Array Value)))).objs.size = s.heap.objs.size := (Heap.SameBut.update ..).1
  refine wpAny_bind (wpAny_letGo ?_)
  refine kept_extend L W hn (W.frame _ _ _ hst oth) (fun b hb => by show b < Array.size _; rw [hsz]; exact hw b hb) hSz .none _ hS₂ fun h' tk acc c as hk hS' hl hG hacc => ?_
  exact hR h' tk acc c as (fun b o hb hw e => hk b o hb hw (oth b o hb e)) hS' hl (by rw [← hsz]; exact hG) hacc
end
section
variable {prog : Program} {w : World} {A : Around} {E : Value → Shared → Prop} {s : Shared} {z : Addr} {ty : String} {wr : List Addr} {n : Nat} {P : Nat → Array Value → Prop} {St : Nat → Heap → Prop}
theorem kept_call {Q : Value → Shared → Prop} (L : NoLen ty) (W : Kept prog w A.in1.in1 s.heap.objs.size z ty wr n P St) (hn : n ≤ sizeLine) (hst : St 0 s.heap) (hw : ∀ b ∈ wr, b < s.heap.objs.size) (hz : z < s.heap.objs.size)
    (hQ : ∀ h' tk acc c as, (∀ b o, b ∉ wr → s.heap.get? b = some o → h'.get? b = some o) → h'.get? s.heap.objs.size = some { cls := .type "list", dict := none, data := .seq acc c, slots := #[] } → as.length = n → Tups P (s.heap.objs.size + 1) h' as →
      acc.toList = as.map Value.ref → Q (.ref s.heap.objs.size) { s with heap := h', toks := tk }) :
    wpAny (model prog w) A (call (.type "list") [.ref z]) Q E s := by
  refine callType_codes (Q₁ := fun obj s₁ => obj = .ref s.heap.objs.size ∧ s₁ = { s with heap := s.heap.push { cls := .type "list", data := .seq #[] } }) PySem.F.called_list (PySem.F.typeCall_list_1 _) PySem.F.entry_list_init
    (code_list_new _ ⟨rfl, rfl⟩) fun obj s₁ h₁ => ?_
  obtain ⟨rfl, rfl⟩ := h₁
  have hS : (s.heap.push { cls := .type "list", data := .seq #[] }).get? s.heap.objs.size = some { cls := .type "list", data := .seq #[] } := Heap.get?_push_size _ rfl
  have hsz : (s.heap.push { cls := .type "list", data := .seq #[] }).objs.size = s.heap.objs.size + 1 := Heap.size_push ..
  refine ⟨⟨_, hS, rfl⟩, PySem.F.args_list_init_2 _ _, kept_init (A := A.in1) L W hn (W.frame _ _ _ hst fun b o _ e => Heap.get?_push_of_some _ e) (fun b hb => by show b < Array.size _; rw [hsz]; exact Nat.lt_succ_of_lt (hw b hb)) (Nat.ne_of_gt hz) hS fun h' tk acc c as hk hS' hl hG hacc => ?_⟩
  exact ⟨rfl, hQ h' tk acc c as (fun b o hb e => hk b o (Nat.ne_of_lt (Heap.lt_size e)) hb (Heap.get?_push_of_some _ e)) hS' hl (by rw [← hsz]; exact hG) hacc⟩
end
end R3

/-! R3bm: zip of three as an iterator whose tuples are kept. -/
namespace R3
open PySem PySem.Spec PyProof.Rows L2
section
variable {prog : Program} {w : World} {A : Around} {E : Value → Shared → Prop} {s : Shared} {z TI TO i1 i2 i3 T : Addr} {fp1 fp2 fp3 : List Addr} {n i : Nat} {P1 P2 P3 : Nat → Value → Prop} {St1 St2 St3 : Nat → Heap → Prop} {f : Bool} {oT : Obj}
theorem zip3_item_held {Q : Value → Shared → Prop} (S : ZipSep3 z TI TO i1 i2 i3 fp1 fp2 fp3) (D1 : Draws prog w A i1 fp1 n P1 St1) (D2 : Draws prog w A i2 fp2 n P2 St2) (D3 : Draws prog w A i3 fp3 n P3 St3)
    (hz : IsZipHeld s.heap z TI TO T f) (hT : s.heap.get? T = some oT) (hTI : IsTupOf3 s.heap TI (.ref i1) (.ref i2) (.ref i3)) (st1 : St1 i s.heap) (st2 : St2 i s.heap) (st3 : St3 i s.heap) (hlt : i < n)
    (hQ : ∀ x1 x2 x3 h' tk, P1 i x1 → P2 i x2 → P3 i x3 → IsZipHeld h' z TI TO T true → St1 (i + 1) h' → St2 (i + 1) h' → St3 (i + 1) h' → IsTupOf3 h' s.heap.objs.size x1 x2 x3 → h'.objs.size = s.heap.objs.size + 1 →
      (∀ c o, c ≠ z → c ≠ i1 → c ≠ i2 → c ≠ i3 → s.heap.get? c = some o → h'.get? c = some o) → Q (.ref s.heap.objs.size) { s with heap := h', toks := tk }) :
    wpAny (model prog w) A (Builtin.«zip.__next__» ⟨[.ref z], []⟩) (fun fin s' => ∃ v, fin = .done (.ret v) ∧ Q v s') E s := by
  obtain ⟨hp, g, d, tk0, os⟩ := s
  show wpAny _ _ (field (.ref z) 2 >>= _) _ _ _
  refine wpAny_bind (wpAny_field hz rfl (x := .bool false) rfl ?_)
  show wpAny _ _ (field (.ref z) 3 >>= _) _ _ _
  refine wpAny_bind (wpAny_field hz rfl (x := .ref TI) rfl ?_)
  refine wpAny_bind (wpAny_seqItems hTI rfl ?_)
  show wpAny _ _ (Builtin.SmallTypes.ownedTupleIsFree (.ref z) >>= _) _ _ _
  refine wpAny_bind (wpAny_tupleHeld_zip hz hT fun h₁ hz₁ hs₁ => ?_)
  replace hs₁ : Heap.SameBut z hp h₁ := hs₁
  simp only [Bool.false_eq_true, if_false]
  refine wpAny_bind ?_
  rw [← Array.forIn_toList]
  simp only [List.forIn_cons, List.forIn_nil]
  refine wpAny_bind (wpAny_bind (wpAny_holding ?_))
  show wpAny _ _ (Builtin.SmallTypes.nextOf (.ref i1) >>= _) _ _ ⟨h₁, g, d, tk0, os⟩
  refine wpAny_bind (D1.item i _ _ _ hlt (D1.over st1 hs₁ S.zf1) fun x1 p1 tk1 hx1 sn1 hp1 => wpAny_pure ?_)
  replace hp1 : Heap.SameBut i1 h₁ p1 := hp1
  refine wpAny_pure ?_
  refine wpAny_bind (wpAny_bind (wpAny_holding ?_))
  show wpAny _ _ (Builtin.SmallTypes.nextOf (.ref i2) >>= _) _ _ ⟨p1, g, d, tk1, os⟩
  refine wpAny_bind (D2.item i _ _ _ hlt (D2.over (D2.over st2 hs₁ S.zf2) hp1 S.sep1_2) fun x2 p2 tk2 hx2 sn2 hp2 => wpAny_pure ?_)
  replace hp2 : Heap.SameBut i2 p1 p2 := hp2
  refine wpAny_pure ?_
  refine wpAny_bind (wpAny_bind (wpAny_holding ?_))
  show wpAny _ _ (Builtin.SmallTypes.nextOf (.ref i3) >>= _) _ _ ⟨p2, g, d, tk2, os⟩
  refine wpAny_bind (D3.item i _ _ _ hlt (D3.over (D3.over (D3.over st3 hs₁ S.zf3) hp1 S.sep1_3) hp2 S.sep2_3) fun x3 p3 tk3 hx3 sn3 hp3 => wpAny_pure ?_)
  replace hp3 : Heap.SameBut i3 p2 p3 := hp3
  refine wpAny_pure (wpAny_pure ?_)
  show wpAny _ _ (newTuple [x1, x2, x3] >>= _) _ _ ⟨p3, g, d, tk3, os⟩
  refine wpAny_bind (wpAny_newTuple ?_)
  have hsz : p3.objs.size = hp.objs.size := by rw [hp3.1, hp2.1, hp1.1, hs₁.1]
  have hz₃ : IsZipHeld p3 z TI TO T true := hp3.extBut _ _ S.zi3 (hp2.extBut _ _ S.zi2 (hp1.extBut _ _ S.zi1 hz₁))
  have hk : ∀ c o, c ≠ z → c ≠ i1 → c ≠ i2 → c ≠ i3 → hp.get? c = some o → p3.get? c = some o := fun c o c0 c1 c2 c3 e => hp3.extBut _ _ c3 (hp2.extBut _ _ c2 (hp1.extBut _ _ c1 (hs₁.extBut _ _ c0 e)))
  have hj1 : St1 (i + 1) p3 := D1.over (D1.over sn1 hp2 S.sep2_1) hp3 S.sep3_1
  have hj2 : St2 (i + 1) p3 := D2.over sn2 hp3 S.sep3_2
  refine wpAny_pure ⟨_, rfl, ?_⟩
  show Q (.ref p3.objs.size) _
  have hpt : IsTupOf3 (p3.push { cls := .type "tuple", data := .seq #[x1, x2, x3] }) p3.objs.size x1 x2 x3 := Heap.get?_push_size _ rfl
  have hz4 : (p3.push { cls := .type "tuple", data := .seq #[x1, x2, x3] }).objs.size = p3.objs.size + 1 := Heap.size_push ..
  rw [hsz] at hpt hz4 ⊢
  exact hQ x1 x2 x3 _ tk3 hx1 hx2 hx3 (Heap.get?_push_of_some _ hz₃) (D1.frame _ _ _ hj1 fun b _ o e => Heap.get?_push_of_some _ e) (D2.frame _ _ _ hj2 fun b _ o e => Heap.get?_push_of_some _ e) (D3.frame _ _ _ sn3 fun b _ o e => Heap.get?_push_of_some _ e) hpt hz4 fun c o c0 c1 c2 c3 e => Heap.get?_push_of_some _ (hk c o c0 c1 c2 c3 e)
theorem zip3_end_held {Q : PySem.Fin → Shared → Prop} (S : ZipSep3 z TI TO i1 i2 i3 fp1 fp2 fp3) (D1 : Draws prog w A i1 fp1 n P1 St1)
    (hz : IsZipHeld s.heap z TI TO T f) (hT : s.heap.get? T = some oT) (hTI : IsTupOf3 s.heap TI (.ref i1) (.ref i2) (.ref i3)) (st1 : St1 n s.heap)
    (hE : ∀ h' e, (∀ c o, c ≠ z → c ≠ i1 → s.heap.get? c = some o → h'.get? c = some o) → (∃ o, h'.get? e = some o ∧ o.cls = .type "StopIteration") → E (.ref e) { s with heap := h' }) :
    wpAny (model prog w) A (Builtin.«zip.__next__» ⟨[.ref z], []⟩) Q E s := by
  show wpAny _ _ (field (.ref z) 2 >>= _) _ _ _
  refine wpAny_bind (wpAny_field hz rfl (x := .bool false) rfl ?_)
  show wpAny _ _ (field (.ref z) 3 >>= _) _ _ _
  refine wpAny_bind (wpAny_field hz rfl (x := .ref TI) rfl ?_)
  refine wpAny_bind (wpAny_seqItems hTI rfl ?_)
  show wpAny _ _ (Builtin.SmallTypes.ownedTupleIsFree (.ref z) >>= _) _ _ _
  refine wpAny_bind (wpAny_tupleHeld_zip hz hT fun h₁ hz₁ hs₁ => ?_)
  simp only [Bool.false_eq_true, if_false]
  refine wpAny_bind ?_
  rw [← Array.forIn_toList]
  simp only [List.forIn_cons, List.forIn_nil]
  refine wpAny_bind (wpAny_bind (wpAny_holding ?_))
  show wpAny _ _ (Builtin.SmallTypes.nextOf (.ref i1) >>= _) _ _ _
  refine wpAny_bind (D1.done { s with heap := h₁ } _ _ (D1.over st1 hs₁ S.zf1) fun h₂ e hs₂ he => ?_)
  exact hE h₂ e (fun c o c1 c2 x => hs₂ _ _ c2 (hs₁.extBut _ _ c1 x)) he
end
/-- zip(a, b, c), the tuples kept -/
theorem kept_zip3 {prog : Program} {w : World} {A : Around} {S z TI TO i1 i2 i3 : Addr} {fp1 fp2 fp3 : List Addr} {n : Nat} {P1 P2 P3 : Nat → Value → Prop} {St1 St2 St3 : Nat → Heap → Prop} (Z : ZipSep3 z TI TO i1 i2 i3 fp1 fp2 fp3)
    (D1 : Draws prog w A.in1 i1 fp1 n P1 St1) (D2 : Draws prog w A.in1 i2 fp2 n P2 St2) (D3 : Draws prog w A.in1 i3 fp3 n P3 St3) (hS : S ∉ [z, TI, TO] ++ fp1 ++ fp2 ++ fp3) :
    Kept prog w A S z "zip" [z, TO, i1, i2, i3] n (fun i vals => ∃ x1 x2 x3, P1 i x1 ∧ P2 i x2 ∧ P3 i x3 ∧ vals = #[x1, x2, x3])
      (fun i h => IsTupOf3 h TI (.ref i1) (.ref i2) (.ref i3) ∧ St1 i h ∧ St2 i h ∧ St3 i h ∧ ((IsZip h z TI TO .none ∧ ∃ a b c, IsTupOf3 h TO a b c) ∨ ∃ T f oT, IsZipHeld h z TI TO T f ∧ h.get? T = some oT ∧ T ≠ S ∧ T ∉ [z, TO, i1, i2, i3])) where
  typ := fun i s st => by
    rcases st.2.2.2.2 with ⟨h, _⟩ | ⟨_, _, _, h, _⟩
    · exact ⟨_, h, rfl⟩
    · exact ⟨_, h, rfl⟩
  out := fun q => by
    have m1 := Z.mem1
    have m2 := Z.mem2
    have m3 := Z.mem3
    simp only [List.mem_append, List.mem_cons, List.not_mem_nil, or_false, not_or] at hS
    simp only [List.mem_cons, List.not_mem_nil, or_false] at q
    rcases q with rfl | rfl | rfl | rfl | rfl
    · exact hS.1.1.1.1 rfl
    · exact hS.1.1.1.2.2 rfl
    · exact hS.1.1.2 m1
    · exact hS.1.2 m2
    · exact hS.2 m3
  frame := fun i h h' st hk => by
    simp only [List.mem_append, List.mem_cons, List.not_mem_nil, or_false, not_or] at hS
    obtain ⟨s1, s2, s3, s4, s5⟩ := st
    refine ⟨hk _ _ (fun q => hS.1.1.1.2.1 q.symm) s1, D1.frame _ _ _ s2 fun b hb o e => hk b o (fun q => hS.1.1.2 (q ▸ hb)) e, D2.frame _ _ _ s3 fun b hb o e => hk b o (fun q => hS.1.2 (q ▸ hb)) e, D3.frame _ _ _ s4 fun b hb o e => hk b o (fun q => hS.2 (q ▸ hb)) e, ?_⟩
    rcases s5 with ⟨h1, a, b, c, h2⟩ | ⟨T, f, oT, h1, h2, h3, h4⟩
    · exact .inl ⟨hk _ _ (fun q => hS.1.1.1.1 q.symm) h1, a, b, c, hk _ _ (fun q => hS.1.1.1.2.2 q.symm) h2⟩
    · exact .inr ⟨T, f, oT, hk _ _ (fun q => hS.1.1.1.1 q.symm) h1, hk _ _ h3 h2, h3, h4⟩
  item := fun i s Q E hi st hSs hQ => by
    obtain ⟨s1, s2, s3, s4, s5⟩ := st
    have cz : ∀ {c : Addr}, c ∉ [z, TO, i1, i2, i3] → c ≠ z ∧ c ≠ TO ∧ c ≠ i1 ∧ c ≠ i2 ∧ c ≠ i3 := fun {c} hc => by
      simp only [List.mem_cons, List.not_mem_nil, or_false, not_or] at hc
      exact hc
    obtain ⟨_, l1⟩ := D1.live _ _ s2
    obtain ⟨_, l2⟩ := D2.live _ _ s3
    obtain ⟨_, l3⟩ := D3.live _ _ s4
    rcases s5 with ⟨h1, a, b, c, h2⟩ | ⟨T, f, oT, h1, h2, h3, h4⟩
    · refine wpAny_pyNext_zipD3_item Z D1 D2 D3 h1 s1 h2 s2 s3 s4 hi hi hi fun x1 x2 x3 h' tk p1 p2 p3 k1 k2 k3 k4 k5 k6 k7 k8 => ?_
      refine hQ _ h' tk ⟨x1, x2, x3, p1, p2, p3, rfl⟩ k6 k7 ⟨k8 _ _ Z.TIz Z.TITO Z.TIi1 Z.TIi2 Z.TIi3 s1, k3, k4, k5, .inr ⟨s.heap.objs.size, false, _, k1, k6, Nat.ne_of_gt hSs, fun q => ?_⟩⟩ fun b o hb e => ?_
      · simp only [List.mem_cons, List.not_mem_nil, or_false] at q
        have lz := Heap.lt_size h1
        have lT := Heap.lt_size h2
        have ll1 := Heap.lt_size l1
        have ll2 := Heap.lt_size l2
        have ll3 := Heap.lt_size l3
        rcases q with q | q | q | q | q
        · rw [← q] at lz; exact Nat.lt_irrefl _ lz
        · rw [← q] at lT; exact Nat.lt_irrefl _ lT
        · rw [← q] at ll1; exact Nat.lt_irrefl _ ll1
        · rw [← q] at ll2; exact Nat.lt_irrefl _ ll2
        · rw [← q] at ll3; exact Nat.lt_irrefl _ ll3
      · obtain ⟨c1, c2, c3, c4, c5⟩ := cz hb
        exact k8 b o c1 c2 c3 c4 c5 e
    · have hTy : s.TypeIs (.ref z) "zip" := ⟨_, h1, rfl⟩
      unfold pyNext
      refine wpAny_bind (wpAny_attempt (wpAny_callSpecial?_slot (name := Str.ofString "__next__") hTy F.slot_zip_next
        (wpAny_call_entry F.slot_zip_next hTy F.entry_zip_next
          (zip3_item_held Z D1 D2 D3 h1 h2 s1 s2 s3 s4 hi fun x1 x2 x3 h' tk p1 p2 p3 k1 k3 k4 k5 k6 k7 k8 => wpAny_pure ?_) (F.args_zip_next_1 _))))
      obtain ⟨t1, t2, t3, t4, t5⟩ := cz h4
      refine hQ _ h' tk ⟨x1, x2, x3, p1, p2, p3, rfl⟩ k6 k7 ⟨k8 _ _ Z.TIz Z.TIi1 Z.TIi2 Z.TIi3 s1, k3, k4, k5, .inr ⟨T, true, oT, k1, k8 _ _ t1 t3 t4 t5 h2, h3, h4⟩⟩ fun b o hb e => ?_
      obtain ⟨c1, c2, c3, c4, c5⟩ := cz hb
      exact k8 b o c1 c3 c4 c5 e
  done := fun s Q E st hQ => by
    obtain ⟨s1, s2, s3, s4, s5⟩ := st
    have cz : ∀ {c : Addr}, c ∉ [z, TO, i1, i2, i3] → c ≠ z ∧ c ≠ TO ∧ c ≠ i1 ∧ c ≠ i2 ∧ c ≠ i3 := fun {c} hc => by
      simp only [List.mem_cons, List.not_mem_nil, or_false, not_or] at hc
      exact hc
    rcases s5 with ⟨h1, a, b, c, h2⟩ | ⟨T, f, oT, h1, h2, h3, h4⟩
    · refine wpAny_pyNext_zipD3_end Z D1 D2 D3 h1 s1 h2 s2 s3 s4 (Nat.le_refl _) (Nat.le_refl _) (Nat.le_refl _) (.inl rfl) fun h' tk k8 => hQ h' tk fun b o hb e => ?_
      obtain ⟨c1, c2, c3, c4, c5⟩ := cz hb
      exact k8 b o c1 c2 c3 c4 c5 e
    · have hTy : s.TypeIs (.ref z) "zip" := ⟨_, h1, rfl⟩
      unfold pyNext
      refine wpAny_bind (wpAny_attempt (wpAny_callSpecial?_slot (name := Str.ofString "__next__") hTy F.slot_zip_next
        (wpAny_call_entry F.slot_zip_next hTy F.entry_zip_next (zip3_end_held Z D1 h1 h2 s1 s2 fun h' e hk he => ?_) (F.args_zip_next_1 _))))
      obtain ⟨o, ho, hc⟩ := he
      refine wpAny_bind (wpAny_isInstance (T := "StopIteration") (b := true) ⟨o, ho, hc⟩ isSubtype_stop ?_)
      refine wpAny_pure (hQ h' _ fun b o hb e => ?_)
      obtain ⟨c1, c2, c3, c4, c5⟩ := cz hb
      exact hk b o c1 c3 e
  self := fun i s Q E st hQ => by
    have typ : s.TypeIs (.ref z) "zip" := by
      rcases st.2.2.2.2 with ⟨h, _⟩ | ⟨_, _, _, h, _⟩
      · exact ⟨_, h, rfl⟩
      · exact ⟨_, h, rfl⟩
    refine wpAny_pyIter_slot typ F.slot_zip_iter (wpAny_call_entry F.slot_zip_iter typ F.entry_zip_iter ?_ (F.args_zip_iter_1 _))
    show wpAny _ _ (ret (.ref z)) _ _ s
    exact wpAny_pure ⟨_, rfl, "zip", _, typ, F.slot_zip_next.lookup, hQ⟩
end R3

/-! R3bn: list(zip(a, b, c)). -/
namespace R3
open PySem PySem.Spec PyProof.Rows L2
/-- tuples are laid -/
def layT : Hp → List Addr → List (List V) → Hp
  | H, a :: as, vs :: r => layT (upd H a (.tup vs)) as r
  | H, _, _ => H
theorem layT_off {b : Addr} : ∀ (as : List Addr) (ts : List (List V)) (H : Hp), b ∉ as → layT H as ts b = H b
  | [], _, _, _ => rfl
  | _ :: _, [], _, _ => rfl
  | a :: as, p :: ts, H, h => by
    show layT (upd H a (.tup p)) as ts b = H b
    rw [layT_off as ts _ (fun z => h (List.mem_cons_of_mem _ z)), upd_ne (fun z => h (by rw [z]; exact List.mem_cons_self))]
theorem layT_at : ∀ (as : List Addr) (ts : List (List V)) (H : Hp) (j : Nat) (a : Addr) (vs : List V), as.Nodup → as[j]? = some a → ts[j]? = some vs → layT H as ts a = some (.tup vs)
  | [], _, _, _, _, _, _, h, _ => by simp at h
  | _ :: _, [], _, _, _, _, _, _, h => by simp at h
  | b :: as, p :: ts, H, 0, a, vs, hn, h1, h2 => by
    have e1 : b = a := by simpa using h1
    have e2 : p = vs := by simpa using h2
    subst e1 e2
    show layT (upd H b (.tup p)) as ts b = _
    rw [layT_off as ts _ (List.nodup_cons.mp hn).1, upd_same]
  | b :: as, p :: ts, H, j + 1, a, vs, hn, h1, h2 => layT_at as ts _ j a vs (List.nodup_cons.mp hn).2 (by simpa using h1) (by simpa using h2)
inductive RepsL (g : Sg) (w : Wd) : List (List V) → List (List D) → Prop where
  | nil : RepsL g w [] []
  | cons {v : List V} {d : List D} {vs : List (List V)} {ds : List (List D)} (h : Reps g w v d) (r : RepsL g w vs ds) : RepsL g w (v :: vs) (d :: ds)
theorem RepsL.mono {g : Sg} {w w' : Wd} (l : Sub w w') : ∀ {vs : List (List V)} {ds : List (List D)}, RepsL g w vs ds → RepsL g w' vs ds
  | _, _, .nil => .nil
  | _, _, .cons h r => .cons (h.mono l) (RepsL.mono l r)
section
variable {g : Sg} {w : Wd} {ρ : List Sl} {S : Store} {σ : L2.St}
theorem At.layT : ∀ {as : List Addr} {ts : List (List V)} {dss : List (List D)} {w : Wd} {H : Hp}, At g w ρ S σ H → as.length = ts.length → (∀ a ∈ as, H a = none) → as.Nodup → RepsL g w ts dss →
    ∃ w', Le w w' ∧ At g w' ρ S σ (layT H as ts) ∧ Reps g w' (as.map V.ref) (dss.map D.tup)
  | [], [], _, w, H, A, _, _, _, .nil => ⟨w, Le.refl w, A, .nil⟩
  | a :: as, vs :: ts, ds :: dss, w, H, A, hl, hf, hn, .cons r rr => by
    have ha := hf a List.mem_cons_self
    have hn' := List.nodup_cons.mp hn
    have l1 := le_add (o := .tup vs) A.if_ (A.free ha)
    have A1 := A.lay (o := .tup vs) ha
    obtain ⟨w', l2, A2, r2⟩ := At.layT (as := as) (ts := ts) (dss := dss) A1 (Nat.succ.inj hl) (fun b hb => by
      have ne : b ≠ a := fun z => hn'.1 (by rw [← z]; exact hb)
      rw [upd_ne ne]
      exact hf b (List.mem_cons_of_mem _ hb)) hn'.2 (rr.mono l1.s)
    exact ⟨w', l1.trans l2, A2, .cons (.tup (SqT.of (l2.s.i _ _ upd_same)) ((r.mono l1.s).mono l2.s)) r2⟩
end
section
variable {g : Sg} {X : Cx} {W : WX}
theorem laid {pins : List (Addr × Obj)} {σ : L2.St} {H : Hp} {s : Shared} {h' : Heap} {tk c : Nat} {acc : Array Value} {L : Addr} {as : List Addr} {ts : List (List V)} (I : Inv X pins σ H s) (hk : ∀ b o, s.heap.get? b = some o → h'.get? b = some o) (hL : s.heap.objs.size ≤ L)
    (hS : h'.get? L = some { cls := .type "list", dict := none, data := .seq acc c, slots := #[] }) (hrise : as.Pairwise (· < ·)) (hab : ∀ a ∈ as, L < a) (hl : as.length = ts.length) (hz : as.length ≤ sizeLine)
    (hv : ∀ (j : Nat) (a : Addr) (vs : List V), as[j]? = some a → ts[j]? = some vs → ∃ vals : Array Value, vs.length ≤ sizeLine ∧ Vals vs vals.toList ∧ h'.get? a = some { cls := .type "tuple", data := .seq vals }) (hacc : acc.toList = as.map Value.ref) :
    Inv X pins σ (upd (layT H as ts) L (.lst (as.map V.ref))) { s with heap := h', toks := tk } := by
  have hLn : L ∉ as := fun z => Nat.lt_irrefl _ (hab _ z)
  have nd : as.Nodup := List.Pairwise.imp (fun {a b} (h : a < b) => Nat.ne_of_lt h) hrise
  have new : ∀ t ∈ as, H t = none := fun t ht => I.hok.fresh (Nat.le_trans hL (Nat.le_of_lt (hab t ht)))
  have newL : H L = none := I.hok.fresh hL
  have off : ∀ b, b ∉ as → b ≠ L → upd (layT H as ts) L (.lst (as.map V.ref)) b = H b := fun b h1 h2 => by rw [upd_ne h2, layT_off as ts _ h1]
  have low : ∀ b o, s.heap.get? b = some o → b ∉ as ∧ b ≠ L := fun b o e => ⟨fun z => absurd (Heap.lt_size e) (Nat.not_lt.mpr (Nat.le_trans hL (Nat.le_of_lt (hab b z)))), Nat.ne_of_lt (Nat.lt_of_lt_of_le (Heap.lt_size e) hL)⟩
  have kp : ∀ b u, H b = some u → upd (layT H as ts) L (.lst (as.map V.ref)) b = some u := fun b u e => by
    rw [off b (fun z => by rw [new b z] at e; cases e) (fun z => by rw [z, newL] at e; cases e)]
    exact e
  refine I.call' (ch := []) rfl ⟨fun b o q _ _ _ => hk b o q, fun b o q _ _ _ => ⟨o.slots, hk b o q⟩, fun b o q n _ => ?_, fun b o q _ => ⟨o, hk b o q⟩, fun b xs q => kp b _ q, fun b o u q => kp b _ q, fun b ps q => ⟨#[], by rw [kp b _ q]; simp⟩⟩ (fun b u q => ?_) I.bare fun b z => absurd z (by simp)
  · obtain ⟨z1, z2⟩ := low b o q
    rw [off b z1 z2]
    exact n
  · by_cases hb2 : b = L
    · subst hb2
      rw [upd_same] at q
      cases q
      refine ⟨by rw [List.length_map]; exact hz, acc.toList, c, by rw [hacc]; exact LiI.vals_refs as, ?_⟩
      rw [Array.toArray_toList]
      exact hS
    · by_cases hb : b ∈ as
      · rw [upd_ne hb2] at q
        obtain ⟨j, hj⟩ := List.mem_iff_getElem?.mp hb
        obtain ⟨vs, hvs⟩ : ∃ vs, ts[j]? = some vs := by
          have : j < ts.length := by rw [← hl]; exact (List.getElem?_eq_some_iff.mp hj).1
          exact ⟨ts[j], by simp [this]⟩
        rw [layT_at as ts H j b vs nd hj hvs] at q
        cases q
        obtain ⟨vals, e1, e2, e3⟩ := hv j b vs hj hvs
        exact ⟨e1, vals.toList, e2, ⟨_, e3, rfl, _, by rw [Array.toArray_toList]⟩⟩
      · rw [off b hb hb2] at q
        exact (I.hok b u q).stay (fun d v _ y => hk d v y) (fun d y => kp d _ y) fun d xs y => kp d _ y
/-- a list or a tuple -/
def rowD : D → Option (List D)
  | .lst xs => some xs
  | .tup xs => some xs
  | _ => none
theorem row_draw {pins : List (Addr × Obj)} {s : Shared} {σ : L2.St} {H : Hp} {w : Wd} {ρ : List Sl} {S : Store} {v : V} {d : D} {u : Value} {xs : List D} (hK : g.K = X.K) (I : Inv X pins σ H s) (A : At g w ρ S σ H) (r : Rep g w v d) (ru : RelV v u) (hd : rowD d = some xs) :
    ∃ (a : Addr) (vs : List V) (its : List Value) (o : Obj) (HH : Heap → Prop) (St : Addr → Nat → Heap → Prop), u = .ref a ∧ a < s.heap.objs.size ∧ Vals vs its ∧ Reps g w vs xs ∧ Begins u o HH ∧ HH s.heap ∧
      (∀ (B : Around) (it : Addr), B.handled = none → a ≠ it → Draws X.prog X.w B it [it, a] its.length (fun i v => its.toArray[i]? = some v) (St it)) ∧ ∀ it h', h'.get? it = some o → (∀ c oc, s.heap.get? c = some oc → h'.get? c = some oc) → St it 0 h' := by
  cases d with
  | lst ys =>
    cases hd
    cases r with
    | lst hh rr =>
      rename_i a vs
      obtain rfl : u = Value.ref a := ru
      obtain ⟨its, rv, p1, _⟩ := I.list (SqL.of (K := X.K) (A.ih _ _ hh))
      have hl := p1.isList
      refine ⟨a, vs, its, _, _, fun it i h => h.IsListIter it a i ∧ h.IsList a its.toArray, rfl, p1.lt, rv, rr, begins_list a its.toArray, hl, fun B it hB hne => ?_, fun it h' e hk => ⟨⟨_, e, rfl, rfl⟩, hl.at fun o y => hk _ _ y⟩⟩
      have D := Draws.list (prog := X.prog) (w := X.w) hB it a hne its.toArray
      rw [List.size_toArray] at D
      exact D
  | tup ys =>
    cases hd
    cases r with
    | tup hh rr =>
      rename_i a vs
      obtain rfl : u = Value.ref a := ru
      obtain ⟨its, rv, p1, _⟩ := I.tuple (by rw [← hK]; exact A.t hh)
      have hl : s.heap.IsTuple a its.toArray := p1
      refine ⟨a, vs, its, _, _, fun it i h => h.IsTupleIter it a i ∧ h.IsTuple a its.toArray, rfl, by obtain ⟨_, ho, _⟩ := hl; exact Heap.lt_size ho, rv, rr, begins_tuple a its.toArray, hl, fun B it hB hne => ?_, fun it h' e hk => ⟨⟨_, e, rfl, rfl⟩, hl.at fun o y => hk _ _ y⟩⟩
      have D := Draws.tuple (prog := X.prog) (w := X.w) hB it a hne its.toArray
      rw [List.size_toArray] at D
      exact D
  | _ => cases hd
def zip3D : List D → List D → List D → List (List D)
  | x :: xs, y :: ys, z :: zs => [x, y, z] :: zip3D xs ys zs
  | _, _, _ => []
def zip3V : List V → List V → List V → List (List V)
  | x :: xs, y :: ys, z :: zs => [x, y, z] :: zip3V xs ys zs
  | _, _, _ => []
theorem zip3_reps {w : Wd} : ∀ {xs ys zs : List V} {as bs cs : List D}, Reps g w xs as → Reps g w ys bs → Reps g w zs cs → RepsL g w (zip3V xs ys zs) (zip3D as bs cs)
  | _, _, _, _, _, _, .cons a as, .cons b bs, .cons c cs => .cons (.cons a (.cons b (.cons c .nil))) (zip3_reps as bs cs)
  | _, _, _, _, _, _, .nil, _, _ => .nil
  | _, _, _, _, _, _, .cons _ _, .nil, _ => .nil
  | _, _, _, _, _, _, .cons _ _, .cons _ _, .nil => .nil
theorem zip3V_len : ∀ {xs ys zs : List V}, ys.length = xs.length → zs.length = xs.length → (zip3V xs ys zs).length = xs.length
  | [], [], [], _, _ => rfl
  | x :: xs, y :: ys, z :: zs, h1, h2 => congrArg (· + 1) (zip3V_len (Nat.succ.inj h1) (Nat.succ.inj h2))
  | [], _ :: _, _, h, _ => by cases h
  | [], [], _ :: _, _, h => by cases h
  | _ :: _, [], _, h, _ => by cases h
  | _ :: _, _ :: _, [], _, h => by cases h
theorem zip3V_get : ∀ {xs ys zs : List V} {j : Nat} {vs : List V}, (zip3V xs ys zs)[j]? = some vs → ∃ x y z, vs = [x, y, z] ∧ xs[j]? = some x ∧ ys[j]? = some y ∧ zs[j]? = some z
  | x :: xs, y :: ys, z :: zs, 0, vs, h => ⟨x, y, z, by simpa [zip3V] using h.symm, rfl, rfl, rfl⟩
  | x :: xs, y :: ys, z :: zs, j + 1, vs, h => by
    obtain ⟨a, b, c, e, h1, h2, h3⟩ := zip3V_get (xs := xs) (ys := ys) (zs := zs) (j := j) (vs := vs) (by simpa [zip3V] using h)
    exact ⟨a, b, c, e, by simpa using h1, by simpa using h2, by simpa using h3⟩
  | [], _, _, _, _, h => by simp [zip3V] at h
  | _ :: _, [], _, _, _, h => by simp [zip3V] at h
  | _ :: _, _ :: _, [], _, _, h => by simp [zip3V] at h
def rZipL3 (K : List D → Store → Prop) (ds : List D) (S : Store) : Prop := match ds with
  | [a, b, c] => ∃ xs ys zs, rowD a = some xs ∧ rowD b = some ys ∧ rowD c = some zs ∧ ys.length = xs.length ∧ zs.length = xs.length ∧ Small xs.length ∧ K ((zip3D xs ys zs).map D.tup) S
  | _ => False
def wZipL3 (f : FA) (ρ : List Sl) (S : Store) (K : List D → Store → Prop) (ex : KX) : Prop := f ρ S (rZipL3 K) ex
theorem elistzip {e1 e2 e3 : Expr} {fr : FA} {p p2 pos pos2 : Pos} (hK : g.K = X.K) (hc : X.calm = true) (hg : Gl X "list") (hm : X.mg "list" = none) (hg2 : Gl X "zip") (hm2 : X.mg "zip" = none) (ha : EA g X W [e1, e2, e3] fr)
    (hs : starEach [.Call (.Name "zip" p2) [e1, e2, e3] [] pos2] X.env = (false, eval (.Call (.Name "zip" p2) [e1, e2, e3] [] pos2) X.env) :: starEach [] X.env := by rfl)
    (hs2 : starEach [e1, e2, e3] X.env = (false, eval e1 X.env) :: starEach [e2, e3] X.env := by rfl) (hpl2 : (backTo pos2 (starEach [e2, e3] X.env)).any (·.1) = false := by rfl) :
    EL g X W (.Call (.Name "list" p) [.Call (.Name "zip" p2) [e1, e2, e3] [] pos2] [] pos) (wZipL3 fr) := by
  refine ⟨fun pins s σ H Q I h => ?_⟩
  obtain ⟨w, ρ, S, K, ex, A, xo, ko, q⟩ := h
  refine wpAny_Call_Name_kw (ld_blt I hg hm boot_list ?_ (by decide) (by decide))
  refine PyProof.Rows.callWith_type1 ?_ hs rfl
  rw [hs]
  show wpAny _ _ (spliced ((false, eval (.Call (.Name "zip" p2) [e1, e2, e3] [] pos2) X.env) :: backTo pos (starEach [] X.env))) _ _ s
  refine Calls.spliced_cons ?_
  refine wpAny_Call_Name_kw (ld_blt I hg2 hm2 boot_zip ?_ (by decide) (by decide))
  refine PyProof.Rows.callWith_type1 (thn (rdA_run ha pos2 I A xo q) fun us s1 ⟨vs, H1, w1, ds, S1, I1, rv, l1, A1, r1, q1⟩ => ?_) hs2 hpl2
  unfold rZipL3 at q1
  split at q1
  · rename_i d1 d2 d3
    obtain ⟨xs, ys, zs, k1, k2, k3, k4, k5, sm, q1⟩ := q1
    cases r1 with
    | cons a1 rr =>
      cases rr with
      | cons a2 rr =>
        cases rr with
        | cons a3 rr =>
          cases rr
          cases rv with
          | cons u1 rv =>
            cases rv with
            | cons u2 rv =>
              cases rv with
              | cons u3 rv =>
                cases rv
                obtain ⟨p1, vs1, it1, o1, G1, T1, rfl, lt1, v1, rp1, B1, b1, D1, t1⟩ := row_draw hK I1 A1 a1 u1 k1
                obtain ⟨p2, vs2, it2, o2, G2, T2, rfl, lt2, v2, rp2, B2, b2, D2, t2⟩ := row_draw hK I1 A1 a2 u2 k2
                obtain ⟨p3, vs3, it3, o3, G3, T3, rfl, lt3, v3, rp3, B3, b3, D3, t3⟩ := row_draw hK I1 A1 a3 u3 k3
                have n1 : it1.length = xs.length := by rw [← v1.length, rp1.length]
                have n2 : it2.length = it1.length := by rw [n1, ← v2.length, rp2.length, k4]
                have n3 : it3.length = it1.length := by rw [n1, ← v3.length, rp3.length, k5]
                refine zip_begins3 B1 B2 B3 b1 b2 b3 fun h' hz hTI hTO g1 g2 g3 hsz hk => ?_
                refine Calls.spliced_nil ?_
                have hd := I1.ok.hd hc
                have E1 := D1 X.A.in1.in1.in1 s1.heap.objs.size hd (Nat.ne_of_lt lt1)
                have E2 := D2 X.A.in1.in1.in1 (s1.heap.objs.size + 1) hd (Nat.ne_of_lt (Nat.lt_succ_of_lt lt2))
                have E3 := D3 X.A.in1.in1.in1 (s1.heap.objs.size + 2) hd (Nat.ne_of_lt (Nat.lt_succ_of_lt (Nat.lt_succ_of_lt lt3)))
                rw [n2] at E2
                rw [n3] at E3
                have sep := zip_sep3 (N := s1.heap.objs.size) (fp1 := [p1]) (fp2 := [p2]) (fp3 := [p3]) (fun b hb => by rw [List.mem_singleton.mp hb]; exact lt1) (fun b hb => by rw [List.mem_singleton.mp hb]; exact lt2) (fun b hb => by rw [List.mem_singleton.mp hb]; exact lt3)
                have hsz' : ({ s1 with heap := h' } : Shared).heap.objs.size = s1.heap.objs.size + 6 := hsz
                have hnot : ({ s1 with heap := h' } : Shared).heap.objs.size ∉ [s1.heap.objs.size + 5, s1.heap.objs.size + 3, s1.heap.objs.size + 4] ++ [s1.heap.objs.size, p1] ++ [s1.heap.objs.size + 1, p2] ++ [s1.heap.objs.size + 2, p3] := by
                  rw [hsz']
                  have l1' : p1 < s1.heap.objs.size + 6 := Nat.lt_of_lt_of_le lt1 (Nat.le_add_right _ _)
                  have l2' : p2 < s1.heap.objs.size + 6 := Nat.lt_of_lt_of_le lt2 (Nat.le_add_right _ _)
                  have l3' : p3 < s1.heap.objs.size + 6 := Nat.lt_of_lt_of_le lt3 (Nat.le_add_right _ _)
                  intro hm
                  simp only [List.mem_append, List.mem_cons, List.not_mem_nil, or_false] at hm
                  rcases hm with (((q | q | q) | q | q) | q | q) | q | q
                  all_goals first | exact absurd q (by omega) | (rw [q] at l1'; exact Nat.lt_irrefl _ l1') | (rw [q] at l2'; exact Nat.lt_irrefl _ l2') | (rw [q] at l3'; exact Nat.lt_irrefl _ l3')
                have W3 := kept_zip3 (A := X.A.in1.in1) (S := ({ s1 with heap := h' } : Shared).heap.objs.size) sep E1 E2 E3 hnot
                refine kept_call (s := { s1 with heap := h' }) nolen_zip W3 (by rw [n1]; exact sm.line) ⟨hTI, t1 _ _ g1 hk, t2 _ _ g2 hk, t3 _ _ g3 hk, .inl ⟨hz, _, _, _, hTO⟩⟩ (fun b hb => ?_) (by rw [hsz']; exact Nat.lt_succ_self _) fun h2 tk acc c as hk2 hS hl hG hacc => ?_
                · rw [hsz']
                  simp only [List.mem_cons, List.not_mem_nil, or_false] at hb
                  rcases hb with rfl | rfl | rfl | rfl | rfl
                  · exact Nat.add_lt_add_left (show 5 < 6 by decide) _
                  · exact Nat.add_lt_add_left (show 4 < 6 by decide) _
                  · exact Nat.lt_add_of_pos_right (by decide)
                  · exact Nat.add_lt_add_left (show 1 < 6 by decide) _
                  · exact Nat.add_lt_add_left (show 2 < 6 by decide) _
                · have hk3 : ∀ b o, s1.heap.get? b = some o → h2.get? b = some o := fun b o e => hk2 b o (fun hb => by
                    have lb := Heap.lt_size e
                    simp only [List.mem_cons, List.not_mem_nil, or_false] at hb
                    rcases hb with q | q | q | q | q <;> (rw [q] at lb; first | exact Nat.lt_irrefl _ lb | exact absurd lb (Nat.not_lt.mpr (Nat.le_add_right _ _)))) (hk b o e)
                  have lz : (zip3V vs1 vs2 vs3).length = vs1.length := zip3V_len (by rw [rp2.length, rp1.length, k4]) (by rw [rp3.length, rp1.length, k5])
                  have hla : as.length = (zip3V vs1 vs2 vs3).length := by rw [hl, lz, v1.length]
                  have hL : s1.heap.objs.size ≤ ({ s1 with heap := h' } : Shared).heap.objs.size := by rw [hsz']; exact Nat.le_add_right _ _
                  have habove : ∀ a ∈ as, ({ s1 with heap := h' } : Shared).heap.objs.size < a := fun a ha => Nat.lt_of_succ_le (hG.above a ha)
                  have nd : as.Nodup := List.Pairwise.imp (fun {a b} (h : a < b) => Nat.ne_of_lt h) hG.rise
                  have J := laid (tk := tk) (L := ({ s1 with heap := h' } : Shared).heap.objs.size) (as := as) (ts := zip3V vs1 vs2 vs3) I1 hk3 hL hS hG.rise habove hla (by rw [hl, n1]; exact sm.line) (fun j a vs hj hvs => by
                    obtain ⟨vals, ⟨x1, x2, x3, e1, e2, e3, rfl⟩, e4⟩ := hG.vals j a hj
                    obtain ⟨y1, y2, y3, rfl, f1, f2, f3⟩ := zip3V_get hvs
                    obtain ⟨z1, m1, m2⟩ := v1.get f1
                    obtain ⟨z2, m3, m4⟩ := v2.get f2
                    obtain ⟨z3, m5, m6⟩ := v3.get f3
                    rw [List.getElem?_toArray, m1] at e1
                    rw [List.getElem?_toArray, m3] at e2
                    rw [List.getElem?_toArray, m5] at e3
                    cases e1
                    cases e2
                    cases e3
                    exact ⟨#[x1, x2, x3], by show 3 ≤ sizeLine; decide, .cons m2 (.cons m4 (.cons m6 .nil)), e4⟩) hacc
                  have newL : H1 ({ s1 with heap := h' } : Shared).heap.objs.size = none := I1.hok.fresh hL
                  have newA : ∀ a ∈ as, H1 a = none := fun a ha => I1.hok.fresh (Nat.le_trans hL (Nat.le_of_lt (habove a ha)))
                  obtain ⟨w2, l2, A2, rr2⟩ := A1.layT (as := as) (ts := zip3V vs1 vs2 vs3) hla newA nd (zip3_reps rp1 rp2 rp3)
                  have hLn : layT H1 as (zip3V vs1 vs2 vs3) ({ s1 with heap := h' } : Shared).heap.objs.size = none := by
                    rw [layT_off _ _ _ fun z => Nat.lt_irrefl _ (habove _ z)]
                    exact newL
                  refine ⟨V.ref ({ s1 with heap := h' } : Shared).heap.objs.size, _, J, rfl, ko _ _ q1 _ _ w2 _ (l1.trans l2) (A2.grow (same_new hLn)) upd_same (fresh_new A2 hLn) rr2⟩
  · exact q1.elim
end
end R3

/-! R3bo: slices of tuples; targets of three names. -/
namespace R3
open PySem PySem.Spec PyProof.Rows L2
section
variable {g : Sg} {X : Cx} {W : WX} {e : Expr} {fe : FE} {pos : Pos}
def wSlT (f : FE) (fl fh : FO) (ρ : List Sl) (S : Store) (K : KD) (ex : KX) : Prop := f ρ S (fun x S1 => fl ρ S1 (fun lo S2 => fh ρ S2 (fun hi S3 => match x with
  | .tup ds => K (.tup (cutD ds lo hi)) S3
  | _ => False) ex) ex) ex
theorem cutD_whole {ds : List D} {lo hi : Option Int} (h : HT.sIx ds.length 0 lo = 0 ∧ HT.sIx ds.length ds.length hi = ds.length) : cutD ds lo hi = ds := by
  unfold cutD
  rw [h.1, h.2]
  simp
theorem eslt {lo hi : Option Expr} {fl fh : FO} {p2 : Pos} (hK : g.K = X.K) (he : EV g X W e fe) (hl : EO g X W lo fl) (hh : EO g X W hi fh) : EV g X W (.Subscript e (.Slice lo hi none p2) pos) (wSlT fe fl fh) :=
  PE.imp (pe_slice sl_tupA he hl hh) fun σ H Q ⟨w, ρ, S, K, ex, A, xo, ko, q⟩ => ⟨w, ρ, S, _, ex, A, xo, fun x S1 q1 v w1 H1 l1 A1 r1 => ⟨w1, ρ, S1, _, ex, A1, xo.later l1, fun lo S2 q2 w2 H2 l2 A2 => ⟨w2, ρ, S2, _, ex, A2, xo.later (l1.trans l2), fun hi S3 q3 w3 H3 l3 A3 => by
    have l13 := l1.trans (l2.trans l3)
    have r3 := r1.mono (l2.trans l3).s
    split at q3
    · cases r3 with
      | tup hh rr =>
        refine ⟨_, _, rfl, by rw [← hK]; exact A3.t hh, fun h0 => ?_, fun _ p hp => ?_⟩
        · rw [rr.length] at h0
          rw [cutD_whole h0] at q3
          exact ko _ S3 q3 _ w3 H3 l13 A3 (.tup hh rr)
        · exact ko _ S3 q3 _ (w3.add p (.tup _)) _ (l13.trans (le_add A3.if_ (A3.free hp))) (A3.lay hp) (.tup (SqT.of upd_same) ((rr.cut lo hi).mono (le_add A3.if_ (A3.free hp)).s))
    · exact q3.elim, q2⟩, q1⟩, q⟩
end
theorem tame3 {i j m : Nat} : Tame [i, j, m] (gTp 3 (gCs (gNm i) (gCs (gNm j) (gCs (gNm m) gNl)))) := fun d ρ K q => by
  cases d with
  | tup ds =>
    obtain ⟨hl, q⟩ := q
    match ds, hl, q with
    | [x, y, z], _, q =>
      refine ⟨rfl, q, fun k hk => ?_⟩
      have h1 : k ≠ i := fun z => hk (by simp [z])
      have h2 : k ≠ j := fun z => hk (by simp [z])
      have h3 : k ≠ m := fun z => hk (by simp [z])
      rw [put_at h3, put_at h2, put_at h1]
  | _ => exact q.elim
end R3

/-! R3ca: lent deeply: while an expression runs, the store's lists and instances are values. -/
namespace R3
open PySem PySem.Spec PyProof.Rows L2
mutual
/-- no list, nothing of the store, no instance of a class whose instances change -/
def nomu : D → Bool
  | .tup xs => nomus xs
  | .obj c xs => (c == 0 || c == 1) && nomus xs
  | .lst _ => false
  | .ref _ => false
  | .scr _ => false
  | .dic _ => false
  | _ => true
def nomus : List D → Bool
  | [] => true
  | d :: r => nomu d && nomus r
end
/-- what is behind a reference, n steps deep; mc: the classes whose instances change -/
def flatN (mc : List Nat) (S : Store) : Nat → D → D
  | n + 1, .ref k => (match S[k]? with
    | some (some (.lst ds)) => .lst (ds.map (flatN mc S n))
    | some (some (.ins c ds)) => if c ∈ mc then .obj c (ds.map (flatN mc S n)) else .ref k
    | _ => .ref k)
  | _, d => d
def deepL (mc : List Nat) (S : Store) : Sl → Sl
  | .no => .no
  | .val d => .val (flatN mc S 4 d)
  | .own (.lst ds) => .val (.lst (ds.map (flatN mc S 4)))
  | .own _ => .no
  | .exc => .exc
def deepE (mc : List Nat) (S : Store) : List Sl → List Sl
  | [] => []
  | s :: r => deepL mc S s :: deepE mc S r
theorem deepE_len (mc : List Nat) (S : Store) : ∀ ρ : List Sl, (deepE mc S ρ).length = ρ.length
  | [] => rfl
  | _ :: r => congrArg (· + 1) (deepE_len mc S r)
theorem deepE_at (mc : List Nat) (S : Store) : ∀ (ρ : List Sl) (i : Nat), Env.at (deepE mc S ρ) i = deepL mc S (Env.at ρ i)
  | [], i => rfl
  | s :: r, 0 => rfl
  | s :: r, i + 1 => deepE_at mc S r i
/-- the classes lie apart -/
def Apart (g : Sg) (mc : List Nat) : Prop := ∀ c ∈ mc, g.ad 0 ≠ g.ad c ∧ g.ad 1 ≠ g.ad c
def fApart (nm : Nat → Str) (mc : List Nat) (K : Fr) : Bool := mc.all fun c => decide (He.ga K (nm 0) ≠ He.ga K (nm c)) && decide (He.ga K (nm 1) ≠ He.ga K (nm c))
theorem apart_ok {nm : Nat → Str} {mc : List Nat} {K : Fr} {fl : Nat → List Str} {xs : Option Xs} (h : fApart nm mc K = true) : Apart ⟨K, fun c => He.ga K (nm c), fl, xs⟩ mc := fun c hc => by
  obtain ⟨h1, h2⟩ := Bool.and_eq_true_iff.mp (List.all_eq_true.mp h c hc)
  exact ⟨of_decide_eq_true h1, of_decide_eq_true h2⟩
section
open Classical
variable {g : Sg} {w : Wd} {ρ : List Sl} {S : Store} {σ : L2.St} {H : Hp} {mc : List Nat}
/-- what is lent -/
def LentD (mc : List Nat) (w : Wd) (ρ : List Sl) (S : Store) (σ : L2.St) (a : Addr) : Prop := Lent w ρ S σ a ∨ ∃ k c ds, S[k]? = some (some (.ins c ds)) ∧ c ∈ mc ∧ w.φ k = a
theorem LentD.muta {a : Addr} (h : LentD mc w ρ S σ a) : Muta w ρ S σ a := by
  rcases h with h | ⟨k, c, ds, h1, _, h2⟩
  · exact h.muta
  · exact .inr ⟨k, _, h1, h2⟩
theorem LentD.what {a : Addr} (A : At g w ρ S σ H) (h : LentD mc w ρ S σ a) : (∃ vs, H a = some (.lst vs)) ∨ ∃ c dx fs, c ∈ mc ∧ H a = some (.ins (g.ad c) dx fs) := by
  rcases h with h | ⟨k, c, ds, h1, hc, h2⟩
  · exact .inl (h.lst A)
  · subst h2
    obtain ⟨_, dx, vs, e, _⟩ := A.st k _ h1
    exact .inr ⟨c, dx, _, hc, e⟩
noncomputable def Wd.deep (mc : List Nat) (w : Wd) (ρ : List Sl) (S : Store) (σ : L2.St) (H : Hp) : Wd := { w with I := fun a => if LentD mc w ρ S σ a then H a else w.I a, F := H }
theorem deep_sub (A : At g w ρ S σ H) : Sub w (w.deep mc ρ S σ H) := ⟨fun a o h => by
  show (if _ then _ else _) = _
  split
  · exact A.ih a o h
  · exact h, fun _ _ => rfl, Nat.le_refl _⟩
theorem rep_deep (A : At g w ρ S σ H) : ∀ (n : Nat) {v : V} {d : D}, Rep g w v d → Rep g (w.deep mc ρ S σ H) v (flatN mc S n d) := by
  have look : ∀ a, LentD mc w ρ S σ a → (w.deep mc ρ S σ H).I a = H a := fun a h => if_pos h
  intro n
  induction n with
  | zero =>
    intro v d r
    have e : flatN mc S 0 d = d := by cases d <;> rfl
    rw [e]
    exact r.mono (deep_sub A)
  | succ n ih =>
    have all : ∀ {vs : List V} {ds : List D}, Reps g w vs ds → Reps g (w.deep mc ρ S σ H) vs (ds.map (flatN mc S n)) := by
      intro vs
      induction vs with
      | nil => intro ds r; cases r; exact .nil
      | cons v vs ihv =>
        intro ds r
        cases r with
        | cons h r => exact .cons (ih h) (ihv r)
    intro v d r
    cases d with
    | ref k =>
      have e : flatN mc S (n + 1) (.ref k) = (match S[k]? with
        | some (some (.lst ds)) => .lst (ds.map (flatN mc S n))
        | some (some (.ins c ds)) => if c ∈ mc then .obj c (ds.map (flatN mc S n)) else .ref k
        | _ => .ref k) := rfl
      rw [e]
      split
      · rename_i ds hS
        obtain ⟨rfl, _⟩ := rep_ref r
        obtain ⟨_, vs, e2, rr⟩ := A.st k _ hS
        exact .lst ((look _ (.inl (.inr ⟨k, ds, hS, rfl⟩))).trans e2) (all rr)
      · rename_i c ds hS
        split
        · rename_i hc
          obtain ⟨rfl, _⟩ := rep_ref r
          obtain ⟨_, dx, vs, e2, hl, rr⟩ := A.st k _ hS
          exact .obj (dx := dx) ((look _ (.inr ⟨k, c, ds, hS, hc, rfl⟩)).trans e2) hl (all rr)
        · exact r.mono (deep_sub A)
      · exact r.mono (deep_sub A)
    | _ => exact r.mono (deep_sub A)
theorem reps_deep (A : At g w ρ S σ H) (n : Nat) : ∀ {vs : List V} {ds : List D}, Reps g w vs ds → Reps g (w.deep mc ρ S σ H) vs (ds.map (flatN mc S n))
  | _, _, .nil => .nil
  | _, _, .cons h r => .cons (rep_deep A n h) (reps_deep A n r)
theorem At.deep (A : At g w ρ S σ H) : At g (w.deep mc ρ S σ H) (deepE mc S ρ) (flatS S) σ H := by
  have look : ∀ a, LentD mc w ρ S σ a → (w.deep mc ρ S σ H).I a = H a := fun a h => if_pos h
  refine ⟨fun a o h => ?_, fun _ _ z => z, by rw [flatS_len]; exact A.len, fun k o h => absurd h (flatS_no S k o), fun j k oj ok h => absurd h (flatS_no S j oj), by rw [deepE_len]; exact A.sl, fun i d h => ?_, fun i o h => ?_, fun i h => ?_⟩
  · have h' : (if LentD mc w ρ S σ a then H a else w.I a) = some o := h
    split at h'
    · exact h'
    · exact A.ih a o h'
  · rw [deepE_at] at h
    cases e : Env.at ρ i with
    | no => rw [e] at h; cases h
    | val d0 =>
      rw [e] at h
      cases h
      obtain ⟨v, h1, h2⟩ := A.val i d0 e
      exact ⟨v, h1, rep_deep A 4 h2⟩
    | own o =>
      rw [e] at h
      cases o with
      | lst ds =>
        cases h
        obtain ⟨a, h1, h2, ⟨vs, e2, rr⟩, _⟩ := A.own i _ e
        exact ⟨.ref a, h1, .lst ((look _ (.inl (.inl ⟨i, ds, e, h1⟩))).trans e2) (reps_deep A 4 rr)⟩
      | _ => cases h
    | exc => rw [e] at h; cases h
  · rw [deepE_at] at h
    cases e : Env.at ρ i with
    | no => rw [e] at h; cases h
    | val d0 => rw [e] at h; cases h
    | own o => rw [e] at h; cases o <;> cases h
    | exc => rw [e] at h; cases h
  · rw [deepE_at] at h
    cases e : Env.at ρ i with
    | no => rw [e] at h; cases h
    | val d0 => rw [e] at h; cases h
    | own o => rw [e] at h; cases o <;> cases h
    | exc => exact (A.xc i e).mono (deep_sub A) rfl
noncomputable def Wd.undeep (mc : List Nat) (w w' : Wd) (ρ : List Sl) (S : Store) (σ : L2.St) : Wd := { w with I := fun a => if LentD mc w ρ S σ a then none else w'.I a, F := fun a => if Muta w ρ S σ a then none else w'.F a }
theorem At.undeep {w' : Wd} {ρ' : List Sl} {S' : Store} {σ' : L2.St} {H' : Hp} (A : At g w ρ S σ H) (l : Le (w.deep mc ρ S σ H) w') (B : At g w' ρ' S' σ' H') : Le w (w.undeep mc w' ρ S σ) ∧ At g (w.undeep mc w' ρ S σ) ρ S σ H' := by
  have notM : ∀ a u, w.F a = some u → ¬ Muta w ρ S σ a := fun a u h m => by
    have z := (m.free A).1
    rw [h] at z
    cases z
  have keep : ∀ a u, H a = some u → H' a = some u ∧ w'.F a = some u := fun a u h => ⟨B.fh a u (l.f a u h), l.f a u h⟩
  have sI : Same w.I (w.undeep mc w' ρ S σ).I := fun a u h => by
    have nl : ¬ LentD mc w ρ S σ a := fun z => notM a u (A.if_ a u h) z.muta
    show (if _ then _ else _) = _
    rw [if_neg nl]
    exact l.s.i a u ((deep_sub A).i a u h)
  have sub : Sub w (w.undeep mc w' ρ S σ) := ⟨sI, fun _ _ => rfl, Nat.le_refl _⟩
  refine ⟨⟨sub, fun a u h => ?_, fun b h1 h2 => ?_⟩, ⟨fun a u h => ?_, fun a u h => ?_, A.len, fun k o h => ⟨if_pos (.inr ⟨k, o, h, rfl⟩), ?_⟩, A.inj, A.sl, fun i d h => ?_, fun i o h => ?_, fun i h => (A.xc i h).mono sub rfl⟩⟩
  · show (if _ then _ else _) = _
    rw [if_neg (notM a u h)]
    exact (keep a u (A.fh a u h)).2
  · show (if _ then _ else _) = _
    split
    · rfl
    · rename_i nl
      refine l.new b ?_ ?_
      · show (if _ then _ else _) = _
        rw [if_neg nl]
        exact h1
      · show H b ≠ none
        cases e : w.F b with
        | none => exact absurd e h2
        | some u => rw [A.fh b u e]; exact fun z => nomatch z
  · have h' : (if LentD mc w ρ S σ a then none else w'.I a) = some u := h
    split at h'
    · cases h'
    · rename_i nl
      have nm : ¬ Muta w ρ S σ a := fun m => by
        obtain ⟨m1, u2, m2⟩ := m.free A
        have z := l.new a (by show (if _ then _ else _) = _; rw [if_neg nl]; exact A.freeI m1) (by show H a ≠ none; rw [m2]; exact fun z => nomatch z)
        rw [h'] at z
        cases z
      show (if _ then _ else _) = _
      rw [if_neg nm]
      exact B.if_ a u h'
  · have h' : (if Muta w ρ S σ a then none else w'.F a) = some u := h
    split at h'
    · cases h'
    · exact B.fh a u h'
  · obtain ⟨h1, h2⟩ := A.st k o h
    obtain ⟨u, hu⟩ := h2.some
    exact h2.mono sub ((keep _ u hu).1.trans hu.symm)
  · obtain ⟨v, h1, h2⟩ := A.val i d h
    exact ⟨v, h1, h2.mono sub⟩
  · obtain ⟨a, h1, h2, h3, h4, h5⟩ := A.own i o h
    obtain ⟨u, hu⟩ := h3.some
    exact ⟨a, h1, if_pos (.inl ⟨i, o, h, h1⟩), h3.mono sub ((keep _ u hu).1.trans hu.symm), h4, h5⟩
theorem lent_is {w' : Wd} (A : At g w ρ S σ H) (l : Le (w.deep mc ρ S σ H) w') {a : Addr} (h : LentD mc w ρ S σ a) : (∃ vs, w'.I a = some (.lst vs)) ∨ ∃ c dx fs, c ∈ mc ∧ w'.I a = some (.ins (g.ad c) dx fs) := by
  rcases h.what A with ⟨vs, e⟩ | ⟨c, dx, fs, hc, e⟩
  · exact .inl ⟨vs, l.s.i a _ ((if_pos h).trans e)⟩
  · exact .inr ⟨c, dx, fs, hc, l.s.i a _ ((if_pos h).trans e)⟩
mutual
theorem Rep.undeep {w' : Wd} (ap : Apart g mc) (A : At g w ρ S σ H) (l : Le (w.deep mc ρ S σ H) w') : ∀ {v : V} {d : D}, Rep g w' v d → nomu d = true → Rep g (w.undeep mc w' ρ S σ) v d
  | _, _, .non, _ => .non
  | _, _, .bl b, _ => .bl b
  | _, _, .int b, _ => .int b
  | _, _, .str b, _ => .str b
  | _, _, .ty b, _ => .ty b
  | _, _, .tup (a := a) h r, n => by
    refine .tup ?_ (Reps.undeep ap A l r n)
    have nl : ∀ o, w'.I a = some o → (∀ vs, o ≠ .lst vs) → (∀ c dx fs, o ≠ .ins c dx fs) → (w.undeep mc w' ρ S σ).I a = some o := fun o e ne ne2 => by
      have z : ¬ LentD mc w ρ S σ a := fun z => by
        rcases lent_is A l z with ⟨vs, q⟩ | ⟨c, dx, fs, _, q⟩
        · rw [e] at q
          cases q
          exact ne vs rfl
        · rw [e] at q
          cases q
          exact ne2 _ _ _ rfl
      exact (if_neg z).trans e
    rcases h with (h | ⟨o, h⟩) | h
    · exact .inl (.inl (nl _ h (fun _ z => nomatch z) fun _ _ _ z => nomatch z))
    · exact .inl (.inr ⟨o, nl _ h (fun _ z => nomatch z) fun _ _ _ z => nomatch z⟩)
    · exact .inr h
  | _, _, .lst _ _, n => by cases n
  | _, _, .scr _, n => by cases n
  | _, _, .obj (a := a) (dx := dx) (c := c) h hl r, n => by
    have n' := Bool.and_eq_true_iff.mp (show ((c == 0 || c == 1) && nomus _) = true from n)
    refine .obj (dx := dx) ?_ hl (Reps.undeep ap A l r n'.2)
    have hc : c = 0 ∨ c = 1 := by simpa using n'.1
    have z : ¬ LentD mc w ρ S σ a := fun z => by
      rcases lent_is A l z with ⟨vs, q⟩ | ⟨c', dx', fs, hm, q⟩
      · rw [h] at q
        cases q
      · rw [h] at q
        have e : g.ad c = g.ad c' := by injection q with q; injection q with q
        rcases hc with rfl | rfl
        · exact (ap c' hm).1 e
        · exact (ap c' hm).2 e
    exact (if_neg z).trans h
  | _, _, .ref _, n => by cases n
  | _, _, .dic _, n => by cases n
theorem Reps.undeep {w' : Wd} (ap : Apart g mc) (A : At g w ρ S σ H) (l : Le (w.deep mc ρ S σ H) w') : ∀ {v : List V} {d : List D}, Reps g w' v d → nomus d = true → Reps g (w.undeep mc w' ρ S σ) v d
  | _, _, .nil, _ => .nil
  | _, _, .cons h r, n => by
    have n' := Bool.and_eq_true_iff.mp n
    exact .cons (Rep.undeep ap A l h n'.1) (Reps.undeep ap A l r n'.2)
end
theorem fresh_undeep {w' : Wd} {ρ' : List Sl} {S' : Store} {σ' : L2.St} (A : At g w ρ S σ H) (l : Le (w.deep mc ρ S σ H) w') {a : Addr} (f : Fresh w' ρ' S' σ' a) : Fresh (w.undeep mc w' ρ S σ) ρ S σ a := by
  have no : ∀ u, H a ≠ some u := fun u h => by
    have z := l.f a u h
    rw [f.f] at z
    cases z
  refine ⟨?_, fun k ok h z => ?_, fun i oi h z => ?_⟩
  · show (if _ then _ else _) = _
    split
    · rfl
    · exact f.f
  · obtain ⟨u, hu⟩ := (A.st k ok h).2.some
    rw [show w.φ k = a from z] at hu
    exact no u hu
  · obtain ⟨b, h1, _, h3, _⟩ := A.own i oi h
    rw [z] at h1
    cases h1
    obtain ⟨u, hu⟩ := h3.some
    exact no u hu
end
section
variable {g : Sg} {X : Cx} {W : WX} {e : Expr} {fe : FE} {ft : FT} {fr : FA} {mc : List Nat}
theorem xo_deep {σ : L2.St} {ρ : List Sl} {S : Store} {H : Hp} {w : Wd} {ex : KX} (ap : Apart g mc) (A : At g w ρ S σ H) (xo : XOk g W σ ρ w ex) : XOk g W σ (deepE mc S ρ) (w.deep mc ρ S σ H) (fun x _ => nomus x.fs = true ∧ ex x S) := fun x S' e w' H' cls dd l B r => by
  obtain ⟨l2, A2⟩ := A.undeep l B
  obtain ⟨h1, a, vs, h2, h3, h4, h5⟩ := r
  have z : ¬ LentD mc w ρ S σ a := fun z => by
    rcases lent_is A l z with ⟨us, q⟩ | ⟨c, dx, fs, _, q⟩
    · rw [h3] at q
      cases q
    · rw [h3] at q
      cases q
  exact xo x S e.2 _ H' cls dd l2 A2 ⟨h1, a, vs, h2, (if_neg z).trans h3, h4, h5.undeep ap A l e.1⟩
def wDeep (mc : List Nat) (f : FE) (ρ : List Sl) (S : Store) (K : KD) (ex : KX) : Prop := f (deepE mc S ρ) (flatS S) (fun d _ => nomu d = true ∧ K d S) (fun x _ => nomus x.fs = true ∧ ex x S)
theorem deep (ap : Apart g mc) (h : EV g X W e fe) : EV g X W e (wDeep mc fe) := PE.imp h fun σ H Q ⟨w, ρ, S, K, ex, A, xo, ko, q⟩ =>
  ⟨w.deep mc ρ S σ H, deepE mc S ρ, flatS S, _, _, A.deep, xo_deep ap A xo, fun d S' k v w' H' l B r => by
    obtain ⟨l2, A2⟩ := A.undeep l B
    exact ko d S k.2 v _ H' l2 A2 (r.undeep ap A l k.1), q⟩
def wDeepT (mc : List Nat) (f : FT) (ρ : List Sl) (S : Store) (K : Bool → Store → Prop) (ex : KX) : Prop := f (deepE mc S ρ) (flatS S) (fun b _ => K b S) (fun x _ => nomus x.fs = true ∧ ex x S)
theorem deepT (ap : Apart g mc) (h : ET g X W e ft) : ET g X W e (wDeepT mc ft) := PT.imp h fun σ H Q ⟨w, ρ, S, K, ex, A, xo, ko, q⟩ =>
  ⟨w.deep mc ρ S σ H, deepE mc S ρ, flatS S, _, _, A.deep, xo_deep ap A xo, fun b S' k w' H' l B => by
    obtain ⟨l2, A2⟩ := A.undeep l B
    exact ko b S k _ H' l2 A2, q⟩
def wDeepL (mc : List Nat) (f : FA) (ρ : List Sl) (S : Store) (K : List D → Store → Prop) (ex : KX) : Prop := f (deepE mc S ρ) (flatS S) (fun ds _ => nomus ds = true ∧ K ds S) (fun x _ => nomus x.fs = true ∧ ex x S)
theorem deepLx (ap : Apart g mc) (h : EL g X W e fr) : EL g X W e (wDeepL mc fr) := PE.imp h fun σ H Q ⟨w, ρ, S, K, ex, A, xo, ko, q⟩ =>
  ⟨w.deep mc ρ S σ H, deepE mc S ρ, flatS S, _, _, A.deep, xo_deep ap A xo, fun ds S' k a vs w' H' l B e1 f1 r => by
    obtain ⟨l2, A2⟩ := A.undeep l B
    exact ko ds S k.2 a vs _ H' l2 A2 e1 (fresh_undeep A l f1) (r.undeep ap A l k.1), q⟩
end
end R3

/-! R3cb: repr of lists and tuples that hold instances. -/
namespace R3
open PySem PySem.Spec PyProof.Rows L2
section
variable {P : Program} {w : World} {g : Sg} {mg : Str → Option Value} {base : Heap} {f : Addr} {fd : FuncData} {x qual : Str} {params : Arguments} {body : List Stmt} {scope : Scope} {dvs : List V} {kws : List (Str × V)}
/-- a def's promise whatever repr is under way -/
theorem def_okQ {N ps : List Str} {k : Nat} {C : Ct} {fs : FS} (F : FunD g.K x qual params body scope dvs kws f fd) (bd : Binds g.K fd ps []) (S : FnScope N ps scope)
    (hb : ∀ (cdv : Value) (A : Around) (outer : List PySem.Env) (s : Shared) (H : Hp) (E : XK), L2.Room k (A.deeper (envOfC qual scope s.heap.objs.size f cdv)) → EB g (cxOf (L2.CX P w) P w g.K mg base N qual scope f cdv A outer s H E) (wD E) body fs)
    (hc : ∀ ds S K ex, ds.length = ps.length → C ds S K ex → fs { nx := fun _ S' => K .non S', rt := K, ex := fun x _ S' => ex x S' } (startD N.length ds) S) : L2.FnR P w g.K mg base (L2.CX P w) (k + 1) f (spOf g ps.length C) := by
  have Z : L2.FnOk P w g.K mg base (L2.CX P w) (k + 1) f fd ps (spOf g ps.length C) := by
    refine L2.FunD.ok F S (fun vs H Q E h => spOf_len h) fun cdv A outer s H vs Q E hr h => ⟨_, hb cdv A outer s H E hr, ?_⟩
    obtain ⟨w0, ds, St, K, ex, hn, A0, r, ko, xo, q⟩ := h
    exact ⟨w0, _, St, _, A0.start r, ⟨fun ρ' S' k w' σ' H' l A' => ko _ _ k _ w' H' l A'.bare .non, fun r S' k v w' H' l A' rr => ko _ _ k v w' H' l A' rr, fun _ _ z => False.elim z, fun _ _ z => False.elim z,
      fun x ρ' S' e w' σ' H' cls dd l A' r => xo x S' e w' H' cls dd l A'.bare r, fun _ _ z => False.elim z⟩, hc ds St K ex hn q⟩
  have := L2.FnOk.raw Z bd .nil
  simp only [List.append_nil] at this
  exact this
theorem fnr_weak {k : Nat} {sp : Sp} {CX : CXT} {K : PySem.W.Frag} (F : L2.FnR P w K mg base CX k f sp) : R3.FnR P w K mg base CX k f sp := fun A outer s H us vs Q E hr e0 r h => F A outer s H us vs Q E hr.toRoom e0 r h
end
/-- a special method, called where a repr is under way -/
structure OwnQ (P : Program) (w : World) (mg : Str → Option Value) (base : Heap) (g : Sg) (k : Nat) (c : Nat) (m : Str) (n : Nat) (C : Ct) : Prop where
  ex : ∃ f, PySem.W.findIn g.K (.ref (g.ad c)) m = some (some (.ref f)) ∧ PySem.W.isFn g.K (.ref f) = true ∧ L2.FnR P w g.K mg base (L2.CX P w) k f (spOf g n C)
section
variable {g : Sg} {X : Cx} {W : WX} {e : Expr} {fe : FE} {pos : Pos}
/-- {n}: an int -/
def wFmtI (f : FE) (ρ : List Sl) (S : Store) (K : KD) (ex : KX) : Prop := f ρ S (fun d S1 => (∃ i, d = .int i) ∧ Stw 1000000 d ∧ K (.str (stw d)) S1) ex
theorem efmtI (he : EV g X W e fe) : EV g X W (.FormattedValue e (-1) none pos) (wFmtI fe) := by
  refine ⟨fun pins s σ H Q I h => ?_⟩
  obtain ⟨w, ρ, S, K, ex, A, xo, ko, q⟩ := h
  refine wpAny_FormattedValue_plain (thn (he.run pins s σ H (fun v H1 => ∃ d w1 S1, Le w w1 ∧ At g w1 ρ S1 σ H1 ∧ Rep g w1 v d ∧ (∃ i, d = .int i) ∧ Stw 1000000 d ∧ K (.str (stw d)) S1) I ⟨w, ρ, S, _, ex, A, xo, fun d S1 q1 v w1 H1 l1 A1 r1 => ⟨d, w1, S1, l1, A1, r1, q1.1, q1.2.1, q1.2.2⟩, q⟩) fun u s1 hv => ?_)
  obtain ⟨v, H1, I1, ru, d, w1, S1, l1, A1, rd, ⟨i, rfl⟩, hz0, q⟩ := hv
  obtain ⟨p, h1, h2, h3, h4⟩ := (show Shw 1000000 (.int i) from hz0)
  cases h1
  obtain rfl := rep_int rd
  obtain ⟨t, rfl⟩ := ru
  exact wpAny_formatField_int (of_decide_eq_true h2) ⟨.str _, H1, I1.tok _, ⟨_, rfl⟩, ko _ _ q _ w1 H1 l1 A1 (.str _)⟩
theorem run_ctQ {A0 : Around} {k n : Nat} {C : Ct} {fn : Addr} {pins : List (Addr × Obj)} {s : Shared} {σ : L2.St} {H : Hp} {w : Wd} {ρ : List Sl} {S : Store} {ds : List D} {vs : List V} {us : List Value} {K : KD} {ex : KX} {Q : VK}
    (F : L2.FnR X.prog X.w X.K X.mg X.base (L2.CX X.prog X.w) k fn (spOf g n C)) (hr : L2.Room k A0) (e0 : Env0 X.prog X.w X.K X.mg X.base A0 X.stack s H) (tk : Takes X W) (I : Inv X pins σ H s) (rv : Vals vs us) (A : At g w ρ S σ H) (rr : Reps g w vs ds) (hn : ds.length = n)
    (xo : XOk g W σ ρ w ex) (ko : KOk g w ρ σ K Q) (q : C ds S K ex) :
    codeAny (model X.prog X.w) A0 (.call (.ref fn) ⟨us, []⟩) (fun r s' => match r with | .ok (.ret v) => EP X pins σ Q v s' | .ok _ => False | .error e => X.xe e s') s := by
  refine codeAny_mono (F A0 X.stack s H us vs Q (WE W σ) hr e0 rv ?_) fun r s' hq => ?_
  · refine ⟨w.inner S H, ds, S, K, ex, hn, A.enter, reps_inner rr, fun d S' k v w' H' l A' r' => ?_, fun x S' e w' H' cls dd l A' r' => ?_, q⟩
    · obtain ⟨l2, A2⟩ := A.leave l A'
      exact ko d S' k v _ H' l2 A2 (r'.mono sub_outer)
    · obtain ⟨l2, A2⟩ := A.leave l A'
      obtain ⟨h1, a, vs, h2, h3, h4, h5⟩ := r'
      exact xo x S' e _ H' cls dd l2 A2 ⟨h1, a, vs, h2, h3, h4, h5.mono sub_outer⟩
  · cases r with
    | error e => exact passAt tk σ pins H s e s' I hq
    | ok fl =>
      cases fl with
      | ret u => exact I.after hq
      | next => exact False.elim hq
      | brk => exact False.elim hq
      | cont => exact False.elim hq
end
/-- the text of an instance within a list -/
theorem reprU_K {prog : Program} {w : World} {A : Around} {E : Value → Shared → Prop} {s : Shared} {K : PySem.W.Frag} {x C f : Addr} {ox : Obj} {od : Option Obj} {base : Nat} {Q : Value → Shared → Prop} (hu : A.units < cLine) (X : K.In s.heap) (I : PySem.W.InstAt s.heap x ox C od) (hs : PySem.W.findIn K (.ref C) "__repr__" = some (some (.ref f))) (hf : PySem.W.isFn K (.ref f) = true)
    (h : wpAny (model prog w) A (call (.ref f) [.ref x]) (fun v s' => ∃ y u, v = .str y u ∧ Q v s') E s) : wpAny (model prog w) A (pyReprObjUnder base (.ref x)) Q E s := by
  unfold pyReprObjUnder pyReprObjBy
  refine wpAny_bind (wpAny_cRoomFor hu ?_)
  refine wpAny_bind (wpAny_bind (I.type.here ((PySem.W.looks_findIn X hs).here ?_)))
  show wpAny _ _ (if (some (Value.ref f)).isNone = true then _ else _) _ _ _
  rw [if_neg (by simp)]
  have fin : wpAny (model prog w) A (call (.ref f) ([.ref x] ++ []) >>= fun v => pure (some v)) (fun r s' => ∃ y u, r = some (.str y u) ∧ Q (.str y u) s') E s := wpAny_bind (wpAny_mono h (fun v s' h' => by
    obtain ⟨y, u, rfl, q⟩ := h'
    exact wpAny_pure ⟨y, u, rfl, q⟩) fun _ _ h' => h')
  refine wpAny_bind (wpAny_mono (Q := fun r s' => ∃ y u, r = some (Value.str y u) ∧ Q (.str y u) s') (t := callSpecialIfBoundBy? _ (.ref x) (Str.ofString "__repr__")) ?_ (fun r s' hr => ?_) fun _ _ z => z)
  · simp only [callSpecialIfBoundBy?, bindSpecialIfBound?]
    refine wpAny_holding (wpAny_bind (wpAny_bind (wpAny_bind (I.type.here ((PySem.W.looks_findIn X hs).here ?_)))))
    refine wpAny_bind (wpAny_askSetting (wpAny_ite ?_))
    split
    · exact wpAny_bind ((PySem.W.bind_fn X _ (beq_iff_eq.mp hf)).here (wpAny_pure (by exact fin)))
    · exact wpAny_tryCatch (wpAny_bind ((PySem.W.bind_fn X _ (beq_iff_eq.mp hf)).here (wpAny_pure (by exact fin))))
  · obtain ⟨y, u, rfl, q⟩ := hr
    refine wpAny_bind (wpAny_isInstance (typeIs_str _ _ _) isSubtype_str_str ?_)
    first
      | exact wpAny_pure q
      | (rw [if_pos rfl]; exact wpAny_pure q)
      | (simp only [if_true]; exact wpAny_pure q)
/-! ### how deep a value is -/
mutual
def hgt : D → Nat
  | .lst ds => hgts ds + 1
  | .tup ds => hgts ds + 1
  | _ => 0
def hgts : List D → Nat
  | [] => 0
  | d :: ds => max (hgt d) (hgts ds)
end
mutual
def shb : D → Bool
  | .lst ds => shbs ds
  | .tup ds => shbs ds
  | .ref _ => false
  | .scr _ => false
  | .ty _ => false
  | _ => true
def shbs : List D → Bool
  | [] => true
  | d :: ds => shb d && shbs ds
end
section
variable {g : Sg} {X : Cx} {W : WX} {pins : List (Addr × Obj)} {w : Wd} {ρ : List Sl} {S : Store} {σ : L2.St} {H : Hp} {s : Shared}
theorem sqt_det (hK : g.K = X.K) (I : Inv X pins σ H s) (A : At g w ρ S σ H) {a : Addr} {xs ys : List V} (h : SqT g.K w.I a xs) (h' : SqT g.K w.I a ys) : xs = ys := by
  have no : ∀ {o : Obj} {u : HO}, g.K.lookup a = some o → Rd w.I a u → False := fun {o u} hk hr => by
    rw [hK] at hk
    have hb := I.ok.mod.kin _ _ hk
    have hn := (I.bs _ _ hb).2
    rcases hr with hr | ⟨z, hr⟩
    · rw [A.ih _ _ hr] at hn; cases hn
    · rw [A.ih _ _ hr] at hn; cases hn
  rcases h with h | ⟨o, its, n, k1, _, k2, _, k3⟩
  · rcases h' with h' | ⟨o, its, n, k1, _⟩
    · rcases h with h | ⟨z, h⟩ <;> rcases h' with h' | ⟨z', h'⟩ <;> rw [h] at h' <;> cases h' <;> rfl
    · exact (no k1 h).elim
  · rcases h' with h' | ⟨o', its', n', k1', _, k2', _, k3'⟩
    · exact (no k1 h').elim
    · rw [k1] at k1'; cases k1'
      rw [k2] at k2'; cases k2'
      exact Vals.inj k3 k3'
theorem sqt_no (hK : g.K = X.K) (I : Inv X pins σ H s) (A : At g w ρ S σ H) {a : Addr} {xs : List V} {u : HO} (h : SqT g.K w.I a xs) (h' : w.I a = some u) (hu : (∀ ys, u ≠ .tup ys) ∧ ∀ o ys, u ≠ .frz o (.tup ys)) : False := by
  rcases h with h | ⟨o, its, n, k1, _⟩
  · rcases h with h | ⟨z, h⟩ <;> rw [h] at h' <;> cases h'
    · exact hu.1 _ rfl
    · exact hu.2 _ _ rfl
  · rw [hK] at k1
    have hn := (I.bs _ _ (I.ok.mod.kin _ _ k1)).2
    rw [A.ih _ _ h'] at hn; cases hn
mutual
theorem hgt_det (hK : g.K = X.K) (I : Inv X pins σ H s) (A : At g w ρ S σ H) : ∀ {v : V} {d d' : D}, Rep g w v d → Rep g w v d' → shb d = true → shb d' = true → hgt d = hgt d'
  | _, _, _, .non, r', _, _ => by cases r'; rfl
  | _, _, _, .bl _, r', _, _ => by cases r'; rfl
  | _, _, _, .int _, r', _, _ => by cases r'; rfl
  | _, _, _, .str _, r', _, _ => by cases r'; rfl
  | _, _, _, .ty _, r', h, _ => by cases h
  | _, _, _, .tup hh r, r', h, h' => by
    cases r' with
    | tup hh' r' =>
      have := sqt_det hK I A hh hh'
      subst this
      show _ + 1 = _ + 1
      rw [hgts_det hK I A r r' h h']
    | lst hh' r' => exact (sqt_no hK I A hh hh' ⟨(fun _ z => nomatch z), (fun _ _ z => nomatch z)⟩).elim
    | obj hh' _ r' => exact (sqt_no hK I A hh hh' ⟨(fun _ z => nomatch z), (fun _ _ z => nomatch z)⟩).elim
    | scr => cases h'
    | ref => cases h'
    | dic hh' => exact (sqt_no hK I A hh hh' ⟨(fun _ z => nomatch z), (fun _ _ z => nomatch z)⟩).elim
  | _, _, _, .lst hh r, r', h, h' => by
    cases r' with
    | tup hh' r' => exact (sqt_no hK I A hh' hh ⟨(fun _ z => nomatch z), (fun _ _ z => nomatch z)⟩).elim
    | lst hh' r' =>
      rw [hh] at hh'
      cases hh'
      show _ + 1 = _ + 1
      rw [hgts_det hK I A r r' h h']
    | obj hh' _ r' => rw [hh] at hh'; cases hh'
    | scr => cases h'
    | ref => cases h'
    | dic hh' => rw [hh] at hh'; cases hh'
  | _, _, _, .scr _, r', h, _ => by cases h
  | _, _, _, .obj hh hl r, r', h, h' => by
    cases r' with
    | tup hh' r' => exact (sqt_no hK I A hh' hh ⟨(fun _ z => nomatch z), (fun _ _ z => nomatch z)⟩).elim
    | lst hh' r' => rw [hh] at hh'; cases hh'
    | obj hh' _ r' => rfl
    | scr => cases h'
    | ref => cases h'
    | dic hh' => rw [hh] at hh'; cases hh'
  | _, _, _, .ref _, r', h, _ => by cases h
  | _, _, _, .dic hh, r', h, h' => by
    cases r' with
    | tup hh' r' => exact (sqt_no hK I A hh' hh ⟨(fun _ z => nomatch z), (fun _ _ z => nomatch z)⟩).elim
    | lst hh' r' => rw [hh] at hh'; cases hh'
    | obj hh' _ r' => rw [hh] at hh'; cases hh'
    | scr => cases h'
    | ref => cases h'
    | dic hh' => rfl
theorem hgts_det (hK : g.K = X.K) (I : Inv X pins σ H s) (A : At g w ρ S σ H) : ∀ {vs : List V} {ds ds' : List D}, Reps g w vs ds → Reps g w vs ds' → shbs ds = true → shbs ds' = true → hgts ds = hgts ds'
  | _, _, _, .nil, .nil, _, _ => rfl
  | _, _, _, .cons h r, .cons h' r', q, q' => by
    obtain ⟨q1, q2⟩ := Bool.and_eq_true_iff.mp q
    obtain ⟨q3, q4⟩ := Bool.and_eq_true_iff.mp q'
    show max _ _ = max _ _
    rw [hgt_det hK I A h h' q1 q3, hgts_det hK I A r r' q2 q4]
end
/-- the guards that stand belong to higher things -/
def GS (g : Sg) (w : Wd) (gs : List Code) (n : Nat) : Prop := ∀ id v rest kw, Code.builtin id ⟨v :: rest, kw⟩ ∈ gs → ∃ b d, v = .ref b ∧ Rep g w (.ref b) d ∧ shb d = true ∧ n < hgt d
theorem GS.mono {w' : Wd} {gs : List Code} {n m : Nat} (h : GS g w gs n) (l : Le w w') (hm : m ≤ n) : GS g w' gs m := fun id v rest kw hc => by
  obtain ⟨b, d, e1, e2, e3, e4⟩ := h id v rest kw hc
  exact ⟨b, d, e1, e2.mono l.s, e3, by omega⟩
theorem GS.clear {gs : List Code} (hK : g.K = X.K) (I : Inv X pins σ H s) (A : At g w ρ S σ H) {a : Addr} {d : D} (h : GS g w gs (hgt d)) (r : Rep g w (.ref a) d) (hs : shb d = true) : Clear gs a := fun id v rest kw hc e => by
  obtain ⟨b, d', e1, e2, e3, e4⟩ := h id v rest kw hc
  rw [e1] at e
  cases e
  have := hgt_det hK I A r e2 hs e3
  omega
theorem GS.cons {gs : List Code} {n : Nat} (h : GS g w gs n) {a : Addr} {d : D} {id : String} {rest : List Value} {kw : List (Str × Value)} (r : Rep g w (.ref a) d) (hs : shb d = true) (hn : n < hgt d) : GS g w (.builtin id ⟨.ref a :: rest, kw⟩ :: gs) n := fun id' v rest' kw' hc => by
  rcases List.mem_cons.mp hc with e | hc
  · cases e
    exact ⟨a, d, rfl, r, hs, hn⟩
  · exact h _ _ _ _ hc
end
end R3

/-! R3cc: repr of lists and tuples that hold instances: the loops. -/
namespace R3
open PySem PySem.Spec PyProof.Rows L2
open Builtin Builtin.List
mutual
/-- the text of a value -/
inductive Txt (c : Nat) (C : Ct) (S : Store) : D → Str → Prop where
  | non : Txt c C S .non (PyData.none).shown
  | bl (b : Bool) : Txt c C S (.bl b) (PyData.bool b).shown
  | int (i : Int) (h : i.natAbs.log2 < 1920) : Txt c C S (.int i) (PyData.int i).shown
  | str (x : Str) : Txt c C S (.str x) (PyData.str x).shown
  | dic (kvs : List (Int × Int)) (h : (PyData.dict (kvs.map fun p => (PyData.int p.1, PyData.int p.2))).showable = true) (hd : (PyData.dict (kvs.map fun p => (PyData.int p.1, PyData.int p.2))).depth ≤ 1) : Txt c C S (.dic kvs) (PyData.dict (kvs.map fun p => (PyData.int p.1, PyData.int p.2))).shown
  | obj (es : List D) (t : Str) (h : ∀ (K : KD) (ex : KX), K (.str t) S → C [.obj c es] S K ex) : Txt c C S (.obj c es) t
  | lst {ds : List D} {ts : List Str} (h : Txts c C S ds ts) : Txt c C S (.lst ds) (listText ts)
  | tup {ds : List D} {ts : List Str} (h : Txts c C S ds ts) : Txt c C S (.tup ds) (tupleText ts)
inductive Txts (c : Nat) (C : Ct) (S : Store) : List D → List Str → Prop where
  | nil : Txts c C S [] []
  | cons {d : D} {t : Str} {ds : List D} {ts : List Str} (h : Txt c C S d t) (r : Txts c C S ds ts) : Txts c C S (d :: ds) (t :: ts)
end
mutual
theorem Txt.shb {c : Nat} {C : Ct} {S : Store} : ∀ {d : D} {t : Str}, Txt c C S d t → shb d = true
  | _, _, .non => rfl
  | _, _, .bl _ => rfl
  | _, _, .int _ _ => rfl
  | _, _, .str _ => rfl
  | _, _, .dic _ _ _ => rfl
  | _, _, .obj _ _ _ => rfl
  | _, _, .lst h => Txts.shbs h
  | _, _, .tup h => Txts.shbs h
theorem Txts.shbs {c : Nat} {C : Ct} {S : Store} : ∀ {ds : List D} {ts : List Str}, Txts c C S ds ts → shbs ds = true
  | _, _, .nil => rfl
  | _, _, .cons h r => by show (R3.shb _ && R3.shbs _) = true; rw [h.shb, r.shbs]; rfl
end
theorem weight_loop (args : Args) : (Code.builtin "list.__repr__.loop" args).weight ≤ 3 := by
  simp [Code.weight, Code.isCreation, Code.isGuard, Code.isCaller, Code.frames, Code.isFrame, guardIds]
theorem weight_tup (args : Args) : (Code.builtin "tuple.__repr__.under" args).weight ≤ 3 := by
  simp [Code.weight, Code.isCreation, Code.isGuard, Code.isCaller, Code.frames, Code.isFrame, guardIds]
theorem weight_tup0 (args : Args) : (Code.builtin "tuple.__repr__" args).weight ≤ 3 := by
  simp [Code.weight, Code.isCreation, Code.isGuard, Code.isCaller, Code.frames, Code.isFrame, guardIds]
theorem room_under {n : Nat} {A : Around} {c : Code} (r : L2.Room (n + 1) A) (h2 : c.weight ≤ 3) (h3 : (A.under c).units = A.units + 1) : L2.Room n (A.under c) :=
  ⟨r.hd, by have := r.dp; show A.depth + c.weight + 3 * n + 5 < _; omega, by have := r.un; rw [h3]; omega⟩
section
variable {g : Sg} {X : Cx} {W : WX}
/-- a value's repr runs -/
def RunOk (g : Sg) (X : Cx) (S : Store) (k : Nat) (d : D) (t : Str) : Prop :=
  ∀ {base : Nat} {A0 : Around} {gs : List Code} {pins : List (Addr × Obj)} {s : Shared} {σ : L2.St} {H : Hp} {w : Wd} {ρ : List Sl} {v : V} {u : Value} {Q : Str → Shared → Prop},
    base + t.length ≤ sizeLine → A0.guards = some gs → GS g w gs (hgt d) → L2.Room (k + 2 + 2 * hgt d) A0 → A0.frames = some X.stack → Inv X pins σ H s → At g w ρ S σ H → Rep g w v d → RelV v u →
    (∀ s' H' w', Le w w' → Inv X pins σ H' s' → At g w' ρ S σ H' → Q t s') → wpAny (model X.prog X.w) A0 (pyReprUnder base u) Q X.xe s
inductive RunOks (g : Sg) (X : Cx) (S : Store) (k : Nat) : List D → List Str → Prop where
  | nil : RunOks g X S k [] []
  | cons {d : D} {t : Str} {ds : List D} {ts : List Str} (h : RunOk g X S k d t) (r : RunOks g X S k ds ts) : RunOks g X S k (d :: ds) (t :: ts)
theorem RunOks.len {S : Store} {k : Nat} : ∀ {ds : List D} {ts : List Str}, RunOks g X S k ds ts → ts.length = ds.length
  | _, _, .nil => rfl
  | _, _, .cons _ r => congrArg (· + 1) r.len
theorem RunOks.at_ {S : Store} {k : Nat} : ∀ {ds : List D} {ts : List Str}, RunOks g X S k ds ts → ∀ (i : Nat), i < ds.length → ∃ d t, ds[i]? = some d ∧ ts[i]? = some t ∧ RunOk g X S k d t
  | _, _, .cons h _, 0, _ => ⟨_, _, rfl, rfl, h⟩
  | _, _, .cons _ r, i + 1, hi => by
    obtain ⟨d, t, e1, e2, q⟩ := r.at_ i (Nat.lt_of_succ_lt_succ hi)
    exact ⟨d, t, e1, e2, q⟩
theorem hgt_at : ∀ {ds : List D} {i : Nat} {d : D}, ds[i]? = some d → hgt d ≤ hgts ds
  | [], i, d, h => by cases i <;> cases h
  | x :: xs, 0, d, h => by cases h; exact Nat.le_max_left _ _
  | x :: xs, i + 1, d, h => Nat.le_trans (hgt_at (ds := xs) (i := i) h) (Nat.le_max_right _ _)
theorem reps_at {w : Wd} : ∀ {vs : List V} {ds : List D} {i : Nat} {d : D}, Reps g w vs ds → ds[i]? = some d → ∃ v, vs[i]? = some v ∧ Rep g w v d
  | _, _, 0, _, .cons h _, e => by cases e; exact ⟨_, rfl, h⟩
  | _, _, i + 1, _, .cons _ r, e => reps_at (i := i) r e
  | _, _, 0, _, .nil, e => by cases e
  | _, _, _ + 1, _, .nil, e => by cases e
theorem vals_at : ∀ {vs : List V} {us : List Value} {i : Nat} {v : V}, Vals vs us → vs[i]? = some v → ∃ u, us[i]? = some u ∧ RelV v u
  | _, _, 0, _, .cons h _, e => by cases e; exact ⟨_, rfl, h⟩
  | _, _, i + 1, _, .cons _ r, e => vals_at (i := i) r e
  | _, _, 0, _, .nil, e => by cases e
  | _, _, _ + 1, _, .nil, e => by cases e
theorem vals_len : ∀ {vs : List V} {us : List Value}, Vals vs us → us.length = vs.length
  | _, _, .nil => rfl
  | _, _, .cons _ r => congrArg (· + 1) (vals_len r)
theorem reps_len {w : Wd} : ∀ {vs : List V} {ds : List D}, Reps g w vs ds → ds.length = vs.length
  | _, _, .nil => rfl
  | _, _, .cons _ r => congrArg (· + 1) (reps_len r)
abbrev pObj (acc : Array Value) (c : Nat) : Obj := { cls := .type "list", dict := none, data := .seq acc c, slots := #[] }
/-- an address that is ours -/
structure Our (X : Cx) (pins : List (Addr × Obj)) (P : Addr) : Prop where
  sz : X.s_0.heap.objs.size ≤ P
  loc : P ≠ X.env.locals
  fs : P ∉ X.fs
  cel : ∀ x c, X.env.cells.lookup x = some c → c ≠ P
  pin : ∀ p ∈ X.pn ++ pins, p.1 ≠ P
theorem our_new {pins : List (Addr × Obj)} {σ : L2.St} {H : Hp} {s : Shared} (I : Inv X pins σ H s) : Our X pins s.heap.objs.size where
  sz := I.sz
  loc := Nat.ne_of_gt I.lt
  fs := I.nofs (Nat.le_refl _)
  cel := fun x c h => by
    obtain ⟨v, o, ho, _⟩ := I.cell x c h
    exact Nat.ne_of_lt (Heap.lt_size ho)
  pin := fun p hp => Nat.ne_of_lt (Heap.lt_size (I.pin p hp).1)
theorem unpin {p : Addr × Obj} {pins : List (Addr × Obj)} {σ : L2.St} {H : Hp} {s : Shared} (I : Inv X (p :: pins) σ H s) : Inv X pins σ H s := I.pins_of fun r hr => I.pin r (List.mem_append_right _ (List.mem_cons_of_mem _ hr))
theorem repin {pins : List (Addr × Obj)} {σ : L2.St} {H : Hp} {s : Shared} {P : Addr} {o o' : Obj} {h' : Heap} {tk : Nat} (I : Inv X ((P, o) :: pins) σ H s) (O : Our X pins P) (hk : ∀ b u, b ≠ P → s.heap.get? b = some u → h'.get? b = some u) (ho : h'.get? P = some o') (hc : ∀ v, o'.data ≠ .cell v) : Inv X ((P, o') :: pins) σ H { s with heap := h', toks := tk } := by
  have hn : H P = none := (I.pin (P, o) (List.mem_append_right _ List.mem_cons_self)).2.1
  have J := (unpin I).turned (t' := tk) (it := P) hk hn O.loc (.inr O.sz) O.cel O.pin
  refine J.pins_of fun p hp => ?_
  rcases List.mem_cons.mp hp with e | e
  · subst e
    exact ⟨ho, hn, O.loc, O.fs, hc⟩
  · exact J.pin p (List.mem_append_right _ e)
/-- the loop of a list's repr -/
theorem list_loop {S : Store} {k : Nat} (hK : g.K = X.K) {ds : List D} {ts : List Str} (hT : RunOks g X S k ds ts) (hb : shbs ds = true) {A : Around} {gs : List Code} {base : Nat} {a P : Addr} {pins : List (Addr × Obj)} {σ : L2.St} {ρ : List Sl} {w0 : Wd} {R : Result → Shared → Prop} (hg : A.guards = some gs) (hr : L2.Room (k + 3 + 2 * hgts ds) A) (hA : A.frames = some X.stack) (O : Our X pins P)
    (hsz : base + (listText ts).length ≤ sizeLine) (hE : ∀ e s', X.xe e s' → R (.error e) s') :
    ∀ (m i : Nat) (s : Shared) (H : Hp) (w : Wd) (acc : Array Value) (c : Nat) (done : List (Str × Tok)), ds.length - i = m → i ≤ ds.length → Le w0 w → Inv X ((P, pObj acc c) :: pins) σ H s → At g w ρ S σ H → Rep g w (.ref a) (.lst ds) → GS g w gs (hgt (.lst ds)) → acc.toList = strValues done → done.map (·.1) = ts.take i →
    (∀ s' H' w' u, Le w0 w' → Inv X pins σ H' s' → At g w' ρ S σ H' → R (.ok (.ret (.str (listText ts) u))) s') →
    codeAny (model X.prog X.w) A (.builtin "list.__repr__.loop" ⟨[.ref a, rawInt i, .ref P, rawInt ((base + piled (ts.take i) : Nat) : Int)], []⟩) R s := by
  have hX : (listText ts).length = (textFrom 0 "[" ts).length + 1 := by
    show (textFrom 0 "[" ts ++ "]").length = _
    rw [strLen_append]; rfl
  have hL := textFrom_len ts 0 "["
  have hlen := hT.len
  have hsz1 : ts.length ≤ sizeLine := by
    have h1 := hL.1
    rw [if_neg (Nat.lt_irrefl 0)] at h1
    omega
  have hsz2 : ∀ t ∈ ts, t.length ≤ sizeLine := fun t ht => by
    have h2 := hL.2.1 t ht
    omega
  have hsz3 : (listText ts).length ≤ sizeLine := by omega
  have hp3 := piled_le_listText ts
  intro m
  induction m with
  | zero =>
    intro i s H w acc c done hm hi l I At0 ra hgs hacc hdone hR
    have hin : i = ds.length := by omega
    cases id ra with
    | lst hh rr =>
    obtain ⟨its, rv, ⟨o, n, ho, hc, _, hd⟩, _⟩ := I.list (SqL.of (At0.ih _ _ hh))
    have hil : its.length = ds.length := by rw [vals_len rv, reps_len rr]
    refine codeAny_builtin F.entry_list_repr_loop ?_
    show wpAny _ _ («list.__repr__.loop» ⟨[.ref a, .int i 0, .ref P, .int ((base + piled (ts.take i) : Nat) : Int) 0], []⟩) _ _ s
    rw [repr_loop_tree]
    refine wpAny_bind (wpAny_listItems ho hd ?_)
    have hnone : its.toArray[(i : Int).toNat]? = none := by simp [hin, hil]
    simp only [hnone]
    unfold reprEnd
    have hP := (I.pin (P, pObj acc c) (List.mem_append_right _ List.mem_cons_self)).1
    refine wpAny_bind (wpAny_listItems hP rfl ?_)
    rw [hacc, repr_fold]
    refine wpAny_bind (wpAny_pure ?_)
    have hall : done.map (·.1) = ts := by rw [hdone, hin, ← hlen, List.take_length]
    rw [hall]
    refine wpAny_bind (wpAny_mkStr (wpAny_pure ?_) hsz3)
    exact hR _ H w _ l ((unpin I).tok _) At0
  | succ m ih =>
    intro i s H w acc c done hm hi l I At0 ra hgs hacc hdone hR
    have hlt : i < ds.length := by omega
    obtain ⟨d, t, hd0, ht, hrep⟩ := hT.at_ i hlt
    cases id ra with
    | lst hh rr =>
    obtain ⟨its, rv, ⟨o, n, ho, hc, _, hd⟩, _⟩ := I.list (SqL.of (At0.ih _ _ hh))
    obtain ⟨v, hv, rd⟩ := reps_at rr hd0
    obtain ⟨u, hu, ru⟩ := vals_at rv hv
    have hp1 := piled_take_succ ht
    have hp2 := piled_take_le ts (i + 1)
    refine codeAny_builtin F.entry_list_repr_loop ?_
    show wpAny _ _ («list.__repr__.loop» ⟨[.ref a, .int i 0, .ref P, .int ((base + piled (ts.take i) : Nat) : Int) 0], []⟩) _ _ s
    rw [repr_loop_tree]
    refine wpAny_bind (wpAny_listItems ho hd ?_)
    have hsome : its.toArray[(i : Int).toNat]? = some u := by simpa using hu
    simp only [hsome]
    rw [Int.toNat_natCast]
    have hh1 : hgt d ≤ hgts ds := hgt_at hd0
    have hh2 : hgt (.lst ds) = hgts ds + 1 := rfl
    refine wpAny_bind (wpAny_holding (wpAny_mono (E := X.xe) (hrep (base := base + piled (ts.take i) + 1) (by omega) (guards_under_guard (isGuard_list_loop _) hg) (GS.cons (hgs.mono (Le.refl w) (by omega)) ra hb (by omega)) ((room_under (n := k + 2 + 2 * hgts ds) (hr.mono (by omega)) (weight_loop _) (units_under_list_loop _ _)).mono (by omega)) (by exact hA) I At0 rd ru (Q := fun x s' => x = t ∧ ∃ H' w', Le w w' ∧ Inv X ((P, pObj acc c) :: pins) σ H' s' ∧ At g w' ρ S σ H') fun s' H' w' l' I' A' => ⟨rfl, H', w', l', I', A'⟩) (fun x s' hx => ?_) fun e s' he => hE e s' he))
    obtain ⟨rfl, H', w', l', I', A'⟩ := hx
    refine wpAny_bind (wpAny_mkStr ?_ (hsz2 x (List.mem_of_getElem? ht)))
    refine wpAny_bind ?_
    show wpAny _ _ (updateSeq P _) _ _ _
    have hasz : acc.size ≤ sizeLine := by
      have e1 : acc.toList.length = acc.size := by simp
      have e2 : (strValues done).length = done.length := by simp [strValues]
      have e3 : done.length = (ts.take i).length := by rw [← hdone, List.length_map]
      have e4 : (ts.take i).length ≤ i := by rw [List.length_take]; omega
      rw [hacc] at e1; omega
    have hP := (I'.pin (P, pObj acc c) (List.mem_append_right _ List.mem_cons_self)).1
    refine wpAny_updateSeq hP rfl (wpAny_pure ⟨F.quiet_list_repr_loop _, ?_⟩) hasz
    have e1 : ((i : Int) + 1) = ((i + 1 : Nat) : Int) := by omega
    have e2 : base + piled (ts.take i) + (x.length + 2) = base + piled (ts.take (i + 1)) := by omega
    rw [e1, e2]
    refine ih (i + 1) _ H' w' (acc.push (.str x s'.toks)) _ (done ++ [(x, s'.toks)]) (by omega) hlt (l.trans l') (repin (tk := s'.toks + 1) (I'.tok (s'.toks + 1)) O (fun b o hb e => (Heap.get?_update_other _ _ (fun h : P = b => hb h.symm)).trans e) (Heap.get?_update_self _ hP rfl) (fun _ z => nomatch z)) A' (ra.mono l'.s) (hgs.mono l' (Nat.le_refl _)) (by simp [hacc, strValues]) (by simp [List.take_add_one, ht, hdone]) hR
theorem lst_run {S : Store} {k : Nat} (hK : g.K = X.K) {ds : List D} {ts : List Str} (hT : RunOks g X S k ds ts) (hb : shbs ds = true) {base : Nat} {A0 : Around} {gs : List Code} {pins : List (Addr × Obj)} {s : Shared} {σ : L2.St} {H : Hp} {w : Wd} {ρ : List Sl} {a : Addr} {R : Result → Shared → Prop}
    (hsz : base + (listText ts).length ≤ sizeLine) (hg : A0.guards = some gs) (hgs : GS g w gs (hgt (.lst ds))) (hr : L2.Room (k + 3 + 2 * hgts ds) A0) (hA : A0.frames = some X.stack) (I : Inv X pins σ H s) (At0 : At g w ρ S σ H) (ra : Rep g w (.ref a) (.lst ds)) (hE : ∀ e s', X.xe e s' → R (.error e) s')
    (hR : ∀ s' H' w' u, Le w w' → Inv X pins σ H' s' → At g w' ρ S σ H' → R (.ok (.ret (.str (listText ts) u))) s') (hne : ds ≠ []) :
    wpAny (model X.prog X.w) A0.in1 (Builtin.listReprAt base ⟨[.ref a], []⟩) (fun fin s' => match fin with | .done f => R (.ok f) s' | .again c' => c'.quiet = true ∧ codeAny (model X.prog X.w) A0 c' R s') (fun e s' => R (.error e) s') s := by
  have hca : Clear gs a := hgs.clear hK I At0 ra hb
  cases id ra with
  | lst hh rr =>
  obtain ⟨its, rv, ⟨o, n, ho, hc, _, hd⟩, _⟩ := I.list (SqL.of (At0.ih _ _ hh))
  have hil : its.length = ds.length := by rw [vals_len rv, reps_len rr]
  cases its with
  | nil => exact absurd (List.length_eq_zero_iff.mp hil.symm) hne
  | cons x l =>
  refine wpAny_list_repr_head (A := A0.in1) hg (fun v rest kw hm => listSameRef_of_ne (hca _ _ _ _ hm)) ho hd ?_
  refine wpAny_bind (m := newList []) (wpAny_newObj_type ?_)
  refine wpAny_pure ⟨F.quiet_list_repr_loop _, ?_⟩
  have O := our_new I
  refine list_loop hK hT hb (P := s.heap.objs.size) (base := base) (w0 := w) hg hr hA O hsz hE _ 0 _ H w #[] 0 [] rfl (Nat.zero_le _) (Le.refl w) ?_ At0 ra hgs rfl rfl hR
  have I1 := I.kept (h' := s.heap.push (pObj #[] 0)) (t' := s.toks) fun b u e => Heap.get?_push_of_some _ e
  refine I1.pins_of fun p hp => ?_
  rcases List.mem_cons.mp hp with e | e
  · subst e
    exact ⟨Heap.get?_push_size _ rfl, I.hok.fresh (Nat.le_refl _), O.loc, O.fs, (fun _ z => nomatch z)⟩
  · exact I1.pin p (List.mem_append_right _ e)
theorem runok_lst {S : Store} {k : Nat} (hK : g.K = X.K) {ds : List D} {ts : List Str} (hT : RunOks g X S k ds ts) (hb : shbs ds = true) : RunOk g X S k (.lst ds) (listText ts) := by
  intro base A0 gs pins s σ H w ρ v u Q hsz hg hgs hr hA I At0 ra ru hQ
  have hh2 : hgt (.lst ds) = hgts ds + 1 := rfl
  rw [hh2] at hr
  cases id ra with
  | lst hh rr =>
  rename_i a vs
  obtain rfl : u = .ref a := ru
  obtain ⟨its, rv, ⟨o, n, ho, hc, _, hd⟩, _⟩ := I.list (SqL.of (At0.ih _ _ hh))
  have hil : its.length = ds.length := by rw [vals_len rv, reps_len rr]
  have hun : A0.units + 200 < cLine := by have := hr.un; omega
  refine wpAny_pyReprUnder_ref (by omega) ?_
  by_cases hne : ds = []
  · subst hne
    cases hT
    cases its with
    | cons x l => cases hil
    | nil =>
    have e0 : listText [] = ("[]" : Str) := listText_nil
    rw [e0] at hQ
    exact wpAny_pyReprObjUnder_list_empty ⟨o, ho, hc⟩ (by omega) ho hd ⟨_, _, rfl, hQ _ H w (Le.refl w) (I.tok _) At0⟩
  · refine wpAny_pyReprObjUnder_twin (twin := "list.__repr__.under") ⟨o, ho, hc⟩ F.slot_list_repr.toG rfl (by omega) ?_
    refine call_twin_plain F.plain_list_repr_under F.entry_list_repr_under F.check_list_repr_under ⟨o, ho, hc⟩ F.slot_list_repr.toG (F.args_list_repr_1 _) ?_
    exact lst_run (R := callEnd _ _) hK hT hb hsz hg hgs (hr.mono (by omega)) hA I At0 ra (fun e s' h => h) (fun s' H' w' u l' I' A' => ⟨⟨_, _, rfl⟩, _, _, rfl, hQ s' H' w' l' I' A'⟩) hne
/-- the fold of a tuple's repr -/
theorem tup_fold {S : Store} {k : Nat} {A : Around} {gs : List Code} {pins : List (Addr × Obj)} {σ : L2.St} {ρ : List Sl} {n0 : Nat} (hg : A.guards = some gs) (hr : L2.Room (k + 2 + 2 * n0) A) (hA : A.frames = some X.stack) :
    ∀ {ds : List D} {ts : List Str}, RunOks g X S k ds ts → hgts ds ≤ n0 → ∀ (vs : List V) (us : List Value) (acc : Array Str) (n : Nat) (s : Shared) (H : Hp) (w : Wd) (Q : (Array Str × Nat) → Shared → Prop), Vals vs us → Reps g w vs ds → GS g w gs n0 → Inv X pins σ H s → At g w ρ S σ H → n + piled ts ≤ sizeLine →
    (∀ s' H' w', Le w w' → Inv X pins σ H' s' → At g w' ρ S σ H' → Q ⟨acc ++ ts.toArray, n + piled ts⟩ s') →
    wpAny (model X.prog X.w) A (forIn us (⟨acc, n⟩ : (Array Str × Nat)) tupBody) Q X.xe s
  | _, _, .nil, _, vs, us, acc, n, s, H, w, Q, rv, rr, hgs, I, A0, hn, h => by
    cases rr
    cases rv
    simp only [List.forIn_nil]
    exact wpAny_pure (by simpa [piled] using h s H w (Le.refl w) I A0)
  | _, _, .cons (d := d) (t := t) (ds := ds) (ts := ts) hx hl, hh, vs, us, acc, n, s, H, w, Q, rv, rr, hgs, I, A0, hn, h => by
    cases rr with
    | cons r1 r2 =>
    cases rv with
    | cons q1 q2 =>
    rw [piled_cons] at hn
    have hh' : max (hgt d) (hgts ds) ≤ n0 := hh
    rw [List.forIn_cons]
    refine wpAny_bind (wpAny_bind (hx (base := n + 1) (by omega) hg (hgs.mono (Le.refl w) (by omega)) (hr.mono (by omega)) hA I A0 r1 q1 fun s' H' w' l' I' A' => wpAny_pure ?_))
    refine tup_fold hg hr hA hl (by omega) _ _ (acc.push t) (n + (t.length + 2)) s' H' w' Q q2 (r2.mono l'.s) (hgs.mono l' (Nat.le_refl _)) I' A' (by omega) fun s2 H2 w2 l2 I2 A2 => ?_
    have h1 := h s2 H2 w2 (l'.trans l2) I2 A2
    have e : n + piled (t :: ts) = n + (t.length + 2) + piled ts := by rw [piled_cons]; omega
    rw [e] at h1
    simpa using h1
theorem tup_run {S : Store} {k : Nat} (hK : g.K = X.K) {ds : List D} {ts : List Str} (hT : RunOks g X S k ds ts) (hb : shbs ds = true) {base : Nat} {A0 : Around} {gs : List Code} {pins : List (Addr × Obj)} {s : Shared} {σ : L2.St} {H : Hp} {w : Wd} {ρ : List Sl} {a : Addr} {R : Result → Shared → Prop} {id : String} {rest : List Value}
    (hcg : (Code.builtin id ⟨.ref a :: rest, []⟩).isGuard = true) (hcu : (A0.under (.builtin id ⟨.ref a :: rest, []⟩)).units = A0.units + 1) (hcw : (Code.builtin id ⟨.ref a :: rest, []⟩).weight ≤ 3)
    (hsz : base + (tupleText ts).length ≤ sizeLine) (hg : A0.guards = some gs) (hgs : GS g w gs (hgt (.tup ds))) (hr : L2.Room (k + 3 + 2 * hgts ds) A0) (hA : A0.frames = some X.stack) (I : Inv X pins σ H s) (At0 : At g w ρ S σ H) (ra : Rep g w (.ref a) (.tup ds)) (hE : ∀ e s', X.xe e s' → R (.error e) s')
    (hR : ∀ s' H' w' u, Le w w' → Inv X pins σ H' s' → At g w' ρ S σ H' → R (.ok (.ret (.str (tupleText ts) u))) s') :
    wpOwn (model X.prog X.w) A0 (.builtin id ⟨.ref a :: rest, []⟩) (Builtin.tupleReprAt base ⟨[.ref a], []⟩) (fun fin s' => match fin with | .done f => R (.ok f) s' | .again c' => c'.quiet = true ∧ codeAny (model X.prog X.w) A0 c' R s') (fun e s' => R (.error e) s') s := by
  have hca : Clear gs a := hgs.clear hK I At0 ra hb
  have hh2 : hgt (.tup ds) = hgts ds + 1 := rfl
  cases ra with
  | tup hh rr =>
  obtain ⟨its, rv, ⟨o, ho, hc, n, hd⟩, _⟩ := I.tuple (hK ▸ At0.t hh)
  have hil : its.length = ds.length := by rw [vals_len rv, reps_len rr]
  have hlen : ts.length = its.toArray.size := by simp [hT.len, hil]
  have hp := piled_le_tupleText ts
  have hsz0 : (tupleText ts).length ≤ sizeLine := by omega
  rw [tuple_repr_tree, tupleReprUnderWay_eq]
  refine wpOwn_bind (wpOwn_stackTailAny hg (tupGuardF_off _) (tupGuardF_pos _) ?_)
  have hn : (gs.any fun c => tupGuardF (.ref a) (c, default)) = false := by
    rw [List.any_eq_false]
    intro c hcm
    rw [tupGuardF_of_clear hca c hcm]
    exact Bool.false_ne_true
  rw [hn]
  refine wpOwn_of_wpAny ?_
  show wpAny _ _ (tupleReprRest base (.ref a)) _ _ s
  unfold tupleReprRest Builtin.Tuple.tupleItemsOf
  refine wpAny_bind (wpAny_bind (wpAny_seqItems ho hd (wpAny_pure ?_)))
  rw [← Array.forIn_toList]
  refine wpAny_bind (wpAny_mono (E := X.xe) (tup_fold (n0 := hgts ds) (guards_under_guard hcg hg) (room_under (n := k + 2 + 2 * hgts ds) (hr.mono (by omega)) hcw hcu) hA hT (Nat.le_refl _) _ _ #[] base s H w (fun r s' => r = ⟨#[] ++ ts.toArray, base + piled ts⟩ ∧ ∃ H' w', Le w w' ∧ Inv X pins σ H' s' ∧ At g w' ρ S σ H') rv rr (GS.cons (hgs.mono (Le.refl w) (by omega)) (.tup hh rr) hb (by omega)) I At0 (by omega) fun s' H' w' l' I' A' => ⟨rfl, H', w', l', I', A'⟩) (fun r s' hx => ?_) fun e s' he => hE e s' he)
  obtain ⟨rfl, H', w', l', I', A'⟩ := hx
  refine wpAny_bind (wpAny_mkStr (wpAny_pure ?_) (by simpa [tupleText, hlen] using hsz0))
  have h1 := hR { s' with toks := s'.toks + 1 } H' w' s'.toks l' (I'.tok _) A'
  simpa [tupleText, hlen] using h1
theorem runok_tup {S : Store} {k : Nat} (hK : g.K = X.K) {ds : List D} {ts : List Str} (hT : RunOks g X S k ds ts) (hb : shbs ds = true) : RunOk g X S k (.tup ds) (tupleText ts) := by
  intro base A0 gs pins s σ H w ρ v u Q hsz hg hgs hr hA I At0 ra ru hQ
  have hh2 : hgt (.tup ds) = hgts ds + 1 := rfl
  rw [hh2] at hr
  cases id ra with
  | tup hh rr =>
  rename_i a vs
  obtain rfl : u = .ref a := ru
  obtain ⟨its, rv, ⟨o, ho, hc, n, hd⟩, _⟩ := I.tuple (hK ▸ At0.t hh)
  have hun : A0.units + 200 < cLine := by have := hr.un; omega
  refine wpAny_pyReprUnder_ref (by omega) ?_
  refine wpAny_pyReprObjUnder_twin (twin := "tuple.__repr__.under") ⟨o, ho, hc⟩ F.slot_tuple_repr rfl (by omega) ?_
  refine call_twin_own (F.quiet_tuple_repr_under _) F.entry_tuple_repr_under F.check_tuple_repr_under ⟨o, ho, hc⟩ F.slot_tuple_repr (F.args_tuple_repr_1 _) ?_
  exact tup_run (R := callEnd _ _) hK hT hb (isGuard_tuple_repr_under _) (units_under_tuple_repr_under _ _) (weight_tup _) hsz hg hgs (hr.mono (by omega)) hA I At0 ra (fun e s' h => h) (fun s' H' w' u l' I' A' => ⟨⟨_, _, rfl⟩, _, _, rfl, hQ s' H' w' l' I' A'⟩)
theorem runok_is {S : Store} {k : Nat} {d : D} {t : Str} (h : ∀ (w : Wd) (v : V) (u : Value), Rep g w v d → RelV v u → ReprIs X.prog X.w u t) : RunOk g X S k d t := by
  intro base A0 gs pins s σ H w ρ v u Q hsz hg hgs hr hA I At0 ra ru hQ
  exact h w v u ra ru base hsz A0 X.xe s Q fun tk => hQ _ H w (Le.refl w) (I.tok _) At0
theorem runok_obj {S : Store} {k c : Nat} {C : Ct} (hK : g.K = X.K) (F : OwnQ X.prog X.w X.mg X.base g k c "__repr__" 1 C) (tk : Takes X W) {es : List D} {t : Str} (h : ∀ (K : KD) (ex : KX), K (.str t) S → C [.obj c es] S K ex) : RunOk g X S k (.obj c es) t := by
  intro base A0 gs pins s σ H w ρ v u Q hsz hg hgs hr hA I At0 ra ru hQ
  obtain ⟨p, ox, od, rfl, rfl, J⟩ := inst_of (c := c) (ds := es) I At0 ra (by unfold insOf; simp) ru
  obtain ⟨fn, h1, h2, Fn⟩ := F.ex
  rw [hK] at h1 h2 Fn
  have hun : A0.units + 200 < cLine := by have := hr.un; omega
  refine wpAny_pyReprUnder_ref (by omega) (reprU_K (by omega) I.kIn J h1 h2 ?_)
  have e0 : Env0 X.prog X.w X.K X.mg X.base A0 X.stack s H := ⟨hA, I.env0.mod, I.env0.bs, I.env0.bsz, I.env0.funs, I.env0.frf, I.env0.hok, I.env0.bare⟩
  refine wpAny_mono (wpAny_call (run_ctQ (W := W) (us := [.ref p]) (vs := [.ref p]) (K := fun d S' => d = .str t ∧ S' = S) (ex := fun _ _ => False) (Q := fun v H' => v = .str t ∧ ∃ w', Le w w' ∧ At g w' ρ S σ H') Fn (hr.mono (by omega)) e0 tk I (.cons rfl .nil) At0 (.one ra) rfl (fun _ _ z => z.elim) (fun d S' ⟨e1, e2⟩ v w' H' l' A' r' => ?_) (h _ _ ⟨rfl, rfl⟩))) (fun r s' hb => ?_) fun _ _ y => y
  · subst e1; subst e2
    exact ⟨rep_str r', w', l', A'⟩
  · obtain ⟨v, H', I', rv, rfl, w', l', A'⟩ := hb
    obtain ⟨tt, rfl⟩ := rv
    exact ⟨_, _, rfl, _, _, rfl, hQ s' H' w' l' I' A'⟩
theorem runok_dic {S : Store} {k : Nat} {kvs : List (Int × Int)} (hK : g.K = X.K) (hs : (PyData.dict (kvs.map fun p => (PyData.int p.1, PyData.int p.2))).showable = true) (hdp : (PyData.dict (kvs.map fun p => (PyData.int p.1, PyData.int p.2))).depth ≤ 1) : RunOk g X S k (.dic kvs) (PyData.dict (kvs.map fun p => (PyData.int p.1, PyData.int p.2))).shown := by
  intro base A0 gs pins s σ H w ρ v u Q hsz hg hgs hr hA I At0 ra ru hQ
  have hsh := hsz
  have hcl := fun (a : Addr) (rx : Rep g w (.ref a) (.dic kvs)) => hgs.clear hK I At0 rx rfl
  have hun : A0.units + 200 < cLine := by have := hr.un; omega
  cases id ra with
  | @dic a _ hi =>
    obtain rfl : u = Value.ref a := ru
    have hx : ObjOk X.prog X.w H s.heap a (.dK (kvs.map fun p => ((Sum.inl p.1 : Key), V.int p.2))) := I.hok a _ (At0.ih _ _ hi)
    obtain ⟨_, hsys, vs, kv, o, es, ep, ho, ex, hd, _, pr, _⟩ := hx
    obtain ⟨r1, r2⟩ := pairs_reads (h := s.heap) kv pr
    obtain ⟨e1, e2⟩ := kv_split kvs
    simp only [PyData.shown] at hsz hQ ⊢
    obtain ⟨hs1, hs2⟩ := PyData.showableKv_split _ (by simpa [PyData.showable] using hs)
    have sh : ∀ (f : Int × Int → Int) (l : List (Int × Int)), PyData.showableAll (l.map fun p => PyData.int (f p)) = true → ∀ {vs : List Value} {as : List Addr}, ReadsAll s.heap vs (l.map fun p => PyData.int (f p)) as → ReprAllK X.prog X.w [] s.heap 0 vs (PyData.shownAll (l.map fun p => PyData.int (f p))) := by
      intro f l
      induction l with
      | nil => intro _ vs as r; cases r; exact .nil
      | cons p l ih =>
        intro hs vs as r
        obtain ⟨h1, h2⟩ := Bool.and_eq_true_iff.mp (show ((PyData.int (f p)).showable && PyData.showableAll (l.map fun p => PyData.int (f p))) = true from hs)
        cases r with
        | cons ra rr =>
          cases ra with
          | int i t => exact .cons (ReprK.of_is (ReprIs.int t (of_decide_eq_true h1)) _ _ _) (ih h2 rr)
    have k1 := sh (·.1) kvs (by rw [e1] at hs1; exact hs1) r1
    have k2 := sh (·.2) kvs (by rw [e2] at hs2; exact hs2) r2
    have hE := ReprEntriesK.of_two es.toList _ _ k1 k2
    refine wpAny_pyReprUnder_ref (by omega) ?_
    have et : PyData.shownKv (kvs.map fun p => (PyData.int p.1, PyData.int p.2)) = List.zipWith (fun k v : Str => k ++ ": " ++ v) (PyData.shownAll (kvs.map fun p => PyData.int p.1)) (PyData.shownAll (kvs.map fun p => PyData.int p.2)) := by
      rw [PyData.shownKv_eq, e1, e2]
    rw [et] at hsz hQ
    exact wpAny_pyReprObjUnder_dictK (es := es) ho ex.1 hd hsys (List.not_mem_nil) hE hg (fun b hb => by
      rw [List.mem_singleton.mp hb]; exact hcl a ra) (by omega) (fun _ _ z => z) (fun h' u tk hk => ⟨_, _, rfl, hQ _ H w (Le.refl w) (I.kept hk) At0⟩) hsz
mutual
theorem txt_ok {S : Store} {k c : Nat} {C : Ct} (hK : g.K = X.K) (F : OwnQ X.prog X.w X.mg X.base g k c "__repr__" 1 C) (tk : Takes X W) : ∀ {d : D} {t : Str}, Txt c C S d t → t.length ≤ sizeLine → RunOk g X S k d t
  | _, _, .non, _ => runok_is fun w v u r ru => by cases r; cases ru; exact ReprIs.none
  | _, _, .bl b, _ => runok_is fun w v u r ru => by cases r; cases ru; exact ReprIs.bool b
  | _, _, .int i h, _ => runok_is fun w v u r ru => by cases r; obtain ⟨t, rfl⟩ := ru; exact ReprIs.int t h
  | _, _, .dic kvs h hd, _ => runok_dic hK h hd
  | _, _, .str x, hz => runok_is fun w v u r ru => by cases r; obtain ⟨t, rfl⟩ := ru; exact ReprIs.str x t hz
  | _, _, .obj es t h, _ => runok_obj hK F tk h
  | _, _, .lst (ts := ts) h, hz => runok_lst hK (txts_ok hK F tk h fun t ht => Nat.le_trans (listText_mem_le ht) hz) h.shbs
  | _, _, .tup (ts := ts) h, hz => runok_tup hK (txts_ok hK F tk h fun t ht => Nat.le_trans (tupleText_mem_le ht) hz) h.shbs
theorem txts_ok {S : Store} {k c : Nat} {C : Ct} (hK : g.K = X.K) (F : OwnQ X.prog X.w X.mg X.base g k c "__repr__" 1 C) (tk : Takes X W) : ∀ {ds : List D} {ts : List Str}, Txts c C S ds ts → (∀ t ∈ ts, t.length ≤ sizeLine) → RunOks g X S k ds ts
  | _, _, .nil, _ => .nil
  | _, _, .cons h r, hz => .cons (txt_ok hK F tk h (hz _ List.mem_cons_self)) (txts_ok hK F tk r fun t ht => hz t (List.mem_cons_of_mem _ ht))
end
end
end R3

/-! R3cd: repr(x) of lists and tuples that hold instances. -/
namespace R3
open PySem PySem.Spec PyProof.Rows L2
section
variable {g : Sg} {X : Cx} {W : WX} {e : Expr} {pos : Pos} {fr : FA}
def reprN (c : Nat) (C : Ct) (K : KD) (ds : List D) (S : Store) : Prop := ∃ d t, ds = [d] ∧ Txt c C S d t ∧ t.length ≤ 1000000 ∧ hgt d ≤ 8 ∧ K (.str t) S
def wReprN (c : Nat) (C : Ct) (f : FA) (ρ : List Sl) (S : Store) (K : KD) (ex : KX) : Prop := f ρ S (reprN c C K) ex
theorem ereprN {k j c : Nat} {C : Ct} {p : Pos} (F : OwnQ X.prog X.w X.mg X.base g k c "__repr__" 1 C) (hK : g.K = X.K) (hr : Room j X.A) (hk : k + 20 ≤ j) (tk : Takes X W) (hg : Gl X "repr") (hm : X.mg "repr" = none) (ha : EA g X W [e] fr)
    (hs : starEach [e] X.env = (false, eval e X.env) :: starEach [] X.env := by rfl) (hpl : (backTo pos (starEach [] X.env)).any (·.1) = false := by rfl) : EV g X W (.Call (.Name "repr" p) [e] [] pos) (wReprN c C fr) := by
  refine ⟨fun pins s σ H Q I h => ?_⟩
  obtain ⟨w, ρ, S, K, ex, A, xo, ko, q⟩ := h
  refine wpAny_Call_Name_kw (ld_blt I hg hm boot_repr ?_ (by decide) (by decide))
  refine PyProof.Rows.callWith_builtin1 (thn (rdA_run ha pos I A xo q) fun us s1 ⟨vs, H1, w1, ds, S1, I1, rv, l1, A1, r1, q1⟩ => ?_) hs hpl
  obtain ⟨d, t, rfl, ht, hz, hh, kz⟩ := q1
  obtain ⟨v, rfl, rx⟩ := r1.inv1
  obtain ⟨u, rfl, ru⟩ := vals1 rv
  have hz' : t.length ≤ sizeLine := Nat.le_trans hz (by decide)
  have hun := hr.units
  have hgd : X.A.in1.guards = some [] := hr.gd
  have hA : X.A.in1.frames = some X.stack := I1.ok.frames
  have g0 : ∀ n, GS g w1 [] n := fun n id v rest kw hc => nomatch hc
  have fin : ∀ s' H' w' u, Le w1 w' → Inv X pins σ H' s' → At g w' ρ S1 σ H' → EP X pins σ Q (.str t u) s' := fun s' H' w' u l' I' A' => ⟨.str _, H', I', ⟨u, rfl⟩, ko _ _ kz _ w' H' (l1.trans l') A' (.str _)⟩
  have hr1 : ∀ n, n ≤ k + 19 → L2.Room n X.A.in1 := fun n hn => (L2.Room.in1 (hr.toRoom.mono (j := k + 19 + 1) (by omega))).mono hn
  cases id ht with
  | non => exact crepr hK hr.units hr.gd pins s1 σ H1 w1 ρ S1 _ _ _ K Q I1 rv A1 r1 (ko.later l1) ⟨⟨_, rfl, rfl, by decide, Nat.le_trans hz (by decide)⟩, kz⟩
  | bl b => exact crepr hK hr.units hr.gd pins s1 σ H1 w1 ρ S1 _ _ _ K Q I1 rv A1 r1 (ko.later l1) ⟨⟨_, rfl, rfl, Nat.zero_le _, hz⟩, kz⟩
  | int i hi => exact crepr hK hr.units hr.gd pins s1 σ H1 w1 ρ S1 _ _ _ K Q I1 rv A1 r1 (ko.later l1) ⟨⟨_, rfl, decide_eq_true hi, Nat.zero_le _, hz⟩, kz⟩
  | str x => exact crepr hK hr.units hr.gd pins s1 σ H1 w1 ρ S1 _ _ _ K Q I1 rv A1 r1 (ko.later l1) ⟨⟨_, rfl, rfl, Nat.zero_le _, hz⟩, kz⟩
  | dic kvs h1 h2 => exact crepr hK hr.units hr.gd pins s1 σ H1 w1 ρ S1 _ _ _ K Q I1 rv A1 r1 (ko.later l1) ⟨⟨_, rfl, h1, Nat.le_trans h2 (by decide), hz⟩, kz⟩
  | obj es _ h =>
    obtain ⟨p, ox, od, rfl, rfl, J⟩ := inst_of (c := c) (ds := es) I1 A1 rx (by unfold insOf; simp) ru
    obtain ⟨m, hF⟩ := I1.fr
    obtain ⟨fn, h1, h2, Fn⟩ := F.ex
    rw [hK] at h1 h2 Fn
    refine PySem.W.repr_K (by show X.A.units + 1 < cLine; omega) hF I1.ok.mod.kin J h1 h2 ?_
    refine wpAny_mono (wpAny_call (run_ctQ (W := W) (us := [.ref p]) (vs := [.ref p]) (K := fun d S' => d = .str t ∧ S' = S1) (ex := fun _ _ => False) (Q := fun v H' => v = .str t ∧ ∃ w', Le w1 w' ∧ At g w' ρ S1 σ H') Fn (hr1 _ (by omega)) I1.env0.in1 tk I1 (.cons rfl .nil) A1 (.one rx) rfl (fun _ _ z => z.elim) (fun d S' ⟨e1, e2⟩ v w' H' l' A' r' => ?_) (h _ _ ⟨rfl, rfl⟩))) (fun r s' hb => ?_) fun _ _ y => y
    · subst e1; subst e2
      exact ⟨rep_str r', w', l', A'⟩
    · obtain ⟨v, H', I', rv, rfl, w', l', A'⟩ := hb
      obtain ⟨tt, rfl⟩ := rv
      exact fin s' H' w' tt l' I' A'
  | @lst ds ts h =>
    have hT := txts_ok (g := g) (W := W) hK F tk h fun t ht => Nat.le_trans (listText_mem_le ht) hz'
    have hh' : hgts ds + 1 ≤ 8 := hh
    cases id rx with
    | @lst a vs _ hx rr =>
    obtain rfl : u = .ref a := ru
    obtain ⟨its, rvi, ⟨o, n, ho, hc, _, hd⟩, _⟩ := I1.list (SqL.of (A1.ih _ _ hx))
    refine call_repr_slot (by omega) ⟨o, ho, hc⟩ PySem.F.slot_list_repr.toG ?_
    by_cases hne : ds = []
    · subst hne
      cases hT
      have hil : its.length = 0 := by rw [vals_len rvi, ← reps_len rr]; rfl
      cases its with
      | cons x l => cases hil
      | nil =>
      exact call_list_repr_empty ⟨o, ho, hc⟩ ho hd ⟨_, _, rfl, by have := fin { s1 with toks := s1.toks + 1 } H1 w1 s1.toks (Le.refl w1) (I1.tok _) A1; rw [listText_nil] at this; exact this⟩
    · exact wpAny_call (codeAny_call_builtin PySem.F.slot_list_repr.plain PySem.F.entry_list_repr (PySem.F.slot_list_repr.check _ _ _ _ _ _ _ _ ⟨o, ho, hc⟩ (PySem.F.args_list_repr_1 _)
        (lst_run (R := callEnd _ _) (base := 0) hK hT h.shbs (by omega) hgd (g0 _) (hr1 _ (by omega)) hA I1 A1 rx (fun e s' h => h) (fun s' H' w' u l' I' A' => ⟨_, _, rfl, fin s' H' w' u l' I' A'⟩) hne)))
  | @tup ds ts h =>
    have hT := txts_ok (g := g) (W := W) hK F tk h fun t ht => Nat.le_trans (tupleText_mem_le ht) hz'
    have hh' : hgts ds + 1 ≤ 8 := hh
    cases id rx with
    | @tup a vs _ hx rr =>
    obtain rfl : u = .ref a := ru
    obtain ⟨its, rvi, ⟨o, ho, hc, n, hd⟩, _⟩ := I1.tuple (hK ▸ A1.t hx)
    refine call_repr_slot (by omega) ⟨o, ho, hc⟩ PySem.F.slot_tuple_repr ?_
    exact wpAny_call (codeAny_call_builtin_own (Code.quiet_builtin _ (by decide +kernel)) PySem.F.entry_tuple_repr (PySem.F.slot_tuple_repr.check _ _ _ _ _ _ _ _ ⟨o, ho, hc⟩ (PySem.F.args_tuple_repr_1 _)
      (tup_run (R := callEnd _ _) (base := 0) hK hT h.shbs (isGuard_tuple_repr _) (units_under_tuple_repr _ _) (weight_tup0 _) (by omega) hgd (g0 _) (hr1 _ (by omega)) hA I1 A1 rx (fun e s' h => h) (fun s' H' w' u l' I' A' => ⟨_, _, rfl, fin s' H' w' u l' I' A'⟩))))
end
end R3

/-! R3ce: instances that join the store: made, their fields read and stored; new lists that join it; methods that give new lists. -/
namespace R3
open PySem PySem.Spec PyProof.Rows L2
section
variable {P : Program} {w : World} {mg : Str → Option Value} {base : Heap}
/-- C(..), the instance an object of the store: the promise of its __init__ -/
structure MakS (P : Program) (w : World) (mg : Str → Option Value) (base : Heap) (g : Sg) (k : Nat) (x : Str) (c n : Nat) (C : Ct) : Prop where
  ex : ∃ f, mg x = some (.ref (g.ad c)) ∧ Mk g.K (g.ad c) f ∧ FnR P w g.K mg base (L2.CX P w) k f (spOf g (n + 1) C)
structure MakSK (P : Program) (w : World) (mg : Str → Option Value) (base : Heap) (g : Sg) (k : Nat) (x : Str) (c : Nat) (ks : List Str) (C : Ct) : Prop where
  ex : ∃ f, mg x = some (.ref (g.ad c)) ∧ Mk g.K (g.ad c) f ∧ FnK P w g.K mg base (L2.CX P w) k f 1 ks (spOf g (1 + ks.length) C)
end
def makS (c : Nat) (C : Ct) (ds : List D) (S : Store) (K : KD) (ex : KX) : Prop := ∀ x, C (.ref S.length :: ds) (S ++ [some (.new c x [])]) (fun d S' => d = .non ∧ K (.ref S.length) S') ex
section
variable {g : Sg} {X : Cx} {W : WX} {a b e o : Expr} {pos apos : Pos} {fa fb fe fo : FE} {es : List Expr} {fr fk : FA} {kws : List Keyword} {st : Stmt}
/-- the new instance, in the store -/
theorem made_join {c : Nat} {pins : List (Addr × Obj)} {s : Shared} {σ : L2.St} {H : Hp} {w : Wd} {ρ : List Sl} {S : Store} (I : Inv X pins σ H s) (A : At g w ρ S σ H) :
    ∃ w2, Le w w2 ∧ At g w2 ρ (S ++ [some (.new c (s.heap.objs.size + 1) [])]) σ (upd (upd H s.heap.objs.size (.own (s.heap.objs.size + 1))) (s.heap.objs.size + 1) (.ins (g.ad c) s.heap.objs.size [])) ∧ Rep g w2 (.ref (s.heap.objs.size + 1)) (.ref S.length) := by
  have hx : H (s.heap.objs.size + 1) = none := I.hok.fresh (Nat.le_succ _)
  have hdx : H s.heap.objs.size = none := I.hok.fresh (Nat.le_refl _)
  have ne : s.heap.objs.size + 1 ≠ s.heap.objs.size := Nat.succ_ne_self _
  have hx1 : upd H s.heap.objs.size (.own (s.heap.objs.size + 1)) (s.heap.objs.size + 1) = none := by rw [upd_ne ne]; exact hx
  have A2 : At g w ρ S σ (upd (upd H s.heap.objs.size (.own (s.heap.objs.size + 1))) (s.heap.objs.size + 1) (.ins (g.ad c) s.heap.objs.size [])) := (A.grow (same_new hdx)).grow (same_new hx1)
  have fx : Fresh w ρ S σ (s.heap.objs.size + 1) := fresh_new A hx
  obtain ⟨w2, l2, hφ, hn, A3⟩ := A2.join (o := .new c (s.heap.objs.size + 1) []) ⟨rfl, s.heap.objs.size, [], upd_same, .nil⟩ fx
  refine ⟨w2, l2, A3, ?_⟩
  have r : Rep g w2 (.ref (w2.φ S.length)) (.ref S.length) := .ref (by rw [hn]; exact Nat.lt_succ_self _)
  rwa [hφ] at r
theorem run_mkS {k c n : Nat} {C : Ct} {fn : Addr} {pins : List (Addr × Obj)} {s : Shared} {σ : L2.St} {H : Hp} {w : Wd} {ρ : List Sl} {S : Store} {ds : List D} {vs : List V} {us : List Value} {K : KD} {ex : KX} {Q : VK}
    (M : Mk X.K (g.ad c) fn) (F : FnR X.prog X.w X.K X.mg X.base (L2.CX X.prog X.w) k fn (spOf g (n + 1) C)) (hr : Room (k + 1) X.A) (tk : Takes X W) (I : Inv X pins σ H s) (rv : Vals vs us) (A : At g w ρ S σ H) (rr : Reps g w vs ds) (hn : ds.length = n)
    (xo : XOk g W σ ρ w ex) (ko : KOk g w ρ σ K Q) (q : makS c C ds S K ex) : wpAny (model X.prog X.w) X.A (call (.ref (g.ad c)) us) (EP X pins σ Q) X.xe s := by
  have I2 := Inv.made (C := g.ad c) I
  obtain ⟨w2, l2, A2, r2⟩ := made_join (c := c) I A
  refine wpAny_call (make_map (f := fn) I.kIn M.makes M.init (beq_iff_eq.mp M.fn) (codeAny_mono (F _ X.stack _ _ (Value.ref (s.heap.objs.size + 1) :: us) (V.ref (s.heap.objs.size + 1) :: vs) (fun v H2 => v = .non ∧ Q (.ref (s.heap.objs.size + 1)) H2) (WE W σ) (hr.make (g.ad c) us [])
    (I2.env0.make (g.ad c) us []) (.cons rfl rv) ?_) fun r s' hq' => ?_))
  · refine ⟨_, .ref S.length :: ds, _, _, ex, by rw [List.length_cons, hn], A2.enter, reps_inner (.cons r2 (rr.mono l2.s)), fun d S' kk v w' H' l A' r' => ?_, fun y S' ey w' H' cls dd l A' ry => ?_, q _⟩
    · obtain ⟨rfl, kk⟩ := kk
      obtain ⟨l3, A3⟩ := A2.leave l A'
      exact ⟨rep_non r', ko _ S' kk _ _ H' (l2.trans l3) A3 (r2.mono l3.s)⟩
    · obtain ⟨l3, A3⟩ := A2.leave l A'
      obtain ⟨h1, a, vs, h2, h3, h4, h5⟩ := ry
      exact xo y S' ey _ H' cls dd (l2.trans l3) A3 ⟨h1, a, vs, h2, h3, h4, h5.mono sub_outer⟩
  · cases r with
    | error e => exact passAt tk σ pins _ _ e s' I2 hq'
    | ok fl =>
      cases fl with
      | ret u =>
        obtain ⟨v, H', I3, rv, ev, q3⟩ := I2.after hq'
        subst ev
        exact ⟨rv, ⟨V.ref (s.heap.objs.size + 1), H', I3, rfl, q3⟩⟩
      | next => exact False.elim hq'
      | brk => exact False.elim hq'
      | cont => exact False.elim hq'
def wMakeS (c n : Nat) (C : Ct) (f : FA) (ρ : List Sl) (S : Store) (K : KD) (ex : KX) : Prop := f ρ S (fun ds S1 => ds.length = n ∧ makS c C ds S1 K ex) ex
theorem emakeS {x : Str} {k j c n : Nat} {C : Ct} {p : Pos} (F : MakS X.prog X.w X.mg X.base g k x c n C) (hK : g.K = X.K) (hr : Room j X.A) (hk : k + 1 ≤ j) (tk : Takes X W) (hg : Gl X x) (ha : EA g X W (e :: es) fr) (hdb : (x == ("__debug__" : Str)) = false := by decide)
    (he : starEach (e :: es) X.env = (false, eval e X.env) :: starEach es X.env := by rfl) (hpl : (backTo pos (starEach es X.env)).any (·.1) = false := by rfl) : EV g X W (.Call (.Name x p) (e :: es) [] pos) (wMakeS c n C fr) := by
  refine ⟨fun pins s σ H Q I h => ?_⟩
  obtain ⟨w, ρ, S, K, ex, A, xo, ko, q⟩ := h
  obtain ⟨fn, hm, M, F⟩ := F.ex
  rw [hK] at M F
  refine wpAny_Call_Name_kw (ld_glob I hg hm ?_ hdb)
  refine PySem.W.callWith_K (h₀ := X.base) I.ok.mod.kin M.kp (thn (rdA_run ha pos I A xo q) fun us s1 ⟨vs, H1, w1, ds, S1, I1, rv, l1, A1, r1, hn, q1⟩ => ⟨I1.kIn, ?_⟩) he hpl
  exact run_mkS M F (hr.mono hk) tk I1 rv A1 r1 hn (xo.later l1) (ko.later l1) q1
/-- a new list joins the store -/
def wJn (f : FA) (ρ : List Sl) (S : Store) (K : KD) (ex : KX) : Prop := f ρ S (fun ds S' => K (.ref S'.length) (S' ++ [some (.lst ds)])) ex
theorem ejn (he : EL g X W e fr) : EV g X W e (wJn fr) :=
  PE.imp he fun σ H Q ⟨w, ρ, S, K, ex, A, xo, ko, q⟩ => ⟨w, ρ, S, _, ex, A, xo, fun ds S' k a vs w' H' l A' e1 f1 r1 => by
    obtain ⟨w2, l2, hφ, hn, A2⟩ := A'.join (o := .lst ds) ⟨vs, e1, r1⟩ f1
    have r : Rep g w2 (.ref (w2.φ S'.length)) (.ref S'.length) := .ref (by rw [hn]; exact Nat.lt_succ_self _)
    rw [hφ] at r
    exact ko _ _ k _ w2 H' (l.trans l2) A2 r, q⟩
/-! ### o.m(..) gives a new list -/
def wMethL (c n : Nat) (C : CtL) (fo : FE) (f : FA) (ρ : List Sl) (S : Store) (K : List D → Store → Prop) (ex : KX) : Prop := fo ρ S (fun x S1 => (∃ ds, insOf c S1 x = some ds) ∧ f ρ S1 (fun ds S2 => (x :: ds).length = n ∧ C (x :: ds) S2 K ex) ex) ex
theorem emethL {m : Str} {k j c n : Nat} {C : CtL} {pl : Sem Bool} (ho : EV g X W o fo) (F : MetL X.prog X.w X.mg X.base g k c m n C) (hK : g.K = X.K) (hc : Cls g.K (g.ad c)) (hm : m ∉ g.fl c) (hr : Room j X.A) (hk : k ≤ j) (tk : Takes X W) (ha : EA g X W (e :: es) fr)
    (hst : starEach (e :: es) X.env = (false, eval e X.env) :: starEach es X.env := by rfl) (hpl : (backTo pos (starEach es X.env)).any (·.1) = false := by rfl)
    (ht : eval (.Call (.Attribute o m apos) (e :: es) [] pos) X.env = (do
      let ov ← eval o X.env
      standAt apos.atName
      let (f, first) ← holding [ov] (getMethod ov m pl)
      callWith pos f first (backTo pos (starEach (e :: es) X.env)) (backToKw pos (keywordEach [] X.env))) := by rfl) : EL g X W (.Call (.Attribute o m apos) (e :: es) [] pos) (wMethL c n C fo fr) := by
  refine ⟨fun pins s σ H Q I h => ?_⟩
  obtain ⟨w, ρ, S, K, ex, A, xo, ko, q⟩ := h
  obtain ⟨fn, hme, F⟩ := F.ex
  rw [hK] at hme F hc
  refine PySem.W.methodCall_KW (pl := pl) (thn (ho.run pins s σ H (fun v H1 => ∃ x w1 S1, Le w w1 ∧ At g w1 ρ S1 σ H1 ∧ Rep g w1 v x ∧ (∃ ds, insOf c S1 x = some ds) ∧ fr ρ S1 (fun ds S2 => (x :: ds).length = n ∧ C (x :: ds) S2 K ex) ex) I
    ⟨w, ρ, S, _, ex, A, xo, fun x S1 q1 v w1 H1 l1 A1 r1 => ⟨x, w1, S1, l1, A1, r1, q1⟩, q⟩) fun u s1 hh => ?_) ht
  obtain ⟨v, H1, I1, ru, x, w1, S1, l1, A1, r1, ⟨ds, hi⟩, q1⟩ := hh
  obtain ⟨a, dx, vs, rfl, e1, hl, rr⟩ := ins_at A1 r1 hi
  obtain rfl : u = Value.ref a := ru
  refine getmeth_ok I1 e1 hc hme (lookup_zip_none hm) ?_
  refine PySem.W.callWith_K (first := [.ref a]) (h₀ := X.base) I.ok.mod.kin hme.kp (thn (rdA_run ha pos I1 A1 (xo.later l1) q1) fun us s2 ⟨ws, H2, w2, es2, S2, I2, rv, l2, A2, r2, hn, q2⟩ => ⟨I2.kIn, ?_⟩) hst hpl
  exact wpAny_call (run_ctL (us := .ref a :: us) (vs := .ref a :: ws) F (hr.mono hk) I2.env0 tk I2 (.cons rfl rv) A2 (.cons (r1.mono l2.s) r2) hn (xo.later (l1.trans l2)) (ko.later (l1.trans l2)) q2)
def wMethL0 (c : Nat) (C : CtL) (fo : FE) (ρ : List Sl) (S : Store) (K : List D → Store → Prop) (ex : KX) : Prop := fo ρ S (fun x S1 => (∃ ds, insOf c S1 x = some ds) ∧ C [x] S1 K ex) ex
theorem emethL0 {m : Str} {k j c : Nat} {C : CtL} {pl : Sem Bool} (ho : EV g X W o fo) (F : MetL X.prog X.w X.mg X.base g k c m 1 C) (hK : g.K = X.K) (hc : Cls g.K (g.ad c)) (hm : m ∉ g.fl c) (hr : Room j X.A) (hk : k ≤ j) (tk : Takes X W)
    (ht : eval (.Call (.Attribute o m apos) [] [] pos) X.env = (do
      let ov ← eval o X.env
      standAt apos.atName
      let (f, first) ← holding [ov] (getMethod ov m pl)
      callWith pos f first (backTo pos (starEach [] X.env)) (backToKw pos (keywordEach [] X.env))) := by rfl) : EL g X W (.Call (.Attribute o m apos) [] [] pos) (wMethL0 c C fo) := by
  refine ⟨fun pins s σ H Q I h => ?_⟩
  obtain ⟨w, ρ, S, K, ex, A, xo, ko, q⟩ := h
  obtain ⟨fn, hme, F⟩ := F.ex
  rw [hK] at hme F hc
  refine PySem.W.methodCall_KW (pl := pl) (thn (ho.run pins s σ H (fun v H1 => ∃ x w1 S1, Le w w1 ∧ At g w1 ρ S1 σ H1 ∧ Rep g w1 v x ∧ (∃ ds, insOf c S1 x = some ds) ∧ C [x] S1 K ex) I
    ⟨w, ρ, S, _, ex, A, xo, fun x S1 q1 v w1 H1 l1 A1 r1 => ⟨x, w1, S1, l1, A1, r1, q1⟩, q⟩) fun u s1 hh => ?_) ht
  obtain ⟨v, H1, I1, ru, x, w1, S1, l1, A1, r1, ⟨ds, hi⟩, q1⟩ := hh
  obtain ⟨a, dx, vs, rfl, e1, hl, rr⟩ := ins_at A1 r1 hi
  obtain rfl : u = Value.ref a := ru
  refine getmeth_ok I1 e1 hc hme (lookup_zip_none hm) ?_
  exact PySem.W.callWith_K0 (first := [.ref a]) I1.kIn hme.kp (wpAny_call (run_ctL (us := [.ref a]) (vs := [.ref a]) F (hr.mono hk) I1.env0 tk I1 (.cons rfl .nil) A1 (.one r1) rfl (xo.later l1) (ko.later l1) q1))
/-! ### fields of an instance that is being made in the store -/
theorem Flds.got {w : Wd} {f : Str} : ∀ {vs : List (Str × V)} {ds : List (Str × D)}, Flds g w vs ds → ∀ {d : D}, ds.lookup f = some d → ∃ v, vs.lookup f = some v ∧ Rep g w v d
  | _, _, .nil, _, h => by cases h
  | _, _, .cons (f := k) h r, d, e => by
    rw [List.lookup_cons] at e
    by_cases c : (f == k) = true
    · rw [c] at e
      cases e
      exact ⟨_, by rw [List.lookup_cons, c], h⟩
    · rw [Bool.not_eq_true] at c
      rw [c] at e
      obtain ⟨v, h1, h2⟩ := Flds.got r e
      exact ⟨v, by rw [List.lookup_cons, c]; exact h1, h2⟩
def wFldN (c : Nat) (f : Str) (fo : FE) (ρ : List Sl) (S : Store) (K : KD) (ex : KX) : Prop := fo ρ S (fun x S1 => ∃ k a fs, x = .ref k ∧ S1[k]? = some (some (.new c a fs)) ∧ ∃ d, fs.lookup f = some d ∧ K d S1) ex
theorem efldN {f : Str} {c : Nat} (ha : EV g X W a fa) (hK : g.K = X.K) (hc : Cls g.K (g.ad c)) (hn : NoAttr g.K (g.ad c) f) (hb : attributeBase a f X.env (eval a X.env) = eval a X.env := by rfl) : EV g X W (.Attribute a f pos) (wFldN c f fa) :=
  PE.imp (pe_fld ha hb) fun σ H Q ⟨w, ρ, S, K, ex, A, xo, ko, q⟩ => ⟨w, ρ, S, _, ex, A, xo, fun x S1 q1 v w1 H1 l1 A1 r1 => by
    obtain ⟨k, a0, fs, rfl, hs, d, hd, q1⟩ := q1
    obtain ⟨rfl, hk⟩ := rep_ref r1
    obtain ⟨h1, e0, dx, vs, e1, r2⟩ := A1.st k _ hs
    obtain ⟨u, h2, h3⟩ := r2.got hd
    exact ⟨_, _, dx, _, u, rfl, e1, by rw [← hK]; exact hc, by rw [← hK]; exact hn, h2, ko _ _ q1 _ w1 H1 l1 A1 h3⟩, q⟩
/-- o.f = e -/
def wSt (R : D → D → Store → (Store → Prop) → Prop) (fo fe : FE) (d : Fin) (ρ : List Sl) (S : Store) : Prop := fe ρ S (fun y S1 => fo ρ S1 (fun x S2 => R y x S2 (fun S3 => d.nx ρ S3)) (fun x S' => d.ex x ρ S')) (fun x S' => d.ex x ρ S')
/-- o is being made -/
def rStN (c : Nat) (f : Str) (y x : D) (S : Store) (K : Store → Prop) : Prop := ∃ k a fs, x = .ref k ∧ S[k]? = some (some (.new c a fs)) ∧ fs.length < 1000 ∧ K (S.set k (some (.new c a (putD f y fs))))
/-- .. its last field -/
def rStL (fl : Nat → List Str) (c : Nat) (f : Str) (y x : D) (S : Store) (K : Store → Prop) : Prop := ∃ k a fs, x = .ref k ∧ S[k]? = some (some (.new c a fs)) ∧ fs.length < 1000 ∧ (putD f y fs).map (·.1) = fl c ∧ K (S.set k (some (.ins c ((putD f y fs).map (·.2)))))
/-- an instance of the store; j: the field's place -/
def rStI (c j : Nat) (y x : D) (S : Store) (K : Store → Prop) : Prop := ∃ k ds, x = .ref k ∧ S[k]? = some (some (.ins c ds)) ∧ K (S.set k (some (.ins c (ds.set j y))))
/-- what a rule R writes -/
def WrOk (g : Sg) (c : Nat) (f : Str) (R : D → D → Store → (Store → Prop) → Prop) : Prop := ∀ y x S K, R y x S K → ∃ k o o', x = .ref k ∧ S[k]? = some (some o) ∧ K (S.set k (some o')) ∧
  ∀ (w : Wd) (H : Hp) (v : V) (a : Addr), Rep g w v y → ObjAt g w H a o → ∃ dx fs, H a = some (.ins (g.ad c) dx fs) ∧ fs.length < 1000 ∧ ObjAt g w (upd H a (.ins (g.ad c) dx (putF f v fs))) a o'
theorem sst {c : Nat} {f : Str} {R : D → D → Store → (Store → Prop) → Prop} (hK : g.K = X.K) (hc : Cls g.K (g.ad c)) (hn : NoAttr g.K (g.ad c) f) (hR : WrOk g c f R) (hp : PS X st (sFld X.K (rdE g W fo) (rdE g W fe) f)) : ES g X W st (wSt R fo fe) :=
  PS.imp hp fun D σ H ⟨w, ρ, S, d, A, eo, q⟩ => ⟨w, ρ, S, _, _, A, eo.xo, fun y S1 q1 v w1 H1 l1 A1 r1 => ⟨w1, ρ, S1, _, _, A1, (eo.later l1).xo, fun x S2 q2 v2 w2 H2 l2 A2 r2 => by
    obtain ⟨k, o, o', rfl, hs, q3, hw⟩ := hR _ _ _ _ q2
    obtain ⟨rfl, hk⟩ := rep_ref r2
    obtain ⟨h1, h2⟩ := A2.st k _ hs
    obtain ⟨dx, fs, e1, e2, e3⟩ := hw w2 H2 v _ (r1.mono l2.s) h2
    exact ⟨_, g.ad c, dx, fs, rfl, e1, by rw [← hK]; exact hc, by rw [← hK]; exact hn, e2, eo.nx _ _ q3 w2 σ _ (l1.trans l2) (A2.write hs e3)⟩, q1⟩, q⟩
theorem wr_new {c : Nat} {f : Str} : WrOk g c f (rStN c f) := fun y x S K ⟨k, a, fs, e, hs, hl, q⟩ => ⟨k, _, _, e, hs, q, fun w H v b r ⟨e0, dx, vs, h, rr⟩ => ⟨dx, vs, h, by rw [rr.length]; exact hl, e0, dx, _, upd_same, rr.put r⟩⟩
theorem flds_ins {w : Wd} {H : Hp} {c : Nat} {a dx : Addr} {vs : List (Str × V)} {fs : List (Str × D)} (h : H a = some (.ins (g.ad c) dx vs)) (r : Flds g w vs fs) (e : fs.map (·.1) = g.fl c) : ObjAt g w H a (.ins c (fs.map (·.2))) := by
  obtain ⟨us, e1, hl, rr⟩ := r.names
  refine ⟨dx, us, ?_, ?_, rr⟩
  · rw [h, e1, e]
  · rw [hl, ← e, List.length_map]
theorem wr_last {c : Nat} {f : Str} : WrOk g c f (rStL g.fl c f) := fun y x S K ⟨k, a, fs, e, hs, hl, hf, q⟩ => ⟨k, _, _, e, hs, q, fun w H v b r ⟨e0, dx, vs, h, rr⟩ => ⟨dx, vs, h, by rw [rr.length]; exact hl, flds_ins upd_same (rr.put r) hf⟩⟩
theorem putF_zip {f : Str} {v : V} : ∀ {ns : List Str} {vs : List V} {j : Nat}, ns.findIdx? (· == f) = some j → vs.length = ns.length → putF f v (ns.zip vs) = ns.zip (vs.set j v)
  | [], _, _, h, _ => by simp at h
  | n :: ns, [], _, _, h => by simp at h
  | n :: ns, u :: vs, j, h, hl => by
    rw [List.findIdx?_cons] at h
    rw [List.zip_cons_cons]
    by_cases c : (n == f) = true
    · rw [if_pos c] at h
      cases h
      rw [beq_iff_eq] at c
      subst c
      show (if n = n then (n, v) :: ns.zip vs else _) = _
      rw [if_pos rfl]
      rfl
    · rw [if_neg c] at h
      cases e : ns.findIdx? (· == f) with
      | none => rw [e] at h; cases h
      | some i =>
        rw [e] at h
        cases h
        have c' : ¬ n = f := fun z => c (beq_iff_eq.mpr z)
        show (if n = f then _ else (n, u) :: putF f v (ns.zip vs)) = _
        rw [if_neg c', putF_zip e (by simpa using hl)]
        rfl
theorem wr_ins {c j : Nat} {f : Str} (hj : (g.fl c).findIdx? (· == f) = some j) (hs : (g.fl c).length < 1000) : WrOk g c f (rStI c j) := fun y x S K ⟨k, ds, e, h, q⟩ => ⟨k, _, _, e, h, q, fun w H v b r ⟨dx, vs, h, hl, rr⟩ =>
  ⟨dx, _, h, by rw [List.length_zip, hl]; omega, dx, vs.set j v, by rw [upd_same, putF_zip hj hl], by rw [List.length_set, hl], rr.set r j⟩⟩
theorem mstN {c : Nat} {f : Str} {p : Pos} (hK : g.K = X.K) (hc : Cls g.K (g.ad c)) (hn : NoAttr g.K (g.ad c) f) (ho : EV g X W o fo) (he : EV g X W e fe) (hs : swapsWith e (some (.Attribute o f p)) pos.line X.env = pure false := by rfl) : ES g X W (.Assign [.Attribute o f p] e pos) (wSt (rStN c f) fo fe) :=
  sst hK hc hn wr_new (ps_fld ho he hs)
theorem mstL {c : Nat} {f : Str} {p : Pos} (hK : g.K = X.K) (hc : Cls g.K (g.ad c)) (hn : NoAttr g.K (g.ad c) f) (ho : EV g X W o fo) (he : EV g X W e fe) (hs : swapsWith e (some (.Attribute o f p)) pos.line X.env = pure false := by rfl) : ES g X W (.Assign [.Attribute o f p] e pos) (wSt (rStL g.fl c f) fo fe) :=
  sst hK hc hn wr_last (ps_fld ho he hs)
theorem mstI {c j : Nat} {f : Str} {p : Pos} (hK : g.K = X.K) (hc : Cls g.K (g.ad c)) (hn : NoAttr g.K (g.ad c) f) (hj : (g.fl c).findIdx? (· == f) = some j) (hf : (g.fl c).length < 1000) (ho : EV g X W o fo) (he : EV g X W e fe) (hs : swapsWith e (some (.Attribute o f p)) pos.line X.env = pure false := by rfl) : ES g X W (.Assign [.Attribute o f p] e pos) (wSt (rStI c j) fo fe) :=
  sst hK hc hn (wr_ins hj hf) (ps_fld ho he hs)
end
end R3

/-! R3cf: x in o, by o's own method. -/
namespace R3
open PySem PySem.Spec PyProof.Rows L2
section
variable {prog : Program} {w : World} {A : Around} {E : Value → Shared → Prop} {s : Shared} {K : Fr} {x C f : Addr} {v : Value} {ox : Obj} {od : Option Obj}
theorem contains_own {Q : Bool → Shared → Prop} (X : K.In s.heap) (I : PySem.W.InstAt s.heap x ox C od) (hs : PySem.W.findIn K (.ref C) "__contains__" = some (some (.ref f))) (hf : PySem.W.isFn K (.ref f) = true)
    (h : wpAny (model prog w) A (call (.ref f) [.ref x, v]) (fun r s' => ∃ b, r = .bool b ∧ Q b s') E s) : wpAny (model prog w) A (contains (.ref x) v) Q E s := by
  unfold contains
  refine wpAny_holding ?_
  refine wpAny_bind (wpAny_bind (I.type.here ((PySem.W.looks_findIn X hs).here ?_)))
  rw [if_neg (fun h => by have := eq_of_beq h; cases this)]
  refine wpAny_bind ?_
  show wpAny _ _ (callSpecialUnlessNone? (.ref x) (Str.ofString "__contains__") [v] _) _ E s
  unfold callSpecialUnlessNone?
  refine wpAny_bind (wpAny_bind (I.type.here ((PySem.W.looks_findIn X hs).here (wpAny_holding (wpAny_bind ((PySem.W.bind_fn X _ (beq_iff_eq.mp hf)).here ?_))))))
  show wpAny _ _ (if (Value.ref f == Value.none) = true then _ else _) _ E s
  rw [if_neg (fun h => by have := eq_of_beq h; cases this)]
  refine wpAny_bind (wpAny_mono h (fun r s' hr => ?_) fun _ _ y => y)
  obtain ⟨b, rfl, q⟩ := hr
  exact wpAny_pure (wpAny_truthy_bool q)
end
section
variable {g : Sg} {X : Cx} {W : WX}
def negB (neg b : Bool) : Bool := if neg then !b else b
def rInO (neg : Bool) (c : Nat) (C : Ct) (x y : D) (S : Store) (K : KD) (ex : KX) : Prop := (∃ ds, insOf c S y = some ds) ∧ C [y, x] S (fun d S' => ∃ b, d = .bl b ∧ K (.bl (negB neg b)) S') ex
theorem in_run {k j c : Nat} {C : Ct} (F : OwnN X.prog X.w X.mg X.base g k c "__contains__" 2 C) (hK : g.K = X.K) (hr : Room j X.A) (hk : k ≤ j) (tk : Takes X W) {neg : Bool} {pins : List (Addr × Obj)} {s : Shared} {σ : L2.St} {H : Hp} {w : Wd} {ρ : List Sl} {S : Store} {x y : D} {vx vy : V} {u v : Value} {K : KD} {ex : KX} {Q : VK}
    (I : Inv X pins σ H s) (ru : RelV vx u) (rv : RelV vy v) (A : At g w ρ S σ H) (rx : Rep g w vx x) (ry : Rep g w vy y) (xo : XOk g W σ ρ w ex) (ko : KOk g w ρ σ K Q) (q : rInO neg c C x y S K ex) : wpAny (model X.prog X.w) X.A (contains v u) (fun b s' => EP X pins σ Q (.bool (negB neg b)) s') X.xe s := by
  obtain ⟨⟨ds, hi⟩, q⟩ := q
  obtain ⟨fn, hs, hfn, F⟩ := F.ex
  rw [hK] at hs hfn F
  obtain ⟨p, ox, od, rfl, rfl, J⟩ := inst_of I A ry hi rv
  refine contains_own I.kIn J hs hfn ?_
  refine wpAny_mono (wpAny_call (run_ct (W := W) (us := [.ref p, u]) (vs := [.ref p, vx]) (Q := fun z H' => ∃ b, z = .bl b ∧ Q (.bl (negB neg b)) H') F (hr.mono hk) I.env0 tk I (.cons rfl (.cons ru .nil)) A (.cons ry (.one rx)) rfl xo (fun d S' kk v w' H' l A' r => ?_) q)) (fun z s' h => ?_) fun _ _ x => x
  · obtain ⟨b, rfl, kk⟩ := kk
    exact ⟨b, rep_bl r, ko _ S' kk _ w' H' l A' (.bl _)⟩
  · obtain ⟨z', H', I', rz, b, rfl, qz⟩ := h
    obtain rfl : z = .bool b := rz
    exact ⟨b, rfl, .bl (negB neg b), H', I', rfl, qz⟩
theorem in_own {k j c : Nat} {C : Ct} (F : OwnN X.prog X.w X.mg X.base g k c "__contains__" 2 C) (hK : g.K = X.K) (hr : Room j X.A) (hk : k ≤ j) (tk : Takes X W) : OpX g X W (compareOp .In) (rInO false c C) := by
  intro pins s σ H w ρ S x y vx vy u v K ex Q I ru rv A rx ry xo ko q
  exact wpAny_bind (wpAny_mono (in_run F hK hr hk tk I ru rv A rx ry xo ko q) (fun b s' h => wpAny_pure h) fun _ _ x => x)
theorem nin_own {k j c : Nat} {C : Ct} (F : OwnN X.prog X.w X.mg X.base g k c "__contains__" 2 C) (hK : g.K = X.K) (hr : Room j X.A) (hk : k ≤ j) (tk : Takes X W) : OpX g X W (compareOp .NotIn) (rInO true c C) := by
  intro pins s σ H w ρ S x y vx vy u v K ex Q I ru rv A rx ry xo ko q
  exact wpAny_bind (wpAny_mono (in_run F hK hr hk tk I ru rv A rx ry xo ko q) (fun b s' h => wpAny_pure h) fun _ _ x => x)
end
end R3

/-! R3cg: zip of a tuple and a list; lists of the store popped, emptied; own lists extended; two fields stored at once. -/
namespace R3
open PySem PySem.Spec PyProof.Rows L2
/-- a tuple and a list as they stand at each turn, the items in new pairs -/
def ItzM (K : PySem.W.Frag) (a b : Addr) : It :=
  ⟨fun i H => ∃ (xs ys : List V) (x y : V), SqT K H a xs ∧ SqL K H b ys ∧ xs[i]? = some x ∧ ys[i]? = some y,
    fun i H v H' => ∃ T x y, v = .ref T ∧ H T = none ∧ H' = upd H T (.tup [x, y]) ∧ (∀ xs, SqT K H a xs → xs[i]? = some x) ∧ ∀ ys, SqL K H b ys → ys[i]? = some y,
    fun i H => ∃ xs ys : List V, SqT K H a xs ∧ SqL K H b ys ∧ i ≤ xs.length ∧ i ≤ ys.length ∧ (xs.length = i ∨ ys.length = i)⟩
theorem turn_zipM {P : Program} {w : World} {K : PySem.W.Frag} {elts : List Expr} {kk : Nat} {tpos : Pos} {a b z TI TO i1 i2 : Addr} (D : ZipSep2 z TI TO i1 i2 [i1, a] [i2, b]) (n1 : a ≠ i1) (n2 : b ≠ i2) :
    Turn P w K (.Tuple elts kk tpos) (ItzM K a b) [z, TI, TO, i1, i2] z (fun i h => IsZip h z TI TO .none ∧ IsTupOf2 h TI (.ref i1) (.ref i2) ∧ (∃ x y, IsTupOf2 h TO x y) ∧ h.IsTupleIter i1 a i ∧ h.IsListIter i2 b i) where
  mem := by simp
  obj := fun i h st c hc => by
    obtain ⟨hz, hTI, ⟨x, y, hTO⟩, ⟨o1, e1, _, d1⟩, ⟨o2, e2, _, d2⟩⟩ := st
    have e' : c = z ∨ c = TI ∨ c = TO ∨ c = i1 ∨ c = i2 := by simpa using hc
    rcases e' with q | q | q | q | q
    · rw [q]; exact ⟨_, hz, fun v q => nomatch q⟩
    · rw [q]; exact ⟨_, hTI, fun v q => nomatch q⟩
    · rw [q]; exact ⟨_, hTO, fun v q => nomatch q⟩
    · rw [q]; exact ⟨o1, e1, fun v q => by rw [d1] at q; cases q⟩
    · rw [q]; exact ⟨o2, e2, fun v q => by rw [d2] at q; cases q⟩
  keep := fun i h h' st k => by
    obtain ⟨hz, hTI, ⟨x, y, hTO⟩, h1, h2⟩ := st
    exact ⟨k z (by simp) _ hz, k TI (by simp) _ hTI, ⟨x, y, k TO (by simp) _ hTO⟩, h1.at fun o q => k i1 (by simp) o q, h2.at fun o q => k i2 (by simp) o q⟩
  item := by
    intro X hP hw hK hc i pins s σ H E I hf st hg
    subst hP hw hK
    obtain ⟨hz, hTI, ⟨x0, y0, hTO⟩, h1, h2⟩ := st
    obtain ⟨xs, ys, x, y, hqx, hqy, hx, hy⟩ := hg
    obtain ⟨its, rv, p, _⟩ := I.tuple hqx
    obtain ⟨its2, rv2, p2, _⟩ := I.list hqy
    obtain ⟨u, hu, ru⟩ := rv.get hx
    obtain ⟨u2, hu2, ru2⟩ := rv2.get hy
    have hzl : z < s.heap.objs.size := Heap.lt_size hz
    have hh := I.ok.hd hc
    have D1 := Draws.tuple (prog := X.prog) (w := X.w) (A := X.A.in1) hh i1 a n1 its.toArray
    have D2 := Draws.list (prog := X.prog) (w := X.w) (A := X.A.in1) hh i2 b n2 its2.toArray
    have lt1 : i < its.toArray.size := by
      rw [List.size_toArray]
      exact (List.getElem?_eq_some_iff.mp hu).1
    have lt2 : i < its2.toArray.size := by
      rw [List.size_toArray]
      exact (List.getElem?_eq_some_iff.mp hu2).1
    refine wpAny_pyNext_zipD2_item D D1 D2 hz hTI hTO ⟨h1, p⟩ ⟨h2, p2.isList⟩ lt1 lt2 fun w1 w2 h' tk hw1 hw2 z' TO' st1 st2 hT hsz hk => ?_
    have e1 : w1 = u := by
      have hw1' : its.toArray[i]? = some w1 := hw1
      rw [List.getElem?_toArray, hu] at hw1'
      exact (Option.some.inj hw1').symm
    have e2 : w2 = u2 := by
      have hw2' : its2.toArray[i]? = some w2 := hw2
      rw [List.getElem?_toArray, hu2] at hw2'
      exact (Option.some.inj hw2').symm
    subst e1 e2
    obtain ⟨h1', _⟩ := st1
    obtain ⟨h2', _⟩ := st2
    refine ⟨_, rfl, wpAny_letOwnedTupleGo_zip (s := { s with heap := h', toks := tk }) z' fun h'' z'' sb => ?_⟩
    have hT2 : h''.get? s.heap.objs.size = some { cls := .type "tuple", data := .seq #[w1, w2] } := (sb.2 _ (Nat.ne_of_gt hzl)).trans hT
    have new : ObjOk X.prog X.w (upd H s.heap.objs.size (.tup [x, y])) h'' s.heap.objs.size (.tup [x, y]) :=
      ⟨by show 2 ≤ sizeLine; decide, [w1, w2], .cons ru (.cons ru2 .nil), ⟨_, hT2, rfl, _, rfl⟩⟩
    have I1 : Inv X pins σ (upd H s.heap.objs.size (.tup [x, y])) { s with heap := h'', toks := tk } :=
      I.turnedNew (t' := tk) (ch := [z, TI, TO, i1, i2]) (fun c o hb q => (sb.2 c (fun q' => hb (by simp [q']))).trans (hk c o (fun q' => hb (by simp [q'])) (fun q' => hb (by simp [q'])) (fun q' => hb (by simp [q'])) (fun q' => hb (by simp [q'])) q)) hf (Nat.le_refl _) new
    refine ⟨.ref s.heap.objs.size, _, I1, rfl, ⟨_, x, y, rfl, I.hok.fresh (Nat.le_refl _), rfl, fun l hl => by rw [I.tuple_inj hl hqx]; exact hx, fun l hl => ?_⟩, ⟨z'', ?_, ⟨w1, w2, ?_⟩, ?_, ?_⟩, fun c hcm => ?_⟩
    · rw [I.list_inj hl hqy]; exact hy
    · exact (sb.2 _ D.TIz).trans (hk _ _ D.TIz D.TITO D.TIi1 D.TIi2 hTI)
    · exact (sb.2 _ D.TOz).trans TO'
    · exact h1'.at fun o q => (sb.2 _ D.zi1.symm).trans q
    · exact h2'.at fun o q => (sb.2 _ D.zi2.symm).trans q
    · have hlt : c < s.heap.objs.size := by
        have e' : c = z ∨ c = TI ∨ c = TO ∨ c = i1 ∨ c = i2 := by simpa using hcm
        rcases e' with q | q | q | q | q
        · rw [q]; exact hzl
        · rw [q]; exact Heap.lt_size hTI
        · rw [q]; exact Heap.lt_size hTO
        · rw [q]; obtain ⟨_, e1, _⟩ := h1; exact Heap.lt_size e1
        · rw [q]; obtain ⟨_, e2, _⟩ := h2; exact Heap.lt_size e2
      rw [upd_ne (Nat.ne_of_lt hlt)]
      exact (hf c hcm).1
  done := by
    intro X hP hw hK hc i pins s σ H E I hf st hg
    subst hP hw hK
    obtain ⟨hz, hTI, ⟨x0, y0, hTO⟩, h1, h2⟩ := st
    obtain ⟨xs, ys, hqx, hqy, l1, l2, hend⟩ := hg
    obtain ⟨its, rv, p, _⟩ := I.tuple hqx
    obtain ⟨its2, rv2, p2, _⟩ := I.list hqy
    have m1 := rv.length
    have m2 := rv2.length
    have hh := I.ok.hd hc
    have D1 := Draws.tuple (prog := X.prog) (w := X.w) (A := X.A.in1) hh i1 a n1 its.toArray
    have D2 := Draws.list (prog := X.prog) (w := X.w) (A := X.A.in1) hh i2 b n2 its2.toArray
    exact wpAny_pyNext_zipD2_end D D1 D2 hz hTI hTO ⟨h1, p⟩ ⟨h2, p2.isList⟩ (by rw [List.size_toArray]; omega) (by rw [List.size_toArray]; omega) (by rw [List.size_toArray, List.size_toArray]; omega) fun h' tk hk => ⟨rfl, I.turnedL (t' := tk) (ch := [z, TI, TO, i1, i2]) (fun c o hb q =>
      hk c o (fun q' => hb (by simp [q'])) (fun q' => hb (by simp [q'])) (fun q' => hb (by simp [q'])) (fun q' => hb (by simp [q'])) q) hf⟩
  self := fun A i s Q E st h => wpAny_pyIter_zip st.1 h
def iZipM (K : PySem.W.Frag) (ta : TA) : TI := fun σ H R => ta σ H fun vs H1 => ∃ a b xs ys, vs = [.ref a, .ref b] ∧ SqT K H1 a xs ∧ SqL K H1 b ys ∧ R (ItzM K a b) H1
theorem pi_zipM {X : Cx} {e e2 : Expr} {ta : TA} {p pos tpos : Pos} {elts : List Expr} {kk : Nat} (hg : Gl X "zip") (hm : X.mg "zip" = none) (ha : PA X [e, e2] ta)
    (hs : starEach [e, e2] X.env = (false, eval e X.env) :: starEach [e2] X.env := by rfl) (hpl : (backTo pos (starEach [e2] X.env)).any (·.1) = false := by rfl) :
    PI X (.Tuple elts kk tpos) (.Call (.Name "zip" p) [e, e2] [] pos) (iZipM X.K ta) := by
  refine ⟨fun pins s σ H R I h => ?_⟩
  refine Call_ (ld_blt I hg hm PyProof.Rows.boot_zip (PyProof.Rows.callWith_type1 (thn (ha.run pos pins s σ H _ I h) fun us s1 ⟨vs, H1, I1, r1, q1⟩ => ?_) hs hpl))
  obtain ⟨a, b, xs, ys, ex, hqx, hqy, q⟩ := q1
  subst ex
  cases r1 with
  | cons r rr =>
    cases rr with
    | cons r' rr =>
      cases rr
      cases r
      cases r'
      have fresh5 : ∀ c, c ∈ [s1.heap.objs.size + 4, s1.heap.objs.size + 2, s1.heap.objs.size + 3, s1.heap.objs.size, s1.heap.objs.size + 1] → FpOk X pins H1 c := fun c hcm => by
        have e' : c = s1.heap.objs.size + 4 ∨ c = s1.heap.objs.size + 2 ∨ c = s1.heap.objs.size + 3 ∨ c = s1.heap.objs.size ∨ c = s1.heap.objs.size + 1 := by simpa using hcm
        have hle : s1.heap.objs.size ≤ c := by
          rcases e' with z | z | z | z | z
          · rw [z]; exact Nat.le_add_right _ _
          · rw [z]; exact Nat.le_add_right _ _
          · rw [z]; exact Nat.le_add_right _ _
          · rw [z]; exact Nat.le_refl _
          · rw [z]; exact Nat.le_add_right _ _
        exact I1.fpOk hle (I1.hok.fresh hle)
      obtain ⟨its, rv, p1, _⟩ := I1.tuple hqx
      obtain ⟨its2, rv2, p2, _⟩ := I1.list hqy
      have lt1 : a < s1.heap.objs.size := by obtain ⟨_, ho, _⟩ := p1; exact Heap.lt_size ho
      have lt2 := p2.lt
      refine zip_begins2 (begins_tuple a its.toArray) (begins_list b its2.toArray) p1 p2.isList fun h' hz hTI hTO g1 g2 hsz hk => wpAny_pyIter_zip hz ?_
      have I2 : Inv X pins σ H1 { s1 with heap := h' } := I1.kept (t' := s1.toks) hk
      exact ⟨s1.heap.objs.size + 4, [s1.heap.objs.size + 4, s1.heap.objs.size + 2, s1.heap.objs.size + 3, s1.heap.objs.size, s1.heap.objs.size + 1], _, _, H1, rfl, I2,
        turn_zipM (zip_sep2 (N := s1.heap.objs.size) (fp1 := [a]) (fp2 := [b]) (fun c hc => by rw [List.mem_singleton.mp hc]; exact lt1) (fun c hc => by rw [List.mem_singleton.mp hc]; exact lt2)) (Nat.ne_of_lt lt1) (Nat.ne_of_lt (Nat.lt_succ_of_lt lt2)),
        ⟨hz, hTI, ⟨_, _, hTO⟩, ⟨_, g1, rfl, rfl⟩, ⟨_, g2, rfl, rfl⟩⟩, fresh5, q⟩
section
variable {g : Sg} {X : Cx} {W : WX} {a b e e2 o : Expr} {pos apos cpos p p2 : Pos} {fa fb fe fo fo2 : FE} {es : List Expr} {fr : FA} {st : Stmt} {x : Str}
theorem gen_zipM {w : Wd} {a b : Addr} {vs us : List V} {ds es : List D} (h : SqT g.K w.I a vs) (h' : w.I b = some (.lst us)) (r : Reps g w vs ds) (r' : Reps g w us es) : Gen g w (ItzM g.K a b) (zipD ds es) := by
  have sq : ∀ w' ρ S σ H, Le w w' → At g w' ρ S σ H → SqT g.K H a vs ∧ SqL g.K H b us := fun w' ρ S σ H l A => ⟨A.t (same_t l.s.i h), SqL.of (A.ih _ _ (l.s.i _ _ h'))⟩
  have zl := zipD_len ds es
  refine ⟨fun i w' ρ S σ H hi l A => ?_, fun w' ρ S σ H l A => ⟨vs, us, (sq w' ρ S σ H l A).1, (sq w' ρ S σ H l A).2, by rw [r.length]; exact zl.1, by rw [r'.length]; exact zl.2.1, by rw [r.length, r'.length]; omega⟩, fun i w' ρ S σ H x H' d hd l A y => ?_⟩
  · obtain ⟨v, hv, _⟩ := r.got (show ds[i]? = some (ds[i]'(by omega)) by simp)
    obtain ⟨u, hu, _⟩ := r'.got (show es[i]? = some (es[i]'(by omega)) by simp)
    exact ⟨vs, us, v, u, (sq w' ρ S σ H l A).1, (sq w' ρ S σ H l A).2, hv, hu⟩
  · rw [zipD_get] at hd
    split at hd
    · rename_i x1 y1 hx1 hy1
      cases hd
      obtain ⟨T, x0, y0, rfl, hT, rfl, y1', y2'⟩ := y
      obtain ⟨v, hv, rv⟩ := r.got hx1
      obtain ⟨u, hu, ru⟩ := r'.got hy1
      have e := y1' vs (sq w' ρ S σ _ l A).1
      have e2 := y2' us (sq w' ρ S σ _ l A).2
      rw [hv] at e
      rw [hu] at e2
      cases e
      cases e2
      exact gen_pair (w := w) A hT (.cons (rv.mono l.s) (.one (ru.mono l.s)))
    · cases hd
/-- zip of a tuple and a list -/
def wZipM (f : FA) (ρ : List Sl) (S : Store) (K : List D → Store → Prop) (ex : KX) : Prop := f ρ S (fun ds S1 => match ds with
  | [.tup xs, .lst ys] => K (zipD xs ys) S1
  | _ => False) ex
theorem izipM {tpos : Pos} {elts : List Expr} {kk : Nat} (hK : g.K = X.K) (hg : Gl X "zip") (hm : X.mg "zip" = none) (ha : EA g X W [e, e2] fr)
    (hs : starEach [e, e2] X.env = (false, eval e X.env) :: starEach [e2] X.env := by rfl) (hpl : (backTo pos (starEach [e2] X.env)).any (·.1) = false := by rfl) :
    EI g X W (.Tuple elts kk tpos) (.Call (.Name "zip" p) [e, e2] [] pos) (wZipM fr) :=
  PI.imp (pi_zipM hg hm ha hs hpl) fun σ H R ⟨w, ρ, S, K, ex, A, xo, ko, q⟩ => ⟨w, ρ, S, _, ex, A, xo, fun ds S1 q1 vs w1 H1 l1 A1 r1 => by
    split at q1
    · obtain ⟨v, u, rfl, r, r'⟩ := r1.inv2
      cases r with
      | tup hh rr =>
        cases r' with
        | lst hh' rr' => exact ⟨_, _, _, _, rfl, by rw [← hK]; exact A1.t hh, SqL.of (A1.ih _ _ hh'), ko _ S1 q1 _ w1 H1 l1 A1 (by rw [← hK]; exact gen_zipM hh hh' rr rr')⟩
    · exact q1.elim, q⟩
/-! ### own lists extended -/
def wExt (i : Nat) (f : FA) (d : Fin) (ρ : List Sl) (S : Store) : Prop := match Env.at ρ i with
  | .own (.lst ds) => f ρ S (fun es S' => Small (ds.length + es.length) ∧ d.nx (Env.put ρ i (.own (.lst (ds ++ es)))) S') (fun x S' => d.ex x ρ S')
  | _ => False
theorem sext {i : Nat} (hp : PS X st (tDrop (tBM X.K "list" rExtend (tVar i) (tCons (rdL g W fr) tNil)))) : ES g X W st (wExt i fr) :=
  PS.imp hp fun D σ H ⟨w, ρ, S, d, A, eo, q⟩ => by
    unfold wExt at q
    split at q
    · rename_i ds hc
      obtain ⟨a, h1, h2, ⟨vs, e1, r1⟩, h4, h5⟩ := A.own i _ hc
      refine ⟨.ref a, h1, .inl ⟨rfl, vs, SqL.of e1⟩, ?_⟩
      refine ⟨w, ρ, S, _, _, A, eo.xo, fun xs S' q2 b us w' H' l A' e2 f2 rr => ?_, q⟩
      obtain ⟨a', g1, g2, ⟨vs', e3, r2⟩, g4, g5⟩ := A'.own i _ hc
      rw [h1] at g1
      cases g1
      refine ⟨a, b, vs', us, rfl, rfl, e3, e2, by rw [r2.length, rr.length]; exact q2.1.line, ?_⟩
      exact eo.nx _ S' q2.2 w' σ _ l (A'.mut (o' := .lst (ds ++ xs)) hc h1 ⟨_, upd_same, r2.app rr⟩)
    · exact q.elim
theorem mext (i : Nat) (he : EL g X W e fr) (hN : X.N[i]? = some x := by rfl) (hv : Vis X.env.scope x := by first | exact Or.inl rfl | exact Or.inr (Or.inl rfl) | exact Or.inr (Or.inr rfl)) (hd : (x == ("__debug__" : Str)) = false := by decide) (hcd : (x == ("__classdict__" : Str)) = false := by decide)
    (hbase : attributeBase (.Name x p) "extend" X.env (eval (.Name x p) X.env) = eval (.Name x p) X.env := by rfl)
    (hfew : ((backTo cpos (starEach [e] X.env)).all (fun x => !x.1) && (backToKw cpos (keywordEach [] X.env)).all (fun x => x.1.isSome) && decide (([e] : List Expr).length + ([] : List Keyword).length + (if ([] : List Keyword).isEmpty then 0 else 1) < 30)) = true := by rfl)
    (hline : (apos.endLine == cpos.line) = true := by rfl) (hs : starEach [e] X.env = (false, eval e X.env) :: starEach [] X.env := by rfl) (hsw : swapsWith (.Call (.Attribute (.Name x p) "extend" apos) [e] [] cpos) none pos.line X.env = pure false := by rfl) :
    ES g X W (.Expr (.Call (.Attribute (.Name x p) "extend" apos) [e] [] cpos) pos) (wExt i fr) :=
  sext (ps_expr (pe_bm PySem.F.plainAttrs_list PySem.F.slot_list_extend PySem.F.type_list_extend mt_extend (pe_var hN hv hd hcd) (pa_cons he pa_nil hs) hbase hfew hline hs rfl) hsw)
/-! ### lists of the store: pop, clear -/
/-- o.pop() -/
def wPopR (fo : FE) (ρ : List Sl) (S : Store) (K : KD) (ex : KX) : Prop := fo ρ S (fun x S1 => ∃ n ds y, x = .ref n ∧ S1[n]? = some (some (.lst ds)) ∧ ds[ds.length - 1]? = some y ∧ K y (S1.set n (some (.lst ds.dropLast)))) ex
theorem Reps.dropLast {w : Wd} : ∀ {vs : List V} {ds : List D}, Reps g w vs ds → Reps g w vs.dropLast ds.dropLast
  | _, _, .nil => .nil
  | _, _, .cons h .nil => .nil
  | _, _, .cons h (.cons h2 r) => .cons h (Reps.dropLast (.cons h2 r))
theorem epopR (ho : EV g X W o fo) (hbase : attributeBase o "pop" X.env (eval o X.env) = eval o X.env := by rfl) (hline : (apos.endLine == cpos.line) = true := by rfl) : EV g X W (.Call (.Attribute o "pop" apos) [] [] cpos) (wPopR fo) :=
  PE.imp (pe_bm0 PySem.F.plainAttrs_list PySem.F.slot_list_pop PySem.F.type_list_pop mt_pop ho hbase hline) fun σ H Q ⟨w, ρ, S, K, ex, A, xo, ko, q⟩ => ⟨w, ρ, S, _, ex, A, xo, fun x S1 q1 v w1 H1 l1 A1 r1 => by
    obtain ⟨n, ds, y, rfl, hs, hy, q1⟩ := q1
    obtain ⟨rfl, hk⟩ := rep_ref r1
    obtain ⟨h1, vs, e1, r2⟩ := A1.st n _ hs
    obtain ⟨u, hu, ru⟩ := r2.got hy
    rw [← r2.length] at hu
    refine ⟨.inl ⟨rfl, vs, SqL.of e1⟩, ?_⟩
    exact ⟨_, vs, u, rfl, rfl, e1, hu, ko _ _ q1 _ w1 _ l1 (A1.write hs ⟨_, upd_same, r2.dropLast⟩) ru⟩, q⟩
/-- o.clear() -/
def wClearR (fo : FE) (d : Fin) (ρ : List Sl) (S : Store) : Prop := fo ρ S (fun x S1 => ∃ n ds, x = .ref n ∧ S1[n]? = some (some (.lst ds)) ∧ d.nx ρ (S1.set n (some (.lst [])))) (fun x S' => d.ex x ρ S')
theorem mclearR (ho : EV g X W o fo) (hbase : attributeBase o "clear" X.env (eval o X.env) = eval o X.env := by rfl) (hline : (apos.endLine == cpos.line) = true := by rfl) (hsw : swapsWith (.Call (.Attribute o "clear" apos) [] [] cpos) none pos.line X.env = pure false := by rfl) : ES g X W (.Expr (.Call (.Attribute o "clear" apos) [] [] cpos) pos) (wClearR fo) :=
  PS.imp (ps_expr (pe_bm0 PySem.F.plainAttrs_list PySem.F.slot_list_clear PySem.F.type_list_clear mt_clear ho hbase hline) hsw) fun D σ H ⟨w, ρ, S, d, A, eo, q⟩ => ⟨w, ρ, S, _, _, A, eo.xo, fun x S1 q1 v w1 H1 l1 A1 r1 => by
    obtain ⟨n, ds, rfl, hs, q1⟩ := q1
    obtain ⟨rfl, hk⟩ := rep_ref r1
    obtain ⟨h1, vs, e1, r2⟩ := A1.st n _ hs
    refine ⟨.inl ⟨rfl, vs, SqL.of e1⟩, ?_⟩
    exact ⟨_, vs, rfl, rfl, e1, eo.nx _ _ q1 w1 σ _ l1 (A1.write hs ⟨_, upd_same, .nil⟩)⟩, q⟩
/-! ### o.f, o.h = x, y -/
def gFldT (K : PySem.W.Frag) (to : TE) (f : Str) : TG := fun v σ H Q => to σ H fun x H1 => ∃ a C dx fs, x = .ref a ∧ H1 a = some (.ins C dx fs) ∧ Cls K C ∧ NoAttr K C f ∧ fs.length < 1000 ∧ Q σ (upd H1 a (.ins C dx (putF f v fs)))
theorem pg_fld {f : Str} {to : TE} (ho : PE X o to) : PG X (.Attribute o f pos) (gFldT X.K to f) := by
  refine ⟨fun pins s σ H v u Q I r h => ?_⟩
  rw [assign_Attribute]
  refine wpAny_bind (wpAny_holding (thn (ho.run pins s σ H _ I h) fun ov s1 ⟨x, H1, I1, r1, q1⟩ => ?_))
  obtain ⟨a, C, dx, fs, rfl, ea, c, n, l, q1⟩ := q1
  obtain rfl : ov = Value.ref a := r1
  refine wpAny_bind (wpAny_standAt (wpAny_bind (wpAny_holding (setattr_ok I1 ea c n l r fun s3 I3 => ?_))))
  exact wpAny_release ⟨σ, _, I3, q1⟩
/-- two fields of instances at once -/
def wSt2 (R R' : D → D → Store → (Store → Prop) → Prop) (fo fo2 fe : FE) (d : Fin) (ρ : List Sl) (S : Store) : Prop := fe ρ S (fun t S1 => match t with
  | .tup [y, z] => fo ρ S1 (fun x S2 => R y x S2 (fun S3 => fo2 ρ S3 (fun x2 S4 => R' z x2 S4 (fun S5 => d.nx ρ S5)) (fun x S' => d.ex x ρ S'))) (fun x S' => d.ex x ρ S')
  | _ => False) (fun x S' => d.ex x ρ S')
theorem sst2 {c : Nat} {f f2 : Str} {o2 : Expr} {k : Nat} {R R' : D → D → Store → (Store → Prop) → Prop} {pt : Pos} (hc0 : X.calm = true) (hK : g.K = X.K) (hc : Cls g.K (g.ad c)) (hn : NoAttr g.K (g.ad c) f) (hn2 : NoAttr g.K (g.ad c) f2) (hR : WrOk g c f R) (hR2 : WrOk g c f2 R') (ho : EV g X W o fo) (ho2 : EV g X W o2 fo2) (he : EV g X W e fe)
    (hs : swapsWithSole [.Tuple [.Attribute o f p, .Attribute o2 f2 p2] k pt] e pos.line X.env = pure false := by rfl) (hw : swappedStores [.Tuple [.Attribute o f p, .Attribute o2 f2 p2] k pt] e X.env = pure none := by rfl)
    (h1 : (assignEach [.Tuple [.Attribute o f p, .Attribute o2 f2 p2] k pt] X.env).map (·.2) = [assign (.Tuple [.Attribute o f p, .Attribute o2 f2 p2] k pt) X.env] := by rfl)
    (hn0 : (assignEach [.Attribute o f p, .Attribute o2 f2 p2] X.env).length = 2 := by rfl) (hst : (assignEach [.Attribute o f p, .Attribute o2 f2 p2] X.env).findIdx? (·.1) = none := by rfl)
    (hz1 : (assignEach [.Attribute o f p, .Attribute o2 f2 p2] X.env).map (·.2) = assign (.Attribute o f p) X.env :: (assignEach [.Attribute o2 f2 p2] X.env).map (·.2) := by rfl)
    (hz2 : (assignEach [.Attribute o2 f2 p2] X.env).map (·.2) = assign (.Attribute o2 f2 p2) X.env :: (assignEach [] X.env).map (·.2) := by rfl) :
    ES g X W (.Assign [.Tuple [.Attribute o f p, .Attribute o2 f2 p2] k pt] e pos) (wSt2 R R' fo fo2 fe) :=
  PS.imp (ps_asg he (pg_tup hc0 (pgs_cons (pg_fld ho) (pgs_cons (pg_fld ho2) pgs_nil hz2) hz1) hn0 hst) hs hw h1) fun D σ H ⟨w, ρ, S, d, A, eo, q⟩ => ⟨w, ρ, S, _, _, A, eo.xo, fun t S1 q1 v w1 H1 l1 A1 r1 => by
    split at q1
    · rename_i y z
      cases r1 with
      | tup hh rr =>
        rename_i ta vs
        obtain ⟨vy, vz, rfl, ry, rz⟩ := rr.inv2
        refine ⟨ta, _, rfl, by rw [← hK]; exact A1.t hh, rfl, vy, _, rfl, w1, ρ, S1, _, _, A1, (eo.later l1).xo, fun x S2 q2 v2 w2 H2 l2 A2 r2 => ?_, q1⟩
        obtain ⟨k, o0, o', rfl, hs0, q3, hw0⟩ := hR _ _ _ _ q2
        obtain ⟨rfl, hk⟩ := rep_ref r2
        obtain ⟨g1, g2⟩ := A2.st k _ hs0
        obtain ⟨dx, fs, e1, e2, e3⟩ := hw0 w2 H2 vy _ (ry.mono l2.s) g2
        have A3 := A2.write hs0 e3
        refine ⟨_, g.ad c, dx, fs, rfl, e1, by rw [← hK]; exact hc, by rw [← hK]; exact hn, e2, vz, _, rfl, w2, ρ, _, _, _, A3, (eo.later (l1.trans l2)).xo, fun x3 S4 q4 v3 w3 H3 l3 A4 r3 => ?_, q3⟩
        obtain ⟨k2, o2', o3', rfl, hs1, q5, hw1⟩ := hR2 _ _ _ _ q4
        obtain ⟨rfl, hk2⟩ := rep_ref r3
        obtain ⟨g3, g4⟩ := A4.st k2 _ hs1
        obtain ⟨dx2, fs2, e4, e5, e6⟩ := hw1 w3 H3 vz _ (rz.mono (l2.trans l3).s) g4
        exact ⟨_, g.ad c, dx2, fs2, rfl, e4, by rw [← hK]; exact hc, by rw [← hK]; exact hn2, e5, rfl, eo.nx _ _ q5 w3 σ _ (l1.trans (l2.trans l3)) (A4.write hs1 e6)⟩
    · exact q1.elim, q⟩
end
end R3

/-! R3ch: == of lists and tuples that hold instances of class 0. -/
namespace R3
open PySem PySem.Spec PyProof.Rows L2
open SeqAt AutoSeq1 MeetsSeq MeetsSeq2 MeetsSeq3 SeqRoads2
/-! ### what is compared -/
mutual
def dtm : D → Bool
  | .lst ds => dtms ds
  | .tup ds => dtms ds
  | .obj c ds => c == 0 && (intsOf ds).isSome
  | .ref _ => false
  | .scr _ => false
  | .dic _ => false
  | .ty _ => false
  | _ => true
def dtms : List D → Bool
  | [] => true
  | d :: ds => dtm d && dtms ds
end
section
variable {g : Sg} {X : Cx} {W : WX} {pins : List (Addr × Obj)} {w : Wd} {ρ : List Sl} {S : Store} {σ : L2.St} {H : Hp} {s : Shared}
theorem zip_inj {ns : List Str} : ∀ {vs us : List V}, vs.length = ns.length → us.length = ns.length → ns.zip vs = ns.zip us → vs = us := by
  induction ns with
  | nil => intro vs us h1 h2 _; rw [List.length_eq_zero_iff.mp h1, List.length_eq_zero_iff.mp h2]
  | cons n ns ih =>
    intro vs us h1 h2 e
    cases vs with
    | nil => cases h1
    | cons v vs =>
      cases us with
      | nil => cases h2
      | cons u us =>
        rw [List.zip_cons_cons, List.zip_cons_cons] at e
        obtain ⟨e1, e2⟩ := List.cons.inj e
        rw [(Prod.mk.inj e1).2, ih (by simpa using h1) (by simpa using h2) e2]
theorem ints_inv : ∀ {ds : List D} {ns : List Int}, intsOf ds = some ns → ds = ns.map D.int
  | [], _, h => by cases h; rfl
  | .int i :: r, ns, h => by
    cases e : intsOf r with
    | none => simp [intsOf, e] at h
    | some ms =>
      simp [intsOf, e] at h
      subst h
      rw [ints_inv e]
      rfl
  | .non :: _, _, h => by cases h
  | .bl _ :: _, _, h => by cases h
  | .str _ :: _, _, h => by cases h
  | .ty _ :: _, _, h => by cases h
  | .tup _ :: _, _, h => by cases h
  | .lst _ :: _, _, h => by cases h
  | .obj _ _ :: _, _, h => by cases h
  | .ref _ :: _, _, h => by cases h
  | .scr _ :: _, _, h => by cases h
  | .dic _ :: _, _, h => by cases h
theorem mapV_inj : ∀ {ns ms : List Int}, ns.map V.int = ms.map V.int → ns = ms
  | [], [], _ => rfl
  | [], _ :: _, h => by cases h
  | _ :: _, [], h => by cases h
  | n :: ns, m :: ms, h => by
    obtain ⟨e1, e2⟩ := List.cons.inj h
    rw [V.int.inj e1, mapV_inj e2]
mutual
theorem rep_det (hK : g.K = X.K) (I : Inv X pins σ H s) (A : At g w ρ S σ H) : ∀ {v : V} {d d' : D}, Rep g w v d → Rep g w v d' → dtm d = true → dtm d' = true → d = d'
  | _, _, _, .non, r', _, h => by cases r' <;> first | rfl | cases h
  | _, _, _, .bl _, r', _, h => by cases r' <;> first | rfl | cases h
  | _, _, _, .int _, r', _, h => by cases r' <;> first | rfl | cases h
  | _, _, _, .str _, r', _, h => by cases r' <;> first | rfl | cases h
  | _, _, _, .ty _, r', h, _ => by cases h
  | _, _, _, .tup hh r, r', h, h' => by
    cases r' with
    | tup hh' r' =>
      have := sqt_det hK I A hh hh'
      subst this
      rw [reps_det hK I A r r' h h']
    | lst hh' r' => exact (sqt_no hK I A hh hh' ⟨(fun _ z => nomatch z), (fun _ _ z => nomatch z)⟩).elim
    | obj hh' _ r' => exact (sqt_no hK I A hh hh' ⟨(fun _ z => nomatch z), (fun _ _ z => nomatch z)⟩).elim
    | scr => cases h'
    | ref => cases h'
    | dic => cases h'
  | _, _, _, .lst hh r, r', h, h' => by
    cases r' with
    | tup hh' r' => exact (sqt_no hK I A hh' hh ⟨(fun _ z => nomatch z), (fun _ _ z => nomatch z)⟩).elim
    | lst hh' r' =>
      rw [hh] at hh'
      cases hh'
      rw [reps_det hK I A r r' h h']
    | obj hh' _ r' => rw [hh] at hh'; cases hh'
    | scr => cases h'
    | ref => cases h'
    | dic => cases h'
  | _, _, _, .scr _, r', h, _ => by cases h
  | _, _, _, .obj (c := c) (vs := vs) (ds := ds) hh hl r, r', h, h' => by
    cases r' with
    | tup hh' r' => exact (sqt_no hK I A hh' hh ⟨(fun _ z => nomatch z), (fun _ _ z => nomatch z)⟩).elim
    | lst hh' r' => rw [hh] at hh'; cases hh'
    | @obj _ _ c' vs' ds' hh' hl' r' =>
      obtain ⟨k1, k2⟩ := Bool.and_eq_true_iff.mp (show (c == 0 && (intsOf ds).isSome) = true from h)
      obtain ⟨k3, k4⟩ := Bool.and_eq_true_iff.mp (show (c' == 0 && (intsOf ds').isSome) = true from h')
      obtain rfl := beq_iff_eq.mp k1
      obtain rfl := beq_iff_eq.mp k3
      obtain ⟨ns, e1⟩ := Option.isSome_iff_exists.mp k2
      obtain ⟨ms, e2⟩ := Option.isSome_iff_exists.mp k4
      rw [hh] at hh'
      have e0 : (g.fl 0).zip vs = (g.fl 0).zip vs' := by
        have := Option.some.inj hh'
        injection this
      have e3 := zip_inj hl hl' e0
      subst e3
      have m1 := intsOf_reps r e1
      have m2 := intsOf_reps r' e2
      rw [m1] at m2
      rw [ints_inv e1, ints_inv e2, mapV_inj m2]
    | scr => cases h'
    | ref => cases h'
    | dic => cases h'
  | _, _, _, .ref _, r', h, _ => by cases h
  | _, _, _, .dic _, r', h, _ => by cases h
theorem reps_det (hK : g.K = X.K) (I : Inv X pins σ H s) (A : At g w ρ S σ H) : ∀ {vs : List V} {ds ds' : List D}, Reps g w vs ds → Reps g w vs ds' → dtms ds = true → dtms ds' = true → ds = ds'
  | _, _, _, .nil, .nil, _, _ => rfl
  | _, _, _, .cons h r, .cons h' r', q, q' => by
    obtain ⟨q1, q2⟩ := Bool.and_eq_true_iff.mp q
    obtain ⟨q3, q4⟩ := Bool.and_eq_true_iff.mp q'
    rw [rep_det hK I A h h' q1 q3, reps_det hK I A r r' q2 q4]
end
end
mutual
/-- x == y is b; by C an instance of class 0 compares itself -/
inductive Eq1 (C : Ct) (S : Store) : D → D → Bool → Prop where
  | flat {x y : D} (hx : okN 8 x = true) (hy : okN 8 y = true) : Eq1 C S x y (eqD x y)
  | obj {es : List D} {y : D} {b : Bool} (hy : rightD 0 y = true) (hr : y = .obj 0 es → b = true) (h : ∀ (K : KD) (ex : KX), K (.bl b) S → C [.obj 0 es, y] S K ex) : Eq1 C S (.obj 0 es) y b
  | tup {xs ys : List D} {b : Bool} (h : EqL C S xs ys b) : Eq1 C S (.tup xs) (.tup ys) b
  | lst {xs ys : List D} {b : Bool} (hl : xs.length = ys.length) (h : EqL C S xs ys b) : Eq1 C S (.lst xs) (.lst ys) b
  | lstn {xs ys : List D} (hl : xs.length ≠ ys.length) : Eq1 C S (.lst xs) (.lst ys) false
inductive EqL (C : Ct) (S : Store) : List D → List D → Bool → Prop where
  | nil : EqL C S [] [] true
  | left {y : D} {ys : List D} : EqL C S [] (y :: ys) false
  | right {x : D} {xs : List D} : EqL C S (x :: xs) [] false
  | hit {x y : D} {xs ys : List D} {b : Bool} (h : Eq1 C S x y true) (r : EqL C S xs ys b) : EqL C S (x :: xs) (y :: ys) b
  | miss {x y : D} {xs ys : List D} (h : Eq1 C S x y false) : EqL C S (x :: xs) (y :: ys) false
end
mutual
theorem eqD_rfl : ∀ (n : Nat) (d : D), okN n d = true → eqD d d = true
  | _, .non, _ => rfl
  | _, .bl b, _ => by cases b <;> rfl
  | _, .int i, _ => decide_eq_true rfl
  | _, .str x, _ => beq_self_eq_true x
  | n + 1, .tup xs, h => eqDs_rfl n xs h
  | n + 1, .lst xs, h => eqDs_rfl n xs h
  | 0, .tup _, h => by cases h
  | 0, .lst _, h => by cases h
  | n, .ty _, h => by cases n <;> cases h
  | n, .obj _ _, h => by cases n <;> cases h
  | n, .ref _, h => by cases n <;> cases h
  | n, .scr _, h => by cases n <;> cases h
  | n, .dic _, h => by cases n <;> cases h
theorem eqDs_rfl : ∀ (n : Nat) (ds : List D), okNs n ds = true → eqDs ds ds = true
  | _, [], _ => rfl
  | n, d :: ds, h => by
    have h' := Bool.and_eq_true_iff.mp (show (okN n d && okNs n ds) = true by cases n <;> exact h)
    show (eqD d d && eqDs ds ds) = true
    rw [eqD_rfl n d h'.1, eqDs_rfl n ds h'.2]
    rfl
end
mutual
theorem Eq1.same {C : Ct} {S : Store} : ∀ {x y : D} {b : Bool}, Eq1 C S x y b → x = y → b = true
  | _, _, _, .flat hx _, e => by subst e; exact eqD_rfl 8 _ hx
  | _, _, _, .obj _ hr _, e => hr e.symm
  | _, _, _, .tup h, e => h.same (D.tup.inj e)
  | _, _, _, .lst _ h, e => h.same (D.lst.inj e)
  | _, _, _, .lstn hl, e => absurd (congrArg List.length (D.lst.inj e)) hl
theorem EqL.same {C : Ct} {S : Store} : ∀ {xs ys : List D} {b : Bool}, EqL C S xs ys b → xs = ys → b = true
  | _, _, _, .nil, _ => rfl
  | _, _, _, .left, e => by cases e
  | _, _, _, .right, e => by cases e
  | _, _, _, .hit _ r, e => r.same (List.cons.inj e).2
  | _, _, _, .miss h, e => absurd (h.same (List.cons.inj e).1) (by decide)
end
/-! ### the walks -/
section
variable {prog : Program} {w : World} {A : Around} {E : Value → Shared → Prop} {s : Shared}
theorem eqb_ref {p : Addr} {v : Value} {Q : Bool → Shared → Prop} (hs : Value.ref p = v → Q true s) (h : wpAny (model prog w) A (richCompare .Eq (.ref p) v) (fun z s' => ∃ b, z = .bool b ∧ Q b s') E s) : wpAny (model prog w) A (eqBool (.ref p) v) Q E s := by
  unfold eqBool
  refine wpAny_holding ?_
  refine wpAny_ite_split (fun hab => ?_) (fun _ => ?_)
  · exact wpAny_bind (wpAny_rule (wpAny_pure (hs (eq_of_beq hab))))
  · refine wpAny_bind (wpAny_mono h (fun z s' hz => ?_) fun _ _ y => y)
    obtain ⟨b, rfl, q⟩ := hz
    exact wpAny_truthy_bool q
end
section
variable {g : Sg} {X : Cx} {W : WX}
/-- x == y, within a comparison -/
def EqOk (g : Sg) (X : Cx) (S : Store) (k : Nat) (x y : D) (b : Bool) : Prop :=
  ∀ {A0 : Around} {pins : List (Addr × Obj)} {s : Shared} {σ : L2.St} {H : Hp} {w : Wd} {ρ : List Sl} {vx vy : V} {u v : Value} {Q : Bool → Shared → Prop},
    Room (k + 1 + hgt x) A0 → A0.frames = some X.stack → Inv X pins σ H s → At g w ρ S σ H → Rep g w vx x → Rep g w vy y → dtm x = true → dtm y = true → RelV vx u → RelV vy v →
    (∀ s' H' w', Le w w' → Inv X pins σ H' s' → At g w' ρ S σ H' → Q b s') → wpAny (model X.prog X.w) A0 (eqBool u v) Q X.xe s
/-- the same by an operator; neg: != -/
def RcOk (g : Sg) (X : Cx) (S : Store) (k : Nat) (x y : D) (b neg : Bool) : Prop :=
  ∀ {A0 : Around} {pins : List (Addr × Obj)} {s : Shared} {σ : L2.St} {H : Hp} {w : Wd} {ρ : List Sl} {vx vy : V} {u v : Value} {Q : Value → Shared → Prop},
    Room (k + 1 + hgt x) A0 → A0.frames = some X.stack → Inv X pins σ H s → At g w ρ S σ H → Rep g w vx x → Rep g w vy y → dtm x = true → dtm y = true → RelV vx u → RelV vy v →
    (∀ s' H' w', Le w w' → Inv X pins σ H' s' → At g w' ρ S σ H' → Q (.bool (negB neg b)) s') → wpAny (model X.prog X.w) A0 (richCompare (if neg then .NotEq else .Eq) u v) Q X.xe s
inductive EqOks (g : Sg) (X : Cx) (S : Store) (k : Nat) : List D → List D → Bool → Prop where
  | nil : EqOks g X S k [] [] true
  | left {y : D} {ys : List D} : EqOks g X S k [] (y :: ys) false
  | right {x : D} {xs : List D} : EqOks g X S k (x :: xs) [] false
  | hit {x y : D} {xs ys : List D} {b : Bool} (h : EqOk g X S k x y true) (r : EqOks g X S k xs ys b) : EqOks g X S k (x :: xs) (y :: ys) b
  | miss {x y : D} {xs ys : List D} (h : EqOk g X S k x y false) : EqOks g X S k (x :: xs) (y :: ys) false
theorem eqok_flat {S : Store} {k : Nat} {x y : D} (hx : okN 8 x = true) (hy : okN 8 y = true) (hK : g.K = X.K) : EqOk g X S k x y (eqD x y) := by
  intro A0 pins s σ H w ρ vx vy u v Q hr hA I At0 rx ry _ _ ru rv hQ
  obtain ⟨p, e1, c1, d1⟩ := okN_py 8 x hx
  obtain ⟨q, e2, c2, d2⟩ := okN_py 8 y hy
  obtain ⟨as, r1⟩ := Dp.reads I p vx u (hK ▸ dp_of At0 rx e1) ru
  obtain ⟨bs, r2⟩ := Dp.reads I q vy v (hK ▸ dp_of At0 ry e2) rv
  have hun := hr.units
  refine eqAt_reads p q A0 s u v as bs r1 r2 c1 c2 (by have := Nat.min_le_left p.depth q.depth; omega) X.prog X.w X.xe Q ?_
  rw [eqv_eqD x y p q e1 e2]
  exact hQ s H w (Le.refl w) I At0
theorem eqok_obj {S : Store} {k : Nat} {C : Ct} {xn : Str} (F : OwnN X.prog X.w X.mg X.base g k 0 "__eq__" 2 C) (hx : g.ad 0 = He.ga X.K xn) (hf : fRight xn X.K = true) (hK : g.K = X.K) (tk : Takes X W) {es : List D} {y : D} {b : Bool} (hy : rightD 0 y = true) (hs : y = .obj 0 es → b = true) (h : ∀ (K : KD) (ex : KX), K (.bl b) S → C [.obj 0 es, y] S K ex) : EqOk g X S k (.obj 0 es) y b := by
  intro A0 pins s σ H w ρ vx vy u v Q hr hA I At0 rx ry tx ty ru rv hQ
  obtain ⟨p, ox, od, rfl, rfl, J⟩ := inst_of (c := 0) (ds := es) I At0 rx (by unfold insOf; simp) ru
  obtain ⟨fn, h1, h2, Fn⟩ := F.ex
  rw [hK] at h1 h2 Fn
  obtain ⟨tb, lk, nf⟩ := right_ok hK hx hf I At0 ry rv hy
  obtain ⟨m, hF⟩ := I.fr
  have e0 : Env0 X.prog X.w X.K X.mg X.base A0 X.stack s H := ⟨hA, I.env0.mod, I.env0.bs, I.env0.bsz, I.env0.funs, I.env0.frf, I.env0.hok, I.env0.bare⟩
  refine eqb_ref (fun e => ?_) ?_
  · subst e
    have ev : vy = .ref p := by cases vy <;> first | (obtain ⟨_, z⟩ := rv; cases z; done) | (cases rv; rfl) | (cases rv; done)
    subst ev
    rw [hs (rep_det hK I At0 ry rx ty tx)] at hQ
    exact hQ s H w (Le.refl w) I At0
  · refine PySem.W.cmp_K (op := .Eq) (tb := tb) (by have := hr.units; omega) hF I.ok.mod.kin J lk nf h1 h2 ?_
    refine wpAny_mono (wpAny_call (run_ct (W := W) (us := [.ref p, v]) (vs := [.ref p, vy]) (K := fun d S' => d = .bl b ∧ S' = S) (ex := fun _ _ => False) (Q := fun z H' => z = .bl b ∧ ∃ w', Le w w' ∧ At g w' ρ S σ H') Fn (hr.mono (by omega)) e0 tk I (.cons rfl (.cons rv .nil)) At0 (.cons rx (.one ry)) rfl (fun _ _ z => z.elim) (fun d S' ⟨e1, e2⟩ z w' H' l' A' r' => ?_) (h _ _ ⟨rfl, rfl⟩))) (fun r s' hb => ?_) fun _ _ y => y
    · subst e1; subst e2
      exact ⟨rep_bl r', w', l', A'⟩
    · obtain ⟨z, H', I', rz, rfl, w', l', A'⟩ := hb
      obtain rfl : r = .bool b := rz
      exact ⟨_, rfl, hQ s' H' w' l' I' A'⟩
theorem eqoks_drop {S : Store} {k : Nat} : ∀ {xs ys : List D} {b : Bool}, EqOks g X S k xs ys b → ∀ {x : D} {r : List D} {y : D} {r' : List D}, xs = x :: r → ys = y :: r' → (EqOk g X S k x y true ∧ EqOks g X S k r r' b) ∨ (EqOk g X S k x y false ∧ b = false)
  | _, _, _, .nil, _, _, _, _, e, _ => by cases e
  | _, _, _, .left, _, _, _, _, e, _ => by cases e
  | _, _, _, .right, _, _, _, _, _, e => by cases e
  | _, _, _, .hit h r, _, _, _, _, e, e' => by cases e; cases e'; exact .inl ⟨h, r⟩
  | _, _, _, .miss h, _, _, _, _, e, e' => by cases e; cases e'; exact .inr ⟨h, rfl⟩
theorem dtms_at : ∀ {ds : List D} {i : Nat} {d : D}, dtms ds = true → ds[i]? = some d → dtm d = true
  | [], _, _, _, h => by simp at h
  | x :: xs, 0, d, h, e => by
    obtain ⟨h1, h2⟩ := Bool.and_eq_true_iff.mp (show (dtm x && dtms xs) = true from h)
    cases e
    exact h1
  | x :: xs, i + 1, d, h, e => by
    obtain ⟨h1, h2⟩ := Bool.and_eq_true_iff.mp (show (dtm x && dtms xs) = true from h)
    exact dtms_at h2 e
theorem eql_loop {S : Store} {k : Nat} (hK : g.K = X.K) {ds es : List D} {b : Bool} (neg : Bool) (hl : ds.length = es.length) (hd : dtms ds = true) (he : dtms es = true) {A : Around} {a c : Addr} {pins : List (Addr × Obj)} {σ : L2.St} {ρ : List Sl} {w0 : Wd} {R : Result → Shared → Prop} (hr : Room (k + 2 + hgts ds) A) (hA : A.frames = some X.stack) (hE : ∀ e s', X.xe e s' → R (.error e) s') :
    ∀ (m i : Nat) (s : Shared) (H : Hp) (w : Wd), ds.length - i = m → i ≤ ds.length → EqOks g X S k (ds.drop i) (es.drop i) b → Le w0 w → Inv X pins σ H s → At g w ρ S σ H → Rep g w (.ref a) (.lst ds) → Rep g w (.ref c) (.lst es) →
    (∀ s' H' w', Le w0 w' → Inv X pins σ H' s' → At g w' ρ S σ H' → R (.ok (.ret (.bool (negB neg b)))) s') →
    codeAny (model X.prog X.w) A (.builtin "list.__eq__.loop" ⟨[.ref a, .ref c, rawInt i, rawInt (if neg then 3 else 2)], []⟩) R s := by
  intro m
  induction m with
  | zero =>
    intro i s H w hm hi hT l I At0 ra rc hR
    have hin : i = ds.length := by omega
    cases id ra with
    | lst hh rr =>
    cases id rc with
    | lst hh2 rr2 =>
    obtain ⟨its, rv, ⟨⟨cls, dd, dt, sl⟩, n, ho, hc, _, hd0⟩, _⟩ := I.list (SqL.of (At0.ih _ _ hh))
    obtain ⟨its2, rv2, ⟨⟨cls2, dd2, dt2, sl2⟩, n2, ho2, hc2, _, hd2⟩, _⟩ := I.list (SqL.of (At0.ih _ _ hh2))
    simp only at hc hd0 hc2 hd2
    subst hc hd0 hc2 hd2
    have hil : its.length = ds.length := by rw [vals_len rv, reps_len rr]
    have hil2 : its2.length = es.length := by rw [vals_len rv2, reps_len rr2]
    have hb : b = true := by
      rw [List.drop_of_length_le (by omega), List.drop_of_length_le (by omega)] at hT
      cases hT
      rfl
    subst hb
    refine codeAny_builtin entry_eq_loop ?_
    rw [Around.under_plainId plain_eq_loop _]
    obtain ⟨hp, g0, d0, tk, os⟩ := s
    have fin := hR _ H w l I At0
    have hi1 : its.toArray[((i : Nat) : Int).toNat]? = none := by simp; omega
    have hi2 : its2.toArray[((i : Nat) : Int).toNat]? = none := by simp; omega
    have hsz : its.toArray.size = its2.toArray.size := by simp; omega
    cases neg
    · wp_walk using wpAny_loadPart' ho, wpAny_loadPart' ho2
      rw [hi1, hi2]
      wp_walk using wpAny_loadPart' ho, wpAny_loadPart' ho2
      show R (.ok (.ret (.bool (its.toArray.size == its2.toArray.size)))) _
      rw [hsz, beq_self_eq_true]
      exact fin
    · wp_walk using wpAny_loadPart' ho, wpAny_loadPart' ho2
      rw [hi1, hi2]
      wp_walk using wpAny_loadPart' ho, wpAny_loadPart' ho2
      show R (.ok (.ret (.bool (its.toArray.size != its2.toArray.size)))) _
      rw [hsz, bne_self_eq_false]
      exact fin
  | succ m ih =>
    intro i s H w hm hi hT l I At0 ra rc hR
    have hlt : i < ds.length := by omega
    have hlt2 : i < es.length := by omega
    cases id ra with
    | lst hh rr =>
    cases id rc with
    | lst hh2 rr2 =>
    obtain ⟨its, rv, ⟨⟨cls, dd, dt, sl⟩, n, ho, hc, _, hd0⟩, _⟩ := I.list (SqL.of (At0.ih _ _ hh))
    obtain ⟨its2, rv2, ⟨⟨cls2, dd2, dt2, sl2⟩, n2, ho2, hc2, _, hd2⟩, _⟩ := I.list (SqL.of (At0.ih _ _ hh2))
    simp only at hc hd0 hc2 hd2
    subst hc hd0 hc2 hd2
    obtain ⟨x, hx⟩ : ∃ x, ds[i]? = some x := ⟨_, List.getElem?_eq_getElem hlt⟩
    obtain ⟨y, hy⟩ : ∃ y, es[i]? = some y := ⟨_, List.getElem?_eq_getElem hlt2⟩
    obtain ⟨v, hv, rd⟩ := reps_at rr hx
    obtain ⟨u, hu, ru⟩ := vals_at rv hv
    obtain ⟨v2, hv2, rd2⟩ := reps_at rr2 hy
    obtain ⟨u2, hu2, ru2⟩ := vals_at rv2 hv2
    have e1 : ds.drop i = x :: ds.drop (i + 1) := drop_cons hx
    have e2 : es.drop i = y :: es.drop (i + 1) := drop_cons hy
    have hc : ((i : Int) + 1) = ((i + 1 : Nat) : Int) := by push_cast; rfl
    have hi1 : its.toArray[((i : Nat) : Int).toNat]? = some u := by simpa using hu
    have hi2 : its2.toArray[((i : Nat) : Int).toNat]? = some u2 := by simpa using hu2
    have hgt1 : hgt x ≤ hgts ds := hgt_at hx
    refine codeAny_builtin entry_eq_loop ?_
    rw [Around.under_plainId plain_eq_loop _]
    have hrx : Room (k + 1 + hgt x) A.in1 := (Room.in1 (k := k + 1 + hgts ds) (hr.mono (by omega))).mono (by omega)
    obtain ⟨hp, g0, d0, tk, os⟩ := s
    rcases eqoks_drop hT e1 e2 with ⟨ho1, hT'⟩ | ⟨ho1, rfl⟩
    · have run := ho1 (A0 := A.in1) (Q := fun bb s' => bb = true ∧ ∃ H' w', Le w w' ∧ Inv X pins σ H' s' ∧ At g w' ρ S σ H') hrx hA I At0 rd rd2 (dtms_at hd hx) (dtms_at he hy) ru ru2 fun s' H' w' l' I' A' => ⟨rfl, H', w', l', I', A'⟩
      cases neg
      · wp_walk using wpAny_loadPart' ho, wpAny_loadPart' ho2
        rw [hi1, hi2]
        refine wpAny_bind (wpAny_mono run (fun bb s' hb => ?_) fun e s' z => hE e s' z)
        obtain ⟨rfl, H', w', l', I', A'⟩ := hb
        wp_walk
        rw [hc]
        exact ⟨plainId_quiet plain_eq_loop _, ih (i + 1) s' H' w' (by omega) hlt hT' (l.trans l') I' A' (ra.mono l'.s) (rc.mono l'.s) hR⟩
      · wp_walk using wpAny_loadPart' ho, wpAny_loadPart' ho2
        rw [hi1, hi2]
        refine wpAny_bind (wpAny_mono run (fun bb s' hb => ?_) fun e s' z => hE e s' z)
        obtain ⟨rfl, H', w', l', I', A'⟩ := hb
        wp_walk
        rw [hc]
        exact ⟨plainId_quiet plain_eq_loop _, ih (i + 1) s' H' w' (by omega) hlt hT' (l.trans l') I' A' (ra.mono l'.s) (rc.mono l'.s) hR⟩
    · have run := ho1 (A0 := A.in1) (Q := fun bb s' => bb = false ∧ ∃ H' w', Le w w' ∧ Inv X pins σ H' s' ∧ At g w' ρ S σ H') hrx hA I At0 rd rd2 (dtms_at hd hx) (dtms_at he hy) ru ru2 fun s' H' w' l' I' A' => ⟨rfl, H', w', l', I', A'⟩
      have after : ∀ (s' : Shared) (H' : Hp) (w' : Wd), Le w w' → Inv X pins σ H' s' → At g w' ρ S σ H' → ∃ (q1 q2 : Obj) (i1 i2 : Array Value) (n1 n2 : Nat) (z1 z2 : Value), s'.heap.get? a = some q1 ∧ s'.heap.get? c = some q2 ∧ q1.data = .seq i1 n1 ∧ q2.data = .seq i2 n2 ∧ i1[((i : Nat) : Int).toNat]? = some z1 ∧ i2[((i : Nat) : Int).toNat]? = some z2 := by
        intro s' H' w' l' I' A'
        obtain ⟨jts, qv, ⟨q1, m1, k1, _, _, k3⟩, _⟩ := I'.list (SqL.of (A'.ih _ _ (l'.s.i _ _ hh)))
        obtain ⟨jts2, qv2, ⟨q2, m2, k4, _, _, k6⟩, _⟩ := I'.list (SqL.of (A'.ih _ _ (l'.s.i _ _ hh2)))
        obtain ⟨z1, hz1, _⟩ := vals_at qv hv
        obtain ⟨z2, hz2, _⟩ := vals_at qv2 hv2
        exact ⟨q1, q2, jts.toArray, jts2.toArray, m1, m2, z1, z2, k1, k4, k3, k6, by simpa using hz1, by simpa using hz2⟩
      cases neg
      · wp_walk using wpAny_loadPart' ho, wpAny_loadPart' ho2
        rw [hi1, hi2]
        refine wpAny_bind (wpAny_mono run (fun bb s' hb => ?_) fun e s' z => hE e s' z)
        obtain ⟨rfl, H', w', l', I', A'⟩ := hb
        obtain ⟨⟨c1, f1, t1, o1⟩, ⟨c2, f2, t2, o2⟩, i1, i2, n1, n2, z1, z2, k1, k2, k3, k4, k5, k6⟩ := after s' H' w' l' I' A'
        simp only at k3 k4
        subst k3 k4
        have fin := hR _ H' w' (l.trans l') I' A'
        obtain ⟨hp2, g2, d2, tk2, os2⟩ := s'
        wp_walk using wpAny_loadPart' k1, wpAny_loadPart' k2
        rw [k5, k6]
        wp_walk
        exact fin
      · wp_walk using wpAny_loadPart' ho, wpAny_loadPart' ho2
        rw [hi1, hi2]
        refine wpAny_bind (wpAny_mono run (fun bb s' hb => ?_) fun e s' z => hE e s' z)
        obtain ⟨rfl, H', w', l', I', A'⟩ := hb
        obtain ⟨⟨c1, f1, t1, o1⟩, ⟨c2, f2, t2, o2⟩, i1, i2, n1, n2, z1, z2, k1, k2, k3, k4, k5, k6⟩ := after s' H' w' l' I' A'
        simp only at k3 k4
        subst k3 k4
        have fin := hR _ H' w' (l.trans l') I' A'
        obtain ⟨hp2, g2, d2, tk2, os2⟩ := s'
        wp_walk using wpAny_loadPart' k1, wpAny_loadPart' k2
        rw [k5, k6]
        wp_walk
        exact fin
end
end R3

/-! R3ci: == and != of lists and tuples that hold instances of class 0: the rule. -/
namespace R3
open PySem PySem.Spec PyProof.Rows L2
open SeqAt AutoSeq1 MeetsSeq MeetsSeq2 MeetsSeq3 SeqRoads2
section
variable {g : Sg} {X : Cx} {W : WX}
theorem EqOks.lens {S : Store} {k : Nat} : ∀ {xs ys : List D} {b : Bool}, EqOks g X S k xs ys b → (b = true → xs.length = ys.length)
  | _, _, _, .nil, _ => rfl
  | _, _, _, .left, h => by cases h
  | _, _, _, .right, h => by cases h
  | _, _, _, .hit _ r, h => by simp [r.lens h]
  | _, _, _, .miss _, h => by cases h
/-- where one side is at its end -/
theorem EqOks.ended {S : Store} {k : Nat} {xs ys : List D} {b : Bool} (h : EqOks g X S k xs ys b) (e : xs = [] ∨ ys = []) : b = (xs.length == ys.length) := by
  cases h with
  | nil => rfl
  | left => rfl
  | right => rfl
  | hit h r => rcases e with e | e <;> cases e
  | miss h => rcases e with e | e <;> cases e
theorem tup_rc {S : Store} {k : Nat} (hK : g.K = X.K) {ds es : List D} {b : Bool} (neg : Bool) (hT : EqOks g X S k ds es b) : RcOk g X S k (.tup ds) (.tup es) b neg := by
  intro A0 pins s σ H w ρ vx vy u v Q hr hA I At0 rx ry tx ty ru rv hQ
  cases id rx with
  | tup hh rr =>
  cases id ry with
  | tup hh2 rr2 =>
  rename_i a vs c vs2
  obtain rfl : u = .ref a := ru
  obtain rfl : v = .ref c := rv
  obtain ⟨its, qv, ⟨⟨cls, dd, dt, sl⟩, ho, hc, n, hd0⟩, _⟩ := I.tuple (hK ▸ At0.t hh)
  obtain ⟨its2, qv2, ⟨⟨cls2, dd2, dt2, sl2⟩, ho2, hc2, n2, hd2⟩, _⟩ := I.tuple (hK ▸ At0.t hh2)
  simp only at hc hd0 hc2 hd2
  subst hc hd0 hc2 hd2
  have hil : its.length = ds.length := by rw [vals_len qv, reps_len rr]
  have hil2 : its2.length = es.length := by rw [vals_len qv2, reps_len rr2]
  have hh3 : hgt (.tup ds) = hgts ds + 1 := rfl
  rw [hh3] at hr
  have hr1 : Room (k + 1 + hgts ds) A0.in1 := Room.in1 (hr.mono (by omega))
  have hu : A0.units < cLine := by have := hr.units; omega
  have ta : s.TypeIs (.ref a) "tuple" := ⟨_, ho, rfl⟩
  have tb : s.TypeIs (.ref c) "tuple" := ⟨_, ho2, rfl⟩
  have f2 := AutoSeq1.sub_tuple_tuple
  have hZ : (its.zip its2).length = min its.length its2.length := List.length_zip
  -- a turn
  have turn : ∀ (i : Nat) (y x : Value) (rest : List (Value × Value)) (s' : Shared) (H' : Hp) (w' : Wd), (y, x) :: rest = (its.zip its2).drop i → Le w w' → Inv X pins σ H' s' → At g w' ρ S σ H' → EqOks g X S k (ds.drop i) (es.drop i) b → ∀ (P : Bool → Shared → Prop),
      (∀ (bb : Bool) (s2 : Shared) (H2 : Hp) (w2 : Wd), Le w w2 → Inv X pins σ H2 s2 → At g w2 ρ S σ H2 → ((bb = true ∧ rest = (its.zip its2).drop (i + 1) ∧ EqOks g X S k (ds.drop (i + 1)) (es.drop (i + 1)) b) ∨ (bb = false ∧ b = false)) → P bb s2) → wpAny (model X.prog X.w) A0.in1 (eqBool y x) P X.xe s' := by
    intro i y x rest s' H' w' hz l' I' A' hT' P hP
    have hlt : i < (its.zip its2).length := by
      rcases Nat.lt_or_ge i (its.zip its2).length with h' | h'
      · exact h'
      · rw [List.drop_of_length_le h'] at hz; cases hz
    have hm : i < min its.length its2.length := hZ ▸ hlt
    have h1 : i < its.length := Nat.lt_of_lt_of_le hm (Nat.min_le_left _ _)
    have h2 : i < its2.length := Nat.lt_of_lt_of_le hm (Nat.min_le_right _ _)
    rw [List.drop_eq_getElem_cons hlt] at hz
    injection hz with hyx hrest
    have hy : y = its[i] := by have := congrArg Prod.fst hyx; simpa using this
    have hx : x = its2[i] := by have := congrArg Prod.snd hyx; simpa using this
    obtain ⟨d1, k1⟩ : ∃ d, ds[i]? = some d := ⟨_, List.getElem?_eq_getElem (by omega)⟩
    obtain ⟨d2, k2⟩ : ∃ d, es[i]? = some d := ⟨_, List.getElem?_eq_getElem (by omega)⟩
    obtain ⟨v1, m1, r1⟩ := reps_at rr k1
    obtain ⟨u1, m2, q1⟩ := vals_at qv m1
    obtain ⟨v2, m3, r2⟩ := reps_at rr2 k2
    obtain ⟨u2, m4, q2⟩ := vals_at qv2 m3
    rw [List.getElem?_eq_getElem h1] at m2
    rw [List.getElem?_eq_getElem h2] at m4
    cases m2
    cases m4
    subst hy hx
    have hg1 : hgt d1 ≤ hgts ds := hgt_at k1
    rcases eqoks_drop hT' (drop_cons k1) (drop_cons k2) with ⟨ho1, hT2⟩ | ⟨ho1, hb⟩
    · exact ho1 (A0 := A0.in1) (hr1.mono (by omega)) hA I' A' (r1.mono l'.s) (r2.mono l'.s) (dtms_at tx k1) (dtms_at ty k2) q1 q2 fun s2 H2 w2 l2 I2 A2 => hP true s2 H2 w2 (l'.trans l2) I2 A2 (.inl ⟨rfl, hrest, hT2⟩)
    · exact ho1 (A0 := A0.in1) (hr1.mono (by omega)) hA I' A' (r1.mono l'.s) (r2.mono l'.s) (dtms_at tx k1) (dtms_at ty k2) q1 q2 fun s2 H2 w2 l2 I2 A2 => hP false s2 H2 w2 (l'.trans l2) I2 A2 (.inr ⟨rfl, hb⟩)
  have done : ∀ (i : Nat), [] = (its.zip its2).drop i → EqOks g X S k (ds.drop i) (es.drop i) b → b = (its.length == its2.length) := by
    intro i hz hT'
    have hge : min its.length its2.length ≤ i := by
      rcases Nat.lt_or_ge i (its.zip its2).length with h' | h'
      · rw [List.drop_eq_getElem_cons h'] at hz; cases hz
      · exact hZ ▸ h'
    cases hb : b with
    | true =>
      rw [hb] at hT
      rw [hil, hil2, hT.lens rfl, beq_self_eq_true]
    | false =>
      rw [hb] at hT'
      cases hq : its.length == its2.length with
      | false => rfl
      | true =>
        have e0 := eq_of_beq hq
        have e := hT'.ended (by
          rcases Nat.le_total its.length its2.length with z | z
          · exact .inl (List.drop_of_length_le (by omega))
          · exact .inr (List.drop_of_length_le (by omega)))
        rw [List.length_drop, List.length_drop] at e
        have : ds.length - i = es.length - i := by omega
        rw [this, beq_self_eq_true] at e
        cases e
  cases neg
  · refine wpAny_richCompare_same_room (op := .Eq) ta tb F.slot_tuple_eq (call_meetsIn (S := fun A R s0 => A = A0 ∧ s0 = s ∧ R = wants _ _) F.slot_tuple_eq ta F.entry_tuple_eq (F.args_tuple_eq_2 _ _) (.of_wp fun A R s0 h0 => ?_) ⟨rfl, rfl, rfl⟩) hu
    obtain ⟨rfl, rfl, rfl⟩ := h0
    obtain ⟨hp, g0, d0, tk, os⟩ := s0
    wp_walk using wpAny_loadPart' ho, wpAny_loadPart' ho2, wpAny_forIn_list _ (fun rest bb s' => bb.1 = none ∧ ∃ H' w' i, Le w w' ∧ Inv X pins σ H' s' ∧ At g w' ρ S σ H' ∧ rest = (its.zip its2).drop i ∧ EqOks g X S k (ds.drop i) (es.drop i) b) _
    case turn =>
      rintro ⟨y, x⟩ rest bb s' ⟨hb', H', w', i, l', I', A', hz, hT'⟩
      refine wpAny_bind (turn i y x rest s' H' w' hz l' I' A' hT' _ fun b2 s2 H2 w2 l2 I2 A2 hc => ?_)
      rcases hc with ⟨rfl, hr2, hT2⟩ | ⟨rfl, rfl⟩
      · wp_walk
        exact ⟨rfl, H2, w2, i + 1, l2, I2, A2, hr2, hT2⟩
      · wp_walk
        exact ⟨_, rfl, (fun z => nomatch z), hQ s2 H2 w2 l2 I2 A2⟩
    case fin =>
      rintro ⟨b1, b2⟩ s' ⟨hb', H', w', i, l', I', A', hz, hT'⟩
      simp only at hb'
      subst hb'
      have e := done i hz hT'
      wp_walk
      refine ⟨_, rfl, (fun z => nomatch z), ?_⟩
      show Q (.bool (its.toArray.size == its2.toArray.size)) s'
      rw [List.size_toArray, List.size_toArray, ← e]
      exact hQ s' H' w' l' I' A'
    case h =>
      exact ⟨rfl, H, w, 0, Le.refl w, I, At0, rfl, hT⟩
  · refine wpAny_richCompare_same_room (op := .NotEq) ta tb F.slot_tuple_ne (call_meetsIn (S := fun A R s0 => A = A0 ∧ s0 = s ∧ R = wants _ _) F.slot_tuple_ne ta F.entry_tuple_ne (F.args_tuple_ne_2 _ _) (.of_wp fun A R s0 h0 => ?_) ⟨rfl, rfl, rfl⟩) hu
    obtain ⟨rfl, rfl, rfl⟩ := h0
    obtain ⟨hp, g0, d0, tk, os⟩ := s0
    wp_walk using wpAny_loadPart' ho, wpAny_loadPart' ho2, wpAny_forIn_list _ (fun rest bb s' => bb.1 = none ∧ ∃ H' w' i, Le w w' ∧ Inv X pins σ H' s' ∧ At g w' ρ S σ H' ∧ rest = (its.zip its2).drop i ∧ EqOks g X S k (ds.drop i) (es.drop i) b) _
    case turn =>
      rintro ⟨y, x⟩ rest bb s' ⟨hb', H', w', i, l', I', A', hz, hT'⟩
      refine wpAny_bind (turn i y x rest s' H' w' hz l' I' A' hT' _ fun b2 s2 H2 w2 l2 I2 A2 hc => ?_)
      rcases hc with ⟨rfl, hr2, hT2⟩ | ⟨rfl, rfl⟩
      · wp_walk
        exact ⟨rfl, H2, w2, i + 1, l2, I2, A2, hr2, hT2⟩
      · wp_walk
        exact ⟨_, rfl, (fun z => nomatch z), hQ s2 H2 w2 l2 I2 A2⟩
    case fin =>
      rintro ⟨b1, b2⟩ s' ⟨hb', H', w', i, l', I', A', hz, hT'⟩
      simp only at hb'
      subst hb'
      have e := done i hz hT'
      wp_walk
      refine ⟨_, rfl, (fun z => nomatch z), ?_⟩
      show Q (.bool (its.toArray.size != its2.toArray.size)) s'
      have e2 : (its.toArray.size != its2.toArray.size) = !b := by rw [List.size_toArray, List.size_toArray, e]; rfl
      rw [e2]
      exact hQ s' H' w' l' I' A'
    case h =>
      exact ⟨rfl, H, w, 0, Le.refl w, I, At0, rfl, hT⟩
theorem lst_rc {S : Store} {k : Nat} (hK : g.K = X.K) {ds es : List D} {b : Bool} (neg : Bool) (hl : ds.length = es.length) (hT : EqOks g X S k ds es b) : RcOk g X S k (.lst ds) (.lst es) b neg := by
  intro A0 pins s σ H w ρ vx vy u v Q hr hA I At0 rx ry tx ty ru rv hQ
  cases id rx with
  | lst hh rr =>
  cases id ry with
  | lst hh2 rr2 =>
  rename_i a vs c vs2
  obtain rfl : u = .ref a := ru
  obtain rfl : v = .ref c := rv
  obtain ⟨its, qv, ⟨⟨cls, dd, dt, sl⟩, n, ho, hc, _, hd0⟩, _⟩ := I.list (SqL.of (At0.ih _ _ hh))
  obtain ⟨its2, qv2, ⟨⟨cls2, dd2, dt2, sl2⟩, n2, ho2, hc2, _, hd2⟩, _⟩ := I.list (SqL.of (At0.ih _ _ hh2))
  simp only at hc hd0 hc2 hd2
  subst hc hd0 hc2 hd2
  have hil : its.length = ds.length := by rw [vals_len qv, reps_len rr]
  have hil2 : its2.length = es.length := by rw [vals_len qv2, reps_len rr2]
  have hh3 : hgt (.lst ds) = hgts ds + 1 := rfl
  rw [hh3] at hr
  have hu : A0.units < cLine := by have := hr.units; omega
  have ta : s.TypeIs (.ref a) "list" := ⟨_, ho, rfl⟩
  have tb : s.TypeIs (.ref c) "list" := ⟨_, ho2, rfl⟩
  have f3 := AutoSeq1.sub_list_list
  have hne : ¬ (its.toArray.size != its2.toArray.size) = true := by simp; omega
  cases neg
  · refine wpAny_richCompare_same_room (op := .Eq) ta tb F.slot_list_eq (call_meetsIn (S := fun A R s0 => A = A0 ∧ s0 = s ∧ R = wants _ _) F.slot_list_eq ta F.entry_list_eq (F.args_list_eq_2 _ _) (fun A R s0 h0 => ?_) ⟨rfl, rfl, rfl⟩) hu
    obtain ⟨rfl, rfl, rfl⟩ := h0
    have loop := eql_loop (A := A) (a := a) (c := c) (pins := pins) (σ := σ) (ρ := ρ) (w0 := w) hK false hl tx ty (R := wants (fun v s' => v ≠ Value.notImplemented ∧ Q v s') X.xe) (hr.mono (by omega)) hA (fun e s' h => h) _ 0 s0 H w rfl (Nat.zero_le _) hT (Le.refl w) I At0 rx ry fun s' H' w' l' I' A' => ⟨(fun z => nomatch z), hQ s' H' w' l' I' A'⟩
    obtain ⟨hp, g0, d0, tk, os⟩ := s0
    wp_walk using wpAny_loadPart' ho, wpAny_loadPart' ho2
    exact ⟨plainId_quiet plain_eq_loop _, loop⟩
  · refine wpAny_richCompare_same_room (op := .NotEq) ta tb F.slot_list_ne (call_meetsIn (S := fun A R s0 => A = A0 ∧ s0 = s ∧ R = wants _ _) F.slot_list_ne ta F.entry_list_ne (F.args_list_ne_2 _ _) (fun A R s0 h0 => ?_) ⟨rfl, rfl, rfl⟩) hu
    obtain ⟨rfl, rfl, rfl⟩ := h0
    have loop := eql_loop (A := A) (a := a) (c := c) (pins := pins) (σ := σ) (ρ := ρ) (w0 := w) hK true hl tx ty (R := wants (fun v s' => v ≠ Value.notImplemented ∧ Q v s') X.xe) (hr.mono (by omega)) hA (fun e s' h => h) _ 0 s0 H w rfl (Nat.zero_le _) hT (Le.refl w) I At0 rx ry fun s' H' w' l' I' A' => ⟨(fun z => nomatch z), hQ s' H' w' l' I' A'⟩
    obtain ⟨hp, g0, d0, tk, os⟩ := s0
    wp_walk using wpAny_loadPart' ho, wpAny_loadPart' ho2
    exact ⟨plainId_quiet plain_eq_loop _, loop⟩
theorem lst_rcn {S : Store} {k : Nat} (hK : g.K = X.K) {ds es : List D} (neg : Bool) (hl : ds.length ≠ es.length) : RcOk g X S k (.lst ds) (.lst es) false neg := by
  intro A0 pins s σ H w ρ vx vy u v Q hr hA I At0 rx ry tx ty ru rv hQ
  cases id rx with
  | lst hh rr =>
  cases id ry with
  | lst hh2 rr2 =>
  rename_i a vs c vs2
  obtain rfl : u = .ref a := ru
  obtain rfl : v = .ref c := rv
  obtain ⟨its, qv, ⟨⟨cls, dd, dt, sl⟩, n, ho, hc, _, hd0⟩, _⟩ := I.list (SqL.of (At0.ih _ _ hh))
  obtain ⟨its2, qv2, ⟨⟨cls2, dd2, dt2, sl2⟩, n2, ho2, hc2, _, hd2⟩, _⟩ := I.list (SqL.of (At0.ih _ _ hh2))
  simp only at hc hd0 hc2 hd2
  subst hc hd0 hc2 hd2
  have hil : its.length = ds.length := by rw [vals_len qv, reps_len rr]
  have hil2 : its2.length = es.length := by rw [vals_len qv2, reps_len rr2]
  have hu : A0.units < cLine := by have := hr.units; omega
  have ta : s.TypeIs (.ref a) "list" := ⟨_, ho, rfl⟩
  have tb : s.TypeIs (.ref c) "list" := ⟨_, ho2, rfl⟩
  have f3 := AutoSeq1.sub_list_list
  have hne : (its.toArray.size != its2.toArray.size) = true := by simp; omega
  have fin := hQ s H w (Le.refl w) I At0
  cases neg
  · refine wpAny_richCompare_same_room (op := .Eq) ta tb F.slot_list_eq (call_meetsIn (S := fun A R s0 => A = A0 ∧ s0 = s ∧ R = wants _ _) F.slot_list_eq ta F.entry_list_eq (F.args_list_eq_2 _ _) (fun A R s0 h0 => ?_) ⟨rfl, rfl, rfl⟩) hu
    obtain ⟨rfl, rfl, rfl⟩ := h0
    obtain ⟨hp, g0, d0, tk, os⟩ := s0
    wp_walk using wpAny_loadPart' ho, wpAny_loadPart' ho2
    exact ⟨(fun z => nomatch z), fin⟩
  · refine wpAny_richCompare_same_room (op := .NotEq) ta tb F.slot_list_ne (call_meetsIn (S := fun A R s0 => A = A0 ∧ s0 = s ∧ R = wants _ _) F.slot_list_ne ta F.entry_list_ne (F.args_list_ne_2 _ _) (fun A R s0 h0 => ?_) ⟨rfl, rfl, rfl⟩) hu
    obtain ⟨rfl, rfl, rfl⟩ := h0
    obtain ⟨hp, g0, d0, tk, os⟩ := s0
    wp_walk using wpAny_loadPart' ho, wpAny_loadPart' ho2
    exact ⟨(fun z => nomatch z), fin⟩
/-- from richCompare to eqBool -/
theorem eqok_rc {S : Store} {k : Nat} (hK : g.K = X.K) {x y : D} {b : Bool} (h : RcOk g X S k x y b false) (hx : (∃ ds, x = .tup ds) ∨ ∃ ds, x = .lst ds) (hs : x = y → b = true) : EqOk g X S k x y b := by
  intro A0 pins s σ H w ρ vx vy u v Q hr hA I At0 rx ry tx ty ru rv hQ
  obtain ⟨a, rfl⟩ : ∃ a, vx = .ref a := by
    rcases hx with ⟨ds, rfl⟩ | ⟨ds, rfl⟩
    · cases rx; exact ⟨_, rfl⟩
    · cases rx; exact ⟨_, rfl⟩
  obtain rfl : u = .ref a := ru
  refine eqb_ref (fun e => ?_) ?_
  · subst e
    have ev : vy = .ref a := by cases vy <;> first | (obtain ⟨_, z⟩ := rv; cases z; done) | (cases rv; rfl) | (cases rv; done)
    subst ev
    rw [hs (rep_det hK I At0 rx ry tx ty)] at hQ
    exact hQ s H w (Le.refl w) I At0
  · exact h hr hA I At0 rx ry tx ty rfl rv fun s' H' w' l' I' A' => ⟨_, rfl, hQ s' H' w' l' I' A'⟩
mutual
theorem eq1_ok {S : Store} {k : Nat} {C : Ct} {xn : Str} (F : OwnN X.prog X.w X.mg X.base g k 0 "__eq__" 2 C) (hx : g.ad 0 = He.ga X.K xn) (hf : fRight xn X.K = true) (hK : g.K = X.K) (tk : Takes X W) : ∀ {x y : D} {b : Bool}, Eq1 C S x y b → EqOk g X S k x y b
  | _, _, _, .flat h1 h2 => eqok_flat h1 h2 hK
  | _, _, _, .obj hy hr h => eqok_obj F hx hf hK tk hy hr h
  | _, _, _, .tup h => eqok_rc hK (tup_rc hK false (eql_ok F hx hf hK tk h)) (.inl ⟨_, rfl⟩) (fun e => h.same (D.tup.inj e))
  | _, _, _, .lst hl h => eqok_rc hK (lst_rc hK false hl (eql_ok F hx hf hK tk h)) (.inr ⟨_, rfl⟩) (fun e => h.same (D.lst.inj e))
  | _, _, _, .lstn hl => eqok_rc hK (lst_rcn hK false hl) (.inr ⟨_, rfl⟩) (fun e => absurd (congrArg List.length (D.lst.inj e)) hl)
theorem eql_ok {S : Store} {k : Nat} {C : Ct} {xn : Str} (F : OwnN X.prog X.w X.mg X.base g k 0 "__eq__" 2 C) (hx : g.ad 0 = He.ga X.K xn) (hf : fRight xn X.K = true) (hK : g.K = X.K) (tk : Takes X W) : ∀ {xs ys : List D} {b : Bool}, EqL C S xs ys b → EqOks g X S k xs ys b
  | _, _, _, .nil => .nil
  | _, _, _, .left => .left
  | _, _, _, .right => .right
  | _, _, _, .hit h r => .hit (eq1_ok F hx hf hK tk h) (eql_ok F hx hf hK tk r)
  | _, _, _, .miss h => .miss (eq1_ok F hx hf hK tk h)
end
/-- x == y, lists or tuples -/
def rEqN (neg : Bool) (C : Ct) (x y : D) (S : Store) (K : KD) (_ : KX) : Prop := ∃ b, Eq1 C S x y b ∧ ((∃ ds, x = .tup ds) ∧ (∃ es, y = .tup es) ∨ (∃ ds, x = .lst ds) ∧ ∃ es, y = .lst es) ∧ dtm x = true ∧ dtm y = true ∧ hgt x ≤ 8 ∧ K (.bl (negB neg b)) S
theorem flat_lists {k : Nat} (hK : g.K = X.K) (neg : Bool) {S : Store} {x y : D} (hx : okN 8 x = true) (hy : okN 8 y = true) : ∀ {pins : List (Addr × Obj)} {s : Shared} {σ : L2.St} {H : Hp} {w : Wd} {ρ : List Sl} {vx vy : V} {u v : Value} {K : KD} {Q : VK}, Room k X.A → Inv X pins σ H s → At g w ρ S σ H → Rep g w vx x → Rep g w vy y → RelV vx u → RelV vy v →
    KOk g w ρ σ K Q → K (.bl (negB neg (eqD x y))) S → wpAny (model X.prog X.w) X.A (compareOp (if neg then .NotEq else .Eq) u v) (EP X pins σ Q) X.xe s := by
  intro pins s σ H w ρ vx vy u v K Q hr I At0 rx ry ru rv ko q
  cases neg
  · exact ueq hK hr.units pins s σ H w ρ S x y vx vy u v K Q I ru rv At0 rx ry ko ⟨hx, hy, q⟩
  · exact une hK hr.units pins s σ H w ρ S x y vx vy u v K Q I ru rv At0 rx ry ko ⟨hx, hy, q⟩
theorem eqN {neg : Bool} {k j : Nat} {C : Ct} {xn : Str} (F : OwnN X.prog X.w X.mg X.base g k 0 "__eq__" 2 C) (hx : g.ad 0 = He.ga X.K xn) (hf : fRight xn X.K = true) (hK : g.K = X.K) (hr : Room j X.A) (hk : k + 10 ≤ j) (tk : Takes X W) : OpX g X W (compareOp (if neg then .NotEq else .Eq)) (rEqN neg C) := by
  intro pins s σ H w ρ S x y vx vy u v K ex Q I ru rv A rx ry xo ko q
  obtain ⟨b, e, hs, tx, ty, hg8, q⟩ := q
  have fin : ∀ s' H' w', Le w w' → Inv X pins σ H' s' → At g w' ρ S σ H' → EP X pins σ Q (.bool (negB neg b)) s' := fun s' H' w' l' I' A' => ⟨.bl _, H', I', rfl, ko _ S q _ w' H' l' A' (.bl _)⟩
  have key : RcOk g X S k x y b neg → wpAny (model X.prog X.w) X.A (compareOp (if neg then .NotEq else .Eq) u v) (EP X pins σ Q) X.xe s := fun h => by
    have z := h (A0 := X.A) (Q := EP X pins σ Q) (hr.mono (by omega)) I.env0.frames I A rx ry tx ty ru rv fin
    cases neg
    · exact z
    · exact z
  cases e with
  | flat h1 h2 => exact flat_lists hK neg h1 h2 hr I A rx ry ru rv ko q
  | obj hy hr h => rcases hs with ⟨⟨_, z⟩, _⟩ | ⟨⟨_, z⟩, _⟩ <;> cases z
  | tup h => exact key (tup_rc hK neg (eql_ok F hx hf hK tk h))
  | lst hl h => exact key (lst_rc hK neg hl (eql_ok F hx hf hK tk h))
  | lstn hl => exact key (lst_rcn hK neg hl)
end
end R3

/-! R3cj: methods called by position and keywords; promises with keyword-only defaults; isinstance of objects of the store; a test of None by the store. -/
namespace R3
open PySem PySem.Spec PyProof.Rows L2
section
variable {g : Sg} {X : Cx} {W : WX} {a e o : Expr} {pos apos : Pos} {fa fe fo : FE} {es : List Expr} {kws : List Keyword} {fr fk : FA}
/-- a method that gives a new list, by keywords -/
structure MetLK (P : Program) (w : World) (mg : Str → Option Value) (base : Heap) (g : Sg) (k : Nat) (c : Nat) (m : Str) (n : Nat) (ks : List Str) (C : CtL) : Prop where
  ex : ∃ f, Meth g.K (g.ad c) m f ∧ FnK P w g.K mg base (L2.CX P w) k f n ks (spOfL g (n + ks.length) C)
theorem run_ctLK {A0 : Around} {k n : Nat} {ks : List Str} {C : CtL} {fn : Addr} {pins : List (Addr × Obj)} {s : Shared} {σ : L2.St} {H : Hp} {w : Wd} {ρ : List Sl} {S : Store} {ds es : List D} {vs zs : List V} {us ws : List Value} {K : List D → Store → Prop} {ex : KX} {Q : VK}
    (F : FnK X.prog X.w X.K X.mg X.base (L2.CX X.prog X.w) k fn n ks (spOfL g (n + ks.length) C)) (hr : Room k A0) (e0 : Env0 X.prog X.w X.K X.mg X.base A0 X.stack s H) (tk : Takes X W) (I : Inv X pins σ H s) (rv : Vals vs us) (rz : Vals zs ws) (A : At g w ρ S σ H) (rr : Reps g w vs ds) (re : Reps g w zs es) (hn : ds.length = n) (hm : es.length = ks.length)
    (xo : XOk g W σ ρ w ex) (ko : LOk g w ρ σ K Q) (q : C (ds ++ es) S K ex) :
    codeAny (model X.prog X.w) A0 (.call (.ref fn) ⟨us, ks.zip ws⟩) (fun r s' => match r with | .ok (.ret v) => EP X pins σ Q v s' | .ok _ => False | .error e => X.xe e s') s := by
  refine codeAny_mono (F A0 X.stack s H us ws vs zs Q (WE W σ) hr e0 rv rz (rr.length.trans hn) (re.length.trans hm) ?_) fun r s' hq => ?_
  · refine ⟨w.inner S H, ds ++ es, S, K, ex, by rw [List.length_append, hn, hm], A.enter, reps_inner (rr.app re), fun d S' k p ps w' H' l A' e1 f1 r' => ?_, fun x S' e w' H' cls dd l A' r' => ?_, q⟩
    · obtain ⟨l3, A3⟩ := A.leave l A'
      exact ko d S' k p ps _ H' l3 A3 e1 (fresh_out A l f1) (r'.mono sub_outer)
    · obtain ⟨l2, A2⟩ := A.leave l A'
      obtain ⟨h1, a, vs, h2, h3, h4, h5⟩ := r'
      exact xo x S' e _ H' cls dd l2 A2 ⟨h1, a, vs, h2, h3, h4, h5.mono sub_outer⟩
  · cases r with
    | error e => exact passAt tk σ pins H s e s' I hq
    | ok fl =>
      cases fl with
      | ret u => exact I.after hq
      | next => exact False.elim hq
      | brk => exact False.elim hq
      | cont => exact False.elim hq
/-- o.m(e, .., k = v, ..) -/
def wMethLK (c n m : Nat) (C : CtL) (fo : FE) (f h : FA) (ρ : List Sl) (S : Store) (K : List D → Store → Prop) (ex : KX) : Prop := fo ρ S (fun x S1 => (∃ ds, insOf c S1 x = some ds) ∧ f ρ S1 (fun ds S2 => h ρ S2 (fun es S3 => (x :: ds).length = n ∧ es.length = m ∧ C (x :: ds ++ es) S3 K ex) ex) ex) ex
theorem emethLK {m : Str} {k j c n nk : Nat} {ks : List Str} {C : CtL} {pl : Sem Bool} (ho : EV g X W o fo) (F : MetLK X.prog X.w X.mg X.base g k c m n ks C) (hK : g.K = X.K) (hc : Cls g.K (g.ad c)) (hm : m ∉ g.fl c) (hr : Room j X.A) (hk : k ≤ j) (tk : Takes X W) (ha : EA g X W (e :: es) fr) (hq : EK g X W kws fk)
    (hall : (backToKw pos (keywordEach kws X.env)).all (·.1.isSome) = true := by rfl) (hks : (backToKw pos (keywordEach kws X.env)).filterMap (·.1) = ks := by rfl)
    (hpl : ((backTo pos (starEach (e :: es) X.env)).any (·.1) || (backToKw pos (keywordEach kws X.env)).any (·.1.isNone)) = false := by rfl)
    (hst : starEach (e :: es) X.env = (false, eval e X.env) :: starEach es X.env := by rfl)
    (ht : eval (.Call (.Attribute o m apos) (e :: es) kws pos) X.env = (do
      let ov ← eval o X.env
      standAt apos.atName
      let (f, first) ← holding [ov] (getMethod ov m pl)
      callWith pos f first (backTo pos (starEach (e :: es) X.env)) (backToKw pos (keywordEach kws X.env))) := by rfl) (hnk : ks.length = nk := by rfl) : EL g X W (.Call (.Attribute o m apos) (e :: es) kws pos) (wMethLK c n nk C fo fr fk) := by
  subst hnk
  refine ⟨fun pins s σ H Q I h => ?_⟩
  obtain ⟨w, ρ, S, K, ex, A, xo, ko, q⟩ := h
  obtain ⟨fn, hme, F⟩ := F.ex
  rw [hK] at hme F hc
  refine PySem.W.methodCall_KW (pl := pl) (thn (ho.run pins s σ H (fun v H1 => ∃ x w1 S1, Le w w1 ∧ At g w1 ρ S1 σ H1 ∧ Rep g w1 v x ∧ (∃ ds, insOf c S1 x = some ds) ∧ fr ρ S1 (fun ds S2 => fk ρ S2 (fun es S3 => (x :: ds).length = n ∧ es.length = ks.length ∧ C (x :: ds ++ es) S3 K ex) ex) ex) I
    ⟨w, ρ, S, _, ex, A, xo, fun x S1 q1 v w1 H1 l1 A1 r1 => ⟨x, w1, S1, l1, A1, r1, q1⟩, q⟩) fun u s1 hh => ?_) ht
  obtain ⟨v, H1, I1, ru, x, w1, S1, l1, A1, r1, ⟨ds, hi⟩, q1⟩ := hh
  obtain ⟨a, dx, vs, rfl, e1, hl, rr⟩ := ins_at A1 r1 hi
  obtain rfl : u = Value.ref a := ru
  refine getmeth_ok I1 e1 hc hme (lookup_zip_none hm) ?_
  refine PySem.W.callWith_KW (first := [.ref a]) (h₀ := X.base) I.ok.mod.kin hme.kp hall (thn (rdA_run ha pos I1 A1 (xo.later l1) q1) fun us s2 ⟨ws, H2, w2, ds2, S2, I2, rv, l2, A2, r2, q2⟩ => thn (rdK_run hq pos I2 A2 (xo.later (l1.trans l2)) q2) fun us3 s3 ⟨ws3, H3, w3, es3, S3, I3, rv3, l3, A3, r3, hn, hm3, q3⟩ => ⟨I3.kIn, ?_⟩) hpl hst
  rw [hks]
  have l12 := l1.trans (l2.trans l3)
  exact wpAny_call (run_ctLK (us := .ref a :: us) (vs := .ref a :: ws) (ds := x :: ds2) F (hr.mono hk) I3.env0 tk I3 (.cons rfl rv) rv3 A3 (.cons (r1.mono (l2.trans l3).s) (r2.mono l3.s)) r3 hn hm3 (xo.later l12) (ko.later l12) q3)
/-- o.m(k = v, ..) gives a new list -/
def wMethLK0 (c m : Nat) (C : CtL) (fo : FE) (h : FA) (ρ : List Sl) (S : Store) (K : List D → Store → Prop) (ex : KX) : Prop := fo ρ S (fun x S1 => (∃ ds, insOf c S1 x = some ds) ∧ h ρ S1 (fun es S3 => es.length = m ∧ C (x :: es) S3 K ex) ex) ex
theorem emethLK0 {m : Str} {k j c nk : Nat} {ks : List Str} {C : CtL} {pl : Sem Bool} (ho : EV g X W o fo) (F : MetLK X.prog X.w X.mg X.base g k c m 1 ks C) (hK : g.K = X.K) (hc : Cls g.K (g.ad c)) (hm : m ∉ g.fl c) (hr : Room j X.A) (hk : k ≤ j) (tk : Takes X W) (hq : EK g X W kws fk)
    (hall : (backToKw pos (keywordEach kws X.env)).all (·.1.isSome) = true := by rfl) (hks : (backToKw pos (keywordEach kws X.env)).filterMap (·.1) = ks := by rfl)
    (hpl : ((backTo pos (starEach [] X.env)).any (·.1) || (backToKw pos (keywordEach kws X.env)).any (·.1.isNone)) = false := by rfl)
    (ht : eval (.Call (.Attribute o m apos) [] kws pos) X.env = (do
      let ov ← eval o X.env
      standAt apos.atName
      let (f, first) ← holding [ov] (getMethod ov m pl)
      callWith pos f first (backTo pos (starEach [] X.env)) (backToKw pos (keywordEach kws X.env))) := by rfl) (hnk : ks.length = nk := by rfl) : EL g X W (.Call (.Attribute o m apos) [] kws pos) (wMethLK0 c nk C fo fk) := by
  subst hnk
  refine ⟨fun pins s σ H Q I h => ?_⟩
  obtain ⟨w, ρ, S, K, ex, A, xo, ko, q⟩ := h
  obtain ⟨fn, hme, F⟩ := F.ex
  rw [hK] at hme F hc
  refine PySem.W.methodCall_KW (pl := pl) (thn (ho.run pins s σ H (fun v H1 => ∃ x w1 S1, Le w w1 ∧ At g w1 ρ S1 σ H1 ∧ Rep g w1 v x ∧ (∃ ds, insOf c S1 x = some ds) ∧ fk ρ S1 (fun es S3 => es.length = ks.length ∧ C (x :: es) S3 K ex) ex) I
    ⟨w, ρ, S, _, ex, A, xo, fun x S1 q1 v w1 H1 l1 A1 r1 => ⟨x, w1, S1, l1, A1, r1, q1⟩, q⟩) fun u s1 hh => ?_) ht
  obtain ⟨v, H1, I1, ru, x, w1, S1, l1, A1, r1, ⟨ds, hi⟩, q1⟩ := hh
  obtain ⟨a, dx, vs, rfl, e1, hl, rr⟩ := ins_at A1 r1 hi
  obtain rfl : u = Value.ref a := ru
  refine getmeth_ok I1 e1 hc hme (lookup_zip_none hm) ?_
  refine PySem.W.callWith_KW0 (first := [.ref a]) (h₀ := X.base) I.ok.mod.kin hme.kp hall (thn (rdK_run hq pos I1 A1 (xo.later l1) q1) fun us s2 ⟨ws, H2, w2, es2, S2, I2, rv, l2, A2, r2, hn, q2⟩ => ⟨I2.kIn, ?_⟩) hpl
  rw [hks]
  exact wpAny_call (run_ctLK (us := [.ref a]) (vs := [.ref a]) (ds := [x]) F (hr.mono hk) I2.env0 tk I2 (.cons rfl .nil) rv A2 (.one (r1.mono l2.s)) r2 rfl hn (xo.later (l1.trans l2)) (ko.later (l1.trans l2)) q2)
/-! isinstance of an object of the store -/
def pIsiS (yes : List String) (own : List (Nat × Bool)) (S : Store) (d : D) : Option Bool := match d with
  | .ref k => (match S[k]? with
    | some (some (.ins c _)) => own.lookup c
    | some (some (.lst _)) => some (yes.contains "list")
    | _ => none)
  | d => pIsi yes own d
end
section
variable {g : Sg}
/-- defaults that fill up -/
theorem dflOL {P : Program} {wl : World} {mg : Str → Option Value} {base : Heap} {k n m : Nat} {f : Addr} {dvs : List V} {dd : List D} {C C1 : CtL} (hd : ∀ w, Reps g w dvs dd) (hC : ∀ ds S K ex, C1 ds S K ex → ds.length = n → C (ds ++ dd) S K ex) (hm : n + dd.length = m)
    (F : FnR P wl g.K mg base (L2.CX P wl) k f (fun vs H Q E => spOfL g m C (vs ++ dvs) H Q E)) : FnR P wl g.K mg base (L2.CX P wl) k f (spOfL g n C1) :=
  F.imp fun vs H Q E h => by
    obtain ⟨w, ds, S, K, ex, hl, A, rr, q1, q2, q⟩ := h
    exact ⟨w, ds ++ dd, S, K, ex, by rw [List.length_append, hl, hm], A, rr.app (hd w), q1, q2, hC ds S K ex q hl⟩
end
end R3

/-! R3ck: zip of rows of any kind; comprehensions over lists of the store that stay as they are. -/
namespace R3
open PySem PySem.Spec PyProof.Rows L2
section
variable {g : Sg} {X : Cx} {W : WX} {e e2 elt tg iter : Expr} {pos p : Pos} {fr : FA} {fe fo : FE} {ft : FT} {fg : FG} {vs : List Nat} {st : Stmt}
def iZipU (K : PySem.W.Frag) (ta : TA) : TI := fun σ H R => ta σ H fun vs H1 => ∃ a b xs ys, vs = [.ref a, .ref b] ∧ ((SqL K H1 a xs ∧ SqL K H1 b ys ∧ R (Itz K a b) H1) ∨ (SqT K H1 a xs ∧ SqT K H1 b ys ∧ R (RZ.ItzT K a b) H1) ∨ (SqT K H1 a xs ∧ SqL K H1 b ys ∧ R (ItzM K a b) H1))
theorem pi_zipU {tpos : Pos} {elts : List Expr} {kk : Nat} {ta : TA} (hg : Gl X "zip") (hm : X.mg "zip" = none) (ha : PA X [e, e2] ta)
    (hs : starEach [e, e2] X.env = (false, eval e X.env) :: starEach [e2] X.env := by rfl) (hpl : (backTo pos (starEach [e2] X.env)).any (·.1) = false := by rfl) :
    PI X (.Tuple elts kk tpos) (.Call (.Name "zip" p) [e, e2] [] pos) (iZipU X.K ta) := by
  refine ⟨fun pins s σ H R I h => ?_⟩
  refine Call_ (ld_blt I hg hm PyProof.Rows.boot_zip (PyProof.Rows.callWith_type1 (thn (ha.run pos pins s σ H _ I h) fun us s1 ⟨vs, H1, I1, r1, q1⟩ => ?_) hs hpl))
  obtain ⟨a, b, xs, ys, ex, q1⟩ := q1
  subst ex
  cases r1 with
  | cons r rr =>
    cases rr with
    | cons r' rr =>
      cases rr
      cases r
      cases r'
      have fresh5 : ∀ c, c ∈ [s1.heap.objs.size + 4, s1.heap.objs.size + 2, s1.heap.objs.size + 3, s1.heap.objs.size, s1.heap.objs.size + 1] → FpOk X pins H1 c := fun c hcm => by
        have e' : c = s1.heap.objs.size + 4 ∨ c = s1.heap.objs.size + 2 ∨ c = s1.heap.objs.size + 3 ∨ c = s1.heap.objs.size ∨ c = s1.heap.objs.size + 1 := by simpa using hcm
        have hle : s1.heap.objs.size ≤ c := by
          rcases e' with z | z | z | z | z
          · rw [z]; exact Nat.le_add_right _ _
          · rw [z]; exact Nat.le_add_right _ _
          · rw [z]; exact Nat.le_add_right _ _
          · rw [z]; exact Nat.le_refl _
          · rw [z]; exact Nat.le_add_right _ _
        exact I1.fpOk hle (I1.hok.fresh hle)
      rcases q1 with ⟨hqx, hqy, q⟩ | ⟨hqx, hqy, q⟩ | ⟨hqx, hqy, q⟩
      · obtain ⟨its, rv, p1, _⟩ := I1.list hqx
        obtain ⟨its2, rv2, p2, _⟩ := I1.list hqy
        refine call_zip_2 p1.isList p2.isList fun h' hz hTI hTO h1 h2 hsz hk => wpAny_pyIter_zip hz ?_
        have I2 : Inv X pins σ H1 { s1 with heap := h' } := I1.kept (t' := s1.toks) hk
        exact ⟨s1.heap.objs.size + 4, [s1.heap.objs.size + 4, s1.heap.objs.size + 2, s1.heap.objs.size + 3, s1.heap.objs.size, s1.heap.objs.size + 1], _, _, H1, rfl, I2, turn_zip (PySem.W.ktu_apart s1.heap.objs.size a b p1.lt p2.lt), ⟨hz, hTI, ⟨_, _, hTO⟩, h1, h2⟩, fresh5, q⟩
      · obtain ⟨its, rv, p1, _⟩ := I1.tuple hqx
        obtain ⟨its2, rv2, p2, _⟩ := I1.tuple hqy
        obtain ⟨o1, ho1, _⟩ := id p1
        obtain ⟨o2, ho2, _⟩ := id p2
        refine RZ.call_zipT (show s1.heap.IsTuple a its.toArray from p1) (show s1.heap.IsTuple b its2.toArray from p2) fun h' hz hTI hTO h1 h2 hsz hk => wpAny_pyIter_zip hz ?_
        have I2 : Inv X pins σ H1 { s1 with heap := h' } := I1.kept (t' := s1.toks) hk
        exact ⟨s1.heap.objs.size + 4, [s1.heap.objs.size + 4, s1.heap.objs.size + 2, s1.heap.objs.size + 3, s1.heap.objs.size, s1.heap.objs.size + 1], _, _, H1, rfl, I2, RZ.turn_zipT (PySem.W.ktu_apart s1.heap.objs.size a b (Heap.lt_size ho1) (Heap.lt_size ho2)), ⟨hz, hTI, ⟨_, _, hTO⟩, h1, h2⟩, fresh5, q⟩
      · obtain ⟨its, rv, p1, _⟩ := I1.tuple hqx
        obtain ⟨its2, rv2, p2, _⟩ := I1.list hqy
        have lt1 : a < s1.heap.objs.size := by obtain ⟨_, ho, _⟩ := p1; exact Heap.lt_size ho
        have lt2 := p2.lt
        refine zip_begins2 (begins_tuple a its.toArray) (begins_list b its2.toArray) p1 p2.isList fun h' hz hTI hTO g1 g2 hsz hk => wpAny_pyIter_zip hz ?_
        have I2 : Inv X pins σ H1 { s1 with heap := h' } := I1.kept (t' := s1.toks) hk
        exact ⟨s1.heap.objs.size + 4, [s1.heap.objs.size + 4, s1.heap.objs.size + 2, s1.heap.objs.size + 3, s1.heap.objs.size, s1.heap.objs.size + 1], _, _, H1, rfl, I2,
          turn_zipM (zip_sep2 (N := s1.heap.objs.size) (fp1 := [a]) (fp2 := [b]) (fun c hc => by rw [List.mem_singleton.mp hc]; exact lt1) (fun c hc => by rw [List.mem_singleton.mp hc]; exact lt2)) (Nat.ne_of_lt lt1) (Nat.ne_of_lt (Nat.lt_succ_of_lt lt2)),
          ⟨hz, hTI, ⟨_, _, hTO⟩, ⟨_, g1, rfl, rfl⟩, ⟨_, g2, rfl, rfl⟩⟩, fresh5, q⟩
/-- zip of two rows -/
def wZipU (f : FA) (ρ : List Sl) (S : Store) (K : List D → Store → Prop) (ex : KX) : Prop := f ρ S (fun ds S1 => match ds with
  | [.lst xs, .lst ys] => K (zipD xs ys) S1
  | [.tup xs, .tup ys] => K (zipD xs ys) S1
  | [.tup xs, .lst ys] => K (zipD xs ys) S1
  | _ => False) ex
theorem izipU {tpos : Pos} {elts : List Expr} {kk : Nat} (hK : g.K = X.K) (hg : Gl X "zip") (hm : X.mg "zip" = none) (ha : EA g X W [e, e2] fr)
    (hs : starEach [e, e2] X.env = (false, eval e X.env) :: starEach [e2] X.env := by rfl) (hpl : (backTo pos (starEach [e2] X.env)).any (·.1) = false := by rfl) :
    EI g X W (.Tuple elts kk tpos) (.Call (.Name "zip" p) [e, e2] [] pos) (wZipU fr) :=
  PI.imp (pi_zipU hg hm ha hs hpl) fun σ H R ⟨w, ρ, S, K, ex, A, xo, ko, q⟩ => ⟨w, ρ, S, _, ex, A, xo, fun ds S1 q1 vs w1 H1 l1 A1 r1 => by
    split at q1
    · obtain ⟨v, u, rfl, r, r'⟩ := r1.inv2
      cases r with
      | lst hh rr =>
        cases r' with
        | lst hh' rr' => exact ⟨_, _, _, _, rfl, .inl ⟨SqL.of (A1.ih _ _ hh), SqL.of (A1.ih _ _ hh'), ko _ S1 q1 _ w1 H1 l1 A1 (by rw [← hK]; exact gen_zipL hh hh' rr rr')⟩⟩
    · obtain ⟨v, u, rfl, r, r'⟩ := r1.inv2
      cases r with
      | tup hh rr =>
        cases r' with
        | tup hh' rr' => exact ⟨_, _, _, _, rfl, .inr (.inl ⟨by rw [← hK]; exact A1.t hh, by rw [← hK]; exact A1.t hh', ko _ S1 q1 _ w1 H1 l1 A1 (by rw [← hK]; exact gen_zipT hh hh' rr rr')⟩)⟩
    · obtain ⟨v, u, rfl, r, r'⟩ := r1.inv2
      cases r with
      | tup hh rr =>
        cases r' with
        | lst hh' rr' => exact ⟨_, _, _, _, rfl, .inr (.inr ⟨by rw [← hK]; exact A1.t hh, SqL.of (A1.ih _ _ hh'), ko _ S1 q1 _ w1 H1 l1 A1 (by rw [← hK]; exact gen_zipM hh hh' rr rr')⟩)⟩
    · exact q1.elim, q⟩
/-! ### what is walked: a list of the store, as long as it stays -/
structure GenR (g : Sg) (w : Wd) (J : It) (n : Nat) (ds0 ds : List D) : Prop where
  go : ∀ (i : Nat) (w' : Wd) (ρ : List Sl) (S : Store) (σ : L2.St) (H : Hp), S[n]? = some (some (.lst ds0)) → i < ds.length → Le w w' → At g w' ρ S σ H → J.go i H
  stop : ∀ (w' : Wd) (ρ : List Sl) (S : Store) (σ : L2.St) (H : Hp), S[n]? = some (some (.lst ds0)) → Le w w' → At g w' ρ S σ H → J.stop ds.length H
  yld : ∀ (i : Nat) (w' : Wd) (ρ : List Sl) (S : Store) (σ : L2.St) (H : Hp) (x : V) (H' : Hp) (d : D), S[n]? = some (some (.lst ds0)) → ds[i]? = some d → Le w w' → At g w' ρ S σ H → J.yld i H x H' → ∃ w'', Le w' w'' ∧ At g w'' ρ S σ H' ∧ Rep g w'' x d ∧ Same H H' ∧ ∀ b, w'.F b = none → H b ≠ none → w''.F b = none
abbrev FIR := List Sl → Store → (Nat → List D → List D → Store → Prop) → KX → Prop
def rdIR (g : Sg) (W : WX) (f : FIR) : TI := fun σ H R => ∃ w ρ S K ex, At g w ρ S σ H ∧ XOk g W σ ρ w ex ∧ (∀ n ds0 ds S', K n ds0 ds S' → ∀ J w' H', Le w w' → At g w' ρ S' σ H' → n < w'.n → GenR g w' J n ds0 ds → R J H') ∧ f ρ S K ex
abbrev EIR (g : Sg) (X : Cx) (W : WX) (tg iter : Expr) (f : FIR) : Prop := PI X tg iter (rdIR g W f)
theorem store_list {w w' : Wd} {ρ : List Sl} {S : Store} {σ : L2.St} {H : Hp} {n : Nat} {ds : List D} (hn : n < w.n) (l : Le w w') (A : At g w' ρ S σ H) (h : S[n]? = some (some (.lst ds))) : ∃ vs, H (w.φ n) = some (.lst vs) ∧ Reps g w' vs ds := by
  obtain ⟨_, vs, e, r⟩ := A.st n _ h
  rw [l.s.p n hn] at e
  exact ⟨vs, e, r⟩
theorem genR_list {w : Wd} {n : Nat} {ds : List D} {K : PySem.W.Frag} (hn : n < w.n) : GenR g w (Itl K (w.φ n)) n ds ds := by
  refine ⟨fun i w' ρ S σ H hS hi l A => ?_, fun w' ρ S σ H hS l A => ?_, fun i w' ρ S σ H x H' d hS hd l A y => ?_⟩
  · obtain ⟨vs, e, r⟩ := store_list hn l A hS
    obtain ⟨v, hv, _⟩ := r.got (show ds[i]? = some (ds[i]'hi) by simp [hi])
    exact ⟨vs, v, SqL.of e, hv⟩
  · obtain ⟨vs, e, r⟩ := store_list hn l A hS
    exact ⟨vs, SqL.of e, by rw [r.length]; exact Nat.le_refl _⟩
  · obtain ⟨vs, e, r⟩ := store_list hn l A hS
    obtain ⟨ey, y⟩ := y
    subst ey
    obtain ⟨v, hv, rv⟩ := r.got hd
    have ex := y vs (SqL.of e)
    rw [hv] at ex
    cases ex
    exact ⟨w', Le.refl _, A, rv, fun _ _ z => z, fun b z _ => z⟩
theorem genR_enum {w : Wd} {n : Nat} {ds : List D} {K : PySem.W.Frag} (hn : n < w.n) : GenR g w (Ite K (w.φ n)) n ds (enumD 0 ds) := by
  refine ⟨fun i w' ρ S σ H hS hi l A => ?_, fun w' ρ S σ H hS l A => ?_, fun i w' ρ S σ H x H' d hS hd l A y => ?_⟩
  · obtain ⟨vs, e, r⟩ := store_list hn l A hS
    rw [enumD_len] at hi
    obtain ⟨v, hv, _⟩ := r.got (show ds[i]? = some (ds[i]'hi) by simp [hi])
    exact ⟨vs, v, SqL.of e, hv⟩
  · obtain ⟨vs, e, r⟩ := store_list hn l A hS
    exact ⟨vs, SqL.of e, by rw [enumD_len, r.length]; exact Nat.le_refl _⟩
  · obtain ⟨vs, e, r⟩ := store_list hn l A hS
    rw [enumD_get] at hd
    obtain ⟨d0, hd0, rfl⟩ := Option.map_eq_some_iff.mp hd
    obtain ⟨T, x0, rfl, hT, rfl, y⟩ := y
    obtain ⟨v, hv, rv⟩ := r.got hd0
    have ee := y vs (SqL.of e)
    rw [hv] at ee
    cases ee
    rw [Nat.zero_add]
    exact gen_pair (w := w') A hT (.cons (.int _) (.one rv))
def wItLR (f : FE) (ρ : List Sl) (S : Store) (K : Nat → List D → List D → Store → Prop) (ex : KX) : Prop := f ρ S (fun x S1 => ∃ n ds, x = .ref n ∧ S1[n]? = some (some (.lst ds)) ∧ K n ds ds S1) ex
theorem itlR (he : EV g X W e fe) : EIR g X W tg e (wItLR fe) :=
  PI.imp (pi_list he) fun σ H R ⟨w, ρ, S, K, ex, A, xo, ko, q⟩ => ⟨w, ρ, S, _, ex, A, xo, fun x S1 q1 v w1 H1 l1 A1 r1 => by
    obtain ⟨n, ds, rfl, hS, q1⟩ := q1
    obtain ⟨rfl, hn⟩ := rep_ref r1
    obtain ⟨vs, e, r⟩ := store_list hn (Le.refl _) A1 hS
    exact ⟨_, rfl, ⟨vs, SqL.of e⟩, ko n ds ds S1 q1 _ w1 H1 l1 A1 hn (genR_list hn)⟩, q⟩
def wEnumR (f : FA) (ρ : List Sl) (S : Store) (K : Nat → List D → List D → Store → Prop) (ex : KX) : Prop := f ρ S (fun xs S1 => ∃ n ds, xs = [.ref n] ∧ S1[n]? = some (some (.lst ds)) ∧ K n ds (enumD 0 ds) S1) ex
theorem ienumR {tpos : Pos} {elts : List Expr} {kk : Nat} (hg : Gl X "enumerate") (hm : X.mg "enumerate" = none) (ha : EA g X W [e] fr) (hs : starEach [e] X.env = [(false, eval e X.env)] := by rfl) :
    EIR g X W (.Tuple elts kk tpos) (.Call (.Name "enumerate" p) [e] [] pos) (wEnumR fr) :=
  PI.imp (pi_enum hg hm ha hs) fun σ H R ⟨w, ρ, S, K, ex, A, xo, ko, q⟩ => ⟨w, ρ, S, _, ex, A, xo, fun xs S1 q1 v w1 H1 l1 A1 r1 => by
    obtain ⟨n, ds, rfl, hS, q1⟩ := q1
    obtain ⟨v, rfl, r2⟩ := r1.inv1
    obtain ⟨rfl, hn⟩ := rep_ref r2
    obtain ⟨vs, e, r⟩ := store_list hn (Le.refl _) A1 hS
    exact ⟨_, vs, rfl, SqL.of e, ko n ds _ S1 q1 _ w1 H1 l1 A1 hn (genR_enum hn)⟩, q⟩
def lcLr (n : Nat) (ds0 : List D) (fg : FG) (ft : FT) (fe : FE) (ρ : List Sl) (K : List D → Store → Prop) : List D → List D → Store → Prop
  | [], acc, S => S[n]? = some (some (.lst ds0)) ∧ K acc S
  | x :: r, acc, S => S[n]? = some (some (.lst ds0)) ∧ fg x ρ (fun ρ2 => ft ρ2 S (fun b S1 => Br b (fe ρ2 S1 (fun y S2 => Small (acc.length + 1) ∧ lcLr n ds0 fg ft fe ρ K r (acc ++ [y]) S2) noX) (lcLr n ds0 fg ft fe ρ K r acc S1)) noX)
def wLcR (fi : FIR) (fg : FG) (ft : FT) (fe : FE) (vs : List Nat) (ρ : List Sl) (S : Store) (K : List D → Store → Prop) (ex : KX) : Prop := noOwn ρ vs = true ∧ fi ρ S (fun n ds0 ds S' => lcLr n ds0 fg ft fe (wipeE ρ vs) K ds [] S') ex
variable {fi : FIR}
theorem elc_impR (tame : Tame vs fg) {σ : L2.St} {H : Hp} {Q : VK} (h : rdL g W (wLcR fi fg ft fe vs) σ H Q) : tLc (rdIR g W fi) (rdG g vs fg) (rdT g W0 ft) (rdE g W0 fe) vs σ H Q := by
  obtain ⟨w, ρ, S, K, ex, A, xo, ko, no, q⟩ := h
  refine ⟨w, ρ, S, _, ex, A, xo, fun n ds0 ds S1 q1 J w1 H1 l1 A1 hn1 G => ?_, q⟩
  intro D0 hD
  have fr0 := fresh_new A1 hD
  have hI1 : w1.I D0 = none := A1.freeI fr0.f
  -- the state between turns: the list at D0 stands apart
  let Pv : Nat → Hp → Prop := fun i H' => ∃ w' S' acc vacc, Le w1 w' ∧ At g w' ρ S' σ H' ∧ H' D0 = some (.lst vacc) ∧ Fresh w' ρ S' σ D0 ∧ Reps g w' vacc acc ∧ lcLr n ds0 fg ft fe (wipeE ρ vs) K (ds.drop i) acc S'
  refine ⟨fun i m H' => m = ds.length - i ∧ i ≤ ds.length ∧ Pv i H', ⟨ds.length, by simp, Nat.zero_le _, w1, S1, [], [], Le.refl _, A1.grow (same_new hD), upd_same, fr0, .nil, q1⟩, ?_⟩
  rintro i m H2 ⟨rfl, hi, w2, S2, acc, vacc, l2, A2, eD, fr2, racc, q2⟩
  by_cases hlt : i < ds.length
  · have hd : ds[i]? = some ds[i] := by simp [hlt]
    rw [drop_cons hd] at q2
    obtain ⟨hS2, q2⟩ := q2
    refine .inr ⟨G.go i w2 ρ S2 σ H2 hS2 hlt l2 A2, Pv (i + 1), fun H' p => ⟨_, by omega, rfl, hlt, p⟩, fun x H3 y => ?_⟩
    obtain ⟨w3, l3, A3, r3, s3, nf3⟩ := G.yld i w2 ρ S2 σ H2 x H3 _ hS2 hd l2 A2 y
    have eD3 : H3 D0 = some (.lst vacc) := s3 _ _ eD
    have fr3 : Fresh w3 ρ S2 σ D0 := ⟨nf3 D0 fr2.f (by rw [eD]; exact fun z => nomatch z), fun k ok h z => by
      have k1 := (A2.st k ok h).2
      have hk : k < w2.n := by rw [← A2.len]; exact (List.getElem?_eq_some_iff.mp h).1
      rw [l3.s.p k hk] at z
      exact fr2.s k ok h z, fr2.o⟩
    have hI3 : w3.I D0 = none := A3.freeI fr3.f
    have Ah := (A3.hold eD3 fr3).wiped vs
    refine ⟨w3.hold D0 (.lst vacc), wipeE ρ vs, S2, _, _, Ah, r3.mono sub_hold, fun ρ4 q4 σ4 A4 o4 => ?_, tame _ _ _ q2⟩
    obtain ⟨q4, ou⟩ := q4
    have hown : ∀ j o, Env.at ρ j = .own o → Env.at ρ4 j = .own o ∧ σ4[j]? = σ[j]? := fun j o hj => by
      have nv := noOwn_at no hj
      exact ⟨by rw [ou j nv, wipeE_out nv]; exact hj, by rw [o4.out j nv, wipe_get nv]⟩
    refine ⟨wipe_only o4, w3.hold D0 (.lst vacc), ρ4, S2, _, noX, A4, xo0, fun b S5 q5 w5 H5 l5 A5 => ?_, q4⟩
    have back : ∀ {w6 S6 H6}, Le (w3.hold D0 (.lst vacc)) w6 → At g w6 ρ4 S6 σ4 H6 → Le w1 (w6.drop D0) ∧ At g (w6.drop D0) ρ S6 σ H6 ∧ H6 D0 = some (.lst vacc) ∧ Fresh (w6.drop D0) ρ S6 σ D0 := fun {w6 S6 H6} l6 A6 => by
      have Bu : At g w6 ρ S6 σ H6 := (A3.hold eD3 fr3).unwipe l6 A6 hown
      obtain ⟨z1, z2, z3, z4⟩ := At.letgo hI3 fr3.f l6 Bu
      exact ⟨(l2.trans l3).trans z1, z2, z3, z4⟩
    cases b with
    | true =>
      dsimp only
      rw [if_pos rfl]
      refine ⟨w5, ρ4, S5, _, noX, A5, xo0, fun y S6 q6 vy w6 H6 l6 A6 r6 => ?_, q5⟩
      obtain ⟨z1, z2, z3, z4⟩ := back (l5.trans l6) A6
      refine ⟨vacc, z3, by rw [racc.length]; exact q6.1.lt, w6.drop D0, S6, acc ++ [y], vacc ++ [vy], z1, ?_, upd_same, z4, ?_, q6.2⟩
      · -- the list at D0 grows: nothing of the world leans on it
        refine ⟨z2.if_, fun b u e => ?_, z2.len, fun k ok h => ?_, z2.inj, z2.sl, z2.val, fun j oj hj => ?_, z2.xc⟩
        · rw [upd_ne fun z => by rw [z, z4.f] at e; cases e]
          exact z2.fh b u e
        · obtain ⟨h1, h2⟩ := z2.st k ok h
          exact ⟨h1, h2.mono (Sub.refl _) (upd_ne (z4.s k ok h))⟩
        · obtain ⟨a, h1, h2, h3, h4, h5⟩ := z2.own j oj hj
          exact ⟨a, h1, h2, h3.mono (Sub.refl _) (upd_ne fun z => z4.o j oj hj (by rw [h1, z])), h4, h5⟩
      · have s36 : Sub w2 (w6.drop D0) := ((l3.s.trans sub_hold).trans (l5.trans l6).s).trans sub_drop
        exact (racc.mono s36).app (.one (r6.mono sub_drop))
    | false =>
      dsimp only
      rw [if_neg Bool.false_ne_true]
      obtain ⟨z1, z2, z3, z4⟩ := back l5 A5
      exact ⟨w5.drop D0, S5, acc, vacc, z1, z2, z3, z4, racc.mono (((l3.s.trans sub_hold).trans l5.s).trans sub_drop), q5⟩
  · have e : i = ds.length := by omega
    subst e
    rw [List.drop_length] at q2
    obtain ⟨hS2, q2⟩ := q2
    exact .inl ⟨G.stop w2 ρ S2 σ H2 hS2 l2 A2, ko acc S2 q2 D0 vacc w2 H2 (l1.trans l2) A2 eD fr2 racc⟩
theorem elcR (tame : Tame vs fg) (h : PE X e (tLc (rdIR g W fi) (rdG g vs fg) (rdT g W0 ft) (rdE g W0 fe) vs)) : EL g X W e (wLcR fi fg ft fe vs) := PE.imp h fun σ H Q q => elc_impR tame q
theorem slcRO {i : Nat} (tame : Tame vs fg) (h : PS X st (tAsg (tLc (rdIR g W fi) (rdG g vs fg) (rdT g W0 ft) (rdE g W0 fe) vs) (gName i))) : ES g X W st (fun d ρ S => i < ρ.length ∧ wOwn i (wLcR fi fg ft fe vs) d ρ S) :=
  PS.imp h fun D σ H ⟨w, ρ, S, d, A, eo, hl, q⟩ => elc_impR tame ⟨w, ρ, S, _, _, A, eo.xo, fun ds S' k a vs w' H' l A' e1 f1 r1 => eo.nx _ S' k w' _ H' l (A'.putOwn (o := .lst ds) hl ⟨vs, e1, r1⟩ f1), q⟩
theorem slcRV {i : Nat} (tame : Tame vs fg) (h : PS X st (tAsg (tLc (rdIR g W fi) (rdG g vs fg) (rdT g W0 ft) (rdE g W0 fe) vs) (gName i))) : ES g X W st (wSet i (wVal (wLcR fi fg ft fe vs))) :=
  PS.imp h fun D σ H ⟨w, ρ, S, d, A, eo, q⟩ => elc_impR tame ⟨w, ρ, S, _, _, A, eo.xo, fun ds S1 q1 a vs w1 H1 l1 A1 e1 f1 r1 => by
    obtain ⟨z1, z2, z3⟩ := A1.settle e1 f1 r1
    exact eo.nx _ S1 q1 _ _ H1 (l1.trans z1) (z2.put z3), q⟩
end
/-- the same by an invariant -/
theorem lcRI {n : Nat} {ds0 : List D} {fg : FG} {ft : FT} {fe : FE} {ρ : List Sl} {K : List D → Store → Prop} (P : Nat → List D → Store → Prop) {ds acc : List D} {S : Store} (h0 : P 0 acc S) (hS : ∀ i acc S, P i acc S → S[n]? = some (some (.lst ds0)))
    (hs : ∀ (i : Nat) (x : D) (acc : List D) (S : Store) (N : List D → Store → Prop), ds[i]? = some x → P i acc S → (∀ acc' S', P (i + 1) acc' S' → N acc' S') →
      fg x ρ (fun ρ' => ft ρ' S (fun b S' => Br b (fe ρ' S' (fun y S'' => Small (acc.length + 1) ∧ N (acc ++ [y]) S'') noX) (N acc S')) noX))
    (hd : ∀ acc S, P ds.length acc S → K acc S) : lcLr n ds0 fg ft fe ρ K ds acc S := by
  have key : ∀ (m i : Nat) (acc : List D) (S : Store), ds.length - i = m → i ≤ ds.length → P i acc S → lcLr n ds0 fg ft fe ρ K (ds.drop i) acc S := by
    intro m
    induction m with
    | zero =>
      intro i acc S hm hi p
      have e : i = ds.length := by omega
      subst e
      rw [List.drop_length]
      exact ⟨hS _ _ _ p, hd _ _ p⟩
    | succ m ih =>
      intro i acc S hm hi p
      have hlt : i < ds.length := by omega
      have hx : ds[i]? = some ds[i] := by simp [hlt]
      rw [drop_cons hx]
      exact ⟨hS _ _ _ p, hs i _ acc S (fun acc' S' => lcLr n ds0 fg ft fe ρ K (ds.drop (i + 1)) acc' S') hx p fun acc' S' p' => ih (i + 1) acc' S' (by omega) hlt p'⟩
  exact key _ 0 acc S rfl (Nat.zero_le _) h0
end R3

/-! R3cl: a class by keywords, its instance in the store. -/
namespace R3
open PySem PySem.Spec PyProof.Rows L2
section
variable {g : Sg} {X : Cx} {W : WX} {e : Expr} {pos : Pos} {es : List Expr} {kws : List Keyword} {fr fk : FA}
theorem run_mkSK {k c : Nat} {ks : List Str} {C : Ct} {fn : Addr} {pins : List (Addr × Obj)} {s : Shared} {σ : L2.St} {H : Hp} {w : Wd} {ρ : List Sl} {S : Store} {ds : List D} {vs : List V} {us : List Value} {K : KD} {ex : KX} {Q : VK}
    (M : Mk X.K (g.ad c) fn) (F : FnK X.prog X.w X.K X.mg X.base (L2.CX X.prog X.w) k fn 1 ks (spOf g (1 + ks.length) C)) (hr : Room (k + 1) X.A) (tk : Takes X W) (I : Inv X pins σ H s) (rv : Vals vs us) (A : At g w ρ S σ H) (rr : Reps g w vs ds) (hn : ds.length = ks.length)
    (xo : XOk g W σ ρ w ex) (ko : KOk g w ρ σ K Q) (q : makS c C ds S K ex) : wpAny (model X.prog X.w) X.A (call (.ref (g.ad c)) [] (ks.zip us)) (EP X pins σ Q) X.xe s := by
  have I2 := Inv.made (C := g.ad c) I
  obtain ⟨w2, l2, A2, r2⟩ := made_join (c := c) I A
  refine wpAny_call (make_map (f := fn) I.kIn M.makes M.init (beq_iff_eq.mp M.fn) (codeAny_mono (F _ X.stack _ _ [Value.ref (s.heap.objs.size + 1)] us [V.ref (s.heap.objs.size + 1)] vs (fun v H2 => v = .non ∧ Q (.ref (s.heap.objs.size + 1)) H2) (WE W σ) (hr.make (g.ad c) [] (ks.zip us))
    (I2.env0.make (g.ad c) [] (ks.zip us)) (.cons rfl .nil) rv rfl (rr.length.trans hn) ?_) fun r s' hq' => ?_))
  · refine ⟨_, .ref S.length :: ds, _, _, ex, by rw [List.length_cons, hn, Nat.add_comm], A2.enter, reps_inner (.cons r2 (rr.mono l2.s)), fun d S' kk v w' H' l A' r' => ?_, fun y S' ey w' H' cls dd l A' ry => ?_, q _⟩
    · obtain ⟨rfl, kk⟩ := kk
      obtain ⟨l3, A3⟩ := A2.leave l A'
      exact ⟨rep_non r', ko _ S' kk _ _ H' (l2.trans l3) A3 (r2.mono l3.s)⟩
    · obtain ⟨l3, A3⟩ := A2.leave l A'
      obtain ⟨h1, a, vs, h2, h3, h4, h5⟩ := ry
      exact xo y S' ey _ H' cls dd (l2.trans l3) A3 ⟨h1, a, vs, h2, h3, h4, h5.mono sub_outer⟩
  · cases r with
    | error e => exact passAt tk σ pins _ _ e s' I2 hq'
    | ok fl =>
      cases fl with
      | ret u =>
        obtain ⟨v, H', I3, rv, ev, q3⟩ := I2.after hq'
        subst ev
        exact ⟨rv, ⟨V.ref (s.heap.objs.size + 1), H', I3, rfl, q3⟩⟩
      | next => exact False.elim hq'
      | brk => exact False.elim hq'
      | cont => exact False.elim hq'
theorem emakeSK {x : Str} {k j c : Nat} {n : Nat} {ks : List Str} {C : Ct} {p : Pos} (F : MakSK X.prog X.w X.mg X.base g k x c ks C) (hK : g.K = X.K) (hr : Room j X.A) (hk : k + 1 ≤ j) (tk : Takes X W) (hg : Gl X x) (ha : EK g X W kws fk) (hdb : (x == ("__debug__" : Str)) = false := by decide)
    (hall : (backToKw pos (keywordEach kws X.env)).all (·.1.isSome) = true := by rfl) (hks : (backToKw pos (keywordEach kws X.env)).filterMap (·.1) = ks := by rfl)
    (hpl : ((backTo pos (starEach [] X.env)).any (·.1) || (backToKw pos (keywordEach kws X.env)).any (·.1.isNone)) = false := by rfl) (hn0 : ks.length = n := by rfl) : EV g X W (.Call (.Name x p) [] kws pos) (wMakeS c n C fk) := by
  subst hn0
  refine ⟨fun pins s σ H Q I h => ?_⟩
  obtain ⟨w, ρ, S, K, ex, A, xo, ko, q⟩ := h
  obtain ⟨fn, hm, M, F⟩ := F.ex
  rw [hK] at M F
  refine wpAny_Call_Name_kw (ld_glob I hg hm ?_ hdb)
  refine PySem.W.callWith_KW0 (first := []) (h₀ := X.base) I.ok.mod.kin M.kp hall (thn (rdK_run ha pos I A xo q) fun us s2 ⟨ws, H2, w2, es2, S2, I2, rv, l2, A2, r2, hn, q2⟩ => ⟨I2.kIn, ?_⟩) hpl
  rw [hks]
  exact run_mkSK M F (hr.mono hk) tk I2 rv A2 r2 hn (xo.later l2) (ko.later l2) q2
end
section
variable {g : Sg} {X : Cx}
/-- is, is not of truth values -/
def rIsBD (neg : Bool) (x y : D) (S : Store) (K : KD) : Prop := match x, y with
  | .bl a, .bl b => K (.bl (negB neg (decide (a = b)))) S
  | _, _ => False
theorem bisl : OpD g X (compareOp .Is) (rIsBD false) := OpD.of op_isBl fun σ H w ρ S x y vx vy K Q A rx ry ko q => by
  unfold rIsBD at q
  split at q
  · rename_i a b
    exact ⟨a, b, rep_bl rx, rep_bl ry, ko _ S q _ w H (Le.refl w) A (.bl _)⟩
  · exact q.elim
theorem bisn : OpD g X (compareOp .IsNot) (rIsBD true) := OpD.of op_notBl fun σ H w ρ S x y vx vy K Q A rx ry ko q => by
  unfold rIsBD at q
  split at q
  · rename_i a b
    exact ⟨a, b, rep_bl rx, rep_bl ry, ko _ S q _ w H (Le.refl w) A (.bl _)⟩
  · exact q.elim
end
end R3

/-! R3cm: sum of a list that holds instances. -/
namespace R3
open PySem PySem.Spec PyProof.Rows L2
section
variable {g : Sg} {X : Cx} {W : WX}
/-- a callee that raises nothing -/
theorem run_ctF {A0 : Around} {k n : Nat} {C : Ct} {fn : Addr} {pins : List (Addr × Obj)} {s : Shared} {σ : L2.St} {H : Hp} {w : Wd} {ρ : List Sl} {S : Store} {ds : List D} {vs : List V} {us : List Value} {K : KD} {Q : VK}
    (F : FnR X.prog X.w X.K X.mg X.base (L2.CX X.prog X.w) k fn (spOf g n C)) (hr : Room k A0) (e0 : Env0 X.prog X.w X.K X.mg X.base A0 X.stack s H) (I : Inv X pins σ H s) (rv : Vals vs us) (A : At g w ρ S σ H) (rr : Reps g w vs ds) (hn : ds.length = n)
    (ko : KOk g w ρ σ K Q) (q : C ds S K (fun _ _ => False)) :
    codeAny (model X.prog X.w) A0 (.call (.ref fn) ⟨us, []⟩) (fun r s' => match r with | .ok (.ret v) => EP X pins σ Q v s' | .ok _ => False | .error e => False) s := by
  refine codeAny_mono (F A0 X.stack s H us vs Q (fun _ _ _ => False) hr e0 rv ?_) fun r s' hq => ?_
  · refine ⟨w.inner S H, ds, S, K, fun _ _ => False, hn, A.enter, reps_inner rr, fun d S' k v w' H' l A' r' => ?_, fun x S' e w' H' cls dd l A' r' => e.elim, q⟩
    obtain ⟨l2, A2⟩ := A.leave l A'
    exact ko d S' k v _ H' l2 A2 (r'.mono sub_outer)
  · cases r with
    | error e =>
      obtain ⟨_, _, _, _, _, _, _, _, _, _, _, _, z⟩ := hq
      exact z
    | ok fl =>
      cases fl with
      | ret u => exact I.after hq
      | next => exact False.elim hq
      | brk => exact False.elim hq
      | cont => exact False.elim hq
theorem bin_ownF {A0 : Around} {op : Operator} {k c : Nat} {C : Ct} {x : Str} (F : OwnN X.prog X.w X.mg X.base g k c (PySem.dunder op.info.2) 2 C) (hx : g.ad c = He.ga X.K x) (hf : fOpI x op X.K = true) (hK : g.K = X.K) (hr : Room k A0) (hA : A0.frames = some X.stack)
    {pins : List (Addr × Obj)} {s : Shared} {σ : L2.St} {H : Hp} {w : Wd} {ρ : List Sl} {S : Store} {x y : D} {vx vy : V} {u v : Value} {K : KD} {Q : VK} (I : Inv X pins σ H s) (ru : RelV vx u) (rv : RelV vy v) (A : At g w ρ S σ H) (rx : Rep g w vx x) (ry : Rep g w vy y) (ko : KOk g w ρ σ K Q)
    (q : rOwnB c C x y S K (fun _ _ => False)) : wpAny (model X.prog X.w) A0 (binaryOp op u v) (EP X pins σ Q) (fun _ _ => False) s := by
  obtain ⟨⟨ds, hi⟩, hy, q⟩ := q
  obtain ⟨fn, hs, hfn, F⟩ := F.ex
  rw [hK] at hs hfn F
  obtain ⟨p, ox, od, rfl, rfl, J⟩ := inst_of I A rx hi ru
  obtain ⟨m, hF⟩ := I.fr
  obtain ⟨f1, f2⟩ := Bool.and_eq_true_iff.mp hf
  obtain ⟨f2, f3⟩ := Bool.and_eq_true_iff.mp f2
  obtain ⟨f3, f4⟩ := Bool.and_eq_true_iff.mp f3
  obtain ⟨f4, f5⟩ := Bool.and_eq_true_iff.mp f4
  rw [← hx] at f1 f2 f5
  have e0 : Env0 X.prog X.w X.K X.mg X.base A0 X.stack s H := ⟨hA, I.env0.mod, I.env0.bs, I.env0.bsz, I.env0.funs, I.env0.frf, I.env0.hok, I.env0.bare⟩
  have call : wpAny (model X.prog X.w) A0 (call (.ref fn) [.ref p, v]) (PySem.W.CmpBack (EP X pins σ Q)) (fun _ _ => False) s := by
    refine wpAny_mono (wpAny_call (run_ctF (us := [.ref p, v]) (vs := [.ref p, vy]) F hr e0 I (.cons rfl (.cons rv .nil)) A (.cons rx (.one ry)) rfl ko q)) (fun z s' h => ?_) fun _ _ x => x
    obtain ⟨z', H', I', rz, qz⟩ := h
    exact SlX.cmpback rz ⟨z', H', I', rz, qz⟩
  rcases hy with ⟨es, rfl⟩ | ⟨i, rfl⟩
  · obtain ⟨p2, ox2, od2, rfl, rfl, J2⟩ := inst_of (c := c) (ds := es) I A ry (by unfold insOf; simp) rv
    exact PySem.W.binop_K hF I.ok.mod.kin J J2.type f1 hs hfn call
  · obtain rfl := rep_int ry
    obtain ⟨t, rfl⟩ := rv
    have h1 : ∃ fo, PySem.W.findIn X.K (.type "int") (PySem.dunder op.info.2) = some fo := by
      split at f3
      · exact ⟨_, by assumption⟩
      · cases f3
    have h2 : ∃ fo, PySem.W.findIn X.K (.type "int") (dunderR op.info.2) = some fo := by
      split at f4
      · exact ⟨_, by assumption⟩
      · cases f4
    have h3 : ∃ rc, PySem.W.findIn X.K (.ref (g.ad c)) (dunderR op.info.2) = some rc ∧ (rc = none ∨ ∃ g : Addr, rc = some (.ref g)) := by
      split at f5
      · exact ⟨_, by assumption, .inl rfl⟩
      · exact ⟨_, by assumption, .inr ⟨_, rfl⟩⟩
      · cases f5
    obtain ⟨fo, h1⟩ := h1
    obtain ⟨ro, h2⟩ := h2
    obtain ⟨rc, h3, hp⟩ := h3
    exact PySem.W.ksp_binT (T := "int") hF I.ok.mod.kin J rfl f1 hs hfn h3 hp h1 h2 (of_decide_eq_true f2) call
theorem bin_reflF {A0 : Around} {op : Operator} {k c : Nat} {C : Ct} {x : Str} (hb : ∃ id name fn, IntBin op id name fn) (F : OwnN X.prog X.w X.mg X.base g k c (dunderR op.info.2) 2 C) (hx : g.ad c = He.ga X.K x) (hf : fReflB x op X.K = true) (hK : g.K = X.K) (hr : Room k A0) (hA : A0.frames = some X.stack)
    {pins : List (Addr × Obj)} {s : Shared} {σ : L2.St} {H : Hp} {w : Wd} {ρ : List Sl} {S : Store} {y : D} {i : Int} {t : Tok} {vy : V} {v : Value} {K : KD} {Q : VK} (I : Inv X pins σ H s) (rv : RelV vy v) (A : At g w ρ S σ H) (ry : Rep g w vy y) (ko : KOk g w ρ σ K Q)
    (hi : ∃ ds, insOf c S y = some ds) (q : C [y, .int i] S K (fun _ _ => False)) : wpAny (model X.prog X.w) A0 (binaryOp op (.int i t) v) (EP X pins σ Q) (fun _ _ => False) s := by
  obtain ⟨ds, hi⟩ := hi
  obtain ⟨fn, hs, hfn, F⟩ := F.ex
  rw [hK] at hs hfn F
  obtain ⟨f1, f2⟩ := Bool.and_eq_true_iff.mp hf
  obtain ⟨f2, f3⟩ := Bool.and_eq_true_iff.mp f2
  rw [← hx] at f1 f2 f3
  have h3 : ∃ f0, PySem.W.findIn X.K (.ref (g.ad c)) (PySem.dunder op.info.2) = some (some (.ref f0)) := by
    split at f3
    · exact ⟨_, by assumption⟩
    · cases f3
  obtain ⟨f0, h3⟩ := h3
  obtain ⟨p, dx, od, rfl, rfl, hp, J⟩ := inst_raw I A ry hi rv
  obtain ⟨m, hF⟩ := I.fr
  have e0 : Env0 X.prog X.w X.K X.mg X.base A0 X.stack s H := ⟨hA, I.env0.mod, I.env0.bs, I.env0.bsz, I.env0.funs, I.env0.frf, I.env0.hok, I.env0.bare⟩
  refine bin_refl hb hF I.ok.mod.kin hp J f1 (of_decide_eq_true f2) h3 hs hfn ?_
  refine wpAny_mono (wpAny_call (run_ctF (us := [.ref p, .int i t]) (vs := [.ref p, .int i]) F hr e0 I (.cons rfl (.cons ⟨t, rfl⟩ .nil)) A (.cons ry (.one (.int i))) rfl ko q)) (fun z s' h => ?_) fun _ _ x => x
  obtain ⟨z', H', I', rz, qz⟩ := h
  exact SlX.cmpback rz ⟨z', H', I', rz, qz⟩
/-! ### the loop -/
def sumO (c : Nat) (C : Ct) : List D → D → Store → KD → Prop
  | [], d, S, K => K d S
  | y :: ys, d, S, K => rOwnB c C d y S (fun d' S' => (∃ es, d' = .obj c es) ∧ sumO c C ys d' S' K) (fun _ _ => False)
theorem swap {p q : Addr × Obj} {pins : List (Addr × Obj)} {σ : L2.St} {H : Hp} {s : Shared} (I : Inv X (p :: q :: pins) σ H s) : Inv X (q :: p :: pins) σ H s := I.pins_of fun r hr => I.pin r (List.mem_append_right _ (by
  rcases List.mem_cons.mp hr with e | e
  · exact List.mem_cons_of_mem _ (e ▸ List.mem_cons_self)
  · rcases List.mem_cons.mp e with e | e
    · exact e ▸ List.mem_cons_self
    · exact List.mem_cons_of_mem _ (List.mem_cons_of_mem _ e)))
theorem Our.cons {pins : List (Addr × Obj)} {P T : Addr} {o : Obj} (O : Our X pins P) (h : T ≠ P) : Our X ((T, o) :: pins) P where
  sz := O.sz
  loc := O.loc
  fs := O.fs
  cel := O.cel
  pin := fun p hp => by
    rcases List.mem_append.mp hp with e | e
    · exact O.pin p (List.mem_append_left _ e)
    · rcases List.mem_cons.mp e with e | e
      · subst e; exact h
      · exact O.pin p (List.mem_append_right _ e)
theorem sum_loopO {k c : Nat} {C : Ct} {xn : Str} (F : OwnN X.prog X.w X.mg X.base g k c "__add__" 2 C) (hx : g.ad c = He.ga X.K xn) (hf : fOpI xn .Add X.K = true) (hK : g.K = X.K) (hr : Room (k + 1) X.A) {a T P : Addr} {pins : List (Addr × Obj)} {σ : L2.St} {ρ : List Sl} {w0 : Wd} {K : KD} {R : Result → Shared → Prop} (OT : Our X pins T) (OP : Our X pins P) (hTP : T ≠ P)
    (hR : ∀ s' H' w' S' d v u, Le w0 w' → Inv X pins σ H' s' → At g w' ρ S' σ H' → Rep g w' v d → RelV v u → K d S' → R (.ok (.ret u)) s') :
    ∀ (m i : Nat) (s : Shared) (H : Hp) (w : Wd) (S : Store) (xs : List D) (d : D) (es : List D) (v : V) (u : Value) (o : Obj) (cn : Nat), xs.length - i = m → i ≤ xs.length → Le w0 w → o.cls = .type "list_iterator" → o.data = .fields #[.ref a, .int i 0] → Inv X ((T, o) :: (P, pObj #[u] cn) :: pins) σ H s → At g w ρ S σ H → Rep g w (.ref a) (.lst xs) → d = .obj c es → Rep g w v d → RelV v u →
    sumO c C (xs.drop i) d S K → codeAny (model X.prog X.w) X.A (.builtin "sum.loop" ⟨[.ref T, .ref P, rawInt 2, rawInt 0], []⟩) R s := by
  have hh : X.A.handled = none := hr.toRoom.hd
  intro m
  induction m with
  | zero =>
    intro i s H w S xs d es v u o cn hm hi l oc od I At0 ra hd rd ru q
    have hin : i = xs.length := by omega
    have hPh := (I.pin (P, pObj #[u] cn) (List.mem_append_right _ (List.mem_cons_of_mem _ List.mem_cons_self))).1
    have hTh := (I.pin (T, o) (List.mem_append_right _ List.mem_cons_self)).1
    have hTn := (I.pin (T, o) (List.mem_append_right _ List.mem_cons_self)).2.1
    subst hd
    obtain ⟨p, ox, od', rfl, rfl, J⟩ := inst_of (c := c) (ds := es) I At0 rd (by unfold insOf; simp) ru
    refine codeAny_builtin PySem.F.entry_sum_loop ?_
    rw [Around.under_plainId PySem.F.plain_sum_loop _]
    show wpAny _ X.A.in1 (seqItems? (.ref P) >>= _) _ _ s
    refine wpAny_bind (wpAny_seqItems hPh rfl ?_)
    show wpAny _ X.A.in1 (tryCatch (pyNext (.ref T)) _ >>= _) _ _ s
    cases id ra with
    | lst hhh rr =>
    obtain ⟨its, rv, hl, _⟩ := I.list (SqL.of (K := X.K) (At0.ih _ _ hhh))
    have hil : its.length = xs.length := by rw [vals_len rv, reps_len rr]
    refine wpAny_bind (wpAny_tryCatch (wpAny_pyNext_list_end (A := X.A.in1) hh ⟨o, hTh, oc, od⟩ hl.isList (by simp [hin, hil]) fun h' hk => ?_))
    have I2 := (unpin (unpin (swap I))).turned (t' := s.toks) (it := T) (h' := h') hk hTn OT.loc (.inr OT.sz) OT.cel OT.pin
    refine wpAny_pure (hR _ H w S _ _ _ l ?_ At0 rd rfl ?_)
    · exact I2
    · rw [hin, List.drop_length] at q; exact q
  | succ m ih =>
    intro i s H w S xs d es v u o cn hm hi l oc od I At0 ra hd rd ru q
    have hlt : i < xs.length := by omega
    have hPh := (I.pin (P, pObj #[u] cn) (List.mem_append_right _ (List.mem_cons_of_mem _ List.mem_cons_self))).1
    have hTh := (I.pin (T, o) (List.mem_append_right _ List.mem_cons_self)).1
    subst hd
    obtain ⟨p, ox, od', rfl, rfl, J⟩ := inst_of (c := c) (ds := es) I At0 rd (by unfold insOf; simp) ru
    refine codeAny_builtin PySem.F.entry_sum_loop ?_
    rw [Around.under_plainId PySem.F.plain_sum_loop _]
    show wpAny _ X.A.in1 (seqItems? (.ref P) >>= _) _ _ s
    refine wpAny_bind (wpAny_seqItems hPh rfl ?_)
    show wpAny _ X.A.in1 (tryCatch (pyNext (.ref T)) _ >>= _) _ _ s
    cases id ra with
    | lst hhh rr =>
    obtain ⟨its, rv, hl, _⟩ := I.list (SqL.of (K := X.K) (At0.ih _ _ hhh))
    have hd0 : xs[i]? = some xs[i] := List.getElem?_eq_getElem hlt
    obtain ⟨vy, hv, ry⟩ := reps_at rr hd0
    obtain ⟨uy, hu, ruy⟩ := vals_at rv hv
    refine wpAny_bind (wpAny_tryCatch (wpAny_pyNext_list_item (A := X.A.in1) ⟨o, hTh, oc, od⟩ hl.isList (x := uy) (by simpa using hu) fun h' hit hk => ?_))
    obtain ⟨o', ho', oc', od1⟩ := hit
    have I2 := repin (tk := s.toks) I (Our.cons (o := pObj #[.ref p] cn) OT (Ne.symm hTP)) (fun b z hb e => (hk.2 b hb).trans e) ho' (fun v z => by rw [od1] at z; cases z)
    rw [List.drop_eq_getElem_cons hlt] at q
    have step := bin_ownF (A0 := X.A.in1) (vx := .ref p) (u := .ref p) (op := .Add) (Q := fun z H' => ∃ w1 S1 d1 es1, Le w w1 ∧ At g w1 ρ S1 σ H' ∧ Rep g w1 z d1 ∧ d1 = .obj c es1 ∧ sumO c C (xs.drop (i + 1)) d1 S1 K) F hx hf hK (Room.in1 hr) (show X.A.in1.frames = _ from I.ok.frames) I2 rfl ruy At0 rd ry (fun d1 S1 ⟨⟨es1, e1⟩, q1⟩ z w1 H1 l1 A1 r1 => ⟨w1, S1, d1, es1, l1, A1, r1, e1, q1⟩) q
    show wpAny _ X.A.in1 ((holding [uy] (binaryOp .Add (.ref p) uy)).attempt >>= _) _ _ _
    refine wpAny_bind (wpAny_attempt (wpAny_holding (wpAny_mono step (fun z s3 h => ?_) fun _ _ z => z.elim)))
    obtain ⟨vz, H3, I3, rz, w1, S1, d1, es1, l1, A1, r1, e1, q1⟩ := h
    have hP3 := (I3.pin (P, pObj #[.ref p] cn) (List.mem_append_right _ (List.mem_cons_of_mem _ List.mem_cons_self))).1
    show wpAny _ X.A.in1 (updateSeq P (fun _ => #[z]) >>= _) _ _ _
    refine wpAny_bind (wpAny_updateSeq hP3 rfl ?_)
    have hP4 := Heap.get?_update_self (Obj.mapSeq fun _ => #[z]) hP3 rfl
    refine wpAny_bind (wpAny_letGo ?_)
    refine wpAny_bind (wpAny_updateSeq hP4 rfl (wpAny_pure ⟨plainId_quiet PySem.F.plain_sum_loop _, ?_⟩))
    have I5 := swap (repin (tk := s3.toks) (h' := ((s3.heap.update P (Obj.mapSeq fun _ => #[z])).update P (Obj.mapSeq fun _ => #[z]))) (swap I3) (Our.cons OP hTP) (fun b z hb e => (Heap.get?_update_other _ _ (fun h : P = b => hb h.symm)).trans ((Heap.get?_update_other _ _ (fun h : P = b => hb h.symm)).trans e)) (Heap.get?_update_self _ hP4 rfl) (fun _ z => nomatch z))
    exact ih (i + 1) _ H3 w1 S1 xs d1 es1 vz z o' _ (by omega) hlt (l.trans l1) oc' od1 I5 A1 (ra.mono l1.s) e1 r1 rz q1
end
end R3

/-! R3cn: sum(x) of a list that holds instances. -/
namespace R3
open PySem PySem.Spec PyProof.Rows L2
section
variable {g : Sg} {X : Cx} {W : WX} {e : Expr} {pos : Pos} {fr : FA}
theorem pin_new {pins : List (Addr × Obj)} {σ : L2.St} {H : Hp} {s : Shared} {o : Obj} {t : Nat} (I : Inv X pins σ H s) (hf : o.isFreed = false) (hc : ∀ v, o.data ≠ .cell v) : Inv X ((s.heap.objs.size, o) :: pins) σ H { s with heap := s.heap.push o, toks := t } := by
  have O := our_new I
  have I1 := I.kept (h' := s.heap.push o) (t' := t) fun b u e => Heap.get?_push_of_some _ e
  refine I1.pins_of fun p hp => ?_
  rcases List.mem_cons.mp hp with e | e
  · subst e
    exact ⟨Heap.get?_push_size _ hf, I.hok.fresh (Nat.le_refl _), O.loc, O.fs, hc⟩
  · exact I1.pin p (List.mem_append_right _ e)
def rSumO (c : Nat) (Cr Ca : Ct) (K : KD) (ds : List D) (S : Store) : Prop := ∃ x xs, ds = [.lst (x :: xs)] ∧ (∃ es, insOf c S x = some es) ∧ Cr [x, .int 0] S (fun d' S' => (∃ es, d' = .obj c es) ∧ sumO c Ca xs d' S' K) (fun _ _ => False)
def wSumO (c : Nat) (Cr Ca : Ct) (f : FA) (ρ : List Sl) (S : Store) (K : KD) (ex : KX) : Prop := f ρ S (rSumO c Cr Ca K) ex
theorem sum_runO {k c : Nat} {Cr Ca : Ct} {xn : Str} (Fr : OwnN X.prog X.w X.mg X.base g k c "__radd__" 2 Cr) (Fa : OwnN X.prog X.w X.mg X.base g k c "__add__" 2 Ca) (hx : g.ad c = He.ga X.K xn) (hf : fOpI xn .Add X.K = true) (hfr : fReflB xn .Add X.K = true) (hK : g.K = X.K) (hr : Room (k + 1) X.A) {a : Addr} {pins : List (Addr × Obj)} {s : Shared} {σ : L2.St} {H : Hp} {w : Wd} {ρ : List Sl} {S : Store} {K : KD} {Q : VK} {x : D} {xs : List D}
    (I : Inv X pins σ H s) (At0 : At g w ρ S σ H) (ra : Rep g w (.ref a) (.lst (x :: xs))) (ko : KOk g w ρ σ K Q) (q : rSumO c Cr Ca K [.lst (x :: xs)] S) : wpAny (model X.prog X.w) X.A (call (.builtin "sum") [.ref a]) (EP X pins σ Q) X.xe s := by
  obtain ⟨x', xs', e, hi, q⟩ := q
  cases e
  have hh : X.A.handled = none := hr.toRoom.hd
  cases id ra with
  | @lst _ vs _ hhh rr =>
  obtain ⟨its, rv, hl, _⟩ := I.list (SqL.of (K := X.K) (At0.ih _ _ hhh))
  refine call_function_tree PySem.F.kind_sum PySem.F.plain_sum PySem.F.entry_sum (PySem.F.args_sum1 _) ?_
  unfold Builtin.«sum»
  simp only [List.length_cons, List.length_nil]
  rw [if_neg (by decide)]
  refine wpAny_bind (wpAny_of_eq (show Builtin.Builtins.bindParams "sum" ["start"] 0 { } = pure [none] from rfl) ?_)
  refine wpAny_bind (wpAny_pyIter_list hl.isList ?_)
  refine wpAny_bind (wpAny_mkInt ?_)
  refine wpAny_bind (wpAny_pure ?_)
  simp only [List.forIn_cons, List.forIn_nil]
  refine wpAny_bind (wpAny_bind (wpAny_bind (wpAny_isInstance (T := "int") (b := false) (typeIs_int _ _ _) PySem.sub_int_str ?_)))
  simp only [Bool.false_eq_true, if_false]
  refine wpAny_pure (wpAny_bind (wpAny_bind (wpAny_isInstance (T := "int") (b := false) (typeIs_int _ _ _) PySem.sub_int_bytes ?_)))
  simp only [Bool.false_eq_true, if_false]
  refine wpAny_pure (wpAny_bind (wpAny_bind (wpAny_isInstance (T := "int") (b := false) (typeIs_int _ _ _) PySem.sub_int_bytearray ?_)))
  simp only [Bool.false_eq_true, if_false]
  refine wpAny_pure (wpAny_pure ?_)
  refine wpAny_bind (wpAny_newObj_type ?_)
  refine wpAny_pure ⟨plainId_quiet PySem.F.plain_sum_loop _, ?_⟩
  have OT := our_new I
  have I1 := pin_new (t := s.toks + 1) I (o := { cls := .type "list_iterator", data := .fields #[.ref a, .int 0 0] }) rfl (fun _ z => nomatch z)
  have OP1 := our_new I1
  have I2 := pin_new (t := s.toks + 1) I1 (o := pObj #[.int 0 s.toks] 0) rfl (fun _ z => nomatch z)
  have hne : s.heap.objs.size ≠ (s.heap.push { cls := .type "list_iterator", data := .fields #[.ref a, .int 0 0] }).objs.size := by
    rw [Heap.size_push]; omega
  have OP : Our X pins (s.heap.push { cls := .type "list_iterator", data := .fields #[.ref a, .int 0 0] }).objs.size := ⟨OP1.sz, OP1.loc, OP1.fs, OP1.cel, fun p hp => OP1.pin p ((List.mem_append.mp hp).elim (fun h => List.mem_append_left _ h) fun h => List.mem_append_right _ (List.mem_cons_of_mem _ h))⟩
  generalize hP : (s.heap.push { cls := .type "list_iterator", data := .fields #[.ref a, .int 0 0] }).objs.size = P at *
  generalize hT : s.heap.objs.size = T at *
  have hPh := (I2.pin (P, _) (List.mem_append_right _ List.mem_cons_self)).1
  have hTh := (I2.pin (T, _) (List.mem_append_right _ (List.mem_cons_of_mem _ List.mem_cons_self))).1
  refine codeAny_builtin PySem.F.entry_sum_loop ?_
  rw [Around.under_plainId PySem.F.plain_sum_loop _]
  show wpAny _ X.A.in1 (seqItems? (.ref P) >>= _) _ _ _
  refine wpAny_bind (wpAny_seqItems hPh rfl ?_)
  show wpAny _ X.A.in1 (tryCatch (pyNext (.ref T)) _ >>= _) _ _ _
  cases id rr with
  | @cons vx _ _ _ rx rr' =>
  obtain ⟨its2, rv2, hl2, _⟩ := I2.list (SqL.of (K := X.K) (At0.ih _ _ hhh))
  obtain ⟨ux, hu, rux⟩ := vals_at (i := 0) rv2 rfl
  refine wpAny_bind (wpAny_tryCatch (wpAny_pyNext_list_item (A := X.A.in1) ⟨_, hTh, rfl, rfl⟩ hl2.isList (x := ux) (by simpa using hu) fun h' hit hk => ?_))
  obtain ⟨o', ho', oc', od1⟩ := hit
  have I3 := repin (tk := s.toks + 1) (swap I2) (Our.cons (o := pObj #[.int 0 s.toks] 0) OT (Ne.symm hne)) (fun b z hb e => (hk.2 b hb).trans e) ho' (fun v z => by rw [od1] at z; cases z)
  obtain ⟨p, ox, od', rfl, rfl, J⟩ := inst_of (c := c) (ds := hi.choose) I3 At0 rx hi.choose_spec rux
  have step := bin_reflF (A0 := X.A.in1) (op := .Add) (i := 0) (t := s.toks) (vy := .ref p) (v := .ref p) (Q := fun z H' => ∃ w1 S1 d1 es1, Le w w1 ∧ At g w1 ρ S1 σ H' ∧ Rep g w1 z d1 ∧ d1 = .obj c es1 ∧ sumO c Ca xs d1 S1 K) ib_add Fr hx hfr hK (Room.in1 hr) (show X.A.in1.frames = _ from I.ok.frames) I3 rfl At0 rx (fun d1 S1 ⟨⟨es1, e1⟩, q1⟩ z w1 H1 l1 A1 r1 => ⟨w1, S1, d1, es1, l1, A1, r1, e1, q1⟩) hi q
  show wpAny _ X.A.in1 (rule _ >>= _) _ _ _
  refine wpAny_bind (wpAny_rule ?_)
  show wpAny _ X.A.in1 ((holding [.ref p] (binaryOp .Add (.int 0 s.toks) (.ref p))).attempt >>= _) _ _ _
  refine wpAny_bind (wpAny_attempt (wpAny_holding (wpAny_mono step (fun z s3 h => ?_) fun _ _ z => z.elim)))
  obtain ⟨vz, H3, I4, rz, w1, S1, d1, es1, l1, A1, r1, e1, q1⟩ := h
  have hP3 := (I4.pin (P, pObj #[.int 0 s.toks] 0) (List.mem_append_right _ (List.mem_cons_of_mem _ List.mem_cons_self))).1
  subst e1
  obtain ⟨p2, ox2, od2, rfl, rfl, J2⟩ := inst_of (c := c) (ds := es1) I4 A1 r1 (by unfold insOf; simp) rz
  show wpAny _ X.A.in1 (updateSeq P (fun _ => #[Value.ref p2]) >>= _) _ _ _
  refine wpAny_bind (wpAny_updateSeq hP3 rfl ?_)
  have hP4 := Heap.get?_update_self (Obj.mapSeq fun _ => #[Value.ref p2]) hP3 rfl
  refine wpAny_bind (wpAny_letGo ?_)
  refine wpAny_bind (wpAny_updateSeq hP4 rfl (wpAny_pure ⟨plainId_quiet PySem.F.plain_sum_loop _, ?_⟩))
  have I5 := swap (repin (tk := s3.toks) (h' := ((s3.heap.update P (Obj.mapSeq fun _ => #[Value.ref p2])).update P (Obj.mapSeq fun _ => #[Value.ref p2]))) (swap I4) (Our.cons OP hne) (fun b z hb e => (Heap.get?_update_other _ _ (fun h : P = b => hb h.symm)).trans ((Heap.get?_update_other _ _ (fun h : P = b => hb h.symm)).trans e)) (Heap.get?_update_self _ hP4 rfl) (fun _ z => nomatch z))
  exact sum_loopO (w0 := w) (K := K) Fa hx hf hK hr OT OP hne (fun s' H' w' S' d v u l' I' A' r' ru' k => ⟨v, H', I', ru', ko _ _ k v w' H' l' A' r'⟩) _ 1 _ H3 w1 S1 (x :: xs) _ es1 (.ref p2) (.ref p2) o' _ rfl (by simp) l1 oc' od1 I5 A1 (ra.mono l1.s) rfl r1 rfl q1
theorem OwnN.lift {P : Program} {w : World} {mg : Str → Option Value} {base : Heap} {i k c n : Nat} {m : Str} {C : Ct} (F : OwnN P w mg base g i c m n C) (h : i ≤ k) : OwnN P w mg base g k c m n C := by
  obtain ⟨f, h1, h2, F⟩ := F.ex
  exact ⟨⟨f, h1, h2, F.mono h⟩⟩
theorem esumO {i k j c : Nat} {Cr Ca : Ct} {xn : Str} {p : Pos} (Fr : OwnN X.prog X.w X.mg X.base g k c "__radd__" 2 Cr) (Fa : OwnN X.prog X.w X.mg X.base g i c "__add__" 2 Ca) (hx : g.ad c = He.ga X.K xn) (hf : fOpI xn .Add X.K = true) (hfr : fReflB xn .Add X.K = true) (hK : g.K = X.K) (hr : Room j X.A) (hk : k + 1 ≤ j) (hi : i ≤ k) (hg : Gl X "sum") (hm : X.mg "sum" = none) (ha : EA g X W [e] fr)
    (hs : starEach [e] X.env = (false, eval e X.env) :: starEach [] X.env := by rfl) (hpl : (backTo pos (starEach [] X.env)).any (·.1) = false := by rfl) : EV g X W (.Call (.Name "sum" p) [e] [] pos) (wSumO c Cr Ca fr) := by
  refine ⟨fun pins s σ H Q I h => ?_⟩
  obtain ⟨w, ρ, S, K, ex, A, xo, ko, q⟩ := h
  refine wpAny_Call_Name_kw (ld_blt I hg hm boot_sum ?_ (by decide) (by decide))
  refine PyProof.Rows.callWith_builtin1 (thn (rdA_run ha pos I A xo q) fun us s1 ⟨vs, H1, w1, ds, S1, I1, rv, l1, A1, r1, q1⟩ => ?_) hs hpl
  obtain ⟨x, xs, rfl, q2⟩ := id q1
  obtain ⟨v, rfl, rx⟩ := r1.inv1
  obtain ⟨u, rfl, ru⟩ := vals1 rv
  cases id rx with
  | @lst a vs _ hx' rr =>
  obtain rfl : u = .ref a := ru
  exact sum_runO Fr (Fa.lift hi) hx hf hfr hK (hr.mono hk) I1 A1 rx (ko.later l1) q1
end
end R3

/-! R3co: repr(x) of data with dicts; a dict's display of one pair. -/
namespace R3
open PySem PySem.Spec PyProof.Rows L2
def noCt : Ct := fun _ _ _ _ => False
section
variable {g : Sg} {X : Cx} {W : WX} {e : Expr} {pos : Pos} {fr : FA}
mutual
theorem txt_okD {S : Store} {k c : Nat} (hK : g.K = X.K) : ∀ {d : D} {t : Str}, Txt c noCt S d t → t.length ≤ sizeLine → RunOk g X S k d t
  | _, _, .non, _ => runok_is fun w v u r ru => by cases r; cases ru; exact ReprIs.none
  | _, _, .bl b, _ => runok_is fun w v u r ru => by cases r; cases ru; exact ReprIs.bool b
  | _, _, .int i h, _ => runok_is fun w v u r ru => by cases r; obtain ⟨t, rfl⟩ := ru; exact ReprIs.int t h
  | _, _, .dic kvs h hd, _ => runok_dic hK h hd
  | _, _, .str x, hz => runok_is fun w v u r ru => by cases r; obtain ⟨t, rfl⟩ := ru; exact ReprIs.str x t hz
  | _, _, .obj es t h, _ => (h (fun _ _ => True) (fun _ _ => True) trivial).elim
  | _, _, .lst (ts := ts) h, hz => runok_lst hK (txts_okD hK h fun t ht => Nat.le_trans (listText_mem_le ht) hz) h.shbs
  | _, _, .tup (ts := ts) h, hz => runok_tup hK (txts_okD hK h fun t ht => Nat.le_trans (tupleText_mem_le ht) hz) h.shbs
theorem txts_okD {S : Store} {k c : Nat} (hK : g.K = X.K) : ∀ {ds : List D} {ts : List Str}, Txts c noCt S ds ts → (∀ t ∈ ts, t.length ≤ sizeLine) → RunOks g X S k ds ts
  | _, _, .nil, _ => .nil
  | _, _, .cons h r, hz => .cons (txt_okD hK h (hz _ List.mem_cons_self)) (txts_okD hK r fun t ht => hz t (List.mem_cons_of_mem _ ht))
end
theorem ereprD {k j c : Nat} {p : Pos} (hK : g.K = X.K) (hr : Room j X.A) (hk : k + 20 ≤ j) (hg : Gl X "repr") (hm : X.mg "repr" = none) (ha : EA g X W [e] fr)
    (hs : starEach [e] X.env = (false, eval e X.env) :: starEach [] X.env := by rfl) (hpl : (backTo pos (starEach [] X.env)).any (·.1) = false := by rfl) : EV g X W (.Call (.Name "repr" p) [e] [] pos) (wReprN c noCt fr) := by
  refine ⟨fun pins s σ H Q I h => ?_⟩
  obtain ⟨w, ρ, S, K, ex, A, xo, ko, q⟩ := h
  refine wpAny_Call_Name_kw (ld_blt I hg hm boot_repr ?_ (by decide) (by decide))
  refine PyProof.Rows.callWith_builtin1 (thn (rdA_run ha pos I A xo q) fun us s1 ⟨vs, H1, w1, ds, S1, I1, rv, l1, A1, r1, q1⟩ => ?_) hs hpl
  obtain ⟨d, t, rfl, ht, hz, hh, kz⟩ := q1
  obtain ⟨v, rfl, rx⟩ := r1.inv1
  obtain ⟨u, rfl, ru⟩ := vals1 rv
  have hz' : t.length ≤ sizeLine := Nat.le_trans hz (by decide)
  have hun := hr.units
  have hgd : X.A.in1.guards = some [] := hr.gd
  have hA : X.A.in1.frames = some X.stack := I1.ok.frames
  have g0 : ∀ n, GS g w1 [] n := fun n id v rest kw hc => nomatch hc
  have fin : ∀ s' H' w' u, Le w1 w' → Inv X pins σ H' s' → At g w' ρ S1 σ H' → EP X pins σ Q (.str t u) s' := fun s' H' w' u l' I' A' => ⟨.str _, H', I', ⟨u, rfl⟩, ko _ _ kz _ w' H' (l1.trans l') A' (.str _)⟩
  have hr1 : ∀ n, n ≤ k + 19 → L2.Room n X.A.in1 := fun n hn => (L2.Room.in1 (hr.toRoom.mono (j := k + 19 + 1) (by omega))).mono hn
  cases id ht with
  | non => exact crepr hK hr.units hr.gd pins s1 σ H1 w1 ρ S1 _ _ _ K Q I1 rv A1 r1 (ko.later l1) ⟨⟨_, rfl, rfl, by decide, Nat.le_trans hz (by decide)⟩, kz⟩
  | bl b => exact crepr hK hr.units hr.gd pins s1 σ H1 w1 ρ S1 _ _ _ K Q I1 rv A1 r1 (ko.later l1) ⟨⟨_, rfl, rfl, Nat.zero_le _, hz⟩, kz⟩
  | int i hi => exact crepr hK hr.units hr.gd pins s1 σ H1 w1 ρ S1 _ _ _ K Q I1 rv A1 r1 (ko.later l1) ⟨⟨_, rfl, decide_eq_true hi, Nat.zero_le _, hz⟩, kz⟩
  | str x => exact crepr hK hr.units hr.gd pins s1 σ H1 w1 ρ S1 _ _ _ K Q I1 rv A1 r1 (ko.later l1) ⟨⟨_, rfl, rfl, Nat.zero_le _, hz⟩, kz⟩
  | dic kvs h1 h2 => exact crepr hK hr.units hr.gd pins s1 σ H1 w1 ρ S1 _ _ _ K Q I1 rv A1 r1 (ko.later l1) ⟨⟨_, rfl, h1, Nat.le_trans h2 (by decide), hz⟩, kz⟩
  | obj es _ h => exact (h (fun _ _ => True) (fun _ _ => True) trivial).elim
  | @lst ds ts h =>
    have hT := txts_okD (g := g) (X := X) (k := k) hK h fun t ht => Nat.le_trans (listText_mem_le ht) hz'
    have hh' : hgts ds + 1 ≤ 8 := hh
    cases id rx with
    | @lst a vs _ hx rr =>
    obtain rfl : u = .ref a := ru
    obtain ⟨its, rvi, ⟨o, n, ho, hc, _, hd⟩, _⟩ := I1.list (SqL.of (A1.ih _ _ hx))
    refine call_repr_slot (by omega) ⟨o, ho, hc⟩ PySem.F.slot_list_repr.toG ?_
    by_cases hne : ds = []
    · subst hne
      cases hT
      have hil : its.length = 0 := by rw [vals_len rvi, ← reps_len rr]; rfl
      cases its with
      | cons x l => cases hil
      | nil =>
      exact call_list_repr_empty ⟨o, ho, hc⟩ ho hd ⟨_, _, rfl, by have := fin { s1 with toks := s1.toks + 1 } H1 w1 s1.toks (Le.refl w1) (I1.tok _) A1; rw [listText_nil] at this; exact this⟩
    · exact wpAny_call (codeAny_call_builtin PySem.F.slot_list_repr.plain PySem.F.entry_list_repr (PySem.F.slot_list_repr.check _ _ _ _ _ _ _ _ ⟨o, ho, hc⟩ (PySem.F.args_list_repr_1 _)
        (lst_run (R := callEnd _ _) (base := 0) hK hT h.shbs (by omega) hgd (g0 _) (hr1 _ (by omega)) hA I1 A1 rx (fun e s' h => h) (fun s' H' w' u l' I' A' => ⟨_, _, rfl, fin s' H' w' u l' I' A'⟩) hne)))
  | @tup ds ts h =>
    have hT := txts_okD (g := g) (X := X) (k := k) hK h fun t ht => Nat.le_trans (tupleText_mem_le ht) hz'
    have hh' : hgts ds + 1 ≤ 8 := hh
    cases id rx with
    | @tup a vs _ hx rr =>
    obtain rfl : u = .ref a := ru
    obtain ⟨its, rvi, ⟨o, ho, hc, n, hd⟩, _⟩ := I1.tuple (hK ▸ A1.t hx)
    refine call_repr_slot (by omega) ⟨o, ho, hc⟩ PySem.F.slot_tuple_repr ?_
    exact wpAny_call (codeAny_call_builtin_own (Code.quiet_builtin _ (by decide +kernel)) PySem.F.entry_tuple_repr (PySem.F.slot_tuple_repr.check _ _ _ _ _ _ _ _ ⟨o, ho, hc⟩ (PySem.F.args_tuple_repr_1 _)
      (tup_run (R := callEnd _ _) (base := 0) hK hT h.shbs (isGuard_tuple_repr _) (units_under_tuple_repr _ _) (weight_tup0 _) (by omega) hgd (g0 _) (hr1 _ (by omega)) hA I1 A1 rx (fun e s' h => h) (fun s' H' w' u l' I' A' => ⟨_, _, rfl, fin s' H' w' u l' I' A'⟩))))
def wDic1 (i j : Int) (_ : List Sl) (S : Store) (K : KD) (_ : KX) : Prop := K (.dic [(i, j)]) S
theorem edic1 {i j : Int} {a b : Tok} {p1 p2 : Pos} : EV g X W (.Dict [some (.Constant (.int i) a p1)] [.Constant (.int j) b p2] pos) (wDic1 i j) := PE.imp (pe_disp (pps_cons pe_int pe_int pps_nil) rfl rfl (fun z => nomatch z) (show (1 : Nat) ≤ 15 by decide)) fun σ H Q ⟨w, ρ, S, K, ex, A, xo, ko, q⟩ => fun p hp => by
  refine ⟨upd_same, [(Sum.inl i, V.int j)], rfl, (show (1 : Nat) ≤ 15 by decide), ?_⟩
  rw [L2.upd_upd]
  exact ko _ S q _ (w.add p (.dK [(Sum.inl i, V.int j)])) _ (le_add A.if_ (A.free hp)) (A.lay hp) (.dic (kvs := [(i, j)]) upd_same)
end
end R3

namespace Row
open PySem PySem.Spec PyProof.Rows L2 R3
def top (i : Nat) : Stmt := PySem.Challenge.pw_rainvalleys_k12_invalid_profiles.main.body.getD i (.Pass ⟨0, 0, 0, 0⟩)
abbrev s_law_draws : Stmt := top 16
abbrev s_law_draw : Stmt := top 17
abbrev s_law_heights : Stmt := top 18
abbrev s_law_widths : Stmt := top 19
abbrev s_law_odd : Stmt := top 21
abbrev s_law_spoilt : Stmt := top 22
abbrev s_law_first : Stmt := top 23
abbrev s_law_whole : Stmt := top 24
abbrev s_is_row : Stmt := top 12
abbrev s_is_integer : Stmt := top 7
abbrev s_is_between : Stmt := top 11
abbrev s_first_invalid : Stmt := top 13
abbrev s_Profile__init : Stmt := inClass (top 14) 0
abbrev s_law_made : Stmt := top 20
abbrev s_law : Stmt := top 25
abbrev s_InvalidProfile__init : Stmt := inClass (top 3) 0
abbrev s_InvalidWidths__init : Stmt := inClass (top 4) 0
def d_law_draws : DefR := ⟨fun K => He.ga K "_law_draws", "_law_draws", "_law_draws", defArgs s_law_draws, defBody s_law_draws, defScope s_law_draws, [], []⟩
def d_law_draw : DefR := ⟨fun K => He.ga K "_law_draw", "_law_draw", "_law_draw", defArgs s_law_draw, defBody s_law_draw, defScope s_law_draw, [], []⟩
def d_law_heights : DefR := ⟨fun K => He.ga K "_law_heights", "_law_heights", "_law_heights", defArgs s_law_heights, defBody s_law_heights, defScope s_law_heights, [], []⟩
def d_law_widths : DefR := ⟨fun K => He.ga K "_law_widths", "_law_widths", "_law_widths", defArgs s_law_widths, defBody s_law_widths, defScope s_law_widths, [], []⟩
def d_law_odd : DefR := ⟨fun K => He.ga K "_law_odd", "_law_odd", "_law_odd", defArgs s_law_odd, defBody s_law_odd, defScope s_law_odd, [], []⟩
def d_law_spoilt : DefR := ⟨fun K => He.ga K "_law_spoilt", "_law_spoilt", "_law_spoilt", defArgs s_law_spoilt, defBody s_law_spoilt, defScope s_law_spoilt, [], []⟩
def d_law_first : DefR := ⟨fun K => He.ga K "_law_first", "_law_first", "_law_first", defArgs s_law_first, defBody s_law_first, defScope s_law_first, [], []⟩
def d_law_whole : DefR := ⟨fun K => He.ga K "_law_whole", "_law_whole", "_law_whole", defArgs s_law_whole, defBody s_law_whole, defScope s_law_whole, [], []⟩
def d_is_row : DefR := ⟨fun K => He.ga K "is_row", "is_row", "is_row", defArgs s_is_row, defBody s_is_row, defScope s_is_row, [], []⟩
def d_is_integer : DefR := ⟨fun K => He.ga K "is_integer", "is_integer", "is_integer", defArgs s_is_integer, defBody s_is_integer, defScope s_is_integer, [], []⟩
def d_is_between : DefR := ⟨fun K => He.ga K "is_between", "is_between", "is_between", defArgs s_is_between, defBody s_is_between, defScope s_is_between, [], []⟩
def d_first_invalid : DefR := ⟨fun K => He.ga K "first_invalid", "first_invalid", "first_invalid", defArgs s_first_invalid, defBody s_first_invalid, defScope s_first_invalid, [], []⟩
def d_Profile__init : DefR := ⟨fun K => He.ma K (He.ga K "Profile") "__init__", "__init__", "Profile.__init__", defArgs s_Profile__init, defBody s_Profile__init, defScope s_Profile__init, [.non], []⟩
def d_law_made : DefR := ⟨fun K => He.ga K "_law_made", "_law_made", "_law_made", defArgs s_law_made, defBody s_law_made, defScope s_law_made, [], []⟩
def d_law : DefR := ⟨fun K => He.ga K "law", "law", "law", defArgs s_law, defBody s_law, defScope s_law, [], []⟩
def d_InvalidProfile__init : DefR := ⟨fun K => He.ma K (He.ga K "InvalidProfile") "__init__", "__init__", "InvalidProfile.__init__", defArgs s_InvalidProfile__init, defBody s_InvalidProfile__init, defScope s_InvalidProfile__init, [], []⟩
def d_InvalidWidths__init : DefR := ⟨fun K => He.ma K (He.ga K "InvalidWidths") "__init__", "__init__", "InvalidWidths.__init__", defArgs s_InvalidWidths__init, defBody s_InvalidWidths__init, defScope s_InvalidWidths__init, [], []⟩
def fn : List DefR := [d_law_draws, d_law_draw, d_law_heights, d_law_widths, d_law_odd, d_law_spoilt, d_law_first, d_law_whole, d_is_row, d_is_integer, d_is_between, d_first_invalid, d_Profile__init, d_law_made, d_law, d_InvalidProfile__init, d_InvalidWidths__init]
def nm (c : Nat) : Str := (["Ratio", "Profile", "Flood", "Session", "Cascade", "Gauge", "Console", "Parser", "Runner", "InvalidNumber", "InvalidProfile", "InvalidWidths", "InvalidWeights", "InvalidObservations", "InvalidOperations", "InvalidCascade", "ParseError", "InvalidCommand", "ScriptError", "InvalidColumn", "InvalidValley", "UnknownName", "LimitExceeded", "NothingToUndo", "Flow", "Span"] : List Str).getD c ""
def fl (c : Nat) : List Str := ([["own_top", "own_bottom"], ["own_heights", "own_widths"], ["ground", "tops", "crests", "runs", "bottoms", "water", "own_stored", "own_left", "own_right", "own_taken"], ["states", "operations", "cancelled"], [], ["own_column"], [], [], [], ["value"], ["index"], ["index"], ["index"], ["index"], ["index"], ["name"], ["value"], ["value"], ["line"], ["value"], ["value"], ["name"], ["limit"], ["count"], ["own_flood", "own_bodies", "full", "gains", "received", "out_left", "out_right"], ["begin", "state", "flow", "part"]] : List (List Str)).getD c []
abbrev sg (K : Fr) : Sg := ⟨K, fun c => He.ga K (nm c), fl, none⟩
def mc : List Nat := []
def fa : List (Fr → Bool) := [fFree "len", fFree "repr", fFree "tuple", fFree "int", fFree "range", fFree "list", fExm nm "InvalidProfile" [(10, true), (11, false)], fXf nm "index" [10], fXis nm (fun K => .ref (He.ga K "RainError")) [(10, true)], fGlo "RainError", fFree "isinstance", fXis nm (fun K => .type "ValueError") [(10, true)], fFree "ValueError", fXis nm (fun K => .ref (He.ga K "InvalidWidths")) [(10, false)], fGlo "InvalidWidths", fGlo "InvalidProfile", fExm nm "InvalidWidths" [(10, false), (11, true)], fXf nm "index" [11], fXis nm (fun K => .ref (He.ga K "RainError")) [(11, true)], fXis nm (fun K => .type "ValueError") [(11, true)], fXis nm (fun K => .ref (He.ga K "InvalidProfile")) [(11, false)], fInt "MAX_COLUMNS" (60), fInt "MAX_SIZE" (1000000000000000000000000000000), fIsi "Profile", fNo "Profile" "own_heights", fNo "Profile" "own_widths", fIsa nm (fun K t => PySem.W.kitAny K t [.type "list", .type "tuple"]) ["list", "tuple"] [(1, false)], fFree "enumerate", fIsa nm (fun K t => PySem.W.kitOne K t (.type "int")) ["bool", "int"] [(1, false)], fIsa nm (fun K t => PySem.W.kitOne K t (.type "bool")) ["bool"] [(1, false)], fFree "bool", fGlo "_law_draws", fGlo "_law_draw", fGlo "_law_heights", fGlo "_law_widths", fGlo "_law_odd", fGlo "_law_spoilt", fGlo "_law_first", fGlo "_law_whole", fGlo "is_row", fGlo "is_integer", fGlo "is_between", fGlo "first_invalid", fMk "Profile", fGlo "Profile", fGlo "_law_made", fGlo "law", fErr "InvalidProfile" "index" [.type "ValueError", .type "Exception", .type "BaseException", .type "object"] "ValueError.__new__", fBO "RainError" "ValueError.__init__", fErr "InvalidWidths" "index" [.type "ValueError", .type "Exception", .type "BaseException", .type "object"] "ValueError.__new__"]
/-- the classes whose instances are tested -/
def okC (_ : Nat) : Bool := false
theorem okC_cases {c : Nat} (h : okC c = true) : c = 0 ∨ c = 1 := by cases h

/-! ### contracts -/
def intsD (xs : List Int) : List D := xs.map D.int
def profD (hs ws : List Int) : D := .obj 1 [.tup (intsD hs), .tup (intsD ws)]
def okH (xs : List Int) : Prop := 1 ≤ xs.length ∧ xs.length ≤ 60 ∧ ∀ x ∈ xs, -1000000000000000000000000000000 ≤ x ∧ x ≤ 1000000000000000000000000000000
def okW (n : Nat) (xs : List Int) : Prop := xs.length = n ∧ ∀ x ∈ xs, 1 ≤ x ∧ x ≤ 1000000000000000000000000000000
/-- what is_integer, isinstance take -/
def kn : D → Bool
  | .ty _ => false
  | .ref _ => false
  | .obj c _ => okC c
  | _ => true
def isIntD : D → Bool
  | .int _ => true
  | _ => false
def isRowD : D → Bool
  | .lst _ => true
  | .tup _ => true
  | .scr _ => true
  | _ => false
def C_is_integer : Ct := fun ds S K _ => ∃ d, ds = [d] ∧ kn d = true ∧ K (.bl (isIntD d)) S
def betw (d : D) (lo hi : Int) : Bool := match d with
  | .int i => decide (lo ≤ i) && decide (i ≤ hi)
  | _ => false
def C_is_between : Ct := fun ds S K _ => ∃ d lo hi, ds = [d, .int lo, .int hi] ∧ kn d = true ∧ K (.bl (betw d lo hi)) S
def C_is_row : Ct := fun ds S K _ => ∃ d, ds = [d] ∧ kn d = true ∧ K (.bl (isRowD d)) S
def firstInv (lo hi : Int) : Nat → List D → D
  | _, [] => .non
  | i, d :: r => if betw d lo hi = true then firstInv lo hi (i + 1) r else .int (i : Nat)
def C_first_invalid : Ct := fun ds S K _ => ∃ d xs lo hi, ds = [d, .int lo, .int hi] ∧ (d = .lst xs ∨ d = .tup xs) ∧ (∀ x ∈ xs, kn x = true) ∧ K (firstInv lo hi 0 xs) S
def isLT (d : D) (xs : List D) : Prop := d = .lst xs ∨ d = .tup xs
def C_Profile_heights : Ct := fun ds S K _ => ∃ a b, ds = [.obj 1 [a, b]] ∧ K a S
def C_Profile_widths : Ct := fun ds S K _ => ∃ a b, ds = [.obj 1 [a, b]] ∧ K b S
/-! draws -/
def Dr (n : Nat) (S : Store) : Prop := ∃ (cells : List Int) (i : Nat) (j k : Int), S[n]? = some (some (.lst [.lst (intsD cells), .int (i : Nat), .int j, .int k]))
def C_law_draws : CtL := fun ds S K _ => ∃ ns, ds = [.scr ns] ∧ ns.length ≤ 63 ∧ K [.lst (intsD ns), .int 0, .int 0, .int 5] S
def C_law_draw : Ct := fun ds S K _ => ∃ n many, ds = [.ref n, .int many] ∧ Dr n S ∧ 0 < many ∧ many.natAbs.log2 < 9000 ∧ ∀ v S', 0 ≤ v → v < many → Dr n S' → Oth n S S' → K (.int v) S'
def C_law_heights : CtL := fun ds S K _ => ∃ n, ds = [.ref n] ∧ Dr n S ∧ ∀ hs S', okH hs → Dr n S' → Oth n S S' → K (intsD hs) S'
def C_law_widths : CtL := fun ds S K _ => ∃ n m, ds = [.ref n, .int (m : Nat)] ∧ m ≤ 60 ∧ Dr n S ∧ ∀ ws S', okW m ws → Dr n S' → Oth n S S' → K (intsD ws) S'

/-! contracts of k12 -/
def MX : Int := 1000000000000000000000000000000
/-- the text of a value, of at most n signs -/
def Tx (n m : Nat) (d : D) : Prop := ∃ t, (∀ S, Txt 0 noCt S d t) ∧ t.length ≤ n ∧ hgt d ≤ m ∧ PyData.strOk t = true
def badTop (d : D) : Prop := kn d = true ∧ (isRowD d = false ∨ ∃ xs, isLT d xs ∧ (xs.length < 1 ∨ 60 < xs.length))
def hC (d : D) (n : Nat) (h : Option D) : Prop := (h = some .non ∧ badTop d) ∨ ∃ xs, isLT d xs ∧ xs.length = n ∧ 1 ≤ n ∧ n ≤ 60 ∧ (∀ x ∈ xs, kn x = true) ∧ ((firstInv (-1000000000000000000000000000000) 1000000000000000000000000000000 0 xs = .non ∧ h = none) ∨ ∃ i : Int, firstInv (-1000000000000000000000000000000) 1000000000000000000000000000000 0 xs = .int i ∧ h = some (.int i))
def wC12 (d : D) (n : Nat) (h : Option D) : Prop := (d = .non ∧ h = none) ∨ (h = some .non ∧ kn d = true ∧ d ≠ .non ∧ (isRowD d = false ∨ ∃ xs, isLT d xs ∧ xs.length ≠ n)) ∨ ∃ xs, isLT d xs ∧ xs.length = n ∧ (∀ x ∈ xs, kn x = true) ∧ ((firstInv 1 1000000000000000000000000000000 0 xs = .non ∧ h = none) ∨ ∃ i : Int, firstInv 1 1000000000000000000000000000000 0 xs = .int i ∧ h = some (.int i))
def vd (h w : Option D) : Option (Bool × D) := match h with
  | some i => some (false, i)
  | none => (match w with
    | some i => some (true, i)
    | none => none)
def dueD : Option (Bool × D) → D
  | none => .tup []
  | some (b, i) => .tup [.str (if b then "widths" else "heights"), i, .bl true, .bl true, .bl false]
def C_Profile__init : Ct := fun ds S K ex => ∃ d e n h w, ds = [d, e] ∧ hC d n h ∧ wC12 e n w ∧ (match vd h w with
  | none => ∀ y, K y S
  | some (false, i) => ex ⟨10, [i]⟩ S
  | some (true, i) => ex ⟨11, [i]⟩ S)
def C_law_made : Ct := fun ds S K _ => ∃ d e n h w, ds = [d, e] ∧ hC d n h ∧ wC12 e n w ∧ K (dueD (vd h w)) S
/-- a value that is not valid within a row -/
def Bad (lo : Int) (d : D) : Prop := betw d lo 1000000000000000000000000000000 = false ∧ kn d = true ∧ Tx 300 1 d
def C_law_odd : Ct := fun ds S K _ => ∃ n lo, ds = [.ref n, .int lo] ∧ Dr n S ∧ -1000000000000000000000000000000 ≤ lo ∧ lo ≤ 1 ∧ ∀ d S', Bad lo d → Dr n S' → Oth n S S' → K d S'
def Spo (row : List Int) (lo : Int) (xs : List D) (ps : List Nat) : Prop := xs.length = row.length ∧ (∀ p ∈ ps, p < row.length) ∧ ∀ i, i < row.length → ∃ x, xs[i]? = some x ∧ (i ∈ ps → Bad lo x) ∧ (i ∉ ps → x = .int (row.getD i 0))
def natsD (ps : List Nat) : List D := ps.map fun (p : Nat) => D.int (p : Int)
def C_law_spoilt : Ct := fun ds S K _ => ∃ n row lo, ds = [.ref n, .lst (intsD row), .int lo] ∧ 1 ≤ row.length ∧ row.length ≤ 60 ∧ Dr n S ∧ -1000000000000000000000000000000 ≤ lo ∧ lo ≤ 1 ∧ ∀ xs ps S', Spo row lo xs ps → Dr n S' → Oth n S S' → K (.tup [.lst xs, .lst (natsD ps)]) S'
def C_law_first : Ct := fun ds S K _ => ∃ p ps, ds = [.lst (natsD (p :: ps))] ∧ K (.int ((ps.foldl min p : Nat) : Int)) S
def Whole (a b : Nat) (d : D) : Prop := kn d = true ∧ d ≠ .non ∧ Tx 300000 2 d ∧ (isRowD d = false ∨ ∃ xs, isLT d xs ∧ (xs.length < a ∨ b < xs.length))
def C_law_whole : Ct := fun ds S K _ => ∃ n row, ∃ a b : Nat, ds = [.ref n, .lst (intsD row), .int (a : Nat), .int (b : Nat)] ∧ 1 ≤ a ∧ a ≤ 60 ∧ b ≤ 60 ∧ 1 ≤ row.length ∧ (∀ x ∈ row, x.natAbs < 2 ^ 200) ∧ Dr n S ∧ ∀ d S', Whole a b d → Dr n S' → Oth n S S' → K d S'
def C_law : Ct := fun ds S K _ => ∃ ns, ds = [.scr ns] ∧ ns.length ≤ 63 ∧ S = [] ∧ ∀ S', K (.bl true) S'
def C_Profile__init_1 : Ct := fun ds S K ex => ∃ d, ds = [d] ∧ C_Profile__init [d, .non] S K ex


def N_law_draws : List Str := ["_law_script"]
def rd_law_draws : FS := wRetL (wLst (wCons (wVal (wSlL (wVar 0) (wNoP) (wPrt (wC (.int 63))))) (wCons (wC (.int 0)) (wCons (wC (.int 0)) (wCons (wC (.int 5)) (wNil))))))
def N_law_draw : List Str := ["_law_draws_here", "_law_many", "_law_cells", "_law_value", "_law_cell", "_law_mixed"]
def rd_law_draw : FS := wSeq (wSet 2 (wOp rIxD (wVar 0) (wC (.int 0)))) (wSeq (wIfS (wAnd (wTst (wOp (rEqU false) (wOp rIxD (wVar 0) (wC (.int 2))) (wC (.int 0)))) (wAnd (wTst (wOp (rdLt) (wOp rIxD (wVar 0) (wC (.int 1))) (wCB rLenD (wCons (wVar 2) (wNil))))) (wTst (wOp (rdGe) (wOp rIxD (wVar 2) (wOp rIxD (wVar 0) (wC (.int 1)))) (wOp rdPow (wC (.int 10)) (wC (.int 18))))))) (wSeq (wPutRef (wOp rIxD (wVar 2) (wOp rIxD (wVar 0) (wC (.int 1)))) (wVar 0) (wC (.int 2))) (wPutRef (wOp rdAdd (wOp rIxD (wVar 0) (wC (.int 1))) (wC (.int 1))) (wVar 0) (wC (.int 1)))) (wNext)) (wSeq (wIfS (wTst (wOp (rdGt) (wOp rIxD (wVar 0) (wC (.int 2))) (wC (.int 0)))) (wSeq (wSet 3 (wOp rdMod (wOp rIxD (wVar 0) (wC (.int 2))) (wVar 1))) (wSeq (wPutRef (wOp rdFdv (wOp rIxD (wVar 0) (wC (.int 2))) (wVar 1)) (wVar 0) (wC (.int 2))) (wRet (wVar 3)))) (wNext)) (wSeq (wSet 4 (wC (.int 0))) (wSeq (wIfS (wTst (wOp (rdLt) (wOp rIxD (wVar 0) (wC (.int 1))) (wCB rLenD (wCons (wVar 2) (wNil))))) (wSeq (wSet 4 (wOp rIxD (wVar 2) (wOp rIxD (wVar 0) (wC (.int 1))))) (wPutRef (wOp rdAdd (wOp rIxD (wVar 0) (wC (.int 1))) (wC (.int 1))) (wVar 0) (wC (.int 1)))) (wNext)) (wSeq (wPutRef (wOp rdMod (wOp rdAdd (wOp rdAdd (wOp rMulU (wOp rIxD (wVar 0) (wC (.int 3))) (wC (.int 48271))) (wOp rdMod (wVar 4) (wC (.int 1999993)))) (wC (.int 11))) (wC (.int 2147483647))) (wVar 0) (wC (.int 3))) (wSeq (wSet 5 (wOp rdMod (wOp rdPow (wOp rIxD (wVar 0) (wC (.int 3))) (wC (.int 5))) (wC (.int 2147483647)))) (wSeq (wIfS (wTst (wOp (rdGt) (wVar 1) (wOp rdPow (wC (.int 10)) (wC (.int 9))))) (wSet 5 (wOp rdAdd (wOp rdPow (wVar 5) (wC (.int 4))) (wVar 5))) (wNext)) (wRet (wOp rdMod (wVar 5) (wVar 1))))))))))
def N_law_heights : List Str := ["_law_draws_here", "_law_many", "_law_size", "_law_k"]
def rd_law_heights : FS := wSeq (wSet 1 (wOp rdAdd (wC (.int 1)) (wCall 2 C_law_draw (wCons (wVar 0) (wCons (wOp rIxD (wVal (wLst (wCons (wC (.int 9)) (wCons (wC (.int 60)) (wNil))))) (wCB rInt1 (wCons (wOp (rEqU false) (wCall 2 C_law_draw (wCons (wVar 0) (wCons (wC (.int 4)) (wNil)))) (wC (.int 3))) (wNil)))) (wNil)))))) (wSeq (wSet 2 (wOp rIxD (wVal (wLst (wCons (wC (.int 2)) (wCons (wC (.int 7)) (wCons (wOp rdPow (wC (.int 10)) (wC (.int 6))) (wCons (wOp rdPow (wC (.int 10)) (wC (.int 30))) (wNil))))))) (wCall 2 C_law_draw (wCons (wVar 0) (wCons (wC (.int 4)) (wNil)))))) (wRetL (wLc (wR1 (wCons (wVar 1) (wNil))) (gNm 3) (wYes) (wOp rdSub (wCall 2 C_law_draw (wCons (wVar 0) (wCons (wOp rdAdd (wOp rMulU (wC (.int 2)) (wVar 2)) (wC (.int 1))) (wNil)))) (wVar 2)) [3])))
def N_law_widths : List Str := ["_law_draws_here", "_law_many", "_law_size", "_law_k"]
def rd_law_widths : FS := wSeq (wSet 2 (wOp rIxD (wVal (wLst (wCons (wC (.int 1)) (wCons (wC (.int 3)) (wCons (wOp rdPow (wC (.int 10)) (wC (.int 30))) (wNil)))))) (wCall 2 C_law_draw (wCons (wVar 0) (wCons (wC (.int 3)) (wNil)))))) (wRetL (wLc (wR1 (wCons (wVar 1) (wNil))) (gNm 3) (wYes) (wOp rdAdd (wC (.int 1)) (wCall 2 C_law_draw (wCons (wVar 0) (wCons (wVar 2) (wNil))))) [3]))
def N_law_odd : List Str := ["_law_draws_here", "_law_least", "_law_far", "_law_odd_here"]
def rd_law_odd : FS := wSeq (wSet 2 (wOp rdAdd (wOp rdAdd (wOp rdPow (wC (.int 10)) (wC (.int 30))) (wC (.int 1))) (wCall 2 C_law_draw (wCons (wVar 0) (wCons (wOp rdPow (wC (.int 10)) (wC (.int 9))) (wNil)))))) (wSeq (wSet 3 (wVal (wLst (wCons (wC .non) (wCons (wC (.bl true)) (wCons (wC (.bl false)) (wCons (wC (.str "3")) (wCons (wC (.str "")) (wCons (wTup (wNil)) (wCons (wVal (wLst (wNil))) (wCons (wTup (wCons (wC (.int 1)) (wNil))) (wCons (wDic0) (wCons (wVar 2) (wCons (wOp rdSub (wC (.int 0)) (wVar 2)) (wCons (wOp rdSub (wOp rdSub (wVar 1) (wC (.int 1))) (wCall 2 C_law_draw (wCons (wVar 0) (wCons (wC (.int 9)) (wNil))))) (wNil)))))))))))))))) (wRet (wOp rIxD (wVar 3) (wCall 2 C_law_draw (wCons (wVar 0) (wCons (wC (.int 12)) (wNil)))))))
def N_law_spoilt : List Str := ["_law_draws_here", "_law_row", "_law_least", "_law_places", "_law_result", "_law_turn", "_law_place"]
def rd_law_spoilt : FS := wSeq (wOwnS 3 (wLst (wNil))) (wSeq (wOwnS 4 (wListC (wVar 1))) (wSeq (wFor (wR1 (wCons (wCall 2 C_law_draw (wCons (wVar 0) (wCons (wC (.int 3)) (wNil)))) (wNil))) (gNm 5) (wSeq (wSet 6 (wCall 2 C_law_draw (wCons (wVar 0) (wCons (wCB rLenD (wCons (wVar 1) (wNil))) (wNil))))) (wSeq (wPutIx 4 (wCall 2 C_law_odd (wCons (wVar 0) (wCons (wVar 2) (wNil)))) (wVar 6)) (wApp 3 (wVar 6))))) (wFrz 3 (wFrz 4 (wRet (wTup (wCons (wVar 4) (wCons (wVar 3) (wNil)))))))))
def N_law_first : List Str := ["_law_places", "_law_least", "_law_place"]
def rd_law_first : FS := wSeq (wSet 1 (wOp rIxD (wVar 0) (wC (.int 0)))) (wSeq (wFor (wItU (wVar 0)) (gNm 2) (wIfS (wTst (wOp (rdLt) (wVar 2) (wVar 1))) (wSet 1 (wVar 2)) (wNext))) (wRet (wVar 1)))
def N_law_whole : List Str := ["_law_draws_here", "_law_row", "_law_least_length", "_law_most_length", "_law_longer", "_law_shorter", "_law_k"]
def rd_law_whole : FS := wSeq (wSet 4 (wVal (wLc (wR1 (wCons (wOp rdAdd (wOp rdAdd (wVar 3) (wC (.int 1))) (wCall 2 C_law_draw (wCons (wVar 0) (wCons (wC (.int 9)) (wNil))))) (wNil))) (gNm 6) (wYes) (wOp rIxD (wVar 1) (wC (.int 0))) [6]))) (wSeq (wSet 5 (wVal (wLc (wR1 (wCons (wCall 2 C_law_draw (wCons (wVar 0) (wCons (wVar 2) (wNil)))) (wNil))) (gNm 6) (wYes) (wOp rIxD (wVar 1) (wC (.int 0))) [6]))) (wRet (wOp rIxD (wVal (wLst (wCons (wC (.int 7)) (wCons (wC (.bl true)) (wCons (wC (.bl false)) (wCons (wC (.str "11")) (wCons (wC (.str "")) (wCons (wDic0) (wCons (wDic1 0 1) (wCons (wVar 4) (wCons (wTupC (wVar 4)) (wCons (wVar 5) (wCons (wTupC (wVar 5)) (wNil)))))))))))))) (wCall 2 C_law_draw (wCons (wVar 0) (wCons (wC (.int 11)) (wNil)))))))
def N_is_row : List Str := ["value"]
def rd_is_row : FS := wRet (wIsi (pIsi ["list", "tuple"] [(1, false)]) (wVar 0))
def N_is_integer : List Str := ["value"]
def rd_is_integer : FS := wRet (wAndV (wIsi (pIsi ["bool", "int"] [(1, false)]) (wVar 0)) (wNotV (wIsi (pIsi ["bool"] [(1, false)]) (wVar 0))))
def N_is_between : List Str := ["value", "least", "most"]
def rd_is_between : FS := wRet (wAndV (wCall 1 C_is_integer (wCons (wVar 0) (wNil))) (wChain (rInt0 fun i j => .bl (decide (i ≤ j))) (rInt0 fun i j => .bl (decide (i ≤ j))) (wVar 1) (wVar 0) (wVar 2)))
def N_first_invalid : List Str := ["values", "least", "most", "index", "value"]
def rd_first_invalid : FS := wSeq (wFor (wEnum (wCons (wVar 0) (wNil))) (gTp 2 (gCs (gNm 3) (gCs (gNm 4) (gNl)))) (wIfS (wNot (wTst (wCall 3 C_is_between (wCons (wVar 4) (wCons (wVar 1) (wCons (wVar 2) (wNil))))))) (wRet (wVar 3)) (wNext))) (wRet (wC .non))
def N_Profile__init : List Str := ["self", "heights", "widths", "invalid"]
def rd_Profile__init : FS := wSeq (wIfS (wOr (wNot (wTst (wCall 1 C_is_row (wCons (wVar 1) (wNil))))) (wNot (wTst (wChain (rInt0 fun i j => .bl (decide (i ≤ j))) (rInt0 fun i j => .bl (decide (i ≤ j))) (wC (.int 1)) (wCB rLenD (wCons (wVar 1) (wNil))) (wC (.int (60))))))) (wRaise 10 (wC .non)) (wNext)) (wSeq (wSet 3 (wCall 3 C_first_invalid (wCons (wVar 1) (wCons (wNeg (wC (.int (1000000000000000000000000000000)))) (wCons (wC (.int (1000000000000000000000000000000))) (wNil)))))) (wSeq (wIfS (wTst (wIsN true (wVar 3))) (wRaise 10 (wVar 3)) (wNext)) (wSeq (wIfS (wAnd (wTst (wIsN true (wVar 2))) (wOr (wNot (wTst (wCall 1 C_is_row (wCons (wVar 2) (wNil))))) (wTst (wOp (rEqU true) (wCB rLenD (wCons (wVar 2) (wNil))) (wCB rLenD (wCons (wVar 1) (wNil))))))) (wRaise 11 (wC .non)) (wNext)) (wSeq (wSet 3 (wCall 3 C_first_invalid (wCons (wOrT (wVar 2) (wVal (wLst (wNil)))) (wCons (wC (.int 1)) (wCons (wC (.int (1000000000000000000000000000000))) (wNil)))))) (wSeq (wIfS (wTst (wIsN true (wVar 3))) (wRaise 11 (wVar 3)) (wNext)) (wSeq (wSelfS 0 1 "own_heights" (wTupC (wVar 1))) (wSelfS 0 1 "own_widths" (wIf (wTst (wIsN false (wVar 2))) (wOp rMulU (wTup (wCons (wC (.int 1)) (wNil))) (wCB rLenD (wCons (wVar 1) (wNil)))) (wTupC (wVar 2))))))))))
def N_law_made : List Str := ["_law_heights_here", "_law_widths_here", "_law_found", "e"]
def rd_law_made : FS := wSeq (wSet 2 (wTup (wNil))) (wSeq (wTryL [⟨csOf [(10, true), (11, false)], some 3, fun y => wSet 2 (wTup (wCons (wC (.str "heights")) (wCons (wXf [10] 3 y) (wCons (wIsX (csOf [(10, true)]) 3 y) (wCons (wIsX (csOf [(10, true)]) 3 y) (wCons (wIsX (csOf [(10, false)]) 3 y) (wNil)))))))⟩, ⟨csOf [(10, false), (11, true)], some 3, fun y => wSet 2 (wTup (wCons (wC (.str "widths")) (wCons (wXf [11] 3 y) (wCons (wIsX (csOf [(11, true)]) 3 y) (wCons (wIsX (csOf [(11, true)]) 3 y) (wCons (wIsX (csOf [(11, false)]) 3 y) (wNil)))))))⟩] (wDrop (wCall 2 C_Profile__init (wCons (wVar 0) (wCons (wVar 1) (wNil)))))) (wRet (wVar 2)))
def N_law : List Str := ["_law_script", "_law_draws_here", "_law_heights_here", "_law_many", "_law_widths_here", "_law_bad_heights", "_law_places", "_law_bad_widths", "_law_width_places", "_law_due", "_law_kept"]
def rt_law_14 : FS := wRet (wAndV (wOp (rEqU false) (wCall 2 C_law_made (wCons (wVar 2) (wCons (wVar 4) (wNil)))) (wTup (wNil))) (wOp (rEqU false) (wCall 2 C_law_made (wCons (wTupC (wVar 2)) (wCons (wC .non) (wNil)))) (wTup (wNil))))
def rt_law_13 : FS := wSeq (wIfS (wAnd (wTst (wOp (rEqU true) (wVar 9) (wTup (wNil)))) (wAnd (wTst (wOp (rEqU false) (wOp rIxD (wVar 9) (wC (.int 0))) (wC (.str "heights")))) (wTst (wOp (rEqU true) (wCall 2 C_law_made (wCons (wVar 5) (wCons (wC .non) (wNil)))) (wVar 9))))) (wRet (wC (.bl false))) (wNext)) rt_law_14
def rt_law_12 : FS := wSeq (wIfS (wOr (wTst (wOp (rEqU true) (wCall 2 C_law_made (wCons (wVar 5) (wCons (wVar 7) (wNil)))) (wVar 9))) (wTst (wOp (rEqU true) (wReprN 0 noCt (wCons (wVal (wLst (wCons (wVar 5) (wCons (wVar 7) (wNil))))) (wNil))) (wVar 10)))) (wRet (wC (.bl false))) (wNext)) rt_law_13
def rt_law_11 : FS := wSeq (wSet 10 (wReprN 0 noCt (wCons (wVal (wLst (wCons (wVar 5) (wCons (wVar 7) (wNil))))) (wNil)))) rt_law_12
def rt_law_10 : FS := wSeq (wIfS (wTst (wOp (rEqU false) (wCall 2 C_law_draw (wCons (wVar 1) (wCons (wC (.int 5)) (wNil)))) (wC (.int 4)))) (wSeq (wSet 5 (wCall 4 C_law_whole (wCons (wVar 1) (wCons (wVar 2) (wCons (wC (.int 1)) (wCons (wC (.int 60)) (wNil))))))) (wSet 9 (wTup (wCons (wC (.str "heights")) (wCons (wC .non) (wCons (wC (.bl true)) (wCons (wC (.bl true)) (wCons (wC (.bl false)) (wNil))))))))) (wNext)) rt_law_11
def rt_law_9 : FS := wSeq (wIfS (wTst (wOp (rEqU true) (wVar 6) (wVal (wLst (wNil))))) (wSet 9 (wTup (wCons (wC (.str "heights")) (wCons (wCall 1 C_law_first (wCons (wVar 6) (wNil))) (wCons (wC (.bl true)) (wCons (wC (.bl true)) (wCons (wC (.bl false)) (wNil)))))))) (wNext)) rt_law_10
def rt_law_8 : FS := wSeq (wIfS (wTst (wOp (rEqU false) (wCall 2 C_law_draw (wCons (wVar 1) (wCons (wC (.int 5)) (wNil)))) (wC (.int 4)))) (wSeq (wSet 7 (wCall 4 C_law_whole (wCons (wVar 1) (wCons (wVar 4) (wCons (wVar 3) (wCons (wVar 3) (wNil))))))) (wSet 9 (wTup (wCons (wC (.str "widths")) (wCons (wC .non) (wCons (wC (.bl true)) (wCons (wC (.bl true)) (wCons (wC (.bl false)) (wNil))))))))) (wNext)) rt_law_9
def rt_law_7 : FS := wSeq (wIfS (wTst (wOp (rEqU true) (wVar 8) (wVal (wLst (wNil))))) (wSet 9 (wTup (wCons (wC (.str "widths")) (wCons (wCall 1 C_law_first (wCons (wVar 8) (wNil))) (wCons (wC (.bl true)) (wCons (wC (.bl true)) (wCons (wC (.bl false)) (wNil)))))))) (wNext)) rt_law_8
def rt_law_6 : FS := wSeq (wSet 9 (wTup (wNil))) rt_law_7
def rt_law_5 : FS := wSeq (wAsg (wCall 3 C_law_spoilt (wCons (wVar 1) (wCons (wVar 4) (wCons (wC (.int 1)) (wNil))))) (gTp 2 (gCs (gNm 7) (gCs (gNm 8) (gNl))))) rt_law_6
def rt_law_4 : FS := wSeq (wAsg (wCall 3 C_law_spoilt (wCons (wVar 1) (wCons (wVar 2) (wCons (wOp rdSub (wC (.int 0)) (wOp rdPow (wC (.int 10)) (wC (.int 30)))) (wNil))))) (gTp 2 (gCs (gNm 5) (gCs (gNm 6) (gNl))))) rt_law_5
def rt_law_3 : FS := wSeq (wSet 4 (wVal (wCallL 2 C_law_widths (wCons (wVar 1) (wCons (wVar 3) (wNil)))))) rt_law_4
def rt_law_2 : FS := wSeq (wSet 3 (wCB rLenD (wCons (wVar 2) (wNil)))) rt_law_3
def rt_law_1 : FS := wSeq (wSet 2 (wVal (wCallL 1 C_law_heights (wCons (wVar 1) (wNil))))) rt_law_2
def rt_law_0 : FS := wSeq (wJoin 1 (wCallL 1 C_law_draws (wCons (wVar 0) (wNil)))) rt_law_1
def rd_law : FS := rt_law_0
def rx_law : FS := wSeq (wJoin 1 (wCallL 1 C_law_draws (wCons (wVar 0) (wNil)))) (wSeq (wSet 2 (wVal (wCallL 1 C_law_heights (wCons (wVar 1) (wNil))))) (wSeq (wSet 3 (wCB rLenD (wCons (wVar 2) (wNil)))) (wSeq (wSet 4 (wVal (wCallL 2 C_law_widths (wCons (wVar 1) (wCons (wVar 3) (wNil)))))) (wSeq (wAsg (wCall 3 C_law_spoilt (wCons (wVar 1) (wCons (wVar 2) (wCons (wOp rdSub (wC (.int 0)) (wOp rdPow (wC (.int 10)) (wC (.int 30)))) (wNil))))) (gTp 2 (gCs (gNm 5) (gCs (gNm 6) (gNl))))) (wSeq (wAsg (wCall 3 C_law_spoilt (wCons (wVar 1) (wCons (wVar 4) (wCons (wC (.int 1)) (wNil))))) (gTp 2 (gCs (gNm 7) (gCs (gNm 8) (gNl))))) (wSeq (wSet 9 (wTup (wNil))) (wSeq (wIfS (wTst (wOp (rEqU true) (wVar 8) (wVal (wLst (wNil))))) (wSet 9 (wTup (wCons (wC (.str "widths")) (wCons (wCall 1 C_law_first (wCons (wVar 8) (wNil))) (wCons (wC (.bl true)) (wCons (wC (.bl true)) (wCons (wC (.bl false)) (wNil)))))))) (wNext)) (wSeq (wIfS (wTst (wOp (rEqU false) (wCall 2 C_law_draw (wCons (wVar 1) (wCons (wC (.int 5)) (wNil)))) (wC (.int 4)))) (wSeq (wSet 7 (wCall 4 C_law_whole (wCons (wVar 1) (wCons (wVar 4) (wCons (wVar 3) (wCons (wVar 3) (wNil))))))) (wSet 9 (wTup (wCons (wC (.str "widths")) (wCons (wC .non) (wCons (wC (.bl true)) (wCons (wC (.bl true)) (wCons (wC (.bl false)) (wNil))))))))) (wNext)) (wSeq (wIfS (wTst (wOp (rEqU true) (wVar 6) (wVal (wLst (wNil))))) (wSet 9 (wTup (wCons (wC (.str "heights")) (wCons (wCall 1 C_law_first (wCons (wVar 6) (wNil))) (wCons (wC (.bl true)) (wCons (wC (.bl true)) (wCons (wC (.bl false)) (wNil)))))))) (wNext)) (wSeq (wIfS (wTst (wOp (rEqU false) (wCall 2 C_law_draw (wCons (wVar 1) (wCons (wC (.int 5)) (wNil)))) (wC (.int 4)))) (wSeq (wSet 5 (wCall 4 C_law_whole (wCons (wVar 1) (wCons (wVar 2) (wCons (wC (.int 1)) (wCons (wC (.int 60)) (wNil))))))) (wSet 9 (wTup (wCons (wC (.str "heights")) (wCons (wC .non) (wCons (wC (.bl true)) (wCons (wC (.bl true)) (wCons (wC (.bl false)) (wNil))))))))) (wNext)) (wSeq (wSet 10 (wReprN 0 noCt (wCons (wVal (wLst (wCons (wVar 5) (wCons (wVar 7) (wNil))))) (wNil)))) (wSeq (wIfS (wOr (wTst (wOp (rEqU true) (wCall 2 C_law_made (wCons (wVar 5) (wCons (wVar 7) (wNil)))) (wVar 9))) (wTst (wOp (rEqU true) (wReprN 0 noCt (wCons (wVal (wLst (wCons (wVar 5) (wCons (wVar 7) (wNil))))) (wNil))) (wVar 10)))) (wRet (wC (.bl false))) (wNext)) (wSeq (wIfS (wAnd (wTst (wOp (rEqU true) (wVar 9) (wTup (wNil)))) (wAnd (wTst (wOp (rEqU false) (wOp rIxD (wVar 9) (wC (.int 0))) (wC (.str "heights")))) (wTst (wOp (rEqU true) (wCall 2 C_law_made (wCons (wVar 5) (wCons (wC .non) (wNil)))) (wVar 9))))) (wRet (wC (.bl false))) (wNext)) (wRet (wAndV (wOp (rEqU false) (wCall 2 C_law_made (wCons (wVar 2) (wCons (wVar 4) (wNil)))) (wTup (wNil))) (wOp (rEqU false) (wCall 2 C_law_made (wCons (wTupC (wVar 2)) (wCons (wC .non) (wNil)))) (wTup (wNil))))))))))))))))))
theorem sc_law_draws : FnScope N_law_draws ["_law_script"] (defScope s_law_draws) := ⟨rfl, rfl, rfl, by decide +kernel, rfl, by decide +kernel, by decide +kernel⟩
theorem sc_law_draw : FnScope N_law_draw ["_law_draws_here", "_law_many"] (defScope s_law_draw) := ⟨rfl, rfl, rfl, by decide +kernel, rfl, by decide +kernel, by decide +kernel⟩
theorem sc_law_heights : FnScope N_law_heights ["_law_draws_here"] (defScope s_law_heights) := ⟨rfl, rfl, rfl, by decide +kernel, rfl, by decide +kernel, by decide +kernel⟩
theorem sc_law_widths : FnScope N_law_widths ["_law_draws_here", "_law_many"] (defScope s_law_widths) := ⟨rfl, rfl, rfl, by decide +kernel, rfl, by decide +kernel, by decide +kernel⟩
theorem sc_law_odd : FnScope N_law_odd ["_law_draws_here", "_law_least"] (defScope s_law_odd) := ⟨rfl, rfl, rfl, by decide +kernel, rfl, by decide +kernel, by decide +kernel⟩
theorem sc_law_spoilt : FnScope N_law_spoilt ["_law_draws_here", "_law_row", "_law_least"] (defScope s_law_spoilt) := ⟨rfl, rfl, rfl, by decide +kernel, rfl, by decide +kernel, by decide +kernel⟩
theorem sc_law_first : FnScope N_law_first ["_law_places"] (defScope s_law_first) := ⟨rfl, rfl, rfl, by decide +kernel, rfl, by decide +kernel, by decide +kernel⟩
theorem sc_law_whole : FnScope N_law_whole ["_law_draws_here", "_law_row", "_law_least_length", "_law_most_length"] (defScope s_law_whole) := ⟨rfl, rfl, rfl, by decide +kernel, rfl, by decide +kernel, by decide +kernel⟩
theorem sc_is_row : FnScope N_is_row ["value"] (defScope s_is_row) := ⟨rfl, rfl, rfl, by decide +kernel, rfl, by decide +kernel, by decide +kernel⟩
theorem sc_is_integer : FnScope N_is_integer ["value"] (defScope s_is_integer) := ⟨rfl, rfl, rfl, by decide +kernel, rfl, by decide +kernel, by decide +kernel⟩
theorem sc_is_between : FnScope N_is_between ["value", "least", "most"] (defScope s_is_between) := ⟨rfl, rfl, rfl, by decide +kernel, rfl, by decide +kernel, by decide +kernel⟩
theorem sc_first_invalid : FnScope N_first_invalid ["values", "least", "most"] (defScope s_first_invalid) := ⟨rfl, rfl, rfl, by decide +kernel, rfl, by decide +kernel, by decide +kernel⟩
theorem sc_Profile__init : FnScope N_Profile__init ["self", "heights", "widths"] (defScope s_Profile__init) := ⟨rfl, rfl, rfl, by decide +kernel, rfl, by decide +kernel, by decide +kernel⟩
theorem sc_law_made : FnScope N_law_made ["_law_heights_here", "_law_widths_here"] (defScope s_law_made) := ⟨rfl, rfl, rfl, by decide +kernel, rfl, by decide +kernel, by decide +kernel⟩
theorem sc_law : FnScope N_law ["_law_script"] (defScope s_law) := ⟨rfl, rfl, rfl, by decide +kernel, rfl, by decide +kernel, by decide +kernel⟩
theorem sc_InvalidProfile__init : FnScope ["self", "index"] ["self", "index"] (defScope s_InvalidProfile__init) := ⟨rfl, rfl, rfl, by decide +kernel, rfl, by decide +kernel, by decide +kernel⟩
theorem err_InvalidProfile {P : Program} {w : World} {K : Fr} {mg : Str → Option Value} {base h : Heap} (c : Told fa fn K) (hX : K.In h) (G : h.Ns mainGlobals mg) : Err P w K mg base "InvalidProfile" (He.ga K "InvalidProfile") "index" := by
  obtain ⟨fd, F⟩ := c.fun_ 15 (d := d_InvalidProfile__init) rfl
  refine ⟨He.glo_ok hX G (c.fact 15), _, _, _, _, fErr_ok (c.fact 47), bas_VE, err_fn F sc_InvalidProfile__init (fun cdv A outer s H E => pss_cons (ps_expr (pe_biOwn (fErr_ok (c.fact 47)) bas_VE (fBO_ok (He.glo_ok hX G (c.fact 9)) (c.fact 48)) rfl (pa_cons (xv 0) (pa_cons pe_str pa_nil)))) (pss_one (ps_est (fErr_ok (c.fact 47)) bas_VE (xv 0) (xv 1)))) (F.bindsN fun _ _ _ _ _ _ us hl => match us, hl with | [_, _], _ => rfl)⟩
theorem sc_InvalidWidths__init : FnScope ["self", "index"] ["self", "index"] (defScope s_InvalidWidths__init) := ⟨rfl, rfl, rfl, by decide +kernel, rfl, by decide +kernel, by decide +kernel⟩
theorem err_InvalidWidths {P : Program} {w : World} {K : Fr} {mg : Str → Option Value} {base h : Heap} (c : Told fa fn K) (hX : K.In h) (G : h.Ns mainGlobals mg) : Err P w K mg base "InvalidWidths" (He.ga K "InvalidWidths") "index" := by
  obtain ⟨fd, F⟩ := c.fun_ 16 (d := d_InvalidWidths__init) rfl
  refine ⟨He.glo_ok hX G (c.fact 14), _, _, _, _, fErr_ok (c.fact 49), bas_VE, err_fn F sc_InvalidWidths__init (fun cdv A outer s H E => pss_cons (ps_expr (pe_biOwn (fErr_ok (c.fact 49)) bas_VE (fBO_ok (He.glo_ok hX G (c.fact 9)) (c.fact 48)) rfl (pa_cons (xv 0) (pa_cons pe_str pa_nil)))) (pss_one (ps_est (fErr_ok (c.fact 49)) bas_VE (xv 0) (xv 1)))) (F.bindsN fun _ _ _ _ _ _ us hl => match us, hl with | [_, _], _ => rfl)⟩
theorem der_law_draws {P : Program} {w : World} {K : Fr} {mg : Str → Option Value} {base h : Heap} (c : Told fa fn K) (hX : K.In h) (G : h.Ns mainGlobals mg)  {f : Addr} (cdv : Value) (A : Around) (outer : List PySem.Env) (s : Shared) (H : Hp) (E : XK) (hr : R3.Room 0 (A.deeper (envOfC "_law_draws" (defScope s_law_draws) s.heap.objs.size f cdv))) :
    EB (sg K) (cxOf (L2.CX P w) P w K mg base N_law_draws "_law_draws" (defScope s_law_draws) f cdv A outer s H E) (wD E) (defBody s_law_draws) rd_law_draws :=
  bone (sretL (elst (acons (lval (esll rfl (vr 0) (onone) (osome (cint)))) (acons (cint) (acons (cint) (acons (cint) (anil)))))))
theorem der_law_draw {P : Program} {w : World} {K : Fr} {mg : Str → Option Value} {base h : Heap} (c : Told fa fn K) (hX : K.In h) (G : h.Ns mainGlobals mg)  {f : Addr} (cdv : Value) (A : Around) (outer : List PySem.Env) (s : Shared) (H : Hp) (E : XK) (hr : R3.Room 0 (A.deeper (envOfC "_law_draw" (defScope s_law_draw) s.heap.objs.size f cdv))) :
    EB (sg K) (cxOf (L2.CX P w) P w K mg base N_law_draw "_law_draw" (defScope s_law_draw) f cdv A outer s H E) (wD E) (defBody s_law_draw) rd_law_draw :=
  bcons (sset (i := 2) sc_law_draw.nd rfl (Or.inl rfl) (eix (vr 0) (cint) rfl)) (bcons (sif (EW.et (andc (tcmp (ueq rfl (hr.units)) (eix (vr 0) (cint) rfl) (cint)) (andc (tcmp ilt (eix (vr 0) (cint) rfl) (ecb (clen rfl) rfl (He.free_ok hX G (c.fact 0)) boot_len (acons (vr 2) (anil)))) (and1 (tcmp ige (eix (vr 2) (eix (vr 0) (cint) rfl) rfl) (bop ipow (cint) (cint))))))) (bcons (mputr (eix (vr 2) (eix (vr 0) (cint) rfl) rfl) (vr 0) (cint)) (bone (mputr (bop iadd (eix (vr 0) (cint) rfl) (cint)) (vr 0) (cint)))) (bnil)) (bcons (sif (tcmp igt (eix (vr 0) (cint) rfl) (cint)) (bcons (sset (i := 3) sc_law_draw.nd rfl (Or.inl rfl) (bop imod (eix (vr 0) (cint) rfl) (vr 1))) (bcons (mputr (bop ifdiv (eix (vr 0) (cint) rfl) (vr 1)) (vr 0) (cint)) (bone (sret (vr 3))))) (bnil)) (bcons (sset (i := 4) sc_law_draw.nd rfl (Or.inl rfl) (cint)) (bcons (sif (tcmp ilt (eix (vr 0) (cint) rfl) (ecb (clen rfl) rfl (He.free_ok hX G (c.fact 0)) boot_len (acons (vr 2) (anil)))) (bcons (sset (i := 4) sc_law_draw.nd rfl (Or.inl rfl) (eix (vr 2) (eix (vr 0) (cint) rfl) rfl)) (bone (mputr (bop iadd (eix (vr 0) (cint) rfl) (cint)) (vr 0) (cint)))) (bnil)) (bcons (mputr (bop imod (bop iadd (bop iadd (bop (umul rfl) (eix (vr 0) (cint) rfl) (cint)) (bop imod (vr 4) (cint))) (cint)) (cint)) (vr 0) (cint)) (bcons (sset (i := 5) sc_law_draw.nd rfl (Or.inl rfl) (bop imod (bop ipow (eix (vr 0) (cint) rfl) (cint)) (cint))) (bcons (sif (tcmp igt (vr 1) (bop ipow (cint) (cint))) (bone (sset (i := 5) sc_law_draw.nd rfl (Or.inl rfl) (bop iadd (bop ipow (vr 5) (cint)) (vr 5)))) (bnil)) (bone (sret (bop imod (vr 5) (vr 1)))))))))))
theorem der_law_heights {P : Program} {w : World} {K : Fr} {mg : Str → Option Value} {base h : Heap} (c : Told fa fn K) (hX : K.In h) (G : h.Ns mainGlobals mg) (F_law_draw : Cal P w mg base (sg K) 1 "_law_draw" 2 C_law_draw) {f : Addr} (cdv : Value) (A : Around) (outer : List PySem.Env) (s : Shared) (H : Hp) (E : XK) (hr : R3.Room 1 (A.deeper (envOfC "_law_heights" (defScope s_law_heights) s.heap.objs.size f cdv))) :
    EB (sg K) (cxOf (L2.CX P w) P w K mg base N_law_heights "_law_heights" (defScope s_law_heights) f cdv A outer s H E) (wD E) (defBody s_law_heights) rd_law_heights :=
  bcons (sset (i := 1) sc_law_heights.nd rfl (Or.inl rfl) (bop iadd (cint) (ecall F_law_draw rfl hr (by decide) (takes_of rfl rfl rfl rfl) rfl (acons (vr 0) (acons (eix (lval (elst (acons (cint) (acons (cint) (anil))))) (ect cint1 rfl (He.free_ok hX G (c.fact 3)) boot_int (acons (cmp (ueq rfl (hr.units)) (ecall F_law_draw rfl hr (by decide) (takes_of rfl rfl rfl rfl) rfl (acons (vr 0) (acons (cint) (anil)))) (cint)) (anil))) rfl) (anil)))))) (bcons (sset (i := 2) sc_law_heights.nd rfl (Or.inr rfl) (eix (lval (elst (acons (cint) (acons (cint) (acons (bop ipow (cint) (cint)) (acons (bop ipow (cint) (cint)) (anil))))))) (ecall F_law_draw rfl hr (by decide) (takes_of rfl rfl rfl rfl) rfl (acons (vr 0) (acons (cint) (anil)))) rfl)) (bone (sretL (elc tame_nm (pe_lc (own := [("_law_k", 3)]) rfl sc_law_heights.nd (itr1 rfl (He.free_ok hX G (c.fact 4)) (acons (vr 1) (anil))) (blkOk_by rfl) (fun s H C cl fp => gnm (js := [3]) (i := 3) (by decide) sc_law_heights.nd rfl (Or.inl rfl)) (fun s H C cl fp => yes_pt) (fun s H C cl fp => bop isub (ecall F_law_draw rfl hr (by decide) takes0 rfl (acons (vr 0) (acons (bop iadd (bop (umul rfl) (cint) (vr 2)) (cint)) (anil)))) (vr 2)))))))
theorem der_law_widths {P : Program} {w : World} {K : Fr} {mg : Str → Option Value} {base h : Heap} (c : Told fa fn K) (hX : K.In h) (G : h.Ns mainGlobals mg) (F_law_draw : Cal P w mg base (sg K) 1 "_law_draw" 2 C_law_draw) {f : Addr} (cdv : Value) (A : Around) (outer : List PySem.Env) (s : Shared) (H : Hp) (E : XK) (hr : R3.Room 1 (A.deeper (envOfC "_law_widths" (defScope s_law_widths) s.heap.objs.size f cdv))) :
    EB (sg K) (cxOf (L2.CX P w) P w K mg base N_law_widths "_law_widths" (defScope s_law_widths) f cdv A outer s H E) (wD E) (defBody s_law_widths) rd_law_widths :=
  bcons (sset (i := 2) sc_law_widths.nd rfl (Or.inr rfl) (eix (lval (elst (acons (cint) (acons (cint) (acons (bop ipow (cint) (cint)) (anil)))))) (ecall F_law_draw rfl hr (by decide) (takes_of rfl rfl rfl rfl) rfl (acons (vr 0) (acons (cint) (anil)))) rfl)) (bone (sretL (elc tame_nm (pe_lc (own := [("_law_k", 3)]) rfl sc_law_widths.nd (itr1 rfl (He.free_ok hX G (c.fact 4)) (acons (vr 1) (anil))) (blkOk_by rfl) (fun s H C cl fp => gnm (js := [3]) (i := 3) (by decide) sc_law_widths.nd rfl (Or.inl rfl)) (fun s H C cl fp => yes_pt) (fun s H C cl fp => bop iadd (cint) (ecall F_law_draw rfl hr (by decide) takes0 rfl (acons (vr 0) (acons (vr 2) (anil)))))))))
theorem der_law_odd {P : Program} {w : World} {K : Fr} {mg : Str → Option Value} {base h : Heap} (c : Told fa fn K) (hX : K.In h) (G : h.Ns mainGlobals mg) (F_law_draw : Cal P w mg base (sg K) 1 "_law_draw" 2 C_law_draw) {f : Addr} (cdv : Value) (A : Around) (outer : List PySem.Env) (s : Shared) (H : Hp) (E : XK) (hr : R3.Room 1 (A.deeper (envOfC "_law_odd" (defScope s_law_odd) s.heap.objs.size f cdv))) :
    EB (sg K) (cxOf (L2.CX P w) P w K mg base N_law_odd "_law_odd" (defScope s_law_odd) f cdv A outer s H E) (wD E) (defBody s_law_odd) rd_law_odd :=
  bcons (sset (i := 2) sc_law_odd.nd rfl (Or.inl rfl) (bop iadd (bop iadd (bop ipow (cint) (cint)) (cint)) (ecall F_law_draw rfl hr (by decide) (takes_of rfl rfl rfl rfl) rfl (acons (vr 0) (acons (bop ipow (cint) (cint)) (anil)))))) (bcons (sset (i := 3) sc_law_odd.nd rfl (Or.inl rfl) (lval (elst (acons (cnon) (acons (cbl) (acons (cbl) (acons (cstr) (acons (cstr) (acons (etup (anil)) (acons (lval (elst (anil))) (acons (etup (acons (cint) (anil))) (acons (edic0) (acons (vr 2) (acons (bop isub (cint) (vr 2)) (acons (bop isub (bop isub (vr 1) (cint)) (ecall F_law_draw rfl hr (by decide) (takes_of rfl rfl rfl rfl) rfl (acons (vr 0) (acons (cint) (anil))))) (anil)))))))))))))))) (bone (sret (eix (vr 3) (ecall F_law_draw rfl hr (by decide) (takes_of rfl rfl rfl rfl) rfl (acons (vr 0) (acons (cint) (anil)))) rfl))))
theorem der_law_spoilt {P : Program} {w : World} {K : Fr} {mg : Str → Option Value} {base h : Heap} (c : Told fa fn K) (hX : K.In h) (G : h.Ns mainGlobals mg) (F_law_draw : Cal P w mg base (sg K) 1 "_law_draw" 2 C_law_draw) (F_law_odd : Cal P w mg base (sg K) 2 "_law_odd" 2 C_law_odd) {f : Addr} (cdv : Value) (A : Around) (outer : List PySem.Env) (s : Shared) (H : Hp) (E : XK) (hr : R3.Room 2 (A.deeper (envOfC "_law_spoilt" (defScope s_law_spoilt) s.heap.objs.size f cdv))) :
    EB (sg K) (cxOf (L2.CX P w) P w K mg base N_law_spoilt "_law_spoilt" (defScope s_law_spoilt) f cdv A outer s H E) (wD E) (defBody s_law_spoilt) rd_law_spoilt :=
  bcons (sown (i := 3) sc_law_spoilt.nd rfl (Or.inl rfl) (elst (anil))) (bcons (sown (i := 4) sc_law_spoilt.nd rfl (Or.inl rfl) (mlist rfl rfl (He.free_ok hX G (c.fact 5)) (vr 1))) (bcons (sfor (passes_of rfl) rfl (itr1 rfl (He.free_ok hX G (c.fact 4)) (acons (ecall F_law_draw rfl hr (by decide) (takes_of rfl rfl rfl rfl) rfl (acons (vr 0) (acons (cint) (anil)))) (anil))) (gnm (js := [5]) (i := 5) (by decide) sc_law_spoilt.nd rfl (Or.inl rfl)) (bcons (sset (i := 6) sc_law_spoilt.nd rfl (Or.inl rfl) (ecall F_law_draw rfl hr (by decide) (takes_of rfl rfl rfl rfl) rfl (acons (vr 0) (acons (ecb (clen rfl) rfl (He.free_ok hX G (c.fact 0)) boot_len (acons (vr 1) (anil))) (anil))))) (bcons (mput 4 (ecall F_law_odd rfl hr (by decide) (takes_of rfl rfl rfl rfl) rfl (acons (vr 0) (acons (vr 2) (anil)))) (vr 6)) (bone (mapp 3 (vr 6)))))) (bfrz 3 (bfrz 4 (bone (sret (etup (acons (vr 4) (acons (vr 3) (anil))))))))))
theorem der_law_first {P : Program} {w : World} {K : Fr} {mg : Str → Option Value} {base h : Heap} (c : Told fa fn K) (hX : K.In h) (G : h.Ns mainGlobals mg)  {f : Addr} (cdv : Value) (A : Around) (outer : List PySem.Env) (s : Shared) (H : Hp) (E : XK) (hr : R3.Room 0 (A.deeper (envOfC "_law_first" (defScope s_law_first) s.heap.objs.size f cdv))) :
    EB (sg K) (cxOf (L2.CX P w) P w K mg base N_law_first "_law_first" (defScope s_law_first) f cdv A outer s H E) (wD E) (defBody s_law_first) rd_law_first :=
  bcons (sset (i := 1) sc_law_first.nd rfl (Or.inl rfl) (eix (vr 0) (cint) rfl)) (bcons (sfor (passes_of rfl) rfl (itu (vr 0) rfl) (gnm (js := [2]) (i := 2) (by decide) sc_law_first.nd rfl (Or.inl rfl)) (bone (sif (tcmp ilt (vr 2) (vr 1)) (bone (sset (i := 1) sc_law_first.nd rfl (Or.inl rfl) (vr 2))) (bnil)))) (bone (sret (vr 1))))
theorem der_law_whole {P : Program} {w : World} {K : Fr} {mg : Str → Option Value} {base h : Heap} (c : Told fa fn K) (hX : K.In h) (G : h.Ns mainGlobals mg) (F_law_draw : Cal P w mg base (sg K) 1 "_law_draw" 2 C_law_draw) {f : Addr} (cdv : Value) (A : Around) (outer : List PySem.Env) (s : Shared) (H : Hp) (E : XK) (hr : R3.Room 1 (A.deeper (envOfC "_law_whole" (defScope s_law_whole) s.heap.objs.size f cdv))) :
    EB (sg K) (cxOf (L2.CX P w) P w K mg base N_law_whole "_law_whole" (defScope s_law_whole) f cdv A outer s H E) (wD E) (defBody s_law_whole) rd_law_whole :=
  bcons (slcV tame_nm (ps_setLc (i := 4) (own := [("_law_k", 6)]) rfl sc_law_whole.nd rfl rfl rfl (itr1 rfl (He.free_ok hX G (c.fact 4)) (acons (bop iadd (bop iadd (vr 3) (cint)) (ecall F_law_draw rfl hr (by decide) (takes_of rfl rfl rfl rfl) rfl (acons (vr 0) (acons (cint) (anil))))) (anil))) (blkOk_by rfl) (fun s H C cl fp => gnm (js := [6]) (i := 6) (by decide) sc_law_whole.nd rfl (Or.inl rfl)) (fun s H C cl fp => yes_pt) (fun s H C cl fp => eix (vr 1) (cint) rfl))) (bcons (slcV tame_nm (ps_setLc (i := 5) (own := [("_law_k", 6)]) rfl sc_law_whole.nd rfl rfl rfl (itr1 rfl (He.free_ok hX G (c.fact 4)) (acons (ecall F_law_draw rfl hr (by decide) (takes_of rfl rfl rfl rfl) rfl (acons (vr 0) (acons (vr 2) (anil)))) (anil))) (blkOk_by rfl) (fun s H C cl fp => gnm (js := [6]) (i := 6) (by decide) sc_law_whole.nd rfl (Or.inl rfl)) (fun s H C cl fp => yes_pt) (fun s H C cl fp => eix (vr 1) (cint) rfl))) (bone (sret (eix (lval (elst (acons (cint) (acons (cbl) (acons (cbl) (acons (cstr) (acons (cstr) (acons (edic0) (acons (edic1) (acons (vr 4) (acons (mtuple rfl rfl (He.free_ok hX G (c.fact 2)) (vr 4)) (acons (vr 5) (acons (mtuple rfl rfl (He.free_ok hX G (c.fact 2)) (vr 5)) (anil)))))))))))))) (ecall F_law_draw rfl hr (by decide) (takes_of rfl rfl rfl rfl) rfl (acons (vr 0) (acons (cint) (anil)))) rfl))))
theorem der_is_row {P : Program} {w : World} {K : Fr} {mg : Str → Option Value} {base h : Heap} (c : Told fa fn K) (hX : K.In h) (G : h.Ns mainGlobals mg)  {f : Addr} (cdv : Value) (A : Around) (outer : List PySem.Env) (s : Shared) (H : Hp) (E : XK) (hr : R3.Room 0 (A.deeper (envOfC "is_row" (defScope s_is_row) s.heap.objs.size f cdv))) :
    EB (sg K) (cxOf (L2.CX P w) P w K mg base N_is_row "is_row" (defScope s_is_row) f cdv A outer s H E) (wD E) (defBody s_is_row) rd_is_row :=
  bone (sret (misi2 rfl (c.fact 26) rfl (He.free_ok hX G (c.fact 10)) rfl (He.free_ok hX G (c.fact 5)) boot_list rfl (He.free_ok hX G (c.fact 2)) boot_tuple (vr 0)))
theorem der_is_integer {P : Program} {w : World} {K : Fr} {mg : Str → Option Value} {base h : Heap} (c : Told fa fn K) (hX : K.In h) (G : h.Ns mainGlobals mg)  {f : Addr} (cdv : Value) (A : Around) (outer : List PySem.Env) (s : Shared) (H : Hp) (E : XK) (hr : R3.Room 0 (A.deeper (envOfC "is_integer" (defScope s_is_integer) s.heap.objs.size f cdv))) :
    EB (sg K) (cxOf (L2.CX P w) P w K mg base N_is_integer "is_integer" (defScope s_is_integer) f cdv A outer s H E) (wD E) (defBody s_is_integer) rd_is_integer :=
  bone (sret (vand (misi rfl (c.fact 28) rfl (He.free_ok hX G (c.fact 10)) rfl (He.free_ok hX G (c.fact 3)) boot_int (vr 0)) (vone (vnot (misi rfl (c.fact 29) rfl (He.free_ok hX G (c.fact 10)) rfl (He.free_ok hX G (c.fact 30)) boot_bool (vr 0))))))
theorem der_is_between {P : Program} {w : World} {K : Fr} {mg : Str → Option Value} {base h : Heap} (c : Told fa fn K) (hX : K.In h) (G : h.Ns mainGlobals mg) (F_is_integer : Cal P w mg base (sg K) 1 "is_integer" 1 C_is_integer) {f : Addr} (cdv : Value) (A : Around) (outer : List PySem.Env) (s : Shared) (H : Hp) (E : XK) (hr : R3.Room 1 (A.deeper (envOfC "is_between" (defScope s_is_between) s.heap.objs.size f cdv))) :
    EB (sg K) (cxOf (L2.CX P w) P w K mg base N_is_between "is_between" (defScope s_is_between) f cdv A outer s H E) (wD E) (defBody s_is_between) rd_is_between :=
  bone (sret (vand (ecall F_is_integer rfl hr (by decide) (takes_of rfl rfl rfl rfl) rfl (acons (vr 0) (anil))) (vone (mchain (fd := fun i j => .bl (decide (i ≤ j))) (fd' := fun i j => .bl (decide (i ≤ j))) op_le op_le (fun _ _ _ => .bl _) (fun _ _ _ => .bl _) (vr 1) (vr 0) (vr 2)))))
theorem der_first_invalid {P : Program} {w : World} {K : Fr} {mg : Str → Option Value} {base h : Heap} (c : Told fa fn K) (hX : K.In h) (G : h.Ns mainGlobals mg) (F_is_between : Cal P w mg base (sg K) 2 "is_between" 3 C_is_between) {f : Addr} (cdv : Value) (A : Around) (outer : List PySem.Env) (s : Shared) (H : Hp) (E : XK) (hr : R3.Room 2 (A.deeper (envOfC "first_invalid" (defScope s_first_invalid) s.heap.objs.size f cdv))) :
    EB (sg K) (cxOf (L2.CX P w) P w K mg base N_first_invalid "first_invalid" (defScope s_first_invalid) f cdv A outer s H E) (wD E) (defBody s_first_invalid) rd_first_invalid :=
  bcons (sfor (passes_of rfl) rfl (ienum rfl rfl (He.free_ok hX G (c.fact 27)) (acons (vr 0) (anil))) (gtup rfl rfl (gcons (gnm (js := [3, 4]) (i := 3) (by decide) sc_first_invalid.nd rfl (Or.inl rfl)) (gcons (gnm (js := [3, 4]) (i := 4) (by decide) sc_first_invalid.nd rfl (Or.inl rfl)) (gnil)))) (bone (sif (tnot (tst (ecall F_is_between rfl hr (by decide) (takes_of rfl rfl rfl rfl) rfl (acons (vr 4) (acons (vr 1) (acons (vr 2) (anil))))))) (bone (sret (vr 3))) (bnil)))) (bone (sret (cnon)))
theorem der_Profile__init {P : Program} {w : World} {K : Fr} {mg : Str → Option Value} {base h : Heap} (c : Told fa fn K) (hX : K.In h) (G : h.Ns mainGlobals mg) (F_is_row : Cal P w mg base (sg K) 1 "is_row" 1 C_is_row) (F_first_invalid : Cal P w mg base (sg K) 3 "first_invalid" 3 C_first_invalid) {f : Addr} (cdv : Value) (A : Around) (outer : List PySem.Env) (s : Shared) (H : Hp) (E : XK) (hr : R3.Room 3 (A.deeper (envOfC "Profile.__init__" (defScope s_Profile__init) s.heap.objs.size f cdv))) :
    EB (sg K) (cxOf (L2.CX P w) P w K mg base N_Profile__init "Profile.__init__" (defScope s_Profile__init) f cdv A outer s H E) (wD E) (defBody s_Profile__init) rd_Profile__init :=
  bcons (sif (EW.et (orc (tnot (tst (ecall F_is_row rfl hr (by decide) (takes_of rfl rfl rfl rfl) rfl (acons (vr 1) (anil))))) (or1 (tnot (mtchain (fd := fun i j => .bl (decide (i ≤ j))) (fd' := fun i j => .bl (decide (i ≤ j))) op_le op_le (fun _ _ _ => .bl _) (fun _ _ _ => .bl _) (cint) (ecb (clen rfl) rfl (He.free_ok hX G (c.fact 0)) boot_len (acons (vr 1) (anil))) (cglo rfl (glo_int (He.int_ok hX G (c.fact 21))) (fun _ => .int _))))))) (bone (sraise (err_InvalidProfile c hX G) rfl rfl hr (by decide) (takes_of rfl rfl rfl rfl) rfl (cnon))) (bnil)) (bcons (sset (i := 3) sc_Profile__init.nd rfl (Or.inl rfl) (ecall F_first_invalid rfl hr (by decide) (takes_of rfl rfl rfl rfl) rfl (acons (vr 1) (acons (eneg (cglo rfl (glo_int (He.int_ok hX G (c.fact 22))) (fun _ => .int _))) (acons (cglo rfl (glo_int (He.int_ok hX G (c.fact 22))) (fun _ => .int _)) (anil)))))) (bcons (sif (tnotN (vr 3)) (bone (sraise (err_InvalidProfile c hX G) rfl rfl hr (by decide) (takes_of rfl rfl rfl rfl) rfl (vr 3))) (bnil)) (bcons (sif (EW.et (andc (tnotN (vr 2)) (and1 (EW.et (orc (tnot (tst (ecall F_is_row rfl hr (by decide) (takes_of rfl rfl rfl rfl) rfl (acons (vr 2) (anil))))) (or1 (tcmp (une rfl (hr.units)) (ecb (clen rfl) rfl (He.free_ok hX G (c.fact 0)) boot_len (acons (vr 2) (anil))) (ecb (clen rfl) rfl (He.free_ok hX G (c.fact 0)) boot_len (acons (vr 1) (anil)))))))))) (bone (sraise (err_InvalidWidths c hX G) rfl rfl hr (by decide) (takes_of rfl rfl rfl rfl) rfl (cnon))) (bnil)) (bcons (sset (i := 3) sc_Profile__init.nd rfl (Or.inl rfl) (ecall F_first_invalid rfl hr (by decide) (takes_of rfl rfl rfl rfl) rfl (acons (vorT rfl (vr 2) (vone (lval (elst (anil))))) (acons (cint) (acons (cglo rfl (glo_int (He.int_ok hX G (c.fact 22))) (fun _ => .int _)) (anil)))))) (bcons (sif (tnotN (vr 3)) (bone (sraise (err_InvalidWidths c hX G) rfl rfl hr (by decide) (takes_of rfl rfl rfl rfl) rfl (vr 3))) (bnil)) (bcons (mself 0 1 rfl (fIsi_ok (c.fact 23)).cl (He.noat_ok (c.fact 24)) (mtuple rfl rfl (He.free_ok hX G (c.fact 2)) (vr 1))) (bone (mself 0 1 rfl (fIsi_ok (c.fact 23)).cl (He.noat_ok (c.fact 25)) (eif (tisN (vr 2)) (bop (umul rfl) (etup (acons (cint) (anil))) (ecb (clen rfl) rfl (He.free_ok hX G (c.fact 0)) boot_len (acons (vr 1) (anil)))) (mtuple rfl rfl (He.free_ok hX G (c.fact 2)) (vr 2)))))))))))
theorem der_law_made {P : Program} {w : World} {K : Fr} {mg : Str → Option Value} {base h : Heap} (c : Told fa fn K) (hX : K.In h) (G : h.Ns mainGlobals mg) (F_Profile__init : Mak P w mg base (sg K) 4 "Profile" 1 2 C_Profile__init) {f : Addr} (cdv : Value) (A : Around) (outer : List PySem.Env) (s : Shared) (H : Hp) (E : XK) (hr : R3.Room 5 (A.deeper (envOfC "_law_made" (defScope s_law_made) s.heap.objs.size f cdv))) :
    EB (sg K) (cxOf (L2.CX P w) P w K mg base N_law_made "_law_made" (defScope s_law_made) f cdv A outer s H E) (wD E) (defBody s_law_made) rd_law_made :=
  bcons (sset (i := 2) sc_law_made.nd rfl (Or.inl rfl) (etup (anil))) (bcons (stry rfl rfl rfl rfl (takes_of rfl rfl rfl rfl) (fun W1 pn xe tk1 hp1 => bone (sexpr (emake F_Profile__init rfl hr (by decide) tk1 rfl (acons (vr 0) (acons (vr 1) (anil)))))) (.named ⟨rfl, by decide, .inl (He.glo_ok hX G (c.fact 15))⟩ (fExm_ok (c.fact 6)) sc_law_made.nd rfl rfl (fun a oe dd pn y hz hv => bone (sset (i := 2) sc_law_made.nd rfl (Or.inl rfl) (etup (acons (cstr) (acons (exf (cs := [10]) (fXf_ok (fl := fl) (c.fact 7) (by decide)) hz hv (xv 3)) (acons (exis (cs := csOf [(10, true)]) (c := .ref (He.ga K "RainError")) (cv := .ref (He.ga K "RainError")) (fXis_ok (c.fact 8)) (fun u r => r) hz hv (xv 3) (pe_glob (v := .ref (He.ga K "RainError")) rfl (He.glo_ok hX G (c.fact 9)) rfl (by decide)) rfl (He.free_ok hX G (c.fact 10))) (acons (exis (cs := csOf [(10, true)]) (c := .ty "ValueError") (cv := .type "ValueError") (fXis_ok (c.fact 11)) (fun u r => r) hz hv (xv 3) (pe_bltn (v := .ty "ValueError") rfl (He.free_ok hX G (c.fact 12)) PyProof.Rows.Boot.«ValueError» rfl (by decide) (by decide)) rfl (He.free_ok hX G (c.fact 10))) (acons (exis (cs := csOf [(10, false)]) (c := .ref (He.ga K "InvalidWidths")) (cv := .ref (He.ga K "InvalidWidths")) (fXis_ok (c.fact 13)) (fun u r => r) hz hv (xv 3) (pe_glob (v := .ref (He.ga K "InvalidWidths")) rfl (He.glo_ok hX G (c.fact 14)) rfl (by decide)) rfl (He.free_ok hX G (c.fact 10))) (anil))))))))) (.named ⟨rfl, by decide, .inl (He.glo_ok hX G (c.fact 14))⟩ (fExm_ok (c.fact 16)) sc_law_made.nd rfl rfl (fun a oe dd pn y hz hv => bone (sset (i := 2) sc_law_made.nd rfl (Or.inl rfl) (etup (acons (cstr) (acons (exf (cs := [11]) (fXf_ok (fl := fl) (c.fact 17) (by decide)) hz hv (xv 3)) (acons (exis (cs := csOf [(11, true)]) (c := .ref (He.ga K "RainError")) (cv := .ref (He.ga K "RainError")) (fXis_ok (c.fact 18)) (fun u r => r) hz hv (xv 3) (pe_glob (v := .ref (He.ga K "RainError")) rfl (He.glo_ok hX G (c.fact 9)) rfl (by decide)) rfl (He.free_ok hX G (c.fact 10))) (acons (exis (cs := csOf [(11, true)]) (c := .ty "ValueError") (cv := .type "ValueError") (fXis_ok (c.fact 19)) (fun u r => r) hz hv (xv 3) (pe_bltn (v := .ty "ValueError") rfl (He.free_ok hX G (c.fact 12)) PyProof.Rows.Boot.«ValueError» rfl (by decide) (by decide)) rfl (He.free_ok hX G (c.fact 10))) (acons (exis (cs := csOf [(11, false)]) (c := .ref (He.ga K "InvalidProfile")) (cv := .ref (He.ga K "InvalidProfile")) (fXis_ok (c.fact 20)) (fun u r => r) hz hv (xv 3) (pe_glob (v := .ref (He.ga K "InvalidProfile")) rfl (He.glo_ok hX G (c.fact 15)) rfl (by decide)) rfl (He.free_ok hX G (c.fact 10))) (anil))))))))) (.nil)))) (bone (sret (vr 2))))
theorem derx_law {P : Program} {w : World} {K : Fr} {mg : Str → Option Value} {base h : Heap} (c : Told fa fn K) (hX : K.In h) (G : h.Ns mainGlobals mg) (F_law_draws : CalL P w mg base (sg K) 1 "_law_draws" 1 C_law_draws) (F_law_heights : CalL P w mg base (sg K) 2 "_law_heights" 1 C_law_heights) (F_law_widths : CalL P w mg base (sg K) 2 "_law_widths" 2 C_law_widths) (F_law_spoilt : Cal P w mg base (sg K) 3 "_law_spoilt" 3 C_law_spoilt) (F_law_first : Cal P w mg base (sg K) 1 "_law_first" 1 C_law_first) (F_law_draw : Cal P w mg base (sg K) 1 "_law_draw" 2 C_law_draw) (F_law_whole : Cal P w mg base (sg K) 2 "_law_whole" 4 C_law_whole) (F_law_made : Cal P w mg base (sg K) 6 "_law_made" 2 C_law_made) {f : Addr} (cdv : Value) (A : Around) (outer : List PySem.Env) (s : Shared) (H : Hp) (E : XK) (hr : R3.Room 20 (A.deeper (envOfC "law" (defScope s_law) s.heap.objs.size f cdv))) :
    EB (sg K) (cxOf (L2.CX P w) P w K mg base N_law "law" (defScope s_law) f cdv A outer s H E) (wD E) (defBody s_law) rx_law :=
  bcons (sjoin (i := 1) sc_law.nd rfl (Or.inl rfl) (ecallL F_law_draws rfl hr (by decide) (takes_of rfl rfl rfl rfl) rfl (acons (vr 0) (anil)))) (bcons (sset (i := 2) sc_law.nd rfl (Or.inl rfl) (lval (ecallL F_law_heights rfl hr (by decide) (takes_of rfl rfl rfl rfl) rfl (acons (vr 1) (anil))))) (bcons (sset (i := 3) sc_law.nd rfl (Or.inl rfl) (ecb (clen rfl) rfl (He.free_ok hX G (c.fact 0)) boot_len (acons (vr 2) (anil)))) (bcons (sset (i := 4) sc_law.nd rfl (Or.inl rfl) (lval (ecallL F_law_widths rfl hr (by decide) (takes_of rfl rfl rfl rfl) rfl (acons (vr 1) (acons (vr 3) (anil)))))) (bcons (sasg (ecall F_law_spoilt rfl hr (by decide) (takes_of rfl rfl rfl rfl) rfl (acons (vr 1) (acons (vr 2) (acons (bop isub (cint) (bop ipow (cint) (cint))) (anil))))) (gtup rfl rfl (gcons (gnm (js := [5, 6]) (i := 5) (by decide) sc_law.nd rfl (Or.inl rfl)) (gcons (gnm (js := [5, 6]) (i := 6) (by decide) sc_law.nd rfl (Or.inl rfl)) (gnil))))) (bcons (sasg (ecall F_law_spoilt rfl hr (by decide) (takes_of rfl rfl rfl rfl) rfl (acons (vr 1) (acons (vr 4) (acons (cint) (anil))))) (gtup rfl rfl (gcons (gnm (js := [7, 8]) (i := 7) (by decide) sc_law.nd rfl (Or.inl rfl)) (gcons (gnm (js := [7, 8]) (i := 8) (by decide) sc_law.nd rfl (Or.inl rfl)) (gnil))))) (bcons (sset (i := 9) sc_law.nd rfl (Or.inl rfl) (etup (anil))) (bcons (sif (tcmp (une rfl (hr.units)) (vr 8) (lval (elst (anil)))) (bone (sset (i := 9) sc_law.nd rfl (Or.inl rfl) (etup (acons (cstr) (acons (ecall F_law_first rfl hr (by decide) (takes_of rfl rfl rfl rfl) rfl (acons (vr 8) (anil))) (acons (cbl) (acons (cbl) (acons (cbl) (anil))))))))) (bnil)) (bcons (sif (tcmp (ueq rfl (hr.units)) (ecall F_law_draw rfl hr (by decide) (takes_of rfl rfl rfl rfl) rfl (acons (vr 1) (acons (cint) (anil)))) (cint)) (bcons (sset (i := 7) sc_law.nd rfl (Or.inl rfl) (ecall F_law_whole rfl hr (by decide) (takes_of rfl rfl rfl rfl) rfl (acons (vr 1) (acons (vr 4) (acons (vr 3) (acons (vr 3) (anil))))))) (bone (sset (i := 9) sc_law.nd rfl (Or.inl rfl) (etup (acons (cstr) (acons (cnon) (acons (cbl) (acons (cbl) (acons (cbl) (anil)))))))))) (bnil)) (bcons (sif (tcmp (une rfl (hr.units)) (vr 6) (lval (elst (anil)))) (bone (sset (i := 9) sc_law.nd rfl (Or.inl rfl) (etup (acons (cstr) (acons (ecall F_law_first rfl hr (by decide) (takes_of rfl rfl rfl rfl) rfl (acons (vr 6) (anil))) (acons (cbl) (acons (cbl) (acons (cbl) (anil))))))))) (bnil)) (bcons (sif (tcmp (ueq rfl (hr.units)) (ecall F_law_draw rfl hr (by decide) (takes_of rfl rfl rfl rfl) rfl (acons (vr 1) (acons (cint) (anil)))) (cint)) (bcons (sset (i := 5) sc_law.nd rfl (Or.inl rfl) (ecall F_law_whole rfl hr (by decide) (takes_of rfl rfl rfl rfl) rfl (acons (vr 1) (acons (vr 2) (acons (cint) (acons (cint) (anil))))))) (bone (sset (i := 9) sc_law.nd rfl (Or.inl rfl) (etup (acons (cstr) (acons (cnon) (acons (cbl) (acons (cbl) (acons (cbl) (anil)))))))))) (bnil)) (bcons (sset (i := 10) sc_law.nd rfl (Or.inl rfl) (ereprD (k := 0) rfl hr (by decide) rfl (He.free_ok hX G (c.fact 1)) (acons (lval (elst (acons (vr 5) (acons (vr 7) (anil))))) (anil)))) (bcons (sif (EW.et (orc (tcmp (une rfl (hr.units)) (ecall F_law_made rfl hr (by decide) (takes_of rfl rfl rfl rfl) rfl (acons (vr 5) (acons (vr 7) (anil)))) (vr 9)) (or1 (tcmp (une rfl (hr.units)) (ereprD (k := 0) rfl hr (by decide) rfl (He.free_ok hX G (c.fact 1)) (acons (lval (elst (acons (vr 5) (acons (vr 7) (anil))))) (anil))) (vr 10))))) (bone (sret (cbl))) (bnil)) (bcons (sif (EW.et (andc (tcmp (une rfl (hr.units)) (vr 9) (etup (anil))) (andc (tcmp (ueq rfl (hr.units)) (eix (vr 9) (cint) rfl) (cstr)) (and1 (tcmp (une rfl (hr.units)) (ecall F_law_made rfl hr (by decide) (takes_of rfl rfl rfl rfl) rfl (acons (vr 5) (acons (cnon) (anil)))) (vr 9)))))) (bone (sret (cbl))) (bnil)) (bone (sret (vand (cmp (ueq rfl (hr.units)) (ecall F_law_made rfl hr (by decide) (takes_of rfl rfl rfl rfl) rfl (acons (vr 2) (acons (vr 4) (anil)))) (etup (anil))) (vone (cmp (ueq rfl (hr.units)) (ecall F_law_made rfl hr (by decide) (takes_of rfl rfl rfl rfl) rfl (acons (mtuple rfl rfl (He.free_ok hX G (c.fact 2)) (vr 2)) (acons (cnon) (anil)))) (etup (anil))))))))))))))))))))
theorem der_law {P : Program} {w : World} {K : Fr} {mg : Str → Option Value} {base h : Heap} (c : Told fa fn K) (hX : K.In h) (G : h.Ns mainGlobals mg) (F_law_draws : CalL P w mg base (sg K) 1 "_law_draws" 1 C_law_draws) (F_law_heights : CalL P w mg base (sg K) 2 "_law_heights" 1 C_law_heights) (F_law_widths : CalL P w mg base (sg K) 2 "_law_widths" 2 C_law_widths) (F_law_spoilt : Cal P w mg base (sg K) 3 "_law_spoilt" 3 C_law_spoilt) (F_law_first : Cal P w mg base (sg K) 1 "_law_first" 1 C_law_first) (F_law_draw : Cal P w mg base (sg K) 1 "_law_draw" 2 C_law_draw) (F_law_whole : Cal P w mg base (sg K) 2 "_law_whole" 4 C_law_whole) (F_law_made : Cal P w mg base (sg K) 6 "_law_made" 2 C_law_made) {f : Addr} (cdv : Value) (A : Around) (outer : List PySem.Env) (s : Shared) (H : Hp) (E : XK) (hr : R3.Room 20 (A.deeper (envOfC "law" (defScope s_law) s.heap.objs.size f cdv))) :
    EB (sg K) (cxOf (L2.CX P w) P w K mg base N_law "law" (defScope s_law) f cdv A outer s H E) (wD E) (defBody s_law) rd_law :=
  derx_law c hX G F_law_draws F_law_heights F_law_widths F_law_spoilt F_law_first F_law_draw F_law_whole F_law_made cdv A outer s H E hr
/-! ### plain: the basics -/
theorem pl_is_integer : ∀ ds S K ex, ds.length = 1 → C_is_integer ds S K ex → rd_is_integer { nx := fun _ S' => K .non S', rt := K, ex := fun x _ S' => ex x S' } (startD 1 ds) S := by
  rintro ds S K ex hn ⟨d, rfl, hk, q⟩
  cases d <;> first | exact q | cases hk | (rcases okC_cases hk with rfl | rfl <;> first | exact q | cases hk)
theorem pl_is_between : ∀ ds S K ex, ds.length = 3 → C_is_between ds S K ex → rd_is_between { nx := fun _ S' => K .non S', rt := K, ex := fun x _ S' => ex x S' } (startD 3 ds) S := by
  rintro ds S K ex hn ⟨d, lo, hi, rfl, hk, q⟩
  refine ⟨rfl, d, rfl, hk, ?_⟩
  cases d <;> first | exact q | (rcases okC_cases hk with rfl | rfl <;> first | exact q | cases hk) | skip
  rename_i i
  show Br (decide (lo ≤ i)) _ _
  have q : K (.bl (decide (lo ≤ i) && decide (i ≤ hi))) S := q
  by_cases h : lo ≤ i
  · rw [decide_eq_true h] at q ⊢
    exact q
  · rw [decide_eq_false h] at q ⊢
    exact q
theorem pl_is_row : ∀ ds S K ex, ds.length = 1 → C_is_row ds S K ex → rd_is_row { nx := fun _ S' => K .non S', rt := K, ex := fun x _ S' => ex x S' } (startD 1 ds) S := by
  rintro ds S K ex hn ⟨d, rfl, hk, q⟩
  cases d <;> first | exact q | cases hk | (rcases okC_cases hk with rfl | rfl <;> first | exact q | cases hk)
theorem pl_first_invalid : ∀ ds S K ex, ds.length = 3 → C_first_invalid ds S K ex → rd_first_invalid { nx := fun _ S' => K .non S', rt := K, ex := fun x _ S' => ex x S' } (startD 5 ds) S := by
  rintro ds S K ex hn ⟨d, xs, lo, hi, rfl, hd, hk, q⟩
  have key : ∀ (xs : List D) (k : Nat) (s3 s4 : Sl), (∀ x ∈ xs, kn x = true) → K (firstInv lo hi k xs) S →
      forL (gTp 2 (gCs (gNm 3) (gCs (gNm 4) (gNl)))) (wIfS (wNot (wTst (wCall 3 C_is_between (wCons (wVar 4) (wCons (wVar 1) (wCons (wVar 2) (wNil))))))) (wRet (wVar 3)) (wNext)) { nx := (wRet (wC .non)) { nx := fun _ S' => K .non S', rt := K, ex := fun x _ S' => ex x S' }, rt := K, ex := fun x _ S' => ex x S' } (enumD k xs) [.val d, .val (.int lo), .val (.int hi), s3, s4] S := by
    intro xs
    induction xs with
    | nil => intro k s3 s4 _ q; exact q
    | cons x r ih =>
      intro k s3 s4 hk q
      refine ⟨rfl, ?_⟩
      refine ⟨rfl, x, lo, hi, rfl, hk x List.mem_cons_self, ?_⟩
      unfold firstInv at q
      by_cases h : betw x lo hi = true
      · rw [if_pos h] at q
        rw [h]
        exact ih (k + 1) _ _ (fun y hy => hk y (List.mem_cons_of_mem _ hy)) q
      · rw [if_neg h] at q
        rw [Bool.not_eq_true] at h
        rw [h]
        exact q
  rcases hd with rfl | rfl
  · exact key xs 0 _ _ hk q
  · exact key xs 0 _ _ hk q

theorem intsD_len (xs : List Int) : (intsD xs).length = xs.length := List.length_map ..
theorem kn_ints {xs : List Int} : ∀ x ∈ intsD xs, kn x = true := fun x hx => by
  obtain ⟨i, _, rfl⟩ := List.mem_map.mp hx
  rfl
theorem firstInv_ok {lo hi : Int} : ∀ {xs : List Int} (k : Nat), (∀ x ∈ xs, lo ≤ x ∧ x ≤ hi) → firstInv lo hi k (intsD xs) = .non
  | [], _, _ => rfl
  | x :: xs, k, h => by
    have hx := h x List.mem_cons_self
    show (if betw (.int x) lo hi = true then firstInv lo hi (k + 1) (intsD xs) else _) = _
    rw [if_pos (by show (decide _ && decide _) = true; rw [decide_eq_true hx.1, decide_eq_true hx.2]; rfl)]
    exact firstInv_ok (k + 1) fun y hy => h y (List.mem_cons_of_mem _ hy)
theorem rep_ones (n : Nat) : (List.replicate n [D.int 1]).flatten = intsD (List.replicate n 1) := by
  unfold intsD
  rw [List.map_replicate]
  induction n with
  | zero => rfl
  | succ n ih => rw [List.replicate_succ, List.flatten_cons, ih]; rfl
theorem ints_ne {xs : List Int} {n : Nat} (h : xs.length = n) (hn : 1 ≤ n) : (intsD xs).isEmpty = false := by
  cases xs with
  | nil => simp at h; omega
  | cons x r => rfl
theorem okNs_ints (n : Nat) : ∀ xs : List Int, okNs n (intsD xs) = true
  | [] => by cases n <;> rfl
  | x :: xs => by
    show okNs n (.int x :: intsD xs) = true
    unfold okNs
    rw [okNs_ints n xs]
    cases n <;> rfl
theorem eqDs_ints : ∀ xs ys : List Int, eqDs (intsD xs) (intsD ys) = decide (xs = ys)
  | [], [] => rfl
  | [], y :: ys => rfl
  | x :: xs, [] => rfl
  | x :: xs, y :: ys => by
    show (decide (x = y) && eqDs (intsD xs) (intsD ys)) = _
    rw [eqDs_ints xs ys]
    by_cases h : x = y <;> by_cases k : xs = ys <;> simp [h, k]

/-! ### plain: the draws -/
theorem cut_all {xs : List D} (h : xs.length ≤ 63) : R3.cutD xs none (some 63) = xs := by
  have e2 : HT.sIx xs.length xs.length (some (63 : Int)) = xs.length := by
    unfold HT.sIx
    simp
    omega
  have e1 : HT.sIx xs.length 0 (none : Option Int) = 0 := rfl
  unfold R3.cutD
  rw [e1, e2]
  simp
theorem pl_law_draws : ∀ ds S K ex, ds.length = 1 → C_law_draws ds S K ex → rd_law_draws { nx := fun _ _ => False, rt := fun _ _ => False, ex := fun x _ S' => ex x S', rl := K } (startD 1 ds) S := by
  rintro ds S K ex hn ⟨ns, rfl, hl, q⟩
  refine ⟨show 4 ≤ 1000000 by decide, ?_⟩
  show K [.lst (R3.cutD (intsD ns) none (some 63)), .int 0, .int 0, .int 5] S
  rw [cut_all (by rw [intsD_len]; exact hl)]
  exact q
theorem get_ints {xs : List Int} {i : Nat} (h : i < xs.length) : ∃ v, (intsD xs)[i]? = some (.int v) ∧ v ∈ xs := by
  refine ⟨xs[i], ?_, List.getElem_mem h⟩
  unfold intsD
  rw [List.getElem?_map, List.getElem?_eq_getElem h]
  rfl
theorem Dr.of {n i : Nat} {S : Store} {cells : List Int} {j k : Int} (h : S[n]? = some (some (.lst [.lst (intsD cells), .int (i : Nat), .int j, .int k]))) : Dr n S := ⟨cells, i, j, k, h⟩
theorem pl_law_draw : ∀ ds S K ex, ds.length = 2 → C_law_draw ds S K ex → rd_law_draw { nx := fun _ S' => K .non S', rt := K, ex := fun x _ S' => ex x S' } (startD 6 ds) S := by
  rintro ds S K ex hn ⟨n, many, rfl, ⟨cells, i, j, k, hS⟩, hm, hm2, q⟩
  -- behind the first if: the same, another state
  have rest : ∀ (i : Nat) (j k : Int) (S1 : Store), S1[n]? = some (some (.lst [.lst (intsD cells), .int (i : Nat), .int j, .int k])) → Oth n S S1 →
      (wSeq (wIfS (wTst (wOp (rdGt) (wOp rIxD (wVar 0) (wC (.int 2))) (wC (.int 0)))) (wSeq (wSet 3 (wOp rdMod (wOp rIxD (wVar 0) (wC (.int 2))) (wVar 1))) (wSeq (wPutRef (wOp rdFdv (wOp rIxD (wVar 0) (wC (.int 2))) (wVar 1)) (wVar 0) (wC (.int 2))) (wRet (wVar 3)))) (wNext)) (wSeq (wSet 4 (wC (.int 0))) (wSeq (wIfS (wTst (wOp (rdLt) (wOp rIxD (wVar 0) (wC (.int 1))) (wCB rLenD (wCons (wVar 2) (wNil))))) (wSeq (wSet 4 (wOp rIxD (wVar 2) (wOp rIxD (wVar 0) (wC (.int 1))))) (wPutRef (wOp rdAdd (wOp rIxD (wVar 0) (wC (.int 1))) (wC (.int 1))) (wVar 0) (wC (.int 1)))) (wNext)) (wSeq (wPutRef (wOp rdMod (wOp rdAdd (wOp rdAdd (wOp rMulU (wOp rIxD (wVar 0) (wC (.int 3))) (wC (.int 48271))) (wOp rdMod (wVar 4) (wC (.int 1999993)))) (wC (.int 11))) (wC (.int 2147483647))) (wVar 0) (wC (.int 3))) (wSeq (wSet 5 (wOp rdMod (wOp rdPow (wOp rIxD (wVar 0) (wC (.int 3))) (wC (.int 5))) (wC (.int 2147483647)))) (wSeq (wIfS (wTst (wOp (rdGt) (wVar 1) (wOp rdPow (wC (.int 10)) (wC (.int 9))))) (wSet 5 (wOp rdAdd (wOp rdPow (wVar 5) (wC (.int 4))) (wVar 5))) (wNext)) (wRet (wOp rdMod (wVar 5) (wVar 1))))))))) { nx := fun _ S' => K .non S', rt := K, ex := fun x _ S' => ex x S' } [.val (.ref n), .val (.int many), .val (.lst (intsD cells)), .no, .no, .no] S1 := by
    intro i j k S1 h1 o1
    refine ⟨_, h1, _, rfl, ?_⟩
    refine br (fun hj => ?_) fun hj => ?_
    · refine ⟨_, h1, _, rfl, ?_⟩
      refine ⟨hm, ?_⟩
      refine ⟨_, h1, _, rfl, ?_⟩
      refine ⟨⟨hm, hm2⟩, ?_⟩
      refine ⟨_, h1, _, rfl, ?_⟩
      obtain ⟨h2, o2⟩ := put_ok (ys := [.lst (intsD cells), .int (i : Nat), .int (j / many), .int k]) h1
      exact q _ _ (Int.emod_nonneg _ (by omega)) (Int.emod_lt_of_pos _ hm) (Dr.of h2) (o1.trans o2)
    · -- a cell
      have last : ∀ (i : Nat) (c : Int) (S2 : Store), S2[n]? = some (some (.lst [.lst (intsD cells), .int (i : Nat), .int j, .int k])) → Oth n S S2 →
          (wSeq (wPutRef (wOp rdMod (wOp rdAdd (wOp rdAdd (wOp rMulU (wOp rIxD (wVar 0) (wC (.int 3))) (wC (.int 48271))) (wOp rdMod (wVar 4) (wC (.int 1999993)))) (wC (.int 11))) (wC (.int 2147483647))) (wVar 0) (wC (.int 3))) (wSeq (wSet 5 (wOp rdMod (wOp rdPow (wOp rIxD (wVar 0) (wC (.int 3))) (wC (.int 5))) (wC (.int 2147483647)))) (wSeq (wIfS (wTst (wOp (rdGt) (wVar 1) (wOp rdPow (wC (.int 10)) (wC (.int 9))))) (wSet 5 (wOp rdAdd (wOp rdPow (wVar 5) (wC (.int 4))) (wVar 5))) (wNext)) (wRet (wOp rdMod (wVar 5) (wVar 1)))))) { nx := fun _ S' => K .non S', rt := K, ex := fun x _ S' => ex x S' } [.val (.ref n), .val (.int many), .val (.lst (intsD cells)), .no, .val (.int c), .no] S2 := by
        intro i c S2 h2 o2
        refine ⟨_, h2, _, rfl, ?_⟩
        refine ⟨.inl (.inr ⟨by decide, by decide⟩), ?_⟩
        refine ⟨show (0 : Int) < 1999993 by decide, show (0 : Int) < 2147483647 by decide, ?_⟩
        refine ⟨_, h2, _, rfl, ?_⟩
        obtain ⟨h3, o3⟩ := put_ok (ys := [.lst (intsD cells), .int (i : Nat), .int j, .int ((k * 48271 + c % 1999993 + 11) % 2147483647)]) h2
        refine ⟨_, h3, _, rfl, ?_⟩
        have b1 := Int.emod_nonneg (k * 48271 + c % 1999993 + 11) (show (2147483647 : Int) ≠ 0 by decide)
        have b2 := Int.emod_lt_of_pos (k * 48271 + c % 1999993 + 11) (show (0 : Int) < 2147483647 by decide)
        have key : ∀ z : Int, 0 ≤ z → z < 2147483647 → z.natAbs < 2 ^ 64 := fun z h1 h2 => by omega
        refine ⟨⟨by decide, by decide, key _ b1 b2⟩, show (0 : Int) < 2147483647 by decide, ?_⟩
        refine ⟨⟨by decide, by decide, show (10 : Int).natAbs < 2 ^ 64 by decide⟩, ?_⟩
        refine br (fun hb => ?_) fun hb => ?_
        · refine ⟨⟨by decide, by decide, key _ (Int.emod_nonneg _ (by decide)) (Int.emod_lt_of_pos _ (by decide))⟩, hm, ?_⟩
          exact q _ _ (Int.emod_nonneg _ (by omega)) (Int.emod_lt_of_pos _ hm) (Dr.of h3) (o2.trans o3)
        · exact ⟨hm, q _ _ (Int.emod_nonneg _ (by omega)) (Int.emod_lt_of_pos _ hm) (Dr.of h3) (o2.trans o3)⟩
      refine ⟨_, h1, _, rfl, ?_⟩
      refine br (fun hi => ?_) fun hi => ?_
      · have hi' : i < cells.length := by
          have := of_decide_eq_true hi
          rw [intsD_len] at this
          omega
        obtain ⟨v, hv, _⟩ := get_ints hi'
        refine ⟨_, h1, _, rfl, ?_⟩
        refine ⟨_, atIn hv, ?_⟩
        refine ⟨_, h1, _, rfl, ?_⟩
        refine ⟨_, h1, _, rfl, ?_⟩
        obtain ⟨h2, o2⟩ := put_ok (ys := [.lst (intsD cells), .int ((i + 1 : Nat) : Int), .int j, .int k]) h1
        exact last (i + 1) v _ h2 (o1.trans o2)
      · exact last i 0 S1 h1 o1
  refine ⟨_, hS, _, rfl, ?_⟩
  refine ⟨_, hS, _, rfl, ?_⟩
  refine ⟨rfl, rfl, ?_⟩
  refine br (fun hj => ?_) fun hj => ?_
  · refine ⟨_, hS, _, rfl, ?_⟩
    refine br (fun hi => ?_) fun hi => ?_
    · have hi' : i < cells.length := by
        have := of_decide_eq_true hi
        rw [intsD_len] at this
        omega
      obtain ⟨v, hv, _⟩ := get_ints hi'
      refine ⟨_, hS, _, rfl, ?_⟩
      refine ⟨_, atIn hv, ?_⟩
      refine ⟨⟨by decide, by decide, show (10 : Int).natAbs < 2 ^ 64 by decide⟩, ?_⟩
      refine br (fun hb => ?_) fun hb => ?_
      · refine ⟨_, hS, _, rfl, ?_⟩
        refine ⟨_, atIn hv, ?_⟩
        refine ⟨_, hS, _, rfl, ?_⟩
        obtain ⟨h2, o2⟩ := put_ok (ys := [.lst (intsD cells), .int (i : Nat), .int v, .int k]) hS
        refine ⟨_, h2, _, rfl, ?_⟩
        refine ⟨_, h2, _, rfl, ?_⟩
        obtain ⟨h3, o3⟩ := put_ok (ys := [.lst (intsD cells), .int ((i + 1 : Nat) : Int), .int v, .int k]) h2
        exact rest (i + 1) v k _ h3 (o2.trans o3)
      · exact rest i j k S hS (Oth.refl n S)
    · exact rest i j k S hS (Oth.refl n S)
  · exact rest i j k S hS (Oth.refl n S)

/-! ### plain: rows of drawn heights and widths -/
theorem small_log {z : Int} (h0 : 0 < z) (h : z < 2 ^ 200) : z.natAbs.log2 < 9000 := by
  have h1 : z.natAbs < 2 ^ 200 := by omega
  have h2 := (Nat.log2_lt (n := z.natAbs) (k := 200) (by omega)).2 h1
  omega
theorem intsD_snoc (xs : List Int) (v : Int) : intsD xs ++ [.int v] = intsD (xs ++ [v]) := by
  unfold intsD
  rw [List.map_append]
  rfl

theorem pl_law_widths : ∀ ds S K ex, ds.length = 2 → C_law_widths ds S K ex → rd_law_widths { nx := fun _ _ => False, rt := fun _ _ => False, ex := fun x _ S' => ex x S', rl := K } (startD 4 ds) S := by
  rintro ds S K ex hn ⟨n, m, rfl, hm, hD, q⟩
  have body : ∀ (sz : Int) (S1 : Store), 1 ≤ sz → sz ≤ 1000000000000000000000000000000 → Dr n S1 → Oth n S S1 →
      wRetL (wLc (wR1 (wCons (wVar 1) (wNil))) (gNm 3) (wYes) (wOp rdAdd (wC (.int 1)) (wCall 2 C_law_draw (wCons (wVar 0) (wCons (wVar 2) (wNil))))) [3]) { nx := fun _ _ => False, rt := fun _ _ => False, ex := fun x _ S' => ex x S', rl := K } [.val (.ref n), .val (.int (m : Nat)), .val (.int sz), .no] S1 := by
    intro sz S1 z1 z2 d1 o1
    have loop : ∀ (k : Nat) (lo : Int) (acc : List Int) (S2 : Store), acc.length + k = m → (∀ x ∈ acc, 1 ≤ x ∧ x ≤ 1000000000000000000000000000000) → Dr n S2 → Oth n S S2 →
        lcL (gNm 3) (wYes) (wOp rdAdd (wC (.int 1)) (wCall 2 C_law_draw (wCons (wVar 0) (wCons (wVar 2) (wNil))))) [.val (.ref n), .val (.int (m : Nat)), .val (.int sz), .no] K (rng lo k) (intsD acc) S2 := by
      intro k
      induction k with
      | zero => intro lo acc S2 hl ha d2 o2; exact q acc S2 ⟨by omega, ha⟩ d2 o2
      | succ k ih =>
        intro lo acc S2 hl ha d2 o2
        refine ⟨rfl, n, sz, rfl, d2, by omega, small_log (by omega) (by omega), fun v S3 v0 v1 d3 o3 => ?_⟩
        refine ⟨show (intsD acc).length + 1 ≤ 1000000 by rw [intsD_len]; omega, ?_⟩
        have z := ih (lo + 1) (acc ++ [1 + v]) S3 (by rw [List.length_append]; simp; omega) (fun x hx => by
          rcases List.mem_append.mp hx with hx | hx
          · exact ha x hx
          · have : x = 1 + v := by simpa using hx
            omega) d3 (o2.trans o3)
        rw [← intsD_snoc] at z
        exact z
    exact ⟨rfl, ⟨by omega, by omega⟩, loop m 0 [] S1 (by simp) (fun x hx => by cases hx) d1 o1⟩
  refine ⟨⟨by decide, by decide, show (10 : Int).natAbs < 2 ^ 64 by decide⟩, show 3 ≤ 1000000 by decide, ?_⟩
  refine ⟨rfl, n, 3, rfl, hD, by decide, small_log (by decide) (by decide), fun v S1 v0 v1 d1 o1 => ?_⟩
  have hv : v = 0 ∨ v = 1 ∨ v = 2 := by omega
  rcases hv with rfl | rfl | rfl
  · exact ⟨_, rfl, body 1 S1 (by decide) (by decide) d1 o1⟩
  · exact ⟨_, rfl, body 3 S1 (by decide) (by decide) d1 o1⟩
  · exact ⟨_, rfl, body 1000000000000000000000000000000 S1 (by decide) (by decide) d1 o1⟩
theorem pl_law_heights : ∀ ds S K ex, ds.length = 1 → C_law_heights ds S K ex → rd_law_heights { nx := fun _ _ => False, rt := fun _ _ => False, ex := fun x _ S' => ex x S', rl := K } (startD 4 ds) S := by
  rintro ds S K ex hn ⟨n, rfl, hD, q⟩
  have body : ∀ (m : Nat) (sz : Int) (S1 : Store), 1 ≤ m → m ≤ 60 → 1 ≤ sz → sz ≤ 1000000000000000000000000000000 → Dr n S1 → Oth n S S1 →
      wRetL (wLc (wR1 (wCons (wVar 1) (wNil))) (gNm 3) (wYes) (wOp rdSub (wCall 2 C_law_draw (wCons (wVar 0) (wCons (wOp rdAdd (wOp rMulU (wC (.int 2)) (wVar 2)) (wC (.int 1))) (wNil)))) (wVar 2)) [3]) { nx := fun _ _ => False, rt := fun _ _ => False, ex := fun x _ S' => ex x S', rl := K } [.val (.ref n), .val (.int (m : Nat)), .val (.int sz), .no] S1 := by
    intro m sz S1 m1 m2 z1 z2 d1 o1
    have loop : ∀ (k : Nat) (lo : Int) (acc : List Int) (S2 : Store), acc.length + k = m → (∀ x ∈ acc, -1000000000000000000000000000000 ≤ x ∧ x ≤ 1000000000000000000000000000000) → Dr n S2 → Oth n S S2 →
        lcL (gNm 3) (wYes) (wOp rdSub (wCall 2 C_law_draw (wCons (wVar 0) (wCons (wOp rdAdd (wOp rMulU (wC (.int 2)) (wVar 2)) (wC (.int 1))) (wNil)))) (wVar 2)) [.val (.ref n), .val (.int (m : Nat)), .val (.int sz), .no] K (rng lo k) (intsD acc) S2 := by
      intro k
      induction k with
      | zero => intro lo acc S2 hl ha d2 o2; exact q acc S2 ⟨by omega, by omega, ha⟩ d2 o2
      | succ k ih =>
        intro lo acc S2 hl ha d2 o2
        refine ⟨.inl (.inl ⟨by decide, by decide⟩), rfl, n, 2 * sz + 1, rfl, d2, by omega, small_log (by omega) (by omega), fun v S3 v0 v1 d3 o3 => ?_⟩
        refine ⟨show (intsD acc).length + 1 ≤ 1000000 by rw [intsD_len]; omega, ?_⟩
        have z := ih (lo + 1) (acc ++ [v - sz]) S3 (by rw [List.length_append]; simp; omega) (fun x hx => by
          rcases List.mem_append.mp hx with hx | hx
          · exact ha x hx
          · have : x = v - sz := by simpa using hx
            omega) d3 (o2.trans o3)
        rw [← intsD_snoc] at z
        exact z
    exact ⟨rfl, ⟨by omega, by omega⟩, loop m 0 [] S1 (by simp) (fun x hx => by cases hx) d1 o1⟩
  have sizes : ∀ (m : Nat) (S1 : Store), 1 ≤ m → m ≤ 60 → Dr n S1 → Oth n S S1 →
      (wSeq (wSet 2 (wOp rIxD (wVal (wLst (wCons (wC (.int 2)) (wCons (wC (.int 7)) (wCons (wOp rdPow (wC (.int 10)) (wC (.int 6))) (wCons (wOp rdPow (wC (.int 10)) (wC (.int 30))) (wNil))))))) (wCall 2 C_law_draw (wCons (wVar 0) (wCons (wC (.int 4)) (wNil)))))) (wRetL (wLc (wR1 (wCons (wVar 1) (wNil))) (gNm 3) (wYes) (wOp rdSub (wCall 2 C_law_draw (wCons (wVar 0) (wCons (wOp rdAdd (wOp rMulU (wC (.int 2)) (wVar 2)) (wC (.int 1))) (wNil)))) (wVar 2)) [3]))) { nx := fun _ _ => False, rt := fun _ _ => False, ex := fun x _ S' => ex x S', rl := K } [.val (.ref n), .val (.int (m : Nat)), .no, .no] S1 := by
    intro m S1 m1 m2 d1 o1
    refine ⟨⟨by decide, by decide, show (10 : Int).natAbs < 2 ^ 64 by decide⟩, ⟨by decide, by decide, show (10 : Int).natAbs < 2 ^ 64 by decide⟩, show 4 ≤ 1000000 by decide, ?_⟩
    refine ⟨rfl, n, 4, rfl, d1, by decide, small_log (by decide) (by decide), fun v S2 v0 v1 d2 o2 => ?_⟩
    have hv : v = 0 ∨ v = 1 ∨ v = 2 ∨ v = 3 := by omega
    rcases hv with rfl | rfl | rfl | rfl
    · exact ⟨_, rfl, body m 2 S2 m1 m2 (by decide) (by decide) d2 (o1.trans o2)⟩
    · exact ⟨_, rfl, body m 7 S2 m1 m2 (by decide) (by decide) d2 (o1.trans o2)⟩
    · exact ⟨_, rfl, body m 1000000 S2 m1 m2 (by decide) (by decide) d2 (o1.trans o2)⟩
    · exact ⟨_, rfl, body m 1000000000000000000000000000000 S2 m1 m2 (by decide) (by decide) d2 (o1.trans o2)⟩
  have many : ∀ (v c : Int) (S2 : Store), 0 ≤ v → v < c → c ≤ 60 → Dr n S2 → Oth n S S2 →
      (wSeq (wSet 2 (wOp rIxD (wVal (wLst (wCons (wC (.int 2)) (wCons (wC (.int 7)) (wCons (wOp rdPow (wC (.int 10)) (wC (.int 6))) (wCons (wOp rdPow (wC (.int 10)) (wC (.int 30))) (wNil))))))) (wCall 2 C_law_draw (wCons (wVar 0) (wCons (wC (.int 4)) (wNil)))))) (wRetL (wLc (wR1 (wCons (wVar 1) (wNil))) (gNm 3) (wYes) (wOp rdSub (wCall 2 C_law_draw (wCons (wVar 0) (wCons (wOp rdAdd (wOp rMulU (wC (.int 2)) (wVar 2)) (wC (.int 1))) (wNil)))) (wVar 2)) [3]))) { nx := fun _ _ => False, rt := fun _ _ => False, ex := fun x _ S' => ex x S', rl := K } [.val (.ref n), .val (.int (1 + v)), .no, .no] S2 := by
    intro v c S2 v0 v1 hc d2 o2
    have e : (1 : Int) + v = ((1 + v).toNat : Nat) := by omega
    rw [e]
    exact sizes _ S2 (by omega) (by omega) d2 o2
  refine ⟨show 2 ≤ 1000000 by decide, rfl, n, 4, rfl, hD, by decide, small_log (by decide) (by decide), fun v S1 v0 v1 d1 o1 => ?_⟩
  refine ⟨rfl, rfl, ?_⟩
  show ∃ d, atI [D.int 9, D.int 60] (if decide (v = 3) then 1 else 0) = some d ∧ _
  by_cases hv : v = 3
  · rw [decide_eq_true hv]
    exact ⟨_, rfl, rfl, n, 60, rfl, d1, by decide, small_log (by decide) (by decide), fun u S2 u0 u1 d2 o2 => many u 60 S2 u0 u1 (by decide) d2 (o1.trans o2)⟩
  · rw [decide_eq_false hv]
    exact ⟨_, rfl, rfl, n, 9, rfl, d1, by decide, small_log (by decide) (by decide), fun u S2 u0 u1 d2 o2 => many u 9 S2 u0 u1 (by decide) d2 (o1.trans o2)⟩

/-! ### what is shown of rows of ints -/
theorem toPys_ints : ∀ xs : List Int, toPys (intsD xs) = some (xs.map PyData.int)
  | [] => rfl
  | x :: xs => by
    show (match toPy (.int x), toPys (intsD xs) with | some a, some b => some (a :: b) | _, _ => none) = _
    rw [toPys_ints xs]
    rfl
theorem show_ints : ∀ {xs : List Int}, (∀ x ∈ xs, x.natAbs < 2 ^ 200) → PyData.showableAll (xs.map PyData.int) = true
  | [], _ => rfl
  | x :: xs, h => by
    have hx := h x List.mem_cons_self
    have h1 : x.natAbs.log2 < 1920 := by
      by_cases z : x.natAbs = 0
      · rw [z]; decide
      · have := (Nat.log2_lt (n := x.natAbs) (k := 200) z).2 hx
        omega
    show (decide (x.natAbs.log2 < 1920) && PyData.showableAll (xs.map PyData.int)) = true
    rw [decide_eq_true h1, show_ints fun y hy => h y (List.mem_cons_of_mem _ hy)]
    rfl
theorem depth_ints : ∀ xs : List Int, PyData.depthAll (xs.map PyData.int) = 0
  | [] => rfl
  | x :: xs => by
    show max 0 (PyData.depthAll (xs.map PyData.int)) = 0
    rw [depth_ints xs]
    rfl
theorem piled_ints : ∀ {xs : List Int}, (∀ x ∈ xs, x.natAbs < 2 ^ 200) → piled (PyData.shownAll (xs.map PyData.int)) ≤ 203 * xs.length
  | [], _ => Nat.le_refl _
  | x :: xs, h => by
    have hx := h x List.mem_cons_self
    have h1 : (toString x).length ≤ 201 := by
      refine int_text_length_le (k := 200) (by decide) ?_
      by_cases z : x.natAbs = 0
      · rw [z]; decide
      · exact (Nat.log2_lt (n := x.natAbs) (k := 200) z).2 hx
    have h2 : (Str.ofString (toString x)).length = (toString x).length := PySem.ofString_length _
    have ih := piled_ints fun y hy => h y (List.mem_cons_of_mem _ hy)
    show piled (Str.ofString (toString x) :: PyData.shownAll (xs.map PyData.int)) ≤ _
    rw [piled_cons, h2, List.length_cons]
    omega
theorem textFrom_le : ∀ (ts : List Str) (k : Nat) (acc : Str), (textFrom k acc ts).length ≤ acc.length + piled ts
  | [], k, acc => by show acc.length ≤ acc.length + 0; omega
  | t :: r, k, acc => by
    have ih := textFrom_le r (k + 1) (acc ++ (if k > 0 then ", " else "" : String) ++ t)
    have e : (acc ++ (if k > 0 then ", " else "" : String) ++ t).length ≤ acc.length + 2 + t.length := by
      rw [PySem.Str.length_append, PySem.Str.length_append]
      split
      · have : (Str.ofString ", ").length = 2 := by decide
        omega
      · have : (Str.ofString "").length = 0 := by decide
        omega
    show (textFrom (k + 1) _ r).length ≤ _
    rw [piled_cons]
    omega
theorem Shw_ints {xs : List Int} (h : ∀ x ∈ xs, x.natAbs < 2 ^ 200) (hl : xs.length ≤ 1000) : Shw 300000 (.lst (intsD xs)) := by
  refine ⟨.list (xs.map PyData.int), ?_, show_ints h, ?_, ?_⟩
  · show (toPys (intsD xs)).map PyData.list = _
    rw [toPys_ints]
    rfl
  · show PyData.depthAll (xs.map PyData.int) + 1 ≤ 8
    rw [depth_ints]
    decide
  · show (textFrom 0 "[" (PyData.shownAll (xs.map PyData.int)) ++ "]").length ≤ 300000
    rw [PySem.Str.length_append]
    have h1 := textFrom_le (PyData.shownAll (xs.map PyData.int)) 0 "["
    have h2 := piled_ints h
    have h3 : (Str.ofString "[").length = 1 := by decide
    have h4 : (Str.ofString "]").length = 1 := by decide
    omega
theorem shw_len {n : Nat} {d : D} (h : Shw n d) : (shw d).length ≤ n := by
  obtain ⟨p, h1, _, _, h4⟩ := h
  unfold shw
  rw [h1]
  exact h4
theorem okH_small {hs : List Int} (h : okH hs) : ∀ x ∈ hs, x.natAbs < 2 ^ 200 := fun x hx => by
  have := h.2.2 x hx
  omega
theorem okW_small {n : Nat} {ws : List Int} (h : okW n ws) : ∀ x ∈ ws, x.natAbs < 2 ^ 200 := fun x hx => by
  have := h.2 x hx
  omega
/-! signs -/
theorem sok_app (a b : Str) : PyData.strOk (a ++ b) = (PyData.strOk a && PyData.strOk b) := by
  show (a.cps ++ b.cps).all (fun x => decide (x < 0x110000)) = _
  rw [Array.all_append]
  rfl
theorem sok_of (x : String) : PyData.strOk (Str.ofString x) = true := by
  rw [Str.ofString_eq_toList]
  show (x.toList.map Char.toNat).toArray.all (fun x => decide (x < 0x110000)) = true
  rw [List.all_toArray, List.all_eq_true]
  intro c hc
  obtain ⟨d, _, rfl⟩ := List.mem_map.mp hc
  refine decide_eq_true ?_
  have := d.valid
  rcases this with h | h
  · have h' : d.toNat < 0xd800 := h
    omega
  · exact h.2
theorem sok_text : ∀ (ts : List Str) (k : Nat) (acc : Str), PyData.strOk acc = true → (∀ t ∈ ts, PyData.strOk t = true) → PyData.strOk (textFrom k acc ts) = true
  | [], _, _, h, _ => h
  | t :: r, k, acc, h, ht => by
    refine sok_text r (k + 1) _ ?_ fun u hu => ht u (List.mem_cons_of_mem _ hu)
    rw [sok_app, sok_app, h, ht t List.mem_cons_self]
    split
    · rw [sok_of]; rfl
    · rw [sok_of]; rfl
theorem sok_shown : ∀ xs : List Int, ∀ t ∈ PyData.shownAll (xs.map PyData.int), PyData.strOk t = true
  | [], t, h => by cases h
  | x :: xs, t, h => by
    rcases List.mem_cons.mp (show t ∈ Str.ofString (toString x) :: PyData.shownAll (xs.map PyData.int) from h) with rfl | h
    · exact sok_of _
    · exact sok_shown xs t h
theorem shw_list (xs : List Int) : shw (.lst (intsD xs)) = textFrom 0 "[" (PyData.shownAll (xs.map PyData.int)) ++ "]" := by
  unfold shw
  show (((toPys (intsD xs)).map PyData.list).map PyData.shown).getD _ = _
  rw [toPys_ints]
  rfl
theorem sok_list (xs : List Int) : PyData.strOk (shw (.lst (intsD xs))) = true := by
  rw [shw_list, sok_app, sok_of, sok_text _ _ _ (sok_of _) (sok_shown xs)]
  rfl
theorem bkInt_nat {n : Nat} (h : n ≤ 1000000) : bkInt (.int (n : Nat)) = some (.int (n : Nat)) := by
  unfold bkInt
  exact if_pos (by omega)
theorem sok_empty : PyData.strOk Str.empty = true := by decide +kernel

theorem Shw_int {x : Int} (h : x.natAbs < 2 ^ 200) : Shw 300 (.int x) := by
  have h0 : x.natAbs.log2 < 200 := by
    by_cases z : x.natAbs = 0
    · rw [z]; decide
    · exact (Nat.log2_lt (n := x.natAbs) (k := 200) z).2 h
  refine ⟨.int x, rfl, decide_eq_true (by omega), by show 0 ≤ 8; decide, ?_⟩
  show (Str.ofString (toString x)).length ≤ 300
  rw [PySem.ofString_length]
  have := int_text_length_le (k := 200) (by decide) h0
  omega
theorem sok_int (x : Int) : PyData.strOk (shw (.int x)) = true := sok_of (toString x)

/-! ### steps -/
theorem seqI {f h : FS} {d : R3.Fin} {ρ : List Sl} {S : Store} (q : f { d with nx := h d } ρ S) : wSeq f h d ρ S := q
theorem ifLend {t : FT} {f h : FS} {d : R3.Fin} {ρ ρ' : List Sl} {S : Store} (e : flatE S ρ = ρ') (q : t ρ' (flatS S) (fun b _ => Br b (f d ρ S) (h d ρ S)) (fun x _ => nolsts x.fs = true ∧ d.ex x ρ S)) : wIfS (wLendT t) f h d ρ S := by
  show t (flatE S ρ) _ _ _
  rw [e]
  exact q
theorem lendI {f : FE} {K : KD} {ex : KX} {ρ ρ' : List Sl} {S : Store} (e : flatE S ρ = ρ') (q : f ρ' (flatS S) (fun d _ => nolst d = true ∧ K d S) (fun x _ => nolsts x.fs = true ∧ ex x S)) : wLend f ρ S K ex := by
  show f (flatE S ρ) _ _ _
  rw [e]
  exact q

mutual
theorem eqD_refl : ∀ (n : Nat) (d : D), okN n d = true → eqD d d = true
  | _, .non, _ => rfl
  | _, .bl b, _ => by cases b <;> rfl
  | _, .int i, _ => decide_eq_true rfl
  | _, .str x, _ => beq_self_eq_true x
  | n + 1, .tup xs, h => eqDs_refl n xs h
  | n + 1, .lst xs, h => eqDs_refl n xs h
  | 0, .tup _, h => by cases h
  | 0, .lst _, h => by cases h
  | n, .ty _, h => by cases n <;> cases h
  | n, .obj _ _, h => by cases n <;> cases h
  | n, .ref _, h => by cases n <;> cases h
  | n, .scr _, h => by cases n <;> cases h
  | n, .dic _, h => by cases n <;> cases h
theorem eqDs_refl : ∀ (n : Nat) (ds : List D), okNs n ds = true → eqDs ds ds = true
  | _, [], _ => rfl
  | n, d :: ds, h => by
    have h' := Bool.and_eq_true_iff.mp (show (okN n d && okNs n ds) = true by cases n <;> exact h)
    show (eqD d d && eqDs ds ds) = true
    rw [eqD_refl n d h'.1, eqDs_refl n ds h'.2]
    rfl
end

theorem betw_int {d : D} {lo hi : Int} (h : betw d lo hi = true) : ∃ i, d = .int i ∧ lo ≤ i ∧ i ≤ hi := by
  cases d with
  | int i =>
    have h' := Bool.and_eq_true_iff.mp (show (decide (lo ≤ i) && decide (i ≤ hi)) = true from h)
    exact ⟨i, rfl, of_decide_eq_true h'.1, of_decide_eq_true h'.2⟩
  | _ => cases h
theorem ixN_in {n : Nat} {i : Int} (h0 : 0 ≤ i) (h1 : i < n) : ixN n i = some i.toNat := by
  unfold ixN
  rw [if_pos h0, if_pos h1]
theorem getD_at {hs : List Int} {i : Nat} (h : i < hs.length) : (intsD hs)[i]? = some (.int (hs.getD i 0)) := by
  unfold intsD
  rw [List.getElem?_map, List.getElem?_eq_getElem h, List.getD_eq_getElem?_getD, List.getElem?_eq_getElem h]
  rfl
theorem set_ints (hs : List Int) (i : Nat) (x : Int) : (intsD hs).set i (.int x) = intsD (hs.set i x) := by
  unfold intsD
  rw [List.map_set]
theorem nolsts_ints : ∀ xs : List Int, nolsts (intsD xs) = true
  | [] => rfl
  | x :: xs => by
    show (true && nolsts (intsD xs)) = true
    rw [nolsts_ints xs]
    rfl
theorem bt {i lo hi : Int} (h1 : lo ≤ i) (h2 : i ≤ hi) : betw (.int i) lo hi = true := by
  show (decide (lo ≤ i) && decide (i ≤ hi)) = true
  rw [decide_eq_true h1, decide_eq_true h2]
  rfl
theorem kn_cases {d : D} (h : kn d = true) : (∃ i, d = .int i) ∨ isIntD d = false := by
  cases d <;> first | exact .inr rfl | exact .inl ⟨_, rfl⟩
theorem pick {xs : List D} {v : Int} (h0 : 0 ≤ v) (h1 : v < xs.length) : ∃ d, atI xs v = some d ∧ d ∈ xs := by
  have hlt : v.toNat < xs.length := by omega
  refine ⟨xs[v.toNat], ?_, List.getElem_mem hlt⟩
  unfold atI
  rw [ixN_in h0 h1]
  exact List.getElem?_eq_getElem hlt

theorem law_start (ns : List Int) (hl : ns.length ≤ 63) (hb : ∀ z ∈ ns, Builtin.Int.intBits z ≤ 1048576) : C_law [.scr ns] [] (fun d _ => d = .bl true) noX := ⟨ns, rfl, hl, rfl, fun _ => rfl⟩
theorem pl_Profile__init : ∀ x0 ds S K ex, ds.length = 2 → C_Profile__init ds S K ex →
    rd_Profile__init { nx := fun ρ S' => ∃ fl0, Env.at ρ 0 = .own (.new 1 x0 fl0) ∧ fl0.map (·.1) = fl 1 ∧ K (.obj 1 (fl0.map (·.2))) S', rt := fun _ _ => False, ex := fun x _ S' => ex x S' } (.own (.new 1 x0 []) :: startD 3 ds) S := by
  rintro x0 ds S K ex hn ⟨d, e, n, h, w, rfl, hH, hW, q⟩
  rcases hH with ⟨rfl, hk, hb⟩ | ⟨xs, hd, hl, n1, n2, kx, hH⟩
  · have q : ex ⟨10, [.non]⟩ S := q
    rcases hb with hb | ⟨xs, hd, hl⟩
    · refine ⟨rfl, d, rfl, hk, ?_⟩
      exact brT (by rw [hb]; rfl) q
    · have hc : (1 : Int) ≤ (xs.length : Nat) ∧ ¬ (((xs.length : Nat) : Int) ≤ 60) ∨ ¬ (1 : Int) ≤ (xs.length : Nat) := by omega
      rcases hd with rfl | rfl
      all_goals
        refine ⟨rfl, _, rfl, rfl, brF rfl ?_⟩
        rcases hc with ⟨h1, h2⟩ | h1
        · exact brT (decide_eq_true h1) (brT (show (!decide (((xs.length : Nat) : Int) ≤ 60)) = true by rw [decide_eq_false h2]; rfl) q)
        · exact brF (decide_eq_false h1) q
  subst hl
  have c1 : (1 : Int) ≤ (xs.length : Nat) := by omega
  have c2 : ((xs.length : Nat) : Int) ≤ 60 := by omega
  have body : isLT d xs → rd_Profile__init { nx := fun ρ S' => ∃ fl0, Env.at ρ 0 = .own (.new 1 x0 fl0) ∧ fl0.map (·.1) = fl 1 ∧ K (.obj 1 (fl0.map (·.2))) S', rt := fun _ _ => False, ex := fun x _ S' => ex x S' } (.own (.new 1 x0 []) :: startD 3 [d, e]) S := by
    intro hd
    rcases hd with rfl | rfl
    all_goals
      refine ⟨rfl, _, rfl, rfl, ?_⟩
      refine brF rfl (brT (decide_eq_true c1) ?_)
      refine brF (show (!decide (((xs.length : Nat) : Int) ≤ 60)) = false by rw [decide_eq_true c2]; rfl) ?_
      refine ⟨rfl, _, xs, _, _, rfl, (by first | exact .inl rfl | exact .inr rfl), kx, ?_⟩
      rcases hH with ⟨fi, rfl⟩ | ⟨i, fi, rfl⟩
      · show (wIfS (wTst (wIsN true (wVar 3))) (wRaise 10 (wVar 3)) (wNext)) _ [_, _, _, .val (firstInv (-1000000000000000000000000000000) 1000000000000000000000000000000 0 xs)] S
        rw [fi]
        rcases hW with ⟨rfl, rfl⟩ | ⟨rfl, hk, hne, hb⟩ | ⟨ys, he, hl, ky, hW⟩
        · refine ⟨show 0 ≤ 1000000 by decide, ?_⟩
          refine ⟨rfl, .lst [], [], _, _, rfl, .inl rfl, fun x hx => (by cases hx), ?_⟩
          refine ⟨⟨x0, [], rfl⟩, show 0 < 1000 by decide, ⟨x0, _, rfl⟩, show 1 ≤ 1000000 by decide, ⟨by simp, by omega, by omega, by decide⟩, show 1 < 1000 by decide, ?_⟩
          exact ⟨[("own_heights", .tup xs), ("own_widths", .tup (List.replicate xs.length [D.int 1]).flatten)], rfl, rfl, q _⟩
        · have q : ex ⟨11, [.non]⟩ S := q
          rcases hb with hb | ⟨ys, he, hl⟩
          · cases e with
            | non => exact absurd rfl hne
            | ty => cases hk
            | ref => cases hk
            | lst => cases hb
            | tup => cases hb
            | scr => cases hb
            | bl b => exact ⟨rfl, _, rfl, hk, brT rfl q⟩
            | int b => exact ⟨rfl, _, rfl, hk, brT rfl q⟩
            | str b => exact ⟨rfl, _, rfl, hk, brT rfl q⟩
            | obj c es => exact ⟨rfl, _, rfl, hk, brT rfl q⟩
            | dic b => exact ⟨rfl, _, rfl, hk, brT rfl q⟩
          · have hc : ¬ ((ys.length : Int) = (xs.length : Int)) := by omega
            rcases he with rfl | rfl
            all_goals
              refine ⟨rfl, _, rfl, rfl, ?_⟩
              refine ⟨rfl, rfl, ?_⟩
              exact brT (show (!decide ((ys.length : Int) = (xs.length : Int))) = true by rw [decide_eq_false hc]; rfl) q
        · have hc : (ys.length : Int) = (xs.length : Int) := by omega
          have hne : (!ys.isEmpty) = true := by
            cases ys with
            | nil => simp at hl; omega
            | cons y r => rfl
          rcases he with rfl | rfl
          all_goals
            refine ⟨rfl, _, rfl, rfl, ?_⟩
            refine ⟨rfl, rfl, ?_⟩
            refine brF (show (!decide ((ys.length : Int) = (xs.length : Int))) = false by rw [decide_eq_true hc]; rfl) ?_
            refine brT hne ?_
            refine ⟨rfl, _, ys, _, _, rfl, (by first | exact .inl rfl | exact .inr rfl), ky, ?_⟩
            rcases hW with ⟨fj, rfl⟩ | ⟨j, fj, rfl⟩
            · show (wIfS (wTst (wIsN true (wVar 3))) (wRaise 11 (wVar 3)) (wNext)) _ [_, _, _, .val (firstInv 1 1000000000000000000000000000000 0 ys)] S
              rw [fj]
              refine ⟨⟨x0, [], rfl⟩, show 0 < 1000 by decide, ⟨x0, _, rfl⟩, show 1 < 1000 by decide, ?_⟩
              exact ⟨[("own_heights", .tup xs), ("own_widths", .tup ys)], rfl, rfl, q _⟩
            · show (wIfS (wTst (wIsN true (wVar 3))) (wRaise 11 (wVar 3)) (wNext)) _ [_, _, _, .val (firstInv 1 1000000000000000000000000000000 0 ys)] S
              rw [fj]
              exact q
      · show (wIfS (wTst (wIsN true (wVar 3))) (wRaise 10 (wVar 3)) (wNext)) _ [_, _, _, .val (firstInv (-1000000000000000000000000000000) 1000000000000000000000000000000 0 xs)] S
        rw [fi]
        exact q
  exact body hd
theorem pl_law_made : ∀ ds S K ex, ds.length = 2 → C_law_made ds S K ex → rd_law_made { nx := fun _ S' => K .non S', rt := K, ex := fun x _ S' => ex x S' } (startD 4 ds) S := by
  rintro ds S K ex hn ⟨d, e, n, h, w, rfl, hH, hW, q⟩
  refine ⟨show 0 ≤ 1000000 by decide, rfl, d, e, n, h, w, rfl, hH, hW, ?_⟩
  cases hv : vd h w with
  | none =>
    rw [hv] at q
    exact fun y => q
  | some v =>
    rw [hv] at q
    obtain ⟨b, i⟩ := v
    cases b with
    | false => exact ⟨show 3 < 4 by decide, rfl, rfl, _, rfl, rfl, rfl, rfl, show 5 ≤ 1000000 by decide, q⟩
    | true => exact ⟨show 3 < 4 by decide, rfl, rfl, _, rfl, rfl, rfl, rfl, show 5 ≤ 1000000 by decide, q⟩
theorem pd_Profile__init_1 : ∀ ds S K ex, C_Profile__init_1 ds S K ex → ds.length = 1 → C_Profile__init (ds ++ [.non]) S K ex := by
  rintro ds S K ex ⟨d, rfl, q⟩ _
  exact q

/-! texts -/
theorem tx_non : Tx 300 1 .non := ⟨_, fun _ => .non, by decide +kernel, by decide, by decide +kernel⟩
theorem tx_bl (b : Bool) : Tx 300 1 (.bl b) := by cases b <;> exact ⟨_, fun _ => .bl _, by decide +kernel, by decide, by decide +kernel⟩
theorem tx_int {x : Int} (h : x.natAbs < 2 ^ 200) : Tx 300 1 (.int x) := by
  obtain ⟨p, h1, h2, h3, h4⟩ := Shw_int h
  cases h1
  exact ⟨_, fun _ => .int x (of_decide_eq_true h2), h4, Nat.zero_le _, sok_int x⟩
theorem tx_str (x : Str) (h : (PyData.str x).shown.length ≤ 300) (h2 : PyData.strOk (PyData.str x).shown = true) : Tx 300 1 (.str x) := ⟨_, fun _ => .str x, h, by show 0 ≤ 1; decide, h2⟩
theorem tx_dic0 : Tx 300 1 (.dic []) := ⟨_, fun _ => .dic [] rfl (by decide), by decide +kernel, by decide, by decide +kernel⟩
theorem tx_dic1 : Tx 300 1 (.dic [(0, 1)]) := ⟨_, fun _ => .dic [(0, 1)] (by decide +kernel) (by decide), by decide +kernel, by decide, by decide +kernel⟩
theorem tx_mono {n n' m m' : Nat} {d : D} (h : Tx n m d) (hn : n ≤ n') (hm : m ≤ m') : Tx n' m' d := by
  obtain ⟨t, h1, h2, h3, h4⟩ := h
  exact ⟨t, h1, Nat.le_trans h2 hn, Nat.le_trans h3 hm, h4⟩
/-- the texts of a row's items -/
theorem txs_of {n m : Nat} : ∀ {xs : List D}, (∀ x ∈ xs, Tx n m x) → ∃ ts : List Str, (∀ S, Txts 0 noCt S xs ts) ∧ ts.length = xs.length ∧ (∀ t ∈ ts, t.length ≤ n ∧ PyData.strOk t = true) ∧ hgts xs ≤ m
  | [], _ => ⟨[], fun _ => .nil, rfl, fun t ht => (by cases ht), Nat.zero_le _⟩
  | x :: xs, h => by
    obtain ⟨t, h1, h2, h3, h4⟩ := h x List.mem_cons_self
    obtain ⟨ts, g1, g2, g3, g4⟩ := txs_of fun y hy => h y (List.mem_cons_of_mem _ hy)
    refine ⟨t :: ts, fun S => .cons (h1 S) (g1 S), congrArg (· + 1) g2, fun u hu => ?_, Nat.max_le.mpr ⟨h3, g4⟩⟩
    rcases List.mem_cons.mp hu with rfl | hu
    · exact ⟨h2, h4⟩
    · exact g3 u hu
theorem piled_le {n : Nat} : ∀ {ts : List Str}, (∀ t ∈ ts, t.length ≤ n) → piled ts ≤ (n + 2) * ts.length
  | [], _ => Nat.zero_le _
  | t :: ts, h => by
    have h1 := h t List.mem_cons_self
    have h2 := piled_le fun u hu => h u (List.mem_cons_of_mem _ hu)
    rw [piled_cons, List.length_cons, Nat.mul_succ]
    omega
theorem sok_from : ∀ (ts : List Str) (k : Nat) (acc : Str), PyData.strOk acc = true → (∀ t ∈ ts, PyData.strOk t = true) → PyData.strOk (textFrom k acc ts) = true
  | [], _, _, h, _ => h
  | t :: r, k, acc, h, ht => by
    refine sok_from r (k + 1) _ ?_ fun u hu => ht u (List.mem_cons_of_mem _ hu)
    rw [sok_app, sok_app, h, ht t List.mem_cons_self, sok_of]
    rfl
theorem len_list {n : Nat} {ts : List Str} (h : ∀ t ∈ ts, t.length ≤ n) : (listText ts).length ≤ (n + 2) * ts.length + 2 := by
  have h1 := piled_le h
  have h2 := textFrom_le ts 0 "["
  have k1 : (Str.ofString "[").length = 1 := by decide
  have k2 : (Str.ofString "]").length = 1 := by decide
  show (textFrom 0 "[" ts ++ "]").length ≤ _
  rw [PySem.Str.length_append]
  omega
theorem sok_lst {ts : List Str} (h : ∀ t ∈ ts, PyData.strOk t = true) : PyData.strOk (listText ts) = true := by
  show PyData.strOk (textFrom 0 "[" ts ++ "]") = true
  rw [sok_app, sok_from ts 0 "[" (sok_of _) h, sok_of]
  rfl
theorem tx_lst {n m : Nat} {xs : List D} (h : ∀ x ∈ xs, Tx n m x) : Tx ((n + 2) * xs.length + 2) (m + 1) (.lst xs) := by
  obtain ⟨ts, g1, g2, g3, g4⟩ := txs_of h
  refine ⟨listText ts, fun S => .lst (g1 S), ?_, Nat.succ_le_succ g4, sok_lst fun t ht => (g3 t ht).2⟩
  rw [← g2]
  exact len_list fun t ht => (g3 t ht).1
theorem len_tup {n : Nat} {ts : List Str} (h : ∀ t ∈ ts, t.length ≤ n) : (tupleText ts).length ≤ (n + 2) * ts.length + 3 := by
  have h1 := piled_le h
  have k1 : (Str.ofString "(").length = 1 := by decide
  have k2 : (Str.ofString ")").length = 1 := by decide
  have k3 : (Str.ofString ",)").length = 2 := by decide
  have k4 : (Str.join ", " ts).length ≤ piled ts := by
    by_cases hn : ts = []
    · subst hn; decide
    · have := join_length_add ts hn; omega
  unfold tupleText
  simp only [PySem.Str.length_append]
  split <;> omega
theorem sok_join {ts : List Str} (h : ∀ t ∈ ts, PyData.strOk t = true) : PyData.strOk (Str.join ", " ts) = true := by
  have := sok_lst h
  rw [listText_eq_join, sok_app, sok_app] at this
  exact (Bool.and_eq_true_iff.mp (Bool.and_eq_true_iff.mp this).1).2
theorem sok_tup {ts : List Str} (h : ∀ t ∈ ts, PyData.strOk t = true) : PyData.strOk (tupleText ts) = true := by
  unfold tupleText
  simp only [sok_app, sok_join h, sok_of, Bool.and_self]
theorem tx_tup {n m : Nat} {xs : List D} (h : ∀ x ∈ xs, Tx n m x) : Tx ((n + 2) * xs.length + 3) (m + 1) (.tup xs) := by
  obtain ⟨ts, g1, g2, g3, g4⟩ := txs_of h
  refine ⟨tupleText ts, fun S => .tup (g1 S), ?_, Nat.succ_le_succ g4, sok_tup fun t ht => (g3 t ht).2⟩
  rw [← g2]
  exact len_tup fun t ht => (g3 t ht).1
theorem bad_lit {lo : Int} {d : D} (h1 : ∀ i, d ≠ .int i) (h2 : kn d = true) (h3 : Tx 300 1 d) : Bad lo d := by
  refine ⟨?_, h2, h3⟩
  cases d with
  | int i => exact absurd rfl (h1 i)
  | _ => rfl
theorem bad_int {lo x : Int} (h : x < lo ∨ 1000000000000000000000000000000 < x) (hx : x.natAbs < 2 ^ 200) : Bad lo (.int x) := by
  refine ⟨?_, rfl, tx_int hx⟩
  show (decide (lo ≤ x) && decide (x ≤ 1000000000000000000000000000000)) = false
  rcases h with h | h
  · rw [decide_eq_false (by omega)]; rfl
  · rw [decide_eq_false (show ¬ x ≤ 1000000000000000000000000000000 by omega), Bool.and_false]
theorem pl_law_odd : ∀ ds S K ex, ds.length = 2 → C_law_odd ds S K ex → rd_law_odd { nx := fun _ S' => K .non S', rt := K, ex := fun x _ S' => ex x S' } (startD 4 ds) S := by
  rintro ds S K ex hn ⟨n, lo, rfl, hD, h1, h2, q⟩
  have e9 : (10 : Int) ^ (9 : Int).toNat = 1000000000 := by decide
  have e30 : (10 : Int) ^ (30 : Int).toNat = 1000000000000000000000000000000 := by decide
  have p10 : ∀ k : Nat, k ≤ 60 → CPow 10 k := fun k hk => ⟨by omega, by omega, show (10 : Int).natAbs < 2 ^ 64 by decide⟩
  refine ⟨p10 30 (by decide), p10 9 (by decide), rfl, n, (10 : Int) ^ (9 : Int).toNat, rfl, hD, by rw [e9]; decide, small_log (by rw [e9]; decide) (by rw [e9]; decide), fun v S1 v0 v1 d1 o1 => ?_⟩
  rw [e9] at v1
  refine ⟨show 0 ≤ 1000000 by decide, show 0 ≤ 1000000 by decide, show 1 ≤ 1000000 by decide, rfl, n, 9, rfl, d1, by decide, small_log (by decide) (by decide), fun u S2 u0 u1 d2 o2 => ?_⟩
  refine ⟨show 12 ≤ 1000000 by decide, rfl, n, 12, rfl, d2, by decide, small_log (by decide) (by decide), fun z S3 z0 z1 d3 o3 => ?_⟩
  obtain ⟨far, hfar⟩ : ∃ f : Int, f = (10 : Int) ^ (30 : Int).toNat + 1 + v := ⟨_, rfl⟩
  have hf : 1000000000000000000000000000000 < far ∧ far < 2000000000000000000000000000000 := by rw [hfar, e30]; omega
  show ∃ d, atI [D.non, .bl true, .bl false, .str "3", .str "", .tup [], .lst [], .tup [.int 1], .dic [], .int ((10 : Int) ^ (30 : Int).toNat + 1 + v), .int (0 - ((10 : Int) ^ (30 : Int).toNat + 1 + v)), .int (lo - 1 - u)] z = some d ∧ _
  rw [← hfar]
  obtain ⟨d, hd, md⟩ := pick z0 (show z < ([D.non, .bl true, .bl false, .str "3", .str "", .tup [], .lst [], .tup [.int 1], .dic [], .int far, .int (0 - far), .int (lo - 1 - u)] : List D).length from z1)
  refine ⟨d, hd, q d S3 ?_ d3 (o1.trans (o2.trans o3))⟩
  have no : ∀ {d : D}, (match d with | .int _ => false | _ => true) = true → ∀ i, d ≠ .int i := fun h i e => by rw [e] at h; cases h
  simp only [List.mem_cons, List.not_mem_nil, or_false] at md
  rcases md with rfl | rfl | rfl | rfl | rfl | rfl | rfl | rfl | rfl | rfl | rfl | rfl
  · exact bad_lit (no rfl) rfl tx_non
  · exact bad_lit (no rfl) rfl (tx_bl _)
  · exact bad_lit (no rfl) rfl (tx_bl _)
  · exact bad_lit (no rfl) rfl (tx_str _ (by decide +kernel) (by decide +kernel))
  · exact bad_lit (no rfl) rfl (tx_str _ (by decide +kernel) (by decide +kernel))
  · exact bad_lit (no rfl) rfl (tx_mono (tx_tup (n := 0) (m := 0) fun x hx => by cases hx) (by decide) (by decide))
  · exact bad_lit (no rfl) rfl (tx_mono (tx_lst (n := 0) (m := 0) fun x hx => by cases hx) (by decide) (by decide))
  · exact bad_lit (no rfl) rfl ⟨_, fun _ => .tup (.cons (.int 1 (by decide)) .nil), by decide +kernel, by decide, by decide +kernel⟩
  · exact bad_lit (no rfl) rfl tx_dic0
  · exact bad_int (.inr hf.1) (by omega)
  · exact bad_int (.inl (by omega)) (by omega)
  · exact bad_int (.inl (by omega)) (by omega)

theorem sm_small {n : Nat} (h : n ≤ 1000) : Small n := show n ≤ 1000000 by omega
theorem natsD_len (ps : List Nat) : (natsD ps).length = ps.length := List.length_map ..
theorem natsD_snoc (ps : List Nat) (p : Nat) : natsD (ps ++ [p]) = natsD ps ++ [.int (p : Int)] := List.map_append ..
theorem spo_nil (row : List Int) (lo : Int) : Spo row lo (intsD row) [] := by
  refine ⟨intsD_len row, fun p hp => (by cases hp), fun i hi => ⟨_, getD_at hi, fun h => (by cases h), fun _ => rfl⟩⟩
theorem spo_put {row : List Int} {lo : Int} {xs : List D} {ps : List Nat} {v : Nat} {d : D} (h : Spo row lo xs ps) (hv : v < row.length) (hd : Bad lo d) : Spo row lo (xs.set v d) (ps ++ [v]) := by
  obtain ⟨h1, h2, h3⟩ := h
  refine ⟨by rw [List.length_set]; exact h1, fun p hp => ?_, fun i hi => ?_⟩
  · rcases List.mem_append.mp hp with hp | hp
    · exact h2 p hp
    · rw [List.mem_singleton.mp hp]; exact hv
  · by_cases e : v = i
    · subst e
      exact ⟨d, List.getElem?_set_self (by omega), fun _ => hd, fun h => absurd (List.mem_append_right _ List.mem_cons_self) h⟩
    · obtain ⟨x, hx, k1, k2⟩ := h3 i hi
      refine ⟨x, by rw [List.getElem?_set_ne e]; exact hx, fun h => ?_, fun h => k2 fun z => h (List.mem_append_left _ z)⟩
      rcases List.mem_append.mp h with h | h
      · exact k1 h
      · exact absurd (List.mem_singleton.mp h).symm e
theorem pl_law_spoilt : ∀ ds S K ex, ds.length = 3 → C_law_spoilt ds S K ex → rd_law_spoilt { nx := fun _ S' => K .non S', rt := K, ex := fun x _ S' => ex x S' } (startD 7 ds) S := by
  rintro ds S K ex hn ⟨n, row, lo, rfl, r1, r2, hD, h1, h2, q⟩
  refine ⟨show 3 < 7 by decide, show 0 ≤ 1000000 by decide, show 4 < 7 by decide, ?_⟩
  refine ⟨rfl, n, 3, rfl, hD, by decide, small_log (by decide) (by decide), fun v S1 v0 v1 d1 o1 => ?_⟩
  refine ⟨⟨by omega, by omega⟩, ?_⟩
  refine forI (fun i ρ S' => ∃ xs ps a5 a6, ρ = [.val (.ref n), .val (.lst (intsD row)), .val (.int lo), .own (.lst (natsD ps)), .own (.lst xs), a5, a6] ∧ Spo row lo xs ps ∧ Dr n S' ∧ Oth n S S' ∧ ps.length ≤ i) ⟨intsD row, [], _, _, rfl, spo_nil row lo, d1, o1, Nat.zero_le _⟩ ?_ ?_
  · rintro i x ρ S2 N hx ⟨xs, ps, a5, a6, rfl, hs, d2, o2, hp⟩ hN
    obtain ⟨hi, rfl⟩ := rng_at hx
    refine ⟨rfl, n, row.length, by show [_, D.int ((intsD row).length : Nat)] = _; rw [intsD_len], d2, by omega, small_log (by omega) (by omega), fun u S3 u0 u1 d3 o3 => ?_⟩
    refine ⟨rfl, n, lo, rfl, d3, h1, h2, fun d S4 hd d4 o4 => ?_⟩
    refine ⟨u.toNat, ixN_in u0 (by rw [hs.1]; exact u1), ?_⟩
    refine ⟨show (natsD ps).length + 1 ≤ 1000000 by rw [natsD_len]; omega, ?_⟩
    refine hN _ _ ⟨xs.set u.toNat d, ps ++ [u.toNat], .val (.int (0 + (i : Int))), .val (.int u), ?_, spo_put hs (by omega) hd, d4, o2.trans (o3.trans o4), by simp; exact hp⟩
    rw [natsD_snoc, show ((u.toNat : Nat) : Int) = u by omega]
    rfl
  · rintro ρ S2 ⟨xs, ps, a5, a6, rfl, hs, d2, o2, hp⟩
    exact ⟨show 2 ≤ 1000000 by decide, q xs ps S2 hs d2 o2⟩
theorem foldl_min : ∀ (ps : List Nat) (p : Nat), ps.foldl min p ∈ p :: ps ∧ ∀ q ∈ p :: ps, ps.foldl min p ≤ q
  | [], p => ⟨List.mem_cons_self, fun q hq => by rw [List.mem_singleton.mp hq]; exact Nat.le_refl _⟩
  | a :: ps, p => by
    obtain ⟨h1, h2⟩ := foldl_min ps (min p a)
    have hm := h2 (min p a) List.mem_cons_self
    refine ⟨?_, fun q hq => ?_⟩
    · rcases List.mem_cons.mp h1 with h | h
      · show List.foldl min (min p a) ps ∈ _
        rw [h]
        rcases Nat.le_total p a with z | z
        · rw [Nat.min_eq_left z]; exact List.mem_cons_self
        · rw [Nat.min_eq_right z]; exact List.mem_cons_of_mem _ List.mem_cons_self
      · exact List.mem_cons_of_mem _ (List.mem_cons_of_mem _ h)
    · show List.foldl min (min p a) ps ≤ q
      rcases List.mem_cons.mp hq with rfl | hq
      · omega
      · rcases List.mem_cons.mp hq with rfl | hq
        · omega
        · exact h2 q (List.mem_cons_of_mem _ hq)
theorem natsD_at {ps : List Nat} {i : Nat} {x : D} (h : (natsD ps)[i]? = some x) : ∃ q, ps[i]? = some q ∧ x = .int (q : Int) := by
  unfold natsD at h
  rw [List.getElem?_map] at h
  cases e : ps[i]? with
  | none => rw [e] at h; cases h
  | some q => rw [e] at h; cases h; exact ⟨q, rfl, rfl⟩
theorem pl_law_first : ∀ ds S K ex, ds.length = 1 → C_law_first ds S K ex → rd_law_first { nx := fun _ S' => K .non S', rt := K, ex := fun x _ S' => ex x S' } (startD 3 ds) S := by
  rintro ds S K ex hn ⟨p, ps, rfl, q⟩
  refine ⟨.int (p : Int), atIn (show (natsD (p :: ps))[0]? = some (.int (p : Int)) from rfl), ?_⟩
  refine forI (fun i ρ S' => S' = S ∧ ∃ a2, ρ = [.val (.lst (natsD (p :: ps))), .val (.int ((((p :: ps).take i).foldl min p : Nat) : Int)), a2]) ⟨rfl, _, rfl⟩ ?_ ?_
  · rintro i x ρ S2 N hx ⟨rfl, a2, rfl⟩ hN
    obtain ⟨u, hu, rfl⟩ := natsD_at hx
    have e : (p :: ps).take (i + 1) = (p :: ps).take i ++ [u] := by rw [List.take_add_one, hu]; rfl
    have e2 : ((p :: ps).take (i + 1)).foldl min p = min (((p :: ps).take i).foldl min p) u := by rw [e, List.foldl_append]; rfl
    generalize ((p :: ps).take i).foldl min p = m at e2
    refine brD (fun h => ?_) fun h => ?_
    · exact hN _ _ ⟨rfl, _, by rw [e2, show min m u = u by omega]; rfl⟩
    · exact hN _ _ ⟨rfl, _, by rw [e2, show min m u = m by omega]; rfl⟩
  · rintro ρ S2 ⟨rfl, a2, rfl⟩
    rw [natsD_len, List.take_length] at *
    have e : (p :: ps).foldl min p = ps.foldl min p := by show ps.foldl min (min p p) = _; rw [Nat.min_self]
    show K (.int (((p :: ps).foldl min p : Nat) : Int)) _
    rw [e]
    exact q

theorem reps_lc (n : Nat) (row : List Int) (a b : D) (s4 s5 : Sl) (hr : 1 ≤ row.length) : ∀ (K1 : List D → Store → Prop) (S : Store) (k m : Nat) (lo : Int), m + k ≤ 1000 → K1 (intsD (List.replicate (m + k) (row.getD 0 0))) S → lcL (gNm 6) (wYes) (wOp rIxD (wVar 1) (wC (.int 0))) [.val (.ref n), .val (.lst (intsD row)), .val a, .val b, s4, s5, .no] K1 (rng lo k) (intsD (List.replicate m (row.getD 0 0))) S := by
  intro K1 S k
  induction k with
  | zero => intro m lo hm q; exact q
  | succ k ih =>
    intro m lo hm q
    refine ⟨_, atIn (getD_at hr), show (intsD (List.replicate m (row.getD 0 0))).length + 1 ≤ 1000000 by rw [intsD_len, List.length_replicate]; omega, ?_⟩
    have z := ih (m + 1) (lo + 1) (by omega) (by rw [show m + 1 + k = m + (k + 1) by omega]; exact q)
    rw [List.replicate_succ', ← intsD_snoc] at z
    exact z
theorem whole_lit {a b : Nat} {d : D} (h1 : d ≠ .non) (h2 : kn d = true) (h3 : Tx 300 1 d) (h4 : isRowD d = false) : Whole a b d := ⟨h2, h1, tx_mono h3 (by decide) (by decide), .inl h4⟩
theorem tx_ints {xs : List Int} (h : ∀ x ∈ xs, x.natAbs < 2 ^ 200) : ∀ x ∈ intsD xs, Tx 300 1 x := fun x hx => by
  obtain ⟨i, hi, rfl⟩ := List.mem_map.mp hx
  exact tx_int (h i hi)
theorem pl_law_whole : ∀ ds S K ex, ds.length = 4 → C_law_whole ds S K ex → rd_law_whole { nx := fun _ S' => K .non S', rt := K, ex := fun x _ S' => ex x S' } (startD 7 ds) S := by
  rintro ds S K ex hn ⟨n, row, a, b, rfl, a1, a2, b2, r1, hs, hD, q⟩
  have h0 : (row.getD 0 0).natAbs < 2 ^ 200 := by
    rw [List.getD_eq_getElem?_getD, List.getElem?_eq_getElem (show 0 < row.length from r1)]
    exact hs _ (List.getElem_mem _)
  have hrep : ∀ m : Nat, ∀ x ∈ List.replicate m (row.getD 0 0), x.natAbs < 2 ^ 200 := fun m x hx => by rw [List.eq_of_mem_replicate hx]; exact h0
  refine ⟨rfl, rfl, n, 9, rfl, hD, by decide, small_log (by decide) (by decide), fun v S1 v0 v1 d1 o1 => ?_⟩
  refine ⟨⟨by omega, by omega⟩, ?_⟩
  refine reps_lc n row _ _ .no .no r1 _ S1 _ 0 0 (by omega) ?_
  rw [Nat.zero_add]
  obtain ⟨L, hL⟩ : ∃ L : Nat, L = ((b : Int) + 1 + v).toNat := ⟨_, rfl⟩
  rw [← hL]
  refine ⟨rfl, rfl, n, (a : Int), rfl, d1, by omega, small_log (by omega) (by omega), fun u S2 u0 u1 d2 o2 => ?_⟩
  refine ⟨⟨by omega, by omega⟩, ?_⟩
  refine reps_lc n row _ _ _ .no r1 _ S2 _ 0 0 (by omega) ?_
  rw [Nat.zero_add]
  obtain ⟨M, hM⟩ : ∃ M : Nat, M = u.toNat := ⟨_, rfl⟩
  rw [← hM]
  refine ⟨show 11 ≤ 1000000 by decide, rfl, n, 11, rfl, d2, by decide, small_log (by decide) (by decide), fun z S3 z0 z1 d3 o3 => ?_⟩
  obtain ⟨d, hd, md⟩ := pick z0 (show z < ([D.int 7, .bl true, .bl false, .str "11", .str "", .dic [], .dic [(0, 1)], .lst (intsD (List.replicate L (row.getD 0 0))), .tup (intsD (List.replicate L (row.getD 0 0))), .lst (intsD (List.replicate M (row.getD 0 0))), .tup (intsD (List.replicate M (row.getD 0 0)))] : List D).length from z1)
  refine ⟨d, hd, q d S3 ?_ d3 (o1.trans (o2.trans o3))⟩
  have hL2 : L ≤ 70 ∧ b < L := by omega
  have hM2 : M < a := by omega
  have len : ∀ m : Nat, (intsD (List.replicate m (row.getD 0 0))).length = m := fun m => by rw [intsD_len, List.length_replicate]
  have tl : ∀ m : Nat, m ≤ 70 → Tx 300000 2 (.lst (intsD (List.replicate m (row.getD 0 0)))) := fun m hm => tx_mono (tx_lst (tx_ints (hrep m))) (by rw [len]; omega) (by decide)
  have tt : ∀ m : Nat, m ≤ 70 → Tx 300000 2 (.tup (intsD (List.replicate m (row.getD 0 0)))) := fun m hm => tx_mono (tx_tup (tx_ints (hrep m))) (by rw [len]; omega) (by decide)
  simp only [List.mem_cons, List.not_mem_nil, or_false] at md
  rcases md with rfl | rfl | rfl | rfl | rfl | rfl | rfl | rfl | rfl | rfl | rfl
  · exact whole_lit (fun z => nomatch z) rfl (tx_int (by decide)) rfl
  · exact whole_lit (fun z => nomatch z) rfl (tx_bl _) rfl
  · exact whole_lit (fun z => nomatch z) rfl (tx_bl _) rfl
  · exact whole_lit (fun z => nomatch z) rfl (tx_str _ (by decide +kernel) (by decide +kernel)) rfl
  · exact whole_lit (fun z => nomatch z) rfl (tx_str _ (by decide +kernel) (by decide +kernel)) rfl
  · exact whole_lit (fun z => nomatch z) rfl tx_dic0 rfl
  · exact whole_lit (fun z => nomatch z) rfl tx_dic1 rfl
  · exact ⟨rfl, (fun z => nomatch z), tl L hL2.1, .inr ⟨_, .inl rfl, .inr (by rw [len]; exact hL2.2)⟩⟩
  · exact ⟨rfl, (fun z => nomatch z), tt L hL2.1, .inr ⟨_, .inr rfl, .inr (by rw [len]; exact hL2.2)⟩⟩
  · exact ⟨rfl, (fun z => nomatch z), tl M (by omega), .inr ⟨_, .inl rfl, .inl (by rw [len]; exact hM2)⟩⟩
  · exact ⟨rfl, (fun z => nomatch z), tt M (by omega), .inr ⟨_, .inr rfl, .inl (by rw [len]; exact hM2)⟩⟩
theorem fi_at {lo hi : Int} : ∀ (xs : List D) (k j : Nat), (∀ i, i < j → ∃ x, xs[i]? = some x ∧ betw x lo hi = true) → (∃ x, xs[j]? = some x ∧ betw x lo hi = false) → firstInv lo hi k xs = .int ((k + j : Nat) : Int)
  | [], k, j, _, h => by obtain ⟨x, hx, _⟩ := h; cases j <;> cases hx
  | y :: ys, k, 0, _, h => by
    obtain ⟨x, hx, hb⟩ := h
    cases hx
    show (if betw y lo hi = true then _ else _) = _
    rw [if_neg (by rw [hb]; decide)]
    rfl
  | y :: ys, k, j + 1, h0, h => by
    obtain ⟨x, hx, hb⟩ := h0 0 (Nat.succ_pos j)
    cases hx
    show (if betw y lo hi = true then _ else _) = _
    rw [if_pos hb, fi_at ys (k + 1) j (fun i hi => h0 (i + 1) (Nat.succ_lt_succ hi)) h, show k + 1 + j = k + (j + 1) by omega]
theorem betw_in {lo hi x : Int} (h1 : lo ≤ x) (h2 : x ≤ hi) : betw (.int x) lo hi = true := by
  show (decide _ && decide _) = true
  rw [decide_eq_true h1, decide_eq_true h2]; rfl
theorem spo_first {row : List Int} {lo : Int} {xs : List D} {p : Nat} {ps : List Nat} (h : Spo row lo xs (p :: ps)) (hv : ∀ x ∈ row, lo ≤ x ∧ x ≤ 1000000000000000000000000000000) : firstInv lo 1000000000000000000000000000000 0 xs = .int ((ps.foldl min p : Nat) : Int) := by
  obtain ⟨h1, h2, h3⟩ := h
  obtain ⟨m1, m2⟩ := foldl_min ps p
  have hj := h2 _ m1
  have := fi_at (lo := lo) (hi := 1000000000000000000000000000000) xs 0 (ps.foldl min p) (fun i hi => by
    obtain ⟨x, hx, _, k2⟩ := h3 i (by omega)
    have hn : i ∉ p :: ps := fun z => by have := m2 i z; omega
    have e := k2 hn
    have hm := hv (row.getD i 0) (by rw [List.getD_eq_getElem?_getD, List.getElem?_eq_getElem (show i < row.length by omega)]; exact List.getElem_mem _)
    exact ⟨x, hx, by rw [e]; exact betw_in hm.1 hm.2⟩) (by
    obtain ⟨x, hx, k1, _⟩ := h3 _ hj
    exact ⟨x, hx, (k1 m1).1⟩)
  rw [Nat.zero_add] at this
  exact this
theorem spo_same {row : List Int} {lo : Int} {xs : List D} (h : Spo row lo xs []) : xs = intsD row := by
  obtain ⟨h1, _, h3⟩ := h
  refine List.ext_getElem? fun i => ?_
  by_cases hi : i < row.length
  · obtain ⟨x, hx, _, k2⟩ := h3 i hi
    rw [hx, k2 (fun z => by cases z), getD_at hi]
  · rw [List.getElem?_eq_none (by omega), List.getElem?_eq_none (by rw [intsD_len]; omega)]
theorem spo_mem {row : List Int} {lo : Int} {xs : List D} {ps : List Nat} (h : Spo row lo xs ps) (hs : ∀ x ∈ row, x.natAbs < 2 ^ 200) : ∀ x ∈ xs, kn x = true ∧ Tx 300 1 x := fun x hx => by
  obtain ⟨i, hi, e⟩ := List.mem_iff_getElem.mp hx
  obtain ⟨h1, _, h3⟩ := h
  obtain ⟨y, hy, k1, k2⟩ := h3 i (by omega)
  have : y = x := by rw [List.getElem?_eq_getElem hi, e] at hy; exact (Option.some.inj hy).symm
  subst this
  by_cases z : i ∈ ps
  · exact ⟨(k1 z).2.1, (k1 z).2.2⟩
  · rw [k2 z]
    exact ⟨rfl, tx_int (hs _ (by rw [List.getD_eq_getElem?_getD, List.getElem?_eq_getElem (show i < row.length by omega)]; exact List.getElem_mem _))⟩

theorem ok_due {d e : D} {n : Nat} {h w : Option D} (hH : hC d n h) (hW : wC12 e n w) : okN 8 (dueD (vd h w)) = true := by
  have key : (h = none ∨ ∃ i : D, h = some i ∧ (i = .non ∨ ∃ j, i = .int j)) := by
    rcases hH with ⟨rfl, _⟩ | ⟨_, _, _, _, _, _, ⟨_, rfl⟩ | ⟨i, _, rfl⟩⟩
    · exact .inr ⟨_, rfl, .inl rfl⟩
    · exact .inl rfl
    · exact .inr ⟨_, rfl, .inr ⟨_, rfl⟩⟩
  have key2 : (w = none ∨ ∃ i : D, w = some i ∧ (i = .non ∨ ∃ j, i = .int j)) := by
    rcases hW with ⟨_, rfl⟩ | ⟨rfl, _⟩ | ⟨_, _, _, _, ⟨_, rfl⟩ | ⟨i, _, rfl⟩⟩
    · exact .inl rfl
    · exact .inr ⟨_, rfl, .inl rfl⟩
    · exact .inl rfl
    · exact .inr ⟨_, rfl, .inr ⟨_, rfl⟩⟩
  rcases key with rfl | ⟨i, rfl, rfl | ⟨j, rfl⟩⟩
  · rcases key2 with rfl | ⟨i, rfl, rfl | ⟨j, rfl⟩⟩
    · rfl
    · decide +kernel
    · have : PyData.strOk (Str.ofString "widths") = true := by decide +kernel
      show (PyData.strOk (Str.ofString "widths") && true) = true
      rw [this]; rfl
  · show (PyData.strOk (Str.ofString "heights") && true) = true
    have : PyData.strOk (Str.ofString "heights") = true := by decide +kernel
    rw [this]; rfl
  · show (PyData.strOk (Str.ofString "heights") && true) = true
    have : PyData.strOk (Str.ofString "heights") = true := by decide +kernel
    rw [this]; rfl
theorem same_due {x : D} (h : okN 8 x = true) : (!eqD x x) = false := by rw [eqD_refl 8 x h]; rfl
theorem whole_h {n : Nat} {d : D} (h : Whole 1 60 d) : hC d n (some .non) := .inl ⟨rfl, h.1, h.2.2.2⟩
theorem whole_w {n : Nat} {d : D} (h : Whole n n d) : wC12 d n (some .non) := by
  refine .inr (.inl ⟨rfl, h.1, h.2.1, ?_⟩)
  rcases h.2.2.2 with h | ⟨xs, h1, h2⟩
  · exact .inl h
  · exact .inr ⟨xs, h1, by omega⟩

theorem pl_law : ∀ ds S K ex, ds.length = 1 → C_law ds S K ex → rd_law { nx := fun _ S' => K .non S', rt := K, ex := fun x _ S' => ex x S' } (startD 11 ds) S := by
  rintro ds S K ex hn ⟨ns, rfl, hl, rfl, q⟩
  refine ⟨rfl, ns, rfl, hl, ?_⟩
  have hD : Dr 0 [some (.lst [.lst (intsD ns), .int 0, .int 0, .int 5])] := ⟨ns, 0, 0, 5, rfl⟩
  refine ⟨rfl, 0, rfl, hD, fun hs S1 okh d1 o1 => ?_⟩
  show rt_law_2 { nx := fun _ S' => K .non S', rt := K, ex := fun x _ S' => ex x S' } [.val (.scr ns), .val (.ref 0), .val (.lst (intsD hs)), .no, .no, .no, .no, .no, .no, .no, .no] S1
  show rt_law_3 { nx := fun _ S' => K .non S', rt := K, ex := fun x _ S' => ex x S' } [.val (.scr ns), .val (.ref 0), .val (.lst (intsD hs)), .val (.int ((intsD hs).length : Nat)), .no, .no, .no, .no, .no, .no, .no] S1
  rw [intsD_len]
  refine ⟨rfl, 0, hs.length, rfl, okh.2.1, d1, fun ws S2 okw d2 o2 => ?_⟩
  have e30 : (10 : Int) ^ (30 : Int).toNat = 1000000000000000000000000000000 := by decide
  have sh : ∀ x ∈ hs, x.natAbs < 2 ^ 200 := fun x hx => by have := okh.2.2 x hx; omega
  have sw : ∀ x ∈ ws, x.natAbs < 2 ^ 200 := fun x hx => by have := okw.2 x hx; omega
  have n1 := okh.1
  have n2 := okh.2.1
  have hgood : ∀ d, isLT d (intsD hs) → hC d hs.length none := fun d hd => .inr ⟨intsD hs, hd, intsD_len hs, n1, n2, kn_ints, .inl ⟨firstInv_ok 0 (fun x hx => okh.2.2 x hx), rfl⟩⟩
  have wgood : wC12 (.lst (intsD ws)) hs.length none := .inr (.inr ⟨intsD ws, .inl rfl, by rw [intsD_len]; exact okw.1, kn_ints, .inl ⟨firstInv_ok 0 (fun x hx => okw.2 x hx), rfl⟩⟩)
  have wnon : wC12 .non hs.length none := .inl ⟨rfl, rfl⟩
  have so0 : okN 8 (.tup []) = true := rfl
  -- the end
  have r14 : ∀ (a5 a6 a7 a8 a9 a10 : Sl) (S : Store), rt_law_14 { nx := fun _ S' => K .non S', rt := K, ex := fun x _ S' => ex x S' } [.val (.scr ns), .val (.ref 0), .val (.lst (intsD hs)), .val (.int (hs.length : Nat)), .val (.lst (intsD ws)), a5, a6, a7, a8, a9, a10] S := by
    intro a5 a6 a7 a8 a9 a10 S
    refine ⟨rfl, _, _, hs.length, none, none, rfl, hgood _ (.inl rfl), wgood, show 0 ≤ 1000000 by decide, rfl, rfl, brT rfl ?_⟩
    exact ⟨rfl, _, _, hs.length, none, none, rfl, hgood _ (.inr rfl), wnon, show 0 ≤ 1000000 by decide, rfl, rfl, q S⟩
  have r11 : ∀ (dH dW : D) (h w : Option D) (a6 a8 : Sl) (S : Store), hC dH hs.length h → wC12 dW hs.length w → Tx 300000 2 dH → Tx 300000 2 dW → rt_law_11 { nx := fun _ S' => K .non S', rt := K, ex := fun x _ S' => ex x S' } [.val (.scr ns), .val (.ref 0), .val (.lst (intsD hs)), .val (.int (hs.length : Nat)), .val (.lst (intsD ws)), .val dH, a6, .val dW, a8, .val (dueD (vd h w)), .no] S := by
    intro dH dW h w a6 a8 S hH hW ⟨tH, x1, x2, x3, x4⟩ ⟨tW, y1, y2, y3, y4⟩
    have txt : Txt 0 noCt S (.lst [dH, dW]) (listText [tH, tW]) := .lst (.cons (x1 S) (.cons (y1 S) .nil))
    have hlen : (listText [tH, tW]).length ≤ 1000000 := by
      have := len_list (n := 300000) (ts := [tH, tW]) (fun t ht => by
        rcases List.mem_cons.mp ht with rfl | ht
        · exact x2
        · rw [List.mem_singleton.mp ht]; exact y2)
      simp only [List.length_cons, List.length_nil] at this
      omega
    have hso : PyData.strOk (listText [tH, tW]) = true := sok_lst fun t ht => by
      rcases List.mem_cons.mp ht with rfl | ht
      · exact x4
      · rw [List.mem_singleton.mp ht]; exact y4
    have hhg : hgt (.lst [dH, dW]) ≤ 8 := by
      show max (hgt dH) (max (hgt dW) 0) + 1 ≤ 8
      omega
    have okd := ok_due hH hW
    generalize listText [tH, tW] = t at txt hlen hso
    refine ⟨show 2 ≤ 1000000 by decide, _, t, rfl, txt, hlen, hhg, ?_⟩
    refine ⟨rfl, dH, dW, hs.length, h, w, rfl, hH, hW, okd, okd, brF (same_due okd) ?_⟩
    refine ⟨show 2 ≤ 1000000 by decide, _, t, rfl, txt, hlen, hhg, hso, hso, brF (same_due (x := .str t) hso) ?_⟩
    show rt_law_13 { nx := fun _ S' => K .non S', rt := K, ex := fun x _ S' => ex x S' } [.val (.scr ns), .val (.ref 0), .val (.lst (intsD hs)), .val (.int (hs.length : Nat)), .val (.lst (intsD ws)), .val dH, a6, .val dW, a8, .val (dueD (vd h w)), .val (.str t)] S
    cases hv : vd h w with
    | none => exact ⟨show 0 ≤ 1000000 by decide, rfl, rfl, brF rfl (r14 _ _ _ _ _ _ S)⟩
    | some v =>
      rw [hv] at okd
      obtain ⟨b, i⟩ := v
      cases b with
      | true =>
        refine ⟨show 0 ≤ 1000000 by decide, okd, rfl, brT rfl ?_⟩
        refine ⟨_, rfl, by decide +kernel, by decide +kernel, brF (by decide +kernel) (r14 _ _ _ _ _ _ S)⟩
      | false =>
        refine ⟨show 0 ≤ 1000000 by decide, okd, rfl, brT rfl ?_⟩
        refine ⟨_, rfl, by decide +kernel, by decide +kernel, brT (by decide +kernel) ?_⟩
        have eh : h = some i := by
          cases h with
          | none =>
            cases w with
            | none => cases hv
            | some j => cases hv
          | some j => cases hv; rfl
        subst eh
        refine ⟨rfl, dH, .non, hs.length, some i, none, rfl, hH, wnon, okd, okd, brF (same_due okd) (r14 _ _ _ _ _ _ S)⟩
  have r10 : ∀ (dH dW : D) (h w : Option D) (a6 a8 : Sl) (S : Store), Dr 0 S → hC dH hs.length h → wC12 dW hs.length w → Tx 300000 2 dH → Tx 300000 2 dW → rt_law_10 { nx := fun _ S' => K .non S', rt := K, ex := fun x _ S' => ex x S' } [.val (.scr ns), .val (.ref 0), .val (.lst (intsD hs)), .val (.int (hs.length : Nat)), .val (.lst (intsD ws)), .val dH, a6, .val dW, a8, .val (dueD (vd h w)), .no] S := by
    intro dH dW h w a6 a8 S d hH hW xH xW
    refine ⟨rfl, 0, 5, rfl, d, by decide, small_log (by decide) (by decide), fun v S' v0 v1 d' o' => ⟨rfl, rfl, ?_⟩⟩
    refine br (fun _ => ?_) fun _ => r11 dH dW h w a6 a8 S' hH hW xH xW
    refine ⟨rfl, 0, hs, 1, 60, rfl, by decide, by decide, by decide, n1, sh, d', fun z S'' hz d'' o'' => ?_⟩
    refine ⟨show 5 ≤ 1000000 by decide, ?_⟩
    exact r11 z dW (some .non) w a6 a8 S'' (whole_h hz) hW hz.2.2.1 xW
  have r9 : ∀ (xs : List D) (ps : List Nat) (dW : D) (w : Option D) (a8 : Sl) (S : Store), Spo hs (-1000000000000000000000000000000) xs ps → Dr 0 S → wC12 dW hs.length w → Tx 300000 2 dW → rt_law_9 { nx := fun _ S' => K .non S', rt := K, ex := fun x _ S' => ex x S' } [.val (.scr ns), .val (.ref 0), .val (.lst (intsD hs)), .val (.int (hs.length : Nat)), .val (.lst (intsD ws)), .val (.lst xs), .val (.lst (natsD ps)), .val dW, a8, .val (dueD (vd none w)), .no] S := by
    intro xs ps dW w a8 S hsp d hW xW
    have xH : Tx 300000 2 (.lst xs) := tx_mono (tx_lst fun x hx => (spo_mem hsp sh x hx).2) (by rw [hsp.1]; omega) (by decide)
    cases ps with
    | nil =>
      refine ⟨show 0 ≤ 1000000 by decide, rfl, rfl, brF rfl ?_⟩
      rw [spo_same hsp] at xH ⊢
      exact r10 _ dW none w _ a8 S d (hgood _ (.inl rfl)) hW xH xW
    | cons p ps =>
      have okp : okN 8 (.lst (natsD (p :: ps))) = true := by
        have : natsD (p :: ps) = intsD ((p :: ps).map fun (z : Nat) => (z : Int)) := by unfold natsD intsD; rw [List.map_map]; rfl
        rw [this]
        exact okNs_ints 7 _
      refine ⟨show 0 ≤ 1000000 by decide, okp, rfl, brT rfl ?_⟩
      refine ⟨rfl, p, ps, rfl, show 5 ≤ 1000000 by decide, ?_⟩
      exact r10 _ dW (some (.int ((ps.foldl min p : Nat) : Int))) w _ a8 S d (.inr ⟨xs, .inl rfl, hsp.1, n1, n2, fun x hx => (spo_mem hsp sh x hx).1, .inr ⟨_, spo_first hsp (fun x hx => okh.2.2 x hx), rfl⟩⟩) hW xH xW
  have r8 : ∀ (xs : List D) (ps : List Nat) (dW : D) (w : Option D) (a8 : Sl) (S : Store), Spo hs (-1000000000000000000000000000000) xs ps → Dr 0 S → wC12 dW hs.length w → Tx 300000 2 dW → rt_law_8 { nx := fun _ S' => K .non S', rt := K, ex := fun x _ S' => ex x S' } [.val (.scr ns), .val (.ref 0), .val (.lst (intsD hs)), .val (.int (hs.length : Nat)), .val (.lst (intsD ws)), .val (.lst xs), .val (.lst (natsD ps)), .val dW, a8, .val (dueD (vd none w)), .no] S := by
    intro xs ps dW w a8 S hsp d hW xW
    refine ⟨rfl, 0, 5, rfl, d, by decide, small_log (by decide) (by decide), fun v S' v0 v1 d' o' => ⟨rfl, rfl, ?_⟩⟩
    refine br (fun _ => ?_) fun _ => r9 xs ps dW w a8 S' hsp d' hW xW
    refine ⟨rfl, 0, ws, hs.length, hs.length, rfl, n1, n2, n2, by rw [okw.1]; exact n1, sw, d', fun z S'' hz d'' o'' => ?_⟩
    refine ⟨show 5 ≤ 1000000 by decide, ?_⟩
    exact r9 xs ps z (some .non) a8 S'' hsp d'' (whole_w hz) hz.2.2.1
  refine ⟨⟨by decide, by decide, show (10 : Int).natAbs < 2 ^ 64 by decide⟩, rfl, 0, hs, -1000000000000000000000000000000, by rw [e30]; rfl, n1, n2, d2, by decide, by decide, fun xs ps S3 hsp d3 o3 => ?_⟩
  refine ⟨rfl, ?_⟩
  refine ⟨rfl, 0, ws, 1, rfl, by rw [okw.1]; exact n1, by rw [okw.1]; exact n2, d3, by decide, by decide, fun ys qs S4 wsp d4 o4 => ?_⟩
  refine ⟨rfl, ?_⟩
  refine ⟨show 0 ≤ 1000000 by decide, ?_⟩
  have xW : Tx 300000 2 (.lst ys) := tx_mono (tx_lst fun x hx => (spo_mem wsp sw x hx).2) (by rw [wsp.1, okw.1]; omega) (by decide)
  cases qs with
  | nil =>
    refine ⟨show 0 ≤ 1000000 by decide, rfl, rfl, brF rfl ?_⟩
    rw [spo_same wsp] at xW ⊢
    exact r8 xs ps _ none _ S4 hsp d4 wgood xW
  | cons p qs =>
    have okp : okN 8 (.lst (natsD (p :: qs))) = true := by
      have : natsD (p :: qs) = intsD ((p :: qs).map fun (z : Nat) => (z : Int)) := by unfold natsD intsD; rw [List.map_map]; rfl
      rw [this]
      exact okNs_ints 7 _
    refine ⟨show 0 ≤ 1000000 by decide, okp, rfl, brT rfl ?_⟩
    refine ⟨rfl, p, qs, rfl, show 5 ≤ 1000000 by decide, ?_⟩
    exact r8 xs ps _ (some (.int ((qs.foldl min p : Nat) : Int))) _ S4 hsp d4 (.inr (.inr ⟨ys, .inl rfl, by rw [wsp.1]; exact okw.1, fun x hx => (spo_mem wsp sw x hx).1, .inr ⟨_, spo_first wsp (fun x hx => okw.2 x hx), rfl⟩⟩)) xW

theorem ok_law_draws {P : Program} {w : World} {K : Fr} {mg : Str → Option Value} {base h : Heap} (c : Told fa fn K) (hX : K.In h) (G : h.Ns mainGlobals mg)  : CalL P w mg base (sg K) 1 "_law_draws" 1 C_law_draws := by
  obtain ⟨fd, F⟩ := c.fun_ 0 (d := d_law_draws) rfl
  exact ⟨⟨_, He.glo_ok hX G (c.fact 31), F.kp, raw0 (def_okL (g := sg K) F sc_law_draws (der_law_draws c hX G ) pl_law_draws) (F.bindsN fun _ _ _ _ _ _ us hl => match us, hl with | [_], _ => rfl)⟩⟩
theorem ok_law_draw {P : Program} {w : World} {K : Fr} {mg : Str → Option Value} {base h : Heap} (c : Told fa fn K) (hX : K.In h) (G : h.Ns mainGlobals mg)  : Cal P w mg base (sg K) 1 "_law_draw" 2 C_law_draw := by
  obtain ⟨fd, F⟩ := c.fun_ 1 (d := d_law_draw) rfl
  exact ⟨⟨_, He.glo_ok hX G (c.fact 32), F.kp, raw0 (def_ok (g := sg K) F sc_law_draw (der_law_draw c hX G ) pl_law_draw) (F.bindsN fun _ _ _ _ _ _ us hl => match us, hl with | [_, _], _ => rfl)⟩⟩
theorem ok_law_heights {P : Program} {w : World} {K : Fr} {mg : Str → Option Value} {base h : Heap} (c : Told fa fn K) (hX : K.In h) (G : h.Ns mainGlobals mg) (F_law_draw : Cal P w mg base (sg K) 1 "_law_draw" 2 C_law_draw) : CalL P w mg base (sg K) 2 "_law_heights" 1 C_law_heights := by
  obtain ⟨fd, F⟩ := c.fun_ 2 (d := d_law_heights) rfl
  exact ⟨⟨_, He.glo_ok hX G (c.fact 33), F.kp, raw0 (def_okL (g := sg K) F sc_law_heights (der_law_heights c hX G F_law_draw) pl_law_heights) (F.bindsN fun _ _ _ _ _ _ us hl => match us, hl with | [_], _ => rfl)⟩⟩
theorem ok_law_widths {P : Program} {w : World} {K : Fr} {mg : Str → Option Value} {base h : Heap} (c : Told fa fn K) (hX : K.In h) (G : h.Ns mainGlobals mg) (F_law_draw : Cal P w mg base (sg K) 1 "_law_draw" 2 C_law_draw) : CalL P w mg base (sg K) 2 "_law_widths" 2 C_law_widths := by
  obtain ⟨fd, F⟩ := c.fun_ 3 (d := d_law_widths) rfl
  exact ⟨⟨_, He.glo_ok hX G (c.fact 34), F.kp, raw0 (def_okL (g := sg K) F sc_law_widths (der_law_widths c hX G F_law_draw) pl_law_widths) (F.bindsN fun _ _ _ _ _ _ us hl => match us, hl with | [_, _], _ => rfl)⟩⟩
theorem ok_law_odd {P : Program} {w : World} {K : Fr} {mg : Str → Option Value} {base h : Heap} (c : Told fa fn K) (hX : K.In h) (G : h.Ns mainGlobals mg) (F_law_draw : Cal P w mg base (sg K) 1 "_law_draw" 2 C_law_draw) : Cal P w mg base (sg K) 2 "_law_odd" 2 C_law_odd := by
  obtain ⟨fd, F⟩ := c.fun_ 4 (d := d_law_odd) rfl
  exact ⟨⟨_, He.glo_ok hX G (c.fact 35), F.kp, raw0 (def_ok (g := sg K) F sc_law_odd (der_law_odd c hX G F_law_draw) pl_law_odd) (F.bindsN fun _ _ _ _ _ _ us hl => match us, hl with | [_, _], _ => rfl)⟩⟩
theorem ok_law_spoilt {P : Program} {w : World} {K : Fr} {mg : Str → Option Value} {base h : Heap} (c : Told fa fn K) (hX : K.In h) (G : h.Ns mainGlobals mg) (F_law_draw : Cal P w mg base (sg K) 1 "_law_draw" 2 C_law_draw) (F_law_odd : Cal P w mg base (sg K) 2 "_law_odd" 2 C_law_odd) : Cal P w mg base (sg K) 3 "_law_spoilt" 3 C_law_spoilt := by
  obtain ⟨fd, F⟩ := c.fun_ 5 (d := d_law_spoilt) rfl
  exact ⟨⟨_, He.glo_ok hX G (c.fact 36), F.kp, raw0 (def_ok (g := sg K) F sc_law_spoilt (der_law_spoilt c hX G F_law_draw F_law_odd) pl_law_spoilt) (F.bindsN fun _ _ _ _ _ _ us hl => match us, hl with | [_, _, _], _ => rfl)⟩⟩
theorem ok_law_first {P : Program} {w : World} {K : Fr} {mg : Str → Option Value} {base h : Heap} (c : Told fa fn K) (hX : K.In h) (G : h.Ns mainGlobals mg)  : Cal P w mg base (sg K) 1 "_law_first" 1 C_law_first := by
  obtain ⟨fd, F⟩ := c.fun_ 6 (d := d_law_first) rfl
  exact ⟨⟨_, He.glo_ok hX G (c.fact 37), F.kp, raw0 (def_ok (g := sg K) F sc_law_first (der_law_first c hX G ) pl_law_first) (F.bindsN fun _ _ _ _ _ _ us hl => match us, hl with | [_], _ => rfl)⟩⟩
theorem ok_law_whole {P : Program} {w : World} {K : Fr} {mg : Str → Option Value} {base h : Heap} (c : Told fa fn K) (hX : K.In h) (G : h.Ns mainGlobals mg) (F_law_draw : Cal P w mg base (sg K) 1 "_law_draw" 2 C_law_draw) : Cal P w mg base (sg K) 2 "_law_whole" 4 C_law_whole := by
  obtain ⟨fd, F⟩ := c.fun_ 7 (d := d_law_whole) rfl
  exact ⟨⟨_, He.glo_ok hX G (c.fact 38), F.kp, raw0 (def_ok (g := sg K) F sc_law_whole (der_law_whole c hX G F_law_draw) pl_law_whole) (F.bindsN fun _ _ _ _ _ _ us hl => match us, hl with | [_, _, _, _], _ => rfl)⟩⟩
theorem ok_is_row {P : Program} {w : World} {K : Fr} {mg : Str → Option Value} {base h : Heap} (c : Told fa fn K) (hX : K.In h) (G : h.Ns mainGlobals mg)  : Cal P w mg base (sg K) 1 "is_row" 1 C_is_row := by
  obtain ⟨fd, F⟩ := c.fun_ 8 (d := d_is_row) rfl
  exact ⟨⟨_, He.glo_ok hX G (c.fact 39), F.kp, raw0 (def_ok (g := sg K) F sc_is_row (der_is_row c hX G ) pl_is_row) (F.bindsN fun _ _ _ _ _ _ us hl => match us, hl with | [_], _ => rfl)⟩⟩
theorem ok_is_integer {P : Program} {w : World} {K : Fr} {mg : Str → Option Value} {base h : Heap} (c : Told fa fn K) (hX : K.In h) (G : h.Ns mainGlobals mg)  : Cal P w mg base (sg K) 1 "is_integer" 1 C_is_integer := by
  obtain ⟨fd, F⟩ := c.fun_ 9 (d := d_is_integer) rfl
  exact ⟨⟨_, He.glo_ok hX G (c.fact 40), F.kp, raw0 (def_ok (g := sg K) F sc_is_integer (der_is_integer c hX G ) pl_is_integer) (F.bindsN fun _ _ _ _ _ _ us hl => match us, hl with | [_], _ => rfl)⟩⟩
theorem ok_is_between {P : Program} {w : World} {K : Fr} {mg : Str → Option Value} {base h : Heap} (c : Told fa fn K) (hX : K.In h) (G : h.Ns mainGlobals mg) (F_is_integer : Cal P w mg base (sg K) 1 "is_integer" 1 C_is_integer) : Cal P w mg base (sg K) 2 "is_between" 3 C_is_between := by
  obtain ⟨fd, F⟩ := c.fun_ 10 (d := d_is_between) rfl
  exact ⟨⟨_, He.glo_ok hX G (c.fact 41), F.kp, raw0 (def_ok (g := sg K) F sc_is_between (der_is_between c hX G F_is_integer) pl_is_between) (F.bindsN fun _ _ _ _ _ _ us hl => match us, hl with | [_, _, _], _ => rfl)⟩⟩
theorem ok_first_invalid {P : Program} {w : World} {K : Fr} {mg : Str → Option Value} {base h : Heap} (c : Told fa fn K) (hX : K.In h) (G : h.Ns mainGlobals mg) (F_is_between : Cal P w mg base (sg K) 2 "is_between" 3 C_is_between) : Cal P w mg base (sg K) 3 "first_invalid" 3 C_first_invalid := by
  obtain ⟨fd, F⟩ := c.fun_ 11 (d := d_first_invalid) rfl
  exact ⟨⟨_, He.glo_ok hX G (c.fact 42), F.kp, raw0 (def_ok (g := sg K) F sc_first_invalid (der_first_invalid c hX G F_is_between) pl_first_invalid) (F.bindsN fun _ _ _ _ _ _ us hl => match us, hl with | [_, _, _], _ => rfl)⟩⟩
theorem ok_Profile__init_1 {P : Program} {w : World} {K : Fr} {mg : Str → Option Value} {base h : Heap} (c : Told fa fn K) (hX : K.In h) (G : h.Ns mainGlobals mg) (F_is_row : Cal P w mg base (sg K) 1 "is_row" 1 C_is_row) (F_first_invalid : Cal P w mg base (sg K) 3 "first_invalid" 3 C_first_invalid) : Mak P w mg base (sg K) 4 "Profile" 1 1 C_Profile__init_1 := by
  obtain ⟨fd, F⟩ := c.fun_ 12 (d := d_Profile__init) rfl
  obtain ⟨ds, hv, hb⟩ := F.binds1 (ps := ["self", "heights", "widths"]) 2 0 (by decide) (by decide) fun _ _ _ _ _ _ _ us its hl hi => match us, its, hl, hi with | [_, _], [_], _, _ => ⟨_, rfl, rfl⟩
  exact ⟨⟨_, He.glo_ok hX G (c.fact 44), He.mkr_ok (c.fact 43), dflI (dd := [.non]) (fun _ => .cons (.non) .nil) pd_Profile__init_1 rfl ((init_ok (g := sg K) F sc_Profile__init (der_Profile__init c hX G F_is_row F_first_invalid) pl_Profile__init (by decide)).raw hb hv)⟩⟩
theorem ok_Profile__init {P : Program} {w : World} {K : Fr} {mg : Str → Option Value} {base h : Heap} (c : Told fa fn K) (hX : K.In h) (G : h.Ns mainGlobals mg) (F_is_row : Cal P w mg base (sg K) 1 "is_row" 1 C_is_row) (F_first_invalid : Cal P w mg base (sg K) 3 "first_invalid" 3 C_first_invalid) : Mak P w mg base (sg K) 4 "Profile" 1 2 C_Profile__init := by
  obtain ⟨fd, F⟩ := c.fun_ 12 (d := d_Profile__init) rfl
  obtain ⟨ds, hv, hb⟩ := F.binds1 (ps := ["self", "heights", "widths"]) 3 1 (by decide) (by decide) fun _ _ _ _ _ _ _ us its hl hi => match us, its, hl, hi with | [_, _, _], [_], _, _ => ⟨_, rfl, rfl⟩
  exact ⟨⟨_, He.glo_ok hX G (c.fact 44), He.mkr_ok (c.fact 43), dfl0 ((init_ok (g := sg K) F sc_Profile__init (der_Profile__init c hX G F_is_row F_first_invalid) pl_Profile__init (by decide)).raw hb hv)⟩⟩
theorem ok_law_made {P : Program} {w : World} {K : Fr} {mg : Str → Option Value} {base h : Heap} (c : Told fa fn K) (hX : K.In h) (G : h.Ns mainGlobals mg) (F_Profile__init : Mak P w mg base (sg K) 4 "Profile" 1 2 C_Profile__init) : Cal P w mg base (sg K) 6 "_law_made" 2 C_law_made := by
  obtain ⟨fd, F⟩ := c.fun_ 13 (d := d_law_made) rfl
  exact ⟨⟨_, He.glo_ok hX G (c.fact 45), F.kp, raw0 (def_ok (g := sg K) F sc_law_made (der_law_made c hX G F_Profile__init) pl_law_made) (F.bindsN fun _ _ _ _ _ _ us hl => match us, hl with | [_, _], _ => rfl)⟩⟩
abbrev R : PySem.W.OpenRow := PySem.W.OpenLaw.row PySem.Challenge.rw_rainvalleys_k12_invalid_profiles
abbrev hk : PySem.W.Hook := hookR 7 fa fn
def ob (s : PySem.W.SharedT) : Obs := obsT 7 fa fn s
theorem ob_eq (s : PySem.W.SharedT) : ob s = hk.obs s.abs := obsT_eq s
def loose : List Str := (["_wall", "__name__", "RainError", "InvalidProfile", "InvalidWidths", "LimitExceeded", "is_integer", "MAX_COLUMNS", "MAX_SIZE", "is_between", "is_row", "first_invalid", "Profile", "_law_draws", "_law_draw", "_law_heights", "_law_widths", "_law_made", "_law_odd", "_law_spoilt"] : List Str) ++ (["_law_first", "_law_whole"] : List Str)
theorem run (w : World) : HandSHeadRun.RunEq R (PySem.W.view R.prog [25]) hk ob 20000 loose w := by
  intro os
  kernel_rfl
theorem facts {w : World} {K : Fr} {mg : Str → Option Value} {h : Heap} {f : Addr} (c : Told fa fn K) (hX : K.In h) (G : h.Ns mainGlobals mg) (hf : mg ("law" : Str) = some (.ref f)) :
    ∃ fd : FuncData, (∀ (s : Shared) (u : Value), BindsTo s fd ⟨[u], []⟩ [("_law_script", u)]) ∧ ∀ base : Heap, R3.FnOk PySem.Challenge.pw_rainvalleys_k12_invalid_profiles w (sg K).K mg base (L2.CX PySem.Challenge.pw_rainvalleys_k12_invalid_profiles w) 21 f fd ["_law_script"] (spOf (sg K) 1 C_law) := by
  obtain ⟨fd, F⟩ := c.fun_ 14 (d := d_law) rfl
  have e := hf.symm.trans (He.glo_ok hX G (c.fact 46))
  cases e
  have b := FunD.bindsA (ps := ["_law_script"]) F fun _ _ _ _ _ _ us hl => match us, hl with | [_], _ => rfl
  refine ⟨fd, fun s u => b s [u] rfl, fun base => ?_⟩
  have F_law_draws := ok_law_draws (P := PySem.Challenge.pw_rainvalleys_k12_invalid_profiles) (w := w) (base := base) c hX G 
  have F_law_draw := ok_law_draw (P := PySem.Challenge.pw_rainvalleys_k12_invalid_profiles) (w := w) (base := base) c hX G 
  have F_law_heights := ok_law_heights (P := PySem.Challenge.pw_rainvalleys_k12_invalid_profiles) (w := w) (base := base) c hX G F_law_draw
  have F_law_widths := ok_law_widths (P := PySem.Challenge.pw_rainvalleys_k12_invalid_profiles) (w := w) (base := base) c hX G F_law_draw
  have F_law_odd := ok_law_odd (P := PySem.Challenge.pw_rainvalleys_k12_invalid_profiles) (w := w) (base := base) c hX G F_law_draw
  have F_law_spoilt := ok_law_spoilt (P := PySem.Challenge.pw_rainvalleys_k12_invalid_profiles) (w := w) (base := base) c hX G F_law_draw F_law_odd
  have F_law_first := ok_law_first (P := PySem.Challenge.pw_rainvalleys_k12_invalid_profiles) (w := w) (base := base) c hX G 
  have F_law_whole := ok_law_whole (P := PySem.Challenge.pw_rainvalleys_k12_invalid_profiles) (w := w) (base := base) c hX G F_law_draw
  have F_is_row := ok_is_row (P := PySem.Challenge.pw_rainvalleys_k12_invalid_profiles) (w := w) (base := base) c hX G 
  have F_is_integer := ok_is_integer (P := PySem.Challenge.pw_rainvalleys_k12_invalid_profiles) (w := w) (base := base) c hX G 
  have F_is_between := ok_is_between (P := PySem.Challenge.pw_rainvalleys_k12_invalid_profiles) (w := w) (base := base) c hX G F_is_integer
  have F_first_invalid := ok_first_invalid (P := PySem.Challenge.pw_rainvalleys_k12_invalid_profiles) (w := w) (base := base) c hX G F_is_between
  have F_Profile__init := ok_Profile__init (P := PySem.Challenge.pw_rainvalleys_k12_invalid_profiles) (w := w) (base := base) c hX G F_is_row F_first_invalid
  have F_law_made := ok_law_made (P := PySem.Challenge.pw_rainvalleys_k12_invalid_profiles) (w := w) (base := base) c hX G F_Profile__init
  exact def_ok (g := sg K) F sc_law (der_law c hX G F_law_draws F_law_heights F_law_widths F_law_spoilt F_law_first F_law_draw F_law_whole F_law_made) pl_law
end Row
open PySem PySem.W PySem.Calls PyProof.Rows
theorem PySem.Challenge.cw_rainvalleys_k12_invalid_profiles_holds : PySem.Challenge.rw_rainvalleys_k12_invalid_profiles.Holds := by
  w_on; o_law
  refine HandSHeadRun.head_any (r := OpenLaw.row PySem.Challenge.rw_rainvalleys_k12_invalid_profiles) (q := view (OpenLaw.row PySem.Challenge.rw_rainvalleys_k12_invalid_profiles).prog [25]) (H := Row.hk) (ob := Row.ob) (M := 20000) (loose := Row.loose)
    (d := HandSHeadRun.topDef (OpenLaw.row PySem.Challenge.rw_rainvalleys_k12_invalid_profiles).prog 25) (kwd := []) Row.ob_eq (by kernel_rfl) (fun s => by kernel_rfl) Row.run
    (by kernel_rfl) (by kernel_rfl) (by kernel_rfl) (by rfl) (by first | assumption | decide +kernel) (by decide +kernel) ⟨rfl, rfl, rfl, rfl, rfl, by decide +kernel⟩ ?hw ?hc
  case hw => w_witness2
  case hc =>
    refine R3.walk_ofR (l := PySem.Challenge.rw_rainvalleys_k12_invalid_profiles) (n := 63) (k := 21) (x := "_law_script") (C := Row.C_law) (g := Row.sg) (fun _ => rfl) rfl (by decide) (by kernel_rfl) ⟨rfl, by decide, by decide⟩ (fun ns hl hb => Row.law_start ns hl hb) ?F
    intro w mg fa h Y G hmg0
    obtain ⟨K, KX, c⟩ := Y
    have hmg : mg ("law" : PySem.Str) = some (.ref fa) := by
      have e : (HandSHeadRun.topDef (OpenLaw.row PySem.Challenge.rw_rainvalleys_k12_invalid_profiles).prog 25).name = ("law" : PySem.Str) := by kernel_rfl
      rw [← e]
      exact hmg0
    obtain ⟨fd, hb, hF⟩ := Row.facts (w := w) c KX G hmg
    exact ⟨K, fd, KX, hb, hF⟩
