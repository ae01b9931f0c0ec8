import PyProof.Rows.All
import Wide.All
import OpenK.AllK
import Wide.FinOn
import HandS.ForMost
import HandS.ForExc
import HandS.Wide
import HandS.IsInst
import HandS.Property
import HandS.Defaults
import HandS.More
import HandS.Walk
import HandS.ExcInit
import HandS.FStr
import HandS.Flow
import HandS.ExcCtx
import HandS.SuiteRaise
import HandS.RaiseFrom
import HandS.Star
import HandS.Style
import HandS.TupMul
import KE.KStateDown
import HandS.Ends
import HandS.Words
import HandS.WordsExc
import HandS.Head0
import HandS.Head1
import HandS.Head2
import HandS.HeadEnd
import HandS.HeadHook1
import HandS.HeadHook2
import HandS.Zip
import KE.GoesMore
import KE.GoesEnum
import HandS.SlotsOwn
import HandS.EndBits
import HandS.ExcField
import HandS.ExcIs
import KE.KExcInit
import PyProof.ReprRoads
import KE.KOpsOwn
import KE.KCallOwn
import HandS.Deep
import HandS.TupLe
import HandS.HotCalls
import HandS.MakeKw
import PyProof.InstNe
import KE.KDictZip
import KE.KItemsList
import HandS.ListItems
import HandS.TupAny
import KE.GoesZip
import HandS.ListEq
import KE.KEqNest
import PyProof.EqLayable
import HandS.Head3
import KE.KUnpackStar
import HandS.TryOnly
import HandS.Text
import HandS.StrMore
import HandS.Codes
import HandS.ClsMeth
import PyProof.Rows.StrOr
import PyProof.Rows.Digits
import KE.IntText
import KE.KIntText
import HandS.HeadNt
import PySem.Challenge.RW_rainvalleys_k90_error_classes
set_option Elab.async false
set_option linter.all false
set_option maxRecDepth 100000
set_option maxHeartbeats 0
namespace R3
open PySem PySem.Spec PyProof.Rows L2
/-- room for a call, and no guard stands -/
structure Room (k : Nat) (A : Around) : Prop extends L2.Room k A where
  gd : A.guards = some []
theorem Room.mono {j k : Nat} {A : Around} (r : Room k A) (h : j ≤ k) : Room j A := ⟨r.toRoom.mono h, r.gd⟩
theorem Room.deeper {k : Nat} {A : Around} (r : Room (k + 1) A) (env : PySem.Env) : Room k (A.deeper env) := ⟨r.toRoom.deeper env, r.gd⟩
theorem Room.in1 {k : Nat} {A : Around} (r : Room (k + 1) A) : Room k A.in1 := ⟨r.toRoom.in1, r.gd⟩
theorem Room.depth {k : Nat} {A : Around} (r : Room k A) : A.depth < recursionLimit := r.toRoom.depth
theorem Room.units {k : Nat} {A : Around} (r : Room k A) : A.units + 64 < cLine := r.toRoom.units
/-- a def's promise by positional values -/
def FnR (P : Program) (w : World) (K : PySem.W.Frag) (mg : Str → Option Value) (base : Heap) (CX : CXT) (k : Nat) (f : Addr) (sp : Sp) : Prop :=
  ∀ (A : Around) (outer : List PySem.Env) (s : Shared) (H : Hp) (us : List Value) (vs : List V) (Q : VK) (E : XK), Room k A → Env0 P w K mg base A outer s H → Vals vs us → sp vs H Q E → codeAny (model P w) A (.call (.ref f) ⟨us, []⟩) (CR CX outer P w H s Q E) s
structure FnOk (P : Program) (w : World) (K : PySem.W.Frag) (mg : Str → Option Value) (base : Heap) (CX : CXT) (k : Nat) (f : Addr) (fd : FuncData) (ps : List Str) (sp : Sp) : Prop where
  len : ∀ vs H Q E, sp vs H Q E → vs.length = ps.length
  run : ∀ (A : Around) (outer : List PySem.Env) (s : Shared) (H : Hp) (args : Args) (us : List Value) (vs : List V) (Q : VK) (E : XK), Room k A → Env0 P w K mg base A outer s H → BindsTo s fd args (ps.zip us) → Vals vs us → sp vs H Q E → codeAny (model P w) A (.call (.ref f) args) (CR CX outer P w H s Q E) s
section
variable {P : Program} {w : World} {K : PySem.W.Frag} {mg : Str → Option Value} {base : Heap} {CX : CXT} {j k : Nat} {f : Addr} {fd : FuncData} {ps : List Str} {sp sp' : Sp}
theorem FnR.mono (F : FnR P w K mg base CX j f sp) (h : j ≤ k) : FnR P w K mg base CX k f sp := fun A outer s H us vs Q E hr => F A outer s H us vs Q E (hr.mono h)
theorem FnR.imp (F : FnR P w K mg base CX k f sp) (h : ∀ vs H Q E, sp' vs H Q E → sp vs H Q E) : FnR P w K mg base CX k f sp' := fun A outer s H us vs Q E hr e0 r hs => F A outer s H us vs Q E hr e0 r (h _ _ _ _ hs)
/-- a def by its body -/
theorem FunD.ok {x qual : Str} {params : Arguments} {body : List Stmt} {scope : Scope} {dvs : List V} {kws : List (Str × V)} {N : List Str} (F : FunD K x qual params body scope dvs kws f fd) (S : FnScope N ps scope) (len : ∀ vs H Q E, sp vs H Q E → vs.length = ps.length)
    (hbody : ∀ (cdv : Value) (A : Around) (outer : List PySem.Env) (s : Shared) (H : Hp) (vs : List V) (Q : VK) (E : XK), Room k (A.deeper (envOfC qual scope s.heap.objs.size f cdv)) → sp vs H Q E →
      ∃ t, PSs (cxOf CX P w K mg base N qual scope f cdv A outer s H E) body t ∧ t { nx := fun _ H' => Q .non H', rt := Q } (start N vs) H) : FnOk P w K mg base CX (k + 1) f fd ps sp := by
  obtain ⟨oc, od, dV, kV, doc, pm, an, cdv, ct, osl, rfl, lk, hcd, _, _⟩ := F.ex
  refine ⟨len, fun A outer s H args us vs Q E hr e0 hb r hsp => ?_⟩
  have KX : K.In s.heap := e0.mod.kin.keeps fun b o e => (e0.bs b o e).1
  have kinds : ∀ y ∈ ps.zip us, scope.names.lookup y.1 = some .local ∨ (scope.names.lookup y.1 = some .cell ∧ ((cellsFrom (s.heap.objs.size + 1) scope.names []).lookup y.1).isSome = true) := fun ⟨n, v⟩ hy =>
    (S.par n (List.of_mem_zip hy).1).imp id fun q => ⟨q, PySem.W.cellsFrom_some _ _ _ (.inl q)⟩
  refine codeAny_call_function hr.depth (KX _ _ lk) rfl S.co S.gen rfl (PySem.W.codeRec_of KX hcd) (hb _ _ _ _ ?_)
  refine wpAny_newFunctionEnv_cells S.kind kinds fun env he s1 x => ?_
  subst he
  refine ⟨(e0.mod.nolimit.keeps fun b o e => (e0.bs b o e).1).keeps x.toInCall.keep, codeAny_func ?_⟩
  obtain ⟨t, ht, hq⟩ := hbody cdv A outer s H vs Q E (hr.deeper _) hsp
  have I : Inv (cxOf CX P w K mg base N qual scope f cdv A outer s H E) [] (start N vs) H s1 := inv_start S hr.hd e0 (len _ _ _ _ hsp) r x
  refine wpAny_mono (ht.run [] s1 (start N vs) H _ I hq) (fun fl s' hs => ?_) fun e s' hs => hs
  have fin : ∀ {σ' : L2.St} {H' : Hp} {v : V} {u : Value}, Inv (cxOf CX P w K mg base N qual scope f cdv A outer s H E) [] σ' H' s' → RelV v u → Q v H' → CE outer P w H s Q u s' := fun {σ' H' v u} J rv q => ⟨v, H', J.os, J.bare, J.base, J.hok, rv, q⟩
  cases fl with
  | ret u => obtain ⟨v, σ', H', J, rv, q⟩ := hs; exact fin J rv q
  | next => obtain ⟨σ', H', J, q⟩ := hs; exact fin (v := V.non) (u := Value.none) J rfl q
  | brk => obtain ⟨_, _, _, q⟩ := hs; exact q.elim
  | cont => obtain ⟨_, _, _, q⟩ := hs; exact q.elim
end
/-- the law's call -/
theorem law_callG {P : Program} {w : World} {K : PySem.W.Frag} {mg mb : Str → Option Value} {CX : CXT} {k : Nat} {fa a : Addr} {fd : FuncData} {x : Str} {sp : Sp} {s1 : Shared} {vs : List Value} {ns : List Int}
    (KX : K.In s1.heap) (hns : s1.heap.Ns mainGlobals mg) (hb : s1.heap.Ns builtinsNs mb) (hbb : ∀ x : Str, x ≠ "__name__" → mb x = bootBuiltins x) (hlim : s1.heap.NoLimit) (hg : s1.gens = #[])
    (ha : s1.heap.get? a = some { cls := .type "list", data := .seq vs.toArray }) (hi : IntsAre vs ns) (hl : ns.length ≤ sizeLine) (hr : L2.Room k callerA)
    (F : ∀ base : Heap, FnOk P w K mg base CX k fa fd [x] sp) (hbind : ∀ (s : Shared) (u : Value), BindsTo s fd ⟨[u], []⟩ [(x, u)])
    (hsp : ∀ H : Hp, Only H → SqL K H a (ns.map V.int) → sp [.ref a] H (fun v _ => v = .bl true) fun _ _ _ => False) (hCX : ∀ H e s', CX [] H s1 (fun _ _ _ => False) e s' → False) :
    codeAny (model P w) callerA (.call (.ref fa) ⟨[.ref a], []⟩) (fun r s' => r = .ok (.ret (.bool true)) ∧ OldK s1.heap s'.heap ∧ s'.os = s1.os ∧ AllBare s'.gens) s1 := by
  have core : ∀ H : Hp, Only H → SqL K H a (ns.map V.int) → HOk P w H s1.heap → (∀ b, H b ≠ none → b = a) → (H a ≠ none → K.lookup a = none) →
      codeAny (model P w) callerA (.call (.ref fa) ⟨[.ref a], []⟩) (fun r s' => r = .ok (.ret (.bool true)) ∧ OldK s1.heap s'.heap ∧ s'.os = s1.os ∧ AllBare s'.gens) s1 := by
    intro H only hS hok alone hK
    have noDict : ∀ {b : Addr} {o : Obj} {es : Array DictEntry} {ep : Nat}, s1.heap.get? b = some o → o.data = .dict es ep → H b = none := fun {b o es ep} e d => Classical.byContradiction fun q => by
      have e' := alone b q
      subst e'
      rw [ha] at e; cases e
      cases (show Data.seq vs.toArray _ = Data.dict es ep from d)
    have nsK : ∀ {b : Addr} {m : Str → Option Value}, s1.heap.Ns b m → (hidT s1.heap H).Ns b m := fun {b m} ⟨o, es, ep, e, d, r⟩ => ⟨o, es, ep, hidT_get e (noDict e d), d, r⟩
    have hKb : K.In (hidT s1.heap H) := fun b o e => hidT_get (KX b o e) (Classical.byContradiction fun q => by
      have e' := alone b q
      subst e'
      rw [hK q] at e; cases e)
    have hM : Mod K mg (hidT s1.heap H) := ⟨hKb, nsK hns, ⟨mb, nsK hb, hbb⟩, let ⟨mc, h1, h2⟩ := hlim; ⟨mc, nsK h1, h2⟩⟩
    have e0 : Env0 P w K mg (hidT s1.heap H) callerA [] s1 H := ⟨rfl, hM, fun b o e => of_hidT e, Nat.le_of_eq (hidT_size _ _), trivial, fun b z => absurd (show b ∈ ([] : List Addr) from z) (by simp), hok, .of_eq hg⟩
    refine codeAny_mono ((F (hidT s1.heap H)).run callerA [] s1 H ⟨[.ref a], []⟩ [.ref a] [.ref a] _ _ ⟨hr, rfl⟩ e0 (hbind s1 (.ref a)) (.cons rfl .nil) (hsp H only hS)) fun r s' h => ?_
    cases r with
    | error e => exact (hCX H e s' h).elim
    | ok fl =>
      cases fl with
      | next => exact h.elim
      | brk => exact h.elim
      | cont => exact h.elim
      | ret u =>
        obtain ⟨v, H', os, bare, un, hok', r', q⟩ := h
        cases (show v = V.bl true from q)
        obtain rfl : u = Value.bool true := r'
        refine ⟨rfl, OldK.of_keep fun b o e => ?_, os, bare⟩
        cases q : H b with
        | none => exact un.keep b o e q (fun z => absurd (show b ∈ ([] : List Addr) from z) (by simp)) (by simp)
        | some u =>
          rcases only b with z | ⟨ob, xs, z⟩
          · rw [q] at z; cases z
          · obtain ⟨e1, _⟩ := hok b _ z
            obtain ⟨e2, _⟩ := hok' b _ (un.frzs b ob _ z)
            rw [e] at e1; cases e1
            exact e2
  cases hk : K.lookup a with
  | some o =>
    have e := KX a o hk
    rw [ha] at e
    cases e
    exact core (fun _ => none) (fun _ => .inl rfl) (.inr ⟨_, vs.toArray, _, hk, rfl, rfl, rfl, by rw [List.size_toArray, hi.length]; exact hl, by simpa using vals_ints hi⟩) (fun b u z => nomatch (show (none : Option HO) = some u from z)) (fun b z => absurd rfl z) fun z => absurd rfl z
  | none =>
    refine core (fun b => if b = a then some (.frz { cls := .type "list", data := .seq vs.toArray } (.lst (ns.map V.int))) else none) (fun b => ?_) (.inl (.inr ⟨{ cls := .type "list", data := .seq vs.toArray }, if_pos rfl⟩)) (fun b u z => ?_) (fun b z => ?_) fun _ => hk
    · exact (Classical.em (b = a)).elim (fun c => .inr ⟨_, _, if_pos c⟩) fun c => .inl (if_neg c)
    · by_cases c : b = a
      · cases (if_pos c).symm.trans z
        subst c
        exact ⟨ha, by rw [List.length_map]; exact hl, vs, _, vals_ints hi, ha⟩
      · cases (if_neg c).symm.trans z
    · exact Classical.byContradiction fun c => z (if_neg c)
end R3

namespace R3
open PySem PySem.Spec PyProof.Rows L2

instance : Coe Int Key := ⟨Sum.inl⟩
/-- plain data: what a Python value is worth as long as nothing changes it; obj: an instance of a class of values (fields by place); ref: a mutable object of the store -/
inductive D where
  | non | bl (b : Bool) | int (i : Int) | str (x : Str) | ty (n : String)
  | tup (xs : List D) | lst (xs : List D) | obj (c : Nat) (xs : List D) | ref (n : Nat)
  | scr (ns : List Int)
  | dic (kvs : List (Key × Int))
  | cls (c : Nat)
  | err (c : Nat) (xs : List D)

/-- an error: its class, its fields -/
structure Exn where
  c : Nat
  fs : List D
/-- the error that an except suite holds: its slot, where it stands, its dict, its data -/
structure Xs where
  i : Nat
  a : Addr
  dd : Addr
  x : Exn
/-- the written part, the classes' addresses and their fields' names -/
structure Sg where
  K : PySem.W.Frag
  ad : Nat → Addr
  fl : Nat → List Str
  xs : Option Xs := none

/-- I: what never changes (values are read off it); F: what this code leaves as it is; φ: where the store's objects stand; n: how many there were -/
structure Wd where
  I : Hp
  F : Hp
  φ : Nat → Addr
  n : Nat

mutual
inductive Rep (g : Sg) (w : Wd) : V → D → Prop where
  | non : Rep g w .non .non
  | bl (b : Bool) : Rep g w (.bl b) (.bl b)
  | int (i : Int) : Rep g w (.int i) (.int i)
  | str (x : Str) : Rep g w (.str x) (.str x)
  | ty (n : String) : Rep g w (.ty n) (.ty n)
  | tup {a : Addr} {vs : List V} {ds : List D} (h : SqT g.K w.I a vs) (r : Reps g w vs ds) : Rep g w (.ref a) (.tup ds)
  | lst {a : Addr} {vs : List V} {ds : List D} (h : w.I a = some (.lst vs)) (r : Reps g w vs ds) : Rep g w (.ref a) (.lst ds)
  | scr {a : Addr} {ns : List Int} (h : SqL g.K w.I a (ns.map V.int)) : Rep g w (.ref a) (.scr ns)
  | obj {a dx : Addr} {c : Nat} {vs : List V} {ds : List D} (h : w.I a = some (.ins (g.ad c) dx ((g.fl c).zip vs))) (hl : vs.length = (g.fl c).length) (r : Reps g w vs ds) : Rep g w (.ref a) (.obj c ds)
  | ref {k : Nat} (h : k < w.n) : Rep g w (.ref (w.φ k)) (.ref k)
  | dic {a : Addr} {kvs : List (Key × Int)} (h : w.I a = some (.dK (kvs.map fun p => (p.1, V.int p.2)))) : Rep g w (.ref a) (.dic kvs)
  | cls (c : Nat) : Rep g w (.ref (g.ad c)) (.cls c)
  | err {a dx : Addr} {c : Nat} {vs : List V} {ds : List D} (h : w.I a = some (exo a (g.ad c) (some dx))) (hd : w.I dx = some (exd dx ((g.fl c).zip vs))) (hl : vs.length = (g.fl c).length) (r : Reps g w vs ds) : Rep g w (.ref a) (.err c ds)
inductive Reps (g : Sg) (w : Wd) : List V → List D → Prop where
  | nil : Reps g w [] []
  | cons {v : V} {d : D} {vs : List V} {ds : List D} (h : Rep g w v d) (r : Reps g w vs ds) : Reps g w (v :: vs) (d :: ds)
end
/-- what values lean on -/
structure Sub (w w' : Wd) : Prop where
  i : Same w.I w'.I
  p : ∀ k, k < w.n → w'.φ k = w.φ k
  n : w.n ≤ w'.n
/-- a later world -/
structure Le (w w' : Wd) : Prop where
  s : Sub w w'
  f : Same w.F w'.F
  new : ∀ b, w.I b = none → w.F b ≠ none → w'.I b = none

theorem same_t {K : PySem.W.Frag} {H H' : Hp} {a : Addr} {xs : List V} (e : Same H H') (h : SqT K H a xs) : SqT K H' a xs := by
  rcases h with (h | ⟨o, h⟩) | h
  · exact .inl (.inl (e _ _ h))
  · exact .inl (.inr ⟨o, e _ _ h⟩)
  · exact .inr h
mutual
theorem Rep.mono {g : Sg} {w w' : Wd} (l : Sub w w') : ∀ {v : V} {d : D}, Rep g w v d → Rep g w' v d
  | _, _, .non => .non
  | _, _, .bl b => .bl b
  | _, _, .int i => .int i
  | _, _, .str x => .str x
  | _, _, .ty n => .ty n
  | _, _, .tup h r => .tup (same_t l.i h) (Reps.mono l r)
  | _, _, .lst h r => .lst (l.i _ _ h) (Reps.mono l r)
  | _, _, .scr h => .scr (l.i.seq h)
  | _, _, .obj h hl r => .obj (l.i _ _ h) hl (Reps.mono l r)
  | _, _, .ref h => by
    rw [← l.p _ h]
    exact .ref (Nat.lt_of_lt_of_le h l.n)
  | _, _, .dic h => .dic (l.i _ _ h)
  | _, _, .cls c => .cls c
  | _, _, .err h hd hl r => .err (l.i _ _ h) (l.i _ _ hd) hl (Reps.mono l r)
theorem Reps.mono {g : Sg} {w w' : Wd} (l : Sub w w') : ∀ {vs : List V} {ds : List D}, Reps g w vs ds → Reps g w' vs ds
  | _, _, .nil => .nil
  | _, _, .cons h r => .cons (Rep.mono l h) (Reps.mono l r)
end
theorem Sub.refl (w : Wd) : Sub w w := ⟨fun _ _ h => h, fun _ _ => rfl, Nat.le_refl _⟩
theorem Sub.trans {a b c : Wd} (x : Sub a b) (y : Sub b c) : Sub a c :=
  ⟨x.i.trans y.i, fun k h => (y.p k (Nat.lt_of_lt_of_le h x.n)).trans (x.p k h), Nat.le_trans x.n y.n⟩
theorem Le.refl (w : Wd) : Le w w := ⟨Sub.refl w, fun _ _ h => h, fun _ h _ => h⟩
theorem Le.trans {a b c : Wd} (x : Le a b) (y : Le b c) : Le a c :=
  ⟨x.s.trans y.s, x.f.trans y.f, fun q h1 h2 => by
    refine y.new q (x.new q h1 h2) ?_
    cases e : a.F q with
    | none => exact absurd e h2
    | some o => rw [x.f q o e]; exact fun z => nomatch z⟩
theorem Reps.length {g : Sg} {w : Wd} : ∀ {vs : List V} {ds : List D}, Reps g w vs ds → vs.length = ds.length
  | _, _, .nil => rfl
  | _, _, .cons _ r => congrArg (· + 1) (Reps.length r)
theorem Reps.got {g : Sg} {w : Wd} : ∀ {vs : List V} {ds : List D}, Reps g w vs ds → ∀ {i : Nat} {d : D}, ds[i]? = some d → ∃ v, vs[i]? = some v ∧ Rep g w v d
  | _, _, .nil, i, v, h => by simp at h
  | _, _, .cons h r, 0, v, e => by simp at e; subst e; exact ⟨_, rfl, h⟩
  | _, _, .cons h r, i + 1, v, e => Reps.got r (by simpa using e)
theorem Reps.take {g : Sg} {w : Wd} : ∀ (n : Nat) {vs : List V} {ds : List D}, Reps g w vs ds → Reps g w (vs.take n) (ds.take n)
  | 0, _, _, _ => .nil
  | _ + 1, _, _, .nil => .nil
  | n + 1, _, _, .cons h r => .cons h (Reps.take n r)
theorem Reps.drop {g : Sg} {w : Wd} : ∀ (n : Nat) {vs : List V} {ds : List D}, Reps g w vs ds → Reps g w (vs.drop n) (ds.drop n)
  | 0, _, _, r => r
  | _ + 1, _, _, .nil => .nil
  | n + 1, _, _, .cons h r => Reps.drop n r
theorem Reps.set {g : Sg} {w : Wd} {v : V} {d : D} (h : Rep g w v d) : ∀ (n : Nat) {vs : List V} {ds : List D}, Reps g w vs ds → Reps g w (vs.set n v) (ds.set n d)
  | _, _, _, .nil => .nil
  | 0, _, _, .cons _ r => .cons h r
  | n + 1, _, _, .cons q r => .cons q (Reps.set h n r)
theorem Reps.one {g : Sg} {w : Wd} {v : V} {d : D} (h : Rep g w v d) : Reps g w [v] [d] := .cons h .nil
/-- a mutable object: a list, an instance -/
inductive SO where
  | lst (ds : List D)
  | ins (c : Nat) (ds : List D)
  | new (c : Nat) (x : Addr) (fs : List (Str × D))
abbrev Store := List (Option SO)
/-- an instance's fields -/
inductive Flds (g : Sg) (w : Wd) : List (Str × V) → List (Str × D) → Prop where
  | nil : Flds g w [] []
  | cons {f : Str} {v : V} {d : D} {vs : List (Str × V)} {ds : List (Str × D)} (h : Rep g w v d) (r : Flds g w vs ds) : Flds g w ((f, v) :: vs) ((f, d) :: ds)
theorem Flds.mono {g : Sg} {w w' : Wd} (l : Sub w w') : ∀ {vs : List (Str × V)} {ds : List (Str × D)}, Flds g w vs ds → Flds g w' vs ds
  | _, _, .nil => .nil
  | _, _, .cons h r => .cons (h.mono l) (Flds.mono l r)
def ObjAt (g : Sg) (w : Wd) (H : Hp) (a : Addr) : SO → Prop
  | .lst ds => ∃ vs, H a = some (.lst vs) ∧ Reps g w vs ds
  | .ins c ds => ∃ dx vs, H a = some (.ins (g.ad c) dx ((g.fl c).zip vs)) ∧ vs.length = (g.fl c).length ∧ Reps g w vs ds
  | .new c x fs => a = x ∧ ∃ dx vs, H a = some (.ins (g.ad c) dx vs) ∧ Flds g w vs fs
theorem ObjAt.some {g : Sg} {w : Wd} {H : Hp} {a : Addr} {o : SO} (h : ObjAt g w H a o) : ∃ u, H a = some u := by
  cases o with
  | lst ds => obtain ⟨vs, e, _⟩ := h; exact ⟨_, e⟩
  | ins c ds => obtain ⟨dx, vs, e, _⟩ := h; exact ⟨_, e⟩
  | new c x fs => obtain ⟨_, dx, vs, e, _⟩ := h; exact ⟨_, e⟩
theorem ObjAt.mono {g : Sg} {w w' : Wd} {H H' : Hp} {a : Addr} {o : SO} (l : Sub w w') (k : H' a = H a) (h : ObjAt g w H a o) : ObjAt g w' H' a o := by
  cases o with
  | lst ds => obtain ⟨vs, e, r⟩ := h; exact ⟨vs, k.trans e, r.mono l⟩
  | ins c ds => obtain ⟨dx, vs, e, hl, r⟩ := h; exact ⟨dx, vs, k.trans e, hl, r.mono l⟩
  | new c x fs => obtain ⟨ea, dx, vs, e, r⟩ := h; exact ⟨ea, dx, vs, k.trans e, r.mono l⟩

/-- a slot: nothing told, a value, an object of this frame's own, the error that is held -/
inductive Sl where
  | no | val (d : D) | own (o : SO) | exc
def Env.at : List Sl → Nat → Sl
  | [], _ => .no
  | s :: _, 0 => s
  | _ :: r, i + 1 => Env.at r i
def Env.put : List Sl → Nat → Sl → List Sl
  | [], _, _ => []
  | _ :: r, 0, x => x :: r
  | s :: r, i + 1, x => s :: Env.put r i x
theorem Env.at_put : ∀ (ρ : List Sl) (i j : Nat) (x : Sl), Env.at (Env.put ρ i x) j = if j = i ∧ i < ρ.length then x else Env.at ρ j
  | [], i, j, x => by simp [Env.put, Env.at]
  | s :: r, 0, 0, x => by simp [Env.put, Env.at]
  | s :: r, 0, j + 1, x => by simp [Env.put, Env.at]
  | s :: r, i + 1, 0, x => by simp [Env.put, Env.at]
  | s :: r, i + 1, j + 1, x => by
    show Env.at (Env.put r i x) j = _
    rw [Env.at_put r i j x]
    simp [Env.at]
theorem Env.len_put : ∀ (ρ : List Sl) (i : Nat) (x : Sl), (Env.put ρ i x).length = ρ.length
  | [], _, _ => rfl
  | _ :: _, 0, _ => rfl
  | _ :: r, i + 1, x => congrArg (· + 1) (Env.len_put r i x)

/-- slot i holds the error that is held -/
def XcAt (g : Sg) (w : Wd) (σ : L2.St) (i : Nat) : Prop := ∃ Y : Xs, g.xs = some Y ∧ i = Y.i ∧ σ[i]? = some (some (.ref Y.a)) ∧ ∃ vs, w.I Y.dd = some (.xd ((g.fl Y.x.c).zip vs)) ∧ vs.length = (g.fl Y.x.c).length ∧ Reps g w vs Y.x.fs
theorem XcAt.mono {g : Sg} {w w' : Wd} {σ σ' : L2.St} {i : Nat} (l : Sub w w') (e : σ'[i]? = σ[i]?) : XcAt g w σ i → XcAt g w' σ' i
  | ⟨Y, h1, h2, h3, vs, h4, h5, h6⟩ => ⟨Y, h1, h2, e.trans h3, vs, l.i _ _ h4, h5, h6.mono l⟩
/-- the state: the world w, the slots ρ, the store S are those of σ and H -/
structure At (g : Sg) (w : Wd) (ρ : List Sl) (S : Store) (σ : L2.St) (H : Hp) : Prop where
  if_ : Same w.I w.F
  fh : Same w.F H
  len : S.length = w.n
  st : ∀ k o, S[k]? = some (some o) → w.F (w.φ k) = none ∧ ObjAt g w H (w.φ k) o
  inj : ∀ j k oj ok, S[j]? = some (some oj) → S[k]? = some (some ok) → w.φ j = w.φ k → j = k
  sl : σ.length = ρ.length
  val : ∀ i d, Env.at ρ i = .val d → ∃ v, σ[i]? = some (some v) ∧ Rep g w v d
  own : ∀ i o, Env.at ρ i = .own o → ∃ a, σ[i]? = some (some (.ref a)) ∧ w.F a = none ∧ ObjAt g w H a o ∧ (∀ k ok, S[k]? = some (some ok) → w.φ k ≠ a) ∧
    ∀ j oj, Env.at ρ j = .own oj → σ[j]? = some (some (.ref a)) → j = i
  xc : ∀ i, Env.at ρ i = .exc → XcAt g w σ i
section
variable {g : Sg} {w : Wd} {ρ : List Sl} {S : Store} {σ : L2.St} {H H' : Hp}
theorem At.ih (A : At g w ρ S σ H) : Same w.I H := A.if_.trans A.fh
theorem At.l {a : Addr} {vs : List V} (A : At g w ρ S σ H) (h : SqL g.K w.I a vs) : SqL g.K H a vs := A.ih.seq h
theorem At.t {a : Addr} {vs : List V} (A : At g w ρ S σ H) (h : SqT g.K w.I a vs) : SqT g.K H a vs := same_t A.ih h
theorem At.free {p : Addr} (A : At g w ρ S σ H) (hp : H p = none) : w.F p = none := by
  cases e : w.F p with
  | none => rfl
  | some u => rw [A.fh p u e] at hp; cases hp
end
/-- the state without slots -/
abbrev At0 (g : Sg) (w : Wd) (S : Store) (H : Hp) : Prop := At g w [] S [] H
section
variable {g : Sg} {w : Wd} {ρ : List Sl} {S : Store} {σ : L2.St} {H H' : Hp}
open Classical in
open Classical in
noncomputable def hideO (ρ : List Sl) (σ : L2.St) (F : Hp) : Hp := fun a => if ∃ i o, Env.at ρ i = .own o ∧ σ[i]? = some (some (.ref a)) then none else F a
/-- the world behind a call: the frame's own objects are its own again -/
noncomputable def Wd.outer (w' : Wd) (ρ : List Sl) (σ : L2.St) : Wd := { w' with F := hideO ρ σ w'.F }
end
end R3

namespace R3
open PySem PySem.Spec PyProof.Rows L2

def ExcAt (g : Sg) (w : Wd) (H : Hp) (cls : Value) (dd : Option Addr) (x : Exn) : Prop :=
  cls = .ref (g.ad x.c) ∧ ∃ a vs, dd = some a ∧ w.I a = some (.xd ((g.fl x.c).zip vs)) ∧ vs.length = (g.fl x.c).length ∧ Reps g w vs x.fs

abbrev KD := D → Store → Prop
abbrev KX := Exn → Store → Prop
abbrev FE := List Sl → Store → KD → KX → Prop
abbrev FT := List Sl → Store → (Bool → Store → Prop) → KX → Prop
abbrev FA := List Sl → Store → (List D → Store → Prop) → KX → Prop

def XOk (g : Sg) (W : WX) (σ : L2.St) (ρ : List Sl) (w : Wd) (ex : KX) : Prop :=
  ∀ x S', ex x S' → ∀ w' H' cls dd, Le w w' → At g w' ρ S' σ H' → ExcAt g w' H' cls dd x → W cls dd σ H'
def KOk (g : Sg) (w : Wd) (ρ : List Sl) (σ : L2.St) (K : KD) (Q : VK) : Prop :=
  ∀ d S', K d S' → ∀ v w' H', Le w w' → At g w' ρ S' σ H' → Rep g w' v d → Q v H'
def TOk (g : Sg) (w : Wd) (ρ : List Sl) (σ : L2.St) (K : Bool → Store → Prop) (Q : Bool → Hp → Prop) : Prop :=
  ∀ b S', K b S' → ∀ w' H', Le w w' → At g w' ρ S' σ H' → Q b H'
def AOk (g : Sg) (w : Wd) (ρ : List Sl) (σ : L2.St) (K : List D → Store → Prop) (Q : List V → Hp → Prop) : Prop :=
  ∀ ds S', K ds S' → ∀ vs w' H', Le w w' → At g w' ρ S' σ H' → Reps g w' vs ds → Q vs H'
/-- nothing else holds the object at a -/
structure Fresh (w : Wd) (ρ : List Sl) (S : Store) (σ : L2.St) (a : Addr) : Prop where
  f : w.F a = none
  s : ∀ k ok, S[k]? = some (some ok) → w.φ k ≠ a
  o : ∀ i oi, Env.at ρ i = .own oi → σ[i]? ≠ some (some (.ref a))
def LOk (g : Sg) (w : Wd) (ρ : List Sl) (σ : L2.St) (K : List D → Store → Prop) (Q : VK) : Prop :=
  ∀ ds S', K ds S' → ∀ a vs w' H', Le w w' → At g w' ρ S' σ H' → H' a = some (.lst vs) → Fresh w' ρ S' σ a → Reps g w' vs ds → Q (.ref a) H'
def rdE (g : Sg) (W : WX) (f : FE) : TE := fun σ H Q => ∃ w ρ S K ex, At g w ρ S σ H ∧ XOk g W σ ρ w ex ∧ KOk g w ρ σ K Q ∧ f ρ S K ex
/-- an expression, a test, arguments, an expression that gives a new list -/
abbrev EV (g : Sg) (X : Cx) (W : WX) (e : Expr) (f : FE) : Prop := PE X e (rdE g W f)
theorem PE.imp {X : Cx} {e : Expr} {t t' : TE} (h : PE X e t) (k : ∀ σ H Q, t' σ H Q → t σ H Q) : PE X e t' := ⟨fun pins s σ H Q I q => h.run pins s σ H Q I (k σ H Q q)⟩
theorem PT.imp {X : Cx} {e : Expr} {t t' : TT} (h : PT X e t) (k : ∀ σ H Q, t' σ H Q → t σ H Q) : PT X e t' := ⟨fun pins s σ H Q I q => h.run pins s σ H Q I (k σ H Q q)⟩
theorem PW.imp {X : Cx} {e : Expr} {t t' : TT} (h : PW X e t) (k : ∀ σ H Q, t' σ H Q → t σ H Q) : PW X e t' := ⟨fun wh pins s σ H Q I q => h.run wh pins s σ H Q I (k σ H Q q)⟩
theorem PA.imp {X : Cx} {e : List Expr} {t t' : TA} (h : PA X e t) (k : ∀ σ H Q, t' σ H Q → t σ H Q) : PA X e t' := ⟨fun pos pins s σ H Q I q => h.run pos pins s σ H Q I (k σ H Q q)⟩
theorem PS.imp {X : Cx} {e : Stmt} {t t' : TS} (h : PS X e t) (k : ∀ D σ H, t' D σ H → t D σ H) : PS X e t' := ⟨fun pins s σ H D I q => h.run pins s σ H D I (k D σ H q)⟩
theorem PSs.imp {X : Cx} {e : List Stmt} {t t' : TS} (h : PSs X e t) (k : ∀ D σ H, t' D σ H → t D σ H) : PSs X e t' := ⟨fun pins s σ H D I q => h.run pins s σ H D I (k D σ H q)⟩

theorem XOk.later {g : Sg} {W : WX} {σ : L2.St} {ρ : List Sl} {w w' : Wd} {ex : KX} (l : Le w w') (h : XOk g W σ ρ w ex) : XOk g W σ ρ w' ex := fun x S' e w2 H' cls dd l2 => h x S' e w2 H' cls dd (l.trans l2)
theorem KOk.later {g : Sg} {w w' : Wd} {ρ : List Sl} {σ : L2.St} {K : KD} {Q : VK} (l : Le w w') (h : KOk g w ρ σ K Q) : KOk g w' ρ σ K Q := fun d S' k v w2 H' l2 => h d S' k v w2 H' (l.trans l2)
theorem TOk.later {g : Sg} {w w' : Wd} {ρ : List Sl} {σ : L2.St} {K : Bool → Store → Prop} {Q : Bool → Hp → Prop} (l : Le w w') (h : TOk g w ρ σ K Q) : TOk g w' ρ σ K Q := fun d S' k w2 H' l2 => h d S' k w2 H' (l.trans l2)
theorem AOk.later {g : Sg} {w w' : Wd} {ρ : List Sl} {σ : L2.St} {K : List D → Store → Prop} {Q : List V → Hp → Prop} (l : Le w w') (h : AOk g w ρ σ K Q) : AOk g w' ρ σ K Q := fun d S' k v w2 H' l2 => h d S' k v w2 H' (l.trans l2)
theorem LOk.later {g : Sg} {w w' : Wd} {ρ : List Sl} {σ : L2.St} {K : List D → Store → Prop} {Q : VK} (l : Le w w') (h : LOk g w ρ σ K Q) : LOk g w' ρ σ K Q := fun d S' k a vs w2 H' l2 => h d S' k a vs w2 H' (l.trans l2)

section
variable {g : Sg} {X : Cx} {W : WX} {a b c e : Expr} {pos : Pos} {fa fb fe : FE} {es : List Expr} {fr : FA} {ft fu : FT}

abbrev RD := D → D → Store → KD → Prop
def OpD (g : Sg) (X : Cx) (sem : Value → Value → Sem Value) (r : RD) : Prop :=
  ∀ (pins : List (Addr × Obj)) (s : Shared) (σ : L2.St) (H : Hp) (w : Wd) (ρ : List Sl) (S : Store) (x y : D) (vx vy : V) (u v : Value) (K : KD) (Q : VK), Inv X pins σ H s → RelV vx u → RelV vy v → At g w ρ S σ H → Rep g w vx x → Rep g w vy y →
    KOk g w ρ σ K Q → r x y S K → wpAny (model X.prog X.w) X.A (sem u v) (EP X pins σ Q) X.xe s
theorem OpD.of {sem : Value → Value → Sem Value} {r : RD} {r2 : R2} (h : OpR X sem r2)
    (k : ∀ (σ : L2.St) (H : Hp) (w : Wd) (ρ : List Sl) (S : Store) (x y : D) (vx vy : V) (K : KD) (Q : VK), At g w ρ S σ H → Rep g w vx x → Rep g w vy y → KOk g w ρ σ K Q → r x y S K → r2 vx vy H Q) : OpD g X sem r :=
  fun pins s σ H w ρ S x y vx vy u v K Q I ru rv A rx ry ko q => h pins s σ H vx vy u v Q I ru rv (k σ H w ρ S x y vx vy K Q A rx ry ko q)
theorem rep_str {w : Wd} {v : V} {k : Str} (r : Rep g w v (.str k)) : v = .str k := by cases r; rfl
def Small (n : Nat) : Prop := n ≤ 1000000
theorem Small.line {n : Nat} (h : Small n) : n ≤ sizeLine := Nat.le_trans h (by decide)
end

structure Fin where
  nx : List Sl → Store → Prop
  rt : KD
  bk : List Sl → Store → Prop := fun _ _ => False
  ct : List Sl → Store → Prop := fun _ _ => False
  ex : Exn → List Sl → Store → Prop := fun _ _ _ => False
  rl : List D → Store → Prop := fun _ _ => False
  xo : Exn → List Sl → Store → Prop := fun _ _ _ => False
abbrev FS := Fin → List Sl → Store → Prop
structure EOk (g : Sg) (W : WX) (w : Wd) (D : Ends) (d : Fin) : Prop where
  nx : ∀ ρ' S', d.nx ρ' S' → ∀ w' σ' H', Le w w' → At g w' ρ' S' σ' H' → D.nx σ' H'
  rt : ∀ r S', d.rt r S' → ∀ v w' H', Le w w' → At0 g w' S' H' → Rep g w' v r → D.rt v H'
  bk : ∀ ρ' S', d.bk ρ' S' → ∀ w' σ' H', Le w w' → At g w' ρ' S' σ' H' → D.bk σ' H'
  ct : ∀ ρ' S', d.ct ρ' S' → ∀ w' σ' H', Le w w' → At g w' ρ' S' σ' H' → D.ct σ' H'
  ex : ∀ x ρ' S', d.ex x ρ' S' → ∀ w' σ' H' cls dd, Le w w' → At g w' ρ' S' σ' H' → ExcAt g w' H' cls dd x → W cls dd σ' H'
  rl : ∀ ds S', d.rl ds S' → ∀ a vs w' H', Le w w' → At0 g w' S' H' → H' a = some (.lst vs) → Fresh w' [] S' [] a → Reps g w' vs ds → D.rt (.ref a) H'
def rdS (g : Sg) (W : WX) (f : FS) : TS := fun D σ H => ∃ w ρ S d, At g w ρ S σ H ∧ EOk g W w D d ∧ f d ρ S
abbrev EB (g : Sg) (X : Cx) (W : WX) (st : List Stmt) (f : FS) : Prop := PSs X st (rdS g W f)
theorem EOk.later {g : Sg} {W : WX} {w w' : Wd} {D : Ends} {d : Fin} (l : Le w w') (h : EOk g W w D d) : EOk g W w' D d :=
  ⟨fun ρ S k w2 σ H l2 => h.nx ρ S k w2 σ H (l.trans l2), fun r S k v w2 H l2 => h.rt r S k v w2 H (l.trans l2), fun ρ S k w2 σ H l2 => h.bk ρ S k w2 σ H (l.trans l2), fun ρ S k w2 σ H l2 => h.ct ρ S k w2 σ H (l.trans l2),
    fun x ρ S k w2 σ H c dd l2 => h.ex x ρ S k w2 σ H c dd (l.trans l2), fun ds S k a vs w2 H l2 => h.rl ds S k a vs w2 H (l.trans l2)⟩
theorem EOk.xo {g : Sg} {W : WX} {w : Wd} {D : Ends} {d : Fin} {σ : L2.St} {ρ : List Sl} (h : EOk g W w D d) : XOk g W σ ρ w (fun x S => d.ex x ρ S) := fun x S e w' H' cls dd l A r => h.ex x ρ S e w' σ H' cls dd l A r
theorem At.bare {g : Sg} {w : Wd} {ρ : List Sl} {S : Store} {σ : L2.St} {H : Hp} (A : At g w ρ S σ H) : At0 g w S H :=
  ⟨A.if_, A.fh, A.len, A.st, A.inj, rfl, fun i d h => (by cases i <;> cases h), fun i d h => (by cases i <;> cases h), fun i h => (by cases i <;> cases h)⟩
section
variable {g : Sg} {X : Cx} {W : WX} {st : Stmt} {rest : List Stmt} {e c : Expr} {pos : Pos} {fe : FE} {ft : FT} {fa : FA} {f h : FS}
theorem xc_put {w : Wd} {ρ : List Sl} {σ : L2.St} {i : Nat} {x : Sl} {u : Option V} (hx : x ≠ .exc) (hl : σ.length = ρ.length) (h : ∀ j, Env.at ρ j = .exc → XcAt g w σ j) (j : Nat) (e : Env.at (Env.put ρ i x) j = .exc) : XcAt g w (σ.set i u) j := by
  rw [Env.at_put] at e
  by_cases c : j = i ∧ i < ρ.length
  · rw [if_pos c] at e; exact absurd e hx
  · rw [if_neg c] at e
    refine (h j e).mono (Sub.refl w) ?_
    by_cases z : i = j
    · subst z
      have n : ¬ i < σ.length := fun q => c ⟨rfl, by rw [← hl]; exact q⟩
      rw [List.set_eq_of_length_le (by omega)]
    · rw [List.getElem?_set_ne z]
theorem At.put {w : Wd} {ρ : List Sl} {S : Store} {σ : L2.St} {H : Hp} {i : Nat} {v : V} {d : D} (A : At g w ρ S σ H) (r : Rep g w v d) : At g w (Env.put ρ i (.val d)) S (σ.set i (some v)) H := by
  refine ⟨A.if_, A.fh, A.len, A.st, A.inj, by rw [List.length_set, Env.len_put, A.sl], fun j d' h => ?_, fun j o h => ?_, xc_put (fun z => nomatch z) A.sl A.xc⟩
  · rw [Env.at_put] at h
    by_cases c : j = i ∧ i < ρ.length
    · rw [if_pos c] at h
      cases h
      obtain ⟨rfl, c⟩ := c
      exact ⟨v, List.getElem?_set_self (by rw [A.sl]; exact c), r⟩
    · rw [if_neg c] at h
      obtain ⟨v', h1, h2⟩ := A.val j d' h
      refine ⟨v', ?_, h2⟩
      by_cases e : j = i
      · subst e
        have : ¬ j < ρ.length := fun z => c ⟨rfl, z⟩
        have z := (List.getElem?_eq_some_iff.mp h1).1
        rw [A.sl] at z
        exact absurd z this
      · rw [List.getElem?_set_ne (Ne.symm e)]
        exact h1
  · have ne : j ≠ i ∧ Env.at ρ j = .own o := by
      rw [Env.at_put] at h
      by_cases c : j = i ∧ i < ρ.length
      · rw [if_pos c] at h; cases h
      · rw [if_neg c] at h
        refine ⟨fun e => ?_, h⟩
        subst e
        obtain ⟨a, h1, _⟩ := A.own j o h
        have z := (List.getElem?_eq_some_iff.mp h1).1
        rw [A.sl] at z
        exact c ⟨rfl, z⟩
    obtain ⟨a, h1, h2, h3, h4, h5⟩ := A.own j o ne.2
    refine ⟨a, by rw [List.getElem?_set_ne (Ne.symm ne.1)]; exact h1, h2, h3, h4, fun k ok hk hs => ?_⟩
    rw [Env.at_put] at hk
    by_cases c : k = i ∧ i < ρ.length
    · rw [if_pos c] at hk; cases hk
    · rw [if_neg c] at hk
      by_cases e : k = i
      · subst e
        obtain ⟨a', q1, _⟩ := A.own k ok hk
        have z := (List.getElem?_eq_some_iff.mp q1).1
        rw [A.sl] at z
        exact absurd ⟨rfl, z⟩ c
      · rw [List.getElem?_set_ne (Ne.symm e)] at hs
        exact h5 k ok hk hs
end
end R3

namespace R3
open PySem PySem.Spec PyProof.Rows L2

section
variable {g : Sg} {w : Wd} {ρ : List Sl} {S : Store} {σ : L2.St} {H : Hp}
end

section
variable {g : Sg} {X : Cx} {W : WX} {a b c e : Expr} {pos : Pos} {fa fb fe : FE} {es : List Expr} {fr : FA} {ft fu : FT} {st : Stmt} {rest : List Stmt} {f h : FS}
theorem Small.lt {n : Nat} (h : Small (n + 1)) : n < sizeLine := Nat.lt_of_lt_of_le (Nat.lt_of_succ_le h) (by decide)
theorem rep_ref {w : Wd} {v : V} {k : Nat} (r : Rep g w v (.ref k)) : v = .ref (w.φ k) ∧ k < w.n := by cases r with | ref h => exact ⟨rfl, h⟩
def CallD (g : Sg) (X : Cx) (f : Value) (r : List D → Store → KD → Prop) : Prop :=
  ∀ (pins : List (Addr × Obj)) (s : Shared) (σ : L2.St) (H : Hp) (w : Wd) (ρ : List Sl) (S : Store) (ds : List D) (vs : List V) (us : List Value) (K : KD) (Q : VK), Inv X pins σ H s → Vals vs us → At g w ρ S σ H → Reps g w vs ds →
    KOk g w ρ σ K Q → r ds S K → wpAny (model X.prog X.w) X.A (call f us) (EP X pins σ Q) X.xe s
theorem CallD.of {fv : Value} {r : List D → Store → KD → Prop} {r2 : List V → Hp → VK → Prop} (h : CallR X fv r2)
    (k : ∀ (σ : L2.St) (H : Hp) (w : Wd) (ρ : List Sl) (S : Store) (ds : List D) (vs : List V) (K : KD) (Q : VK), At g w ρ S σ H → Reps g w vs ds → KOk g w ρ σ K Q → r ds S K → r2 vs H Q) : CallD g X fv r :=
  fun pins s σ H w ρ S ds vs us K Q I rv A rr ko q => h pins s σ H vs us Q I rv (k σ H w ρ S ds vs K Q A rr ko q)
end
end R3

namespace R3
open PySem PySem.Spec PyProof.Rows L2

/-- two kinds of exceptions: those whose context is None (true), and any (false) -/
def TakesK (kn : Bool) (X : Cx) (W : WX) : Prop := match kn with
  | true => L2N.Takes X W
  | false => L2.Takes X W
def CXK (kn : Bool) (P : Program) (w : World) : CXT := match kn with
  | true => L2N.CX P w
  | false => L2.CX P w
def ZK (kn : Bool) (cls : Value) (d : Option Addr) : Obj → Prop := match kn with
  | true => L2N.Zn cls d
  | false => Zc cls d
theorem ZK.zc {kn : Bool} {cls : Value} {d : Option Addr} {o : Obj} (h : ZK kn cls d o) : Zc cls d o := by
  cases kn
  · exact h
  · exact L2N.Zn.zc h
abbrev Ct := List D → Store → KD → KX → Prop
/-- a contract as a promise -/
def spOf (g : Sg) (n : Nat) (C : Ct) : Sp := fun vs H Q E => ∃ w ds S K ex, ds.length = n ∧ At0 g w S H ∧ Reps g w vs ds ∧
  (∀ d S', K d S' → ∀ v w' H', Le w w' → At0 g w' S' H' → Rep g w' v d → Q v H') ∧
  (∀ x S', ex x S' → ∀ w' H' cls dd, Le w w' → At0 g w' S' H' → ExcAt g w' H' cls dd x → E cls dd H') ∧ C ds S K ex
/-- a def of the module, by its name -/
structure Cal {kn : Bool} (P : Program) (w : World) (mg : Str → Option Value) (base : Heap) (g : Sg) (k : Nat) (x : Str) (n : Nat) (C : Ct) : Prop where
  ex : ∃ f, mg x = some (.ref f) ∧ PySem.W.keepIn g.K (.ref f) = true ∧ FnR P w g.K mg base (CXK kn P w) k f (spOf g n C)
/-- a method of a class -/
structure Met {kn : Bool} (P : Program) (w : World) (mg : Str → Option Value) (base : Heap) (g : Sg) (k : Nat) (c : Nat) (m : Str) (n : Nat) (C : Ct) : Prop where
  ex : ∃ f, Meth g.K (g.ad c) m f ∧ FnR P w g.K mg base (CXK kn P w) k f (spOf g n C)

section
variable {g : Sg} {X : Cx} {W : WX} {a b c e o : Expr} {pos apos : Pos} {fa fb fe fo : FE} {es : List Expr} {fr : FA} {st : Stmt}
/-- o.p, a property -/
structure Prp {kn : Bool} (P : Program) (w : World) (mg : Str → Option Value) (base : Heap) (g : Sg) (k : Nat) (c : Nat) (m : Str) (C : Ct) : Prop where
  ex : ∃ p f, PropOf g.K (g.ad c) m p f ∧ FnR P w g.K mg base (CXK kn P w) k f (spOf g 1 C)
end

def startD (N : Nat) (ds : List D) : List Sl := ds.map Sl.val ++ List.replicate (N - ds.length) .no
theorem Env.at_get : ∀ (ρ : List Sl) (i : Nat), Env.at ρ i = (ρ[i]?).getD .no
  | [], i => by simp [Env.at]
  | s :: r, 0 => by simp [Env.at]
  | s :: r, i + 1 => by simp [Env.at, Env.at_get r i]
theorem startD_at {N : Nat} {ds : List D} {i : Nat} {x : Sl} (h : Env.at (startD N ds) i = x) (hx : x ≠ .no) : ∃ d, ds[i]? = some d ∧ x = .val d := by
  rw [Env.at_get] at h
  unfold startD at h
  by_cases c : i < ds.length
  · rw [List.getElem?_append_left (by simpa using c), List.getElem?_map] at h
    obtain ⟨d, hd⟩ : ∃ d, ds[i]? = some d := ⟨ds[i], by simp [c]⟩
    rw [hd] at h
    exact ⟨d, hd, h.symm⟩
  · rw [List.getElem?_append_right (by simpa using c), List.getElem?_replicate] at h
    split at h
    · exact absurd h.symm hx
    · exact absurd h.symm hx
theorem At.start {g : Sg} {w : Wd} {S : Store} {H : Hp} {N : List Str} {vs : List V} {ds : List D} (A : At0 g w S H) (r : Reps g w vs ds) : At g w (startD N.length ds) S (start N vs) H := by
  refine ⟨A.if_, A.fh, A.len, A.st, A.inj, ?_, fun i d h => ?_, fun i o h => ?_, fun i h => (by obtain ⟨d, _, z⟩ := startD_at h (fun z => nomatch z); cases z)⟩
  · unfold startD L2.start
    simp [r.length]
  · obtain ⟨d', h1, h2⟩ := startD_at h (fun z => nomatch z)
    cases h2
    obtain ⟨v, h3, h4⟩ := r.got h1
    refine ⟨v, ?_, h4⟩
    have hlt : i < vs.length := (List.getElem?_eq_some_iff.mp h3).1
    unfold L2.start
    rw [List.getElem?_append_left (by simpa using hlt), List.getElem?_map, h3]
    rfl
  · obtain ⟨d', h1, h2⟩ := startD_at h (fun z => nomatch z)
    cases h2
section
variable {P : Program} {w : World} {mg : Str → Option Value} {base : Heap} {g : Sg} {x qual : Str} {params : Arguments} {body : List Stmt} {scope : Scope} {dvs : List V} {kws : List (Str × V)} {f : Addr} {fd : FuncData}
end
end R3

namespace R3
open PySem PySem.Spec PyProof.Rows L2

abbrev FG := D → List Sl → (List Sl → Prop) → Prop
abbrev FGs := List D → List Sl → (List Sl → Prop) → Prop
/-- only the slots js changed -/
structure Only (js : List Nat) (σ σ' : L2.St) : Prop where
  len : σ'.length = σ.length
  out : ∀ i, i ∉ js → σ'[i]? = σ[i]?
theorem Only.refl {js : List Nat} {σ : L2.St} : Only js σ σ := ⟨rfl, fun _ _ => rfl⟩
theorem Only.trans {js : List Nat} {a b c : L2.St} (x : Only js a b) (y : Only js b c) : Only js a c := ⟨y.len.trans x.len, fun i h => (y.out i h).trans (x.out i h)⟩
theorem Only.set {js : List Nat} {σ : L2.St} {i : Nat} {v : Option V} (h : i ∈ js) : Only js σ (σ.set i v) := ⟨List.length_set, fun j hj => List.getElem?_set_ne fun e => hj (by rw [← e]; exact h)⟩
theorem PG.imp {X : Cx} {e : Expr} {t t' : TG} (h : PG X e t) (k : ∀ v σ H Q, t' v σ H Q → t v σ H Q) : PG X e t' := ⟨fun pins s σ H v u Q I r q => h.run pins s σ H v u Q I r (k v σ H Q q)⟩
theorem PGs.imp {X : Cx} {e : List Expr} {t t' : TGs} (h : PGs X e t) (k : ∀ v σ H Q, t' v σ H Q → t v σ H Q) : PGs X e t' := ⟨fun pins s σ H v u Q I r q => h.run pins s σ H v u Q I r (k v σ H Q q)⟩
section
variable {g : Sg} {X : Cx} {W : WX} {js : List Nat} {e tg iter : Expr} {es : List Expr} {pos : Pos} {fg : FG} {fgs : FGs} {fe : FE} {st : Stmt} {body : List Stmt} {fs : FS} {ft : FT}
/-- J gives the values ds, as long as w stands -/
structure Gen (g : Sg) (w : Wd) (J : It) (ds : List D) : Prop where
  go : ∀ (i : Nat) (w' : Wd) (ρ : List Sl) (S : Store) (σ : L2.St) (H : Hp), i < ds.length → Le w w' → At g w' ρ S σ H → J.go i H
  stop : ∀ (w' : Wd) (ρ : List Sl) (S : Store) (σ : L2.St) (H : Hp), Le w w' → At g w' ρ S σ H → J.stop ds.length H
  yld : ∀ (i : Nat) (w' : Wd) (ρ : List Sl) (S : Store) (σ : L2.St) (H : Hp) (x : V) (H' : Hp) (d : D), ds[i]? = some d → Le w w' → At g w' ρ S σ H → J.yld i H x H' → ∃ w'', Le w' w'' ∧ At g w'' ρ S σ H' ∧ Rep g w'' x d ∧ Same H H' ∧ ∀ b, w'.F b = none → H b ≠ none → w''.F b = none
abbrev FI := List Sl → Store → (List D → Store → Prop) → KX → Prop
def rdI (g : Sg) (W : WX) (f : FI) : TI := fun σ H R => ∃ w ρ S K ex, At g w ρ S σ H ∧ XOk g W σ ρ w ex ∧ (∀ ds S', K ds S' → ∀ J w' H', Le w w' → At g w' ρ S' σ H' → Gen g w' J ds → R J H') ∧ f ρ S K ex
abbrev EI (g : Sg) (X : Cx) (W : WX) (tg iter : Expr) (f : FI) : Prop := PI X tg iter (rdI g W f)
theorem PI.imp {X : Cx} {tg e : Expr} {t t' : TI} (h : PI X tg e t) (k : ∀ σ H R, t' σ H R → t σ H R) : PI X tg e t' := ⟨fun pins s σ H R I q => h.run pins s σ H R I (k σ H R q)⟩
theorem drop_cons {α : Type} {l : List α} {i : Nat} {x : α} (h : l[i]? = some x) : l.drop i = x :: l.drop (i + 1) := by
  obtain ⟨hi, e⟩ := List.getElem?_eq_some_iff.mp h
  rw [← e]
  exact List.drop_eq_getElem_cons hi
end
end R3

namespace R3
open PySem PySem.Spec PyProof.Rows L2

def Wd.drop (w : Wd) (p : Addr) : Wd := { w with F := fun b => if b = p then none else w.F b }
section
variable {g : Sg} {w : Wd} {ρ : List Sl} {S : Store} {σ : L2.St} {H : Hp}
end
section
variable {g : Sg} {X : Cx} {W : WX} {elt e tg iter : Expr} {pos : Pos} {fg : FG} {fi : FI} {fe : FE} {ft : FT} {vs : List Nat} {st : Stmt}
def W0 : WX := fun _ _ _ _ => False
end
end R3

namespace R3
open PySem PySem.Spec PyProof.Rows L2

/-- the promise of an __init__: C is the contract of the whole call C(..) -/
def spInit (g : Sg) (c n : Nat) (C : Ct) : Sp := fun vs H Q E => ∃ x dx rest w ds S K ex, vs = .ref x :: rest ∧ H x = some (.ins (g.ad c) dx []) ∧ ds.length = n ∧ At0 g w S H ∧ w.F x = none ∧ (∀ k ok, S[k]? = some (some ok) → w.φ k ≠ x) ∧ Reps g w rest ds ∧
  (∀ fs S', K (.obj c fs) S' → ∀ w' H' dx' us, Le w w' → At0 g w' S' H' → w'.F x = none → (∀ k ok, S'[k]? = some (some ok) → w'.φ k ≠ x) → H' x = some (.ins (g.ad c) dx' ((g.fl c).zip us)) → us.length = (g.fl c).length → Reps g w' us fs → Q .non H') ∧
  (∀ y S', ex y S' → ∀ w' H' cls dd, Le w w' → At0 g w' S' H' → ExcAt g w' H' cls dd y → E cls dd H') ∧ C ds S K ex
structure Mak {kn : Bool} (P : Program) (w : World) (mg : Str → Option Value) (base : Heap) (g : Sg) (k : Nat) (x : Str) (c n : Nat) (C : Ct) : Prop where
  ex : ∃ f, mg x = some (.ref (g.ad c)) ∧ Mk g.K (g.ad c) f ∧ FnR P w g.K mg base (CXK kn P w) k f (spInit g c n C)
section
variable {g : Sg} {X : Cx} {W : WX} {a b e o : Expr} {pos apos : Pos} {fa fb fe fo : FE} {es : List Expr} {fr : FA} {st : Stmt}
/-- self.f = e, self an instance that is being made in slot i -/
def putD (f : Str) (x : D) : List (Str × D) → List (Str × D)
  | [] => [(f, x)]
  | (h, y) :: r => if h = f then (f, x) :: r else (h, y) :: putD f x r
theorem Flds.put {w : Wd} {f : Str} {v : V} {d : D} (h : Rep g w v d) : ∀ {vs : List (Str × V)} {ds : List (Str × D)}, Flds g w vs ds → Flds g w (putF f v vs) (putD f d ds)
  | _, _, .nil => .cons h .nil
  | _, _, .cons (f := n) h' r => by
    show Flds g w (if n = f then _ else _) (if n = f then _ else _)
    by_cases c : n = f
    · rw [if_pos c, if_pos c]
      subst c
      exact .cons h r
    · rw [if_neg c, if_neg c]
      exact .cons h' (Flds.put h r)
theorem Flds.length {w : Wd} : ∀ {vs : List (Str × V)} {ds : List (Str × D)}, Flds g w vs ds → vs.length = ds.length
  | _, _, .nil => rfl
  | _, _, .cons _ r => congrArg (· + 1) (Flds.length r)
end
section
variable {P : Program} {w : World} {mg : Str → Option Value} {base : Heap} {g : Sg} {x qual : Str} {params : Arguments} {body : List Stmt} {scope : Scope} {dvs : List V} {kws : List (Str × V)} {f : Addr} {fd : FuncData}
theorem Flds.names {w : Wd} : ∀ {vs : List (Str × V)} {ds : List (Str × D)}, Flds g w vs ds → ∃ us, vs = (ds.map (·.1)).zip us ∧ us.length = ds.length ∧ Reps g w us (ds.map (·.2))
  | _, _, .nil => ⟨[], rfl, rfl, .nil⟩
  | _, _, .cons h r => by
    obtain ⟨us, e, hl, rr⟩ := Flds.names r
    exact ⟨_ :: us, by rw [e]; rfl, congrArg (· + 1) hl, .cons h rr⟩
end
end R3

namespace R3
open PySem PySem.Spec PyProof.Rows L2
/-- what isinstance asks of a class of ours -/
structure ClsI (K : PySem.W.Frag) (C : Addr) : Prop where
  cl : Cls K C
  ha : PySem.W.findIn K (.ref C) "__class__" = some (some (.builtin "object.__class__"))
  hn : PySem.W.specialIn K (.builtin "object.__class__") "__get__" = some (some (.builtin "getset_descriptor.__get__"))
  ht : PySem.W.takesIn K (.builtin "object.__class__") = some true
  hm : PySem.W.mroIn K C (.type "object") = some true
/-- a value's type; ok: the classes that are told -/
def tyD (g : Sg) : D → Option Value
  | .non => some (.type "NoneType")
  | .bl _ => some (.type "bool")
  | .int _ => some (.type "int")
  | .str _ => some (.type "str")
  | .tup _ => some (.type "tuple")
  | .lst _ => some (.type "list")
  | .scr _ => some (.type "list")
  | .obj c _ => some (.ref (g.ad c))
  | .dic _ => some (.type "dict")
  | _ => none
section
variable {g : Sg} {X : Cx} {W : WX} {a b e o : Expr} {pos apos : Pos} {fa fb fe fo : FE} {es : List Expr} {fr : FA} {st : Stmt}
theorem tyX_tup {K : PySem.W.Frag} {H : Hp} {a : Addr} {vs : List V} (h : SqT K H a vs) : TyX K H (.ref a) (.type "tuple") := by
  rcases h with (h | ⟨o, h⟩) | ⟨o, its, n, h, c, _⟩
  · exact .base (.tup h)
  · exact .fTuple h
  · exact .kTuple h c
theorem tyX_lst {K : PySem.W.Frag} {H : Hp} {a : Addr} {vs : List V} (h : SqL K H a vs) : TyX K H (.ref a) (.type "list") := by
  rcases h with (h | ⟨o, h⟩) | ⟨o, its, n, h, c, _⟩
  · exact .base (.lst h)
  · exact .base (.frz h)
  · exact .kList h c
/-- p tells kitOne's answers for the class u -/
structure Kit (g : Sg) (u : Value) (p : D → Option Bool) : Prop where
  ok : ∀ d b, p d = some b → ∃ t, tyD g d = some t ∧ PySem.W.kitOne g.K t u = some b ∧ ∀ c ds, d = .obj c ds → ClsI g.K (g.ad c)
/-- isinstance(x, (T1, T2)) -/
structure Kit2 (g : Sg) (us : List Value) (p : D → Option Bool) : Prop where
  ok : ∀ d b, p d = some b → ∃ t, tyD g d = some t ∧ PySem.W.kitAny g.K t us = some b ∧ ∀ c ds, d = .obj c ds → ClsI g.K (g.ad c)
mutual
def toPy : D → Option PyData
  | .non => some .none
  | .bl b => some (.bool b)
  | .int i => some (.int i)
  | .str x => some (.str x)
  | .tup xs => (toPys xs).map .tuple
  | .lst xs => (toPys xs).map .list
  | _ => none
def toPys : List D → Option (List PyData)
  | [] => some []
  | d :: r => match toPy d, toPys r with
    | some x, some xs => some (x :: xs)
    | _, _ => none
end
theorem PO.imp {X : Cx} {e : Option Expr} {t t' : TO} (h : PO X e t) (k : ∀ σ H Q, t' σ H Q → t σ H Q) : PO X e t' := ⟨fun pins s σ H Q I q => h.run pins s σ H Q I (k σ H Q q)⟩
end
end R3

namespace R3
open PySem PySem.Spec PyProof.Rows L2

abbrev CtL := List D → Store → (List D → Store → Prop) → KX → Prop
def spOfL (g : Sg) (n : Nat) (C : CtL) : Sp := fun vs H Q E => ∃ w ds S K ex, ds.length = n ∧ At0 g w S H ∧ Reps g w vs ds ∧
  (∀ es S', K es S' → ∀ a us w' H', Le w w' → At0 g w' S' H' → H' a = some (.lst us) → Fresh w' [] S' [] a → Reps g w' us es → Q (.ref a) H') ∧
  (∀ x S', ex x S' → ∀ w' H' cls dd, Le w w' → At0 g w' S' H' → ExcAt g w' H' cls dd x → E cls dd H') ∧ C ds S K ex
structure CalL {kn : Bool} (P : Program) (w : World) (mg : Str → Option Value) (base : Heap) (g : Sg) (k : Nat) (x : Str) (n : Nat) (C : CtL) : Prop where
  ex : ∃ f, mg x = some (.ref f) ∧ PySem.W.keepIn g.K (.ref f) = true ∧ FnR P w g.K mg base (CXK kn P w) k f (spOfL g n C)
structure MetL {kn : Bool} (P : Program) (w : World) (mg : Str → Option Value) (base : Heap) (g : Sg) (k : Nat) (c : Nat) (m : Str) (n : Nat) (C : CtL) : Prop where
  ex : ∃ f, Meth g.K (g.ad c) m f ∧ FnR P w g.K mg base (CXK kn P w) k f (spOfL g n C)
section
end
section
variable {P : Program} {w : World} {mg : Str → Option Value} {base : Heap} {g : Sg} {x qual : Str} {params : Arguments} {body : List Stmt} {scope : Scope} {dvs : List V} {kws : List (Str × V)} {f : Addr} {fd : FuncData}
end

def flatD (S : Store) (d : D) : D := match d with
  | .ref k => (match S[k]? with
    | some (some (.lst ds)) => .lst ds
    | _ => .ref k)
  | d => d
def flatL (S : Store) : Sl → Sl
  | .no => .no
  | .val d => .val (flatD S d)
  | .own (.lst ds) => .val (.lst ds)
  | .own _ => .no
  | .exc => .exc
def flatE (S : Store) : List Sl → List Sl
  | [] => []
  | s :: r => flatL S s :: flatE S r
def flatS : Store → Store
  | [] => []
  | _ :: r => none :: flatS r
theorem flatS_len : ∀ S : Store, (flatS S).length = S.length
  | [] => rfl
  | _ :: r => congrArg (· + 1) (flatS_len r)
theorem flatS_no : ∀ (S : Store) (k : Nat) (o : SO), (flatS S)[k]? ≠ some (some o)
  | [], k, o, h => by simp [flatS] at h
  | _ :: r, 0, o, h => by simp [flatS] at h
  | _ :: r, k + 1, o, h => flatS_no r k o (by simpa [flatS] using h)
theorem flatE_len (S : Store) : ∀ ρ : List Sl, (flatE S ρ).length = ρ.length
  | [] => rfl
  | _ :: r => congrArg (· + 1) (flatE_len S r)
theorem flatE_at (S : Store) : ∀ (ρ : List Sl) (i : Nat), Env.at (flatE S ρ) i = flatL S (Env.at ρ i)
  | [], i => rfl
  | s :: r, 0 => rfl
  | s :: r, i + 1 => flatE_at S r i
section
open Classical
variable {g : Sg} {w : Wd} {ρ : List Sl} {S : Store} {σ : L2.St} {H : Hp}
/-- a list that is lent -/
def Lent (w : Wd) (ρ : List Sl) (S : Store) (σ : L2.St) (a : Addr) : Prop := (∃ i ds, Env.at ρ i = .own (.lst ds) ∧ σ[i]? = some (some (.ref a))) ∨ ∃ k ds, S[k]? = some (some (.lst ds)) ∧ w.φ k = a
/-- a mutable object -/
def Muta (w : Wd) (ρ : List Sl) (S : Store) (σ : L2.St) (a : Addr) : Prop := (∃ i o, Env.at ρ i = .own o ∧ σ[i]? = some (some (.ref a))) ∨ ∃ k o, S[k]? = some (some o) ∧ w.φ k = a
theorem Muta.free {a : Addr} (A : At g w ρ S σ H) (h : Muta w ρ S σ a) : w.F a = none ∧ ∃ u, H a = some u := by
  rcases h with ⟨i, o, h1, h2⟩ | ⟨k, o, h1, h2⟩
  · obtain ⟨b, e1, e2, e3, _⟩ := A.own i o h1
    rw [h2] at e1
    cases e1
    exact ⟨e2, e3.some⟩
  · subst h2
    obtain ⟨e1, e2⟩ := A.st k o h1
    exact ⟨e1, e2.some⟩
theorem Lent.lst {a : Addr} (A : At g w ρ S σ H) (h : Lent w ρ S σ a) : ∃ vs, H a = some (.lst vs) := by
  rcases h with ⟨i, o, h1, h2⟩ | ⟨k, o, h1, h2⟩
  · obtain ⟨b, e1, e2, ⟨vs, e3, _⟩, _⟩ := A.own i _ h1
    rw [h2] at e1
    cases e1
    exact ⟨vs, e3⟩
  · subst h2
    obtain ⟨e1, vs, e2, _⟩ := A.st k _ h1
    exact ⟨vs, e2⟩
open Classical in
noncomputable def Wd.flat (w : Wd) (ρ : List Sl) (S : Store) (σ : L2.St) (H : Hp) : Wd := { w with I := fun a => if Lent w ρ S σ a then H a else w.I a, F := H }
theorem flat_sub (A : At g w ρ S σ H) : Sub w (w.flat ρ S σ H) := ⟨fun a o h => by
  show (if _ then _ else _) = _
  split
  · exact A.ih a o h
  · exact h, fun _ _ => rfl, Nat.le_refl _⟩
theorem At.flat (A : At g w ρ S σ H) : At g (w.flat ρ S σ H) (flatE S ρ) (flatS S) σ H := by
  have look : ∀ a, Lent w ρ S σ a → (w.flat ρ S σ H).I a = H a := fun a h => if_pos h
  refine ⟨fun a o h => ?_, fun _ _ z => z, by rw [flatS_len]; exact A.len, fun k o h => absurd h (flatS_no S k o), fun j k oj ok h => absurd h (flatS_no S j oj), by rw [flatE_len]; exact A.sl, fun i d h => ?_, fun i o h => ?_, fun i h => ?_⟩
  · have h' : (if Lent w ρ S σ a then H a else w.I a) = some o := h
    split at h'
    · exact h'
    · exact A.ih a o h'
  · rw [flatE_at] at h
    cases e : Env.at ρ i with
    | no => rw [e] at h; cases h
    | val d0 =>
      rw [e] at h
      cases h
      obtain ⟨v, h1, h2⟩ := A.val i d0 e
      refine ⟨v, h1, ?_⟩
      unfold flatD
      split
      · rename_i k
        split
        · rename_i ds hS
          obtain ⟨rfl, _⟩ := rep_ref h2
          obtain ⟨_, vs, e2, rr⟩ := A.st k _ hS
          exact .lst ((look _ (.inr ⟨k, ds, hS, rfl⟩)).trans e2) (rr.mono (flat_sub A))
        · exact h2.mono (flat_sub A)
      · exact h2.mono (flat_sub A)
    | own o =>
      rw [e] at h
      cases o with
      | lst ds =>
        cases h
        obtain ⟨a, h1, h2, ⟨vs, e2, rr⟩, _⟩ := A.own i _ e
        exact ⟨.ref a, h1, .lst ((look _ (.inl ⟨i, ds, e, h1⟩)).trans e2) (rr.mono (flat_sub A))⟩
      | _ => cases h
    | exc => rw [e] at h; cases h
  · rw [flatE_at] at h
    cases e : Env.at ρ i with
    | no => rw [e] at h; cases h
    | val d0 => rw [e] at h; cases h
    | own o => rw [e] at h; cases o <;> cases h
    | exc => rw [e] at h; cases h
  · rw [flatE_at] at h
    cases e : Env.at ρ i with
    | no => rw [e] at h; cases h
    | val d0 => rw [e] at h; cases h
    | own o => rw [e] at h; cases o <;> cases h
    | exc => exact (A.xc i e).mono (flat_sub A) rfl
open Classical in
end
section
end
end R3


namespace R3
open PySem PySem.Spec PyProof.Rows L2
abbrev Fr := PySem.W.Frag
abbrev Seen := Option (Str × Str × Arguments × FuncBody × Scope × Addr × List (Str × Addr) × Addr)
/-- a def: its place, names, text, defaults -/
structure DefR where
  ad : Fr → Addr
  name : Str
  qual : Str
  params : Arguments
  body : List Stmt
  scope : Scope
  dfl : List V
  kws : List (Str × V)
def seenAt (K : Fr) (p : Addr) : Seen := match K.lookup p with
  | some ⟨_, _, .func f, _⟩ =>
    some (f.name, f.qualname, f.params, f.body, f.scope, f.globals, f.closure, f.builtins)
  | _ => none
def DefR.want (d : DefR) : Seen :=
  some (d.name, d.qual, d.params, .stmts d.body, d.scope, mainGlobals, [], builtinsNs)
def DefR.good (K : Fr) (d : DefR) : Bool := PySem.W.keepIn K (.ref (d.ad K)) && match K.lookup (d.ad K) with
  | some ⟨_, _, .func f, _⟩ => PySem.W.codeIn K f.code d.qual && (He.dflB K f.defaults d.dfl && He.kwdB K f.kwdefaults d.kws)
  | _ => false
abbrev Obs := Bool × List Seen
def obsR (fa : List (Fr → Bool)) (fn : List DefR) (K : Fr) : Obs := ((fa.all fun f => f K) && (fn.all fun d => d.good K), fn.map fun d => seenAt K (d.ad K))
def wantR (fn : List DefR) : Obs := (true, fn.map DefR.want)
def Told (fa : List (Fr → Bool)) (fn : List DefR) (K : Fr) : Prop := obsR fa fn K = wantR fn
def fGlo (x : Str) (K : Fr) : Bool := (He.Fa.glo x).ok K
def fFree (x : Str) (K : Fr) : Bool := (He.Fa.free x).ok K
end R3

namespace R3
open PySem PySem.Spec PyProof.Rows L2
section
end
end R3

namespace R3
open PySem PySem.Spec PyProof.Rows L2
mutual
def eqD : D → D → Bool
  | .non, .non => true
  | .bl a, .bl b => a == b
  | .bl a, .int j => decide ((if a then 1 else 0) = j)
  | .int i, .bl b => decide (i = if b then 1 else 0)
  | .int i, .int j => decide (i = j)
  | .str x, .str y => x == y
  | .tup xs, .tup ys => eqDs xs ys
  | .lst xs, .lst ys => eqDs xs ys
  | _, _ => false
def eqDs : List D → List D → Bool
  | [], [] => true
  | x :: xs, y :: ys => eqD x y && eqDs xs ys
  | _, _ => false
end
mutual
def okN : Nat → D → Bool
  | _, .non => true
  | _, .bl _ => true
  | _, .int _ => true
  | _, .str x => PyData.strOk x
  | n + 1, .tup xs => okNs n xs
  | n + 1, .lst xs => okNs n xs
  | _, _ => false
def okNs : Nat → List D → Bool
  | _, [] => true
  | n, x :: xs => okN n x && okNs n xs
end
section
variable {g : Sg} {X : Cx} {W : WX} {a b e o : Expr} {pos apos : Pos} {fa fb fe fo : FE} {es : List Expr} {fr : FA} {st : Stmt} {ft : FT}
structure Own2 {kn : Bool} (P : Program) (w : World) (mg : Str → Option Value) (base : Heap) (g : Sg) (k : Nat) (c : Nat) (m : Str) (C : Ct) : Prop where
  ex : ∃ f, PySem.W.findIn g.K (.ref (g.ad c)) m = some (some (.ref f)) ∧ PySem.W.isFn g.K (.ref f) = true ∧ FnR P w g.K mg base (CXK kn P w) k f (spOf g 2 C)
/-- (x, ..) * 1 -/
theorem tuple_mul1 (l : Addr) (items : Array Value) (n : Nat) (dd : Option Addr) (sl : Array (Option Value)) (u : Tok) : Meets (Builtin.«tuple.__mul__» ⟨[.ref l, .int 1 u], []⟩) (fun _ R s =>
    s.heap.get? l = some { cls := .type "tuple", dict := dd, data := .seq items n, slots := sl } ∧ R (.ok (.ret (Value.ref l))) s) :=
  .of_wp fun prog w A R s h => by
    obtain ⟨hp, g, d, tk, os⟩ := s
    obtain ⟨hl, h⟩ := h
    have f1 := AutoSeq1.idx_int
    wp_walk using wpAny_loadPart' hl
    have c1 : (items.isEmpty || (1 : Int) == 1) = true := by simp
    repeat (first
      | (refine wpAny_ite_true (decide_eq_true (by rw [c1])) ?_; wp_walk using wpAny_loadPart' hl)
      | (refine wpAny_ite_false (decide_eq_false (by decide)) ?_; wp_walk using wpAny_loadPart' hl))
    exact ⟨_, rfl, h⟩
theorem op_rep1 : OpR X (binaryOp .Mult) (fun x y H Q => ∃ l xs, x = .ref l ∧ y = .int 1 ∧ SqT X.K H l xs ∧ Q (.ref l) H) := by
  intro pins s σ H x y v u Q I rx ry h
  obtain ⟨l, xs, rfl, rfl, hT, q⟩ := h
  cases rx
  obtain ⟨t, rfl⟩ := ry
  obtain ⟨its, r, ⟨⟨cls, dd, data, sl⟩, ho, hc, n, hd⟩, hs⟩ := I.tuple hT
  simp only at hc hd
  subst hc hd
  exact wpAny_binaryOp_repeat_ref (T := "tuple") (U := "int") (by decide) ⟨_, ho, rfl⟩ (fun s' => typeIs_int s' 1 t) noFill_tuple_mul F.fills_int_mul F.slot_int_rmul repeat_tuple F.slot_int_index.lookup
    (call_meets F.slot_int_rmul (typeIs_int s 1 t) F.entry_int_rmul (F.args_int_rmul_2 _ _) (int_rmul_tuple 1 t l its.toArray n dd sl)
      ⟨ho, rfl, ⟨_, ho, rfl⟩, call_meets F.slot_tuple_mul ⟨_, ho, rfl⟩ F.entry_tuple_mul (F.args_tuple_mul_2 _ _) (tuple_mul1 l its.toArray n dd sl t) ⟨ho, .ref l, H, I, rfl, q⟩⟩)
end
section
end
end R3

namespace R3
open PySem PySem.Spec PyProof.Rows L2
section
end
end R3

namespace R3
open PySem PySem.Spec PyProof.Rows L2
def iSeqA (K : Fr) (tl : TE) : TI := fun σ H R => tl σ H fun x H1 => ∃ a, x = .ref a ∧ (((∃ xs, SqL K H1 a xs) ∧ R (Itl K a) H1) ∨ ((∃ xs, SqT K H1 a xs) ∧ R (Itt K a) H1))
theorem pi_seqA {X : Cx} {tg l : Expr} {tl : TE} (hl : PE X l tl) : PI X tg l (iSeqA X.K tl) :=
  ⟨fun pins s σ H R I h => thn (hl.run pins s σ H _ I h) fun v s1 hh => by
    obtain ⟨x, H1, I1, r1, a, e, q1⟩ := hh
    subst e
    cases r1
    have fp : ∀ b ∈ [s1.heap.objs.size], FpOk X pins H1 b := fun b hb => by
      rw [(by simpa using hb : b = s1.heap.objs.size)]
      exact I1.fpOk (Nat.le_refl _) (I1.hok.fresh (Nat.le_refl _))
    rcases q1 with ⟨⟨xs, hq⟩, q⟩ | ⟨⟨xs, hq⟩, q⟩
    · obtain ⟨its, _, p, _⟩ := I1.list hq
      exact wpAny_pyIter_list p.isList ⟨_, _, _, _, H1, rfl, I1.kept (t' := s1.toks) fun b o e => Heap.get?_push_of_some _ e, turn_list a _, ⟨_, Heap.get?_push_size _ rfl, rfl, rfl⟩, fp, q⟩
    · obtain ⟨its, _, p, _⟩ := I1.tuple hq
      exact wpAny_pyIter_tuple (show s1.heap.IsTuple a its.toArray from p) ⟨_, _, _, _, H1, rfl, I1.kept (t' := s1.toks) fun b o e => Heap.get?_push_of_some _ e, turn_tuple a _, ⟨_, Heap.get?_push_size _ rfl, rfl, rfl⟩, fp, q⟩⟩
section
end
def Oth (n : Nat) (S S' : Store) : Prop := S'.length = S.length ∧ ∀ m, m ≠ n → S'[m]? = S[m]?
theorem Oth.refl (n : Nat) (S : Store) : Oth n S S := ⟨rfl, fun _ _ => rfl⟩
theorem Oth.trans {n : Nat} {a b c : Store} (x : Oth n a b) (y : Oth n b c) : Oth n a c := ⟨y.1.trans x.1, fun m h => (y.2 m h).trans (x.2 m h)⟩
end R3

namespace R3
open PySem PySem.Spec PyProof.Rows L2
end R3

namespace R3
open PySem PySem.Spec PyProof.Rows L2

/-- the built-in class below an own error -/
structure Bas (tl : List Value) (newId initId : String) : Prop where
  b : ∃ B, ExcBaseFacts B newId initId tl ∧ StoreFacts B tl "object.__setattr__" "object"
  hh : PySem.W.handedIn (.builtin initId) = true
/-- what the written part says of an error's class -/
structure ErrK (K : Fr) (C fI : Addr) (tl : List Value) (newId : String) (f : Str) : Prop where
  ini : PySem.W.excInitIn K C tl newId = true
  ovr : PySem.W.excOver K C tl = true
  tkr : PySem.W.takerIn K C f = some none
  hd : PySem.W.hasDictIn K C = true
  sa : PySem.W.findIn K (.ref C) "__setattr__" = some (some (.builtin "object.__setattr__"))
  ga : PySem.W.findIn K (.ref C) "__getattribute__" = some (some (.builtin "BaseException.__getattribute__"))
  gg : PySem.W.findIn K (.ref C) "__getattr__" = some none
  nof : PySem.W.findIn K (.ref C) f = some none
  iC : PySem.W.findIn K (.ref C) "__init__" = some (some (.ref fI))
  tI : PySem.W.typeIn K (.ref fI) = some (.type "function")
  kC : PySem.W.keepIn K (.ref C) = true
  exC : PySem.W.subIn K (.ref C) (.type "BaseException") = some true
  tyC : PySem.W.typeIn K (.ref C) = some (.type "type")
section
variable {X : Cx} {pins : List (Addr × Obj)} {σ : L2.St} {H : Hp} {s : Shared} {a C fI : Addr} {f : Str} {y : V} {u : Value} {tl : List Value} {newId initId : String}
/-- how the base is named -/
structure BasOwn (K : Fr) (mg : Str → Option Value) (b : Str) (R : Addr) (initId : String) : Prop where
  g : mg b = some (.ref R)
  sp : PySem.W.specialIn K (.ref R) "__getattribute__" = some (some (.builtin "type.__getattribute__"))
  rd : PySem.W.readsIn K R (.type "type") = true
  fc : PySem.W.findCls K (.ref R) (.type "type") "__init__" = some (.val (.builtin initId))
structure BasTy (K : Fr) (mg : Str → Option Value) (b : Str) (T : String) (initId : String) : Prop where
  g : mg b = none
  bt : bootBuiltins b = some (.type T)
  ty : typeOf (.type T) = pure (.type "type")
  st : Manifest.isStub T = false
  fc : PySem.W.findCls K (.type T) (.type "type") "__init__" = some (.val (.builtin initId))
end
section
variable {X : Cx} {a C fI R : Addr} {f b : Str} {tl : List Value} {newId initId Tn : String} {o e : Expr} {es : List Expr} {to te : TE} {ta : TA} {p p' p1 p2 pos : Pos} {pl : Sem Bool}
/-- what such an __init__ promises -/
def spErr (C : Addr) (f : Str) : Sp := fun vs H Q _ => ∃ (a : Addr) (y : V), vs = [.ref a, y] ∧ H a = some (exo a C none) ∧ ∀ dx, H dx = none → dx ≠ a → Q .non (upd (upd H dx (exd dx [(f, y)])) a (exo a C (some dx)))
/-- an error that can be raised -/
structure Err {kn : Bool} (P : Program) (w : World) (K : Fr) (mg : Str → Option Value) (base : Heap) (x : Str) (C : Addr) (f : Str) : Prop where
  g : mg x = some (.ref C)
  k : ∃ tl newId initId fI, ErrK K C fI tl newId f ∧ Bas tl newId initId ∧ FnR P w K mg base (CXK kn P w) 1 fI (spErr C f)
end
end R3

namespace R3
open PySem PySem.Spec PyProof.Rows L2
section
end
def Sg.held (g : Sg) (X : Xs) : Sg := { g with xs := some X }
section
variable {g : Sg} {Y : Xs} {w : Wd} {ρ : List Sl} {S : Store} {σ : L2.St} {H : Hp}
mutual
theorem Rep.held : ∀ {v : V} {d : D}, Rep g w v d → Rep (g.held Y) w v d
  | _, _, .non => .non
  | _, _, .bl b => .bl b
  | _, _, .int i => .int i
  | _, _, .str x => .str x
  | _, _, .ty n => .ty n
  | _, _, .tup h r => .tup h (Reps.held r)
  | _, _, .lst h r => .lst h (Reps.held r)
  | _, _, .scr h => .scr h
  | _, _, .obj h hl r => .obj h hl (Reps.held r)
  | _, _, .ref h => .ref h
  | _, _, .dic h => .dic h
  | _, _, .cls c => .cls c
  | _, _, .err h hd hl r => .err h hd hl (Reps.held r)
theorem Reps.held : ∀ {vs : List V} {ds : List D}, Reps g w vs ds → Reps (g.held Y) w vs ds
  | _, _, .nil => .nil
  | _, _, .cons h r => .cons (Rep.held h) (Reps.held r)
end
mutual
theorem Rep.unheld : ∀ {v : V} {d : D}, Rep (g.held Y) w v d → Rep g w v d
  | _, _, .non => .non
  | _, _, .bl b => .bl b
  | _, _, .int i => .int i
  | _, _, .str x => .str x
  | _, _, .ty n => .ty n
  | _, _, .tup h r => .tup h (Reps.unheld r)
  | _, _, .lst h r => .lst h (Reps.unheld r)
  | _, _, .scr h => .scr h
  | _, _, .obj h hl r => .obj h hl (Reps.unheld r)
  | _, _, .ref h => .ref h
  | _, _, .dic h => .dic h
  | _, _, .cls c => .cls c
  | _, _, .err h hd hl r => .err h hd hl (Reps.unheld r)
theorem Reps.unheld : ∀ {vs : List V} {ds : List D}, Reps (g.held Y) w vs ds → Reps g w vs ds
  | _, _, .nil => .nil
  | _, _, .cons h r => .cons (Rep.unheld h) (Reps.unheld r)
end
theorem Flds.held : ∀ {vs : List (Str × V)} {ds : List (Str × D)}, Flds g w vs ds → Flds (g.held Y) w vs ds
  | _, _, .nil => .nil
  | _, _, .cons h r => .cons h.held (Flds.held r)
theorem Flds.unheld : ∀ {vs : List (Str × V)} {ds : List (Str × D)}, Flds (g.held Y) w vs ds → Flds g w vs ds
  | _, _, .nil => .nil
  | _, _, .cons h r => .cons h.unheld (Flds.unheld r)
theorem ObjAt.held {a : Addr} {o : SO} (h : ObjAt g w H a o) : ObjAt (g.held Y) w H a o := by
  cases o with
  | lst ds => obtain ⟨vs, e, r⟩ := h; exact ⟨vs, e, r.held⟩
  | ins c ds => obtain ⟨dx, vs, e, hl, r⟩ := h; exact ⟨dx, vs, e, hl, r.held⟩
  | new c x fs => obtain ⟨ea, dx, vs, e, r⟩ := h; exact ⟨ea, dx, vs, e, r.held⟩
theorem ObjAt.unheld {a : Addr} {o : SO} (h : ObjAt (g.held Y) w H a o) : ObjAt g w H a o := by
  cases o with
  | lst ds => obtain ⟨vs, e, r⟩ := h; exact ⟨vs, e, r.unheld⟩
  | ins c ds => obtain ⟨dx, vs, e, hl, r⟩ := h; exact ⟨dx, vs, e, hl, r.unheld⟩
  | new c x fs => obtain ⟨ea, dx, vs, e, r⟩ := h; exact ⟨ea, dx, vs, e, r.unheld⟩
theorem At0.unheld (A : At0 (g.held Y) w S H) : At0 g w S H :=
  ⟨A.if_, A.fh, A.len, fun k o h => ⟨(A.st k o h).1, (A.st k o h).2.unheld⟩, A.inj, rfl, fun i d h => (by cases i <;> cases h), fun i d h => (by cases i <;> cases h), fun i h => (by cases i <;> cases h)⟩
theorem At0.held (A : At0 g w S H) : At0 (g.held Y) w S H :=
  ⟨A.if_, A.fh, A.len, fun k o h => ⟨(A.st k o h).1, (A.st k o h).2.held⟩, A.inj, rfl, fun i d h => (by cases i <;> cases h), fun i d h => (by cases i <;> cases h), fun i h => (by cases i <;> cases h)⟩
end
/-- the ends of a suite in which slot i holds the error -/
def Fin.suite (d : Fin) (i : Nat) : Fin := { nx := fun ρ S => d.nx (Env.put ρ i .no) S, rt := d.rt, bk := fun ρ S => d.bk (Env.put ρ i .no) S, ct := fun ρ S => d.ct (Env.put ρ i .no) S, rl := d.rl }
section
end
end R3

namespace R3
open PySem PySem.Spec PyProof.Rows L2
abbrev TSx := Addr → Value → Option Addr → TS
/-- a clause's test: it tells whether the class is one of these -/
def Tst (X : Cx) (t : Expr) (cs : List Value) : Prop := ∀ {a : Addr} {oe : Obj} {pn : List (Addr × Obj)} {s : Shared} {τ : L2.St} {G : Hp} {cls : Value} {b : Bool} {Q : Bool → Shared → Prop} {E : Value → Shared → Prop},
  Inv (X.suite a ((a, oe) :: pn)) [] τ G s → PySem.W.Looks (model X.prog X.w) s.heap (typeOf (.ref a)) cls → PySem.W.exmAny X.K cls cs = some b → (∀ h', (∀ q o, s.heap.get? q = some o → h'.get? q = some o) → Q b { s with heap := h' }) →
    wpAny (model X.prog X.w) (X.A.mark (some (.ref a))) (eval t X.env) (fun c s1 => wpAny (model X.prog X.w) (X.A.mark (some (.ref a))) (excMatches (.ref a) c) Q E s1) E s
theorem exm_any1 {K : Fr} {cls c : Value} {b : Bool} (h : PySem.W.exmAny K cls [c] = some b) : PySem.W.exmOne K cls c = some b := by
  obtain ⟨b1, d1, h1, h2, rfl⟩ := PySem.W.exmAny_cons h
  cases h2
  rw [h1, Bool.or_false]
theorem tst_name {X : Cx} {x : Str} {c : Value} {np : Pos} (hc : Names X x c) : Tst X (.Name x np) [c] := fun {a oe pn s τ G cls b Q E} I LT hx q => by
  have key := (PySem.W.exm_one (M := model X.prog X.w) I.kIn LT (exm_any1 hx)).here (A := X.A.mark (some (.ref a))) (E := E) (q s.heap fun _ _ z => z)
  obtain ⟨hg, hdb, hm | ⟨hm, hv, hn⟩⟩ := hc
  · exact ld_glob (X := X.suite a ((a, oe) :: pn)) I hg hm key hdb
  · exact ld_blt (X := X.suite a ((a, oe) :: pn)) I hg hm hv key hn hdb
/-- a suite with the error held -/
def SuiteOk (X : Cx) (b : Stmt) (rest : List Stmt) (ts : TSx) : Prop := ∀ (a : Addr) (oe : Obj) (cls : Value) (d : Option Addr) (pn : List (Addr × Obj)), Zc cls d oe → (∃ vs, oe.data = .fields vs) → PSs (X.suite a ((a, oe) :: pn)) (b :: rest) (ts a cls d)
inductive Hnds (kb kn : Bool) (X : Cx) (Wout : WX) : List ExceptHandler → List (List Value × Option Nat × TSx) → Prop
  | nil : Hnds kb kn X Wout [] []
  | plain {t : Expr} {c : List Value} {ts : TSx} {b : Stmt} {rest : List Stmt} {q : Pos} {hs : List ExceptHandler} {l : List (List Value × Option Nat × TSx)} (hc : Tst X t c) (su : SuiteOk X b rest ts) (r : Hnds kb kn X Wout hs l) :
      Hnds kb kn X Wout (.ExceptHandler (some t) none (b :: rest) q :: hs) ((c, none, ts) :: l)
  | plainX {t : Expr} {c : List Value} {ts : TSx} {b : Stmt} {rest : List Stmt} {q : Pos} {hs : List ExceptHandler} {l : List (List Value × Option Nat × TSx)} (hkb : kb = true) (hkn : kn = false) (hc : Tst X t c) (hpa : ∀ hd : Option Value, PassesOwnAt (model X.prog X.w) (X.A.mark hd) X.A X.env X.xe)
      (su : ∀ (a : Addr) (oe : Obj) (cls : Value) (d : Option Addr) (pn : List (Addr × Obj)), Zc cls d oe → (∃ vs, oe.data = .fields vs) → TakesK false (L2H.suiteX X a ((a, oe) :: pn)) Wout → L2H.HotC (L2H.suiteX X a ((a, oe) :: pn)) → PSs (L2H.suiteX X a ((a, oe) :: pn)) (b :: rest) (ts a cls d)) (r : Hnds kb kn X Wout hs l) :
      Hnds kb kn X Wout (.ExceptHandler (some t) none (b :: rest) q :: hs) ((c, none, ts) :: l)
  | named {t : Expr} {n : Str} {i : Nat} {c : List Value} {ts : TSx} {b : Stmt} {rest : List Stmt} {q : Pos} {hs : List ExceptHandler} {l : List (List Value × Option Nat × TSx)} (hc : Tst X t c) (hN : X.N.Nodup) (hi : X.N[i]? = some n) (hl : X.env.kindOf n = some .local) (su : SuiteOk X b rest ts) (r : Hnds kb kn X Wout hs l) :
      Hnds kb kn X Wout (.ExceptHandler (some t) (some n) (b :: rest) q :: hs) ((c, some i, ts) :: l)
  | dead {hs : List ExceptHandler} {ts : TSx} : Hnds kb kn X Wout hs [([.none], none, ts)]
section
variable {X : Cx} {body : List Stmt} {h0 : ExceptHandler} {hds : List ExceptHandler} {l : List (List Value × Option Nat × TSx)} {pos : Pos} {tb : WX → TS} {Wout : WX}
theorem ZK.imp {kb kn : Bool} (h : kn = true → kb = true) {cls : Value} {d : Option Addr} {o : Obj} (z : ZK kb cls d o) : ZK kn cls d o := by
  cases kn
  · exact ZK.zc z
  · rw [h rfl] at z
    exact z
end
structure Hnd where
  cs : Nat → Option Bool
  i : Option Nat
  fs : Exn → FS
/-- a suite that may raise on its own: its errors go where those of the try would go -/
def wRz (b : FS) : FS := fun d ρ S => b { d with ex := d.xo } ρ S
inductive Hds (kb kn : Bool) (g : Sg) (X : Cx) (W : WX) : List ExceptHandler → List Hnd → List (List Value × Option Nat × TSx) → Prop
  | nil : Hds kb kn g X W [] [] []
  | plain {x : Str} {c : Value} {cs : Nat → Option Bool} {fs : Exn → FS} {b : Stmt} {rest : List Stmt} {np q : Pos} {hs : List ExceptHandler} {hn : List Hnd} {l : List (List Value × Option Nat × TSx)} (hc : Names X x c) (hcs : ∀ k b, cs k = some b → PySem.W.exmOne g.K (.ref (g.ad k)) c = some b)
      (su : ∀ (a : Addr) (oe : Obj) (d : Option Addr) (pn : List (Addr × Obj)) (y : Exn), Zc (.ref (g.ad y.c)) d oe → (∃ vs, oe.data = .fields vs) → EB g (X.suite a ((a, oe) :: pn)) W0 (b :: rest) (fs y)) (r : Hds kb kn g X W hs hn l) :
      Hds kb kn g X W (.ExceptHandler (some (.Name x np)) none (b :: rest) q :: hs) (⟨cs, none, fs⟩ :: hn) (([c], none, fun a cls d D σ H => ∃ y : Exn, cls = .ref (g.ad y.c) ∧ rdS g W0 (fs y) D σ H) :: l)
  | plainT {t : Expr} {cv : List Value} {cs : Nat → Option Bool} {fs : Exn → FS} {b : Stmt} {rest : List Stmt} {q : Pos} {hs : List ExceptHandler} {hn : List Hnd} {l : List (List Value × Option Nat × TSx)} (hc : Tst X t cv) (hcs : ∀ k b, cs k = some b → PySem.W.exmAny g.K (.ref (g.ad k)) cv = some b)
      (su : ∀ (a : Addr) (oe : Obj) (d : Option Addr) (pn : List (Addr × Obj)) (y : Exn), Zc (.ref (g.ad y.c)) d oe → (∃ vs, oe.data = .fields vs) → EB g (X.suite a ((a, oe) :: pn)) W0 (b :: rest) (fs y)) (r : Hds kb kn g X W hs hn l) :
      Hds kb kn g X W (.ExceptHandler (some t) none (b :: rest) q :: hs) (⟨cs, none, fs⟩ :: hn) ((cv, none, fun a cls d D σ H => ∃ y : Exn, cls = .ref (g.ad y.c) ∧ rdS g W0 (fs y) D σ H) :: l)
  | plainX {t : Expr} {cv : List Value} {cs : Nat → Option Bool} {fs : Exn → FS} {b : Stmt} {rest : List Stmt} {q : Pos} {hs : List ExceptHandler} {hn : List Hnd} {l : List (List Value × Option Nat × TSx)} (hkb : kb = true) (hkn : kn = false) (hc : Tst X t cv) (hpa : ∀ hd : Option Value, PassesOwnAt (model X.prog X.w) (X.A.mark hd) X.A X.env X.xe) (hcs : ∀ k b, cs k = some b → PySem.W.exmAny g.K (.ref (g.ad k)) cv = some b)
      (su : ∀ (a : Addr) (oe : Obj) (d : Option Addr) (pn : List (Addr × Obj)) (y : Exn), Zc (.ref (g.ad y.c)) d oe → (∃ vs, oe.data = .fields vs) → TakesK false (L2H.suiteX X a ((a, oe) :: pn)) W → L2H.HotC (L2H.suiteX X a ((a, oe) :: pn)) → EB g (L2H.suiteX X a ((a, oe) :: pn)) W (b :: rest) (fs y)) (r : Hds kb kn g X W hs hn l) :
      Hds kb kn g X W (.ExceptHandler (some t) none (b :: rest) q :: hs) (⟨cs, none, fun y => wRz (fs y)⟩ :: hn) ((cv, none, fun a cls d D σ H => ∃ y : Exn, cls = .ref (g.ad y.c) ∧ rdS g W (fs y) D σ H) :: l)
  | named {x n : Str} {i : Nat} {c : Value} {cs : Nat → Option Bool} {fs : Exn → FS} {b : Stmt} {rest : List Stmt} {np q : Pos} {hs : List ExceptHandler} {hn : List Hnd} {l : List (List Value × Option Nat × TSx)} (hc : Names X x c) (hcs : ∀ k b, cs k = some b → PySem.W.exmOne g.K (.ref (g.ad k)) c = some b) (hN : X.N.Nodup) (hi : X.N[i]? = some n) (hl : X.env.kindOf n = some .local)
      (su : ∀ (a : Addr) (oe : Obj) (dd : Addr) (pn : List (Addr × Obj)) (y : Exn), Zc (.ref (g.ad y.c)) (some dd) oe → (∃ vs, oe.data = .fields vs) → EB (g.held ⟨i, a, dd, y⟩) (X.suite a ((a, oe) :: pn)) W0 (b :: rest) (fs y)) (r : Hds kb kn g X W hs hn l) :
      Hds kb kn g X W (.ExceptHandler (some (.Name x np)) (some n) (b :: rest) q :: hs) (⟨cs, some i, fs⟩ :: hn) (([c], some i, fun a cls d D σ H => ∃ (y : Exn) (dd : Addr), cls = .ref (g.ad y.c) ∧ d = some dd ∧ rdS (g.held ⟨i, a, dd, y⟩) W0 (fs y) D σ H) :: l)
  | dead {hs : List ExceptHandler} {fs : Exn → FS} : Hds kb kn g X W hs [⟨fun _ => none, none, fs⟩] [([.none], none, fun _ _ _ _ _ _ => False)]
theorem Hds.to {kb kn : Bool} {g : Sg} {X : Cx} {W : WX} : ∀ {hs : List ExceptHandler} {hn : List Hnd} {l : List (List Value × Option Nat × TSx)}, Hds kb kn g X W hs hn l → Hnds kb kn X W hs l
  | _, _, _, .nil => .nil
  | _, _, _, .dead => .dead
  | _, _, _, .plain hc hcs su r => .plain (tst_name hc) (fun a oe cls d pn hz hv => ⟨fun pins s σ H D I ⟨y, e1, q⟩ => by subst e1; exact (su a oe d pn y hz hv).run pins s σ H D I q⟩) r.to
  | _, _, _, .plainT hc hcs su r => .plain hc (fun a oe cls d pn hz hv => ⟨fun pins s σ H D I ⟨y, e1, q⟩ => by subst e1; exact (su a oe d pn y hz hv).run pins s σ H D I q⟩) r.to
  | _, _, _, .plainX hkb hkn hc hpa hcs su r => .plainX hkb hkn hc hpa (fun a oe cls d pn hz hv tk hot => ⟨fun pins s σ H D I ⟨y, e1, q⟩ => by subst e1; exact (su a oe d pn y hz hv tk hot).run pins s σ H D I q⟩) r.to
  | _, _, _, .named hc hcs hN hi hl su r => .named (tst_name hc) hN hi hl (fun a oe cls d pn hz hv => ⟨fun pins s σ H D I ⟨y, dd, e1, e2, q⟩ => by subst e1 e2; exact (su a oe dd pn y hz hv).run pins s σ H D I q⟩) r.to
section
end
end R3

namespace R3
open PySem PySem.Spec PyProof.Rows L2
section
open PySem.W PySem.Calls
variable {prog : Program} {w : World} {A : Around} {E : Value → Shared → Prop} {s : Shared} {K : Fr} {x D : Addr} {ox : Obj} {od : Option Obj}
theorem find_desc {name : Str} {a g : Value} {C : Addr} (hc : (clsIn K C).isSome = true) (ha : findIn K (.ref C) name = some (some a)) (hg : specialIn K a "__get__" = some (some g)) (ht : takesIn K a = some true) : findObj K C od name = some (.bind g a) := by
  obtain ⟨cd, e⟩ := Option.isSome_iff_exists.mp hc
  unfold findObj
  rw [e, Option.bind_some, ha, Option.bind_some]
  simp [hg, ht]
/-- an error's __class__ -/
theorem class_of_exc {Q : Option Value → Shared → Prop} (C : ExcC K D) (X : K.In s.heap) (I : InstAt s.heap x ox D od) (h : Q (some (.ref D)) { s with toks := s.toks + 1 }) : wpAny (model prog w) A (getAttr? (.ref x) "__class__") Q E s := by
  have hf : findObj K D od "__class__" = some (.bind (.builtin "getset_descriptor.__get__") (.builtin "object.__class__")) := find_desc (by obtain ⟨cd, hc, _⟩ := any_some C.hd; rw [hc]; rfl) C.ha C.hn C.ht
  obtain ⟨hp, g, d, t, os⟩ := s
  have ty := I.type (M := model prog w)
  have find := looks_find (M := model prog w) X I hf
  have sub : Looks (model prog w) hp (isInstance (.ref x) (.type "BaseException")) true := ty.andThen (looks_subIn X C.hs)
  have no1 : (Value.builtin "BaseException.__getattribute__" == Value.builtin "object.__getattribute__") = false := by decide +kernel
  unfold getAttr? getAttrBy? getAttrBy
  refine wpAny_bind (wpAny_mkText (wpAny_bind (wpAny_attempt (wpAny_holding (wpAny_bind (ty.at (wpAny_bind ((looks_findIn (M := model prog w) X C.hg).at ?_))))))))
  show wpAny _ _ (if (onTheHeap (Value.ref D) && Value.builtin "BaseException.__getattribute__" == Value.builtin "object.__getattribute__") = true then _ else _) _ _ _
  rw [no1, Bool.and_false, if_neg Bool.false_ne_true]
  unfold getAttrByItsOwn hookBefore
  refine wpAny_bind ?_
  rw [if_pos (show onTheHeap (Value.ref D) = true from rfl)]
  refine (looks_findIn (M := model prog w) X C.hk).at ?_
  refine wpAny_bind (wpAny_attempt (wpAny_holding ?_))
  unfold callGetattribute
  rw [show (false && onTheHeap (Value.builtin "BaseException.__getattribute__")) = false from rfl, if_neg Bool.false_ne_true]
  unfold boundAndCalled
  rw [PySem.F.excAttr_ValueError.ga.bind (.ref x)]
  refine wpAny_bind (wpAny_pure ?_)
  show wpAny _ _ (call (.builtin "BaseException.__getattribute__") [.ref x, .str "__class__" t]) _ _ _
  refine wpAny_call (codeAny_call_builtin PySem.F.excAttr_ValueError.ga.plain PySem.F.entry_bexc_ga ?_)
  refine @check_slot (model prog w) _ _ ⟨hp, g, d, t + 1, os⟩ "BaseException.__getattribute__" "BaseException" "__getattribute__" (.ref x) [.str "__class__" t] [] _ (by decide +kernel) (by decide +kernel) sub (PySem.F.args_bexc_ga (.ref x) (.str "__class__" t)) ?_
  unfold Builtin.«object.__getattribute__»
  refine wpAny_bind (wpAny_of_eq (a := ((Value.ref x : Value), [Value.str "__class__" t])) (by first | rfl | (simp only [slotArgs]; rfl)) ?_)
  refine wpAny_bind (wpAny_pure (wpAny_bind (ty.at (wpAny_bind (find.at ?_)))))
  show wpAny _ _ (holding [Value.builtin "object.__class__"] (call (.builtin "getset_descriptor.__get__") [.builtin "object.__class__", .ref x, .ref D]) >>= ret) _ _ _
  refine wpAny_bind (wpAny_holding (wpAny_call (class_get (s := ⟨hp, g, d, t + 1, os⟩) (ox := ox) (od := od) X I C.hm ?_)))
  refine wpAny_pure ?_
  show wpAny _ _ (handedOut (.ref D)) _ _ _
  rw [handedOut_of (v := .ref D) rfl]
  first
    | exact wpAny_pure (wpAny_pure h)
    | exact wpAny_pure h
    | exact wpAny_pure (wpAny_bind (wpAny_pure (wpAny_pure h)))
theorem kit_exc (C : ExcC K D) : KitX K (.ref x) (.ref D) (fun h => ∃ od, InstAt h x ox D od) where
  ty := fun _ _ _ ⟨_, I⟩ => I.type
  it := fun _ _ X _ => by
    obtain ⟨cdD, hcD, _⟩ := any_some C.hd
    unfold clsIn at hcD
    split at hcD
    · rename_i c' d' cd' sl' ho
      intro A' Q' E' s' k q
      unfold isType loadHead
      exact wpAny_bind (wpAny_loadPart (k _ _ (X _ _ ho)) (wpAny_pure q))
    · cases hcD
  ne := fun h tp dd its n sl X htp => by
    obtain ⟨cdD, hcD, _⟩ := any_some C.hd
    refine Bool.eq_false_iff.mpr fun q => ?_
    have e : D = tp := Value.ref.inj (beq_iff_eq.mp q)
    subst e
    unfold clsIn at hcD
    split at hcD
    · rename_i c' d' cd' sl' ho
      exact absurd ((X _ _ ho).symm.trans htp) (fun z => nomatch z)
    · cases hcD
  ca := fun X ⟨_, I⟩ k => class_of_exc C X I k
end
section
end
theorem spOf_held {g : Sg} {Y : Xs} {n : Nat} {C : Ct} {vs : List V} {H : Hp} {Q : VK} {E : XK} (h : spOf (g.held Y) n C vs H Q E) : spOf g n C vs H Q E := by
  obtain ⟨w, ds, S, K, ex, hn, A, r, ko, xo, q⟩ := h
  exact ⟨w, ds, S, K, ex, hn, A.unheld, r.unheld, fun d S' k v w' H' l A' rr => ko d S' k v w' H' l A'.held rr.held, fun x S' e w' H' cls dd l A' ⟨h1, p, us, h2, h3, h4, h5⟩ => xo x S' e w' H' cls dd l A'.held ⟨h1, p, us, h2, h3, h4, h5.held⟩, q⟩
theorem spOfL_held {g : Sg} {Y : Xs} {n : Nat} {C : CtL} {vs : List V} {H : Hp} {Q : VK} {E : XK} (h : spOfL (g.held Y) n C vs H Q E) : spOfL g n C vs H Q E := by
  obtain ⟨w, ds, S, K, ex, hn, A, r, ko, xo, q⟩ := h
  exact ⟨w, ds, S, K, ex, hn, A.unheld, r.unheld, fun d S' k v us w' H' l A' hH fr rr => ko d S' k v us w' H' l A'.held hH fr rr.held, fun x S' e w' H' cls dd l A' ⟨h1, p, us, h2, h3, h4, h5⟩ => xo x S' e w' H' cls dd l A'.held ⟨h1, p, us, h2, h3, h4, h5.held⟩, q⟩
section
variable {P : Program} {w : World} {mg : Str → Option Value} {base : Heap} {g : Sg} {Y : Xs} {k n c : Nat} {x m : Str}
theorem Cal.held {C : Ct} (F : Cal (kn := kn) P w mg base g k x n C) : Cal (kn := kn) P w mg base (g.held Y) k x n C := by
  obtain ⟨f, h1, h2, h3⟩ := F.ex
  exact ⟨f, h1, h2, h3.imp fun vs H Q E h => spOf_held h⟩
theorem CalL.held {C : CtL} (F : CalL (kn := kn) P w mg base g k x n C) : CalL (kn := kn) P w mg base (g.held Y) k x n C := by
  obtain ⟨f, h1, h2, h3⟩ := F.ex
  exact ⟨f, h1, h2, h3.imp fun vs H Q E h => spOfL_held h⟩
theorem Met.held {C : Ct} (F : Met (kn := kn) P w mg base g k c m n C) : Met (kn := kn) P w mg base (g.held Y) k c m n C := by
  obtain ⟨f, h1, h3⟩ := F.ex
  exact ⟨f, h1, h3.imp fun vs H Q E h => spOf_held h⟩
theorem Prp.held {C : Ct} (F : Prp (kn := kn) P w mg base g k c m C) : Prp (kn := kn) P w mg base (g.held Y) k c m C := by
  obtain ⟨p, f, h1, h3⟩ := F.ex
  exact ⟨p, f, h1, h3.imp fun vs H Q E h => spOf_held h⟩
theorem Own2.held {C : Ct} (F : Own2 (kn := kn) P w mg base g k c m C) : Own2 (kn := kn) P w mg base (g.held Y) k c m C := by
  obtain ⟨f, h1, h2, h3⟩ := F.ex
  exact ⟨f, h1, h2, h3.imp fun vs H Q E h => spOf_held h⟩
end
end R3

namespace R3
open PySem PySem.Spec PyProof.Rows L2
def kP : Key → PyData
  | .inl i => .int i
  | .inr x => .str x
def kz : Key → Bool
  | .inl _ => true
  | .inr x => decide ((PyData.str x).shown.length ≤ sizeLine)
def toPs : D → Option PyData
  | .dic kvs => some (.dict (kvs.map fun p => (kP p.1, .int p.2)))
  | d => toPy d
/-- it can be shown, in at most n signs -/
def Shw (n : Nat) (d : D) : Prop := ∃ p, toPs d = some p ∧ p.showable = true ∧ p.depth ≤ 8 ∧ p.shown.length ≤ n
theorem Shw.mono {n m : Nat} {d : D} (h : Shw n d) (hm : n ≤ m) : Shw m d := by
  obtain ⟨p, h1, h2, h3, h4⟩ := h
  exact ⟨p, h1, h2, h3, Nat.le_trans h4 hm⟩
section
variable {g : Sg} {X : Cx} {W : WX} {pins : List (Addr × Obj)} {w : Wd} {ρ : List Sl} {S : Store} {σ : L2.St} {H : Hp} {s : Shared}
end
section
variable {g : Sg} {X : Cx} {W : WX} {e a b : Expr} {es : List Expr} {fe fa fb : FE} {pos : Pos}
/-- the parts -/
inductive EJ (g : Sg) (X : Cx) (W : WX) : List Expr → List FE → Prop where
  | nil : EJ g X W [] []
  | cons {e : Expr} {f : FE} {es : List Expr} {fs : List FE} (h : EV g X W e f) (r : EJ g X W es fs) : EJ g X W (e :: es) (f :: fs)
end
end R3

namespace R3
open PySem PySem.Spec PyProof.Rows L2
/-- a special method -/
structure OwnN {kn : Bool} (P : Program) (w : World) (mg : Str → Option Value) (base : Heap) (g : Sg) (k : Nat) (c : Nat) (m : Str) (n : Nat) (C : Ct) : Prop where
  ex : ∃ f, PySem.W.findIn g.K (.ref (g.ad c)) m = some (some (.ref f)) ∧ PySem.W.isFn g.K (.ref f) = true ∧ FnR P w g.K mg base (CXK kn P w) k f (spOf g n C)
abbrev RX := D → D → Store → KD → KX → Prop
def OpX (g : Sg) (X : Cx) (W : WX) (sem : Value → Value → Sem Value) (r : RX) : Prop :=
  ∀ (pins : List (Addr × Obj)) (s : Shared) (σ : L2.St) (H : Hp) (w : Wd) (ρ : List Sl) (S : Store) (x y : D) (vx vy : V) (u v : Value) (K : KD) (ex : KX) (Q : VK), Inv X pins σ H s → RelV vx u → RelV vy v → At g w ρ S σ H → Rep g w vx x → Rep g w vy y →
    XOk g W σ ρ w ex → KOk g w ρ σ K Q → r x y S K ex → wpAny (model X.prog X.w) X.A (sem u v) (EP X pins σ Q) X.xe s
section
variable {g : Sg} {X : Cx} {W : WX} {a b c e : Expr} {pos : Pos} {fa fb fe : FE}
theorem OpX.of {sem : Value → Value → Sem Value} {r : RD} (h : OpD g X sem r) : OpX g X W sem (fun x y S K _ => r x y S K) := fun pins s σ H w ρ S x y vx vy u v K ex Q I ru rv A rx ry _ ko q => h pins s σ H w ρ S x y vx vy u v K Q I ru rv A rx ry ko q
/-- what may stand at the right -/
def rightD (c : Nat) : D → Bool
  | .obj c' _ => c' == c
  | .ty _ => false
  | .cls _ => false
  | .err _ _ => false
  | .ref _ => false
  | _ => true
end
end R3

namespace R3
open PySem PySem.Spec PyProof.Rows L2
section
variable {g : Sg} {X : Cx} {W : WX} {a b e o j : Expr} {pos apos cpos p : Pos} {fa fb fe fj fo : FE} {fr : FA} {x : Str}
def intsOf : List D → Option (List Int)
  | [] => some []
  | .int i :: r => (intsOf r).map (i :: ·)
  | _ => none
end
end R3

namespace R3
open PySem PySem.Spec PyProof.Rows L2
def fErr (x f : Str) (tl : List Value) (newId : String) (K : Fr) : Bool :=
  PySem.W.excInitIn K (He.ga K x) tl newId && (PySem.W.excOver K (He.ga K x) tl && (decide (PySem.W.takerIn K (He.ga K x) f = some none) && (PySem.W.hasDictIn K (He.ga K x) &&
  (He.eqO (PySem.W.findIn K (.ref (He.ga K x)) "__setattr__") (some (some (.builtin "object.__setattr__"))) && (He.eqO (PySem.W.findIn K (.ref (He.ga K x)) "__getattribute__") (some (some (.builtin "BaseException.__getattribute__"))) &&
  (He.eqO (PySem.W.findIn K (.ref (He.ga K x)) "__getattr__") (some none) && (He.eqO (PySem.W.findIn K (.ref (He.ga K x)) f) (some none) && (He.eqO (PySem.W.findIn K (.ref (He.ga K x)) "__init__") (some (some (.ref (He.ma K (He.ga K x) "__init__")))) &&
  (decide (PySem.W.typeIn K (.ref (He.ma K (He.ga K x) "__init__")) = some (.type "function")) && (PySem.W.keepIn K (.ref (He.ga K x)) && (decide (PySem.W.subIn K (.ref (He.ga K x)) (.type "BaseException") = some true) && decide (PySem.W.typeIn K (.ref (He.ga K x)) = some (.type "type")))))))))))))
def isVal (f : Option PySem.W.CFound) (id : String) : Bool := match f with
  | some (.val (.builtin n)) => n == id
  | _ => false
def fBO (b : Str) (initId : String) (K : Fr) : Bool := decide (PySem.W.specialIn K (.ref (He.ga K b)) "__getattribute__" = some (some (.builtin "type.__getattribute__"))) && (PySem.W.readsIn K (He.ga K b) (.type "type") && isVal (PySem.W.findCls K (.ref (He.ga K b)) (.type "type") "__init__") initId)
def fBT (T : String) (initId : String) (K : Fr) : Bool := isVal (PySem.W.findCls K (.type T) (.type "type") "__init__") initId
def fExcC (x : Str) (K : Fr) : Bool := He.eqO (PySem.W.findIn K (.ref (He.ga K x)) "__getattribute__") (some (some (.builtin "BaseException.__getattribute__"))) && (He.eqO (PySem.W.findIn K (.ref (He.ga K x)) "__getattr__") (some none) && (decide (PySem.W.subIn K (.ref (He.ga K x)) (.type "BaseException") = some true) &&
  (PySem.W.hasDictIn K (He.ga K x) && (He.eqO (PySem.W.findIn K (.ref (He.ga K x)) "__class__") (some (some (.builtin "object.__class__"))) && (decide (PySem.W.specialIn K (.builtin "object.__class__") "__get__" = some (some (.builtin "getset_descriptor.__get__"))) &&
  (decide (PySem.W.takesIn K (.builtin "object.__class__") = some true) && decide (PySem.W.mroIn K (He.ga K x) (.type "object") = some true)))))))
def fXis (nm : Nat → Str) (t : Fr → Value) (l : List (Nat × Bool)) (K : Fr) : Bool := l.all fun q => fExcC (nm q.1) K && decide (PySem.W.kitOne K (.ref (He.ga K (nm q.1))) (t K) = some q.2)
def fXf (nm : Nat → Str) (f : Str) (cs : List Nat) (K : Fr) : Bool := cs.all fun c => xfB K (He.ga K (nm c)) && He.eqO (PySem.W.findIn K (.ref (He.ga K (nm c))) f) (some none)
section
end
end R3

namespace R3
open PySem PySem.Spec PyProof.Rows L2
section
end
end R3

namespace R3
open PySem PySem.Spec PyProof.Rows L2
section
end
end R3

namespace R3
open PySem PySem.Spec PyProof.Rows L2
section
end
end R3

namespace R3
open PySem PySem.Spec PyProof.Rows L2
/-- room, whatever is handled -/
structure RoomN (k : Nat) (A : Around) : Prop where
  rm : L2H.RoomH k A
  gd : A.guards = some []
theorem RoomN.mono {j k : Nat} {A : Around} (r : RoomN k A) (h : j ≤ k) : RoomN j A := ⟨r.rm.mono h, r.gd⟩
theorem RoomN.deeper {k : Nat} {A : Around} (r : RoomN (k + 1) A) (env : PySem.Env) : RoomN k (A.deeper env) := ⟨r.rm.deeper env, r.gd⟩
theorem RoomN.in1 {k : Nat} {A : Around} (r : RoomN (k + 1) A) : RoomN k A.in1 := ⟨⟨by have := r.rm.dp; show A.depth + 3 * k + 5 < _; omega, by have := r.rm.un; show A.units + 1 + 16 * k + 200 < _; omega⟩, r.gd⟩
theorem RoomN.units {k : Nat} {A : Around} (r : RoomN k A) : A.units + 64 < cLine := by have := r.rm.un; omega
theorem Room.n {k : Nat} {A : Around} (r : Room k A) : RoomN k A := ⟨L2H.roomH_of r.toRoom, r.gd⟩
theorem Room.held {k : Nat} {A : Around} (r : Room k A) (h : Option Value) : RoomN k (A.mark h) := ⟨⟨r.toRoom.dp, r.toRoom.un⟩, r.gd⟩
/-- a def's promise there -/
def FnN (P : Program) (w : World) (K : PySem.W.Frag) (mg : Str → Option Value) (base : Heap) (CX : CXT) (k : Nat) (f : Addr) (sp : Sp) : Prop :=
  ∀ (A : Around) (outer : List PySem.Env) (s : Shared) (H : Hp) (us : List Value) (vs : List V) (Q : VK) (E : XK) (p : Addr × Obj), RoomN k A → L2H.PinOk outer H s p → Env0 P w K mg base A outer s H → Vals vs us → sp vs H Q E → codeAny (model P w) A (.call (.ref f) ⟨us, []⟩) (CR CX outer P w H s Q E) s
section
variable {P : Program} {w : World} {K : PySem.W.Frag} {mg : Str → Option Value} {base : Heap} {CX : CXT} {j k : Nat} {f : Addr} {fd : FuncData} {ps : List Str} {sp sp' : Sp}
theorem FunD.okN {x qual : Str} {params : Arguments} {body : List Stmt} {scope : Scope} {dvs : List V} {kws : List (Str × V)} {N : List Str} (F : FunD K x qual params body scope dvs kws f fd) (hb : Binds K fd ps []) (S : FnScope N ps scope) (len : ∀ vs H Q E, sp vs H Q E → vs.length = ps.length)
    (hbody : ∀ (cdv : Value) (A : Around) (outer : List PySem.Env) (s : Shared) (H : Hp) (vs : List V) (Q : VK) (E : XK) (p : Addr × Obj), RoomN k (A.deeper (envOfC qual scope s.heap.objs.size f cdv)) → sp vs H Q E →
      ∃ t, PSs (L2H.cxH CX P w K mg base N qual scope f cdv A outer s H E p) body t ∧ t { nx := fun _ H' => Q .non H', rt := Q } (start N vs) H) : FnN P w K mg base CX (k + 1) f sp := by
  obtain ⟨oc, od, dV, kV, doc, pm, an, cdv, ct, osl, rfl, lk, hcd, _, _⟩ := F.ex
  intro A outer s H us vs Q E p hr hpin e0 r hsp
  have hl := len _ _ _ _ hsp
  have KX : K.In s.heap := e0.mod.kin.keeps fun b o e => (e0.bs b o e).1
  have b := hb s us KX (by rw [List.append_nil, ← r.length]; exact hl)
  rw [List.append_nil] at b
  have kinds : ∀ y ∈ ps.zip us, scope.names.lookup y.1 = some .local ∨ (scope.names.lookup y.1 = some .cell ∧ ((cellsFrom (s.heap.objs.size + 1) scope.names []).lookup y.1).isSome = true) := fun ⟨n, v⟩ hy =>
    (S.par n (List.of_mem_zip hy).1).imp id fun q => ⟨q, PySem.W.cellsFrom_some _ _ _ (.inl q)⟩
  refine codeAny_call_function hr.rm.depth (KX _ _ lk) rfl S.co S.gen rfl (PySem.W.codeRec_of KX hcd) (b _ _ _ _ ?_)
  refine wpAny_newFunctionEnv_cells S.kind kinds fun env he s1 x => ?_
  subst he
  refine ⟨(e0.mod.nolimit.keeps fun b o e => (e0.bs b o e).1).keeps x.toInCall.keep, codeAny_func ?_⟩
  obtain ⟨t, ht, hq⟩ := hbody cdv A outer s H vs Q E p (hr.deeper _) hsp
  have I : Inv (L2H.cxH CX P w K mg base N qual scope f cdv A outer s H E p) [] (start N vs) H s1 := L2H.inv_startH S hpin e0 hl r x
  refine wpAny_mono (ht.run [] s1 (start N vs) H _ I hq) (fun fl s' hs => ?_) fun e s' hs => hs
  have fin : ∀ {σ' : L2.St} {H' : Hp} {v : V} {u : Value}, Inv (L2H.cxH CX P w K mg base N qual scope f cdv A outer s H E p) [] σ' H' s' → RelV v u → Q v H' → CE outer P w H s Q u s' := fun {σ' H' v u} J rv q => ⟨v, H', J.os, J.bare, J.base, J.hok, rv, q⟩
  cases fl with
  | ret u => obtain ⟨v, σ', H', J, rv, q⟩ := hs; exact fin J rv q
  | next => obtain ⟨σ', H', J, q⟩ := hs; exact fin (v := V.non) (u := Value.none) J rfl q
  | brk => obtain ⟨_, _, _, q⟩ := hs; exact q.elim
  | cont => obtain ⟨_, _, _, q⟩ := hs; exact q.elim
end
section
end
section
variable {g : Sg} {X : Cx} {W : WX} {a b c e : Expr} {pos : Pos} {fa fb fe : FE} {es : List Expr} {fr : FA}
/-- a special method, called where an error is held -/
structure OwnH {kn : Bool} (P : Program) (w : World) (mg : Str → Option Value) (base : Heap) (g : Sg) (k : Nat) (c : Nat) (m : Str) (n : Nat) (C : Ct) : Prop where
  ex : ∃ f, PySem.W.findIn g.K (.ref (g.ad c)) m = some (some (.ref f)) ∧ PySem.W.isFn g.K (.ref f) = true ∧ FnN P w g.K mg base (CXK kn P w) k f (spOf g n C)
theorem OwnH.held {P : Program} {w : World} {mg : Str → Option Value} {base : Heap} {g : Sg} {Y : Xs} {k c n : Nat} {m : Str} {C : Ct} (F : OwnH (kn := kn) P w mg base g k c m n C) : OwnH (kn := kn) P w mg base (g.held Y) k c m n C := by
  obtain ⟨f, h1, h2, h3⟩ := F.ex
  exact ⟨f, h1, h2, fun A outer s H us vs Q E p hr hp e0 r h => h3 A outer s H us vs Q E p hr hp e0 r (spOf_held h)⟩
theorem OwnN.held {P : Program} {w : World} {mg : Str → Option Value} {base : Heap} {g : Sg} {Y : Xs} {k c n : Nat} {m : Str} {C : Ct} (F : OwnN (kn := kn) P w mg base g k c m n C) : OwnN (kn := kn) P w mg base (g.held Y) k c m n C := by
  obtain ⟨f, h1, h2, h3⟩ := F.ex
  exact ⟨f, h1, h2, h3.imp fun vs H Q E h => spOf_held h⟩
end
end R3

namespace R3
open PySem PySem.Spec PyProof.Rows L2
section
end
end R3

namespace R3
open PySem PySem.Spec PyProof.Rows L2
section
end
/-- a def's promise by positional values and keywords, as written -/
def FnK (P : Program) (w : World) (K : PySem.W.Frag) (mg : Str → Option Value) (base : Heap) (CX : CXT) (k : Nat) (f : Addr) (n : Nat) (ks : List Str) (sp : Sp) : Prop :=
  ∀ (A : Around) (outer : List PySem.Env) (s : Shared) (H : Hp) (us ws : List Value) (vs zs : List V) (Q : VK) (E : XK), Room k A → Env0 P w K mg base A outer s H → Vals vs us → Vals zs ws → vs.length = n → zs.length = ks.length → sp (vs ++ zs) H Q E →
    codeAny (model P w) A (.call (.ref f) ⟨us, ks.zip ws⟩) (CR CX outer P w H s Q E) s
section
variable {P : Program} {w : World} {K : PySem.W.Frag} {mg : Str → Option Value} {base : Heap} {CX : CXT} {k n : Nat} {f : Addr} {fd : FuncData} {ps ks : List Str} {sp sp' : Sp} {gg : List Value → List Value → List Value} {gV : List V → List V → List V}
theorem FnOk.kw (F : FnOk P w K mg base CX k f fd ps sp) (hb : KBn K fd ps n ks gg gV) (hsp : ∀ vs zs H Q E, vs.length = n → zs.length = ks.length → sp' (vs ++ zs) H Q E → sp (gV vs zs) H Q E) : FnK P w K mg base CX k f n ks sp' := fun A outer s H us ws vs zs Q E hr e0 r rz l1 l2 h =>
  F.run A outer s H ⟨us, ks.zip ws⟩ (gg us ws) (gV vs zs) Q E hr e0 (hb.to s us ws (e0.mod.kin.keeps fun b o e => (e0.bs b o e).1) (r.length.symm.trans l1) (rz.length.symm.trans l2)) (hb.rel r rz) (hsp vs zs H Q E l1 l2 h)
end
section
end
section
variable {g : Sg} {X : Cx} {W : WX} {e o : Expr} {es : List Expr} {kws : List Keyword} {fe fo : FE} {fr fk : FA} {pos apos kpos p : Pos} {nm : Option Str}
theorem PK.imp {X : Cx} {e : List Keyword} {t t' : TA} (h : PK X e t) (k : ∀ σ H Q, t' σ H Q → t σ H Q) : PK X e t' := ⟨fun pos pins s σ H Q I q => h.run pos pins s σ H Q I (k σ H Q q)⟩
/-- a method by keywords -/
structure MetK {kn : Bool} (P : Program) (w : World) (mg : Str → Option Value) (base : Heap) (g : Sg) (k : Nat) (c : Nat) (m : Str) (n : Nat) (ks : List Str) (C : Ct) : Prop where
  ex : ∃ f, Meth g.K (g.ad c) m f ∧ FnK P w g.K mg base (CXK kn P w) k f n ks (spOf g (n + ks.length) C)
end
section
end
end R3

namespace R3
open PySem PySem.Spec PyProof.Rows L2 HT
section
end
section
variable {g : Sg} {X : Cx} {W : WX} {e : Expr} {fe : FE} {pos : Pos}
end
end R3

namespace R3
open PySem PySem.Spec PyProof.Rows L2
section
end
section
variable {g : Sg} {X : Cx} {W : WX}
end
end R3

namespace R3
open PySem PySem.Spec PyProof.Rows L2
section
end
end R3

namespace R3
open PySem PySem.Spec PyProof.Rows L2
section
variable {g : Sg} {X : Cx} {W : WX}
end
end R3

namespace R3
open PySem PySem.Spec PyProof.Rows L2
section
variable {prog : Program} {w : World} {A : Around} {E : Value → Shared → Prop} {s : Shared} {K : Fr} {x C L f dx : Addr} {h₀ : Heap} {m : Str → Option Value} {i : Int} {t : Tok} {ox : Obj} {od : Option Obj}
/-- the slot of int that answers a comparison -/
structure IntCmp (op : CmpOp) (id : String) (name : String) (fn : Int → Int → Sem PySem.Fin) : Prop where
  slot : Slot "int" (cmpInfo op).2.1 id
  entry : entryFor table id = some (Builtin.Int.intBinary name fn false)
  args : ∀ a b, argsOk id ⟨[a, b], []⟩
end
section
variable {g : Sg} {X : Cx} {W : WX}
end
end R3

namespace R3
open PySem PySem.Spec PyProof.Rows L2
section
end
section
end
section
end
structure MakK {kn : Bool} (P : Program) (w : World) (mg : Str → Option Value) (base : Heap) (g : Sg) (k : Nat) (x : Str) (c : Nat) (ks : List Str) (C : Ct) : Prop where
  ex : ∃ f, mg x = some (.ref (g.ad c)) ∧ Mk g.K (g.ad c) f ∧ FnK P w g.K mg base (CXK kn P w) k f 1 ks (spInit g c ks.length C)
section
end
section
variable {g : Sg} {X : Cx} {W : WX} {a b e o : Expr} {pos apos : Pos} {fa fb fe fo : FE} {es : List Expr} {kws : List Keyword} {fr fk : FA} {st : Stmt}
structure CalK {kn : Bool} (P : Program) (w : World) (mg : Str → Option Value) (base : Heap) (g : Sg) (k : Nat) (x : Str) (ks : List Str) (C : Ct) : Prop where
  ex : ∃ f, mg x = some (.ref f) ∧ PySem.W.keepIn g.K (.ref f) = true ∧ FnK P w g.K mg base (CXK kn P w) k f 0 ks (spOf g (0 + ks.length) C)
structure CalLK {kn : Bool} (P : Program) (w : World) (mg : Str → Option Value) (base : Heap) (g : Sg) (k : Nat) (x : Str) (ks : List Str) (C : CtL) : Prop where
  ex : ∃ f, mg x = some (.ref f) ∧ PySem.W.keepIn g.K (.ref f) = true ∧ FnK P w g.K mg base (CXK kn P w) k f 0 ks (spOfL g (0 + ks.length) C)
end
end R3

namespace R3
open PySem PySem.Spec PyProof.Rows L2
/-- the slot of int that answers an operator -/
structure IntBin (op : Operator) (id : String) (name : String) (fn : Int → Int → Sem PySem.Fin) : Prop where
  slot : Slot "int" (PySem.dunder op.info.2) id
  entry : entryFor table id = some (Builtin.Int.intBinary name fn false)
  args : ∀ a b, argsOk id ⟨[a, b], []⟩
  fills : fillsNumberSlot (.type "int") op.info.2 = pure true
section
end
section
variable {g : Sg} {X : Cx} {W : WX}
end
end R3

namespace R3
open PySem PySem.Spec PyProof.Rows L2
/-- an iterator of tuples that are kept; S is the list that keeps them -/
structure Kept (prog : Program) (w : World) (A : Around) (S z : Addr) (ty : String) (wr : List Addr) (n : Nat) (P : Nat → Array Value → Prop) (St : Nat → Heap → Prop) : Prop where
  typ : ∀ i (s : Shared), St i s.heap → s.TypeIs (.ref z) ty
  out : S ∉ wr
  frame : ∀ i h h', St i h → (∀ b o, b ≠ S → h.get? b = some o → h'.get? b = some o) → St i h'
  item : ∀ i (s : Shared) (Q : Option Value → Shared → Prop) (E : Value → Shared → Prop), i < n → St i s.heap → S < s.heap.objs.size →
    (∀ vals h' tk, P i vals → h'.get? s.heap.objs.size = some { cls := .type "tuple", data := .seq vals } → h'.objs.size = s.heap.objs.size + 1 → St (i + 1) h' → (∀ b o, b ∉ wr → s.heap.get? b = some o → h'.get? b = some o) → Q (some (.ref s.heap.objs.size)) { s with heap := h', toks := tk }) →
    wpAny (model prog w) A (pyNext (.ref z)) Q E s
  done : ∀ (s : Shared) (Q : Option Value → Shared → Prop) (E : Value → Shared → Prop), St n s.heap →
    (∀ h' tk, (∀ b o, b ∉ wr → s.heap.get? b = some o → h'.get? b = some o) → Q none { s with heap := h', toks := tk }) → wpAny (model prog w) A (pyNext (.ref z)) Q E s
  self : ∀ i (s : Shared) (Q : Value → Shared → Prop) (E : Value → Shared → Prop), St i s.heap → Q (.ref z) s → wpAny (model prog w) A (pyIter (.ref z)) Q E s
/-- the tuples that are there -/
structure Tups (P : Nat → Array Value → Prop) (lo : Addr) (h : Heap) (as : List Addr) : Prop where
  rise : as.Pairwise (· < ·)
  above : ∀ a ∈ as, lo ≤ a
  vals : ∀ (j : Nat) (a : Addr), as[j]? = some a → ∃ vals, P j vals ∧ h.get? a = some { cls := .type "tuple", data := .seq vals }
theorem Tups.there {P : Nat → Array Value → Prop} {lo : Addr} {h : Heap} {as : List Addr} (g : Tups P lo h as) {a : Addr} (ha : a ∈ as) : a < h.objs.size := by
  obtain ⟨j, hj⟩ := List.mem_iff_getElem?.mp ha
  obtain ⟨_, _, e⟩ := g.vals j a hj
  exact Heap.lt_size e
section
variable {prog : Program} {w : World} {A : Around} {s : Shared} {R : Result → Shared → Prop} {S z : Addr} {ty : String} {wr : List Addr} {n : Nat} {P : Nat → Array Value → Prop} {St : Nat → Heap → Prop}
/-- what list() asks of the type -/
structure NoLen (ty : String) : Prop where
  len : typeLookup (.type ty) "__len__" = pure none
  hint : typeLookup (.type ty) "__length_hint__" = pure none
  nl : (Value.type ty == Value.type "list") = false
  nt : (Value.type ty == Value.type "tuple") = false
end
section
end
end R3

namespace R3
open PySem PySem.Spec PyProof.Rows L2
section
end
end R3

namespace R3
open PySem PySem.Spec PyProof.Rows L2
inductive RepsL (g : Sg) (w : Wd) : List (List V) → List (List D) → Prop where
  | nil : RepsL g w [] []
  | cons {v : List V} {d : List D} {vs : List (List V)} {ds : List (List D)} (h : Reps g w v d) (r : RepsL g w vs ds) : RepsL g w (v :: vs) (d :: ds)
theorem RepsL.mono {g : Sg} {w w' : Wd} (l : Sub w w') : ∀ {vs : List (List V)} {ds : List (List D)}, RepsL g w vs ds → RepsL g w' vs ds
  | _, _, .nil => .nil
  | _, _, .cons h r => .cons (h.mono l) (RepsL.mono l r)
section
end
section
variable {g : Sg} {X : Cx} {W : WX}
end
end R3

namespace R3
open PySem PySem.Spec PyProof.Rows L2
section
variable {g : Sg} {X : Cx} {W : WX} {e : Expr} {fe : FE} {pos : Pos}
end
end R3

namespace R3
open PySem PySem.Spec PyProof.Rows L2
section
open Classical
variable {g : Sg} {w : Wd} {ρ : List Sl} {S : Store} {σ : L2.St} {H : Hp} {mc : List Nat}
/-- what is lent -/
def LentD (mc : List Nat) (w : Wd) (ρ : List Sl) (S : Store) (σ : L2.St) (a : Addr) : Prop := Lent w ρ S σ a ∨ ∃ k c ds, S[k]? = some (some (.ins c ds)) ∧ c ∈ mc ∧ w.φ k = a
theorem LentD.what {a : Addr} (A : At g w ρ S σ H) (h : LentD mc w ρ S σ a) : (∃ vs, H a = some (.lst vs)) ∨ ∃ c dx fs, c ∈ mc ∧ H a = some (.ins (g.ad c) dx fs) := by
  rcases h with h | ⟨k, c, ds, h1, hc, h2⟩
  · exact .inl (h.lst A)
  · subst h2
    obtain ⟨_, dx, vs, e, _⟩ := A.st k _ h1
    exact .inr ⟨c, dx, _, hc, e⟩
end
section
end
end R3

namespace R3
open PySem PySem.Spec PyProof.Rows L2
section
end
/-- a special method, called where a repr is under way -/
structure OwnQ {kn : Bool} (P : Program) (w : World) (mg : Str → Option Value) (base : Heap) (g : Sg) (k : Nat) (c : Nat) (m : Str) (n : Nat) (C : Ct) : Prop where
  ex : ∃ f, PySem.W.findIn g.K (.ref (g.ad c)) m = some (some (.ref f)) ∧ PySem.W.isFn g.K (.ref f) = true ∧ L2.FnR P w g.K mg base (CXK kn P w) k f (spOf g n C)
section
variable {g : Sg} {X : Cx} {W : WX} {e : Expr} {fe : FE} {pos : Pos}
end
mutual
def hgt : D → Nat
  | .lst ds => hgts ds + 1
  | .tup ds => hgts ds + 1
  | _ => 0
def hgts : List D → Nat
  | [] => 0
  | d :: ds => max (hgt d) (hgts ds)
end
mutual
def shb : D → Bool
  | .lst ds => shbs ds
  | .tup ds => shbs ds
  | .ref _ => false
  | .scr _ => false
  | .cls _ => false
  | .err _ _ => false
  | .ty _ => false
  | _ => true
def shbs : List D → Bool
  | [] => true
  | d :: ds => shb d && shbs ds
end
section
variable {g : Sg} {X : Cx} {W : WX} {pins : List (Addr × Obj)} {w : Wd} {ρ : List Sl} {S : Store} {σ : L2.St} {H : Hp} {s : Shared}
theorem sqt_det (hK : g.K = X.K) (I : Inv X pins σ H s) (A : At g w ρ S σ H) {a : Addr} {xs ys : List V} (h : SqT g.K w.I a xs) (h' : SqT g.K w.I a ys) : xs = ys := by
  have no : ∀ {o : Obj} {u : HO}, g.K.lookup a = some o → Rd w.I a u → False := fun {o u} hk hr => by
    rw [hK] at hk
    have hb := I.ok.mod.kin _ _ hk
    have hn := (I.bs _ _ hb).2
    rcases hr with hr | ⟨z, hr⟩
    · rw [A.ih _ _ hr] at hn; cases hn
    · rw [A.ih _ _ hr] at hn; cases hn
  rcases h with h | ⟨o, its, n, k1, _, k2, _, k3⟩
  · rcases h' with h' | ⟨o, its, n, k1, _⟩
    · rcases h with h | ⟨z, h⟩ <;> rcases h' with h' | ⟨z', h'⟩ <;> rw [h] at h' <;> cases h' <;> rfl
    · exact (no k1 h).elim
  · rcases h' with h' | ⟨o', its', n', k1', _, k2', _, k3'⟩
    · exact (no k1 h').elim
    · rw [k1] at k1'; cases k1'
      rw [k2] at k2'; cases k2'
      exact Vals.inj k3 k3'
theorem sqt_no (hK : g.K = X.K) (I : Inv X pins σ H s) (A : At g w ρ S σ H) {a : Addr} {xs : List V} {u : HO} (h : SqT g.K w.I a xs) (h' : w.I a = some u) (hu : (∀ ys, u ≠ .tup ys) ∧ ∀ o ys, u ≠ .frz o (.tup ys)) : False := by
  rcases h with h | ⟨o, its, n, k1, _⟩
  · rcases h with h | ⟨z, h⟩ <;> rw [h] at h' <;> cases h'
    · exact hu.1 _ rfl
    · exact hu.2 _ _ rfl
  · rw [hK] at k1
    have hn := (I.bs _ _ (I.ok.mod.kin _ _ k1)).2
    rw [A.ih _ _ h'] at hn; cases hn
mutual
theorem hgt_det (hK : g.K = X.K) (I : Inv X pins σ H s) (A : At g w ρ S σ H) : ∀ {v : V} {d d' : D}, Rep g w v d → Rep g w v d' → shb d = true → shb d' = true → hgt d = hgt d'
  | _, _, _, .non, r', _, _ => by cases r'; rfl
  | _, _, _, .bl _, r', _, _ => by cases r'; rfl
  | _, _, _, .int _, r', _, _ => by cases r'; rfl
  | _, _, _, .str _, r', _, _ => by cases r'; rfl
  | _, _, _, .ty _, r', h, _ => by cases h
  | _, _, _, .tup hh r, r', h, h' => by
    cases r' with
    | tup hh' r' =>
      have := sqt_det hK I A hh hh'
      subst this
      show _ + 1 = _ + 1
      rw [hgts_det hK I A r r' h h']
    | lst hh' r' => exact (sqt_no hK I A hh hh' ⟨(fun _ z => nomatch z), (fun _ _ z => nomatch z)⟩).elim
    | obj hh' _ r' => exact (sqt_no hK I A hh hh' ⟨(fun _ z => nomatch z), (fun _ _ z => nomatch z)⟩).elim
    | scr => cases h'
    | cls => cases h'
    | err => cases h'
    | ref => cases h'
    | dic hh' => exact (sqt_no hK I A hh hh' ⟨(fun _ z => nomatch z), (fun _ _ z => nomatch z)⟩).elim
  | _, _, _, .lst hh r, r', h, h' => by
    cases r' with
    | tup hh' r' => exact (sqt_no hK I A hh' hh ⟨(fun _ z => nomatch z), (fun _ _ z => nomatch z)⟩).elim
    | lst hh' r' =>
      rw [hh] at hh'
      cases hh'
      show _ + 1 = _ + 1
      rw [hgts_det hK I A r r' h h']
    | obj hh' _ r' => rw [hh] at hh'; cases hh'
    | scr => cases h'
    | cls => cases h'
    | err => cases h'
    | ref => cases h'
    | dic hh' => rw [hh] at hh'; cases hh'
  | _, _, _, .scr _, r', h, _ => by cases h
  | _, _, _, .obj hh hl r, r', h, h' => by
    cases r' with
    | tup hh' r' => exact (sqt_no hK I A hh' hh ⟨(fun _ z => nomatch z), (fun _ _ z => nomatch z)⟩).elim
    | lst hh' r' => rw [hh] at hh'; cases hh'
    | obj hh' _ r' => rfl
    | scr => cases h'
    | cls => cases h'
    | err => cases h'
    | ref => cases h'
    | dic hh' => rw [hh] at hh'; cases hh'
  | _, _, _, .ref _, r', h, _ => by cases h
  | _, _, _, .cls _, r', h, _ => by cases h
  | _, _, _, .err _ _ _ _, r', h, _ => by cases h
  | _, _, _, .dic hh, r', h, h' => by
    cases r' with
    | tup hh' r' => exact (sqt_no hK I A hh' hh ⟨(fun _ z => nomatch z), (fun _ _ z => nomatch z)⟩).elim
    | lst hh' r' => rw [hh] at hh'; cases hh'
    | obj hh' _ r' => rw [hh] at hh'; cases hh'
    | scr => cases h'
    | cls => cases h'
    | err => cases h'
    | ref => cases h'
    | dic hh' => rfl
theorem hgts_det (hK : g.K = X.K) (I : Inv X pins σ H s) (A : At g w ρ S σ H) : ∀ {vs : List V} {ds ds' : List D}, Reps g w vs ds → Reps g w vs ds' → shbs ds = true → shbs ds' = true → hgts ds = hgts ds'
  | _, _, _, .nil, .nil, _, _ => rfl
  | _, _, _, .cons h r, .cons h' r', q, q' => by
    obtain ⟨q1, q2⟩ := Bool.and_eq_true_iff.mp q
    obtain ⟨q3, q4⟩ := Bool.and_eq_true_iff.mp q'
    show max _ _ = max _ _
    rw [hgt_det hK I A h h' q1 q3, hgts_det hK I A r r' q2 q4]
end
/-- the guards that stand belong to higher things -/
def GS (g : Sg) (w : Wd) (gs : List Code) (n : Nat) : Prop := ∀ id v rest kw, Code.builtin id ⟨v :: rest, kw⟩ ∈ gs → ∃ b d, v = .ref b ∧ Rep g w (.ref b) d ∧ shb d = true ∧ n < hgt d
theorem GS.mono {w' : Wd} {gs : List Code} {n m : Nat} (h : GS g w gs n) (l : Le w w') (hm : m ≤ n) : GS g w' gs m := fun id v rest kw hc => by
  obtain ⟨b, d, e1, e2, e3, e4⟩ := h id v rest kw hc
  exact ⟨b, d, e1, e2.mono l.s, e3, by omega⟩
theorem GS.clear {gs : List Code} (hK : g.K = X.K) (I : Inv X pins σ H s) (A : At g w ρ S σ H) {a : Addr} {d : D} (h : GS g w gs (hgt d)) (r : Rep g w (.ref a) d) (hs : shb d = true) : Clear gs a := fun id v rest kw hc e => by
  obtain ⟨b, d', e1, e2, e3, e4⟩ := h id v rest kw hc
  rw [e1] at e
  cases e
  have := hgt_det hK I A r e2 hs e3
  omega
theorem GS.cons {gs : List Code} {n : Nat} (h : GS g w gs n) {a : Addr} {d : D} {id : String} {rest : List Value} {kw : List (Str × Value)} (r : Rep g w (.ref a) d) (hs : shb d = true) (hn : n < hgt d) : GS g w (.builtin id ⟨.ref a :: rest, kw⟩ :: gs) n := fun id' v rest' kw' hc => by
  rcases List.mem_cons.mp hc with e | hc
  · cases e
    exact ⟨a, d, rfl, r, hs, hn⟩
  · exact h _ _ _ _ hc
end
end R3

namespace R3
open PySem PySem.Spec PyProof.Rows L2
open Builtin Builtin.List
mutual
/-- the text of a value -/
inductive Txt (c : Nat) (C : Ct) (S : Store) : D → Str → Prop where
  | non : Txt c C S .non (PyData.none).shown
  | bl (b : Bool) : Txt c C S (.bl b) (PyData.bool b).shown
  | int (i : Int) (h : i.natAbs.log2 < 1920) : Txt c C S (.int i) (PyData.int i).shown
  | str (x : Str) : Txt c C S (.str x) (PyData.str x).shown
  | dic (kvs : List (Key × Int)) (h : (PyData.dict (kvs.map fun p => (kP p.1, PyData.int p.2))).showable = true) (hd : (PyData.dict (kvs.map fun p => (kP p.1, PyData.int p.2))).depth ≤ 1) (hz : kvs.all (fun p => kz p.1) = true := by first | rfl | decide) : Txt c C S (.dic kvs) (PyData.dict (kvs.map fun p => (kP p.1, PyData.int p.2))).shown
  | obj (es : List D) (t : Str) (h : ∀ (K : KD) (ex : KX), K (.str t) S → C [.obj c es] S K ex) : Txt c C S (.obj c es) t
  | lst {ds : List D} {ts : List Str} (h : Txts c C S ds ts) : Txt c C S (.lst ds) (listText ts)
  | tup {ds : List D} {ts : List Str} (h : Txts c C S ds ts) : Txt c C S (.tup ds) (tupleText ts)
inductive Txts (c : Nat) (C : Ct) (S : Store) : List D → List Str → Prop where
  | nil : Txts c C S [] []
  | cons {d : D} {t : Str} {ds : List D} {ts : List Str} (h : Txt c C S d t) (r : Txts c C S ds ts) : Txts c C S (d :: ds) (t :: ts)
end
mutual
theorem Txt.shb {c : Nat} {C : Ct} {S : Store} : ∀ {d : D} {t : Str}, Txt c C S d t → shb d = true
  | _, _, .non => rfl
  | _, _, .bl _ => rfl
  | _, _, .int _ _ => rfl
  | _, _, .str _ => rfl
  | _, _, .dic _ _ _ _ => rfl
  | _, _, .obj _ _ _ => rfl
  | _, _, .lst h => Txts.shbs h
  | _, _, .tup h => Txts.shbs h
theorem Txts.shbs {c : Nat} {C : Ct} {S : Store} : ∀ {ds : List D} {ts : List Str}, Txts c C S ds ts → shbs ds = true
  | _, _, .nil => rfl
  | _, _, .cons h r => by show (R3.shb _ && R3.shbs _) = true; rw [h.shb, r.shbs]; rfl
end
theorem weight_loop (args : Args) : (Code.builtin "list.__repr__.loop" args).weight ≤ 3 := by
  simp [Code.weight, Code.isCreation, Code.isGuard, Code.isCaller, Code.frames, Code.isFrame, guardIds]
theorem weight_tup (args : Args) : (Code.builtin "tuple.__repr__.under" args).weight ≤ 3 := by
  simp [Code.weight, Code.isCreation, Code.isGuard, Code.isCaller, Code.frames, Code.isFrame, guardIds]
theorem room_under {n : Nat} {A : Around} {c : Code} (r : L2.Room (n + 1) A) (h2 : c.weight ≤ 3) (h3 : (A.under c).units = A.units + 1) : L2.Room n (A.under c) :=
  ⟨r.hd, by have := r.dp; show A.depth + c.weight + 3 * n + 5 < _; omega, by have := r.un; rw [h3]; omega⟩
section
variable {g : Sg} {X : Cx} {W : WX}
/-- a value's repr runs -/
def RunOk (g : Sg) (X : Cx) (S : Store) (k : Nat) (d : D) (t : Str) : Prop :=
  ∀ {base : Nat} {A0 : Around} {gs : List Code} {pins : List (Addr × Obj)} {s : Shared} {σ : L2.St} {H : Hp} {w : Wd} {ρ : List Sl} {v : V} {u : Value} {Q : Str → Shared → Prop},
    base + t.length ≤ sizeLine → A0.guards = some gs → GS g w gs (hgt d) → L2.Room (k + 2 + 2 * hgt d) A0 → A0.frames = some X.stack → Inv X pins σ H s → At g w ρ S σ H → Rep g w v d → RelV v u →
    (∀ s' H' w', Le w w' → Inv X pins σ H' s' → At g w' ρ S σ H' → Q t s') → wpAny (model X.prog X.w) A0 (pyReprUnder base u) Q X.xe s
inductive RunOks (g : Sg) (X : Cx) (S : Store) (k : Nat) : List D → List Str → Prop where
  | nil : RunOks g X S k [] []
  | cons {d : D} {t : Str} {ds : List D} {ts : List Str} (h : RunOk g X S k d t) (r : RunOks g X S k ds ts) : RunOks g X S k (d :: ds) (t :: ts)
theorem RunOks.len {S : Store} {k : Nat} : ∀ {ds : List D} {ts : List Str}, RunOks g X S k ds ts → ts.length = ds.length
  | _, _, .nil => rfl
  | _, _, .cons _ r => congrArg (· + 1) r.len
theorem RunOks.at_ {S : Store} {k : Nat} : ∀ {ds : List D} {ts : List Str}, RunOks g X S k ds ts → ∀ (i : Nat), i < ds.length → ∃ d t, ds[i]? = some d ∧ ts[i]? = some t ∧ RunOk g X S k d t
  | _, _, .cons h _, 0, _ => ⟨_, _, rfl, rfl, h⟩
  | _, _, .cons _ r, i + 1, hi => by
    obtain ⟨d, t, e1, e2, q⟩ := r.at_ i (Nat.lt_of_succ_lt_succ hi)
    exact ⟨d, t, e1, e2, q⟩
theorem hgt_at : ∀ {ds : List D} {i : Nat} {d : D}, ds[i]? = some d → hgt d ≤ hgts ds
  | [], i, d, h => by cases i <;> cases h
  | x :: xs, 0, d, h => by cases h; exact Nat.le_max_left _ _
  | x :: xs, i + 1, d, h => Nat.le_trans (hgt_at (ds := xs) (i := i) h) (Nat.le_max_right _ _)
theorem reps_at {w : Wd} : ∀ {vs : List V} {ds : List D} {i : Nat} {d : D}, Reps g w vs ds → ds[i]? = some d → ∃ v, vs[i]? = some v ∧ Rep g w v d
  | _, _, 0, _, .cons h _, e => by cases e; exact ⟨_, rfl, h⟩
  | _, _, i + 1, _, .cons _ r, e => reps_at (i := i) r e
  | _, _, 0, _, .nil, e => by cases e
  | _, _, _ + 1, _, .nil, e => by cases e
theorem vals_at : ∀ {vs : List V} {us : List Value} {i : Nat} {v : V}, Vals vs us → vs[i]? = some v → ∃ u, us[i]? = some u ∧ RelV v u
  | _, _, 0, _, .cons h _, e => by cases e; exact ⟨_, rfl, h⟩
  | _, _, i + 1, _, .cons _ r, e => vals_at (i := i) r e
  | _, _, 0, _, .nil, e => by cases e
  | _, _, _ + 1, _, .nil, e => by cases e
theorem vals_len : ∀ {vs : List V} {us : List Value}, Vals vs us → us.length = vs.length
  | _, _, .nil => rfl
  | _, _, .cons _ r => congrArg (· + 1) (vals_len r)
theorem reps_len {w : Wd} : ∀ {vs : List V} {ds : List D}, Reps g w vs ds → ds.length = vs.length
  | _, _, .nil => rfl
  | _, _, .cons _ r => congrArg (· + 1) (reps_len r)
abbrev pObj (acc : Array Value) (c : Nat) : Obj := { cls := .type "list", dict := none, data := .seq acc c, slots := #[] }
/-- an address that is ours -/
structure Our (X : Cx) (pins : List (Addr × Obj)) (P : Addr) : Prop where
  sz : X.s_0.heap.objs.size ≤ P
  loc : P ≠ X.env.locals
  fs : P ∉ X.fs
  cel : ∀ x c, X.env.cells.lookup x = some c → c ≠ P
  pin : ∀ p ∈ X.pn ++ pins, p.1 ≠ P
theorem our_new {pins : List (Addr × Obj)} {σ : L2.St} {H : Hp} {s : Shared} (I : Inv X pins σ H s) : Our X pins s.heap.objs.size where
  sz := I.sz
  loc := Nat.ne_of_gt I.lt
  fs := I.nofs (Nat.le_refl _)
  cel := fun x c h => by
    obtain ⟨v, o, ho, _⟩ := I.cell x c h
    exact Nat.ne_of_lt (Heap.lt_size ho)
  pin := fun p hp => Nat.ne_of_lt (Heap.lt_size (I.pin p hp).1)
theorem unpin {p : Addr × Obj} {pins : List (Addr × Obj)} {σ : L2.St} {H : Hp} {s : Shared} (I : Inv X (p :: pins) σ H s) : Inv X pins σ H s := I.pins_of fun r hr => I.pin r (List.mem_append_right _ (List.mem_cons_of_mem _ hr))
theorem repin {pins : List (Addr × Obj)} {σ : L2.St} {H : Hp} {s : Shared} {P : Addr} {o o' : Obj} {h' : Heap} {tk : Nat} (I : Inv X ((P, o) :: pins) σ H s) (O : Our X pins P) (hk : ∀ b u, b ≠ P → s.heap.get? b = some u → h'.get? b = some u) (ho : h'.get? P = some o') (hc : ∀ v, o'.data ≠ .cell v) : Inv X ((P, o') :: pins) σ H { s with heap := h', toks := tk } := by
  have hn : H P = none := (I.pin (P, o) (List.mem_append_right _ List.mem_cons_self)).2.1
  have J := (unpin I).turned (t' := tk) (it := P) hk hn O.loc (.inr O.sz) O.cel O.pin
  refine J.pins_of fun p hp => ?_
  rcases List.mem_cons.mp hp with e | e
  · subst e
    exact ⟨ho, hn, O.loc, O.fs, hc⟩
  · exact J.pin p (List.mem_append_right _ e)
/-- the loop of a list's repr -/
theorem list_loop {S : Store} {k : Nat} (hK : g.K = X.K) {ds : List D} {ts : List Str} (hT : RunOks g X S k ds ts) (hb : shbs ds = true) {A : Around} {gs : List Code} {base : Nat} {a P : Addr} {pins : List (Addr × Obj)} {σ : L2.St} {ρ : List Sl} {w0 : Wd} {R : Result → Shared → Prop} (hg : A.guards = some gs) (hr : L2.Room (k + 3 + 2 * hgts ds) A) (hA : A.frames = some X.stack) (O : Our X pins P)
    (hsz : base + (listText ts).length ≤ sizeLine) (hE : ∀ e s', X.xe e s' → R (.error e) s') :
    ∀ (m i : Nat) (s : Shared) (H : Hp) (w : Wd) (acc : Array Value) (c : Nat) (done : List (Str × Tok)), ds.length - i = m → i ≤ ds.length → Le w0 w → Inv X ((P, pObj acc c) :: pins) σ H s → At g w ρ S σ H → Rep g w (.ref a) (.lst ds) → GS g w gs (hgt (.lst ds)) → acc.toList = strValues done → done.map (·.1) = ts.take i →
    (∀ s' H' w' u, Le w0 w' → Inv X pins σ H' s' → At g w' ρ S σ H' → R (.ok (.ret (.str (listText ts) u))) s') →
    codeAny (model X.prog X.w) A (.builtin "list.__repr__.loop" ⟨[.ref a, rawInt i, .ref P, rawInt ((base + piled (ts.take i) : Nat) : Int)], []⟩) R s := by
  have hX : (listText ts).length = (textFrom 0 "[" ts).length + 1 := by
    show (textFrom 0 "[" ts ++ "]").length = _
    rw [strLen_append]; rfl
  have hL := textFrom_len ts 0 "["
  have hlen := hT.len
  have hsz1 : ts.length ≤ sizeLine := by
    have h1 := hL.1
    rw [if_neg (Nat.lt_irrefl 0)] at h1
    omega
  have hsz2 : ∀ t ∈ ts, t.length ≤ sizeLine := fun t ht => by
    have h2 := hL.2.1 t ht
    omega
  have hsz3 : (listText ts).length ≤ sizeLine := by omega
  have hp3 := piled_le_listText ts
  intro m
  induction m with
  | zero =>
    intro i s H w acc c done hm hi l I At0 ra hgs hacc hdone hR
    have hin : i = ds.length := by omega
    cases id ra with
    | lst hh rr =>
    obtain ⟨its, rv, ⟨o, n, ho, hc, _, hd⟩, _⟩ := I.list (SqL.of (At0.ih _ _ hh))
    have hil : its.length = ds.length := by rw [vals_len rv, reps_len rr]
    refine codeAny_builtin F.entry_list_repr_loop ?_
    show wpAny _ _ («list.__repr__.loop» ⟨[.ref a, .int i 0, .ref P, .int ((base + piled (ts.take i) : Nat) : Int) 0], []⟩) _ _ s
    rw [repr_loop_tree]
    refine wpAny_bind (wpAny_listItems ho hd ?_)
    have hnone : its.toArray[(i : Int).toNat]? = none := by simp [hin, hil]
    simp only [hnone]
    unfold reprEnd
    have hP := (I.pin (P, pObj acc c) (List.mem_append_right _ List.mem_cons_self)).1
    refine wpAny_bind (wpAny_listItems hP rfl ?_)
    rw [hacc, repr_fold]
    refine wpAny_bind (wpAny_pure ?_)
    have hall : done.map (·.1) = ts := by rw [hdone, hin, ← hlen, List.take_length]
    rw [hall]
    refine wpAny_bind (wpAny_mkStr (wpAny_pure ?_) hsz3)
    exact hR _ H w _ l ((unpin I).tok _) At0
  | succ m ih =>
    intro i s H w acc c done hm hi l I At0 ra hgs hacc hdone hR
    have hlt : i < ds.length := by omega
    obtain ⟨d, t, hd0, ht, hrep⟩ := hT.at_ i hlt
    cases id ra with
    | lst hh rr =>
    obtain ⟨its, rv, ⟨o, n, ho, hc, _, hd⟩, _⟩ := I.list (SqL.of (At0.ih _ _ hh))
    obtain ⟨v, hv, rd⟩ := reps_at rr hd0
    obtain ⟨u, hu, ru⟩ := vals_at rv hv
    have hp1 := piled_take_succ ht
    have hp2 := piled_take_le ts (i + 1)
    refine codeAny_builtin F.entry_list_repr_loop ?_
    show wpAny _ _ («list.__repr__.loop» ⟨[.ref a, .int i 0, .ref P, .int ((base + piled (ts.take i) : Nat) : Int) 0], []⟩) _ _ s
    rw [repr_loop_tree]
    refine wpAny_bind (wpAny_listItems ho hd ?_)
    have hsome : its.toArray[(i : Int).toNat]? = some u := by simpa using hu
    simp only [hsome]
    rw [Int.toNat_natCast]
    have hh1 : hgt d ≤ hgts ds := hgt_at hd0
    have hh2 : hgt (.lst ds) = hgts ds + 1 := rfl
    refine wpAny_bind (wpAny_holding (wpAny_mono (E := X.xe) (hrep (base := base + piled (ts.take i) + 1) (by omega) (guards_under_guard (isGuard_list_loop _) hg) (GS.cons (hgs.mono (Le.refl w) (by omega)) ra hb (by omega)) ((room_under (n := k + 2 + 2 * hgts ds) (hr.mono (by omega)) (weight_loop _) (units_under_list_loop _ _)).mono (by omega)) (by exact hA) I At0 rd ru (Q := fun x s' => x = t ∧ ∃ H' w', Le w w' ∧ Inv X ((P, pObj acc c) :: pins) σ H' s' ∧ At g w' ρ S σ H') fun s' H' w' l' I' A' => ⟨rfl, H', w', l', I', A'⟩) (fun x s' hx => ?_) fun e s' he => hE e s' he))
    obtain ⟨rfl, H', w', l', I', A'⟩ := hx
    refine wpAny_bind (wpAny_mkStr ?_ (hsz2 x (List.mem_of_getElem? ht)))
    refine wpAny_bind ?_
    show wpAny _ _ (updateSeq P _) _ _ _
    have hasz : acc.size ≤ sizeLine := by
      have e1 : acc.toList.length = acc.size := by simp
      have e2 : (strValues done).length = done.length := by simp [strValues]
      have e3 : done.length = (ts.take i).length := by rw [← hdone, List.length_map]
      have e4 : (ts.take i).length ≤ i := by rw [List.length_take]; omega
      rw [hacc] at e1; omega
    have hP := (I'.pin (P, pObj acc c) (List.mem_append_right _ List.mem_cons_self)).1
    refine wpAny_updateSeq hP rfl (wpAny_pure ⟨F.quiet_list_repr_loop _, ?_⟩) hasz
    have e1 : ((i : Int) + 1) = ((i + 1 : Nat) : Int) := by omega
    have e2 : base + piled (ts.take i) + (x.length + 2) = base + piled (ts.take (i + 1)) := by omega
    rw [e1, e2]
    refine ih (i + 1) _ H' w' (acc.push (.str x s'.toks)) _ (done ++ [(x, s'.toks)]) (by omega) hlt (l.trans l') (repin (tk := s'.toks + 1) (I'.tok (s'.toks + 1)) O (fun b o hb e => (Heap.get?_update_other _ _ (fun h : P = b => hb h.symm)).trans e) (Heap.get?_update_self _ hP rfl) (fun _ z => nomatch z)) A' (ra.mono l'.s) (hgs.mono l' (Nat.le_refl _)) (by simp [hacc, strValues]) (by simp [List.take_add_one, ht, hdone]) hR
theorem lst_run {S : Store} {k : Nat} (hK : g.K = X.K) {ds : List D} {ts : List Str} (hT : RunOks g X S k ds ts) (hb : shbs ds = true) {base : Nat} {A0 : Around} {gs : List Code} {pins : List (Addr × Obj)} {s : Shared} {σ : L2.St} {H : Hp} {w : Wd} {ρ : List Sl} {a : Addr} {R : Result → Shared → Prop}
    (hsz : base + (listText ts).length ≤ sizeLine) (hg : A0.guards = some gs) (hgs : GS g w gs (hgt (.lst ds))) (hr : L2.Room (k + 3 + 2 * hgts ds) A0) (hA : A0.frames = some X.stack) (I : Inv X pins σ H s) (At0 : At g w ρ S σ H) (ra : Rep g w (.ref a) (.lst ds)) (hE : ∀ e s', X.xe e s' → R (.error e) s')
    (hR : ∀ s' H' w' u, Le w w' → Inv X pins σ H' s' → At g w' ρ S σ H' → R (.ok (.ret (.str (listText ts) u))) s') (hne : ds ≠ []) :
    wpAny (model X.prog X.w) A0.in1 (Builtin.listReprAt base ⟨[.ref a], []⟩) (fun fin s' => match fin with | .done f => R (.ok f) s' | .again c' => c'.quiet = true ∧ codeAny (model X.prog X.w) A0 c' R s') (fun e s' => R (.error e) s') s := by
  have hca : Clear gs a := hgs.clear hK I At0 ra hb
  cases id ra with
  | lst hh rr =>
  obtain ⟨its, rv, ⟨o, n, ho, hc, _, hd⟩, _⟩ := I.list (SqL.of (At0.ih _ _ hh))
  have hil : its.length = ds.length := by rw [vals_len rv, reps_len rr]
  cases its with
  | nil => exact absurd (List.length_eq_zero_iff.mp hil.symm) hne
  | cons x l =>
  refine wpAny_list_repr_head (A := A0.in1) hg (fun v rest kw hm => listSameRef_of_ne (hca _ _ _ _ hm)) ho hd ?_
  refine wpAny_bind (m := newList []) (wpAny_newObj_type ?_)
  refine wpAny_pure ⟨F.quiet_list_repr_loop _, ?_⟩
  have O := our_new I
  refine list_loop hK hT hb (P := s.heap.objs.size) (base := base) (w0 := w) hg hr hA O hsz hE _ 0 _ H w #[] 0 [] rfl (Nat.zero_le _) (Le.refl w) ?_ At0 ra hgs rfl rfl hR
  have I1 := I.kept (h' := s.heap.push (pObj #[] 0)) (t' := s.toks) fun b u e => Heap.get?_push_of_some _ e
  refine I1.pins_of fun p hp => ?_
  rcases List.mem_cons.mp hp with e | e
  · subst e
    exact ⟨Heap.get?_push_size _ rfl, I.hok.fresh (Nat.le_refl _), O.loc, O.fs, (fun _ z => nomatch z)⟩
  · exact I1.pin p (List.mem_append_right _ e)
theorem runok_lst {S : Store} {k : Nat} (hK : g.K = X.K) {ds : List D} {ts : List Str} (hT : RunOks g X S k ds ts) (hb : shbs ds = true) : RunOk g X S k (.lst ds) (listText ts) := by
  intro base A0 gs pins s σ H w ρ v u Q hsz hg hgs hr hA I At0 ra ru hQ
  have hh2 : hgt (.lst ds) = hgts ds + 1 := rfl
  rw [hh2] at hr
  cases id ra with
  | lst hh rr =>
  rename_i a vs
  obtain rfl : u = .ref a := ru
  obtain ⟨its, rv, ⟨o, n, ho, hc, _, hd⟩, _⟩ := I.list (SqL.of (At0.ih _ _ hh))
  have hil : its.length = ds.length := by rw [vals_len rv, reps_len rr]
  have hun : A0.units + 200 < cLine := by have := hr.un; omega
  refine wpAny_pyReprUnder_ref (by omega) ?_
  by_cases hne : ds = []
  · subst hne
    cases hT
    cases its with
    | cons x l => cases hil
    | nil =>
    have e0 : listText [] = ("[]" : Str) := listText_nil
    rw [e0] at hQ
    exact wpAny_pyReprObjUnder_list_empty ⟨o, ho, hc⟩ (by omega) ho hd ⟨_, _, rfl, hQ _ H w (Le.refl w) (I.tok _) At0⟩
  · refine wpAny_pyReprObjUnder_twin (twin := "list.__repr__.under") ⟨o, ho, hc⟩ F.slot_list_repr.toG rfl (by omega) ?_
    refine call_twin_plain F.plain_list_repr_under F.entry_list_repr_under F.check_list_repr_under ⟨o, ho, hc⟩ F.slot_list_repr.toG (F.args_list_repr_1 _) ?_
    exact lst_run (R := callEnd _ _) hK hT hb hsz hg hgs (hr.mono (by omega)) hA I At0 ra (fun e s' h => h) (fun s' H' w' u l' I' A' => ⟨⟨_, _, rfl⟩, _, _, rfl, hQ s' H' w' l' I' A'⟩) hne
/-- the fold of a tuple's repr -/
theorem tup_fold {S : Store} {k : Nat} {A : Around} {gs : List Code} {pins : List (Addr × Obj)} {σ : L2.St} {ρ : List Sl} {n0 : Nat} (hg : A.guards = some gs) (hr : L2.Room (k + 2 + 2 * n0) A) (hA : A.frames = some X.stack) :
    ∀ {ds : List D} {ts : List Str}, RunOks g X S k ds ts → hgts ds ≤ n0 → ∀ (vs : List V) (us : List Value) (acc : Array Str) (n : Nat) (s : Shared) (H : Hp) (w : Wd) (Q : (Array Str × Nat) → Shared → Prop), Vals vs us → Reps g w vs ds → GS g w gs n0 → Inv X pins σ H s → At g w ρ S σ H → n + piled ts ≤ sizeLine →
    (∀ s' H' w', Le w w' → Inv X pins σ H' s' → At g w' ρ S σ H' → Q ⟨acc ++ ts.toArray, n + piled ts⟩ s') →
    wpAny (model X.prog X.w) A (forIn us (⟨acc, n⟩ : (Array Str × Nat)) tupBody) Q X.xe s
  | _, _, .nil, _, vs, us, acc, n, s, H, w, Q, rv, rr, hgs, I, A0, hn, h => by
    cases rr
    cases rv
    simp only [List.forIn_nil]
    exact wpAny_pure (by simpa [piled] using h s H w (Le.refl w) I A0)
  | _, _, .cons (d := d) (t := t) (ds := ds) (ts := ts) hx hl, hh, vs, us, acc, n, s, H, w, Q, rv, rr, hgs, I, A0, hn, h => by
    cases rr with
    | cons r1 r2 =>
    cases rv with
    | cons q1 q2 =>
    rw [piled_cons] at hn
    have hh' : max (hgt d) (hgts ds) ≤ n0 := hh
    rw [List.forIn_cons]
    refine wpAny_bind (wpAny_bind (hx (base := n + 1) (by omega) hg (hgs.mono (Le.refl w) (by omega)) (hr.mono (by omega)) hA I A0 r1 q1 fun s' H' w' l' I' A' => wpAny_pure ?_))
    refine tup_fold hg hr hA hl (by omega) _ _ (acc.push t) (n + (t.length + 2)) s' H' w' Q q2 (r2.mono l'.s) (hgs.mono l' (Nat.le_refl _)) I' A' (by omega) fun s2 H2 w2 l2 I2 A2 => ?_
    have h1 := h s2 H2 w2 (l'.trans l2) I2 A2
    have e : n + piled (t :: ts) = n + (t.length + 2) + piled ts := by rw [piled_cons]; omega
    rw [e] at h1
    simpa using h1
theorem tup_run {S : Store} {k : Nat} (hK : g.K = X.K) {ds : List D} {ts : List Str} (hT : RunOks g X S k ds ts) (hb : shbs ds = true) {base : Nat} {A0 : Around} {gs : List Code} {pins : List (Addr × Obj)} {s : Shared} {σ : L2.St} {H : Hp} {w : Wd} {ρ : List Sl} {a : Addr} {R : Result → Shared → Prop} {id : String} {rest : List Value}
    (hcg : (Code.builtin id ⟨.ref a :: rest, []⟩).isGuard = true) (hcu : (A0.under (.builtin id ⟨.ref a :: rest, []⟩)).units = A0.units + 1) (hcw : (Code.builtin id ⟨.ref a :: rest, []⟩).weight ≤ 3)
    (hsz : base + (tupleText ts).length ≤ sizeLine) (hg : A0.guards = some gs) (hgs : GS g w gs (hgt (.tup ds))) (hr : L2.Room (k + 3 + 2 * hgts ds) A0) (hA : A0.frames = some X.stack) (I : Inv X pins σ H s) (At0 : At g w ρ S σ H) (ra : Rep g w (.ref a) (.tup ds)) (hE : ∀ e s', X.xe e s' → R (.error e) s')
    (hR : ∀ s' H' w' u, Le w w' → Inv X pins σ H' s' → At g w' ρ S σ H' → R (.ok (.ret (.str (tupleText ts) u))) s') :
    wpOwn (model X.prog X.w) A0 (.builtin id ⟨.ref a :: rest, []⟩) (Builtin.tupleReprAt base ⟨[.ref a], []⟩) (fun fin s' => match fin with | .done f => R (.ok f) s' | .again c' => c'.quiet = true ∧ codeAny (model X.prog X.w) A0 c' R s') (fun e s' => R (.error e) s') s := by
  have hca : Clear gs a := hgs.clear hK I At0 ra hb
  have hh2 : hgt (.tup ds) = hgts ds + 1 := rfl
  cases ra with
  | tup hh rr =>
  obtain ⟨its, rv, ⟨o, ho, hc, n, hd⟩, _⟩ := I.tuple (hK ▸ At0.t hh)
  have hil : its.length = ds.length := by rw [vals_len rv, reps_len rr]
  have hlen : ts.length = its.toArray.size := by simp [hT.len, hil]
  have hp := piled_le_tupleText ts
  have hsz0 : (tupleText ts).length ≤ sizeLine := by omega
  rw [tuple_repr_tree, tupleReprUnderWay_eq]
  refine wpOwn_bind (wpOwn_stackTailAny hg (tupGuardF_off _) (tupGuardF_pos _) ?_)
  have hn : (gs.any fun c => tupGuardF (.ref a) (c, default)) = false := by
    rw [List.any_eq_false]
    intro c hcm
    rw [tupGuardF_of_clear hca c hcm]
    exact Bool.false_ne_true
  rw [hn]
  refine wpOwn_of_wpAny ?_
  show wpAny _ _ (tupleReprRest base (.ref a)) _ _ s
  unfold tupleReprRest Builtin.Tuple.tupleItemsOf
  refine wpAny_bind (wpAny_bind (wpAny_seqItems ho hd (wpAny_pure ?_)))
  rw [← Array.forIn_toList]
  refine wpAny_bind (wpAny_mono (E := X.xe) (tup_fold (n0 := hgts ds) (guards_under_guard hcg hg) (room_under (n := k + 2 + 2 * hgts ds) (hr.mono (by omega)) hcw hcu) hA hT (Nat.le_refl _) _ _ #[] base s H w (fun r s' => r = ⟨#[] ++ ts.toArray, base + piled ts⟩ ∧ ∃ H' w', Le w w' ∧ Inv X pins σ H' s' ∧ At g w' ρ S σ H') rv rr (GS.cons (hgs.mono (Le.refl w) (by omega)) (.tup hh rr) hb (by omega)) I At0 (by omega) fun s' H' w' l' I' A' => ⟨rfl, H', w', l', I', A'⟩) (fun r s' hx => ?_) fun e s' he => hE e s' he)
  obtain ⟨rfl, H', w', l', I', A'⟩ := hx
  refine wpAny_bind (wpAny_mkStr (wpAny_pure ?_) (by simpa [tupleText, hlen] using hsz0))
  have h1 := hR { s' with toks := s'.toks + 1 } H' w' s'.toks l' (I'.tok _) A'
  simpa [tupleText, hlen] using h1
theorem runok_tup {S : Store} {k : Nat} (hK : g.K = X.K) {ds : List D} {ts : List Str} (hT : RunOks g X S k ds ts) (hb : shbs ds = true) : RunOk g X S k (.tup ds) (tupleText ts) := by
  intro base A0 gs pins s σ H w ρ v u Q hsz hg hgs hr hA I At0 ra ru hQ
  have hh2 : hgt (.tup ds) = hgts ds + 1 := rfl
  rw [hh2] at hr
  cases id ra with
  | tup hh rr =>
  rename_i a vs
  obtain rfl : u = .ref a := ru
  obtain ⟨its, rv, ⟨o, ho, hc, n, hd⟩, _⟩ := I.tuple (hK ▸ At0.t hh)
  have hun : A0.units + 200 < cLine := by have := hr.un; omega
  refine wpAny_pyReprUnder_ref (by omega) ?_
  refine wpAny_pyReprObjUnder_twin (twin := "tuple.__repr__.under") ⟨o, ho, hc⟩ F.slot_tuple_repr rfl (by omega) ?_
  refine call_twin_own (F.quiet_tuple_repr_under _) F.entry_tuple_repr_under F.check_tuple_repr_under ⟨o, ho, hc⟩ F.slot_tuple_repr (F.args_tuple_repr_1 _) ?_
  exact tup_run (R := callEnd _ _) hK hT hb (isGuard_tuple_repr_under _) (units_under_tuple_repr_under _ _) (weight_tup _) hsz hg hgs (hr.mono (by omega)) hA I At0 ra (fun e s' h => h) (fun s' H' w' u l' I' A' => ⟨⟨_, _, rfl⟩, _, _, rfl, hQ s' H' w' l' I' A'⟩)
end
end R3

namespace R3
open PySem PySem.Spec PyProof.Rows L2
section
end
end R3

namespace R3
open PySem PySem.Spec PyProof.Rows L2
section
variable {P : Program} {w : World} {mg : Str → Option Value} {base : Heap}
/-- C(..), the instance an object of the store: the promise of its __init__ -/
structure MakS {kn : Bool} (P : Program) (w : World) (mg : Str → Option Value) (base : Heap) (g : Sg) (k : Nat) (x : Str) (c n : Nat) (C : Ct) : Prop where
  ex : ∃ f, mg x = some (.ref (g.ad c)) ∧ Mk g.K (g.ad c) f ∧ FnR P w g.K mg base (CXK kn P w) k f (spOf g (n + 1) C)
structure MakSK {kn : Bool} (P : Program) (w : World) (mg : Str → Option Value) (base : Heap) (g : Sg) (k : Nat) (x : Str) (c : Nat) (ks : List Str) (C : Ct) : Prop where
  ex : ∃ f, mg x = some (.ref (g.ad c)) ∧ Mk g.K (g.ad c) f ∧ FnK P w g.K mg base (CXK kn P w) k f 1 ks (spOf g (1 + ks.length) C)
end
section
variable {g : Sg} {X : Cx} {W : WX} {a b e o : Expr} {pos apos : Pos} {fa fb fe fo : FE} {es : List Expr} {fr fk : FA} {kws : List Keyword} {st : Stmt}
theorem Flds.got {w : Wd} {f : Str} : ∀ {vs : List (Str × V)} {ds : List (Str × D)}, Flds g w vs ds → ∀ {d : D}, ds.lookup f = some d → ∃ v, vs.lookup f = some v ∧ Rep g w v d
  | _, _, .nil, _, h => by cases h
  | _, _, .cons (f := k) h r, d, e => by
    rw [List.lookup_cons] at e
    by_cases c : (f == k) = true
    · rw [c] at e
      cases e
      exact ⟨_, by rw [List.lookup_cons, c], h⟩
    · rw [Bool.not_eq_true] at c
      rw [c] at e
      obtain ⟨v, h1, h2⟩ := Flds.got r e
      exact ⟨v, by rw [List.lookup_cons, c]; exact h1, h2⟩
end
end R3

namespace R3
open PySem PySem.Spec PyProof.Rows L2
section
end
section
variable {g : Sg} {X : Cx} {W : WX}
def negB (neg b : Bool) : Bool := if neg then !b else b
end
end R3

namespace R3
open PySem PySem.Spec PyProof.Rows L2
section
end
end R3

namespace R3
open PySem PySem.Spec PyProof.Rows L2
open SeqAt AutoSeq1 MeetsSeq MeetsSeq2 MeetsSeq3 SeqRoads2
mutual
def dtm : D → Bool
  | .lst ds => dtms ds
  | .tup ds => dtms ds
  | .obj c ds => c == 0 && (intsOf ds).isSome
  | .ref _ => false
  | .scr _ => false
  | .dic _ => false
  | .cls _ => false
  | .err _ _ => false
  | .ty _ => false
  | _ => true
def dtms : List D → Bool
  | [] => true
  | d :: ds => dtm d && dtms ds
end
section
variable {g : Sg} {X : Cx} {W : WX} {pins : List (Addr × Obj)} {w : Wd} {ρ : List Sl} {S : Store} {σ : L2.St} {H : Hp} {s : Shared}
end
mutual
/-- x == y is b; by C an instance of class 0 compares itself -/
inductive Eq1 (C : Ct) (S : Store) : D → D → Bool → Prop where
  | flat {x y : D} (hx : okN 8 x = true) (hy : okN 8 y = true) : Eq1 C S x y (eqD x y)
  | obj {es : List D} {y : D} {b : Bool} (hy : rightD 0 y = true) (hr : y = .obj 0 es → b = true) (h : ∀ (K : KD) (ex : KX), K (.bl b) S → C [.obj 0 es, y] S K ex) : Eq1 C S (.obj 0 es) y b
  | tup {xs ys : List D} {b : Bool} (h : EqL C S xs ys b) : Eq1 C S (.tup xs) (.tup ys) b
  | lst {xs ys : List D} {b : Bool} (hl : xs.length = ys.length) (h : EqL C S xs ys b) : Eq1 C S (.lst xs) (.lst ys) b
  | lstn {xs ys : List D} (hl : xs.length ≠ ys.length) : Eq1 C S (.lst xs) (.lst ys) false
inductive EqL (C : Ct) (S : Store) : List D → List D → Bool → Prop where
  | nil : EqL C S [] [] true
  | left {y : D} {ys : List D} : EqL C S [] (y :: ys) false
  | right {x : D} {xs : List D} : EqL C S (x :: xs) [] false
  | hit {x y : D} {xs ys : List D} {b : Bool} (h : Eq1 C S x y true) (r : EqL C S xs ys b) : EqL C S (x :: xs) (y :: ys) b
  | miss {x y : D} {xs ys : List D} (h : Eq1 C S x y false) : EqL C S (x :: xs) (y :: ys) false
end
mutual
theorem eqD_rfl : ∀ (n : Nat) (d : D), okN n d = true → eqD d d = true
  | _, .non, _ => rfl
  | _, .bl b, _ => by cases b <;> rfl
  | _, .int i, _ => decide_eq_true rfl
  | _, .str x, _ => beq_self_eq_true x
  | n + 1, .tup xs, h => eqDs_rfl n xs h
  | n + 1, .lst xs, h => eqDs_rfl n xs h
  | 0, .tup _, h => by cases h
  | 0, .lst _, h => by cases h
  | n, .ty _, h => by cases n <;> cases h
  | n, .obj _ _, h => by cases n <;> cases h
  | n, .ref _, h => by cases n <;> cases h
  | n, .scr _, h => by cases n <;> cases h
  | n, .dic _, h => by cases n <;> cases h
  | n, .cls _, h => by cases n <;> cases h
  | n, .err _ _, h => by cases n <;> cases h
theorem eqDs_rfl : ∀ (n : Nat) (ds : List D), okNs n ds = true → eqDs ds ds = true
  | _, [], _ => rfl
  | n, d :: ds, h => by
    have h' := Bool.and_eq_true_iff.mp (show (okN n d && okNs n ds) = true by cases n <;> exact h)
    show (eqD d d && eqDs ds ds) = true
    rw [eqD_rfl n d h'.1, eqDs_rfl n ds h'.2]
    rfl
end
mutual
theorem Eq1.same {C : Ct} {S : Store} : ∀ {x y : D} {b : Bool}, Eq1 C S x y b → x = y → b = true
  | _, _, _, .flat hx _, e => by subst e; exact eqD_rfl 8 _ hx
  | _, _, _, .obj _ hr _, e => hr e.symm
  | _, _, _, .tup h, e => h.same (D.tup.inj e)
  | _, _, _, .lst _ h, e => h.same (D.lst.inj e)
  | _, _, _, .lstn hl, e => absurd (congrArg List.length (D.lst.inj e)) hl
theorem EqL.same {C : Ct} {S : Store} : ∀ {xs ys : List D} {b : Bool}, EqL C S xs ys b → xs = ys → b = true
  | _, _, _, .nil, _ => rfl
  | _, _, _, .left, e => by cases e
  | _, _, _, .right, e => by cases e
  | _, _, _, .hit _ r, e => r.same (List.cons.inj e).2
  | _, _, _, .miss h, e => absurd (h.same (List.cons.inj e).1) (by decide)
end
section
end
section
variable {g : Sg} {X : Cx} {W : WX}
/-- x == y, within a comparison -/
def EqOk (g : Sg) (X : Cx) (S : Store) (k : Nat) (x y : D) (b : Bool) : Prop :=
  ∀ {A0 : Around} {pins : List (Addr × Obj)} {s : Shared} {σ : L2.St} {H : Hp} {w : Wd} {ρ : List Sl} {vx vy : V} {u v : Value} {Q : Bool → Shared → Prop},
    Room (k + 1 + hgt x) A0 → A0.frames = some X.stack → Inv X pins σ H s → At g w ρ S σ H → Rep g w vx x → Rep g w vy y → dtm x = true → dtm y = true → RelV vx u → RelV vy v →
    (∀ s' H' w', Le w w' → Inv X pins σ H' s' → At g w' ρ S σ H' → Q b s') → wpAny (model X.prog X.w) A0 (eqBool u v) Q X.xe s
/-- the same by an operator; neg: != -/
def RcOk (g : Sg) (X : Cx) (S : Store) (k : Nat) (x y : D) (b neg : Bool) : Prop :=
  ∀ {A0 : Around} {pins : List (Addr × Obj)} {s : Shared} {σ : L2.St} {H : Hp} {w : Wd} {ρ : List Sl} {vx vy : V} {u v : Value} {Q : Value → Shared → Prop},
    Room (k + 1 + hgt x) A0 → A0.frames = some X.stack → Inv X pins σ H s → At g w ρ S σ H → Rep g w vx x → Rep g w vy y → dtm x = true → dtm y = true → RelV vx u → RelV vy v →
    (∀ s' H' w', Le w w' → Inv X pins σ H' s' → At g w' ρ S σ H' → Q (.bool (negB neg b)) s') → wpAny (model X.prog X.w) A0 (richCompare (if neg then .NotEq else .Eq) u v) Q X.xe s
inductive EqOks (g : Sg) (X : Cx) (S : Store) (k : Nat) : List D → List D → Bool → Prop where
  | nil : EqOks g X S k [] [] true
  | left {y : D} {ys : List D} : EqOks g X S k [] (y :: ys) false
  | right {x : D} {xs : List D} : EqOks g X S k (x :: xs) [] false
  | hit {x y : D} {xs ys : List D} {b : Bool} (h : EqOk g X S k x y true) (r : EqOks g X S k xs ys b) : EqOks g X S k (x :: xs) (y :: ys) b
  | miss {x y : D} {xs ys : List D} (h : EqOk g X S k x y false) : EqOks g X S k (x :: xs) (y :: ys) false
theorem eqoks_drop {S : Store} {k : Nat} : ∀ {xs ys : List D} {b : Bool}, EqOks g X S k xs ys b → ∀ {x : D} {r : List D} {y : D} {r' : List D}, xs = x :: r → ys = y :: r' → (EqOk g X S k x y true ∧ EqOks g X S k r r' b) ∨ (EqOk g X S k x y false ∧ b = false)
  | _, _, _, .nil, _, _, _, _, e, _ => by cases e
  | _, _, _, .left, _, _, _, _, e, _ => by cases e
  | _, _, _, .right, _, _, _, _, _, e => by cases e
  | _, _, _, .hit h r, _, _, _, _, e, e' => by cases e; cases e'; exact .inl ⟨h, r⟩
  | _, _, _, .miss h, _, _, _, _, e, e' => by cases e; cases e'; exact .inr ⟨h, rfl⟩
theorem dtms_at : ∀ {ds : List D} {i : Nat} {d : D}, dtms ds = true → ds[i]? = some d → dtm d = true
  | [], _, _, _, h => by simp at h
  | x :: xs, 0, d, h, e => by
    obtain ⟨h1, h2⟩ := Bool.and_eq_true_iff.mp (show (dtm x && dtms xs) = true from h)
    cases e
    exact h1
  | x :: xs, i + 1, d, h, e => by
    obtain ⟨h1, h2⟩ := Bool.and_eq_true_iff.mp (show (dtm x && dtms xs) = true from h)
    exact dtms_at h2 e
theorem eql_loop {S : Store} {k : Nat} (hK : g.K = X.K) {ds es : List D} {b : Bool} (neg : Bool) (hl : ds.length = es.length) (hd : dtms ds = true) (he : dtms es = true) {A : Around} {a c : Addr} {pins : List (Addr × Obj)} {σ : L2.St} {ρ : List Sl} {w0 : Wd} {R : Result → Shared → Prop} (hr : Room (k + 2 + hgts ds) A) (hA : A.frames = some X.stack) (hE : ∀ e s', X.xe e s' → R (.error e) s') :
    ∀ (m i : Nat) (s : Shared) (H : Hp) (w : Wd), ds.length - i = m → i ≤ ds.length → EqOks g X S k (ds.drop i) (es.drop i) b → Le w0 w → Inv X pins σ H s → At g w ρ S σ H → Rep g w (.ref a) (.lst ds) → Rep g w (.ref c) (.lst es) →
    (∀ s' H' w', Le w0 w' → Inv X pins σ H' s' → At g w' ρ S σ H' → R (.ok (.ret (.bool (negB neg b)))) s') →
    codeAny (model X.prog X.w) A (.builtin "list.__eq__.loop" ⟨[.ref a, .ref c, rawInt i, rawInt (if neg then 3 else 2)], []⟩) R s := by
  intro m
  induction m with
  | zero =>
    intro i s H w hm hi hT l I At0 ra rc hR
    have hin : i = ds.length := by omega
    cases id ra with
    | lst hh rr =>
    cases id rc with
    | lst hh2 rr2 =>
    obtain ⟨its, rv, ⟨⟨cls, dd, dt, sl⟩, n, ho, hc, _, hd0⟩, _⟩ := I.list (SqL.of (At0.ih _ _ hh))
    obtain ⟨its2, rv2, ⟨⟨cls2, dd2, dt2, sl2⟩, n2, ho2, hc2, _, hd2⟩, _⟩ := I.list (SqL.of (At0.ih _ _ hh2))
    simp only at hc hd0 hc2 hd2
    subst hc hd0 hc2 hd2
    have hil : its.length = ds.length := by rw [vals_len rv, reps_len rr]
    have hil2 : its2.length = es.length := by rw [vals_len rv2, reps_len rr2]
    have hb : b = true := by
      rw [List.drop_of_length_le (by omega), List.drop_of_length_le (by omega)] at hT
      cases hT
      rfl
    subst hb
    refine codeAny_builtin entry_eq_loop ?_
    rw [Around.under_plainId plain_eq_loop _]
    obtain ⟨hp, g0, d0, tk, os⟩ := s
    have fin := hR _ H w l I At0
    have hi1 : its.toArray[((i : Nat) : Int).toNat]? = none := by simp; omega
    have hi2 : its2.toArray[((i : Nat) : Int).toNat]? = none := by simp; omega
    have hsz : its.toArray.size = its2.toArray.size := by simp; omega
    cases neg
    · wp_walk using wpAny_loadPart' ho, wpAny_loadPart' ho2
      rw [hi1, hi2]
      wp_walk using wpAny_loadPart' ho, wpAny_loadPart' ho2
      show R (.ok (.ret (.bool (its.toArray.size == its2.toArray.size)))) _
      rw [hsz, beq_self_eq_true]
      exact fin
    · wp_walk using wpAny_loadPart' ho, wpAny_loadPart' ho2
      rw [hi1, hi2]
      wp_walk using wpAny_loadPart' ho, wpAny_loadPart' ho2
      show R (.ok (.ret (.bool (its.toArray.size != its2.toArray.size)))) _
      rw [hsz, bne_self_eq_false]
      exact fin
  | succ m ih =>
    intro i s H w hm hi hT l I At0 ra rc hR
    have hlt : i < ds.length := by omega
    have hlt2 : i < es.length := by omega
    cases id ra with
    | lst hh rr =>
    cases id rc with
    | lst hh2 rr2 =>
    obtain ⟨its, rv, ⟨⟨cls, dd, dt, sl⟩, n, ho, hc, _, hd0⟩, _⟩ := I.list (SqL.of (At0.ih _ _ hh))
    obtain ⟨its2, rv2, ⟨⟨cls2, dd2, dt2, sl2⟩, n2, ho2, hc2, _, hd2⟩, _⟩ := I.list (SqL.of (At0.ih _ _ hh2))
    simp only at hc hd0 hc2 hd2
    subst hc hd0 hc2 hd2
    obtain ⟨x, hx⟩ : ∃ x, ds[i]? = some x := ⟨_, List.getElem?_eq_getElem hlt⟩
    obtain ⟨y, hy⟩ : ∃ y, es[i]? = some y := ⟨_, List.getElem?_eq_getElem hlt2⟩
    obtain ⟨v, hv, rd⟩ := reps_at rr hx
    obtain ⟨u, hu, ru⟩ := vals_at rv hv
    obtain ⟨v2, hv2, rd2⟩ := reps_at rr2 hy
    obtain ⟨u2, hu2, ru2⟩ := vals_at rv2 hv2
    have e1 : ds.drop i = x :: ds.drop (i + 1) := drop_cons hx
    have e2 : es.drop i = y :: es.drop (i + 1) := drop_cons hy
    have hc : ((i : Int) + 1) = ((i + 1 : Nat) : Int) := by push_cast; rfl
    have hi1 : its.toArray[((i : Nat) : Int).toNat]? = some u := by simpa using hu
    have hi2 : its2.toArray[((i : Nat) : Int).toNat]? = some u2 := by simpa using hu2
    have hgt1 : hgt x ≤ hgts ds := hgt_at hx
    refine codeAny_builtin entry_eq_loop ?_
    rw [Around.under_plainId plain_eq_loop _]
    have hrx : Room (k + 1 + hgt x) A.in1 := (Room.in1 (k := k + 1 + hgts ds) (hr.mono (by omega))).mono (by omega)
    obtain ⟨hp, g0, d0, tk, os⟩ := s
    rcases eqoks_drop hT e1 e2 with ⟨ho1, hT'⟩ | ⟨ho1, rfl⟩
    · have run := ho1 (A0 := A.in1) (Q := fun bb s' => bb = true ∧ ∃ H' w', Le w w' ∧ Inv X pins σ H' s' ∧ At g w' ρ S σ H') hrx hA I At0 rd rd2 (dtms_at hd hx) (dtms_at he hy) ru ru2 fun s' H' w' l' I' A' => ⟨rfl, H', w', l', I', A'⟩
      cases neg
      · wp_walk using wpAny_loadPart' ho, wpAny_loadPart' ho2
        rw [hi1, hi2]
        refine wpAny_bind (wpAny_mono run (fun bb s' hb => ?_) fun e s' z => hE e s' z)
        obtain ⟨rfl, H', w', l', I', A'⟩ := hb
        wp_walk
        rw [hc]
        exact ⟨plainId_quiet plain_eq_loop _, ih (i + 1) s' H' w' (by omega) hlt hT' (l.trans l') I' A' (ra.mono l'.s) (rc.mono l'.s) hR⟩
      · wp_walk using wpAny_loadPart' ho, wpAny_loadPart' ho2
        rw [hi1, hi2]
        refine wpAny_bind (wpAny_mono run (fun bb s' hb => ?_) fun e s' z => hE e s' z)
        obtain ⟨rfl, H', w', l', I', A'⟩ := hb
        wp_walk
        rw [hc]
        exact ⟨plainId_quiet plain_eq_loop _, ih (i + 1) s' H' w' (by omega) hlt hT' (l.trans l') I' A' (ra.mono l'.s) (rc.mono l'.s) hR⟩
    · have run := ho1 (A0 := A.in1) (Q := fun bb s' => bb = false ∧ ∃ H' w', Le w w' ∧ Inv X pins σ H' s' ∧ At g w' ρ S σ H') hrx hA I At0 rd rd2 (dtms_at hd hx) (dtms_at he hy) ru ru2 fun s' H' w' l' I' A' => ⟨rfl, H', w', l', I', A'⟩
      have after : ∀ (s' : Shared) (H' : Hp) (w' : Wd), Le w w' → Inv X pins σ H' s' → At g w' ρ S σ H' → ∃ (q1 q2 : Obj) (i1 i2 : Array Value) (n1 n2 : Nat) (z1 z2 : Value), s'.heap.get? a = some q1 ∧ s'.heap.get? c = some q2 ∧ q1.data = .seq i1 n1 ∧ q2.data = .seq i2 n2 ∧ i1[((i : Nat) : Int).toNat]? = some z1 ∧ i2[((i : Nat) : Int).toNat]? = some z2 := by
        intro s' H' w' l' I' A'
        obtain ⟨jts, qv, ⟨q1, m1, k1, _, _, k3⟩, _⟩ := I'.list (SqL.of (A'.ih _ _ (l'.s.i _ _ hh)))
        obtain ⟨jts2, qv2, ⟨q2, m2, k4, _, _, k6⟩, _⟩ := I'.list (SqL.of (A'.ih _ _ (l'.s.i _ _ hh2)))
        obtain ⟨z1, hz1, _⟩ := vals_at qv hv
        obtain ⟨z2, hz2, _⟩ := vals_at qv2 hv2
        exact ⟨q1, q2, jts.toArray, jts2.toArray, m1, m2, z1, z2, k1, k4, k3, k6, by simpa using hz1, by simpa using hz2⟩
      cases neg
      · wp_walk using wpAny_loadPart' ho, wpAny_loadPart' ho2
        rw [hi1, hi2]
        refine wpAny_bind (wpAny_mono run (fun bb s' hb => ?_) fun e s' z => hE e s' z)
        obtain ⟨rfl, H', w', l', I', A'⟩ := hb
        obtain ⟨⟨c1, f1, t1, o1⟩, ⟨c2, f2, t2, o2⟩, i1, i2, n1, n2, z1, z2, k1, k2, k3, k4, k5, k6⟩ := after s' H' w' l' I' A'
        simp only at k3 k4
        subst k3 k4
        have fin := hR _ H' w' (l.trans l') I' A'
        obtain ⟨hp2, g2, d2, tk2, os2⟩ := s'
        wp_walk using wpAny_loadPart' k1, wpAny_loadPart' k2
        rw [k5, k6]
        wp_walk
        exact fin
      · wp_walk using wpAny_loadPart' ho, wpAny_loadPart' ho2
        rw [hi1, hi2]
        refine wpAny_bind (wpAny_mono run (fun bb s' hb => ?_) fun e s' z => hE e s' z)
        obtain ⟨rfl, H', w', l', I', A'⟩ := hb
        obtain ⟨⟨c1, f1, t1, o1⟩, ⟨c2, f2, t2, o2⟩, i1, i2, n1, n2, z1, z2, k1, k2, k3, k4, k5, k6⟩ := after s' H' w' l' I' A'
        simp only at k3 k4
        subst k3 k4
        have fin := hR _ H' w' (l.trans l') I' A'
        obtain ⟨hp2, g2, d2, tk2, os2⟩ := s'
        wp_walk using wpAny_loadPart' k1, wpAny_loadPart' k2
        rw [k5, k6]
        wp_walk
        exact fin
end
end R3

namespace R3
open PySem PySem.Spec PyProof.Rows L2
open SeqAt AutoSeq1 MeetsSeq MeetsSeq2 MeetsSeq3 SeqRoads2
section
variable {g : Sg} {X : Cx} {W : WX}
theorem EqOks.lens {S : Store} {k : Nat} : ∀ {xs ys : List D} {b : Bool}, EqOks g X S k xs ys b → (b = true → xs.length = ys.length)
  | _, _, _, .nil, _ => rfl
  | _, _, _, .left, h => by cases h
  | _, _, _, .right, h => by cases h
  | _, _, _, .hit _ r, h => by simp [r.lens h]
  | _, _, _, .miss _, h => by cases h
/-- where one side is at its end -/
theorem EqOks.ended {S : Store} {k : Nat} {xs ys : List D} {b : Bool} (h : EqOks g X S k xs ys b) (e : xs = [] ∨ ys = []) : b = (xs.length == ys.length) := by
  cases h with
  | nil => rfl
  | left => rfl
  | right => rfl
  | hit h r => rcases e with e | e <;> cases e
  | miss h => rcases e with e | e <;> cases e
theorem tup_rc {S : Store} {k : Nat} (hK : g.K = X.K) {ds es : List D} {b : Bool} (neg : Bool) (hT : EqOks g X S k ds es b) : RcOk g X S k (.tup ds) (.tup es) b neg := by
  intro A0 pins s σ H w ρ vx vy u v Q hr hA I At0 rx ry tx ty ru rv hQ
  cases id rx with
  | tup hh rr =>
  cases id ry with
  | tup hh2 rr2 =>
  rename_i a vs c vs2
  obtain rfl : u = .ref a := ru
  obtain rfl : v = .ref c := rv
  obtain ⟨its, qv, ⟨⟨cls, dd, dt, sl⟩, ho, hc, n, hd0⟩, _⟩ := I.tuple (hK ▸ At0.t hh)
  obtain ⟨its2, qv2, ⟨⟨cls2, dd2, dt2, sl2⟩, ho2, hc2, n2, hd2⟩, _⟩ := I.tuple (hK ▸ At0.t hh2)
  simp only at hc hd0 hc2 hd2
  subst hc hd0 hc2 hd2
  have hil : its.length = ds.length := by rw [vals_len qv, reps_len rr]
  have hil2 : its2.length = es.length := by rw [vals_len qv2, reps_len rr2]
  have hh3 : hgt (.tup ds) = hgts ds + 1 := rfl
  rw [hh3] at hr
  have hr1 : Room (k + 1 + hgts ds) A0.in1 := Room.in1 (hr.mono (by omega))
  have hu : A0.units < cLine := by have := hr.units; omega
  have ta : s.TypeIs (.ref a) "tuple" := ⟨_, ho, rfl⟩
  have tb : s.TypeIs (.ref c) "tuple" := ⟨_, ho2, rfl⟩
  have f2 := AutoSeq1.sub_tuple_tuple
  have hZ : (its.zip its2).length = min its.length its2.length := List.length_zip
  -- a turn
  have turn : ∀ (i : Nat) (y x : Value) (rest : List (Value × Value)) (s' : Shared) (H' : Hp) (w' : Wd), (y, x) :: rest = (its.zip its2).drop i → Le w w' → Inv X pins σ H' s' → At g w' ρ S σ H' → EqOks g X S k (ds.drop i) (es.drop i) b → ∀ (P : Bool → Shared → Prop),
      (∀ (bb : Bool) (s2 : Shared) (H2 : Hp) (w2 : Wd), Le w w2 → Inv X pins σ H2 s2 → At g w2 ρ S σ H2 → ((bb = true ∧ rest = (its.zip its2).drop (i + 1) ∧ EqOks g X S k (ds.drop (i + 1)) (es.drop (i + 1)) b) ∨ (bb = false ∧ b = false)) → P bb s2) → wpAny (model X.prog X.w) A0.in1 (eqBool y x) P X.xe s' := by
    intro i y x rest s' H' w' hz l' I' A' hT' P hP
    have hlt : i < (its.zip its2).length := by
      rcases Nat.lt_or_ge i (its.zip its2).length with h' | h'
      · exact h'
      · rw [List.drop_of_length_le h'] at hz; cases hz
    have hm : i < min its.length its2.length := hZ ▸ hlt
    have h1 : i < its.length := Nat.lt_of_lt_of_le hm (Nat.min_le_left _ _)
    have h2 : i < its2.length := Nat.lt_of_lt_of_le hm (Nat.min_le_right _ _)
    rw [List.drop_eq_getElem_cons hlt] at hz
    injection hz with hyx hrest
    have hy : y = its[i] := by have := congrArg Prod.fst hyx; simpa using this
    have hx : x = its2[i] := by have := congrArg Prod.snd hyx; simpa using this
    obtain ⟨d1, k1⟩ : ∃ d, ds[i]? = some d := ⟨_, List.getElem?_eq_getElem (by omega)⟩
    obtain ⟨d2, k2⟩ : ∃ d, es[i]? = some d := ⟨_, List.getElem?_eq_getElem (by omega)⟩
    obtain ⟨v1, m1, r1⟩ := reps_at rr k1
    obtain ⟨u1, m2, q1⟩ := vals_at qv m1
    obtain ⟨v2, m3, r2⟩ := reps_at rr2 k2
    obtain ⟨u2, m4, q2⟩ := vals_at qv2 m3
    rw [List.getElem?_eq_getElem h1] at m2
    rw [List.getElem?_eq_getElem h2] at m4
    cases m2
    cases m4
    subst hy hx
    have hg1 : hgt d1 ≤ hgts ds := hgt_at k1
    rcases eqoks_drop hT' (drop_cons k1) (drop_cons k2) with ⟨ho1, hT2⟩ | ⟨ho1, hb⟩
    · exact ho1 (A0 := A0.in1) (hr1.mono (by omega)) hA I' A' (r1.mono l'.s) (r2.mono l'.s) (dtms_at tx k1) (dtms_at ty k2) q1 q2 fun s2 H2 w2 l2 I2 A2 => hP true s2 H2 w2 (l'.trans l2) I2 A2 (.inl ⟨rfl, hrest, hT2⟩)
    · exact ho1 (A0 := A0.in1) (hr1.mono (by omega)) hA I' A' (r1.mono l'.s) (r2.mono l'.s) (dtms_at tx k1) (dtms_at ty k2) q1 q2 fun s2 H2 w2 l2 I2 A2 => hP false s2 H2 w2 (l'.trans l2) I2 A2 (.inr ⟨rfl, hb⟩)
  have done : ∀ (i : Nat), [] = (its.zip its2).drop i → EqOks g X S k (ds.drop i) (es.drop i) b → b = (its.length == its2.length) := by
    intro i hz hT'
    have hge : min its.length its2.length ≤ i := by
      rcases Nat.lt_or_ge i (its.zip its2).length with h' | h'
      · rw [List.drop_eq_getElem_cons h'] at hz; cases hz
      · exact hZ ▸ h'
    cases hb : b with
    | true =>
      rw [hb] at hT
      rw [hil, hil2, hT.lens rfl, beq_self_eq_true]
    | false =>
      rw [hb] at hT'
      cases hq : its.length == its2.length with
      | false => rfl
      | true =>
        have e0 := eq_of_beq hq
        have e := hT'.ended (by
          rcases Nat.le_total its.length its2.length with z | z
          · exact .inl (List.drop_of_length_le (by omega))
          · exact .inr (List.drop_of_length_le (by omega)))
        rw [List.length_drop, List.length_drop] at e
        have : ds.length - i = es.length - i := by omega
        rw [this, beq_self_eq_true] at e
        cases e
  cases neg
  · refine wpAny_richCompare_same_room (op := .Eq) ta tb F.slot_tuple_eq (call_meetsIn (S := fun A R s0 => A = A0 ∧ s0 = s ∧ R = wants _ _) F.slot_tuple_eq ta F.entry_tuple_eq (F.args_tuple_eq_2 _ _) (.of_wp fun A R s0 h0 => ?_) ⟨rfl, rfl, rfl⟩) hu
    obtain ⟨rfl, rfl, rfl⟩ := h0
    obtain ⟨hp, g0, d0, tk, os⟩ := s0
    wp_walk using wpAny_loadPart' ho, wpAny_loadPart' ho2, wpAny_forIn_list _ (fun rest bb s' => bb.1 = none ∧ ∃ H' w' i, Le w w' ∧ Inv X pins σ H' s' ∧ At g w' ρ S σ H' ∧ rest = (its.zip its2).drop i ∧ EqOks g X S k (ds.drop i) (es.drop i) b) _
    case turn =>
      rintro ⟨y, x⟩ rest bb s' ⟨hb', H', w', i, l', I', A', hz, hT'⟩
      refine wpAny_bind (turn i y x rest s' H' w' hz l' I' A' hT' _ fun b2 s2 H2 w2 l2 I2 A2 hc => ?_)
      rcases hc with ⟨rfl, hr2, hT2⟩ | ⟨rfl, rfl⟩
      · wp_walk
        exact ⟨rfl, H2, w2, i + 1, l2, I2, A2, hr2, hT2⟩
      · wp_walk
        exact ⟨_, rfl, (fun z => nomatch z), hQ s2 H2 w2 l2 I2 A2⟩
    case fin =>
      rintro ⟨b1, b2⟩ s' ⟨hb', H', w', i, l', I', A', hz, hT'⟩
      simp only at hb'
      subst hb'
      have e := done i hz hT'
      wp_walk
      refine ⟨_, rfl, (fun z => nomatch z), ?_⟩
      show Q (.bool (its.toArray.size == its2.toArray.size)) s'
      rw [List.size_toArray, List.size_toArray, ← e]
      exact hQ s' H' w' l' I' A'
    case h =>
      exact ⟨rfl, H, w, 0, Le.refl w, I, At0, rfl, hT⟩
  · refine wpAny_richCompare_same_room (op := .NotEq) ta tb F.slot_tuple_ne (call_meetsIn (S := fun A R s0 => A = A0 ∧ s0 = s ∧ R = wants _ _) F.slot_tuple_ne ta F.entry_tuple_ne (F.args_tuple_ne_2 _ _) (.of_wp fun A R s0 h0 => ?_) ⟨rfl, rfl, rfl⟩) hu
    obtain ⟨rfl, rfl, rfl⟩ := h0
    obtain ⟨hp, g0, d0, tk, os⟩ := s0
    wp_walk using wpAny_loadPart' ho, wpAny_loadPart' ho2, wpAny_forIn_list _ (fun rest bb s' => bb.1 = none ∧ ∃ H' w' i, Le w w' ∧ Inv X pins σ H' s' ∧ At g w' ρ S σ H' ∧ rest = (its.zip its2).drop i ∧ EqOks g X S k (ds.drop i) (es.drop i) b) _
    case turn =>
      rintro ⟨y, x⟩ rest bb s' ⟨hb', H', w', i, l', I', A', hz, hT'⟩
      refine wpAny_bind (turn i y x rest s' H' w' hz l' I' A' hT' _ fun b2 s2 H2 w2 l2 I2 A2 hc => ?_)
      rcases hc with ⟨rfl, hr2, hT2⟩ | ⟨rfl, rfl⟩
      · wp_walk
        exact ⟨rfl, H2, w2, i + 1, l2, I2, A2, hr2, hT2⟩
      · wp_walk
        exact ⟨_, rfl, (fun z => nomatch z), hQ s2 H2 w2 l2 I2 A2⟩
    case fin =>
      rintro ⟨b1, b2⟩ s' ⟨hb', H', w', i, l', I', A', hz, hT'⟩
      simp only at hb'
      subst hb'
      have e := done i hz hT'
      wp_walk
      refine ⟨_, rfl, (fun z => nomatch z), ?_⟩
      show Q (.bool (its.toArray.size != its2.toArray.size)) s'
      have e2 : (its.toArray.size != its2.toArray.size) = !b := by rw [List.size_toArray, List.size_toArray, e]; rfl
      rw [e2]
      exact hQ s' H' w' l' I' A'
    case h =>
      exact ⟨rfl, H, w, 0, Le.refl w, I, At0, rfl, hT⟩
theorem lst_rc {S : Store} {k : Nat} (hK : g.K = X.K) {ds es : List D} {b : Bool} (neg : Bool) (hl : ds.length = es.length) (hT : EqOks g X S k ds es b) : RcOk g X S k (.lst ds) (.lst es) b neg := by
  intro A0 pins s σ H w ρ vx vy u v Q hr hA I At0 rx ry tx ty ru rv hQ
  cases id rx with
  | lst hh rr =>
  cases id ry with
  | lst hh2 rr2 =>
  rename_i a vs c vs2
  obtain rfl : u = .ref a := ru
  obtain rfl : v = .ref c := rv
  obtain ⟨its, qv, ⟨⟨cls, dd, dt, sl⟩, n, ho, hc, _, hd0⟩, _⟩ := I.list (SqL.of (At0.ih _ _ hh))
  obtain ⟨its2, qv2, ⟨⟨cls2, dd2, dt2, sl2⟩, n2, ho2, hc2, _, hd2⟩, _⟩ := I.list (SqL.of (At0.ih _ _ hh2))
  simp only at hc hd0 hc2 hd2
  subst hc hd0 hc2 hd2
  have hil : its.length = ds.length := by rw [vals_len qv, reps_len rr]
  have hil2 : its2.length = es.length := by rw [vals_len qv2, reps_len rr2]
  have hh3 : hgt (.lst ds) = hgts ds + 1 := rfl
  rw [hh3] at hr
  have hu : A0.units < cLine := by have := hr.units; omega
  have ta : s.TypeIs (.ref a) "list" := ⟨_, ho, rfl⟩
  have tb : s.TypeIs (.ref c) "list" := ⟨_, ho2, rfl⟩
  have f3 := AutoSeq1.sub_list_list
  have hne : ¬ (its.toArray.size != its2.toArray.size) = true := by simp; omega
  cases neg
  · refine wpAny_richCompare_same_room (op := .Eq) ta tb F.slot_list_eq (call_meetsIn (S := fun A R s0 => A = A0 ∧ s0 = s ∧ R = wants _ _) F.slot_list_eq ta F.entry_list_eq (F.args_list_eq_2 _ _) (fun A R s0 h0 => ?_) ⟨rfl, rfl, rfl⟩) hu
    obtain ⟨rfl, rfl, rfl⟩ := h0
    have loop := eql_loop (A := A) (a := a) (c := c) (pins := pins) (σ := σ) (ρ := ρ) (w0 := w) hK false hl tx ty (R := wants (fun v s' => v ≠ Value.notImplemented ∧ Q v s') X.xe) (hr.mono (by omega)) hA (fun e s' h => h) _ 0 s0 H w rfl (Nat.zero_le _) hT (Le.refl w) I At0 rx ry fun s' H' w' l' I' A' => ⟨(fun z => nomatch z), hQ s' H' w' l' I' A'⟩
    obtain ⟨hp, g0, d0, tk, os⟩ := s0
    wp_walk using wpAny_loadPart' ho, wpAny_loadPart' ho2
    exact ⟨plainId_quiet plain_eq_loop _, loop⟩
  · refine wpAny_richCompare_same_room (op := .NotEq) ta tb F.slot_list_ne (call_meetsIn (S := fun A R s0 => A = A0 ∧ s0 = s ∧ R = wants _ _) F.slot_list_ne ta F.entry_list_ne (F.args_list_ne_2 _ _) (fun A R s0 h0 => ?_) ⟨rfl, rfl, rfl⟩) hu
    obtain ⟨rfl, rfl, rfl⟩ := h0
    have loop := eql_loop (A := A) (a := a) (c := c) (pins := pins) (σ := σ) (ρ := ρ) (w0 := w) hK true hl tx ty (R := wants (fun v s' => v ≠ Value.notImplemented ∧ Q v s') X.xe) (hr.mono (by omega)) hA (fun e s' h => h) _ 0 s0 H w rfl (Nat.zero_le _) hT (Le.refl w) I At0 rx ry fun s' H' w' l' I' A' => ⟨(fun z => nomatch z), hQ s' H' w' l' I' A'⟩
    obtain ⟨hp, g0, d0, tk, os⟩ := s0
    wp_walk using wpAny_loadPart' ho, wpAny_loadPart' ho2
    exact ⟨plainId_quiet plain_eq_loop _, loop⟩
theorem lst_rcn {S : Store} {k : Nat} (hK : g.K = X.K) {ds es : List D} (neg : Bool) (hl : ds.length ≠ es.length) : RcOk g X S k (.lst ds) (.lst es) false neg := by
  intro A0 pins s σ H w ρ vx vy u v Q hr hA I At0 rx ry tx ty ru rv hQ
  cases id rx with
  | lst hh rr =>
  cases id ry with
  | lst hh2 rr2 =>
  rename_i a vs c vs2
  obtain rfl : u = .ref a := ru
  obtain rfl : v = .ref c := rv
  obtain ⟨its, qv, ⟨⟨cls, dd, dt, sl⟩, n, ho, hc, _, hd0⟩, _⟩ := I.list (SqL.of (At0.ih _ _ hh))
  obtain ⟨its2, qv2, ⟨⟨cls2, dd2, dt2, sl2⟩, n2, ho2, hc2, _, hd2⟩, _⟩ := I.list (SqL.of (At0.ih _ _ hh2))
  simp only at hc hd0 hc2 hd2
  subst hc hd0 hc2 hd2
  have hil : its.length = ds.length := by rw [vals_len qv, reps_len rr]
  have hil2 : its2.length = es.length := by rw [vals_len qv2, reps_len rr2]
  have hu : A0.units < cLine := by have := hr.units; omega
  have ta : s.TypeIs (.ref a) "list" := ⟨_, ho, rfl⟩
  have tb : s.TypeIs (.ref c) "list" := ⟨_, ho2, rfl⟩
  have f3 := AutoSeq1.sub_list_list
  have hne : (its.toArray.size != its2.toArray.size) = true := by simp; omega
  have fin := hQ s H w (Le.refl w) I At0
  cases neg
  · refine wpAny_richCompare_same_room (op := .Eq) ta tb F.slot_list_eq (call_meetsIn (S := fun A R s0 => A = A0 ∧ s0 = s ∧ R = wants _ _) F.slot_list_eq ta F.entry_list_eq (F.args_list_eq_2 _ _) (fun A R s0 h0 => ?_) ⟨rfl, rfl, rfl⟩) hu
    obtain ⟨rfl, rfl, rfl⟩ := h0
    obtain ⟨hp, g0, d0, tk, os⟩ := s0
    wp_walk using wpAny_loadPart' ho, wpAny_loadPart' ho2
    exact ⟨(fun z => nomatch z), fin⟩
  · refine wpAny_richCompare_same_room (op := .NotEq) ta tb F.slot_list_ne (call_meetsIn (S := fun A R s0 => A = A0 ∧ s0 = s ∧ R = wants _ _) F.slot_list_ne ta F.entry_list_ne (F.args_list_ne_2 _ _) (fun A R s0 h0 => ?_) ⟨rfl, rfl, rfl⟩) hu
    obtain ⟨rfl, rfl, rfl⟩ := h0
    obtain ⟨hp, g0, d0, tk, os⟩ := s0
    wp_walk using wpAny_loadPart' ho, wpAny_loadPart' ho2
    exact ⟨(fun z => nomatch z), fin⟩
end
end R3

namespace R3
open PySem PySem.Spec PyProof.Rows L2
section
variable {g : Sg} {X : Cx} {W : WX} {a e o : Expr} {pos apos : Pos} {fa fe fo : FE} {es : List Expr} {kws : List Keyword} {fr fk : FA}
/-- a method that gives a new list, by keywords -/
structure MetLK {kn : Bool} (P : Program) (w : World) (mg : Str → Option Value) (base : Heap) (g : Sg) (k : Nat) (c : Nat) (m : Str) (n : Nat) (ks : List Str) (C : CtL) : Prop where
  ex : ∃ f, Meth g.K (g.ad c) m f ∧ FnK P w g.K mg base (CXK kn P w) k f n ks (spOfL g (n + ks.length) C)
end
section
end
end R3

namespace R3
open PySem PySem.Spec PyProof.Rows L2
section
variable {g : Sg} {X : Cx} {W : WX} {e e2 elt tg iter : Expr} {pos p : Pos} {fr : FA} {fe fo : FE} {ft : FT} {fg : FG} {vs : List Nat} {st : Stmt}
structure GenR (g : Sg) (w : Wd) (J : It) (n : Nat) (ds0 ds : List D) : Prop where
  go : ∀ (i : Nat) (w' : Wd) (ρ : List Sl) (S : Store) (σ : L2.St) (H : Hp), S[n]? = some (some (.lst ds0)) → i < ds.length → Le w w' → At g w' ρ S σ H → J.go i H
  stop : ∀ (w' : Wd) (ρ : List Sl) (S : Store) (σ : L2.St) (H : Hp), S[n]? = some (some (.lst ds0)) → Le w w' → At g w' ρ S σ H → J.stop ds.length H
  yld : ∀ (i : Nat) (w' : Wd) (ρ : List Sl) (S : Store) (σ : L2.St) (H : Hp) (x : V) (H' : Hp) (d : D), S[n]? = some (some (.lst ds0)) → ds[i]? = some d → Le w w' → At g w' ρ S σ H → J.yld i H x H' → ∃ w'', Le w' w'' ∧ At g w'' ρ S σ H' ∧ Rep g w'' x d ∧ Same H H' ∧ ∀ b, w'.F b = none → H b ≠ none → w''.F b = none
end
end R3

namespace R3
open PySem PySem.Spec PyProof.Rows L2
section
end
section
end
end R3

namespace R3
open PySem PySem.Spec PyProof.Rows L2
section
variable {g : Sg} {X : Cx} {W : WX}
theorem Our.cons {pins : List (Addr × Obj)} {P T : Addr} {o : Obj} (O : Our X pins P) (h : T ≠ P) : Our X ((T, o) :: pins) P where
  sz := O.sz
  loc := O.loc
  fs := O.fs
  cel := O.cel
  pin := fun p hp => by
    rcases List.mem_append.mp hp with e | e
    · exact O.pin p (List.mem_append_left _ e)
    · rcases List.mem_cons.mp e with e | e
      · subst e; exact h
      · exact O.pin p (List.mem_append_right _ e)
end
end R3

namespace R3
open PySem PySem.Spec PyProof.Rows L2
section
end
end R3

namespace R3
open PySem PySem.Spec PyProof.Rows L2
section
end
end R3

namespace R3
open PySem PySem.Spec PyProof.Rows L2
end R3

namespace R3
open PySem PySem.Spec PyProof.Rows L2
section
variable {g : Sg} {X : Cx} {W : WX}
end
def obsA (as : List Addr) (fa : List (Fr → Bool)) (fn : List DefR) (s : PySem.W.SharedT) : Obs := obsR fa fn (He.frG (HandSHeadRun.getT s) as)
def hookL (as : List Addr) (fa : List (Fr → Bool)) (fn : List DefR) : PySem.W.Hook where
  α := Obs
  obs := fun s => obsR fa fn (He.frG s.heap.get? as)
  val := fun _ => wantR fn
  says := fun _ h => ∃ K : Fr, K.In h ∧ Told fa fn K
  of := fun _ _ e => ⟨_, He.frG_in, e⟩
  keeps := fun _ _ _ p k => p.elim fun K q => ⟨K, PySem.W.Frag.In.keeps q.1 k, q.2⟩
theorem obL_eq {as : List Addr} {fa : List (Fr → Bool)} {fn : List DefR} (s : PySem.W.SharedT) : obsA as fa fn s = (hookL as fa fn).obs s.abs := by
  unfold obsA
  rw [show HandSHeadRun.getT s = s.abs.heap.get? from funext (HandSHeadRun.getT_eq s)]
  rfl
end R3

namespace R3
open PySem PySem.Spec PyProof.Rows L2
section
variable {g : Sg} {X : Cx} {W : WX}
end
end R3

namespace R3
open PySem PySem.Spec PyProof.Rows L2 PySem.W PySem.Calls
section
variable {g : Sg} {X : Cx} {W : WX} {e : Expr} {fe : FE} {pos : Pos}
end
end R3

namespace R3
open PySem PySem.Spec PyProof.Rows L2
section
variable {g : Sg} {X : Cx} {W : WX} {e : Expr} {fe : FE} {pos : Pos}
end
end R3

namespace R3
open PySem PySem.Spec PyProof.Rows L2
open SeqAt AutoSeq1 MeetsSeq MeetsSeq2 MeetsSeq3 SeqRoads2
section
variable {g : Sg} {X : Cx} {W : WX}
end
end R3

namespace R3
open PySem PySem.Spec PyProof.Rows L2
section
end
end R3

namespace R3
open PySem PySem.Spec PyProof.Rows L2
section
end
end R3

namespace R3
open PySem PySem.Spec PyProof.Rows L2
open SeqAt AutoSeq1 MeetsSeq MeetsSeq2 MeetsSeq3 SeqRoads2
section
end
end R3

namespace R3
open PySem PySem.Spec PyProof.Rows L2
section
end
end R3

namespace R3
open PySem PySem.Spec PyProof.Rows L2
section
end
end R3

namespace R3
open PySem PySem.Spec PyProof.Rows L2
section
end
end R3

namespace R3
open PySem PySem.Spec PyProof.Rows L2 PySem.Builtin PySem.Builtin.Float PyProof
section
end

section
variable {g : Sg} {X : Cx} {W : WX} {e : Expr} {fe : FE} {pos : Pos}
/-- a field's form: a side and a width -/
structure Fsp (sp : Str) (al n : Nat) : Prop where
  side : al = 60 ∨ al = 62
  e0 : (sp.length == 0) = false
  e1 : ((sp.cps.toList.drop 1).any (· ≥ 128) || (sp.cps.getD 0 0 ≥ 128 && !([60, 62, 61, 94] : List Nat).contains (sp.cps.getD 1 0))) = false
  pi : al = 62 → parseFormatSpec sp.cps.toList "int" 62 = .ok { align := 62, width := some n }
  ps : parseFormatSpec sp.cps.toList "str" 60 = .ok { align := al, width := some n }
  e2 : (sp.cps.back? == some 0) = false
  wid : n ≤ 1000
  sz : sp.length ≤ 1000
end

section
end
section
end
section
end
section
end
end R3

namespace R3
open PySem PySem.Spec PyProof.Rows L2
open SeqAt AutoSeq1 MeetsSeq MeetsSeq2 MeetsSeq3 SeqRoads2
/-- what each comparison with y tells -/
inductive CntL (C : Ct) (S : Store) (y : D) : List D → List Bool → Prop where
  | nil : CntL C S y [] []
  | cons {x : D} {b : Bool} {xs : List D} {bs : List Bool} (h : Eq1 C S x y b) (r : CntL C S y xs bs) : CntL C S y (x :: xs) (b :: bs)
theorem CntL.len {C : Ct} {S : Store} {y : D} : ∀ {xs : List D} {bs : List Bool}, CntL C S y xs bs → bs.length = xs.length
  | _, _, .nil => rfl
  | _, _, .cons _ r => congrArg (· + 1) r.len
section
variable {g : Sg} {X : Cx} {W : WX}
end
end R3

namespace R3
open PySem PySem.Spec PyProof.Rows L2
section
end
section
end
end R3

namespace R3
open PySem PySem.Spec PyProof.Rows L2
section
variable {g : Sg} {X : Cx} {W : WX} {e o tg : Expr} {fe fo : FE} {apos pos : Pos}
/-- the signs of a text, as texts -/
def chD (x : Str) : List D := x.cps.toList.map fun c => D.str ⟨#[c]⟩
theorem chD_at {x : Str} {i : Nat} {d : D} (h : (chD x)[i]? = some d) : ∃ c, x.cps[i]? = some c ∧ d = .str ⟨#[c]⟩ := by
  unfold chD at h
  rw [List.getElem?_map] at h
  cases e : x.cps.toList[i]? with
  | none => rw [e] at h; cases h
  | some c =>
    rw [e] at h
    exact ⟨c, by rw [← Array.getElem?_toList]; exact e, (Option.some.inj h).symm⟩
theorem gen_str {w : Wd} {x : Str} : Gen g w (Its x) (chD x) := by
  have len : (chD x).length = x.cps.size := by unfold chD; rw [List.length_map, Array.length_toList]
  refine ⟨fun i w' ρ S σ H hi l A => ?_, fun w' ρ S σ H l A => ?_, fun i w' ρ S σ H y H' d hd l A q => ?_⟩
  · show i < x.cps.size
    omega
  · show x.cps.size ≤ (chD x).length
    omega
  · obtain ⟨e, c, hc, ev⟩ := q
    subst e
    subst ev
    obtain ⟨c', h1, rfl⟩ := chD_at hd
    rw [h1] at hc
    cases hc
    exact ⟨w', Le.refl w', A, .str _, fun _ _ h => h, fun _ h _ => h⟩
def wItS (f : FE) (ρ : List Sl) (S : Store) (K : List D → Store → Prop) (ex : KX) : Prop := f ρ S (fun x S1 => match x with
  | .str z => K (chD z) S1
  | _ => False) ex
theorem its (he : EV g X W e fe) : EI g X W tg e (wItS fe) := PI.imp (pi_str he) fun σ H R ⟨w, ρ, S, K, ex, A, xo, ko, q⟩ => ⟨w, ρ, S, _, ex, A, xo, fun d S1 q1 v w1 H1 l1 A1 r1 => by
  split at q1
  · obtain rfl := rep_str r1
    exact ⟨_, rfl, ko _ S1 q1 _ w1 H1 l1 A1 gen_str⟩
  · exact q1.elim, q⟩
end
end R3
namespace R3
open PySem PySem.Spec PyProof.Rows L2
section
end
end R3
namespace L2
open PySem PySem.Spec PyProof.Rows
end L2
namespace R3
open PySem PySem.Spec PyProof.Rows L2
section
end
end R3
namespace R3
open PySem PySem.Spec PyProof.Rows L2 PySem.Builtin PySem.Builtin.Float PyProof
section
end
end R3

namespace R3
open PySem PySem.Spec PyProof.Rows L2
section
end
end R3

namespace R3
open PySem PySem.Spec PyProof.Rows L2
/-- an error that can be raised where another one is held -/
structure ErrH {kn : Bool} (P : Program) (w : World) (K : Fr) (mg : Str → Option Value) (base : Heap) (x : Str) (C : Addr) (f : Str) : Prop where
  g : mg x = some (.ref C)
  k : ∃ tl newId initId fI, ErrK K C fI tl newId f ∧ Bas tl newId initId ∧ FnN P w K mg base (CXK kn P w) 1 fI (spErr C f)
section
end
section
end
section
variable {g : Sg} {X : Cx} {W : WX} {e : Expr} {fe : FE} {pos : Pos}
end
section
end
section
end
end R3

set_option exponentiation.threshold 5000
namespace R3
open PySem PySem.Spec PyProof.Rows L2
structure CMt {kn : Bool} (P : Program) (w : World) (mg : Str → Option Value) (base : Heap) (g : Sg) (k : Nat) (x : Str) (c : Nat) (m : Str) (n : Nat) (C : Ct) : Prop where
  ex : ∃ p f, mg x = some (.ref (g.ad c)) ∧ ClX.CRead g.K (g.ad c) (.type "type") ∧ ClX.CMet g.K (g.ad c) (.type "type") m p f ∧ FnR P w g.K mg base (CXK kn P w) k f (spOf g n C)
structure CMtK {kn : Bool} (P : Program) (w : World) (mg : Str → Option Value) (base : Heap) (g : Sg) (k : Nat) (x : Str) (c : Nat) (m : Str) (ks : List Str) (C : Ct) : Prop where
  ex : ∃ p f, mg x = some (.ref (g.ad c)) ∧ ClX.CRead g.K (g.ad c) (.type "type") ∧ ClX.CMet g.K (g.ad c) (.type "type") m p f ∧ FnK P w g.K mg base (CXK kn P w) k f 1 ks (spOf g (1 + ks.length) C)
section
end
section
variable {g : Sg} {X : Cx} {W : WX} {e : Expr} {fe : FE} {pos : Pos} {pins : List (Addr × Obj)} {σ : L2.St} {H : Hp} {s : Shared}
structure Hid2 (p : Prop) : Prop where
  un : p
end
end R3

namespace R3
open PySem PySem.Spec PyProof.Rows L2 HandSPX
open Builtin Builtin.ObjectAttr
section
end
section
end
/-- the built-in class below an own error: how such an error is made -/
structure NewB (tl : List Value) (newId : String) : Prop where
  b : ∃ B iI bmB, ExcBaseFacts B newId iI bmB ∧ tl.contains (.type B) = true
  na : tl.contains (.type "AttributeError") = false
  nn : tl.contains (.type "NameError") = false
def mKE : List Value := [.type "KeyError", .type "LookupError", .type "Exception", .type "BaseException", .type "object"]
section
open PySem.F
end
section
end
section
variable {X : Cx} {pins : List (Addr × Obj)} {σ : L2.St} {H : Hp} {s : Shared} {a C fI : Addr} {f : Str} {y : V} {u : Value} {tl : List Value} {newId initId : String}
end
section
variable {X : Cx} {a C fI R : Addr} {f b : Str} {tl : List Value} {newId initId Tn : String} {o e : Expr} {es : List Expr} {to te : TE} {ta : TA} {p p' p1 p2 pos : Pos} {pl : Sem Bool}
end
structure ErrV {kn : Bool} (P : Program) (w : World) (K : Fr) (mg : Str → Option Value) (base : Heap) (x : Str) (C : Addr) (f : Str) : Prop where
  g : mg x = some (.ref C)
  k : ∃ tl newId fI, ErrK K C fI tl newId f ∧ NewB tl newId ∧ FnR P w K mg base (CXK kn P w) 1 fI (spErr C f) ∧ FnK P w K mg base (CXK kn P w) 1 fI 1 [f] (spErr C f)
section
end
section
end
section
end
end R3


namespace Row
open PySem PySem.Spec PyProof.Rows L2 R3
def top (i : Nat) : Stmt := PySem.Challenge.pw_rainvalleys_k90_error_classes.main.body.getD i (.Pass ⟨0, 0, 0, 0⟩)
abbrev s_law_pool : Stmt := top 18
abbrev s_law_take : Stmt := top 19
abbrev s_law_errors : Stmt := top 20
abbrev s_law_named : Stmt := top 21
abbrev s_law_field : Stmt := top 22
abbrev s_law_bases : Stmt := top 23
abbrev s_law_classes : Stmt := top 24
abbrev s_law : Stmt := top 25
abbrev s_InvalidNumber__init : Stmt := inClass (top 2) 0
abbrev s_InvalidProfile__init : Stmt := inClass (top 3) 0
abbrev s_InvalidWidths__init : Stmt := inClass (top 4) 0
abbrev s_InvalidWeights__init : Stmt := inClass (top 5) 0
abbrev s_InvalidObservations__init : Stmt := inClass (top 6) 0
abbrev s_InvalidOperations__init : Stmt := inClass (top 7) 0
abbrev s_ParseError__init : Stmt := inClass (top 9) 0
abbrev s_InvalidCommand__init : Stmt := inClass (top 10) 0
abbrev s_InvalidCascade__init : Stmt := inClass (top 8) 0
abbrev s_ScriptError__init : Stmt := inClass (top 11) 0
abbrev s_InvalidColumn__init : Stmt := inClass (top 12) 0
abbrev s_InvalidValley__init : Stmt := inClass (top 13) 0
abbrev s_UnknownName__init : Stmt := inClass (top 14) 0
abbrev s_LimitExceeded__init : Stmt := inClass (top 15) 0
abbrev s_NothingToUndo__init : Stmt := inClass (top 16) 0
def d_law_pool : DefR := ⟨fun K => He.ga K "_law_pool", "_law_pool", "_law_pool", defArgs s_law_pool, defBody s_law_pool, defScope s_law_pool, [], []⟩
def d_law_take : DefR := ⟨fun K => He.ga K "_law_take", "_law_take", "_law_take", defArgs s_law_take, defBody s_law_take, defScope s_law_take, [], []⟩
def d_law_errors : DefR := ⟨fun K => He.ga K "_law_errors", "_law_errors", "_law_errors", defArgs s_law_errors, defBody s_law_errors, defScope s_law_errors, [], []⟩
def d_law_named : DefR := ⟨fun K => He.ga K "_law_named", "_law_named", "_law_named", defArgs s_law_named, defBody s_law_named, defScope s_law_named, [], []⟩
def d_law_field : DefR := ⟨fun K => He.ga K "_law_field", "_law_field", "_law_field", defArgs s_law_field, defBody s_law_field, defScope s_law_field, [], []⟩
def d_law_bases : DefR := ⟨fun K => He.ga K "_law_bases", "_law_bases", "_law_bases", defArgs s_law_bases, defBody s_law_bases, defScope s_law_bases, [], []⟩
def d_law_classes : DefR := ⟨fun K => He.ga K "_law_classes", "_law_classes", "_law_classes", defArgs s_law_classes, defBody s_law_classes, defScope s_law_classes, [], []⟩
def d_law : DefR := ⟨fun K => He.ga K "law", "law", "law", defArgs s_law, defBody s_law, defScope s_law, [], []⟩
def d_InvalidNumber__init : DefR := ⟨fun K => He.ma K (He.ga K "InvalidNumber") "__init__", "__init__", "InvalidNumber.__init__", defArgs s_InvalidNumber__init, defBody s_InvalidNumber__init, defScope s_InvalidNumber__init, [], []⟩
def d_InvalidProfile__init : DefR := ⟨fun K => He.ma K (He.ga K "InvalidProfile") "__init__", "__init__", "InvalidProfile.__init__", defArgs s_InvalidProfile__init, defBody s_InvalidProfile__init, defScope s_InvalidProfile__init, [], []⟩
def d_InvalidWidths__init : DefR := ⟨fun K => He.ma K (He.ga K "InvalidWidths") "__init__", "__init__", "InvalidWidths.__init__", defArgs s_InvalidWidths__init, defBody s_InvalidWidths__init, defScope s_InvalidWidths__init, [], []⟩
def d_InvalidWeights__init : DefR := ⟨fun K => He.ma K (He.ga K "InvalidWeights") "__init__", "__init__", "InvalidWeights.__init__", defArgs s_InvalidWeights__init, defBody s_InvalidWeights__init, defScope s_InvalidWeights__init, [], []⟩
def d_InvalidObservations__init : DefR := ⟨fun K => He.ma K (He.ga K "InvalidObservations") "__init__", "__init__", "InvalidObservations.__init__", defArgs s_InvalidObservations__init, defBody s_InvalidObservations__init, defScope s_InvalidObservations__init, [], []⟩
def d_InvalidOperations__init : DefR := ⟨fun K => He.ma K (He.ga K "InvalidOperations") "__init__", "__init__", "InvalidOperations.__init__", defArgs s_InvalidOperations__init, defBody s_InvalidOperations__init, defScope s_InvalidOperations__init, [], []⟩
def d_ParseError__init : DefR := ⟨fun K => He.ma K (He.ga K "ParseError") "__init__", "__init__", "ParseError.__init__", defArgs s_ParseError__init, defBody s_ParseError__init, defScope s_ParseError__init, [], []⟩
def d_InvalidCommand__init : DefR := ⟨fun K => He.ma K (He.ga K "InvalidCommand") "__init__", "__init__", "InvalidCommand.__init__", defArgs s_InvalidCommand__init, defBody s_InvalidCommand__init, defScope s_InvalidCommand__init, [], []⟩
def d_InvalidCascade__init : DefR := ⟨fun K => He.ma K (He.ga K "InvalidCascade") "__init__", "__init__", "InvalidCascade.__init__", defArgs s_InvalidCascade__init, defBody s_InvalidCascade__init, defScope s_InvalidCascade__init, [], []⟩
def d_ScriptError__init : DefR := ⟨fun K => He.ma K (He.ga K "ScriptError") "__init__", "__init__", "ScriptError.__init__", defArgs s_ScriptError__init, defBody s_ScriptError__init, defScope s_ScriptError__init, [], []⟩
def d_InvalidColumn__init : DefR := ⟨fun K => He.ma K (He.ga K "InvalidColumn") "__init__", "__init__", "InvalidColumn.__init__", defArgs s_InvalidColumn__init, defBody s_InvalidColumn__init, defScope s_InvalidColumn__init, [], []⟩
def d_InvalidValley__init : DefR := ⟨fun K => He.ma K (He.ga K "InvalidValley") "__init__", "__init__", "InvalidValley.__init__", defArgs s_InvalidValley__init, defBody s_InvalidValley__init, defScope s_InvalidValley__init, [], []⟩
def d_UnknownName__init : DefR := ⟨fun K => He.ma K (He.ga K "UnknownName") "__init__", "__init__", "UnknownName.__init__", defArgs s_UnknownName__init, defBody s_UnknownName__init, defScope s_UnknownName__init, [], []⟩
def d_LimitExceeded__init : DefR := ⟨fun K => He.ma K (He.ga K "LimitExceeded") "__init__", "__init__", "LimitExceeded.__init__", defArgs s_LimitExceeded__init, defBody s_LimitExceeded__init, defScope s_LimitExceeded__init, [], []⟩
def d_NothingToUndo__init : DefR := ⟨fun K => He.ma K (He.ga K "NothingToUndo") "__init__", "__init__", "NothingToUndo.__init__", defArgs s_NothingToUndo__init, defBody s_NothingToUndo__init, defScope s_NothingToUndo__init, [], []⟩
def fn : List DefR := [d_law_pool, d_law_take, d_law_errors, d_law_named, d_law_field, d_law_bases, d_law_classes, d_law, d_InvalidNumber__init, d_InvalidProfile__init, d_InvalidWidths__init, d_InvalidWeights__init, d_InvalidObservations__init, d_InvalidOperations__init, d_ParseError__init, d_InvalidCommand__init, d_InvalidCascade__init, d_ScriptError__init, d_InvalidColumn__init, d_InvalidValley__init, d_UnknownName__init, d_LimitExceeded__init, d_NothingToUndo__init]
def nm (c : Nat) : Str := (["Ratio", "Profile", "Flood", "Session", "Cascade", "Gauge", "Console", "Parser", "Runner", "InvalidNumber", "InvalidProfile", "InvalidWidths", "InvalidWeights", "InvalidObservations", "InvalidOperations", "InvalidCascade", "ParseError", "InvalidCommand", "ScriptError", "InvalidColumn", "InvalidValley", "UnknownName", "LimitExceeded", "NothingToUndo", "Flow", "Span"] : List Str).getD c ""
def fl (c : Nat) : List Str := ([["own_top", "own_bottom"], ["own_heights", "own_widths"], ["ground", "tops", "crests", "runs", "bottoms", "water", "own_stored", "own_left", "own_right", "own_taken"], ["states", "operations", "cancelled"], [], ["own_column"], [], [], [], ["value"], ["index"], ["index"], ["index"], ["index"], ["index"], ["name"], ["value"], ["value"], ["line"], ["value"], ["value"], ["name"], ["limit"], ["count"], ["own_flood", "own_bodies", "full", "gains", "received", "out_left", "out_right"], ["begin", "state", "flow", "part"]] : List (List Str)).getD c []
abbrev sg (K : Fr) : Sg := ⟨K, fun c => He.ga K (nm c), fl, none⟩
def mc : List Nat := []
def fa : List (Fr → Bool) := [fFree "len", fFree "min", fFree "max", fFree "range", fFree "repr", fXf nm "value" [9, 16, 17, 19, 20], fFree "int", fXf nm "index" [10, 11, 12, 13, 14], fXf nm "name" [15, 21], fXf nm "line" [18], fXf nm "limit" [22], fXf nm "count" [23], fXis nm (fun K => .ref (He.ga K "RainError")) [(9, true), (10, true), (11, true), (12, true), (13, true), (14, true), (15, true), (16, true), (17, true), (18, true), (19, false), (20, false), (21, false), (22, false), (23, false)], fGlo "RainError", fFree "isinstance", fXis nm (fun K => .type "ValueError") [(9, true), (10, true), (11, true), (12, true), (13, true), (14, true), (15, true), (16, true), (17, true), (18, true), (19, false), (20, false), (21, false), (22, false), (23, false)], fFree "ValueError", fXis nm (fun K => .type "IndexError") [(9, false), (10, false), (11, false), (12, false), (13, false), (14, false), (15, false), (16, false), (17, false), (18, false), (19, true), (20, true), (21, false), (22, false), (23, false)], fFree "IndexError", fXis nm (fun K => .type "KeyError") [(9, false), (10, false), (11, false), (12, false), (13, false), (14, false), (15, false), (16, false), (17, false), (18, false), (19, false), (20, false), (21, true), (22, false), (23, false)], fFree "KeyError", fXis nm (fun K => .type "OverflowError") [(9, false), (10, false), (11, false), (12, false), (13, false), (14, false), (15, false), (16, false), (17, false), (18, false), (19, false), (20, false), (21, false), (22, true), (23, false)], fFree "OverflowError", fXis nm (fun K => .type "RuntimeError") [(9, false), (10, false), (11, false), (12, false), (13, false), (14, false), (15, false), (16, false), (17, false), (18, false), (19, false), (20, false), (21, false), (22, false), (23, true)], fFree "RuntimeError", fXis nm (fun K => .type "LookupError") [(9, false), (10, false), (11, false), (12, false), (13, false), (14, false), (15, false), (16, false), (17, false), (18, false), (19, true), (20, true), (21, true), (22, false), (23, false)], fFree "LookupError", fXis nm (fun K => .type "TypeError") [(9, false), (10, false), (11, false), (12, false), (13, false), (14, false), (15, false), (16, false), (17, false), (18, false), (19, false), (20, false), (21, false), (22, false), (23, false)], fFree "TypeError", fXis nm (fun K => .ref (He.ga K "InvalidNumber")) [(9, true), (10, false), (11, false), (12, false), (13, false), (14, false), (15, false), (16, false), (17, false), (18, false), (19, false), (20, false), (21, false), (22, false), (23, false)], fGlo "InvalidNumber", fXis nm (fun K => .ref (He.ga K "InvalidProfile")) [(9, false), (10, true), (11, false), (12, false), (13, false), (14, false), (15, false), (16, false), (17, false), (18, false), (19, false), (20, false), (21, false), (22, false), (23, false)], fGlo "InvalidProfile", fXis nm (fun K => .ref (He.ga K "InvalidWidths")) [(9, false), (10, false), (11, true), (12, false), (13, false), (14, false), (15, false), (16, false), (17, false), (18, false), (19, false), (20, false), (21, false), (22, false), (23, false)], fGlo "InvalidWidths", fXis nm (fun K => .ref (He.ga K "InvalidWeights")) [(9, false), (10, false), (11, false), (12, true), (13, false), (14, false), (15, false), (16, false), (17, false), (18, false), (19, false), (20, false), (21, false), (22, false), (23, false)], fGlo "InvalidWeights", fXis nm (fun K => .ref (He.ga K "InvalidObservations")) [(9, false), (10, false), (11, false), (12, false), (13, true), (14, false), (15, false), (16, false), (17, false), (18, false), (19, false), (20, false), (21, false), (22, false), (23, false)], fGlo "InvalidObservations", fXis nm (fun K => .ref (He.ga K "InvalidOperations")) [(9, false), (10, false), (11, false), (12, false), (13, false), (14, true), (15, false), (16, false), (17, false), (18, false), (19, false), (20, false), (21, false), (22, false), (23, false)], fGlo "InvalidOperations", fXis nm (fun K => .ref (He.ga K "ParseError")) [(9, false), (10, false), (11, false), (12, false), (13, false), (14, false), (15, false), (16, true), (17, false), (18, false), (19, false), (20, false), (21, false), (22, false), (23, false)], fGlo "ParseError", fXis nm (fun K => .ref (He.ga K "InvalidCommand")) [(9, false), (10, false), (11, false), (12, false), (13, false), (14, false), (15, false), (16, false), (17, true), (18, false), (19, false), (20, false), (21, false), (22, false), (23, false)], fGlo "InvalidCommand", fXis nm (fun K => .ref (He.ga K "InvalidCascade")) [(9, false), (10, false), (11, false), (12, false), (13, false), (14, false), (15, true), (16, false), (17, false), (18, false), (19, false), (20, false), (21, false), (22, false), (23, false)], fGlo "InvalidCascade", fXis nm (fun K => .ref (He.ga K "ScriptError")) [(9, false), (10, false), (11, false), (12, false), (13, false), (14, false), (15, false), (16, false), (17, false), (18, true), (19, false), (20, false), (21, false), (22, false), (23, false)], fGlo "ScriptError", fXis nm (fun K => .ref (He.ga K "InvalidColumn")) [(9, false), (10, false), (11, false), (12, false), (13, false), (14, false), (15, false), (16, false), (17, false), (18, false), (19, true), (20, false), (21, false), (22, false), (23, false)], fGlo "InvalidColumn", fXis nm (fun K => .ref (He.ga K "InvalidValley")) [(9, false), (10, false), (11, false), (12, false), (13, false), (14, false), (15, false), (16, false), (17, false), (18, false), (19, false), (20, true), (21, false), (22, false), (23, false)], fGlo "InvalidValley", fXis nm (fun K => .ref (He.ga K "UnknownName")) [(9, false), (10, false), (11, false), (12, false), (13, false), (14, false), (15, false), (16, false), (17, false), (18, false), (19, false), (20, false), (21, true), (22, false), (23, false)], fGlo "UnknownName", fXis nm (fun K => .ref (He.ga K "LimitExceeded")) [(9, false), (10, false), (11, false), (12, false), (13, false), (14, false), (15, false), (16, false), (17, false), (18, false), (19, false), (20, false), (21, false), (22, true), (23, false)], fGlo "LimitExceeded", fXis nm (fun K => .ref (He.ga K "NothingToUndo")) [(9, false), (10, false), (11, false), (12, false), (13, false), (14, false), (15, false), (16, false), (17, false), (18, false), (19, false), (20, false), (21, false), (22, false), (23, true)], fGlo "NothingToUndo", fGlo "_law_pool", fGlo "_law_take", fGlo "_law_errors", fGlo "_law_named", fGlo "_law_field", fGlo "_law_bases", fGlo "_law_classes", fGlo "law", fErr "InvalidNumber" "value" [.type "ValueError", .type "Exception", .type "BaseException", .type "object"] "ValueError.__new__", fBO "RainError" "ValueError.__init__", fErr "InvalidProfile" "index" [.type "ValueError", .type "Exception", .type "BaseException", .type "object"] "ValueError.__new__", fErr "InvalidWidths" "index" [.type "ValueError", .type "Exception", .type "BaseException", .type "object"] "ValueError.__new__", fErr "InvalidWeights" "index" [.type "ValueError", .type "Exception", .type "BaseException", .type "object"] "ValueError.__new__", fErr "InvalidObservations" "index" [.type "ValueError", .type "Exception", .type "BaseException", .type "object"] "ValueError.__new__", fErr "InvalidOperations" "index" [.type "ValueError", .type "Exception", .type "BaseException", .type "object"] "ValueError.__new__", fErr "ParseError" "value" [.type "ValueError", .type "Exception", .type "BaseException", .type "object"] "ValueError.__new__", fErr "InvalidCommand" "value" [.type "ValueError", .type "Exception", .type "BaseException", .type "object"] "ValueError.__new__", fErr "InvalidCascade" "name" [.type "ValueError", .type "Exception", .type "BaseException", .type "object"] "ValueError.__new__", fErr "ScriptError" "line" [.type "ValueError", .type "Exception", .type "BaseException", .type "object"] "ValueError.__new__", fErr "InvalidColumn" "value" [.type "IndexError", .type "LookupError", .type "Exception", .type "BaseException", .type "object"] "IndexError.__new__", fBT "IndexError" "IndexError.__init__", fErr "InvalidValley" "value" [.type "IndexError", .type "LookupError", .type "Exception", .type "BaseException", .type "object"] "IndexError.__new__", fErr "UnknownName" "name" mKE "LookupError.__new__", fBT "KeyError" "KeyError.__init__", fErr "LimitExceeded" "limit" [.type "OverflowError", .type "ArithmeticError", .type "Exception", .type "BaseException", .type "object"] "OverflowError.__new__", fBT "OverflowError" "OverflowError.__init__", fErr "NothingToUndo" "count" [.type "RuntimeError", .type "Exception", .type "BaseException", .type "object"] "RuntimeError.__new__", fBT "RuntimeError" "RuntimeError.__init__"]
def adrs : List Addr := [cStatics, 3, 6, 4, 24, 44, 63, 82, 101, 120, 139, 158, 177, 196, 215, 234, 254, 274, 294, 314, 324, 331, 338, 345, 352, 359, 366, 371, 0, 23, 43, 62, 81, 100, 119, 138, 157, 176, 195, 214, 233, 253, 273, 293, 313, 323, 330, 337, 344, 351, 358, 365, 370, 22, 25, 41, 42, 60, 61, 79, 80, 98, 99, 117, 118, 136, 137, 155, 156, 174, 175, 193, 194, 212, 213, 231, 232, 235, 251, 252, 255, 271, 272, 275, 291, 292, 295, 311, 312, 315, 318, 319, 320, 321, 322, 325, 326, 327, 328, 329, 332, 333, 334, 335, 336, 339, 340, 341, 342, 343, 346, 347, 348, 349, 350, 353, 354, 355, 356, 357, 360, 361, 362, 363, 364, 367, 368, 369, 40, 59, 78, 97, 116, 135, 154, 173, 192, 211, 230, 250, 270, 290, 310, 35, 36, 37, 38, 39, 54, 55, 56, 57, 58, 73, 74, 75, 76, 77, 92, 93, 94, 95, 96, 111, 112, 113, 114, 115, 130, 131, 132, 133, 134, 149, 150, 151, 152, 153, 168, 169, 170, 171, 172, 187, 188, 189, 190, 191, 206, 207, 208, 209, 210, 225, 226, 227, 228, 229, 245, 246, 247, 248, 249, 265, 266, 267, 268, 269, 285, 286, 287, 288, 289, 305, 306, 307, 308, 309]
abbrev R : PySem.W.OpenRow := PySem.W.OpenLaw.row PySem.Challenge.rw_rainvalleys_k90_error_classes
abbrev hk : PySem.W.Hook := hookL adrs fa fn
def ob (s : PySem.W.SharedT) : Obs := obsA adrs fa fn s
theorem ob_eq (s : PySem.W.SharedT) : ob s = hk.obs s.abs := obL_eq s
def loose : List Str := (["__name__", "RainError", "InvalidNumber", "InvalidProfile", "InvalidWidths", "InvalidWeights", "InvalidObservations", "InvalidOperations", "InvalidCascade", "ParseError", "InvalidCommand", "ScriptError", "InvalidColumn", "InvalidValley", "UnknownName", "LimitExceeded", "NothingToUndo", "_law_pool", "_law_take", "_law_errors"] : List Str) ++ (["_law_named", "_law_field", "_law_bases", "_law_classes"] : List Str)
theorem run (w : World) : HandSHeadRun.RunEq R (PySem.W.view R.prog [25]) hk ob 20000 loose w := by
  intro os
  kernel_rfl
end Row
namespace R3
open PySem PySem.Spec PyProof.Rows L2
theorem Room.make {k : Nat} {A : Around} (r : Room (k + 1) A) (C : Addr) (us : List Value) (kw : List (Str × Value)) : Room k (A.under (.builtin "type.__call__" ⟨.ref C :: us, kw⟩)) :=
  ⟨r.toRoom.make C us kw, by
    obtain ⟨hd, d, fr, gs, u⟩ := A
    have e : gs = some [] := r.gd
    subst e
    first | rfl | (unfold Around.under; rfl) | simp [Around.under, pushGuards, Code.guards, Code.isGuard]⟩
section
variable {P : Program} {w : World} {K : PySem.W.Frag} {mg : Str → Option Value} {base : Heap} {CX : CXT} {j k : Nat} {f : Addr} {fd : FuncData} {ps : List Str} {sp sp' : Sp}
theorem FnOk.raw {ds : List Value} {dvs : List V} (F : FnOk P w K mg base CX k f fd ps sp) (hb : Binds K fd ps ds) (hd : Vals dvs ds) : FnR P w K mg base CX k f (fun vs H Q E => sp (vs ++ dvs) H Q E) := fun A outer s H us vs Q E hr e0 r hs =>
  F.run A outer s H ⟨us, []⟩ (us ++ ds) (vs ++ dvs) Q E hr e0 (hb s us (e0.mod.kin.keeps fun b o e => (e0.bs b o e).1) (by rw [← (r.append hd).length]; exact F.len _ _ _ _ hs)) (r.append hd) hs
end
end R3

namespace R3
open PySem PySem.Spec PyProof.Rows L2

instance : Coe Int Key := ⟨Sum.inl⟩
theorem Reps.get {g : Sg} {w : Wd} : ∀ {vs : List V} {ds : List D}, Reps g w vs ds → ∀ {i : Nat} {v : V}, vs[i]? = some v → ∃ d, ds[i]? = some d ∧ Rep g w v d
  | _, _, .nil, i, v, h => by simp at h
  | _, _, .cons h r, 0, v, e => by simp at e; subst e; exact ⟨_, rfl, h⟩
  | _, _, .cons h r, i + 1, v, e => Reps.get r (by simpa using e)
theorem Reps.app {g : Sg} {w : Wd} : ∀ {vs us : List V} {ds es : List D}, Reps g w vs ds → Reps g w us es → Reps g w (vs ++ us) (ds ++ es)
  | _, _, _, _, .nil, s => s
  | _, _, _, _, .cons h r, s => .cons h (Reps.app r s)
theorem Reps.ints {g : Sg} {w : Wd} : ∀ ns : List Int, Reps g w (ns.map V.int) (ns.map D.int)
  | [] => .nil
  | n :: r => .cons (.int n) (Reps.ints r)

section
variable {g : Sg} {w : Wd} {ρ : List Sl} {S : Store} {σ : L2.St} {H H' : Hp}
/-- the heap holds new things beside -/
theorem At.grow (A : At g w ρ S σ H) (e : Same H H') : At g w ρ S σ H' where
  if_ := A.if_
  fh := A.fh.trans e
  len := A.len
  st := fun k o h => by
    obtain ⟨h1, h2⟩ := A.st k o h
    obtain ⟨u, hu⟩ := h2.some
    exact ⟨h1, h2.mono (Sub.refl w) ((e _ _ hu).trans hu.symm)⟩
  inj := A.inj
  sl := A.sl
  val := A.val
  own := fun i o h => by
    obtain ⟨a, h1, h2, h3, h4⟩ := A.own i o h
    obtain ⟨u, hu⟩ := h3.some
    exact ⟨a, h1, h2, h3.mono (Sub.refl w) ((e _ _ hu).trans hu.symm), h4⟩
  xc := A.xc
theorem same_new {p : Addr} {o : HO} (h : H p = none) : Same H (upd H p o) := fun b u e => by
  rw [upd_ne (ne_of_none e h)]
  exact e
/-- an object that nobody writes is told to be a value -/
def Wd.add (w : Wd) (p : Addr) (o : HO) : Wd := { w with I := upd w.I p o, F := upd w.F p o }
theorem le_add {p : Addr} {o : HO} (hi : Same w.I w.F) (h : w.F p = none) : Le w (w.add p o) := by
  have h0 : w.I p = none := by
    cases e : w.I p with
    | none => rfl
    | some u => rw [hi p u e] at h; cases h
  exact ⟨⟨same_new h0, fun _ _ => rfl, Nat.le_refl _⟩, same_new h, fun b h1 h2 => by
    have hb : b ≠ p := fun z => h2 (by rw [z]; exact h)
    show upd w.I p o b = none
    rw [upd_ne hb]
    exact h1⟩
/-- at p, where neither the store nor an own object stands, o stands for good -/
theorem At.fix {p : Addr} {o : HO} (A : At g w ρ S σ H) (hp : H p = some o) (hf : w.F p = none) (hs : ∀ k ok, S[k]? = some (some ok) → w.φ k ≠ p) (ho : ∀ i oi, Env.at ρ i = .own oi → σ[i]? ≠ some (some (.ref p))) :
    At g (w.add p o) ρ S σ H := by
  have l := le_add (o := o) A.if_ hf
  have h0 : w.I p = none := by
    cases e : w.I p with
    | none => rfl
    | some u => have := A.if_ p u e; rw [hf] at this; cases this
  refine ⟨fun b u e => ?_, fun b u e => ?_, A.len, fun k ok h => ?_, A.inj, A.sl, fun i d h => ?_, fun i oi h => ?_, fun i h => (A.xc i h).mono l.s rfl⟩
  · show upd w.F p o b = some u
    have e' : upd w.I p o b = some u := e
    by_cases hb : b = p
    · subst hb
      rw [upd_same] at e' ⊢
      exact e'
    · rw [upd_ne hb] at e' ⊢
      exact A.if_ b u e'
  · have e' : upd w.F p o b = some u := e
    by_cases hb : b = p
    · subst hb
      rw [upd_same] at e'
      exact hp.trans e'
    · rw [upd_ne hb] at e'
      exact A.fh b u e'
  · obtain ⟨h1, h2⟩ := A.st k ok h
    refine ⟨?_, h2.mono l.s rfl⟩
    show upd w.F p o (w.φ k) = none
    rw [upd_ne (hs k ok h)]
    exact h1
  · obtain ⟨v, h1, h2⟩ := A.val i d h
    exact ⟨v, h1, h2.mono l.s⟩
  · obtain ⟨a, h1, h2, h3, h4, h5⟩ := A.own i oi h
    refine ⟨a, h1, ?_, h3.mono l.s rfl, h4, h5⟩
    show upd w.F p o a = none
    rw [upd_ne fun z => ho i oi h (by rw [h1, z])]
    exact h2
/-- a new object is laid as a value -/
theorem At.lay {p : Addr} {o : HO} (A : At g w ρ S σ H) (hp : H p = none) : At g (w.add p o) ρ S σ (upd H p o) := by
  have B := A.grow (same_new (o := o) hp)
  refine B.fix upd_same ?_ (fun k ok h z => ?_) fun i oi h z => ?_
  · cases e : w.F p with
    | none => rfl
    | some u => rw [A.fh p u e] at hp; cases hp
  · obtain ⟨u, hu⟩ := (A.st k ok h).2.some
    rw [z, hp] at hu
    cases hu
  · obtain ⟨a, h1, _, h3, _⟩ := A.own i oi h
    obtain ⟨u, hu⟩ := h3.some
    rw [h1] at z
    cases z
    rw [hp] at hu
    cases hu
theorem At.freeI {p : Addr} (A : At g w ρ S σ H) (hp : w.F p = none) : w.I p = none := by
  cases e : w.I p with
  | none => rfl
  | some u => rw [A.if_ p u e] at hp; cases hp
end
section
variable {g : Sg} {w : Wd} {ρ : List Sl} {S : Store} {σ : L2.St} {H H' : Hp}
open Classical in
/-- the heap without the store's objects -/
noncomputable def strip (φ : Nat → Addr) (S : Store) (H : Hp) : Hp := fun a => if ∃ k o, S[k]? = some (some o) ∧ φ k = a then none else H a
theorem strip_store {φ : Nat → Addr} {k : Nat} {o : SO} (h : S[k]? = some (some o)) : strip φ S H (φ k) = none := by
  unfold strip
  rw [if_pos ⟨k, o, h, rfl⟩]
theorem strip_ne {φ : Nat → Addr} {a : Addr} (h : ∀ k o, S[k]? = some (some o) → φ k ≠ a) : strip φ S H a = H a := by
  unfold strip
  rw [if_neg fun ⟨k, o, h1, h2⟩ => h k o h1 h2]
theorem strip_some {φ : Nat → Addr} {a : Addr} {u : HO} (h : strip φ S H a = some u) : H a = some u ∧ ∀ k o, S[k]? = some (some o) → φ k ≠ a := by
  unfold strip at h
  by_cases c : ∃ k o, S[k]? = some (some o) ∧ φ k = a
  · rw [if_pos c] at h; cases h
  · rw [if_neg c] at h
    exact ⟨h, fun k o h1 h2 => c ⟨k, o, h1, h2⟩⟩
/-- what a callee sees -/
noncomputable def Wd.inner (w : Wd) (S : Store) (H : Hp) : Wd := { w with F := strip w.φ S H }
theorem sub_inner : Sub w (w.inner S H) := ⟨fun _ _ z => z, fun _ _ => rfl, Nat.le_refl _⟩
theorem At.enter (A : At g w ρ S σ H) : At0 g (w.inner S H) S H where
  if_ := fun a o h => by
    show strip w.φ S H a = some o
    rw [strip_ne fun k ok hk z => ?_]
    · exact A.ih a o h
    · have := A.if_ a o h
      rw [← z, (A.st k ok hk).1] at this
      cases this
  fh := fun a o h => (strip_some h).1
  len := A.len
  st := fun k o h => ⟨strip_store h, (A.st k o h).2.mono sub_inner rfl⟩
  inj := A.inj
  sl := rfl
  val := fun i d h => by cases i <;> cases h
  own := fun i d h => by cases i <;> cases h
  xc := fun i h => by cases i <;> cases h
theorem reps_inner {v : List V} {d : List D} (r : Reps g w v d) : Reps g (w.inner S H) v d := r.mono sub_inner
open Classical in
theorem outer_own {w' : Wd} {i : Nat} {o : SO} {a : Addr} (h : Env.at ρ i = .own o) (hs : σ[i]? = some (some (.ref a))) : (w'.outer ρ σ).F a = none := by
  show hideO ρ σ w'.F a = none
  unfold hideO
  rw [if_pos ⟨i, o, h, hs⟩]
theorem outer_ne {w' : Wd} {a : Addr} (h : ∀ i o, Env.at ρ i = .own o → σ[i]? ≠ some (some (.ref a))) : (w'.outer ρ σ).F a = w'.F a := by
  show hideO ρ σ w'.F a = _
  unfold hideO
  rw [if_neg fun ⟨i, o, h1, h2⟩ => h i o h1 h2]
theorem outer_some {w' : Wd} {a : Addr} {u : HO} (h : (w'.outer ρ σ).F a = some u) : w'.F a = some u := by
  have h' : hideO ρ σ w'.F a = some u := h
  unfold hideO at h'
  by_cases c : ∃ i o, Env.at ρ i = .own o ∧ σ[i]? = some (some (.ref a))
  · rw [if_pos c] at h'; cases h'
  · rw [if_neg c] at h'; exact h'
theorem sub_outer {w' : Wd} : Sub w' (w'.outer ρ σ) := ⟨fun _ _ z => z, fun _ _ => rfl, Nat.le_refl _⟩
/-- behind the call -/
theorem At.leave {w' : Wd} {S' : Store} (A : At g w ρ S σ H) (l : Le (w.inner S H) w') (B : At0 g w' S' H') : Le w (w'.outer ρ σ) ∧ At g (w'.outer ρ σ) ρ S' σ H' := by
  have ownF : ∀ i o a, Env.at ρ i = .own o → σ[i]? = some (some (.ref a)) → ∃ u, H a = some u ∧ (w.inner S H).F a = some u ∧ w.I a = none := fun i o a h hs => by
    obtain ⟨b, h1, h2, h3, h4, _⟩ := A.own i o h
    rw [hs] at h1
    cases h1
    obtain ⟨u, hu⟩ := h3.some
    exact ⟨u, hu, (strip_ne h4).trans hu, A.freeI h2⟩
  have keepF : ∀ a u, w.F a = some u → (w.inner S H).F a = some u := fun a u h => by
    refine (strip_ne fun k ok hk z => ?_).trans (A.fh a u h)
    rw [← z, (A.st k ok hk).1] at h
    cases h
  have notOwn : ∀ a u, w.F a = some u → ∀ i o, Env.at ρ i = .own o → σ[i]? ≠ some (some (.ref a)) := fun a u h i o h1 h2 => by
    obtain ⟨b, e1, e2, _⟩ := A.own i o h1
    rw [h2] at e1
    cases e1
    rw [h] at e2
    cases e2
  refine ⟨⟨⟨l.s.i, l.s.p, l.s.n⟩, fun a u h => ?_, fun b h1 h2 => ?_⟩, ⟨fun a u h => ?_, fun a u h => B.fh a u (outer_some h), B.len, fun k o h => ?_, B.inj, A.sl, fun i d h => ?_, fun i o h => ?_, fun i h => ((A.xc i h).mono (sub_inner (S := S) (H := H)) rfl).mono (l.s.trans sub_outer) rfl⟩⟩
  · exact (outer_ne (notOwn a u h)).trans (l.f a u (keepF a u h))
  · refine l.new b h1 ?_
    cases e : w.F b with
    | none => exact absurd e h2
    | some u => rw [keepF b u e]; exact fun z => nomatch z
  · refine (outer_ne fun i o h1 h2 => ?_).trans (B.if_ a u h)
    obtain ⟨x, _, hx, hi⟩ := ownF i o a h1 h2
    have := l.new a hi (by rw [hx]; exact fun z => nomatch z)
    rw [show w'.I a = some u from h] at this
    cases this
  · obtain ⟨h1, h2⟩ := B.st k o h
    refine ⟨?_, h2.mono sub_outer rfl⟩
    cases e : (w'.outer ρ σ).F ((w'.outer ρ σ).φ k) with
    | none => rfl
    | some u =>
      have e2 : w'.F (w'.φ k) = some u := outer_some e
      rw [h1] at e2
      cases e2
  · obtain ⟨v, h1, h2⟩ := A.val i d h
    exact ⟨v, h1, (h2.mono sub_inner).mono (l.s.trans sub_outer)⟩
  · obtain ⟨a, h1, h2, h3, h4, h5⟩ := A.own i o h
    obtain ⟨u, hu, hx, hi⟩ := ownF i o a h h1
    have e : H' a = H a := (B.fh a u (l.f a u hx)).trans hu.symm
    refine ⟨a, h1, outer_own h h1, (h3.mono (sub_inner (S := S) (H := H)) rfl).mono (l.s.trans sub_outer) e, fun k ok hk z => ?_, h5⟩
    have e1 := (B.st k ok hk).1
    have e2 := l.f a u hx
    rw [← show w'.φ k = a from z, e1] at e2
    cases e2
end
end R3

namespace R3
open PySem PySem.Spec PyProof.Rows L2

def rdT (g : Sg) (W : WX) (f : FT) : TT := fun σ H Q => ∃ w ρ S K ex, At g w ρ S σ H ∧ XOk g W σ ρ w ex ∧ TOk g w ρ σ K Q ∧ f ρ S K ex
def rdA (g : Sg) (W : WX) (f : FA) : TA := fun σ H Q => ∃ w ρ S K ex, At g w ρ S σ H ∧ XOk g W σ ρ w ex ∧ AOk g w ρ σ K Q ∧ f ρ S K ex
def rdL (g : Sg) (W : WX) (f : FA) : TE := fun σ H Q => ∃ w ρ S K ex, At g w ρ S σ H ∧ XOk g W σ ρ w ex ∧ LOk g w ρ σ K Q ∧ f ρ S K ex
abbrev ET (g : Sg) (X : Cx) (W : WX) (e : Expr) (f : FT) : Prop := PT X e (rdT g W f)
abbrev EA (g : Sg) (X : Cx) (W : WX) (e : List Expr) (f : FA) : Prop := PA X e (rdA g W f)
abbrev EL (g : Sg) (X : Cx) (W : WX) (e : Expr) (f : FA) : Prop := PE X e (rdL g W f)

/-- a choice by a Bool -/
def Br : Bool → Prop → Prop → Prop
  | true, p, _ => p
  | false, _, q => q
theorem br {b : Bool} {p q : Prop} (h1 : b = true → p) (h2 : b = false → q) : Br b p q := by
  cases b with
  | true => exact h1 rfl
  | false => exact h2 rfl
theorem brF {b : Bool} {p q : Prop} (e : b = false) (h : q) : Br b p q := by subst e; exact h
theorem brD {c : Prop} [Decidable c] {p q : Prop} (h1 : c → p) (h2 : ¬ c → q) : Br (decide c) p q := br (fun e => h1 (of_decide_eq_true e)) (fun e => h2 (of_decide_eq_false e))
section
variable {g : Sg} {X : Cx} {W : WX} {a b c e : Expr} {pos : Pos} {fa fb fe : FE} {es : List Expr} {fr : FA} {ft fu : FT}

def wVar (i : Nat) (ρ : List Sl) (S : Store) (K : KD) (_ : KX) : Prop := match Env.at ρ i with
  | .val d => K d S
  | _ => False
theorem ev_of_pe {i : Nat} (h : PE X e (tVar i)) : EV g X W e (wVar i) := PE.imp h fun σ H Q ⟨w, ρ, S, K, ex, A, _, k, q⟩ => by
  unfold wVar at q
  cases h : Env.at ρ i with
  | no => rw [h] at q; exact q.elim
  | own o => rw [h] at q; exact q.elim
  | exc => rw [h] at q; exact q.elim
  | val d =>
    rw [h] at q
    obtain ⟨v, h1, h2⟩ := A.val i d h
    exact ⟨v, h1, k d S q v w H (Le.refl w) A h2⟩
theorem vr (i : Nat) {x : Str} {pos : Pos} (hN : X.N[i]? = some x := by rfl) (hv : Vis X.env.scope x := by first | exact Or.inl rfl | exact Or.inr (Or.inl rfl) | exact Or.inr (Or.inr rfl)) (hd : (x == ("__debug__" : Str)) = false := by decide)
    (hcd : (x == ("__classdict__" : Str)) = false := by decide) : EV g X W (.Name x pos) (wVar i) := ev_of_pe (pe_var hN hv hd hcd)
def wC (d : D) (_ : List Sl) (S : Store) (K : KD) (_ : KX) : Prop := K d S
theorem ev_c {v : V} {d : D} (h : PE X e (tC v)) (r : ∀ w, Rep g w v d) : EV g X W e (wC d) := PE.imp h fun σ H Q ⟨w, ρ, S, K, ex, A, _, k, q⟩ => k d S q v w H (Le.refl w) A (r w)
theorem cint {i j pos} : EV g X W (.Constant (.int i) j pos) (wC (.int i)) := ev_c pe_int fun _ => .int i
theorem cbl {i j pos} : EV g X W (.Constant (.bool i) j pos) (wC (.bl i)) := ev_c pe_bl fun _ => .bl i
theorem cnon {j pos} : EV g X W (.Constant .none j pos) (wC .non) := ev_c pe_non fun _ => .non
theorem cstr {i j pos} : EV g X W (.Constant (.str i) j pos) (wC (.str i)) := ev_c pe_str fun _ => .str i
theorem bin2 (ha : EV g X W a fa) (hb : EV g X W b fb) {pins : List (Addr × Obj)} {s : Shared} {σ : L2.St} {H : Hp} {w : Wd} {ρ : List Sl} {S : Store} {R : D → D → Store → Prop} {ex : KX} (I : Inv X pins σ H s)
    (A : At g w ρ S σ H) (xo : XOk g W σ ρ w ex) (h : fa ρ S (fun x S1 => fb ρ S1 (fun y S2 => R x y S2) ex) ex)
    {α : Type} {Q : α → Shared → Prop} {f : Value → Value → Sem α}
    (hf : ∀ v u s2 vx vy x y H2 w2 S2, Inv X pins σ H2 s2 → RelV vx v → RelV vy u → Le w w2 → At g w2 ρ S2 σ H2 → Rep g w2 vx x → Rep g w2 vy y → R x y S2 → wpAny (model X.prog X.w) X.A (f v u) Q X.xe s2) :
    wpAny (model X.prog X.w) X.A (eval a X.env) (fun v s₁ => wpAny (model X.prog X.w) X.A (eval b X.env) (fun u s₂ => wpAny (model X.prog X.w) X.A (f v u) Q X.xe s₂) X.xe s₁) X.xe s := by
  refine bin ha hb (R := fun vx vy H2 => ∃ x y w2 S2, Le w w2 ∧ At g w2 ρ S2 σ H2 ∧ Rep g w2 vx x ∧ Rep g w2 vy y ∧ R x y S2) I ?_ fun v u s2 vx vy H2 I2 rx ry q => ?_
  · refine ⟨w, ρ, S, _, ex, A, xo, fun x S1 q v w1 H1 l1 A1 r1 => ?_, h⟩
    refine ⟨w1, ρ, S1, _, ex, A1, xo.later l1, fun y S2 q2 v2 w2 H2 l2 A2 r2 => ?_, q⟩
    exact ⟨x, y, w2, S2, l1.trans l2, A2, r1.mono l2.s, r2, q2⟩
  · obtain ⟨x, y, w2, S2, l2, A2, r1, r2, q2⟩ := q
    exact hf v u s2 vx vy x y H2 w2 S2 I2 rx ry l2 A2 r1 r2 q2

theorem OpD.or {sem : Value → Value → Sem Value} {r r' : RD} (h : OpD g X sem r) (h' : OpD g X sem r') : OpD g X sem (fun x y S K => r x y S K ∨ r' x y S K) :=
  fun pins s σ H w ρ S x y vx vy u v K Q I ru rv A rx ry ko q => q.elim (h pins s σ H w ρ S x y vx vy u v K Q I ru rv A rx ry ko) (h' pins s σ H w ρ S x y vx vy u v K Q I ru rv A rx ry ko)
def wOp (r : RD) (fa fb : FE) (ρ : List Sl) (S : Store) (K : KD) (ex : KX) : Prop := fa ρ S (fun x S1 => fb ρ S1 (fun y S2 => r x y S2 K) ex) ex
theorem bop {op : Operator} {r : RD} (ho : OpD g X (binaryOp op) r) (ha : EV g X W a fa) (hb : EV g X W b fb) : EV g X W (.BinOp a op b pos) (wOp r fa fb) := by
  refine ⟨fun pins s σ H Q I h => ?_⟩
  obtain ⟨w, ρ, S, K, ex, A, xo, ko, q⟩ := h
  exact wpAny_BinOp (bin2 ha hb (R := fun x y S2 => r x y S2 K) I A xo q fun v u s2 vx vy x y H2 w2 S2 I2 ru rv l2 A2 rx ry q2 => ho pins s2 σ H2 w2 ρ S2 x y vx vy v u K Q I2 ru rv A2 rx ry (ko.later l2) q2)
theorem cmp {op : CmpOp} {r : RD} (ho : OpD g X (compareOp op) r) (ha : EV g X W a fa) (hb : EV g X W b fb) (hm : behindInMarks op b = false := by first | exact nomark _ | rfl) : EV g X W (.Compare a [op] [b] pos) (wOp r fa fb) := by
  refine ⟨fun pins s σ H Q I h => ?_⟩
  obtain ⟨w, ρ, S, K, ex, A, xo, ko, q⟩ := h
  exact wpAny_Compare1 (bin2 ha hb (R := fun x y S2 => r x y S2 K) I A xo q fun v u s2 vx vy x y H2 w2 S2 I2 ru rv l2 A2 rx ry q2 => ho pins s2 σ H2 w2 ρ S2 x y vx vy v u K Q I2 ru rv A2 rx ry (ko.later l2) q2) hm
/-- a value that is a bool, as a test -/
def wTst (fa : FE) (ρ : List Sl) (S : Store) (K : Bool → Store → Prop) (ex : KX) : Prop := fa ρ S (fun x S1 => match x with | .bl k => K k S1 | _ => False) ex
theorem rep_bl {w : Wd} {v : V} {k : Bool} (r : Rep g w v (.bl k)) : v = .bl k := by cases r; rfl
theorem rep_int {w : Wd} {v : V} {k : Int} (r : Rep g w v (.int k)) : v = .int k := by cases r; rfl
theorem tcmp {op : CmpOp} {r : RD} (ho : OpD g X (compareOp op) r) (ha : EV g X W a fa) (hb : EV g X W b fb) (hm : behindInMarks op b = false := by first | exact nomark _ | rfl) : ET g X W (.Compare a [op] [b] pos) (wTst (wOp r fa fb)) := by
  refine ⟨fun pins s σ H Q I h => ?_⟩
  obtain ⟨w, ρ, S, K, ex, A, xo, ko, q⟩ := h
  refine wpAny_isTrue_Compare1 (bin2 ha hb (R := fun x y S2 => r x y S2 (fun x S1 => match x with | .bl k => K k S1 | _ => False)) I A xo q fun v u s2 vx vy x y H2 w2 S2 I2 ru rv l2 A2 rx ry q2 => ?_) hm
  refine thn (ho pins s2 σ H2 w2 ρ S2 x y vx vy v u _ (fun z H' => ∃ c, z = .bl c ∧ Q c H') I2 ru rv A2 rx ry (fun d S' q3 v3 w3 H3 l3 A3 r3 => ?_) q2) fun z s3 q3 => ?_
  · cases d with
    | bl k => exact ⟨k, rep_bl r3, ko k S' q3 w3 H3 (l2.trans l3) A3⟩
    | _ => exact q3.elim
  · obtain ⟨zv, H3, I3, r3, c, rfl, q3⟩ := q3
    cases r3
    exact wpAny_truthy_bool ⟨H3, I3, q3⟩
def rInt (C : Int → Int → Prop) (f : Int → Int → D) (x y : D) (S : Store) (K : KD) : Prop := match x, y with
  | .int i, .int j => C i j ∧ K (f i j) S
  | _, _ => False
def rInt0 (f : Int → Int → D) (x y : D) (S : Store) (K : KD) : Prop := match x, y with
  | .int i, .int j => K (f i j) S
  | _, _ => False
theorem opInt {sem : Value → Value → Sem Value} {C : Int → Int → Prop} {f : Int → Int → V} {fd : Int → Int → D} (h : OpR X sem (rI C f)) (hr : ∀ w i j, Rep g w (f i j) (fd i j)) : OpD g X sem (rInt C fd) :=
  OpD.of h fun σ H w ρ S x y vx vy K Q A rx ry ko q => by
    unfold rInt at q
    split at q
    · obtain ⟨hc, q⟩ := q
      cases rx
      cases ry
      exact ⟨_, _, rfl, rfl, hc, ko _ _ q _ w H (Le.refl w) A (hr w _ _)⟩
    · exact q.elim
theorem opInt0 {sem : Value → Value → Sem Value} {f : Int → Int → V} {fd : Int → Int → D} (h : OpR X sem (rI0 f)) (hr : ∀ w i j, Rep g w (f i j) (fd i j)) : OpD g X sem (rInt0 fd) :=
  OpD.of h fun σ H w ρ S x y vx vy K Q A rx ry ko q => by
    unfold rInt0 at q
    split at q
    · cases rx
      cases ry
      exact ⟨_, _, rfl, rfl, ko _ _ q _ w H (Le.refl w) A (hr w _ _)⟩
    · exact q.elim
theorem iadd : OpD g X (binaryOp .Add) (rInt0 fun i j => .int (i + j)) := opInt0 op_add fun _ _ _ => .int _
theorem isub : OpD g X (binaryOp .Sub) (rInt0 fun i j => .int (i - j)) := opInt0 op_sub fun _ _ _ => .int _
theorem imul : OpD g X (binaryOp .Mult) (rInt CMulW fun i j => .int (i * j)) := opInt op_mulW fun _ _ _ => .int _
theorem imulS : OpD g X (binaryOp .Mult) (rInt CMul fun i j => .int (i * j)) := opInt op_mul fun _ _ _ => .int _
theorem ifdiv : OpD g X (binaryOp .FloorDiv) (rInt CDivW fun i j => .int (i / j)) := opInt op_fdivW fun _ _ _ => .int _
theorem imod : OpD g X (binaryOp .Mod) (rInt (fun _ j => 0 < j) fun i j => .int (i % j)) := opInt op_mod fun _ _ _ => .int _
theorem ipow : OpD g X (binaryOp .Pow) (rInt CPow fun i j => .int (i ^ j.toNat)) := opInt op_pow fun _ _ _ => .int _
theorem igt : OpD g X (compareOp .Gt) (rInt0 fun i j => .bl (decide (j < i))) := opInt0 op_gt fun _ _ _ => .bl _
theorem ige : OpD g X (compareOp .GtE) (rInt0 fun i j => .bl (decide (j ≤ i))) := opInt0 op_ge fun _ _ _ => .bl _
def wOr (f h : FT) (ρ : List Sl) (S : Store) (K : Bool → Store → Prop) (ex : KX) : Prop := f ρ S (fun b S1 => Br b (K true S1) (h ρ S1 K ex)) ex
abbrev EW (g : Sg) (X : Cx) (W : WX) (e : Expr) (f : FT) : Prop := PW X e (rdT g W f)
theorem or1 (ha : ET g X W a ft) : EW g X W (.BoolOp .Or [a] pos) ft := pw_or1 ha
theorem orc {rest : List Expr} (ha : ET g X W a ft) (hb : EW g X W (.BoolOp .Or (b :: rest) pos) fu) : EW g X W (.BoolOp .Or (a :: b :: rest) pos) (wOr ft fu) :=
  PW.imp (pw_or ha hb) fun σ H Q ⟨w, ρ, S, K, ex, A, xo, ko, q⟩ => ⟨w, ρ, S, _, ex, A, xo, fun k S1 q1 w1 H1 l1 A1 => by
    cases k with
    | true => exact ko true S1 q1 w1 H1 l1 A1
    | false => exact ⟨w1, ρ, S1, K, ex, A1, xo.later l1, ko.later l1, q1⟩, q⟩
theorem EW.et {e : Expr} (h : EW g X W e ft) : ET g X W e ft := PW.pt h
def wIf (f : FT) (h1 h2 : FE) (ρ : List Sl) (S : Store) (K : KD) (ex : KX) : Prop := f ρ S (fun b S1 => Br b (h1 ρ S1 K ex) (h2 ρ S1 K ex)) ex
theorem eif (hc : ET g X W c ft) (ha : EV g X W a fa) (hb : EV g X W b fb) : EV g X W (.IfExp c a b pos) (wIf ft fa fb) :=
  PE.imp (pe_ifExp hc ha hb) fun σ H Q ⟨w, ρ, S, K, ex, A, xo, ko, q⟩ => ⟨w, ρ, S, _, ex, A, xo, fun k S1 q1 w1 H1 l1 A1 => by
    cases k with
    | true => rw [if_pos rfl]; exact ⟨w1, ρ, S1, K, ex, A1, xo.later l1, ko.later l1, q1⟩
    | false => rw [if_neg Bool.false_ne_true]; exact ⟨w1, ρ, S1, K, ex, A1, xo.later l1, ko.later l1, q1⟩, q⟩
/-- unary minus of an int -/
def wNeg (f : FE) (ρ : List Sl) (S : Store) (K : KD) (ex : KX) : Prop := f ρ S (fun x S1 => match x with | .int i => K (.int (-i)) S1 | _ => False) ex
theorem eneg (ha : EV g X W a fa) : EV g X W (.UnaryOp .USub a pos) (wNeg fa) :=
  PE.imp (pe_un un_neg ha) fun σ H Q ⟨w, ρ, S, K, ex, A, xo, ko, q⟩ => ⟨w, ρ, S, _, ex, A, xo, fun d S1 q1 v w1 H1 l1 A1 r => by
    cases d with
    | int k => exact ⟨k, rep_int r, ko _ S1 q1 _ w1 H1 l1 A1 (.int (-k))⟩
    | _ => exact q1.elim, q⟩
def wNil (_ : List Sl) (S : Store) (K : List D → Store → Prop) (_ : KX) : Prop := K [] S
def wCons (f : FE) (h : FA) (ρ : List Sl) (S : Store) (K : List D → Store → Prop) (ex : KX) : Prop := f ρ S (fun x S1 => h ρ S1 (fun xs S2 => K (x :: xs) S2) ex) ex
theorem anil : EA g X W [] wNil := PA.imp pa_nil fun σ H Q ⟨w, ρ, S, K, ex, A, xo, ko, q⟩ => ko [] S q [] w H (Le.refl w) A .nil
theorem acons (ha : EV g X W e fe) (hr : EA g X W es fr) (hs : starEach (e :: es) X.env = (false, eval e X.env) :: starEach es X.env := by rfl) : EA g X W (e :: es) (wCons fe fr) :=
  PA.imp (pa_cons ha hr hs) fun σ H Q ⟨w, ρ, S, K, ex, A, xo, ko, q⟩ => ⟨w, ρ, S, _, ex, A, xo, fun d S1 q1 v w1 H1 l1 A1 r1 =>
    ⟨w1, ρ, S1, _, ex, A1, xo.later l1, fun ds S2 q2 vs w2 H2 l2 A2 r2 => ko _ S2 q2 _ w2 H2 (l1.trans l2) A2 (.cons (r1.mono l2.s) r2), q1⟩, q⟩
def wTup (f : FA) (ρ : List Sl) (S : Store) (K : KD) (ex : KX) : Prop := f ρ S (fun ds S1 => Small ds.length ∧ K (.tup ds) S1) ex
theorem etup {x1} (h : EA g X W es fr) : EV g X W (.Tuple es x1 pos) (wTup fr) :=
  PE.imp (pe_tup h) fun σ H Q ⟨w, ρ, S, K, ex, A, xo, ko, q⟩ => ⟨w, ρ, S, _, ex, A, xo, fun ds S1 q1 vs w1 H1 l1 A1 r1 => ⟨by rw [r1.length]; exact q1.1.line, fun p hp =>
    ko _ S1 q1.2 _ (w1.add p (.tup vs)) _ (l1.trans (le_add A1.if_ (A1.free hp))) (A1.lay hp) (.tup (SqT.of upd_same) (r1.mono (le_add A1.if_ (A1.free hp)).s))⟩, q⟩
def wLst (f : FA) (ρ : List Sl) (S : Store) (K : List D → Store → Prop) (ex : KX) : Prop := f ρ S (fun ds S1 => Small ds.length ∧ K ds S1) ex
theorem fresh_new {w : Wd} {ρ : List Sl} {S : Store} {σ : L2.St} {H : Hp} {p : Addr} (A : At g w ρ S σ H) (hp : H p = none) : Fresh w ρ S σ p := by
  refine ⟨A.free hp, fun k ok h z => ?_, fun i oi h z => ?_⟩
  · obtain ⟨u, hu⟩ := (A.st k ok h).2.some
    rw [z, hp] at hu
    cases hu
  · obtain ⟨a, h1, _, h3, _⟩ := A.own i oi h
    obtain ⟨u, hu⟩ := h3.some
    rw [h1] at z
    cases z
    rw [hp] at hu
    cases hu
theorem elst (h : EA g X W es fr) : EL g X W (.List es pos) (wLst fr) :=
  PE.imp (pe_lst h) fun σ H Q ⟨w, ρ, S, K, ex, A, xo, ko, q⟩ => ⟨w, ρ, S, _, ex, A, xo, fun ds S1 q1 vs w1 H1 l1 A1 r1 => ⟨by rw [r1.length]; exact q1.1.line, fun p hp =>
    ko _ S1 q1.2 p vs w1 _ l1 (A1.grow (same_new hp)) upd_same (fresh_new A1 hp) r1⟩, q⟩
/-- a new list that stays as it is -/
def wVal (f : FA) (ρ : List Sl) (S : Store) (K : KD) (ex : KX) : Prop := f ρ S (fun ds S1 => K (.lst ds) S1) ex
theorem At.settle {w : Wd} {ρ : List Sl} {S : Store} {σ : L2.St} {H : Hp} {a : Addr} {vs : List V} {ds : List D} (A : At g w ρ S σ H) (h : H a = some (.lst vs)) (f : Fresh w ρ S σ a) (r : Reps g w vs ds) :
    Le w (w.add a (.lst vs)) ∧ At g (w.add a (.lst vs)) ρ S σ H ∧ Rep g (w.add a (.lst vs)) (.ref a) (.lst ds) :=
  ⟨le_add A.if_ f.f, A.fix h f.f f.s f.o, .lst upd_same (r.mono (le_add A.if_ f.f).s)⟩
theorem lval (h : EL g X W e fr) : EV g X W e (wVal fr) :=
  PE.imp h fun σ H Q ⟨w, ρ, S, K, ex, A, xo, ko, q⟩ => ⟨w, ρ, S, _, ex, A, xo, fun ds S1 q1 a vs w1 H1 l1 A1 e1 f1 r1 =>
    ko _ S1 q1 _ _ H1 (l1.trans (A1.settle e1 f1 r1).1) (A1.settle e1 f1 r1).2.1 (A1.settle e1 f1 r1).2.2, q⟩
end

abbrev ES (g : Sg) (X : Cx) (W : WX) (st : Stmt) (f : FS) : Prop := PS X st (rdS g W f)
section
variable {g : Sg} {X : Cx} {W : WX} {st : Stmt} {rest : List Stmt} {e c : Expr} {pos : Pos} {fe : FE} {ft : FT} {fa : FA} {f h : FS}
def wNext (d : Fin) (ρ : List Sl) (S : Store) : Prop := d.nx ρ S
def wSeq (f h : FS) (d : Fin) (ρ : List Sl) (S : Store) : Prop := f { d with nx := h d } ρ S
theorem bnil : EB g X W [] wNext := PSs.imp pss_nil fun D σ H ⟨w, ρ, S, d, A, eo, q⟩ => eo.nx ρ S q w σ H (Le.refl w) A
theorem bcons (h1 : ES g X W st f) (h2 : EB g X W rest h) : EB g X W (st :: rest) (wSeq f h) :=
  PSs.imp (pss_cons h1 h2) fun D σ H ⟨w, ρ, S, d, A, eo, q⟩ => ⟨w, ρ, S, { d with nx := h d }, A, ⟨fun ρ' S' k w' σ' H' l A' => ⟨w', ρ', S', d, A', eo.later l, k⟩, eo.rt, eo.bk, eo.ct, eo.ex, eo.rl⟩, q⟩
theorem bone (h1 : ES g X W st f) : EB g X W [st] f := pss_one h1
def wRet (f : FE) (d : Fin) (ρ : List Sl) (S : Store) : Prop := f ρ S d.rt (fun x S' => d.ex x ρ S')
theorem sret (he : EV g X W e fe) : ES g X W (.Return (some e) pos) (wRet fe) :=
  PS.imp (ps_ret he) fun D σ H ⟨w, ρ, S, d, A, eo, q⟩ => ⟨w, ρ, S, _, _, A, eo.xo, fun r S' k v w' H' l A' rr => eo.rt r S' k v w' H' l A'.bare rr, q⟩
def wIfS (t : FT) (f h : FS) (d : Fin) (ρ : List Sl) (S : Store) : Prop := t ρ S (fun b S' => Br b (f d ρ S') (h d ρ S')) (fun x S' => d.ex x ρ S')
theorem sif {a b : List Stmt} (hc : ET g X W c ft) (ha : EB g X W a f) (hb : EB g X W b h) : ES g X W (.If c a b pos) (wIfS ft f h) :=
  PS.imp (ps_if hc ha hb) fun D σ H ⟨w, ρ, S, d, A, eo, q⟩ => ⟨w, ρ, S, _, _, A, eo.xo, fun k S1 q1 w1 H1 l1 A1 => by
    cases k with
    | true => rw [if_pos rfl]; exact ⟨w1, ρ, S1, d, A1, eo.later l1, q1⟩
    | false => rw [if_neg Bool.false_ne_true]; exact ⟨w1, ρ, S1, d, A1, eo.later l1, q1⟩, q⟩
def wSet (i : Nat) (f : FE) (d : Fin) (ρ : List Sl) (S : Store) : Prop := f ρ S (fun x S' => d.nx (Env.put ρ i (.val x)) S') (fun x S' => d.ex x ρ S')
theorem sset {i : Nat} {x : Str} {pos' : Pos} (hN : X.N.Nodup) (hi : X.N[i]? = some x) (hx : Loc X.env.scope x) (he : EV g X W e fe) (hs : swapsWith e (some (.Name x pos')) pos.line X.env = pure false := by rfl)
    (hf : X.fn x = true ∨ X.env.scope.names.lookup x = some .local := by first | exact .inl rfl | exact .inr rfl | assumption) : ES g X W (.Assign [.Name x pos'] e pos) (wSet i fe) :=
  PS.imp (ps_set hN hi hx he hs hf) fun D σ H ⟨w, ρ, S, d, A, eo, q⟩ => ⟨w, ρ, S, _, _, A, eo.xo, fun r S' k v w' H' l A' rr => eo.nx _ S' k w' _ H' l (A'.put rr), q⟩
end
end R3

namespace R3
open PySem PySem.Spec PyProof.Rows L2

section
variable {g : Sg} {w : Wd} {ρ : List Sl} {S : Store} {σ : L2.St} {H : Hp}
/-- an object of the store is changed -/
theorem At.write {k : Nat} {o o' : SO} {u : HO} (A : At g w ρ S σ H) (h : S[k]? = some (some o)) (ho : ObjAt g w (upd H (w.φ k) u) (w.φ k) o') : At g w ρ (S.set k (some o')) σ (upd H (w.φ k) u) := by
  obtain ⟨h2, h3⟩ := A.st k o h
  have hk : k < S.length := (List.getElem?_eq_some_iff.mp h).1
  have back : ∀ j oj, (S.set k (some o'))[j]? = some (some oj) → ∃ oj', S[j]? = some (some oj') := fun j oj hj => by
    by_cases c : j = k
    · subst c; exact ⟨o, h⟩
    · rw [List.getElem?_set_ne (Ne.symm c)] at hj; exact ⟨oj, hj⟩
  refine ⟨A.if_, fun b u' e => ?_, by rw [List.length_set]; exact A.len, fun j oj hj => ?_, fun j1 j2 o1 o2 e1 e2 e3 => ?_, A.sl, A.val, fun j oj hj => ?_, A.xc⟩
  · have ne : b ≠ w.φ k := fun z => by rw [z, h2] at e; cases e
    rw [upd_ne ne]
    exact A.fh b u' e
  · by_cases c : j = k
    · subst c
      rw [List.getElem?_set_self hk] at hj
      cases hj
      exact ⟨h2, ho⟩
    · rw [List.getElem?_set_ne (Ne.symm c)] at hj
      obtain ⟨q1, q2⟩ := A.st j oj hj
      exact ⟨q1, q2.mono (Sub.refl w) (upd_ne fun z => c (A.inj j k _ _ hj h z))⟩
  · obtain ⟨p1, q1⟩ := back j1 o1 e1
    obtain ⟨p2, q2⟩ := back j2 o2 e2
    exact A.inj j1 j2 p1 p2 q1 q2 e3
  · obtain ⟨b, q1, q2, q3, q4, q5⟩ := A.own j oj hj
    refine ⟨b, q1, q2, q3.mono (Sub.refl w) (upd_ne (Ne.symm (q4 k o h))), fun j2 o2 e2 => ?_, q5⟩
    obtain ⟨p2, z2⟩ := back j2 o2 e2
    exact q4 j2 p2 z2
/-- a fresh object joins the store -/
theorem At.join {a : Addr} {o : SO} (A : At g w ρ S σ H) (ho : ObjAt g w H a o) (f : Fresh w ρ S σ a) :
    ∃ w', Le w w' ∧ w'.φ S.length = a ∧ w'.n = S.length + 1 ∧ At g w' ρ (S ++ [some o]) σ H := by
  let w' : Wd := { w with φ := fun k => if k = S.length then a else w.φ k, n := S.length + 1 }
  have sub : Sub w w' := ⟨fun _ _ z => z, fun k hk => if_neg (by rw [A.len]; exact Nat.ne_of_lt hk), by show w.n ≤ S.length + 1; rw [A.len]; exact Nat.le_succ _⟩
  have φn : w'.φ S.length = a := if_pos rfl
  have φo : ∀ k, k < S.length → w'.φ k = w.φ k := fun k hk => if_neg (Nat.ne_of_lt hk)
  have look : ∀ k ok, (S ++ [some o])[k]? = some (some ok) → (k < S.length ∧ S[k]? = some (some ok)) ∨ (k = S.length ∧ ok = o) := fun k ok h => by
    by_cases c : k < S.length
    · rw [List.getElem?_append_left c] at h
      exact .inl ⟨c, h⟩
    · rw [List.getElem?_append_right (by omega)] at h
      have : k - S.length = 0 := by
        cases e : k - S.length with
        | zero => rfl
        | succ n => rw [e] at h; simp at h
      rw [this] at h
      simp at h
      exact .inr ⟨by omega, h.symm⟩
  refine ⟨w', ⟨sub, fun _ _ z => z, fun _ z _ => z⟩, φn, rfl, A.if_, A.fh, by rw [List.length_append]; rfl, fun k ok h => ?_, fun j k oj ok hj hk e => ?_, A.sl, fun i d h => ?_, fun i oi h => ?_, fun i h => (A.xc i h).mono sub rfl⟩
  · rcases look k ok h with ⟨c, h⟩ | ⟨rfl, rfl⟩
    · obtain ⟨q1, q2⟩ := A.st k ok h
      rw [φo k c]
      exact ⟨q1, q2.mono sub rfl⟩
    · rw [φn]
      exact ⟨f.f, ho.mono sub rfl⟩
  · rcases look j oj hj with ⟨c1, h1⟩ | ⟨rfl, rfl⟩
    · rcases look k ok hk with ⟨c2, h2⟩ | ⟨rfl, rfl⟩
      · rw [φo j c1, φo k c2] at e
        exact A.inj j k oj ok h1 h2 e
      · rw [φo j c1, φn] at e
        exact absurd e (f.s j oj h1)
    · rcases look k ok hk with ⟨c2, h2⟩ | ⟨rfl, rfl⟩
      · rw [φo k c2, φn] at e
        exact absurd e.symm (f.s k ok h2)
      · rfl
  · obtain ⟨v, h1, h2⟩ := A.val i d h
    exact ⟨v, h1, h2.mono sub⟩
  · obtain ⟨b, q1, q2, q3, q4, q5⟩ := A.own i oi h
    refine ⟨b, q1, q2, q3.mono sub rfl, fun k ok hk => ?_, q5⟩
    rcases look k ok hk with ⟨c, hk⟩ | ⟨rfl, rfl⟩
    · rw [φo k c]; exact q4 k ok hk
    · rw [φn]
      intro z
      subst z
      exact f.o i oi h q1
end

section
variable {g : Sg} {X : Cx} {W : WX} {a b c e : Expr} {pos : Pos} {fa fb fe : FE} {es : List Expr} {fr : FA} {ft fu : FT} {st : Stmt} {rest : List Stmt} {f h : FS}
/-- xs[j] = v, xs a list of the store -/
def rPutD (x o y : D) (S : Store) (K : Store → Prop) : Prop := match o, y with
  | .ref n, .int k => ∃ ds, S[n]? = some (some (.lst ds)) ∧ ∃ j, ixN ds.length k = some j ∧ K (S.set n (some (.lst (ds.set j x))))
  | _, _ => False
def wPutRef (fv fo fj : FE) (d : Fin) (ρ : List Sl) (S : Store) : Prop := fv ρ S (fun x S1 => fo ρ S1 (fun o S2 => fj ρ S2 (fun y S3 => rPutD x o y S3 (fun S4 => d.nx ρ S4)) (fun x S' => d.ex x ρ S')) (fun x S' => d.ex x ρ S')) (fun x S' => d.ex x ρ S')
theorem sputref {fv fo fj : FE} (hp : PS X st (tAsg (rdE g W fv) (gSub (rdE g W fo) (rdE g W fj) rSetL))) : ES g X W st (wPutRef fv fo fj) :=
  PS.imp hp fun D σ H ⟨w, ρ, S, d, A, eo, q⟩ => by
    refine ⟨w, ρ, S, _, _, A, eo.xo, fun x S1 q1 v w1 H1 l1 A1 r1 => ?_, q⟩
    refine ⟨w1, ρ, S1, _, _, A1, (eo.later l1).xo, fun o S2 q2 vo w2 H2 l2 A2 r2 => ?_, q1⟩
    refine ⟨w2, ρ, S2, _, _, A2, (eo.later (l1.trans l2)).xo, fun y S3 q3 vy w3 H3 l3 A3 r3 => ?_, q2⟩
    cases o with
    | ref n =>
      cases y with
      | int k =>
        obtain ⟨ds, hs, j, hj, q3⟩ := q3
        obtain ⟨e1, hn⟩ := rep_ref (r2.mono l3.s)
        obtain ⟨h2, vs, e2, rr⟩ := A3.st n _ hs
        refine ⟨w3.φ n, vs, k, j, e1, rep_int r3, e2, by rw [rr.length]; exact hj, ?_⟩
        exact eo.nx ρ _ q3 w3 σ _ (l1.trans (l2.trans l3)) (A3.write (o' := .lst (ds.set j x)) hs ⟨_, upd_same, Reps.set (r1.mono (l2.trans l3).s) j rr⟩)
      | _ => exact q3.elim
    | _ => cases y <;> exact q3.elim

theorem Reps.atI {w : Wd} {vs : List V} {ds : List D} {i : Int} {d : D} (r : Reps g w vs ds) (h : L2.atI ds i = some d) : ∃ v, L2.atI vs i = some v ∧ Rep g w v d := by
  unfold L2.atI at h ⊢
  rw [r.length]
  cases e : ixN ds.length i with
  | none => rw [e] at h; cases h
  | some j =>
    rw [e] at h
    obtain ⟨v, h1, h2⟩ := r.got (show ds[j]? = some d from h)
    exact ⟨v, h1, h2⟩
def rIxD (x y : D) (S : Store) (K : KD) : Prop := match x, y with
  | .lst xs, .int i => ∃ d, atI xs i = some d ∧ K d S
  | .tup xs, .int i => ∃ d, atI xs i = some d ∧ K d S
  | .str z, .int i => ∃ c, z.length ≤ sizeLine ∧ atI z.cps.toList i = some c ∧ K (.str ⟨#[c]⟩) S
  | .ref n, .int i => ∃ xs, S[n]? = some (some (.lst xs)) ∧ ∃ d, atI xs i = some d ∧ K d S
  | _, _ => False
theorem eix (ha : EV g X W a fa) (hb : EV g X W b fb) (hK : g.K = X.K) (hs : PlainIx b := by exact fun _ _ => rfl) : EV g X W (.Subscript a b pos) (wOp rIxD fa fb) := by
  refine ⟨fun pins s σ H Q I h => ?_⟩
  obtain ⟨w, ρ, S, K, ex, A, xo, ko, q⟩ := h
  refine Subscript_ (bin2 ha hb (R := fun x y S2 => rIxD x y S2 K) I A xo q fun v u s2 vx vy x y H2 w2 S2 I2 ru rv l2 A2 rx ry q2 => ?_)
  have key : rIx X.K vx vy H2 Q := by
    unfold rIxD at q2
    split at q2
    · obtain ⟨d, hd, q2⟩ := q2
      cases rx with
      | lst hh rr =>
        obtain ⟨v, h1, h2⟩ := rr.atI hd
        cases ry
        exact .inl ⟨_, _, _, v, rfl, rfl, SqL.of (A2.ih _ _ hh), h1, ko _ _ q2 _ w2 H2 l2 A2 h2⟩
    · obtain ⟨d, hd, q2⟩ := q2
      cases rx with
      | tup hh rr =>
        obtain ⟨v, h1, h2⟩ := rr.atI hd
        cases ry
        exact .inr (.inl ⟨_, _, _, v, rfl, rfl, by rw [← hK]; exact A2.t hh, h1, ko _ _ q2 _ w2 H2 l2 A2 h2⟩)
    · obtain ⟨c, hz, hc, q2⟩ := q2
      cases rx
      cases ry
      exact .inr (.inr ⟨_, _, c, rfl, rfl, hz, hc, ko _ _ q2 _ w2 H2 l2 A2 (.str _)⟩)
    · rename_i n i
      obtain ⟨xs, hS, d, hd, q2⟩ := q2
      obtain ⟨e1, hn⟩ := rep_ref rx
      obtain ⟨_, vs, e2, rr⟩ := A2.st n _ hS
      obtain ⟨v, h1, h2⟩ := rr.atI hd
      cases ry
      exact .inl ⟨_, _, _, v, e1, rfl, SqL.of e2, h1, ko _ _ q2 _ w2 H2 l2 A2 h2⟩
    · exact q2.elim
  exact ix_seq a b pins s2 σ H2 vx vy v u Q I2 ru rv key (hs _ _)
def wCB (r : List D → Store → KD → Prop) (f : FA) (ρ : List Sl) (S : Store) (K : KD) (ex : KX) : Prop := f ρ S (fun ds S1 => r ds S1 K) ex
theorem rdA_run {es : List Expr} (ha : EA g X W es fr) {pins : List (Addr × Obj)} {s : Shared} {σ : L2.St} {H : Hp} {w : Wd} {ρ : List Sl} {S : Store} {K : List D → Store → Prop} {ex : KX} (pos : Pos) (I : Inv X pins σ H s) (A : At g w ρ S σ H) (xo : XOk g W σ ρ w ex) (q : fr ρ S K ex) :
    wpAny (model X.prog X.w) X.A (spliced (backTo pos (starEach es X.env))) (fun us s1 => ∃ vs H1 w1 ds S1, Inv X pins σ H1 s1 ∧ Vals vs us ∧ Le w w1 ∧ At g w1 ρ S1 σ H1 ∧ Reps g w1 vs ds ∧ K ds S1) X.xe s := by
  refine thn (ha.run pos pins s σ H (fun vs H1 => ∃ w1 ds S1, Le w w1 ∧ At g w1 ρ S1 σ H1 ∧ Reps g w1 vs ds ∧ K ds S1) I ⟨w, ρ, S, K, ex, A, xo, fun ds S1 k vs w1 H1 l1 A1 r1 => ⟨w1, ds, S1, l1, A1, r1, k⟩, q⟩) fun us s1 hh => ?_
  obtain ⟨vs, H1, I1, rv, w1, ds, S1, l1, A1, r1, k⟩ := hh
  exact ⟨vs, H1, w1, ds, S1, I1, rv, l1, A1, r1, k⟩
theorem ecb {x : Str} {id : String} {r : List D → Store → KD → Prop} {p : Pos} (hc : CallD g X (.builtin id) r) (hg : Gl X x) (hm : X.mg x = none) (hv : bootBuiltins x = some (.builtin id)) (ha : EA g X W (e :: es) fr) (hn : x ≠ "__name__" := by decide) (hdb : (x == ("__debug__" : Str)) = false := by decide)
    (he : starEach (e :: es) X.env = (false, eval e X.env) :: starEach es X.env := by rfl) (hpl : (backTo pos (starEach es X.env)).any (·.1) = false := by rfl) : EV g X W (.Call (.Name x p) (e :: es) [] pos) (wCB r fr) := by
  refine ⟨fun pins s σ H Q I h => ?_⟩
  obtain ⟨w, ρ, S, K, ex, A, xo, ko, q⟩ := h
  refine wpAny_Call_Name_kw (ld_blt I hg hm hv ?_ hn hdb)
  exact PyProof.Rows.callWith_builtin1 (thn (rdA_run ha pos I A xo q) fun us s1 ⟨vs, H1, w1, ds, S1, I1, rv, l1, A1, r1, k⟩ => hc pins s1 σ H1 w1 ρ S1 ds vs us K Q I1 rv A1 r1 (ko.later l1) k) he hpl
theorem ect {x : Str} {T : String} {r : List D → Store → KD → Prop} {p : Pos} (hc : CallD g X (.type T) r) (hg : Gl X x) (hm : X.mg x = none) (hv : bootBuiltins x = some (.type T)) (ha : EA g X W (e :: es) fr) (hn : x ≠ "__name__" := by decide) (hdb : (x == ("__debug__" : Str)) = false := by decide)
    (he : starEach (e :: es) X.env = (false, eval e X.env) :: starEach es X.env := by rfl) (hpl : (backTo pos (starEach es X.env)).any (·.1) = false := by rfl) : EV g X W (.Call (.Name x p) (e :: es) [] pos) (wCB r fr) := by
  refine ⟨fun pins s σ H Q I h => ?_⟩
  obtain ⟨w, ρ, S, K, ex, A, xo, ko, q⟩ := h
  refine wpAny_Call_Name_kw (ld_blt I hg hm hv ?_ hn hdb)
  exact PyProof.Rows.callWith_type1 (thn (rdA_run ha pos I A xo q) fun us s1 ⟨vs, H1, w1, ds, S1, I1, rv, l1, A1, r1, k⟩ => hc pins s1 σ H1 w1 ρ S1 ds vs us K Q I1 rv A1 r1 (ko.later l1) k) he hpl

def rLenD (ds : List D) (S : Store) (K : KD) : Prop := match ds with
  | [.lst xs] => K (.int xs.length) S
  | [.tup xs] => K (.int xs.length) S
  | [.scr xs] => K (.int xs.length) S
  | [.str z] => z.length ≤ sizeLine ∧ K (.int z.length) S
  | [.ref n] => ∃ xs, S[n]? = some (some (.lst xs)) ∧ K (.int xs.length) S
  | _ => False
theorem Reps.inv1 {w : Wd} {vs : List V} {d : D} (r : Reps g w vs [d]) : ∃ v, vs = [v] ∧ Rep g w v d := by
  cases r with
  | cons h r => cases r; exact ⟨_, rfl, h⟩
theorem Reps.inv2 {w : Wd} {vs : List V} {d e : D} (r : Reps g w vs [d, e]) : ∃ v u, vs = [v, u] ∧ Rep g w v d ∧ Rep g w u e := by
  cases r with
  | cons h r =>
    obtain ⟨u, rfl, h2⟩ := r.inv1
    exact ⟨_, u, rfl, h, h2⟩
theorem clen (hK : g.K = X.K) : CallD g X (.builtin "len") rLenD :=
  CallD.of (call_len_seq.or call_len_str) fun σ H w ρ S ds vs K Q A r ko q => by
    unfold rLenD at q
    split at q
    · obtain ⟨v, rfl, h⟩ := r.inv1
      cases h with
      | lst hh rr => exact .inl ⟨_, _, rfl, .inl (SqL.of (A.ih _ _ hh)), by rw [rr.length]; exact ko _ _ q _ w H (Le.refl w) A (.int _)⟩
    · obtain ⟨v, rfl, h⟩ := r.inv1
      cases h with
      | tup hh rr => exact .inl ⟨_, _, rfl, .inr (by rw [← hK]; exact A.t hh), by rw [rr.length]; exact ko _ _ q _ w H (Le.refl w) A (.int _)⟩
    · obtain ⟨v, rfl, h⟩ := r.inv1
      cases h with
      | scr hh => exact .inl ⟨_, _, rfl, .inl (by rw [← hK]; exact A.l hh), by rw [List.length_map]; exact ko _ _ q _ w H (Le.refl w) A (.int _)⟩
    · obtain ⟨v, rfl, h⟩ := r.inv1
      cases h
      exact .inr ⟨_, rfl, q.1, ko _ _ q.2 _ w H (Le.refl w) A (.int _)⟩
    · rename_i n
      obtain ⟨xs, hS, q⟩ := q
      obtain ⟨v, rfl, h⟩ := r.inv1
      obtain ⟨e1, hn⟩ := rep_ref h
      subst e1
      obtain ⟨_, vs, e2, rr⟩ := A.st n _ hS
      exact .inl ⟨_, _, rfl, .inl (SqL.of e2), by rw [rr.length]; exact ko _ _ q _ w H (Le.refl w) A (.int _)⟩
    · exact q.elim
def rInt1 (ds : List D) (S : Store) (K : KD) : Prop := match ds with
  | [.int i] => K (.int i) S
  | [.bl b] => K (.int (if b then 1 else 0)) S
  | _ => False
theorem cint1 : CallD g X (.type "int") rInt1 := CallD.of call_int1 fun σ H w ρ S ds vs K Q A r ko q => by
  unfold rInt1 at q
  split at q
  · obtain ⟨v, rfl, h⟩ := r.inv1
    cases h
    exact .inl ⟨_, rfl, ko _ _ q _ w H (Le.refl w) A (.int _)⟩
  · obtain ⟨v, rfl, h⟩ := r.inv1
    cases h
    exact .inr ⟨_, rfl, ko _ _ q _ w H (Le.refl w) A (.int _)⟩
  · exact q.elim
def rMinD (ds : List D) (S : Store) (K : KD) : Prop := match ds with
  | [.int i, .int j] => K (.int (if j < i then j else i)) S
  | _ => False
def rMaxD (ds : List D) (S : Store) (K : KD) : Prop := match ds with
  | [.int i, .int j] => K (.int (if j > i then j else i)) S
  | _ => False
theorem cmin2 (hc : X.calm = true) : CallD g X (.builtin "min") rMinD := CallD.of (call_min2 hc) fun σ H w ρ S ds vs K Q A r ko q => by
  unfold rMinD at q
  split at q
  · obtain ⟨v, u, rfl, h1, h2⟩ := r.inv2
    cases h1
    cases h2
    exact ⟨_, _, rfl, ko _ _ q _ w H (Le.refl w) A (.int _)⟩
  · exact q.elim
theorem cmax2 (hc : X.calm = true) : CallD g X (.builtin "max") rMaxD := CallD.of (call_max2 hc) fun σ H w ρ S ds vs K Q A r ko q => by
  unfold rMaxD at q
  split at q
  · obtain ⟨v, u, rfl, h1, h2⟩ := r.inv2
    cases h1
    cases h2
    exact ⟨_, _, rfl, ko _ _ q _ w H (Le.refl w) A (.int _)⟩
  · exact q.elim
end
end R3

namespace R3
open PySem PySem.Spec PyProof.Rows L2

/-- an exception in the air of X -/
def XEK (kn : Bool) (X : Cx) (W : WX) (u : Value) (s' : Shared) : Prop :=
  ∃ (a : Addr) (B : Heap) (sI : Shared) (pins : List (Addr × Obj)) (σ : L2.St) (H : Hp) (cls : Value) (d : Option Addr),
    u = .ref a ∧ Inv X pins σ H sI ∧ (∀ b o, sI.heap.get? b = some o → b ∉ frs X.stack → B.get? b = some o) ∧ sI.heap.UpToSlots s'.heap ∧
      Sky B X.stack a (ZK kn cls d) X.env.locals s'.heap ∧ H a = none ∧ s'.os = sI.os ∧ AllBare s'.gens ∧ W cls d σ H
theorem TakesK.get {kn : Bool} {X : Cx} {W : WX} (t : TakesK kn X W) : ∀ u s', XEK kn X W u s' → X.xe u s' := by
  cases kn
  · exact fun u s' x => t u s' x
  · exact fun u s' x => t u s' x
theorem TakesK.mk {kn : Bool} {X : Cx} {W : WX} (t : ∀ u s', XEK kn X W u s' → X.xe u s') : TakesK kn X W := by
  cases kn
  · exact fun u s' x => t u s' x
  · exact fun u s' x => t u s' x
theorem takesN {kn : Bool} {X : Cx} : TakesK kn X (fun _ _ _ _ => False) := TakesK.mk fun _ _ x => by
  obtain ⟨_, _, _, _, _, _, _, _, _, _, _, _, _, _, _, _, w⟩ := x
  exact w.elim
theorem takes_ofK {kn : Bool} {X : Cx} {E : XK} (hs : X.stack = X.env :: X.outer) (hf : X.env.frame = some X.env.locals) (hex : X.ex = []) {E₁ : Value → Shared → Prop}
    (hx : X.xe = fun e s' => wpAny (model X.prog X.w) X.A (leaving X.env e) (fun _ s'' => CXK kn X.prog X.w X.outer X.H_0 X.s_0 E e s'') E₁ s') : TakesK kn X (fun cls d _ H => E cls d H) := by
  cases kn
  · exact L2.takes_of hs hf hex hx
  · exact L2N.takes_of hs hf hex hx
theorem passAtK {kn : Bool} {X : Cx} {W : WX} (tk : TakesK kn X W) (σ : L2.St) : PassesAt (CXK kn X.prog X.w) X σ (WE W σ) := by
  cases kn
  · exact L2.passAt tk σ
  · exact L2N.passAt tk σ
theorem spOf_len {g : Sg} {n : Nat} {C : Ct} {vs : List V} {H : Hp} {Q : VK} {E : XK} (h : spOf g n C vs H Q E) : vs.length = n := by
  obtain ⟨w, ds, S, K, ex, hn, _, r, _⟩ := h
  rw [r.length, hn]
section
variable {g : Sg} {X : Cx} {W : WX} {a b c e o : Expr} {pos apos : Pos} {fa fb fe fo : FE} {es : List Expr} {fr : FA} {st : Stmt}
/-- a callee runs with values -/
theorem run_ct {A0 : Around} {k n : Nat} {C : Ct} {fn : Addr} {pins : List (Addr × Obj)} {s : Shared} {σ : L2.St} {H : Hp} {w : Wd} {ρ : List Sl} {S : Store} {ds : List D} {vs : List V} {us : List Value} {K : KD} {ex : KX} {Q : VK}
    (F : FnR X.prog X.w X.K X.mg X.base (CXK kn X.prog X.w) k fn (spOf g n C)) (hr : Room k A0) (e0 : Env0 X.prog X.w X.K X.mg X.base A0 X.stack s H) (tk : TakesK kn X W) (I : Inv X pins σ H s) (rv : Vals vs us) (A : At g w ρ S σ H) (rr : Reps g w vs ds) (hn : ds.length = n)
    (xo : XOk g W σ ρ w ex) (ko : KOk g w ρ σ K Q) (q : C ds S K ex) :
    codeAny (model X.prog X.w) A0 (.call (.ref fn) ⟨us, []⟩) (fun r s' => match r with | .ok (.ret v) => EP X pins σ Q v s' | .ok _ => False | .error e => X.xe e s') s := by
  refine codeAny_mono (F A0 X.stack s H us vs Q (WE W σ) hr e0 rv ?_) fun r s' hq => ?_
  · refine ⟨w.inner S H, ds, S, K, ex, hn, A.enter, reps_inner rr, fun d S' k v w' H' l A' r' => ?_, fun x S' e w' H' cls dd l A' r' => ?_, q⟩
    · obtain ⟨l2, A2⟩ := A.leave l A'
      exact ko d S' k v _ H' l2 A2 (r'.mono sub_outer)
    · obtain ⟨l2, A2⟩ := A.leave l A'
      obtain ⟨h1, a, vs, h2, h3, h4, h5⟩ := r'
      exact xo x S' e _ H' cls dd l2 A2 ⟨h1, a, vs, h2, h3, h4, h5.mono sub_outer⟩
  · cases r with
    | error e => exact passAtK tk σ pins H s e s' I hq
    | ok fl =>
      cases fl with
      | ret u => exact I.after hq
      | next => exact False.elim hq
      | brk => exact False.elim hq
      | cont => exact False.elim hq
/-- f(e, ..) -/
def wCall (n : Nat) (C : Ct) (f : FA) (ρ : List Sl) (S : Store) (K : KD) (ex : KX) : Prop := f ρ S (fun ds S1 => ds.length = n ∧ C ds S1 K ex) ex
theorem ecall {x : Str} {k j n : Nat} {C : Ct} {p : Pos} (F : Cal (kn := kn) X.prog X.w X.mg X.base g k x n C) (hK : g.K = X.K) (hr : Room j X.A) (hk : k ≤ j) (tk : TakesK kn X W) (hg : Gl X x) (ha : EA g X W (e :: es) fr) (hdb : (x == ("__debug__" : Str)) = false := by decide)
    (he : starEach (e :: es) X.env = (false, eval e X.env) :: starEach es X.env := by rfl) (hpl : (backTo pos (starEach es X.env)).any (·.1) = false := by rfl) : EV g X W (.Call (.Name x p) (e :: es) [] pos) (wCall n C fr) := by
  refine ⟨fun pins s σ H Q I h => ?_⟩
  obtain ⟨w, ρ, S, K, ex, A, xo, ko, q⟩ := h
  obtain ⟨fn, hm, kp, F⟩ := F.ex
  rw [hK] at kp F
  refine wpAny_Call_Name_kw (ld_glob I hg hm ?_ hdb)
  refine PySem.W.callWith_K (h₀ := X.base) I.ok.mod.kin kp (thn (rdA_run ha pos I A xo q) fun us s1 ⟨vs, H1, w1, ds, S1, I1, rv, l1, A1, r1, hn, q1⟩ => ⟨I1.kIn, ?_⟩) he hpl
  exact wpAny_call (run_ct F (hr.mono hk) I1.env0 tk I1 rv A1 r1 hn (xo.later l1) (ko.later l1) q1)
/-- the instance of class c behind a value -/
def insOf (c : Nat) (S : Store) : D → Option (List D)
  | .obj c' ds => if c' = c then some ds else none
  | .ref n => match S[n]? with
    | some (some (.ins c' ds)) => if c' = c then some ds else none
    | _ => none
  | _ => none
theorem ins_at {w : Wd} {ρ : List Sl} {S : Store} {σ : L2.St} {H : Hp} {c : Nat} {v : V} {d : D} {ds : List D} (A : At g w ρ S σ H) (r : Rep g w v d) (h : insOf c S d = some ds) :
    ∃ a dx vs, v = .ref a ∧ H a = some (.ins (g.ad c) dx ((g.fl c).zip vs)) ∧ vs.length = (g.fl c).length ∧ Reps g w vs ds := by
  unfold insOf at h
  split at h
  · rename_i c' ds'
    split at h
    · rename_i e
      subst e
      cases h
      cases r with
      | obj hh hl rr => exact ⟨_, _, _, rfl, A.ih _ _ hh, hl, rr⟩
    · cases h
  · rename_i n
    split at h
    · rename_i c' ds' hS
      split at h
      · rename_i e
        subst e
        cases h
        obtain ⟨rfl, _⟩ := rep_ref r
        obtain ⟨_, dx, vs, e, hl, rr⟩ := A.st n _ hS
        exact ⟨_, dx, vs, rfl, e, hl, rr⟩
      · cases h
    · cases h
  · cases h
end

section
variable {P : Program} {w : World} {mg : Str → Option Value} {base : Heap} {g : Sg} {x qual : Str} {params : Arguments} {body : List Stmt} {scope : Scope} {dvs : List V} {kws : List (Str × V)} {f : Addr} {fd : FuncData}
/-- the wish of a def's body -/
abbrev wD (E : XK) : WX := fun cls d _ H => E cls d H
theorem def_ok {N ps : List Str} {k : Nat} {C : Ct} {fs : FS} (F : FunD g.K x qual params body scope dvs kws f fd) (S : FnScope N ps scope)
    (hb : ∀ (cdv : Value) (A : Around) (outer : List PySem.Env) (s : Shared) (H : Hp) (E : XK), Room k (A.deeper (envOfC qual scope s.heap.objs.size f cdv)) → EB g (cxOf (CXK kn P w) P w g.K mg base N qual scope f cdv A outer s H E) (wD E) body fs)
    (hc : ∀ ds S K ex, ds.length = ps.length → C ds S K ex → fs { nx := fun _ S' => K .non S', rt := K, ex := fun x _ S' => ex x S' } (startD N.length ds) S) : FnOk P w g.K mg base (CXK kn P w) (k + 1) f fd ps (spOf g ps.length C) := by
  refine FunD.ok F S (fun vs H Q E h => spOf_len h) fun cdv A outer s H vs Q E hr h => ⟨_, hb cdv A outer s H E hr, ?_⟩
  obtain ⟨w0, ds, St, K, ex, hn, A0, r, ko, xo, q⟩ := h
  exact ⟨w0, _, St, _, A0.start r, ⟨fun ρ' S' k w' σ' H' l A' => ko _ _ k _ w' H' l A'.bare .non, fun r S' k v w' H' l A' rr => ko _ _ k v w' H' l A' rr, fun _ _ z => False.elim z, fun _ _ z => False.elim z,
    fun x ρ' S' e w' σ' H' cls dd l A' r => xo x S' e w' H' cls dd l A'.bare r, fun _ _ z => False.elim z⟩, hc ds St K ex hn q⟩
end
end R3

namespace R3
open PySem PySem.Spec PyProof.Rows L2

def rdG (g : Sg) (js : List Nat) (f : FG) : TG := fun v σ H Q => ∃ w ρ S d K, At g w ρ S σ H ∧ Rep g w v d ∧ (∀ ρ', K ρ' → ∀ σ', At g w ρ' S σ' H → Only js σ σ' → Q σ' H) ∧ f d ρ K
def rdGs (g : Sg) (js : List Nat) (f : FGs) : TGs := fun vs σ H Q => ∃ w ρ S ds K, At g w ρ S σ H ∧ Reps g w vs ds ∧ (∀ ρ', K ρ' → ∀ σ', At g w ρ' S σ' H → Only js σ σ' → Q σ' H) ∧ f ds ρ K
abbrev GT (g : Sg) (X : Cx) (js : List Nat) (tg : Expr) (f : FG) : Prop := PG X tg (rdG g js f)
abbrev GTs (g : Sg) (X : Cx) (js : List Nat) (tg : List Expr) (f : FGs) : Prop := PGs X tg (rdGs g js f)
section
variable {g : Sg} {X : Cx} {W : WX} {js : List Nat} {e tg iter : Expr} {es : List Expr} {pos : Pos} {fg : FG} {fgs : FGs} {fe : FE} {st : Stmt} {body : List Stmt} {fs : FS} {ft : FT}
def gNm (i : Nat) (d : D) (ρ : List Sl) (K : List Sl → Prop) : Prop := K (Env.put ρ i (.val d))
theorem gnm {i : Nat} {x : Str} (hj : i ∈ js) (hN : X.N.Nodup) (hi : X.N[i]? = some x) (hx : Loc X.env.scope x) (hf : X.fn x = true ∨ X.env.scope.names.lookup x = some .local := by first | exact .inl rfl | exact .inr rfl | assumption) : GT g X js (.Name x pos) (gNm i) :=
  PG.imp (pg_name hN hi hx hf) fun v σ H Q ⟨w, ρ, S, d, K, A, r, k, q⟩ => k _ q _ (A.put r) (Only.set hj)
def gNl (ds : List D) (ρ : List Sl) (K : List Sl → Prop) : Prop := match ds with
  | [] => K ρ
  | _ => False
def gCs (f : FG) (h : FGs) (ds : List D) (ρ : List Sl) (K : List Sl → Prop) : Prop := match ds with
  | d :: r => f d ρ (fun ρ' => h r ρ' K)
  | _ => False
theorem gnil : GTs g X js [] gNl := PGs.imp pgs_nil fun vs σ H Q ⟨w, ρ, S, ds, K, A, r, k, q⟩ => by
  cases r with
  | nil => exact ⟨rfl, k ρ q σ A Only.refl⟩
  | cons _ _ => exact q.elim
theorem gcons (h1 : GT g X js e fg) (h2 : GTs g X js es fgs) (hs : (assignEach (e :: es) X.env).map (·.2) = assign e X.env :: (assignEach es X.env).map (·.2) := by rfl) : GTs g X js (e :: es) (gCs fg fgs) :=
  PGs.imp (pgs_cons h1 h2 hs) fun vs σ H Q ⟨w, ρ, S, ds, K, A, r, k, q⟩ => by
    cases r with
    | nil => exact q.elim
    | cons r1 r2 => exact ⟨_, _, rfl, w, ρ, S, _, _, A, r1, fun ρ' q' σ' A' o' => ⟨w, ρ', S, _, K, A', r2, fun ρ2 k2 σ2 A2 o2 => k ρ2 k2 σ2 A2 (o'.trans o2), q'⟩, q⟩
/-- target = e -/
def wAsg (f : FE) (h : FG) (d : Fin) (ρ : List Sl) (S : Store) : Prop := f ρ S (fun x S' => h x ρ (fun ρ' => d.nx ρ' S')) (fun x S' => d.ex x ρ S')
theorem sasg (he : EV g X W e fe) (hg : GT g X js tg fg) (hs : swapsWithSole [tg] e pos.line X.env = pure false := by rfl) (hw : swappedStores [tg] e X.env = pure none := by rfl)
    (h1 : (assignEach [tg] X.env).map (·.2) = [assign tg X.env] := by rfl) : ES g X W (.Assign [tg] e pos) (wAsg fe fg) :=
  PS.imp (ps_asg he hg hs hw h1) fun D σ H ⟨w, ρ, S, d, A, eo, q⟩ => ⟨w, ρ, S, _, _, A, eo.xo, fun x S' q1 v w' H' l A' r => ⟨w', ρ, S', x, _, A', r, fun ρ' k σ' A2 _ => eo.nx ρ' S' k w' σ' H' l A2, q1⟩, q⟩
/-- a, b = x, y -/
def wPar (i j : Nat) (f : FA) (d : Fin) (ρ : List Sl) (S : Store) : Prop := f ρ S (fun ds S' => match ds with
  | [x, y] => d.nx (Env.put (Env.put ρ i (.val x)) j (.val y)) S'
  | _ => False) (fun x S' => d.ex x ρ S')
theorem spar {i j : Nat} {fa : FA} (h0 : PS X st (tPar i j (rdA g W fa))) : ES g X W st (wPar i j fa) :=
  PS.imp h0 fun D σ H ⟨w, ρ, S, d, A, eo, q⟩ => ⟨w, ρ, S, _, _, A, eo.xo, fun ds S' q1 vs w' H' l A' r => by
    split at q1
    · obtain ⟨v, u, rfl, r1, r2⟩ := r.inv2
      exact ⟨v, u, rfl, eo.nx _ S' q1 w' _ H' l ((A'.put r1).put r2)⟩
    · exact q1.elim, q⟩

theorem gen_list {w : Wd} {a : Addr} {vs : List V} {ds : List D} {K : PySem.W.Frag} (h : w.I a = some (.lst vs)) (r : Reps g w vs ds) : Gen g w (Itl K a) ds := by
  have sq : ∀ w' ρ S σ H, Le w w' → At g w' ρ S σ H → SqL K H a vs := fun w' ρ S σ H l A => SqL.of (A.ih _ _ (l.s.i _ _ h))
  refine ⟨fun i w' ρ S σ H hi l A => ?_, fun w' ρ S σ H l A => ⟨vs, sq w' ρ S σ H l A, by rw [r.length]; exact Nat.le_refl _⟩, fun i w' ρ S σ H x H' d hd l A y => ?_⟩
  · obtain ⟨v, hv, _⟩ := r.got (show ds[i]? = some ds[i] by simp [hi])
    exact ⟨vs, v, sq w' ρ S σ H l A, hv⟩
  · obtain ⟨e, y⟩ := y
    subst e
    obtain ⟨v, hv, rv⟩ := r.got hd
    have e := y vs (sq w' ρ S σ _ l A)
    rw [hv] at e
    cases e
    exact ⟨w', Le.refl _, A, rv.mono l.s, fun _ _ z => z, fun _ z _ => z⟩
theorem gen_tup {w : Wd} {a : Addr} {vs : List V} {ds : List D} (h : SqT g.K w.I a vs) (r : Reps g w vs ds) : Gen g w (Itt g.K a) ds := by
  have sq : ∀ w' ρ S σ H, Le w w' → At g w' ρ S σ H → SqT g.K H a vs := fun w' ρ S σ H l A => A.t (same_t l.s.i h)
  refine ⟨fun i w' ρ S σ H hi l A => ?_, fun w' ρ S σ H l A => ⟨vs, sq w' ρ S σ H l A, by rw [r.length]; exact Nat.le_refl _⟩, fun i w' ρ S σ H x H' d hd l A y => ?_⟩
  · obtain ⟨v, hv, _⟩ := r.got (show ds[i]? = some ds[i] by simp [hi])
    exact ⟨vs, v, sq w' ρ S σ H l A, hv⟩
  · obtain ⟨e, y⟩ := y
    subst e
    obtain ⟨v, hv, rv⟩ := r.got hd
    have e := y vs (sq w' ρ S σ _ l A)
    rw [hv] at e
    cases e
    exact ⟨w', Le.refl _, A, rv.mono l.s, fun _ _ z => z, fun _ z _ => z⟩
/-- range -/
def rng (lo : Int) : Nat → List D
  | 0 => []
  | n + 1 => .int lo :: rng (lo + 1) n
theorem rng_len : ∀ (n : Nat) (lo : Int), (rng lo n).length = n
  | 0, _ => rfl
  | n + 1, lo => congrArg (· + 1) (rng_len n (lo + 1))
theorem rng_get : ∀ {n : Nat} {lo : Int} {i : Nat}, i < n → (rng lo n)[i]? = some (.int (lo + i))
  | 0, _, _, h => absurd h (Nat.not_lt_zero _)
  | n + 1, lo, 0, _ => by simp [rng]
  | n + 1, lo, i + 1, h => by
    show (rng (lo + 1) n)[i]? = _
    rw [rng_get (Nat.lt_of_succ_lt_succ h)]
    congr 2
    omega
theorem gen_rng {w : Wd} {lo : Int} {n : Nat} : Gen g w (Itr lo n) (rng lo n) := by
  refine ⟨fun i w' ρ S σ H hi l A => by rw [rng_len] at hi; exact hi, fun w' ρ S σ H l A => by rw [rng_len]; exact Nat.le_refl _, fun i w' ρ S σ H x H' d hd l A y => ?_⟩
  have hi : i < n := by
    have := (List.getElem?_eq_some_iff.mp hd).1
    rw [rng_len] at this
    exact this
  rw [rng_get hi] at hd
  cases hd
  obtain ⟨rfl, rfl⟩ := y
  exact ⟨w', Le.refl _, A, .int _, fun _ _ z => z, fun _ z _ => z⟩
def wR1 (f : FA) (ρ : List Sl) (S : Store) (K : List D → Store → Prop) (ex : KX) : Prop := f ρ S (fun ds S1 => match ds with
  | [.int j] => (-(2 ^ 62) ≤ j ∧ j < 2 ^ 62) ∧ K (rng 0 j.toNat) S1
  | _ => False) ex
theorem itr1 {a : Expr} {fa : FA} {p pos : Pos} (hg : Gl X "range") (hm : X.mg "range" = none) (ha : EA g X W [a] fa) (hs : starEach [a] X.env = [(false, eval a X.env)] := by rfl) : EI g X W tg (.Call (.Name "range" p) [a] [] pos) (wR1 fa) :=
  PI.imp (pi_range1 hg hm ha hs) fun σ H R ⟨w, ρ, S, K, ex, A, xo, ko, q⟩ => ⟨w, ρ, S, _, ex, A, xo, fun ds S1 q1 vs w1 H1 l1 A1 r1 => by
    split at q1
    · obtain ⟨v, rfl, r⟩ := r1.inv1
      cases r
      exact ⟨_, rfl, q1.1.1, q1.1.2, ko _ S1 q1.2 _ w1 H1 l1 A1 gen_rng⟩
    · exact q1.elim, q⟩
def forL (fg : FG) (fb : FS) (d : Fin) : List D → List Sl → Store → Prop
  | [], ρ, S => d.nx ρ S
  | x :: r, ρ, S => fg x ρ (fun ρ' => fb { d with nx := forL fg fb d r, ct := forL fg fb d r, bk := d.nx } ρ' S)
def wFor (fi : FI) (fg : FG) (fb : FS) (d : Fin) (ρ : List Sl) (S : Store) : Prop := fi ρ S (fun ds S' => forL fg fb d ds ρ S') (fun x S' => d.ex x ρ S')
theorem sfor (hp : PassesOwn (model X.prog X.w) X.A X.env X.xe) (hc : X.calm = true) {fi : FI} (hi : EI g X W tg iter fi) (hg : GT g X js tg fg) (hb : EB g X W body fs) (hs : ∀ x, foldedSetIterable iter X.env x = pure x := by intro _; rfl) :
    ES g X W (.For tg iter body [] pos) (wFor fi fg fs) :=
  PS.imp (ps_for hp hc hi hg hb hs) fun D σ H ⟨w, ρ, S, d, A, eo, q⟩ => ⟨w, ρ, S, _, _, A, eo.xo, fun ds S1 q1 J w1 H1 l1 A1 G => by
    refine ⟨fun i m σ H => m = ds.length - i ∧ i ≤ ds.length ∧ ∃ w' ρ' S', Le w1 w' ∧ At g w' ρ' S' σ H ∧ forL fg fs d (ds.drop i) ρ' S', ⟨ds.length, by simp, Nat.zero_le _, w1, ρ, S1, Le.refl _, A1, q1⟩, ?_⟩
    rintro i m σ' H' ⟨rfl, hi, w2, ρ2, S2, l2, A2, q2⟩
    by_cases hlt : i < ds.length
    · have hd : ds[i]? = some ds[i] := by simp [hlt]
      rw [drop_cons hd] at q2
      refine .inr ⟨G.go i w2 ρ2 S2 σ' H' hlt l2 A2, fun σ3 H3 => ∃ w3 ρ3 S3, Le w1 w3 ∧ At g w3 ρ3 S3 σ3 H3 ∧ forL fg fs d (ds.drop (i + 1)) ρ3 S3, fun σ3 H3 p => ⟨_, by omega, rfl, hlt, p⟩, fun x H4 y => ?_⟩
      obtain ⟨w4, l4, A4, r4, _⟩ := G.yld i w2 ρ2 S2 σ' H' x H4 _ hd l2 A2 y
      refine ⟨w4, ρ2, S2, _, _, A4, r4, fun ρ5 q5 σ5 A5 _ => ?_, q2⟩
      have l14 : Le w1 w4 := l2.trans l4
      exact ⟨w4, ρ5, S2, { d with nx := forL fg fs d (ds.drop (i + 1)), ct := forL fg fs d (ds.drop (i + 1)), bk := d.nx }, A5, ⟨fun ρ' S' k w' σ'' H'' l A => ⟨w', ρ', S', l14.trans l, A, k⟩, fun r S' k v w' H'' l A rr => eo.rt r S' k v w' H'' (l1.trans (l14.trans l)) A rr, fun ρ' S' k w' σ'' H'' l A => eo.nx ρ' S' k w' σ'' H'' (l1.trans (l14.trans l)) A,
        fun ρ' S' k w' σ'' H'' l A => ⟨w', ρ', S', l14.trans l, A, k⟩, fun x ρ' S' k w' σ'' H'' cls dd l A r => eo.ex x ρ' S' k w' σ'' H'' cls dd (l1.trans (l14.trans l)) A r, fun ds S' k a vs w' H'' l => eo.rl ds S' k a vs w' H'' (l1.trans (l14.trans l))⟩, q5⟩
    · have e : i = ds.length := by omega
      subst e
      rw [List.drop_length] at q2
      exact .inl ⟨G.stop w2 ρ2 S2 σ' H' l2 A2, eo.nx ρ2 S2 q2 w2 σ' H' (l1.trans l2) A2⟩, q⟩
end
end R3

namespace R3
open PySem PySem.Spec PyProof.Rows L2

def Wd.hold (w : Wd) (p : Addr) (o : HO) : Wd := { w with F := upd w.F p o }
section
variable {g : Sg} {w : Wd} {ρ : List Sl} {S : Store} {σ : L2.St} {H : Hp}
theorem sub_hold {p : Addr} {o : HO} : Sub w (w.hold p o) := ⟨fun _ _ z => z, fun _ _ => rfl, Nat.le_refl _⟩
theorem sub_drop {p : Addr} : Sub w (w.drop p) := ⟨fun _ _ z => z, fun _ _ => rfl, Nat.le_refl _⟩
theorem At.hold {p : Addr} {o : HO} (A : At g w ρ S σ H) (hp : H p = some o) (f : Fresh w ρ S σ p) : At g (w.hold p o) ρ S σ H := by
  refine ⟨fun b u e => ?_, fun b u e => ?_, A.len, fun k ok h => ?_, A.inj, A.sl, fun i d h => ?_, fun i oi h => ?_, fun i h => (A.xc i h).mono sub_hold rfl⟩
  · have ne : b ≠ p := fun z => by
      have := A.if_ b u e
      rw [z, f.f] at this
      cases this
    show upd w.F p o b = some u
    rw [upd_ne ne]
    exact A.if_ b u e
  · have e' : upd w.F p o b = some u := e
    by_cases hb : b = p
    · subst hb; rw [upd_same] at e'; exact hp.trans e'
    · rw [upd_ne hb] at e'; exact A.fh b u e'
  · obtain ⟨h1, h2⟩ := A.st k ok h
    refine ⟨?_, h2.mono sub_hold rfl⟩
    show upd w.F p o (w.φ k) = none
    rw [upd_ne (f.s k ok h)]
    exact h1
  · obtain ⟨v, h1, h2⟩ := A.val i d h
    exact ⟨v, h1, h2.mono sub_hold⟩
  · obtain ⟨a, h1, h2, h3, h4, h5⟩ := A.own i oi h
    refine ⟨a, h1, ?_, h3.mono sub_hold rfl, h4, h5⟩
    show upd w.F p o a = none
    rw [upd_ne fun z => f.o i oi h (by rw [h1, z])]
    exact h2
/-- .. and let go -/
theorem At.letgo {p : Addr} {o : HO} {w' : Wd} {S' : Store} {ρ' : List Sl} {σ' : L2.St} {H' : Hp} (hI : w.I p = none) (hF : w.F p = none) (l : Le (w.hold p o) w') (A : At g w' ρ' S' σ' H') :
    Le w (w'.drop p) ∧ At g (w'.drop p) ρ' S' σ' H' ∧ H' p = some o ∧ Fresh (w'.drop p) ρ' S' σ' p := by
  have hp : w'.F p = some o := l.f p o upd_same
  have hi : w'.I p = none := l.new p hI (by show upd w.F p o p ≠ none; rw [upd_same]; exact fun z => nomatch z)
  have dp : (w'.drop p).F p = none := if_pos rfl
  have dn : ∀ b, b ≠ p → (w'.drop p).F b = w'.F b := fun b h => if_neg h
  refine ⟨⟨⟨l.s.i, l.s.p, l.s.n⟩, fun b u e => ?_, fun b h1 h2 => ?_⟩, ⟨fun b u e => ?_, fun b u e => ?_, A.len, fun k ok h => ?_, A.inj, A.sl, fun i d h => ?_, fun i oi h => ?_, fun i h => (A.xc i h).mono sub_drop rfl⟩, A.fh p o hp, ⟨dp, fun k ok h z => ?_, fun i oi h z => ?_⟩⟩
  · have ne : b ≠ p := fun z => by rw [z, hF] at e; cases e
    rw [dn b ne]
    refine l.f b u ?_
    show upd w.F p o b = some u
    rw [upd_ne ne]; exact e
  · refine l.new b h1 ?_
    show upd w.F p o b ≠ none
    have ne : b ≠ p := fun z => h2 (by rw [z]; exact hF)
    rw [upd_ne ne]; exact h2
  · have ne : b ≠ p := fun z => by
      have e' : w'.I b = some u := e
      rw [z, hi] at e'; cases e'
    rw [dn b ne]
    exact A.if_ b u e
  · have ne : b ≠ p := fun z => by rw [z, dp] at e; cases e
    rw [dn b ne] at e
    exact A.fh b u e
  · obtain ⟨h1, h2⟩ := A.st k ok h
    refine ⟨?_, h2.mono sub_drop rfl⟩
    by_cases c : w'.φ k = p
    · show (w'.drop p).F (w'.φ k) = none
      rw [c]; exact dp
    · show (w'.drop p).F (w'.φ k) = none
      rw [dn _ c]; exact h1
  · obtain ⟨v, h1, h2⟩ := A.val i d h
    exact ⟨v, h1, h2.mono sub_drop⟩
  · obtain ⟨a, h1, h2, h3, h4, h5⟩ := A.own i oi h
    refine ⟨a, h1, ?_, h3.mono sub_drop rfl, h4, h5⟩
    by_cases c : a = p
    · rw [c]; exact dp
    · rw [dn _ c]; exact h2
  · have := (A.st k ok h).1
    rw [show w'.φ k = p from z, hp] at this
    cases this
  · obtain ⟨a, h1, h2, _⟩ := A.own i oi h
    rw [z] at h1
    cases h1
    rw [hp] at h2
    cases h2
/-- the slots of a block's own names forgotten -/
def wipeE (ρ : List Sl) : List Nat → List Sl
  | [] => ρ
  | v :: vs => Env.put (wipeE ρ vs) v .no
theorem At.wipe1 {i : Nat} (A : At g w ρ S σ H) : At g w (Env.put ρ i .no) S (σ.set i none) H := by
  have back : ∀ j x, Env.at (Env.put ρ i .no) j = x → x ≠ .no → j ≠ i ∧ Env.at ρ j = x := fun j x h hx => by
    rw [Env.at_put] at h
    by_cases c : j = i ∧ i < ρ.length
    · rw [if_pos c] at h; exact absurd h.symm hx
    · rw [if_neg c] at h
      refine ⟨fun e => ?_, h⟩
      subst e
      have hl : ¬ j < ρ.length := fun z => c ⟨rfl, z⟩
      rw [Env.at_get, List.getElem?_eq_none (by omega)] at h
      exact hx h.symm
  refine ⟨A.if_, A.fh, A.len, A.st, A.inj, by rw [List.length_set, Env.len_put]; exact A.sl, fun j d h => ?_, fun j o h => ?_, xc_put (fun z => nomatch z) A.sl A.xc⟩
  · obtain ⟨ne, h⟩ := back j _ h (fun z => nomatch z)
    obtain ⟨v, h1, h2⟩ := A.val j d h
    exact ⟨v, by rw [List.getElem?_set_ne (Ne.symm ne)]; exact h1, h2⟩
  · obtain ⟨ne, h⟩ := back j _ h (fun z => nomatch z)
    obtain ⟨a, h1, h2, h3, h4, h5⟩ := A.own j o h
    refine ⟨a, by rw [List.getElem?_set_ne (Ne.symm ne)]; exact h1, h2, h3, h4, fun k ok hk hs => ?_⟩
    obtain ⟨ne2, hk⟩ := back k _ hk (fun z => nomatch z)
    rw [List.getElem?_set_ne (Ne.symm ne2)] at hs
    exact h5 k ok hk hs
theorem At.wiped (A : At g w ρ S σ H) : ∀ vs : List Nat, At g w (wipeE ρ vs) S (wipe σ vs) H
  | [] => A
  | v :: vs => (A.wiped vs).wipe1
/-- the same heap and world, other slots -/
theorem At.unwipe {w' : Wd} {S' : Store} {H' : Hp} {ρ2 : List Sl} {σ2 : L2.St} (A : At g w ρ S σ H) (l : Le w w') (B : At g w' ρ2 S' σ2 H') (hown : ∀ i o, Env.at ρ i = .own o → Env.at ρ2 i = .own o ∧ σ2[i]? = σ[i]?) : At g w' ρ S' σ H' := by
  refine ⟨B.if_, B.fh, B.len, B.st, B.inj, A.sl, fun i d h => ?_, fun i o h => ?_, fun i h => (A.xc i h).mono l.s rfl⟩
  · obtain ⟨v, h1, h2⟩ := A.val i d h
    exact ⟨v, h1, h2.mono l.s⟩
  · obtain ⟨e1, e2⟩ := hown i o h
    obtain ⟨a, h1, h2, h3, h4, h5⟩ := B.own i o e1
    refine ⟨a, by rw [← e2]; exact h1, h2, h3, h4, fun j oj hj hs => ?_⟩
    obtain ⟨e3, e4⟩ := hown j oj hj
    exact h5 j oj e3 (by rw [e4]; exact hs)
end
theorem wipe_get {σ : L2.St} {i : Nat} : ∀ {vs : List Nat}, i ∉ vs → (wipe σ vs)[i]? = σ[i]?
  | [], _ => rfl
  | v :: vs, h => by
    unfold wipe
    rw [List.getElem?_set_ne fun e => h (by rw [e]; exact List.mem_cons_self ..)]
    exact wipe_get fun z => h (List.mem_cons_of_mem _ z)
theorem wipe_in {σ : L2.St} {i : Nat} : ∀ {vs : List Nat}, i ∈ vs → i < σ.length → (wipe σ vs)[i]? = some none
  | [], h, _ => by cases h
  | v :: vs, h, hl => by
    unfold wipe
    by_cases e : v = i
    · subst e
      rw [List.getElem?_set_self (by rw [wipe_length]; exact hl)]
    · rw [List.getElem?_set_ne e]
      rcases List.mem_cons.mp h with z | z
      · exact absurd z.symm e
      · exact wipe_in z hl
theorem wipe_only {σ σ' : L2.St} {vs : List Nat} (o : Only vs (wipe σ vs) σ') : wipe σ' vs = wipe σ vs := by
  have hl : σ'.length = σ.length := by rw [o.len, wipe_length]
  refine List.ext_getElem? fun i => ?_
  by_cases c : i ∈ vs
  · by_cases hi : i < σ.length
    · rw [wipe_in c (by rw [hl]; exact hi), wipe_in c hi]
    · rw [List.getElem?_eq_none (by rw [wipe_length, hl]; omega), List.getElem?_eq_none (by rw [wipe_length]; omega)]
  · rw [wipe_get c, o.out i c]
theorem wipeE_out {ρ : List Sl} {i : Nat} : ∀ {vs : List Nat}, i ∉ vs → Env.at (wipeE ρ vs) i = Env.at ρ i
  | [], _ => rfl
  | v :: vs, h => by
    unfold wipeE
    rw [Env.at_put, if_neg fun z => h (by rw [z.1]; exact List.mem_cons_self ..)]
    exact wipeE_out fun z => h (List.mem_cons_of_mem _ z)
/-- no own object in these slots -/
def noOwn (ρ : List Sl) : List Nat → Bool
  | [] => true
  | v :: vs => (match Env.at ρ v with | .own _ => false | _ => true) && noOwn ρ vs
theorem noOwn_at {ρ : List Sl} {i : Nat} {o : SO} : ∀ {vs : List Nat}, noOwn ρ vs = true → Env.at ρ i = .own o → i ∉ vs
  | [], _, _ => by simp
  | v :: vs, h, e => by
    unfold noOwn at h
    rw [Bool.and_eq_true] at h
    simp only [List.mem_cons, not_or]
    refine ⟨fun z => ?_, noOwn_at h.2 e⟩
    subst z
    rw [e] at h
    exact absurd h.1 (by simp)

section
variable {g : Sg} {X : Cx} {W : WX} {elt e tg iter : Expr} {pos : Pos} {fg : FG} {fi : FI} {fe : FE} {ft : FT} {vs : List Nat} {st : Stmt}
def noX : KX := fun _ _ => False
theorem xo0 {σ : L2.St} {ρ : List Sl} {w : Wd} : XOk g W0 σ ρ w noX := fun _ _ z => z.elim
def lcL (fg : FG) (ft : FT) (fe : FE) (ρ : List Sl) (K : List D → Store → Prop) : List D → List D → Store → Prop
  | [], acc, S => K acc S
  | x :: r, acc, S => fg x ρ (fun ρ2 => ft ρ2 S (fun b S1 => Br b (fe ρ2 S1 (fun y S2 => Small (acc.length + 1) ∧ lcL fg ft fe ρ K r (acc ++ [y]) S2) noX) (lcL fg ft fe ρ K r acc S1)) noX)
/-- the target changes only slots of the block's own; own objects stay -/
def Tame (vs : List Nat) (fg : FG) : Prop := ∀ d ρ K, fg d ρ K → fg d ρ (fun ρ2 => K ρ2 ∧ ∀ i, i ∉ vs → Env.at ρ2 i = Env.at ρ i)
def wLc (fi : FI) (fg : FG) (ft : FT) (fe : FE) (vs : List Nat) (ρ : List Sl) (S : Store) (K : List D → Store → Prop) (ex : KX) : Prop := noOwn ρ vs = true ∧ fi ρ S (fun ds S' => lcL fg ft fe (wipeE ρ vs) K ds [] S') ex
def wYes (_ : List Sl) (S : Store) (K : Bool → Store → Prop) (_ : KX) : Prop := K true S
theorem elc_imp (tame : Tame vs fg) {σ : L2.St} {H : Hp} {Q : VK} (h : rdL g W (wLc fi fg ft fe vs) σ H Q) : tLc (rdI g W fi) (rdG g vs fg) (rdT g W0 ft) (rdE g W0 fe) vs σ H Q := by
  obtain ⟨w, ρ, S, K, ex, A, xo, ko, no, q⟩ := h
  refine ⟨w, ρ, S, _, ex, A, xo, fun ds S1 q1 J w1 H1 l1 A1 G => ?_, q⟩
  intro D0 hD
  have fr0 := fresh_new A1 hD
  have hI1 : w1.I D0 = none := A1.freeI fr0.f
  -- the state between turns: the list at D0 stands apart
  let Pv : Nat → Hp → Prop := fun i H' => ∃ w' S' acc vacc, Le w1 w' ∧ At g w' ρ S' σ H' ∧ H' D0 = some (.lst vacc) ∧ Fresh w' ρ S' σ D0 ∧ Reps g w' vacc acc ∧ lcL fg ft fe (wipeE ρ vs) K (ds.drop i) acc S'
  refine ⟨fun i m H' => m = ds.length - i ∧ i ≤ ds.length ∧ Pv i H', ⟨ds.length, by simp, Nat.zero_le _, w1, S1, [], [], Le.refl _, A1.grow (same_new hD), upd_same, fr0, .nil, q1⟩, ?_⟩
  rintro i m H2 ⟨rfl, hi, w2, S2, acc, vacc, l2, A2, eD, fr2, racc, q2⟩
  by_cases hlt : i < ds.length
  · have hd : ds[i]? = some ds[i] := by simp [hlt]
    rw [drop_cons hd] at q2
    refine .inr ⟨G.go i w2 ρ S2 σ H2 hlt l2 A2, Pv (i + 1), fun H' p => ⟨_, by omega, rfl, hlt, p⟩, fun x H3 y => ?_⟩
    obtain ⟨w3, l3, A3, r3, s3, nf3⟩ := G.yld i w2 ρ S2 σ H2 x H3 _ hd l2 A2 y
    have eD3 : H3 D0 = some (.lst vacc) := s3 _ _ eD
    have fr3 : Fresh w3 ρ S2 σ D0 := ⟨nf3 D0 fr2.f (by rw [eD]; exact fun z => nomatch z), fun k ok h z => by
      have k1 := (A2.st k ok h).2
      have hk : k < w2.n := by rw [← A2.len]; exact (List.getElem?_eq_some_iff.mp h).1
      rw [l3.s.p k hk] at z
      exact fr2.s k ok h z, fr2.o⟩
    have hI3 : w3.I D0 = none := A3.freeI fr3.f
    have Ah := (A3.hold eD3 fr3).wiped vs
    refine ⟨w3.hold D0 (.lst vacc), wipeE ρ vs, S2, _, _, Ah, r3.mono sub_hold, fun ρ4 q4 σ4 A4 o4 => ?_, tame _ _ _ q2⟩
    obtain ⟨q4, ou⟩ := q4
    have hown : ∀ j o, Env.at ρ j = .own o → Env.at ρ4 j = .own o ∧ σ4[j]? = σ[j]? := fun j o hj => by
      have nv := noOwn_at no hj
      exact ⟨by rw [ou j nv, wipeE_out nv]; exact hj, by rw [o4.out j nv, wipe_get nv]⟩
    refine ⟨wipe_only o4, w3.hold D0 (.lst vacc), ρ4, S2, _, noX, A4, xo0, fun b S5 q5 w5 H5 l5 A5 => ?_, q4⟩
    have back : ∀ {w6 S6 H6}, Le (w3.hold D0 (.lst vacc)) w6 → At g w6 ρ4 S6 σ4 H6 → Le w1 (w6.drop D0) ∧ At g (w6.drop D0) ρ S6 σ H6 ∧ H6 D0 = some (.lst vacc) ∧ Fresh (w6.drop D0) ρ S6 σ D0 := fun {w6 S6 H6} l6 A6 => by
      have Bu : At g w6 ρ S6 σ H6 := (A3.hold eD3 fr3).unwipe l6 A6 hown
      obtain ⟨z1, z2, z3, z4⟩ := At.letgo hI3 fr3.f l6 Bu
      exact ⟨(l2.trans l3).trans z1, z2, z3, z4⟩
    cases b with
    | true =>
      dsimp only
      rw [if_pos rfl]
      refine ⟨w5, ρ4, S5, _, noX, A5, xo0, fun y S6 q6 vy w6 H6 l6 A6 r6 => ?_, q5⟩
      obtain ⟨z1, z2, z3, z4⟩ := back (l5.trans l6) A6
      refine ⟨vacc, z3, by rw [racc.length]; exact q6.1.lt, w6.drop D0, S6, acc ++ [y], vacc ++ [vy], z1, ?_, upd_same, z4, ?_, q6.2⟩
      · -- the list at D0 grows: nothing of the world leans on it
        refine ⟨z2.if_, fun b u e => ?_, z2.len, fun k ok h => ?_, z2.inj, z2.sl, z2.val, fun j oj hj => ?_, z2.xc⟩
        · rw [upd_ne fun z => by rw [z, z4.f] at e; cases e]
          exact z2.fh b u e
        · obtain ⟨h1, h2⟩ := z2.st k ok h
          exact ⟨h1, h2.mono (Sub.refl _) (upd_ne (z4.s k ok h))⟩
        · obtain ⟨a, h1, h2, h3, h4, h5⟩ := z2.own j oj hj
          exact ⟨a, h1, h2, h3.mono (Sub.refl _) (upd_ne fun z => z4.o j oj hj (by rw [h1, z])), h4, h5⟩
      · have s36 : Sub w2 (w6.drop D0) := ((l3.s.trans sub_hold).trans (l5.trans l6).s).trans sub_drop
        exact (racc.mono s36).app (.one (r6.mono sub_drop))
    | false =>
      dsimp only
      rw [if_neg Bool.false_ne_true]
      obtain ⟨z1, z2, z3, z4⟩ := back l5 A5
      exact ⟨w5.drop D0, S5, acc, vacc, z1, z2, z3, z4, racc.mono (((l3.s.trans sub_hold).trans l5.s).trans sub_drop), q5⟩
  · have e : i = ds.length := by omega
    subst e
    rw [List.drop_length] at q2
    exact .inl ⟨G.stop w2 ρ S2 σ H2 l2 A2, ko acc S2 q2 D0 vacc w2 H2 (l1.trans l2) A2 eD fr2 racc⟩
theorem elc (tame : Tame vs fg) (h : PE X e (tLc (rdI g W fi) (rdG g vs fg) (rdT g W0 ft) (rdE g W0 fe) vs)) : EL g X W e (wLc fi fg ft fe vs) := PE.imp h fun σ H Q q => elc_imp tame q
theorem slcV {i : Nat} (tame : Tame vs fg) (h : PS X st (tAsg (tLc (rdI g W fi) (rdG g vs fg) (rdT g W0 ft) (rdE g W0 fe) vs) (gName i))) : ES g X W st (wSet i (wVal (wLc fi fg ft fe vs))) :=
  PS.imp h fun D σ H ⟨w, ρ, S, d, A, eo, q⟩ => elc_imp tame ⟨w, ρ, S, _, _, A, eo.xo, fun ds S1 q1 a vs w1 H1 l1 A1 e1 f1 r1 => by
    obtain ⟨z1, z2, z3⟩ := A1.settle e1 f1 r1
    exact eo.nx _ S1 q1 _ _ H1 (l1.trans z1) (z2.put z3), q⟩
theorem tame_nm {i : Nat} : Tame [i] (gNm i) := fun d ρ K q => ⟨q, fun j hj => by
  rw [Env.at_put, if_neg fun z => hj (by rw [z.1]; exact List.mem_cons_self ..)]⟩
theorem yes_pt {X : Cx} : PTs X [] (rdT g W0 wYes) := ⟨fun pins s σ H Q I h => by
  obtain ⟨w, ρ, S, K, ex, A, xo, ko, q⟩ := h
  exact (pts_nil (X := X)).run pins s σ H Q I (ko true S q w H (Le.refl w) A)⟩
end
end R3

namespace R3
open PySem PySem.Spec PyProof.Rows L2

section
variable {g : Sg} {X : Cx} {W : WX} {a b e o : Expr} {pos apos : Pos} {fa fb fe fo : FE} {es : List Expr} {fr : FA} {st : Stmt}
end
section
variable {P : Program} {w : World} {mg : Str → Option Value} {base : Heap} {g : Sg} {x qual : Str} {params : Arguments} {body : List Stmt} {scope : Scope} {dvs : List V} {kws : List (Str × V)} {f : Addr} {fd : FuncData}
end
end R3

namespace R3
open PySem PySem.Spec PyProof.Rows L2
section
variable {g : Sg} {X : Cx} {W : WX} {a b e o : Expr} {pos apos : Pos} {fa fb fe fo : FE} {es : List Expr} {fr : FA} {st : Stmt}
theorem tyX_of {w : Wd} {ρ : List Sl} {S : Store} {σ : L2.St} {H : Hp} {v : V} {d : D} {t : Value} (A : At g w ρ S σ H) (r : Rep g w v d) (ht : tyD g d = some t) (hc : ∀ c ds, d = .obj c ds → ClsI g.K (g.ad c)) : TyX g.K H v t := by
  cases r with
  | non => cases ht; exact .base .non
  | bl b => cases ht; exact .base (.bl b)
  | int i => cases ht; exact .base (.int i)
  | str x => cases ht; exact .base (.str x)
  | ty n => cases ht
  | tup h r => cases ht; exact tyX_tup (A.t h)
  | lst h r => cases ht; exact .base (.lst (A.ih _ _ h))
  | scr h => cases ht; exact tyX_lst (A.l h)
  | obj h hl r =>
    cases ht
    obtain ⟨k1, k2, k3, k4, k5⟩ := hc _ _ rfl
    exact .base (.ins (A.ih _ _ h) k1 k2 k3 k4 k5)
  | ref h => cases ht
  | dic h => cases ht; exact .base (.dK (A.ih _ _ h))
  | cls c => cases ht
  | err h hd hl r => cases ht
mutual
theorem dp_of {w : Wd} {ρ : List Sl} {S : Store} {σ : L2.St} {H : Hp} (A : At g w ρ S σ H) : ∀ {v : V} {d : D} {p : PyData}, Rep g w v d → toPy d = some p → Dp g.K H v p
  | _, _, _, .non, h => by cases h; exact .non
  | _, _, _, .bl b, h => by cases h; exact .bl b
  | _, _, _, .int b, h => by cases h; exact .int b
  | _, _, _, .str b, h => by cases h; exact .str b
  | _, _, _, .ty b, h => by cases h
  | _, _, _, .tup (ds := ds) hh r, h => by
    unfold toPy at h
    cases e : toPys ds with
    | none => rw [e] at h; cases h
    | some ps => rw [e] at h; cases h; exact .tup (A.t hh) (dps_of A r e)
  | _, _, _, .lst (ds := ds) hh r, h => by
    unfold toPy at h
    cases e : toPys ds with
    | none => rw [e] at h; cases h
    | some ps => rw [e] at h; cases h; exact .lst (SqL.of (A.ih _ _ hh)) (dps_of A r e)
  | _, _, _, .scr _, h => by cases h
  | _, _, _, .obj _ _ _, h => by cases h
  | _, _, _, .ref _, h => by cases h
theorem dps_of {w : Wd} {ρ : List Sl} {S : Store} {σ : L2.St} {H : Hp} (A : At g w ρ S σ H) : ∀ {vs : List V} {ds : List D} {ps : List PyData}, Reps g w vs ds → toPys ds = some ps → DpAll g.K H vs ps
  | _, _, _, .nil, h => by cases h; exact .nil
  | _, _, _, .cons (d := d) (ds := ds) hh r, h => by
    unfold toPys at h
    cases e1 : toPy d with
    | none => rw [e1] at h; cases h
    | some x =>
      cases e2 : toPys ds with
      | none => rw [e1, e2] at h; cases h
      | some xs => rw [e1, e2] at h; cases h; exact .cons (dp_of A hh e1) (dps_of A r e2)
end
def rEqDD (neg : Bool) (x y : D) (S : Store) (K : KD) : Prop := ∃ p q, toPy x = some p ∧ toPy y = some q ∧ SeqAt.shaped p = true ∧ SeqAt.shaped q = true ∧ K (.bl (if neg then !PyData.eqv p q else PyData.eqv p q)) S
theorem deq (hK : g.K = X.K) (hu : X.A.units + 64 < cLine) : OpD g X (compareOp .Eq) (rEqDD false) := OpD.of (op_eqD hu) fun σ H w ρ S x y vx vy K Q A rx ry ko ⟨p, q, h1, h2, h3, h4, q5⟩ =>
  ⟨p, q, by rw [← hK]; exact dp_of A rx h1, by rw [← hK]; exact dp_of A ry h2, h3, h4, ko _ S q5 _ w H (Le.refl w) A (.bl _)⟩
theorem dne (hK : g.K = X.K) (hu : X.A.units + 64 < cLine) : OpD g X (compareOp .NotEq) (rEqDD true) := OpD.of (op_neD hu) fun σ H w ρ S x y vx vy K Q A rx ry ko ⟨p, q, h1, h2, h3, h4, q5⟩ =>
  ⟨p, q, by rw [← hK]; exact dp_of A rx h1, by rw [← hK]; exact dp_of A ry h2, h3, h4, ko _ S q5 _ w H (Le.refl w) A (.bl _)⟩

abbrev FO := List Sl → Store → (Option Int → Store → Prop) → KX → Prop
def rdO (g : Sg) (W : WX) (f : FO) : TO := fun σ H Q => ∃ w ρ S K ex, At g w ρ S σ H ∧ XOk g W σ ρ w ex ∧ (∀ o S', K o S' → ∀ w' H', Le w w' → At g w' ρ S' σ H' → Q o H') ∧ f ρ S K ex
abbrev EO (g : Sg) (X : Cx) (W : WX) (e : Option Expr) (f : FO) : Prop := PO X e (rdO g W f)
def wPrt (f : FE) (ρ : List Sl) (S : Store) (K : Option Int → Store → Prop) (ex : KX) : Prop := f ρ S (fun x S1 => match x with | .int i => K (some i) S1 | _ => False) ex
theorem osome (h : EV g X W e fe) : EO g X W (some e) (wPrt fe) := PO.imp (po_some h) fun σ H Q ⟨w, ρ, S, K, ex, A, xo, ko, q⟩ => ⟨w, ρ, S, _, ex, A, xo, fun x S1 q1 v w1 H1 l1 A1 r1 => by
  cases x with
  | int i => exact ⟨i, rep_int r1, ko _ S1 q1 w1 H1 l1 A1⟩
  | _ => exact q1.elim, q⟩
def cutD (xs : List D) (lo hi : Option Int) : List D := (xs.drop (HT.sIx xs.length 0 lo)).take (HT.sIx xs.length xs.length hi - HT.sIx xs.length 0 lo)
theorem Reps.cut {w : Wd} {vs : List V} {ds : List D} (r : Reps g w vs ds) (lo hi : Option Int) : Reps g w (cutV vs lo hi) (cutD ds lo hi) := by
  unfold cutV cutD
  rw [r.length]
  exact (r.drop _).take _
def wSlL (f : FE) (fl fh : FO) (ρ : List Sl) (S : Store) (K : List D → Store → Prop) (ex : KX) : Prop := f ρ S (fun x S1 => fl ρ S1 (fun lo S2 => fh ρ S2 (fun hi S3 => match x with
  | .lst ds => K (cutD ds lo hi) S3
  | .scr ns => K (cutD (ns.map D.int) lo hi) S3
  | _ => False) ex) ex) ex
theorem esll {lo hi : Option Expr} {fl fh : FO} {p2 : Pos} (hK : g.K = X.K) (he : EV g X W e fe) (hl : EO g X W lo fl) (hh : EO g X W hi fh) : EL g X W (.Subscript e (.Slice lo hi none p2) pos) (wSlL fe fl fh) :=
  PE.imp (pe_slice sl_list he hl hh) fun σ H Q ⟨w, ρ, S, K, ex, A, xo, ko, q⟩ => ⟨w, ρ, S, _, ex, A, xo, fun x S1 q1 v w1 H1 l1 A1 r1 => ⟨w1, ρ, S1, _, ex, A1, xo.later l1, fun lo S2 q2 w2 H2 l2 A2 => ⟨w2, ρ, S2, _, ex, A2, xo.later (l1.trans l2), fun hi S3 q3 w3 H3 l3 A3 => by
    have l13 := l1.trans (l2.trans l3)
    have r3 := r1.mono (l2.trans l3).s
    split at q3
    · cases r3 with
      | lst hh rr => exact ⟨_, _, rfl, SqL.of (A3.ih _ _ hh), fun p hp => ko _ S3 q3 p _ w3 _ l13 (A3.grow (same_new hp)) upd_same (fresh_new A3 hp) (rr.cut lo hi)⟩
    · cases r3 with
      | scr hh => exact ⟨_, _, rfl, by rw [← hK]; exact A3.l hh, fun p hp => ko _ S3 q3 p _ w3 _ l13 (A3.grow (same_new hp)) upd_same (fresh_new A3 hp) ((Reps.ints _).cut lo hi)⟩
    · exact q3.elim, q2⟩, q1⟩, q⟩
def wCat (f h : FE) (ρ : List Sl) (S : Store) (K : List D → Store → Prop) (ex : KX) : Prop := f ρ S (fun x S1 => h ρ S1 (fun y S2 => match x, y with
  | .lst xs, .lst ys => Small (xs.length + ys.length) ∧ K (xs ++ ys) S2
  | _, _ => False) ex) ex
theorem ecat (ha : EV g X W a fa) (hb : EV g X W b fb) : EL g X W (.BinOp a .Add b pos) (wCat fa fb) :=
  PE.imp (pe_op op_cat ha hb) fun σ H Q ⟨w, ρ, S, K, ex, A, xo, ko, q⟩ => ⟨w, ρ, S, _, ex, A, xo, fun x S1 q1 v w1 H1 l1 A1 r1 => ⟨w1, ρ, S1, _, ex, A1, xo.later l1, fun y S2 q2 u w2 H2 l2 A2 r2 => by
    have r1' := r1.mono l2.s
    split at q2
    · cases r1' with
      | lst h1 rr1 =>
        cases r2 with
        | lst h2 rr2 => exact ⟨_, _, _, _, rfl, rfl, A2.ih _ _ h1, A2.ih _ _ h2, by rw [rr1.length, rr2.length]; exact q2.1.line, fun p hp => ko _ S2 q2.2 p _ w2 _ (l1.trans l2) (A2.grow (same_new hp)) upd_same (fresh_new A2 hp) (rr1.app rr2)⟩
    · exact q2.elim, q1⟩, q⟩
end
end R3

namespace R3
open PySem PySem.Spec PyProof.Rows L2

theorem spOfL_len {g : Sg} {n : Nat} {C : CtL} {vs : List V} {H : Hp} {Q : VK} {E : XK} (h : spOfL g n C vs H Q E) : vs.length = n := by
  obtain ⟨w, ds, S, K, ex, hn, _, r, _⟩ := h
  rw [r.length, hn]
section
variable {g : Sg} {X : Cx} {W : WX} {a b c e o : Expr} {pos apos : Pos} {fa fb fe fo : FE} {es : List Expr} {fr : FA} {st : Stmt} {ft : FT}
theorem fresh_out {w w' : Wd} {ρ : List Sl} {S S' : Store} {σ : L2.St} {H : Hp} {p : Addr} (A : At g w ρ S σ H) (l : Le (w.inner S H) w') (f : Fresh w' [] S' [] p) : Fresh (w'.outer ρ σ) ρ S' σ p := by
  refine ⟨?_, f.s, fun i oi h hs => ?_⟩
  · cases q : (w'.outer ρ σ).F p with
    | none => rfl
    | some u =>
      have z := outer_some q
      rw [f.f] at z
      cases z
  · obtain ⟨b, h1, h2, h3, h4, _⟩ := A.own i oi h
    rw [hs] at h1
    cases h1
    obtain ⟨u, hu⟩ := h3.some
    have z := l.f p u ((strip_ne h4).trans hu)
    rw [f.f] at z
    cases z
theorem run_ctL {A0 : Around} {k n : Nat} {C : CtL} {fn : Addr} {pins : List (Addr × Obj)} {s : Shared} {σ : L2.St} {H : Hp} {w : Wd} {ρ : List Sl} {S : Store} {ds : List D} {vs : List V} {us : List Value} {K : List D → Store → Prop} {ex : KX} {Q : VK}
    (F : FnR X.prog X.w X.K X.mg X.base (CXK kn X.prog X.w) k fn (spOfL g n C)) (hr : Room k A0) (e0 : Env0 X.prog X.w X.K X.mg X.base A0 X.stack s H) (tk : TakesK kn X W) (I : Inv X pins σ H s) (rv : Vals vs us) (A : At g w ρ S σ H) (rr : Reps g w vs ds) (hn : ds.length = n)
    (xo : XOk g W σ ρ w ex) (ko : LOk g w ρ σ K Q) (q : C ds S K ex) :
    codeAny (model X.prog X.w) A0 (.call (.ref fn) ⟨us, []⟩) (fun r s' => match r with | .ok (.ret v) => EP X pins σ Q v s' | .ok _ => False | .error e => X.xe e s') s := by
  refine codeAny_mono (F A0 X.stack s H us vs Q (WE W σ) hr e0 rv ?_) fun r s' hq => ?_
  · refine ⟨w.inner S H, ds, S, K, ex, hn, A.enter, reps_inner rr, fun d S' k p ps w' H' l A' e1 f1 r' => ?_, fun x S' e w' H' cls dd l A' r' => ?_, q⟩
    · obtain ⟨l2, A2⟩ := A.leave l A'
      exact ko d S' k p ps _ H' l2 A2 e1 (fresh_out A l f1) (r'.mono sub_outer)
    · obtain ⟨l2, A2⟩ := A.leave l A'
      obtain ⟨h1, a, vs, h2, h3, h4, h5⟩ := r'
      exact xo x S' e _ H' cls dd l2 A2 ⟨h1, a, vs, h2, h3, h4, h5.mono sub_outer⟩
  · cases r with
    | error e => exact passAtK tk σ pins H s e s' I hq
    | ok fl =>
      cases fl with
      | ret u => exact I.after hq
      | next => exact False.elim hq
      | brk => exact False.elim hq
      | cont => exact False.elim hq
def wCallL (n : Nat) (C : CtL) (f : FA) (ρ : List Sl) (S : Store) (K : List D → Store → Prop) (ex : KX) : Prop := f ρ S (fun ds S1 => ds.length = n ∧ C ds S1 K ex) ex
theorem ecallL {x : Str} {k j n : Nat} {C : CtL} {p : Pos} (F : CalL (kn := kn) X.prog X.w X.mg X.base g k x n C) (hK : g.K = X.K) (hr : Room j X.A) (hk : k ≤ j) (tk : TakesK kn X W) (hg : Gl X x) (ha : EA g X W (e :: es) fr) (hdb : (x == ("__debug__" : Str)) = false := by decide)
    (he : starEach (e :: es) X.env = (false, eval e X.env) :: starEach es X.env := by rfl) (hpl : (backTo pos (starEach es X.env)).any (·.1) = false := by rfl) : EL g X W (.Call (.Name x p) (e :: es) [] pos) (wCallL n C fr) := by
  refine ⟨fun pins s σ H Q I h => ?_⟩
  obtain ⟨w, ρ, S, K, ex, A, xo, ko, q⟩ := h
  obtain ⟨fn, hm, kp, F⟩ := F.ex
  rw [hK] at kp F
  refine wpAny_Call_Name_kw (ld_glob I hg hm ?_ hdb)
  refine PySem.W.callWith_K (h₀ := X.base) I.ok.mod.kin kp (thn (rdA_run ha pos I A xo q) fun us s1 ⟨vs, H1, w1, ds, S1, I1, rv, l1, A1, r1, hn, q1⟩ => ⟨I1.kIn, ?_⟩) he hpl
  exact wpAny_call (run_ctL F (hr.mono hk) I1.env0 tk I1 rv A1 r1 hn (xo.later l1) (ko.later l1) q1)
def wRetL (f : FA) (d : Fin) (ρ : List Sl) (S : Store) : Prop := f ρ S d.rl (fun x S' => d.ex x ρ S')
theorem sretL (he : EL g X W e fr) : ES g X W (.Return (some e) pos) (wRetL fr) :=
  PS.imp (ps_ret he) fun D σ H ⟨w, ρ, S, d, A, eo, q⟩ => ⟨w, ρ, S, _, _, A, eo.xo, fun ds S' k a vs w' H' l A' e1 f1 r1 => eo.rl ds S' k a vs w' H' l A'.bare e1 ⟨f1.f, f1.s, fun i oi h => (by cases i <;> cases h)⟩ r1, q⟩
/-- x = a new list, an object of the store -/
def wJoin (i : Nat) (f : FA) (d : Fin) (ρ : List Sl) (S : Store) : Prop := f ρ S (fun ds S' => d.nx (Env.put ρ i (.val (.ref S'.length))) (S' ++ [some (.lst ds)])) (fun x S' => d.ex x ρ S')
theorem sjoin {i : Nat} {x : Str} {pos' : Pos} (hN : X.N.Nodup) (hi : X.N[i]? = some x) (hx : Loc X.env.scope x) (he : EL g X W e fr) (hs : swapsWith e (some (.Name x pos')) pos.line X.env = pure false := by rfl)
    (hf : X.fn x = true ∨ X.env.scope.names.lookup x = some .local := by first | exact .inl rfl | exact .inr rfl | assumption) : ES g X W (.Assign [.Name x pos'] e pos) (wJoin i fr) :=
  PS.imp (ps_set hN hi hx he hs hf) fun D σ H ⟨w, ρ, S, d, A, eo, q⟩ => ⟨w, ρ, S, _, _, A, eo.xo, fun ds S' k a vs w' H' l A' e1 f1 r1 => by
    obtain ⟨w2, l2, hφ, hn, A2⟩ := A'.join (o := .lst ds) ⟨vs, e1, r1⟩ f1
    have r : Rep g w2 (.ref (w2.φ S'.length)) (.ref S'.length) := .ref (by rw [hn]; exact Nat.lt_succ_self _)
    rw [hφ] at r
    exact eo.nx _ _ k w2 _ H' (l.trans l2) (A2.put r), q⟩
end
section
variable {P : Program} {w : World} {mg : Str → Option Value} {base : Heap} {g : Sg} {x qual : Str} {params : Arguments} {body : List Stmt} {scope : Scope} {dvs : List V} {kws : List (Str × V)} {f : Addr} {fd : FuncData}
theorem def_okL {N ps : List Str} {k : Nat} {C : CtL} {fs : FS} (F : FunD g.K x qual params body scope dvs kws f fd) (S : FnScope N ps scope)
    (hb : ∀ (cdv : Value) (A : Around) (outer : List PySem.Env) (s : Shared) (H : Hp) (E : XK), Room k (A.deeper (envOfC qual scope s.heap.objs.size f cdv)) → EB g (cxOf (CXK kn P w) P w g.K mg base N qual scope f cdv A outer s H E) (wD E) body fs)
    (hc : ∀ ds S K ex, ds.length = ps.length → C ds S K ex → fs { nx := fun _ _ => False, rt := fun _ _ => False, ex := fun x _ S' => ex x S', rl := K } (startD N.length ds) S) : FnOk P w g.K mg base (CXK kn P w) (k + 1) f fd ps (spOfL g ps.length C) := by
  refine FunD.ok F S (fun vs H Q E h => spOfL_len h) fun cdv A outer s H vs Q E hr h => ⟨_, hb cdv A outer s H E hr, ?_⟩
  obtain ⟨w0, ds, St, K, ex, hn, A0, r, ko, xo, q⟩ := h
  exact ⟨w0, _, St, _, A0.start r, ⟨fun _ _ z => False.elim z, fun _ _ z => False.elim z, fun _ _ z => False.elim z, fun _ _ z => False.elim z,
    fun x ρ' S' e w' σ' H' cls dd l A' r => xo x S' e w' H' cls dd l A'.bare r, fun es S' k a us w' H' l A' e1 f1 r1 => ko es S' k a us w' H' l A' e1 f1 r1⟩, hc ds St K ex hn q⟩
end

mutual
def nolst : D → Bool
  | .tup xs => nolsts xs
  | .obj _ xs => nolsts xs
  | .lst _ => false
  | .ref _ => false
  | .scr _ => false
  | .dic _ => false
  | .cls _ => false
  | .err _ _ => false
  | _ => true
def nolsts : List D → Bool
  | [] => true
  | d :: r => nolst d && nolsts r
end
section
open Classical
variable {g : Sg} {w : Wd} {ρ : List Sl} {S : Store} {σ : L2.St} {H : Hp}
theorem Lent.muta {a : Addr} (h : Lent w ρ S σ a) : Muta w ρ S σ a := by
  rcases h with ⟨i, ds, h1, h2⟩ | ⟨k, ds, h1, h2⟩
  · exact .inl ⟨i, _, h1, h2⟩
  · exact .inr ⟨k, _, h1, h2⟩
open Classical in
open Classical in
noncomputable def Wd.unflat (w w' : Wd) (ρ : List Sl) (S : Store) (σ : L2.St) : Wd := { w with I := fun a => if Lent w ρ S σ a then none else w'.I a, F := fun a => if Muta w ρ S σ a then none else w'.F a }
theorem At.unflat {w' : Wd} {ρ' : List Sl} {S' : Store} {σ' : L2.St} {H' : Hp} (A : At g w ρ S σ H) (l : Le (w.flat ρ S σ H) w') (B : At g w' ρ' S' σ' H') : Le w (w.unflat w' ρ S σ) ∧ At g (w.unflat w' ρ S σ) ρ S σ H' := by
  have notM : ∀ a u, w.F a = some u → ¬ Muta w ρ S σ a := fun a u h m => by
    have z := (m.free A).1
    rw [h] at z
    cases z
  have keep : ∀ a u, H a = some u → H' a = some u ∧ w'.F a = some u := fun a u h => ⟨B.fh a u (l.f a u h), l.f a u h⟩
  have sI : Same w.I (w.unflat w' ρ S σ).I := fun a u h => by
    have nl : ¬ Lent w ρ S σ a := fun z => notM a u (A.if_ a u h) z.muta
    show (if _ then _ else _) = _
    rw [if_neg nl]
    exact l.s.i a u ((flat_sub A).i a u h)
  have sub : Sub w (w.unflat w' ρ S σ) := ⟨sI, fun _ _ => rfl, Nat.le_refl _⟩
  refine ⟨⟨sub, fun a u h => ?_, fun b h1 h2 => ?_⟩, ⟨fun a u h => ?_, fun a u h => ?_, A.len, fun k o h => ⟨if_pos (.inr ⟨k, o, h, rfl⟩), ?_⟩, A.inj, A.sl, fun i d h => ?_, fun i o h => ?_, fun i h => (A.xc i h).mono sub rfl⟩⟩
  · show (if _ then _ else _) = _
    rw [if_neg (notM a u h)]
    exact (keep a u (A.fh a u h)).2
  · show (if _ then _ else _) = _
    split
    · rfl
    · rename_i nl
      refine l.new b ?_ ?_
      · show (if _ then _ else _) = _
        rw [if_neg nl]
        exact h1
      · show H b ≠ none
        cases e : w.F b with
        | none => exact absurd e h2
        | some u => rw [A.fh b u e]; exact fun z => nomatch z
  · have h' : (if Lent w ρ S σ a then none else w'.I a) = some u := h
    split at h'
    · cases h'
    · rename_i nl
      have nm : ¬ Muta w ρ S σ a := fun m => by
        obtain ⟨m1, u2, m2⟩ := m.free A
        have z := l.new a (by show (if _ then _ else _) = _; rw [if_neg nl]; exact A.freeI m1) (by show H a ≠ none; rw [m2]; exact fun z => nomatch z)
        rw [h'] at z
        cases z
      show (if _ then _ else _) = _
      rw [if_neg nm]
      exact B.if_ a u h'
  · have h' : (if Muta w ρ S σ a then none else w'.F a) = some u := h
    split at h'
    · cases h'
    · exact B.fh a u h'
  · obtain ⟨h1, h2⟩ := A.st k o h
    obtain ⟨u, hu⟩ := h2.some
    exact h2.mono sub ((keep _ u hu).1.trans hu.symm)
  · obtain ⟨v, h1, h2⟩ := A.val i d h
    exact ⟨v, h1, h2.mono sub⟩
  · obtain ⟨a, h1, h2, h3, h4, h5⟩ := A.own i o h
    obtain ⟨u, hu⟩ := h3.some
    exact ⟨a, h1, if_pos (.inl ⟨i, o, h, h1⟩), h3.mono sub ((keep _ u hu).1.trans hu.symm), h4, h5⟩
theorem lent_lst {w' : Wd} (A : At g w ρ S σ H) (l : Le (w.flat ρ S σ H) w') {a : Addr} (h : Lent w ρ S σ a) : ∃ vs, w'.I a = some (.lst vs) := by
  obtain ⟨vs, e⟩ := h.lst A
  exact ⟨vs, l.s.i a _ ((if_pos h).trans e)⟩
mutual
theorem Rep.unflat {w' : Wd} (A : At g w ρ S σ H) (l : Le (w.flat ρ S σ H) w') : ∀ {v : V} {d : D}, Rep g w' v d → nolst d = true → Rep g (w.unflat w' ρ S σ) v d
  | _, _, .non, _ => .non
  | _, _, .bl b, _ => .bl b
  | _, _, .int b, _ => .int b
  | _, _, .str b, _ => .str b
  | _, _, .ty b, _ => .ty b
  | _, _, .tup (a := a) h r, n => by
    refine .tup ?_ (Reps.unflat A l r n)
    have nl : ∀ o, w'.I a = some o → (∀ vs, o ≠ .lst vs) → (w.unflat w' ρ S σ).I a = some o := fun o e ne => by
      have z : ¬ Lent w ρ S σ a := fun z => by
        obtain ⟨vs, q⟩ := lent_lst A l z
        rw [e] at q
        cases q
        exact ne vs rfl
      exact (if_neg z).trans e
    rcases h with (h | ⟨o, h⟩) | h
    · exact .inl (.inl (nl _ h fun _ z => nomatch z))
    · exact .inl (.inr ⟨o, nl _ h fun _ z => nomatch z⟩)
    · exact .inr h
  | _, _, .lst _ _, n => by cases n
  | _, _, .scr _, n => by cases n
  | _, _, .obj (a := a) (dx := dx) h hl r, n => by
    refine .obj (dx := dx) ?_ hl (Reps.unflat A l r n)
    have z : ¬ Lent w ρ S σ a := fun z => by
      obtain ⟨vs, q⟩ := lent_lst A l z
      rw [h] at q
      cases q
    exact (if_neg z).trans h
  | _, _, .ref _, n => by cases n
  | _, _, .dic _, n => by cases n
  | _, _, .cls _, n => by cases n
  | _, _, .err _ _ _ _, n => by cases n
theorem Reps.unflat {w' : Wd} (A : At g w ρ S σ H) (l : Le (w.flat ρ S σ H) w') : ∀ {v : List V} {d : List D}, Reps g w' v d → nolsts d = true → Reps g (w.unflat w' ρ S σ) v d
  | _, _, .nil, _ => .nil
  | _, _, .cons h r, n => by
    have n' := Bool.and_eq_true_iff.mp n
    exact .cons (Rep.unflat A l h n'.1) (Reps.unflat A l r n'.2)
end
end
section
variable {g : Sg} {X : Cx} {W : WX} {e : Expr} {fe : FE} {ft : FT} {fr : FA}
end
end R3


namespace R3
open PySem PySem.Spec PyProof.Rows L2
theorem DefR.fun_ {K : Fr} {d : DefR} (e : seenAt K (d.ad K) = d.want) (c : d.good K = true) : ∃ fd, FunD K d.name d.qual d.params d.body d.scope d.dfl d.kws (d.ad K) fd := by
  have c' := Bool.and_eq_true_iff.mp c
  have c2 := c'.2
  unfold seenAt at e
  cases q : K.lookup (d.ad K) with
  | none =>
    rw [q] at c2
    cases c2
  | some ob =>
    cases ob with
    | mk oc od dt osl =>
      rw [q] at c2 e
      cases dt with
      | func f =>
        cases f with
        | mk n1 n2 n3 n4 n5 n6 n7 n8 n9 n10 n11 n12 n13 n14 n15 =>
          have e2 : (n1, n2, n3, n4, n5, n6, n7, n15) = (d.name, d.qual, d.params, FuncBody.stmts d.body, d.scope, mainGlobals, [], builtinsNs) := Option.some.inj e
          have c3 := Bool.and_eq_true_iff.mp (show (PySem.W.codeIn K n13 d.qual && (He.dflB K n8 d.dfl && He.kwdB K n9 d.kws)) = true from c2)
          have c4 := Bool.and_eq_true_iff.mp c3.2
          simp only [Prod.mk.injEq] at e2
          obtain ⟨g1, g2, g3, g4, g5, g6, g7, g8⟩ := e2
          subst g1 g2 g3 g4 g5 g6 g7 g8
          exact ⟨_, ⟨oc, od, n8, n9, n10, n11, n12, n13, n14, osl, rfl, q, c3.1, He.dflB_ok c4.1, He.kwdB_ok c4.2⟩, c'.1⟩
      | _ => cases c2
theorem Told.fact {fa : List (Fr → Bool)} {fn : List DefR} {K : Fr} (c : Told fa fn K) (i : Nat) {f : Fr → Bool} (h : fa[i]? = some f := by rfl) : f K = true :=
  List.all_eq_true.mp (Bool.and_eq_true_iff.mp (congrArg Prod.fst c : ((fa.all fun f => f K) && (fn.all fun d => d.good K)) = true)).1 f (List.mem_of_getElem? h)
theorem Told.fun_ {fa : List (Fr → Bool)} {fn : List DefR} {K : Fr} (c : Told fa fn K) (i : Nat) {d : DefR} (h : fn[i]? = some d := by rfl) : ∃ fd, FunD K d.name d.qual d.params d.body d.scope d.dfl d.kws (d.ad K) fd := by
  have c2 := (Bool.and_eq_true_iff.mp (congrArg Prod.fst c : ((fa.all fun f => f K) && (fn.all fun d => d.good K)) = true)).2
  have e : fn.map (fun d => seenAt K (d.ad K)) = fn.map DefR.want := congrArg Prod.snd c
  have e2 := congrArg (fun l : List Seen => l[i]?) e
  simp only [List.getElem?_map, h, Option.map_some] at e2
  exact DefR.fun_ (Option.some.inj e2) (List.all_eq_true.mp c2 d (List.mem_of_getElem? h))
def fIsi (x : Str) (K : Fr) : Bool := (He.Fa.cls x).ok K && (He.eqO (PySem.W.findIn K (.ref (He.ga K x)) "__class__") (some (some (.builtin "object.__class__"))) &&
  (He.eqO (PySem.W.specialIn K (.builtin "object.__class__") "__get__") (some (some (.builtin "getset_descriptor.__get__"))) && (decide (PySem.W.takesIn K (.builtin "object.__class__") = some true) && decide (PySem.W.mroIn K (He.ga K x) (.type "object") = some true))))
theorem fIsi_ok {x : Str} {K : Fr} (c : fIsi x K = true) : ClsI K (He.ga K x) := by
  unfold fIsi at c
  simp only [Bool.and_eq_true] at c
  obtain ⟨c1, c2, c3, c4, c5⟩ := c
  exact ⟨He.cls_ok c1, He.eqO_ok c2, He.eqO_ok c3, of_decide_eq_true c4, of_decide_eq_true c5⟩
end R3

namespace R3
open PySem PySem.Spec PyProof.Rows L2
section
variable {g : Sg} {X : Cx} {W : WX} {e e2 : Expr} {fa : FA}
end
end R3

namespace R3
open PySem PySem.Spec PyProof.Rows L2
mutual
theorem okN_py : ∀ (n : Nat) (d : D), okN n d = true → ∃ p, toPy d = some p ∧ p.canLay0 = true ∧ p.depth ≤ n
  | _, .non, _ => ⟨_, rfl, rfl, Nat.zero_le _⟩
  | _, .bl _, _ => ⟨_, rfl, rfl, Nat.zero_le _⟩
  | _, .int _, _ => ⟨_, rfl, rfl, Nat.zero_le _⟩
  | n, .str x, h => ⟨.str x, rfl, by cases n <;> exact h, Nat.zero_le _⟩
  | n + 1, .tup xs, h => by
    obtain ⟨ps, h1, h2, h3⟩ := okNs_py n xs h
    exact ⟨.tuple ps, by unfold toPy; rw [h1]; rfl, h2, Nat.succ_le_succ h3⟩
  | n + 1, .lst xs, h => by
    obtain ⟨ps, h1, h2, h3⟩ := okNs_py n xs h
    exact ⟨.list ps, by unfold toPy; rw [h1]; rfl, h2, Nat.succ_le_succ h3⟩
  | 0, .tup xs, h => by cases h
  | 0, .lst xs, h => by cases h
  | n, .ty _, h => by cases n <;> cases h
  | n, .obj _ _, h => by cases n <;> cases h
  | n, .ref _, h => by cases n <;> cases h
  | n, .scr _, h => by cases n <;> cases h
theorem okNs_py : ∀ (n : Nat) (ds : List D), okNs n ds = true → ∃ ps, toPys ds = some ps ∧ PyData.canLayAll0 ps = true ∧ PyData.depthAll ps ≤ n
  | _, [], _ => ⟨[], rfl, rfl, Nat.zero_le _⟩
  | n, d :: ds, h => by
    have h' := Bool.and_eq_true_iff.mp (show (okN n d && okNs n ds) = true by cases n <;> exact h)
    obtain ⟨p, h1, h2, h3⟩ := okN_py n d h'.1
    obtain ⟨ps, k1, k2, k3⟩ := okNs_py n ds h'.2
    exact ⟨p :: ps, by unfold toPys; rw [h1, k1], Bool.and_eq_true_iff.mpr ⟨h2, k2⟩, Nat.max_le.mpr ⟨h3, k3⟩⟩
end
theorem beq_dec {i j : Int} : (i == j) = decide (i = j) := by
  by_cases h : i = j
  · subst h; simp
  · simp [h]
mutual
theorem eqv_eqD : ∀ (x y : D) (p q : PyData), toPy x = some p → toPy y = some q → PyData.eqv p q = eqD x y
  | .non, y, p, q, h, k => by cases h; cases y <;> simp [toPy] at k <;> (first | subst k | (obtain ⟨qs, k1, k⟩ := k; subst k)) <;> rfl
  | .bl a, y, p, q, h, k => by
    cases h; cases y <;> simp [toPy] at k <;> (first | subst k | (obtain ⟨qs, k1, k⟩ := k; subst k)) <;> first | rfl | (unfold PyData.eqv eqD; exact beq_dec)
  | .int a, y, p, q, h, k => by
    cases h; cases y <;> simp [toPy] at k <;> (first | subst k | (obtain ⟨qs, k1, k⟩ := k; subst k)) <;> first | rfl | (unfold PyData.eqv eqD; exact beq_dec)
  | .str a, y, p, q, h, k => by cases h; cases y <;> simp [toPy] at k <;> (first | subst k | (obtain ⟨qs, k1, k⟩ := k; subst k)) <;> rfl
  | .tup xs, y, p, q, h, k => by
    simp [toPy] at h
    obtain ⟨ps, h, rfl⟩ := h
    cases y <;> simp [toPy] at k <;> (first | subst k | (obtain ⟨qs, k1, k⟩ := k; subst k)) <;> first | rfl | (unfold PyData.eqv eqD; exact eqvs_eqDs _ _ _ _ h k1)
  | .lst xs, y, p, q, h, k => by
    simp [toPy] at h
    obtain ⟨ps, h, rfl⟩ := h
    cases y <;> simp [toPy] at k <;> (first | subst k | (obtain ⟨qs, k1, k⟩ := k; subst k)) <;> first | rfl | (unfold PyData.eqv eqD; exact eqvs_eqDs _ _ _ _ h k1)
  | .ty _, y, p, q, h, k => by cases h
  | .obj _ _, y, p, q, h, k => by cases h
  | .ref _, y, p, q, h, k => by cases h
  | .scr _, y, p, q, h, k => by cases h
theorem eqvs_eqDs : ∀ (xs ys : List D) (ps qs : List PyData), toPys xs = some ps → toPys ys = some qs → PyData.eqvAll ps qs = eqDs xs ys
  | [], [], ps, qs, h, k => by cases h; cases k; rfl
  | [], y :: ys, ps, qs, h, k => by
    cases h
    unfold toPys at k
    split at k
    · cases k; rfl
    · cases k
  | x :: xs, [], ps, qs, h, k => by
    cases k
    unfold toPys at h
    split at h
    · cases h; rfl
    · cases h
  | x :: xs, y :: ys, ps, qs, h, k => by
    unfold toPys at h k
    split at h
    · rename_i p ps' h1 h2
      cases h
      split at k
      · rename_i q qs' k1 k2
        cases k
        unfold PyData.eqvAll eqDs
        rw [eqv_eqD x y p q h1 k1, eqvs_eqDs xs ys ps' qs' h2 k2]
      · cases k
    · cases h
end
def rEqU (neg : Bool) (x y : D) (S : Store) (K : KD) : Prop := okN 8 x = true ∧ okN 8 y = true ∧ K (.bl (if neg then !eqD x y else eqD x y)) S
section
variable {g : Sg} {X : Cx} {W : WX} {a b e o : Expr} {pos apos : Pos} {fa fb fe fo : FE} {es : List Expr} {fr : FA} {st : Stmt} {ft : FT}
theorem rEqU_dd {neg : Bool} {x y : D} {S : Store} {K : KD} (h : rEqU neg x y S K) : rEqDD neg x y S K := by
  obtain ⟨h1, h2, h3⟩ := h
  obtain ⟨p, p1, p2, p3⟩ := okN_py 8 x h1
  obtain ⟨q, q1, q2, q3⟩ := okN_py 8 y h2
  have s : ∀ r : PyData, r.canLay0 = true → r.depth ≤ 8 → SeqAt.shaped r = true := fun r c d => Bool.and_eq_true_iff.mpr ⟨c, decide_eq_true (Nat.le_trans d (by decide))⟩
  refine ⟨p, q, p1, q1, s p p2 p3, s q q2 q3, ?_⟩
  rw [eqv_eqD x y p q p1 q1]
  exact h3
theorem ueq (hK : g.K = X.K) (hu : X.A.units + 64 < cLine) : OpD g X (compareOp .Eq) (rEqU false) := fun pins s σ H w ρ S x y vx vy u v K Q I ru rv A rx ry ko q => deq hK hu pins s σ H w ρ S x y vx vy u v K Q I ru rv A rx ry ko (rEqU_dd q)
theorem une (hK : g.K = X.K) (hu : X.A.units + 64 < cLine) : OpD g X (compareOp .NotEq) (rEqU true) := fun pins s σ H w ρ S x y vx vy u v K Q I ru rv A rx ry ko q => dne hK hu pins s σ H w ρ S x y vx vy u v K Q I ru rv A rx ry ko (rEqU_dd q)
theorem Reps.empty {w : Wd} {vs : List V} {ds : List D} (r : Reps g w vs ds) : (!ds.isEmpty) = !vs.isEmpty := by cases r <;> rfl
def rMulU (x y : D) (S : Store) (K : KD) : Prop := match x, y with
  | .int i, .int j => (CMul i j ∨ CMulW i j) ∧ K (.int (i * j)) S
  | .tup xs, .int k => (xs ≠ [] ∧ 1 ≤ k ∧ k ≤ 1000 ∧ xs.length ≤ 1000) ∧ K (.tup (List.replicate k.toNat xs).flatten) S
  | _, _ => False
theorem Reps.rep {w : Wd} {vs : List V} {ds : List D} (r : Reps g w vs ds) : ∀ n : Nat, Reps g w (List.replicate n vs).flatten (List.replicate n ds).flatten
  | 0 => .nil
  | n + 1 => by
    rw [List.replicate_succ, List.replicate_succ, List.flatten_cons, List.flatten_cons]
    exact r.app (Reps.rep r n)
theorem umul (hK : g.K = X.K) : OpD g X (binaryOp .Mult) rMulU := fun pins s σ H w ρ S x y vx vy u v K Q I ru rv A rx ry ko q => by
  unfold rMulU at q
  split at q
  · obtain ⟨h | h, q⟩ := q
    · exact imulS pins s σ H w ρ S (.int _) (.int _) vx vy u v K Q I ru rv A rx ry ko ⟨h, q⟩
    · exact imul pins s σ H w ρ S (.int _) (.int _) vx vy u v K Q I ru rv A rx ry ko ⟨h, q⟩
  · rename_i xs k
    obtain ⟨⟨h1, h2, h3, h4⟩, q⟩ := q
    have hx := rx
    cases rx with
    | tup hh rr =>
      have ey := rep_int ry
      subst ey
      have hT := A.t hh
      rw [hK] at hT
      by_cases e : k = 1
      · subst e
        refine op_rep1 pins s σ H _ _ u v Q I ru rv ⟨_, _, rfl, rfl, hT, ?_⟩
        refine ko _ S q _ w H (Le.refl w) A ?_
        rw [show (List.replicate (1 : Int).toNat xs).flatten = xs by simp]
        exact hx
      · refine op_repT pins s σ H _ _ u v Q I ru rv ⟨_, k, _, rfl, rfl, hT, fun z => h1 ?_, by omega, h3, by rw [rr.length]; exact h4, fun p hp => ?_⟩
        · subst z
          cases rr
          rfl
        · exact ko _ S q _ _ _ (le_add A.if_ (A.free hp)) (A.lay hp) (.tup (SqT.of upd_same) ((rr.rep k.toNat).mono (le_add A.if_ (A.free hp)).s))
  · exact q.elim
end
section
variable {P : Program} {w : World} {mg : Str → Option Value} {base : Heap} {g : Sg} {x qual : Str} {params : Arguments} {body : List Stmt} {scope : Scope} {f : Addr} {fd : FuncData}
theorem raw0 {k : Nat} {ps : List Str} {sp : Sp} (G : FnOk P w g.K mg base (CXK kn P w) k f fd ps sp) (hb : Binds g.K fd ps []) : FnR P w g.K mg base (CXK kn P w) k f sp :=
  (G.raw hb .nil).imp fun vs H Q E h => by rw [List.append_nil]; exact h
end
end R3

namespace R3
open PySem PySem.Spec PyProof.Rows L2
section
variable {g : Sg} {X : Cx} {W : WX} {a b e o v : Expr} {pos apos cpos p p2 p3 : Pos} {fa fb fe fo : FE} {es : List Expr} {fr : FA} {st : Stmt} {ft : FT} {x : Str}
/-- o[j] = e, o a list of the store -/
theorem mputr (he : EV g X W e fe) (ho : EV g X W o fo) (hj : EV g X W b fb)
    (ha : ∀ v, assign (.Subscript o b p2) X.env v = (do
      let ov ← holding [v] (eval o X.env)
      let iv ← holding [v, ov] (eval b X.env)
      standAt p2
      holding [v, ov, iv] (setItem ov iv v)
      release [v, ov, iv] []) := by intro _; rfl)
    (hs : swapsWithSole [.Subscript o b p2] e pos.line X.env = pure false := by rfl) (hw : swappedStores [.Subscript o b p2] e X.env = pure none := by rfl)
    (h1 : (assignEach [.Subscript o b p2] X.env).map (·.2) = [assign (.Subscript o b p2) X.env] := by rfl) : ES g X W (.Assign [.Subscript o b p2] e pos) (wPutRef fe fo fb) :=
  sputref (ps_asg he (pg_sub ho hj set_list ha) hs hw h1)
abbrev tyNames : List String := ["NoneType", "bool", "int", "str", "tuple", "list", "dict"]
end
abbrev rdAdd : RD := rInt0 fun i j => .int (i + j)
abbrev rdSub : RD := rInt0 fun i j => .int (i - j)
abbrev rdFdv : RD := rInt CDivW fun i j => .int (i / j)
abbrev rdMod : RD := rInt (fun _ j => 0 < j) fun i j => .int (i % j)
abbrev rdPow : RD := rInt CPow fun i j => .int (i ^ j.toNat)
abbrev rdGt : RD := rInt0 fun i j => .bl (decide (j < i))
abbrev rdGe : RD := rInt0 fun i j => .bl (decide (j ≤ i))
end R3

namespace R3
open PySem PySem.Spec PyProof.Rows L2
section
variable {g : Sg} {X : Cx} {W : WX} {e tg : Expr} {fe : FE}
def wItU (f : FE) (ρ : List Sl) (S : Store) (K : List D → Store → Prop) (ex : KX) : Prop := f ρ S (fun x S1 => match x with
  | .lst ds => K ds S1
  | .tup ds => K ds S1
  | _ => False) ex
theorem itu (he : EV g X W e fe) (hK : g.K = X.K) : EI g X W tg e (wItU fe) := PI.imp (pi_seqA he) fun σ H R ⟨w, ρ, S, K, ex, A, xo, ko, q⟩ => ⟨w, ρ, S, _, ex, A, xo, fun d S1 q1 v w1 H1 l1 A1 r1 => by
  split at q1
  · cases r1 with
    | lst hh rr => exact ⟨_, rfl, .inl ⟨⟨_, SqL.of (A1.ih _ _ hh)⟩, ko _ S1 q1 _ w1 H1 l1 A1 (gen_list hh rr)⟩⟩
  · cases r1 with
    | tup hh rr => exact ⟨_, rfl, .inr ⟨⟨_, by rw [← hK]; exact A1.t hh⟩, ko _ S1 q1 _ w1 H1 l1 A1 (by rw [← hK]; exact gen_tup hh rr)⟩⟩
  · exact q1.elim, q⟩
end
/-- a list of the store is changed at a place -/
theorem put_ok {n : Nat} {xs ys : List D} {S : Store} (h : S[n]? = some (some (.lst xs))) : (S.set n (some (.lst ys)))[n]? = some (some (.lst ys)) ∧ Oth n S (S.set n (some (.lst ys))) :=
  ⟨List.getElem?_set_self (List.getElem?_eq_some_iff.mp h).1, List.length_set, fun m hm => List.getElem?_set_ne (Ne.symm hm)⟩
theorem atIn {α : Type} {xs : List α} {i : Nat} {d : α} (h : xs[i]? = some d) : atI xs (i : Int) = some d := by
  have hi := (List.getElem?_eq_some_iff.mp h).1
  unfold L2.atI ixN
  rw [if_pos (by omega), if_pos (by omega)]
  simpa using h
end R3

namespace R3
open PySem PySem.Spec PyProof.Rows L2
/-- what the law's promise is asked at the start -/
theorem sp_start {g : Sg} {C : Ct} {H : Hp} {a : Addr} {ns : List Int} (hS : SqL g.K H a (ns.map V.int)) (q : C [.scr ns] [] (fun d _ => d = .bl true) noX) : spOf g 1 C [.ref a] H (fun v _ => v = .bl true) fun _ _ _ => False :=
  ⟨⟨H, H, fun _ => 0, 0⟩, [.scr ns], [], fun d _ => d = .bl true, noX, rfl, ⟨fun _ _ z => z, fun _ _ z => z, rfl, fun k o h => (by simp at h), fun j k oj ok h => (by simp at h), rfl, fun i d h => (by cases i <;> cases h), fun i d h => (by cases i <;> cases h), fun i h => (by cases i <;> cases h)⟩, .one (.scr hS),
    fun d S' k v w' H' _ _ r => (by subst k; exact rep_bl r), fun _ _ z => z.elim, q⟩
theorem walk_ofR {l : PySem.W.OpenLaw} {n k : Nat} {q : Program} {loose : List Str} {XP : (Str → Option Value) → Heap → Prop} {YP : World → Heap → Prop} {d : DefRec} {x : Str} {C : Ct} {g : Fr → Sg} (hK : ∀ K, (g K).K = K)
    (hn : l.most = some n) (hn2 : n ≤ sizeLine) (hdf : d.params.defaults = []) (hr : L2.Room k callerA)
    (hC : ∀ ns : List Int, ns.length ≤ n → (∀ z ∈ ns, Builtin.Int.intBits z ≤ 1048576) → C [.scr ns] [] (fun d _ => d = .bl true) noX)
    (F : ∀ (w : World) (mg : Str → Option Value) (fa : Addr) (h : Heap), YP w h → h.Ns mainGlobals mg → mg d.name = some (.ref fa) → ∃ (K : Fr) (fd : FuncData), K.In h ∧ (∀ (s : Shared) (u : Value), BindsTo s fd ⟨[u], []⟩ [(x, u)]) ∧
      ∀ base : Heap, FnOk l.prog w (g K).K mg base (CXK kn l.prog w) k fa fd [x] (spOf (g K) 1 C)) : PySem.W.WalkO q loose XP YP l.row.toRowW d [] (fun f vs => PySem.call f vs) :=
  Att.attach_callB hn hdf fun w s₀ s₁ mg mb fa o pm cd doc a vs ns G Y ho hd hcd hmg hobj hints hlen hbits hg => by
    obtain ⟨K, fd, KX, hb, hF⟩ := F w mg fa _ Y G.T.g hmg
    have hF' : ∀ base : Heap, FnOk l.prog w K mg base (CXK kn l.prog w) k fa fd [x] (spOf (g K) 1 C) := fun base => by
      have z := hF base
      rw [hK K] at z
      exact z
    exact law_callG KX G.T.g G.T.b G.T.builtins G.T.nolimit hg hobj hints (Nat.le_trans hlen hn2) hr hF' hb (fun H hO hS => sp_start (by rw [hK]; exact hS) (hC ns hlen hbits)) fun H e s' z => by
      cases kn
      · obtain ⟨_, _, _, _, _, _, _, _, _, _, _, _, z⟩ := z
        exact z
      · obtain ⟨_, _, _, _, _, _, _, _, _, _, _, _, z⟩ := z
        exact z
end R3

namespace R3
open PySem PySem.Spec PyProof.Rows L2

theorem bas_VE : Bas [.type "ValueError", .type "Exception", .type "BaseException", .type "object"] "ValueError.__new__" "ValueError.__init__" := ⟨⟨_, PySem.F.excBase_ValueError, PySem.F.store_ValueError⟩, by decide +kernel⟩
theorem bas_IE : Bas [.type "IndexError", .type "LookupError", .type "Exception", .type "BaseException", .type "object"] "IndexError.__new__" "IndexError.__init__" := ⟨⟨_, PySem.F.excBase_IndexError, PySem.F.store_IndexError⟩, by decide +kernel⟩
theorem bas_OE : Bas [.type "OverflowError", .type "ArithmeticError", .type "Exception", .type "BaseException", .type "object"] "OverflowError.__new__" "OverflowError.__init__" := ⟨⟨_, PySem.F.excBase_OverflowError, PySem.F.store_OverflowError⟩, by decide +kernel⟩
theorem bas_RE : Bas [.type "RuntimeError", .type "Exception", .type "BaseException", .type "object"] "RuntimeError.__new__" "RuntimeError.__init__" := ⟨⟨_, PySem.F.excBase_RuntimeError, PySem.F.store_RuntimeError⟩, by decide +kernel⟩
section
variable {X : Cx} {pins : List (Addr × Obj)} {σ : L2.St} {H : Hp} {s : Shared} {a C fI : Addr} {f : Str} {y : V} {u : Value} {tl : List Value} {newId initId : String}
/-- self.f = y, the first store -/
theorem est (T : ErrK X.K C fI tl newId f) (B : Bas tl newId initId) (I : Inv X pins σ H s) (e : H a = some (exo a C none)) (ry : RelV y u) {Q : Unit → Shared → Prop} {E : Value → Shared → Prop} {A : Around}
    (h : ∀ dx s', H dx = none → dx ≠ a → Inv X pins σ (upd (upd H dx (exd dx [(f, y)])) a (exo a C (some dx))) s' → Q () s') : wpAny (model X.prog X.w) A (setAttr (.ref a) f u) Q E s := by
  obtain ⟨Bn, FB, SF⟩ := B.b
  obtain ⟨t1, ho⟩ := exo_at I.hok e
  obtain ⟨hp, g, d, t, os⟩ := s
  have J : PySem.W.InstAt hp a { cls := .ref C, dict := none, data := .fields #[.ref t1, .none, .none, .none, .bool false, .none] } C none := ⟨ho, rfl, rfl, trivial⟩
  refine PySem.W.set_plain I.kIn J T.sa ?_
  refine PySem.W.osa_openX (od := none) SF I.kIn J T.ovr T.tkr fun b => ?_
  obtain ⟨cd, hc, hd'⟩ := PySem.W.any_some T.hd
  have hcls : PySem.W.Looks (model X.prog X.w) hp (classData C) cd := PySem.W.looks_clsIn I.kIn hc
  have hxs : a ≠ hp.objs.size := Nat.ne_of_lt (Heap.lt_size ho)
  have hnd : H hp.objs.size = none := I.hok.fresh (Nat.le_refl _)
  have x1 : (hp.push { cls := .type "dict", data := .dict #[] }).get? a = some { cls := .ref C, data := .fields #[.ref t1, .none, .none, .none, .bool false, .none] } := Heap.get?_push_of_some _ ho
  have fin : ∀ h' tk', h'.Ns1 hp.objs.size (fun z => if z = f then some u else none) → Heap.SameBut hp.objs.size ((hp.push { cls := .type "dict", data := .dict #[] }).update a fun o => { o with dict := some hp.objs.size }) h' → Q () ⟨h', g, d, tk', os⟩ := by
    intro h' tk' hn hs
    have k : ∀ b o, b ≠ a → hp.get? b = some o → h'.get? b = some o := fun b o hb q => (hs.2 b (Nat.ne_of_lt (Heap.lt_size q))).trans ((Heap.get?_update_ne _ _ _ _ hb).trans (Heap.get?_push_of_some _ q))
    have hx : h'.get? a = some { cls := .ref C, dict := some hp.objs.size, data := .fields #[.ref t1, .none, .none, .none, .bool false, .none] } := (hs.2 a hxs).trans (Heap.get?_update_self _ x1 rfl)
    have na : ∀ {b : Addr}, H b = none → b ≠ a := fun {b} n z => by rw [z, e] at n; cases n
    have nd : ∀ {b : Addr} {o : Obj}, hp.get? b = some o → b ≠ hp.objs.size := fun {b o} q => Nat.ne_of_lt (Heap.lt_size q)
    have U : Un X.fs [] H (upd (upd H hp.objs.size (exd hp.objs.size [(f, y)])) a (exo a C (some hp.objs.size))) hp h' := {
      keep := fun b o q n _ _ => k b o (na n) q
      slot := fun b o q n _ _ => ⟨o.slots, k b o (na n) q⟩
      free := fun b o q n _ => (upd_ne (na n)).trans ((upd_ne (nd q)).trans n)
      there := fun b o q _ => (Classical.em (b = a)).elim (fun z => ⟨_, z ▸ hx⟩) fun z => ⟨o, k b o z q⟩
      tups := fun b xs q => (upd_ne (at_ne e q exo_tup)).trans ((upd_ne (ne_of_none q hnd)).trans q)
      frzs := fun b o v q => (upd_ne (at_ne e q exo_frz)).trans ((upd_ne (ne_of_none q hnd)).trans q)
      tbls := fun b ps q => ⟨#[], by rw [upd_ne (at_ne e q exo_tbl), upd_ne (ne_of_none q hnd), q]; simp⟩ }
    refine h hp.objs.size _ hnd (Ne.symm hxs) (I.un (t' := tk') U fun b o q => ?_)
    by_cases hb : b = a
    · subst hb; rw [upd_same] at q; cases q; exact exo_ok hx
    · rw [upd_ne hb] at q
      by_cases hd : b = hp.objs.size
      · subst hd; rw [upd_same] at q; cases q; exact exd_ok hn (relO_put (fs := []) ry fun g => True.intro)
      · rw [upd_ne hd] at q
        exact (I.hok b o q).stay (fun c v hc z => k c v (by rcases hc with hc | hc; (rw [hc]; exact hb); exact at_ne e hc exo_own) z)
          (fun c hc => (upd_ne (at_ne e hc exo_own)).trans ((upd_ne (ne_of_none hc hnd)).trans hc)) (fun c xs hc => (upd_ne (at_ne e hc exo_tup)).trans ((upd_ne (ne_of_none hc hnd)).trans hc))
  show wpAny _ _ (Builtin.ObjectAttr.storeInOwnDict (.ref a) (.ref C) _ f u b) _ _ _
  obtain ⟨nm, bs, mro, ns, qn, hdd, sn, sb, ab, col, del⟩ := cd
  dsimp only at hd'
  subst hd'
  unfold Builtin.ObjectAttr.storeInOwnDict Builtin.ObjectAttr.ownDictForStores
  repeat (first | with_reducible refine HandSPX.store_in_new ?_ ?_ | with_reducible refine wpAny_loadPart_at ho ?_ | with_reducible refine hcls.at ?_ | wp_step)
  · exact ⟨_, #[], _, (Heap.get?_update_ne _ _ _ _ hxs.symm).trans (Heap.get?_push_at rfl rfl), rfl, fun e he => absurd he (by simp), fun _ => rfl⟩
  · exact fin
/-- B.__init__(self, ..): nothing of it is told -/
theorem ebi {us : List Value} {Q : Value → Shared → Prop} {E : Value → Shared → Prop} {A : Around} (T : ErrK X.K C fI tl newId f) (B : Bas tl newId initId) (I : Inv X pins σ H s) (e : H a = some (exo a C none)) (hl : us.length ≤ sizeLine) (h : ∀ s', Inv X pins σ H s' → Q .none s') :
    wpAny (model X.prog X.w) A (call (.builtin initId) (.ref a :: us)) Q E s := by
  obtain ⟨Bn, FB, SF⟩ := B.b
  obtain ⟨nm, N, qn, bs, bm, hdct, sn, sub, ab, col, dd, k0, k1, k2, k3, k5, hC, hT⟩ := PySem.W.excInit_of I.kIn T.ini
  obtain ⟨t1, ho⟩ := exo_at I.hok e
  obtain ⟨hp, g, d, t, os⟩ := s
  refine wpAny_call (HandSPX.init_base FB hT hC ho hl fun h' t2 k hx => ?_)
  have J := I.write (t' := t) (x := a) (e := a) (o := exo a C none) (by rw [e]; exact True.intro) (.inl rfl) k ⟨_, hx⟩ (exo_ok hx)
  rw [show upd H a (exo a C none) = H from funext fun b => (Classical.em (b = a)).elim (fun z => by rw [z, upd_same, e]) upd_ne] at J
  exact h _ J
/-- the reading of the base's call -/
def tBI (C : Addr) (ta : TA) : TE := fun σ H Q => ta σ H fun vs H1 => ∃ (a : Addr) (ws : List V), vs = .ref a :: ws ∧ ws.length ≤ 1000 ∧ H1 a = some (exo a C none) ∧ Q .non H1
end
section
variable {X : Cx} {a C fI R : Addr} {f b : Str} {tl : List Value} {newId initId Tn : String} {o e : Expr} {es : List Expr} {to te : TE} {ta : TA} {p p' p1 p2 pos : Pos} {pl : Sem Bool}
theorem bi_args {pins : List (Addr × Obj)} {σ : L2.St} {H : Hp} {s : Shared} {Q : VK} (T : ErrK X.K C fI tl newId f) (B : Bas tl newId initId) (ha : PA X (e :: es) ta) (I : Inv X pins σ H s) (h : tBI C ta σ H Q)
    (he : starEach (e :: es) X.env = (false, eval e X.env) :: starEach es X.env) (hpl : (backTo pos (starEach es X.env)).any (·.1) = false) :
    wpAny (model X.prog X.w) X.A (callWith pos (Value.builtin initId) [] (backTo pos (starEach (e :: es) X.env)) []) (EP X pins σ Q) X.xe s := by
  refine PyProof.Rows.callWith_method1 (thn (ha.run pos pins _ σ H _ I h) fun us s1 ⟨vs, H1, I1, r1, a, ws, ev, hl, ea, q⟩ => ?_) he hpl
  subst ev
  cases r1 with
  | @cons _ u0 _ ur ra rw' =>
    obtain rfl : u0 = Value.ref a := ra
    exact ebi T B I1 ea (Nat.le_trans (show ur.length ≤ 1000 by rw [← Paired.length rw']; exact hl) (by decide)) fun s' J => ⟨.non, H1, J, rfl, q⟩
theorem pe_biOwn (T : ErrK X.K C fI tl newId f) (B : Bas tl newId initId) (N : BasOwn X.K X.mg b R initId) (hg : Gl X b) (ha : PA X (e :: es) ta) (hdb : (b == ("__debug__" : Str)) = false := by decide)
    (hc : eval (.Call (.Attribute (.Name b p1) "__init__" p2) (e :: es) [] pos) X.env = (do
      let ov ← eval (.Name b p1) X.env
      standAt p2.atName
      let (f, first) ← holding [ov] (getMethod ov "__init__" pl)
      callWith pos f first (backTo pos (starEach (e :: es) X.env)) (backToKw pos (keywordEach [] X.env))) := by rfl)
    (he : starEach (e :: es) X.env = (false, eval e X.env) :: starEach es X.env := by rfl) (hpl : (backTo pos (starEach es X.env)).any (·.1) = false := by rfl) :
    PE X (.Call (.Attribute (.Name b p1) "__init__" p2) (e :: es) [] pos) (tBI C ta) := by
  refine ⟨fun pins s σ H Q I h => ?_⟩
  refine PySem.W.methodCall_KW (ld_glob I hg N.g ?_ hdb) hc
  refine PySem.W.method_cls I.kIn N.sp (PySem.W.cls_value I.kIn N.rd N.fc B.hh ?_)
  exact bi_args T B ha (I.tok _) h he hpl
theorem pe_biTy (T : ErrK X.K C fI tl newId f) (B : Bas tl newId initId) (N : BasTy X.K X.mg b Tn initId) (hg : Gl X b) (ha : PA X (e :: es) ta) (hn : b ≠ "__name__" := by decide) (hdb : (b == ("__debug__" : Str)) = false := by decide)
    (hc : eval (.Call (.Attribute (.Name b p1) "__init__" p2) (e :: es) [] pos) X.env = (do
      let ov ← eval (.Name b p1) X.env
      standAt p2.atName
      let (f, first) ← holding [ov] (getMethod ov "__init__" pl)
      callWith pos f first (backTo pos (starEach (e :: es) X.env)) (backToKw pos (keywordEach [] X.env))) := by rfl)
    (he : starEach (e :: es) X.env = (false, eval e X.env) :: starEach es X.env := by rfl) (hpl : (backTo pos (starEach es X.env)).any (·.1) = false := by rfl) :
    PE X (.Call (.Attribute (.Name b p1) "__init__" p2) (e :: es) [] pos) (tBI C ta) := by
  refine ⟨fun pins s σ H Q I h => ?_⟩
  refine PySem.W.methodCall_KW (ld_blt I hg N.g N.bt ?_ hn hdb) hc
  obtain ⟨m, fr⟩ := I.fr
  refine PySem.W.method_type fr I.ok.mod.kin N.ty N.st N.fc B.hh ?_
  exact bi_args T B ha (I.tok _) h he hpl
/-- self.f = e in such an __init__ -/
def tEst (C : Addr) (f : Str) (to te : TE) : TS := fun D σ H => te σ H fun y H1 => to σ H1 fun x H2 => ∃ a : Addr, x = .ref a ∧ H2 a = some (exo a C none) ∧ ∀ dx, H2 dx = none → dx ≠ a → D.nx σ (upd (upd H2 dx (exd dx [(f, y)])) a (exo a C (some dx)))
theorem ps_est (T : ErrK X.K C fI tl newId f) (B : Bas tl newId initId) (ho : PE X o to) (he : PE X e te) (hs : swapsWith e (some (.Attribute o f p')) pos.line X.env = pure false := by rfl) : PS X (.Assign [.Attribute o f p'] e pos) (tEst C f to te) := by
  refine ⟨fun pins s σ H D I h => ?_⟩
  refine plainObj_wpAny_Assign_Attribute (thn (he.run pins s σ H _ I h) fun v s1 ⟨y, H1, I1, r1, q1⟩ => thn (ho.run pins s1 σ H1 _ I1 q1) fun u s2 ⟨x, H2, I2, r2, a, ex, ea, q⟩ => ?_) hs
  subst ex
  obtain rfl : u = Value.ref a := r2
  exact est T B I2 ea r1 fun dx s' n ne J => ⟨σ, _, J, q dx n ne⟩
end
end R3

namespace R3
open PySem PySem.Spec PyProof.Rows L2
section
variable {g : Sg} {X : Cx} {W : WX} {e : Expr} {fe : FE} {p pos pos2 : Pos}
end
section
variable {g : Sg} {Y : Xs} {w : Wd} {ρ : List Sl} {S : Store} {σ : L2.St} {H : Hp}
end
section
variable {g : Sg} {X : Cx} {W : WX} {x n : Str} {c : Value} {i : Nat} {body suite : List Stmt} {b₀ : Stmt} {np pos pos' : Pos} {cs : Nat → Option Bool} {fb : FS} {fs : Exn → FS}
end
end R3

namespace R3
open PySem PySem.Spec PyProof.Rows L2
section
variable {X : Cx} {body : List Stmt} {h0 : ExceptHandler} {hds : List ExceptHandler} {l : List (List Value × Option Nat × TSx)} {pos : Pos} {tb : WX → TS} {Wout : WX}
end
section
variable {g : Sg} {X : Cx} {W : WX} {body : List Stmt} {h0 : ExceptHandler} {hds : List ExceptHandler} {hn : List Hnd} {tl : List (List Value × Option Nat × TSx)} {pos : Pos} {fb : FS}
end
end R3

namespace R3
open PySem PySem.Spec PyProof.Rows L2
section
open PySem.W PySem.Calls
variable {prog : Program} {w : World} {A : Around} {E : Value → Shared → Prop} {s : Shared} {K : Fr} {x D : Addr} {ox : Obj} {od : Option Obj}
end
section
variable {g : Sg} {X : Cx} {a dd : Addr} {oe : Obj} {pn : List (Addr × Obj)} {y : Exn} {i : Nat} {e : Expr} {pos p p2 : Pos} {n f : Str}
end
section
variable {P : Program} {w : World} {mg : Str → Option Value} {base : Heap} {g : Sg} {Y : Xs} {k n c : Nat} {x m : Str}
end
end R3

namespace R3
open PySem PySem.Spec PyProof.Rows L2
/-- the text of repr -/
def shw (d : D) : Str := ((toPs d).map PyData.shown).getD Str.empty
section
variable {g : Sg} {X : Cx} {W : WX} {pins : List (Addr × Obj)} {w : Wd} {ρ : List Sl} {S : Store} {σ : L2.St} {H : Hp} {s : Shared}
theorem pairs_reads {h : Heap} {P : Program} {wl : World} : ∀ {kvs : List (Key × Int)} {es : List DictEntry} {vs : List (Key × Value)}, KV (kvs.map fun p => (p.1, V.int p.2)) vs → Pairs (mixKind P wl) es vs →
    ReadsAll h (es.map (·.key)) (kvs.map fun p => kP p.1) [] ∧ ReadsAll h (es.map (·.val)) (kvs.map fun p => PyData.int p.2) []
  | [], _, _, .nil, .nil => ⟨.nil, .nil⟩
  | (k, v) :: kvs, _, _, .cons (b := q) ⟨e1, e2⟩ r, .cons (e := e) h1 h2 p => by
    obtain ⟨t, ht⟩ := (show ∃ t, q.2 = Value.int v t from e2)
    obtain ⟨a, b⟩ := pairs_reads r p
    have e1' : k = q.1 := e1
    have h1' : keyIs q.1 e.key = true := h1
    rw [← e1'] at h1'
    have hk : Reads h e.key (kP k) [] := by
      rcases keyIs_shape h1' with ⟨i, t, ei, ek⟩ | ⟨x, t, ei, ek⟩
      · first | (subst ei; rw [ek]; exact .int i t) | (subst ek; rw [ei]; exact .int i t)
      · first | (subst ei; rw [ek]; exact .str x t) | (subst ek; rw [ei]; exact .str x t)
    exact ⟨.cons (as := []) (bs := []) hk a, .cons (as := []) (bs := []) (by show Reads h e.val (.int v) []; rw [h2, ht]; exact .int v t) b⟩
theorem kv_split (kvs : List (Key × Int)) : (kvs.map fun p => (kP p.1, PyData.int p.2)).map (·.1) = kvs.map (fun p => kP p.1) ∧ (kvs.map fun p => (kP p.1, PyData.int p.2)).map (·.2) = kvs.map (fun p => PyData.int p.2) := by
  constructor <;> rw [List.map_map] <;> rfl
mutual
theorem toPy_nd1 : ∀ (d : D) (p : PyData), toPy d = some p → p.hasDict = false
  | .non, _, h => by cases h; rfl
  | .bl _, _, h => by cases h; rfl
  | .int _, _, h => by cases h; rfl
  | .str _, _, h => by cases h; rfl
  | .tup xs, p, h => by
    unfold toPy at h
    cases e : toPys xs with
    | none => rw [e] at h; cases h
    | some ps => rw [e] at h; cases h; exact toPy_nds xs ps e
  | .lst xs, p, h => by
    unfold toPy at h
    cases e : toPys xs with
    | none => rw [e] at h; cases h
    | some ps => rw [e] at h; cases h; exact toPy_nds xs ps e
  | .ty _, _, h => by cases h
  | .obj _ _, _, h => by cases h
  | .ref _, _, h => by cases h
  | .scr _, _, h => by cases h
  | .dic _, _, h => by cases h
  | .cls _, _, h => by cases h
  | .err _ _, _, h => by cases h
theorem toPy_nds : ∀ (ds : List D) (ps : List PyData), toPys ds = some ps → PyData.hasDictAll ps = false
  | [], _, h => by cases h; rfl
  | d :: ds, ps, h => by
    unfold toPys at h
    cases e1 : toPy d with
    | none => rw [e1] at h; cases h
    | some x =>
      cases e2 : toPys ds with
      | none => rw [e1, e2] at h; cases h
      | some xs =>
        rw [e1, e2] at h
        cases h
        show (x.hasDict || PyData.hasDictAll xs) = false
        rw [toPy_nd1 d x e1, toPy_nds ds xs e2]
        rfl
end
theorem toPy_nd {d : D} {p : PyData} (h : toPy d = some p) : p.hasDict = false := toPy_nd1 d p h
theorem reads_of {v : V} {d : D} {p : PyData} {u : Value} (A : At g w ρ S σ H) (I : Inv X pins σ H s) (hK : g.K = X.K) (r : Rep g w v d) (h : toPs d = some p) (ru : RelV v u) : ∃ as, Reads s.heap u p as ∧ (p.hasDict = true → sysModules ∉ as) := by
  have gen : toPy d = some p → ∃ as, Reads s.heap u p as ∧ (p.hasDict = true → sysModules ∉ as) := fun h => by
    have dp := dp_of A r h
    rw [hK] at dp
    obtain ⟨as, q⟩ := Dp.reads I p v u dp ru
    exact ⟨as, q, fun z => by rw [toPy_nd h] at z; cases z⟩
  cases r with
  | @dic a kvs hi =>
    cases h
    obtain rfl : u = Value.ref a := ru
    have hx : ObjOk X.prog X.w H s.heap a (.dK (kvs.map fun p => (p.1, V.int p.2))) := I.hok a _ (A.ih _ _ hi)
    obtain ⟨_, hsys, vs, kv, o, es, ep, ho, ex, hd, _, pr, _⟩ := hx
    obtain ⟨r1, r2⟩ := pairs_reads (h := s.heap) kv pr
    obtain ⟨e1, e2⟩ := kv_split kvs
    refine ⟨[a], ?_, fun _ hm => ?_⟩
    · have := Reads.dict (kvs := kvs.map fun p => (kP p.1, PyData.int p.2)) (as := []) (bs := []) ho ex.1 hd (by rw [e1]; exact r1) (by rw [e2]; exact r2)
      exact this
    · rw [List.mem_singleton] at hm
      rw [← hm] at hsys
      simp at hsys
  | _ => exact gen h
/-- repr(x) -/
def rReprD (ds : List D) (S : Store) (K : KD) : Prop := match ds with
  | [d] => Shw 1000000 d ∧ K (.str (shw d)) S
  | _ => False
theorem crepr (hK : g.K = X.K) (hun : X.A.units + 64 < cLine) (hgd : X.A.guards = some []) : CallD g X (.builtin "repr") rReprD := fun pins s σ H w ρ S ds vs us K Q I rv A rr ko q => by
  unfold rReprD at q
  split at q
  · rename_i d
    obtain ⟨⟨p, h1, h2, h3, h4⟩, q⟩ := q
    obtain ⟨v, rfl, rd⟩ := rr.inv1
    obtain ⟨u, rfl, ru⟩ := vals1 rv
    have hs : shw d = p.shown := by unfold shw; rw [h1]; rfl
    rw [hs] at q
    obtain ⟨as, rds, hsm⟩ := reads_of A I hK rd h1 ru
    have hz : p.shown.length ≤ sizeLine := Nat.le_trans h4 (by decide)
    cases rds with
    | none => exact PySem.P.repr_of_none ⟨.str _, H, I.tok _, ⟨_, rfl⟩, ko _ _ q _ w H (Le.refl w) A (.str _)⟩
    | bool b => exact PySem.P.repr_of_bool ⟨.str _, H, I.tok _, ⟨_, rfl⟩, ko _ _ q _ w H (Le.refl w) A (.str _)⟩
    | int i t => exact PySem.P.repr_of_int (of_decide_eq_true h2) ⟨.str _, H, I.tok _, ⟨_, rfl⟩, ko _ _ q _ w H (Le.refl w) A (.str _)⟩
    | str x t => exact PySem.P.repr_of_str ⟨.str _, H, I.tok _, ⟨_, rfl⟩, ko _ _ q _ w H (Le.refl w) A (.str _)⟩ hz
    | list a1 a2 a3 a4 => exact repr_of_reads' (Reads.list a1 a2 a3 a4) h2 hsm hgd (by omega) (fun _ _ z => z) (fun h' u tk hk => ⟨.str _, H, I.kept hk, ⟨_, rfl⟩, ko _ _ q _ w H (Le.refl w) A (.str _)⟩) hz
    | tuple a1 a2 a3 a4 => exact repr_of_reads' (Reads.tuple a1 a2 a3 a4) h2 hsm hgd (by omega) (fun _ _ z => z) (fun h' u tk hk => ⟨.str _, H, I.kept hk, ⟨_, rfl⟩, ko _ _ q _ w H (Le.refl w) A (.str _)⟩) hz
    | dict a1 a2 a3 a4 a5 => exact repr_of_reads' (Reads.dict a1 a2 a3 a4 a5) h2 hsm hgd (by omega) (fun _ _ z => z) (fun h' u tk hk => ⟨.str _, H, I.kept hk, ⟨_, rfl⟩, ko _ _ q _ w H (Le.refl w) A (.str _)⟩) hz
  · exact q.elim
end
section
variable {g : Sg} {X : Cx} {W : WX} {e a b : Expr} {es : List Expr} {fe fa fb : FE} {pos : Pos}
def wDic0 (_ : List Sl) (S : Store) (K : KD) (_ : KX) : Prop := K (.dic []) S
theorem edic0 : EV g X W (.Dict [] [] pos) wDic0 := PE.imp pe_dnewK fun σ H Q ⟨w, ρ, S, K, ex, A, xo, ko, q⟩ => fun p hp =>
  ko _ S q _ (w.add p (.dK [])) _ (le_add A.if_ (A.free hp)) (A.lay hp) (.dic (kvs := []) upd_same)
end
end R3

namespace R3
open PySem PySem.Spec PyProof.Rows L2
section
variable {g : Sg} {X : Cx} {W : WX} {a b c e : Expr} {pos : Pos} {fa fb fe : FE}
theorem OpX.or {sem : Value → Value → Sem Value} {r r' : RX} (h : OpX g X W sem r) (h' : OpX g X W sem r') : OpX g X W sem (fun x y S K ex => r x y S K ex ∨ r' x y S K ex) :=
  fun pins s σ H w ρ S x y vx vy u v K ex Q I ru rv A rx ry xo ko q => q.elim (h pins s σ H w ρ S x y vx vy u v K ex Q I ru rv A rx ry xo ko) (h' pins s σ H w ρ S x y vx vy u v K ex Q I ru rv A rx ry xo ko)
theorem inst_of {pins : List (Addr × Obj)} {s : Shared} {σ : L2.St} {H : Hp} {w : Wd} {ρ : List Sl} {S : Store} {c : Nat} {v : V} {d : D} {ds : List D} {u : Value} (I : Inv X pins σ H s) (A : At g w ρ S σ H) (r : Rep g w v d) (h : insOf c S d = some ds) (ru : RelV v u) :
    ∃ p ox od, u = .ref p ∧ v = .ref p ∧ PySem.W.InstAt s.heap p ox (g.ad c) (some od) := by
  obtain ⟨p, dx, vs, rfl, e1, hl, rr⟩ := ins_at A r h
  obtain rfl : u = Value.ref p := ru
  obtain ⟨_, O, _, _, _, _⟩ := ins_get I.hok e1
  obtain ⟨od, J, _⟩ := O.look
  exact ⟨p, _, od, rfl, rfl, J⟩
def fRight (x : Str) (K : Fr) : Bool := fIsi x K && tyNames.all fun t => decide (PySem.W.subIn K (.type t) (.ref (He.ga K x)) = some false)
theorem right_ok {pins : List (Addr × Obj)} {s : Shared} {σ : L2.St} {H : Hp} {w : Wd} {ρ : List Sl} {S : Store} {c : Nat} {x : Str} {v : V} {d : D} {u : Value} (hK : g.K = X.K) (hx : g.ad c = He.ga X.K x) (hf : fRight x X.K = true) (I : Inv X pins σ H s) (A : At g w ρ S σ H) (r : Rep g w v d) (ru : RelV v u) (h : rightD c d = true) :
    ∃ tb, PySem.W.Looks (model X.prog X.w) s.heap (typeOf u) tb ∧ PySem.W.notFirst X.K (g.ad c) tb = true := by
  obtain ⟨f1, f2⟩ := Bool.and_eq_true_iff.mp hf
  have ft : ∀ t ∈ tyNames, PySem.W.subIn X.K (.type t) (.ref (g.ad c)) = some false := fun t m => by rw [hx]; exact of_decide_eq_true (List.all_eq_true.mp f2 t m)
  have go : ∀ t, TyX X.K H v t → (t = .ref (g.ad c) ∨ ∃ n ∈ tyNames, t = .type n) → ∃ tb, PySem.W.Looks (model X.prog X.w) s.heap (typeOf u) tb ∧ PySem.W.notFirst X.K (g.ad c) tb = true := fun t ty ht => by
    obtain ⟨P, kx, hp, _⟩ := kit_of I ru ty
    refine ⟨t, kx.ty _ _ I.kIn hp, ?_⟩
    rcases ht with rfl | ⟨n, m, rfl⟩
    · simp [PySem.W.notFirst]
    · simp [PySem.W.notFirst, ft n m]
  have tyx : ∀ t, tyD g d = some t → TyX X.K H v t := fun t ht => by
    rw [← hK]
    refine tyX_of A r ht fun c' ds e => ?_
    subst e
    have ec : c' = c := beq_iff_eq.mp h
    rw [ec, hx, hK]
    exact fIsi_ok f1
  cases d with
  | non => exact go _ (tyx _ rfl) (.inr ⟨_, by simp, rfl⟩)
  | bl _ => exact go _ (tyx _ rfl) (.inr ⟨_, by simp, rfl⟩)
  | int _ => exact go _ (tyx _ rfl) (.inr ⟨_, by simp, rfl⟩)
  | str _ => exact go _ (tyx _ rfl) (.inr ⟨_, by simp, rfl⟩)
  | tup _ => exact go _ (tyx _ rfl) (.inr ⟨_, by simp, rfl⟩)
  | lst _ => exact go _ (tyx _ rfl) (.inr ⟨_, by simp, rfl⟩)
  | scr _ => exact go _ (tyx _ rfl) (.inr ⟨_, by simp, rfl⟩)
  | dic _ => exact go _ (tyx _ rfl) (.inr ⟨_, by simp, rfl⟩)
  | obj c' ds => exact go _ (tyx _ rfl) (.inl (by rw [show c' = c from beq_iff_eq.mp h]))
  | ty _ => cases h
  | ref _ => cases h
  | cls _ => cases h
  | err _ _ => cases h
variable {es : List Expr} {fr : FA}
end
end R3

namespace R3
open PySem PySem.Spec PyProof.Rows L2
section
variable {g : Sg} {X : Cx} {W : WX} {a b e o j : Expr} {pos apos cpos p : Pos} {fa fb fe fj fo : FE} {fr : FA} {x : Str}
theorem intsOf_reps {w : Wd} : ∀ {vs : List V} {ds : List D} {ns : List Int}, Reps g w vs ds → intsOf ds = some ns → vs = ns.map V.int
  | _, _, _, .nil, h => by cases h; rfl
  | _, _, _, .cons (d := .int i) (ds := ds) hh r, h => by
    unfold intsOf at h
    cases e : intsOf ds with
    | none => rw [e] at h; cases h
    | some ms =>
      rw [e] at h
      cases h
      rw [rep_int hh, intsOf_reps r e]
      rfl
  | _, _, _, .cons (d := .non) _ _, h => by cases h
  | _, _, _, .cons (d := .bl _) _ _, h => by cases h
  | _, _, _, .cons (d := .str _) _ _, h => by cases h
  | _, _, _, .cons (d := .ty _) _ _, h => by cases h
  | _, _, _, .cons (d := .tup _) _ _, h => by cases h
  | _, _, _, .cons (d := .lst _) _ _, h => by cases h
  | _, _, _, .cons (d := .obj _ _) _ _, h => by cases h
  | _, _, _, .cons (d := .ref _) _ _, h => by cases h
  | _, _, _, .cons (d := .scr _) _ _, h => by cases h
  | _, _, _, .cons (d := .dic _) _ _, h => by cases h
  | _, _, _, .cons (d := .cls _) _ _, h => by cases h
  | _, _, _, .cons (d := .err _ _) _ _, h => by cases h
def inD (x : D) (ys : List D) : Bool := ys.any fun z => eqD z x
theorem any_eqv {x : D} {p : PyData} (hx : toPy x = some p) : ∀ {ys : List D} {qs : List PyData}, toPys ys = some qs → (qs.any fun z => PyData.eqv z p) = inD x ys
  | [], _, h => by cases h; rfl
  | y :: ys, qs, h => by
    unfold toPys at h
    cases e1 : toPy y with
    | none => rw [e1] at h; cases h
    | some q =>
      cases e2 : toPys ys with
      | none => rw [e1, e2] at h; cases h
      | some qs' =>
        rw [e1, e2] at h
        cases h
        show (PyData.eqv q p || qs'.any _) = (eqD y x || inD x ys)
        rw [eqv_eqD y x q p e1 hx, any_eqv hx e2]
def rInU (neg : Bool) (x y : D) (S : Store) (K : KD) : Prop := match y with
  | .lst ys => okN 7 x = true ∧ okNs 7 ys = true ∧ K (.bl (if neg then !inD x ys else inD x ys)) S
  | _ => False
theorem inU {neg : Bool} {op : CmpOp} {r : R2} (hr : r = if neg then rNotInD X.K else rInD X.K) (ho : OpR X (compareOp op) r) (hK : g.K = X.K) : OpD g X (compareOp op) (rInU neg) := OpD.of ho fun σ H w ρ S x y vx vy K Q A rx ry ko q => by
  unfold rInU at q
  split at q
  · rename_i ys
    obtain ⟨h1, h2, q⟩ := q
    obtain ⟨p, p1, p2, p3⟩ := okN_py 7 x h1
    obtain ⟨qs, q1, q2, q3⟩ := okNs_py 7 ys h2
    have d1 := dp_of A rx p1
    have e2 : toPy (.lst ys) = some (.list qs) := by unfold toPy; rw [q1]; rfl
    have d2 := dp_of A ry e2
    rw [hK] at d1 d2
    have s1 : SeqAt.shaped p = true := Bool.and_eq_true_iff.mpr ⟨p2, decide_eq_true (Nat.le_trans p3 (by decide))⟩
    have s2 : SeqAt.shaped (.list qs) = true := Bool.and_eq_true_iff.mpr ⟨q2, decide_eq_true (by show PyData.depthAll qs + 1 ≤ 64; omega)⟩
    subst hr
    rw [← any_eqv p1 q1] at q
    cases neg with
    | true => exact ⟨p, qs, d1, d2, s1, s2, ko _ _ q _ w H (Le.refl w) A (.bl _)⟩
    | false => exact ⟨p, qs, d1, d2, s1, s2, ko _ _ q _ w H (Le.refl w) A (.bl _)⟩
  · exact q.elim
theorem uin {k : Nat} (hK : g.K = X.K) (hr : Room k X.A) : OpD g X (compareOp .In) (rInU false) := inU (r := rInD X.K) rfl (op_inD (by have := hr.un; omega)) hK
end
end R3

namespace R3
open PySem PySem.Spec PyProof.Rows L2
theorem band {a b : Bool} (h : (a && b) = true) : a = true ∧ b = true := Bool.and_eq_true_iff.mp h
theorem fErr_ok {x f : Str} {tl : List Value} {newId : String} {K : Fr} (h : fErr x f tl newId K = true) : ErrK K (He.ga K x) (He.ma K (He.ga K x) "__init__") tl newId f := by
  obtain ⟨h1, h⟩ := band h
  obtain ⟨h2, h⟩ := band h
  obtain ⟨h3, h⟩ := band h
  obtain ⟨h4, h⟩ := band h
  obtain ⟨h5, h⟩ := band h
  obtain ⟨h6, h⟩ := band h
  obtain ⟨h7, h⟩ := band h
  obtain ⟨h8, h⟩ := band h
  obtain ⟨h9, h⟩ := band h
  obtain ⟨h10, h⟩ := band h
  obtain ⟨h11, h⟩ := band h
  obtain ⟨h12, h13⟩ := band h
  exact ⟨h1, h2, of_decide_eq_true h3, h4, He.eqO_ok h5, He.eqO_ok h6, He.eqO_ok h7, He.eqO_ok h8, He.eqO_ok h9, of_decide_eq_true h10, h11, of_decide_eq_true h12, of_decide_eq_true h13⟩
theorem isVal_ok {f : Option PySem.W.CFound} {id : String} (h : isVal f id = true) : f = some (.val (.builtin id)) := by
  unfold isVal at h
  split at h
  · rw [beq_iff_eq.mp h]
  · cases h
theorem fBO_ok {b : Str} {initId : String} {K : Fr} {mg : Str → Option Value} (hg : mg b = some (.ref (He.ga K b))) (h : fBO b initId K = true) : BasOwn K mg b (He.ga K b) initId := by
  obtain ⟨h1, h⟩ := band h
  obtain ⟨h2, h3⟩ := band h
  exact ⟨hg, of_decide_eq_true h1, h2, isVal_ok h3⟩
theorem fBT_ok {b : Str} {T initId : String} {K : Fr} {mg : Str → Option Value} (hg : mg b = none) (hb : bootBuiltins b = some (.type T)) (ty : typeOf (.type T) = pure (.type "type")) (st : Manifest.isStub T = false) (h : fBT T initId K = true) : BasTy K mg b T initId := ⟨hg, hb, ty, st, isVal_ok h⟩
theorem typ_IE : typeOf (.type "IndexError") = pure (.type "type") := by kernel_rfl
theorem typ_OE : typeOf (.type "OverflowError") = pure (.type "type") := by kernel_rfl
theorem typ_RE : typeOf (.type "RuntimeError") = pure (.type "type") := by kernel_rfl
theorem typ_KE : typeOf (.type "KeyError") = pure (.type "type") := by kernel_rfl
def csOf (l : List (Nat × Bool)) (k : Nat) : Option Bool := l.lookup k
theorem lookup_mem {β : Type} {l : List (Nat × β)} {k : Nat} {b : β} (e : l.lookup k = some b) : (k, b) ∈ l := by
  induction l with
  | nil => cases e
  | cons q r ih =>
    rw [List.lookup_cons] at e
    split at e
    · rename_i h
      cases e
      rw [beq_iff_eq.mp h]
      exact List.mem_cons_self
    · exact List.mem_cons_of_mem _ (ih e)
theorem fExcC_ok {x : Str} {K : Fr} (h : fExcC x K = true) : ExcC K (He.ga K x) := by
  obtain ⟨h1, h⟩ := band h
  obtain ⟨h2, h⟩ := band h
  obtain ⟨h3, h⟩ := band h
  obtain ⟨h4, h⟩ := band h
  obtain ⟨h5, h⟩ := band h
  obtain ⟨h6, h⟩ := band h
  obtain ⟨h7, h8⟩ := band h
  exact ⟨He.eqO_ok h1, He.eqO_ok h2, of_decide_eq_true h3, h4, He.eqO_ok h5, of_decide_eq_true h6, of_decide_eq_true h7, of_decide_eq_true h8⟩
theorem fXis_ok {nm : Nat → Str} {t : Fr → Value} {l : List (Nat × Bool)} {K : Fr} (h : fXis nm t l K = true) {k : Nat} (b : Bool) (e : csOf l k = some b) : ExcC K (He.ga K (nm k)) ∧ PySem.W.kitOne K (.ref (He.ga K (nm k))) (t K) = some b := by
  obtain ⟨h1, h2⟩ := band (List.all_eq_true.mp h (k, b) (lookup_mem e))
  exact ⟨fExcC_ok h1, of_decide_eq_true h2⟩
theorem fXf_ok {nm : Nat → Str} {fl : Nat → List Str} {f : Str} {cs : List Nat} {K : Fr} (h : fXf nm f cs K = true) (hfl : ∀ c ∈ cs, fl c = [f]) {k : Nat} (e : cs.contains k = true) : fl k = [f] ∧ XfC K (He.ga K (nm k)) ∧ PySem.W.findIn K (.ref (He.ga K (nm k))) f = some none := by
  have m : k ∈ cs := by simpa using e
  obtain ⟨h1, h2⟩ := band (List.all_eq_true.mp h k m)
  exact ⟨hfl k m, xfB_ok h1, He.eqO_ok h2⟩
section
variable {X : Cx} {pos : Pos} {x : Str}
theorem xv (i : Nat) (hN : X.N[i]? = some x := by rfl) (hv : Vis X.env.scope x := by first | exact Or.inl rfl | exact Or.inr (Or.inl rfl) | exact Or.inr (Or.inr rfl)) (hd : (x == ("__debug__" : Str)) = false := by decide)
    (hcd : (x == ("__classdict__" : Str)) = false := by decide) : PE X (.Name x pos) (tVar i) := pe_var hN hv hd hcd
end
end R3

namespace R3
open PySem PySem.Spec PyProof.Rows L2
section
variable {fg : FG} {fb : FS} {ft : FT} {fe : FE} {d : Fin}
/-- for: P at the turn, over the slots and the store -/
theorem forI (P : Nat → List Sl → Store → Prop) {ds : List D} {ρ : List Sl} {S : Store} (h0 : P 0 ρ S)
    (hs : ∀ (i : Nat) (x : D) (ρ : List Sl) (S : Store) (N : List Sl → Store → Prop), ds[i]? = some x → P i ρ S → (∀ ρ' S', P (i + 1) ρ' S' → N ρ' S') → fg x ρ (fun ρ' => fb { d with nx := N, ct := N, bk := d.nx } ρ' S))
    (hd : ∀ ρ S, P ds.length ρ S → d.nx ρ S) : forL fg fb d ds ρ S := by
  have key : ∀ (n i : Nat) (ρ : List Sl) (S : Store), i + n = ds.length → P i ρ S → forL fg fb d (ds.drop i) ρ S := by
    intro n
    induction n with
    | zero =>
      intro i ρ S hn p
      have e : i = ds.length := by omega
      subst e
      rw [List.drop_length]
      exact hd ρ S p
    | succ n ih =>
      intro i ρ S hn p
      have hlt : i < ds.length := by omega
      have hx : ds[i]? = some ds[i] := by simp [hlt]
      rw [drop_cons hx]
      exact hs i _ ρ S _ hx p fun ρ' S' p' => ih (i + 1) ρ' S' (by omega) p'
  exact key ds.length 0 ρ S (by omega) h0
end
theorem rng_at {lo : Int} {n i : Nat} {x : D} (h : (rng lo n)[i]? = some x) : i < n ∧ x = .int (lo + i) := by
  have hi : i < n := by
    have := (List.getElem?_eq_some_iff.mp h).1
    rw [rng_len] at this
    exact this
  rw [rng_get hi] at h
  cases h
  exact ⟨hi, rfl⟩
end R3

namespace R3
open PySem PySem.Spec PyProof.Rows L2
section
variable {g : Sg} {X : Cx} {W : WX} {e tg o : Expr} {fe fo : FE} {fg : FG} {fb : FS} {js : List Nat} {body : List Stmt} {pos apos cpos p : Pos}
/-- o.append(e), o a list of the store -/
def wAppR (fo fe : FE) (d : Fin) (ρ : List Sl) (S : Store) : Prop := fo ρ S (fun o S1 => match o with
  | .ref n => (∃ ds0, S1[n]? = some (some (.lst ds0))) ∧ fe ρ S1 (fun x S2 => ∃ ds, S2[n]? = some (some (.lst ds)) ∧ Small (ds.length + 1) ∧ d.nx ρ (S2.set n (some (.lst (ds ++ [x]))))) (fun x S' => d.ex x ρ S')
  | _ => False) (fun x S' => d.ex x ρ S')
theorem mappR (ho : EV g X W o fo) (he : EV g X W e fe)
    (hbase : attributeBase o "append" X.env (eval o X.env) = eval o X.env := by rfl)
    (hfew : ((backTo cpos (starEach [e] X.env)).all (fun x => !x.1) && (backToKw cpos (keywordEach [] X.env)).all (fun x => x.1.isSome) && decide (([e] : List Expr).length + ([] : List Keyword).length + (if ([] : List Keyword).isEmpty then 0 else 1) < 30)) = true := by rfl)
    (hline : (apos.endLine == cpos.line) = true := by rfl) (hs : starEach [e] X.env = (false, eval e X.env) :: starEach [] X.env := by rfl) (hsw : swapsWith (.Call (.Attribute o "append" apos) [e] [] cpos) none pos.line X.env = pure false := by rfl) :
    ES g X W (.Expr (.Call (.Attribute o "append" apos) [e] [] cpos) pos) (wAppR fo fe) :=
  PS.imp (ps_expr (pe_bm PySem.F.plainAttrs_list PySem.F.slot_list_append PySem.F.type_list_append mt_append ho (pa_cons he pa_nil hs) hbase hfew hline hs rfl) hsw) fun D σ H ⟨w, ρ, S, d, A, eo, q⟩ => by
    refine ⟨w, ρ, S, _, _, A, eo.xo, fun x S1 q1 v w1 H1 l1 A1 r1 => ?_, q⟩
    cases x with
    | ref n =>
      obtain ⟨⟨ds0, hS0⟩, q1⟩ := q1
      obtain ⟨ev, hn⟩ := rep_ref r1
      subst ev
      obtain ⟨_, vs0, e0, _⟩ := A1.st n _ hS0
      refine ⟨.inl ⟨rfl, vs0, SqL.of e0⟩, ?_⟩
      refine ⟨w1, ρ, S1, _, _, A1, (eo.later l1).xo, fun y S2 q2 vy w2 H2 l2 A2 ry => ?_, q1⟩
      obtain ⟨ds, hS, sm, q2⟩ := q2
      obtain ⟨_, vs, e2, rr⟩ := A2.st n _ hS
      have adr : w2.φ n = w1.φ n := l2.s.p n hn
      have e2' := e2
      rw [adr] at e2'
      refine ⟨w1.φ n, vs, vy, rfl, rfl, e2', by rw [rr.length]; exact sm.lt, ?_⟩
      rw [← adr]
      exact eo.nx ρ _ q2 w2 σ _ (l1.trans l2) (A2.write (o' := .lst (ds ++ [y])) hS ⟨_, upd_same, rr.app (.one ry)⟩)
    | _ => exact q1.elim
end
end R3

namespace R3
open PySem PySem.Spec PyProof.Rows L2
section
variable {g : Sg} {X : Cx} {W : WX} {a b c e : Expr} {pos p : Pos} {fa fb fe : FE} {es : List Expr} {fr : FA}
/-- xs * n, a new list -/
def wRep (f h : FE) (ρ : List Sl) (S : Store) (K : List D → Store → Prop) (ex : KX) : Prop := f ρ S (fun x S1 => h ρ S1 (fun y S2 => match x, y with
  | .lst xs, .int k => (-1000000 ≤ k ∧ k ≤ 1000000 ∧ Small (xs.length * k.toNat)) ∧ K (List.replicate k.toNat xs).flatten S2
  | _, _ => False) ex) ex
theorem erep (ha : EV g X W a fa) (hb : EV g X W b fb) : EL g X W (.BinOp a .Mult b pos) (wRep fa fb) :=
  PE.imp (pe_op op_rep ha hb) fun σ H Q ⟨w, ρ, S, K, ex, A, xo, ko, q⟩ => ⟨w, ρ, S, _, ex, A, xo, fun x S1 q1 v w1 H1 l1 A1 r1 => ⟨w1, ρ, S1, _, ex, A1, xo.later l1, fun y S2 q2 u w2 H2 l2 A2 r2 => by
    have r1' := r1.mono l2.s
    split at q2
    · cases r1' with
      | lst h1 rr1 =>
        obtain rfl := rep_int r2
        obtain ⟨⟨k1, k2, k3⟩, q2⟩ := q2
        exact ⟨_, _, _, rfl, rfl, A2.ih _ _ h1, by omega, by omega, by rw [rr1.length]; exact k3.line, fun p hp => ko _ S2 q2 p _ w2 _ (l1.trans l2) (A2.grow (same_new hp)) upd_same (fresh_new A2 hp) (rr1.rep _)⟩
    · exact q2.elim, q1⟩, q⟩
end
end R3

namespace R3
open PySem PySem.Spec PyProof.Rows L2
section
variable {P : Program} {w : World} {K : PySem.W.Frag} {mg : Str → Option Value} {base : Heap} {CX : CXT} {j k : Nat} {f : Addr} {fd : FuncData} {ps : List Str} {sp sp' : Sp}
end
section
variable {P : Program} {w : World} {g : Sg} {mg : Str → Option Value} {base : Heap} {f : Addr} {fd : FuncData} {x qual : Str} {params : Arguments} {body : List Stmt} {scope : Scope} {dvs : List V} {kws : List (Str × V)}
end
section
variable {g : Sg} {X : Cx} {W : WX} {a b c e : Expr} {pos : Pos} {fa fb fe : FE} {es : List Expr} {fr : FA}
end
end R3

namespace R3
open PySem PySem.Spec PyProof.Rows L2
section
variable {g : Sg} {X : Cx} {W : WX} {a b c e : Expr} {pos p p2 : Pos} {fa fb fe fv fj : FE} {x : Str}
end
end R3

namespace R3
open PySem PySem.Spec PyProof.Rows L2
/-- the items at the places is -/
def pickI {α : Type} (is : List Nat) (l : List α) : List α := is.filterMap (l[·]?)
theorem Vals.pick {vs : List V} {us : List Value} (r : Vals vs us) : ∀ is : List Nat, Vals (pickI is vs) (pickI is us)
  | [] => .nil
  | i :: is => by
    have ih := Vals.pick r is
    unfold pickI at ih ⊢
    rw [List.filterMap_cons, List.filterMap_cons]
    cases e : vs[i]? with
    | none =>
      have hl := List.getElem?_eq_none_iff.mp e
      rw [List.getElem?_eq_none (by rw [← r.length]; exact hl)]
      exact ih
    | some v =>
      obtain ⟨u, eu, ru⟩ := r.get e
      rw [eu]
      exact .cons ru ih
section
variable {g : Sg}
theorem Reps.pick {w : Wd} {vs : List V} {ds : List D} (r : Reps g w vs ds) : ∀ is : List Nat, Reps g w (pickI is vs) (pickI is ds)
  | [] => .nil
  | i :: is => by
    have ih := Reps.pick r is
    unfold pickI at ih ⊢
    rw [List.filterMap_cons, List.filterMap_cons]
    cases e : vs[i]? with
    | none =>
      have hl := List.getElem?_eq_none_iff.mp e
      rw [List.getElem?_eq_none (by rw [← r.length]; exact hl)]
      exact ih
    | some v =>
      obtain ⟨d, ed, rd⟩ := r.get e
      rw [ed]
      exact .cons rd ih
end
section
variable {P : Program} {w : World} {K : PySem.W.Frag} {mg : Str → Option Value} {base : Heap} {CX : CXT} {k n : Nat} {f : Addr} {fd : FuncData} {ps ks : List Str} {sp sp' : Sp} {gg : List Value → List Value → List Value} {gV : List V → List V → List V}
variable {x qual : Str} {params : Arguments} {body : List Stmt} {scope : Scope} {dvs : List V} {kws : List (Str × V)}
end
section
variable {g : Sg} {n m N : Nat} {is : List Nat} {dvs : List V} {dd : List D} {C C1 : Ct}
end
abbrev EK (g : Sg) (X : Cx) (W : WX) (kws : List Keyword) (f : FA) : Prop := PK X kws (rdA g W f)
section
variable {g : Sg} {X : Cx} {W : WX} {e o : Expr} {es : List Expr} {kws : List Keyword} {fe fo : FE} {fr fk : FA} {pos apos kpos p : Pos} {nm : Option Str}
theorem knil : EK g X W [] wNil := PK.imp pk_nil fun σ H Q ⟨w, ρ, S, K, ex, A, xo, ko, q⟩ => ko [] S q [] w H (Le.refl w) A .nil
theorem kcons (ha : EV g X W e fe) (hr : EK g X W kws fk) : EK g X W (⟨nm, e, kpos⟩ :: kws) (wCons fe fk) :=
  PK.imp (pk_cons ha hr) fun σ H Q ⟨w, ρ, S, K, ex, A, xo, ko, q⟩ => ⟨w, ρ, S, _, ex, A, xo, fun x S1 q1 v w1 H1 l1 A1 r1 => ⟨w1, ρ, S1, _, ex, A1, xo.later l1, fun ds S2 q2 vs w2 H2 l2 A2 r2 => ko _ S2 q2 _ w2 H2 (l1.trans l2) A2 (.cons (r1.mono l2.s) r2), q1⟩, q⟩
theorem rdK_run (ha : EK g X W kws fk) {pins : List (Addr × Obj)} {s : Shared} {σ : L2.St} {H : Hp} {w : Wd} {ρ : List Sl} {S : Store} {K : List D → Store → Prop} {ex : KX} (pos : Pos) (I : Inv X pins σ H s) (A : At g w ρ S σ H) (xo : XOk g W σ ρ w ex) (q : fk ρ S K ex) :
    wpAny (model X.prog X.w) X.A (evalAll ((backToKw pos (keywordEach kws X.env)).map (·.2))) (fun us s1 => ∃ vs H1 w1 ds S1, Inv X pins σ H1 s1 ∧ Vals vs us ∧ Le w w1 ∧ At g w1 ρ S1 σ H1 ∧ Reps g w1 vs ds ∧ K ds S1) X.xe s :=
  thn (ha.run pos pins s σ H (fun vs H1 => ∃ w1 ds S1, Le w w1 ∧ At g w1 ρ S1 σ H1 ∧ Reps g w1 vs ds ∧ K ds S1) I ⟨w, ρ, S, K, ex, A, xo, fun ds S1 k vs w1 H1 l1 A1 r1 => ⟨w1, ds, S1, l1, A1, r1, k⟩, q⟩) fun us s1 ⟨vs, H1, I1, rv, w1, ds, S1, l1, A1, r1, k⟩ => ⟨vs, H1, w1, ds, S1, I1, rv, l1, A1, r1, k⟩
end
section
variable {g : Sg}
end
end R3

namespace R3
open PySem PySem.Spec PyProof.Rows L2 HT
section
variable {prog : Program} {w : World} {A : Around} {E : Value → Shared → Prop} {s : Shared}
end
section
variable {g : Sg} {X : Cx} {W : WX} {e : Expr} {fe : FE} {pos : Pos}
end
end R3

namespace R3
open PySem PySem.Spec PyProof.Rows L2
section
variable {prog : Program} {w : World} {A : Around} {E : Value → Shared → Prop} {s : Shared} {K : Fr} {x C L f : Addr} {h₀ : Heap} {m : Str → Option Value} {ox : Obj} {od : Option Obj} {b tb : Value}
end
section
variable {g : Sg} {X : Cx} {W : WX}
end
end R3

namespace R3
open PySem PySem.Spec PyProof.Rows L2
section
variable {g : Sg} {X : Cx}
end
end R3

namespace R3
open PySem PySem.Spec PyProof.Rows L2
section
variable {g : Sg} {X : Cx} {W : WX}
end
end R3

namespace R3
open PySem PySem.Spec PyProof.Rows L2
section
variable {prog : Program} {w : World} {A : Around} {E : Value → Shared → Prop} {s : Shared} {K : Fr} {x C L f dx : Addr} {h₀ : Heap} {m : Str → Option Value} {i : Int} {t : Tok} {ox : Obj} {od : Option Obj}
end
section
variable {g : Sg} {X : Cx} {W : WX}
end
end R3

namespace R3
open PySem PySem.Spec PyProof.Rows L2
section
variable {prog : Program} {w : World} {A : Around} {E : Value → Shared → Prop} {s : Shared} {K : Fr} {x C f : Addr} {ox : Obj} {od : Option Obj}
end
section
variable {g : Sg} {X : Cx} {W : WX} {e o : Expr} {pos : Pos} {fe fo : FE} {es : List Expr} {fr : FA}
end
section
variable {K : PySem.W.Frag} {f : Addr} {fd : FuncData} {ps : List Str} {x qual : Str} {params : Arguments} {body : List Stmt} {scope : Scope} {dvs : List V} {kws : List (Str × V)}
/-- where there are no defaults -/
theorem FunD.kb0N (F : FunD K x qual params body scope dvs kws f fd) (hd : dvs = []) (n : Nat) (ks : List Str) (is : List Nat)
    (h : ∀ (kV doc pm : Value) (an : Option Addr) (cdv ct : Value) (us ws : List Value), us.length = n → ws.length = ks.length → bindArgs (PySem.W.fnOf x qual params body scope .none kV doc pm an cdv ct) ⟨us, ks.zip ws⟩ = pure (ps.zip (pickI is (us ++ ws)))) :
    KBn K fd ps n ks (fun us ws => pickI is (us ++ ws)) (fun vs zs => pickI is (vs ++ zs)) := by
  obtain ⟨oc, od, dV, kV, doc, pm, an, cdv, ct, osl, rfl, lk, hcd, hD, hK⟩ := F.ex
  obtain rfl : dV = .none := by
    rcases hD with ⟨_, e⟩ | ⟨e, _⟩
    · exact e
    · exact absurd hd e
  refine ⟨fun s us ws X l1 l2 => BindsTo.of_looks fun M => ?_, fun r1 r2 => Vals.pick (r1.append r2) is⟩
  rw [h kV doc pm an cdv ct us ws l1 l2]
  exact .now
end
section
variable {g : Sg} {c m N : Nat} {is js : List Nat} {dvs : List V} {dd : List D} {C C1 : Ct}
end
section
variable {g : Sg} {X : Cx} {W : WX} {a b e o : Expr} {pos apos : Pos} {fa fb fe fo : FE} {es : List Expr} {kws : List Keyword} {fr fk : FA} {st : Stmt}
end
end R3

namespace R3
open PySem PySem.Spec PyProof.Rows L2
section
variable {prog : Program} {w : World} {A : Around} {E : Value → Shared → Prop} {s : Shared} {K : Fr} {x C L f f0 dx : Addr} {h₀ : Heap} {m : Str → Option Value} {i : Int} {t : Tok} {ox : Obj} {od : Option Obj}
end
section
variable {g : Sg} {X : Cx} {W : WX}
end
end R3

namespace R3
open PySem PySem.Spec PyProof.Rows L2
section
variable {prog : Program} {w : World} {A : Around} {s : Shared} {R : Result → Shared → Prop} {S z : Addr} {ty : String} {wr : List Addr} {n : Nat} {P : Nat → Array Value → Prop} {St : Nat → Heap → Prop}
end
section
variable {prog : Program} {w : World} {A : Around} {E : Value → Shared → Prop} {s : Shared} {z : Addr} {ty : String} {wr : List Addr} {n : Nat} {P : Nat → Array Value → Prop} {St : Nat → Heap → Prop}
end
end R3

namespace R3
open PySem PySem.Spec PyProof.Rows L2
section
variable {prog : Program} {w : World} {A : Around} {E : Value → Shared → Prop} {s : Shared} {z TI TO i1 i2 i3 T : Addr} {fp1 fp2 fp3 : List Addr} {n i : Nat} {P1 P2 P3 : Nat → Value → Prop} {St1 St2 St3 : Nat → Heap → Prop} {f : Bool} {oT : Obj}
end
end R3

namespace R3
open PySem PySem.Spec PyProof.Rows L2
/-- tuples are laid -/
def layT : Hp → List Addr → List (List V) → Hp
  | H, a :: as, vs :: r => layT (upd H a (.tup vs)) as r
  | H, _, _ => H
theorem layT_off {b : Addr} : ∀ (as : List Addr) (ts : List (List V)) (H : Hp), b ∉ as → layT H as ts b = H b
  | [], _, _, _ => rfl
  | _ :: _, [], _, _ => rfl
  | a :: as, p :: ts, H, h => by
    show layT (upd H a (.tup p)) as ts b = H b
    rw [layT_off as ts _ (fun z => h (List.mem_cons_of_mem _ z)), upd_ne (fun z => h (by rw [z]; exact List.mem_cons_self))]
theorem layT_at : ∀ (as : List Addr) (ts : List (List V)) (H : Hp) (j : Nat) (a : Addr) (vs : List V), as.Nodup → as[j]? = some a → ts[j]? = some vs → layT H as ts a = some (.tup vs)
  | [], _, _, _, _, _, _, h, _ => by simp at h
  | _ :: _, [], _, _, _, _, _, _, h => by simp at h
  | b :: as, p :: ts, H, 0, a, vs, hn, h1, h2 => by
    have e1 : b = a := by simpa using h1
    have e2 : p = vs := by simpa using h2
    subst e1 e2
    show layT (upd H b (.tup p)) as ts b = _
    rw [layT_off as ts _ (List.nodup_cons.mp hn).1, upd_same]
  | b :: as, p :: ts, H, j + 1, a, vs, hn, h1, h2 => layT_at as ts _ j a vs (List.nodup_cons.mp hn).2 (by simpa using h1) (by simpa using h2)
section
variable {g : Sg} {w : Wd} {ρ : List Sl} {S : Store} {σ : L2.St}
theorem At.layT : ∀ {as : List Addr} {ts : List (List V)} {dss : List (List D)} {w : Wd} {H : Hp}, At g w ρ S σ H → as.length = ts.length → (∀ a ∈ as, H a = none) → as.Nodup → RepsL g w ts dss →
    ∃ w', Le w w' ∧ At g w' ρ S σ (layT H as ts) ∧ Reps g w' (as.map V.ref) (dss.map D.tup)
  | [], [], _, w, H, A, _, _, _, .nil => ⟨w, Le.refl w, A, .nil⟩
  | a :: as, vs :: ts, ds :: dss, w, H, A, hl, hf, hn, .cons r rr => by
    have ha := hf a List.mem_cons_self
    have hn' := List.nodup_cons.mp hn
    have l1 := le_add (o := .tup vs) A.if_ (A.free ha)
    have A1 := A.lay (o := .tup vs) ha
    obtain ⟨w', l2, A2, r2⟩ := At.layT (as := as) (ts := ts) (dss := dss) A1 (Nat.succ.inj hl) (fun b hb => by
      have ne : b ≠ a := fun z => hn'.1 (by rw [← z]; exact hb)
      rw [upd_ne ne]
      exact hf b (List.mem_cons_of_mem _ hb)) hn'.2 (rr.mono l1.s)
    exact ⟨w', l1.trans l2, A2, .cons (.tup (SqT.of (l2.s.i _ _ upd_same)) ((r.mono l1.s).mono l2.s)) r2⟩
end
section
variable {g : Sg} {X : Cx} {W : WX}
theorem laid {pins : List (Addr × Obj)} {σ : L2.St} {H : Hp} {s : Shared} {h' : Heap} {tk c : Nat} {acc : Array Value} {L : Addr} {as : List Addr} {ts : List (List V)} (I : Inv X pins σ H s) (hk : ∀ b o, s.heap.get? b = some o → h'.get? b = some o) (hL : s.heap.objs.size ≤ L)
    (hS : h'.get? L = some { cls := .type "list", dict := none, data := .seq acc c, slots := #[] }) (hrise : as.Pairwise (· < ·)) (hab : ∀ a ∈ as, L < a) (hl : as.length = ts.length) (hz : as.length ≤ sizeLine)
    (hv : ∀ (j : Nat) (a : Addr) (vs : List V), as[j]? = some a → ts[j]? = some vs → ∃ vals : Array Value, vs.length ≤ sizeLine ∧ Vals vs vals.toList ∧ h'.get? a = some { cls := .type "tuple", data := .seq vals }) (hacc : acc.toList = as.map Value.ref) :
    Inv X pins σ (upd (layT H as ts) L (.lst (as.map V.ref))) { s with heap := h', toks := tk } := by
  have hLn : L ∉ as := fun z => Nat.lt_irrefl _ (hab _ z)
  have nd : as.Nodup := List.Pairwise.imp (fun {a b} (h : a < b) => Nat.ne_of_lt h) hrise
  have new : ∀ t ∈ as, H t = none := fun t ht => I.hok.fresh (Nat.le_trans hL (Nat.le_of_lt (hab t ht)))
  have newL : H L = none := I.hok.fresh hL
  have off : ∀ b, b ∉ as → b ≠ L → upd (layT H as ts) L (.lst (as.map V.ref)) b = H b := fun b h1 h2 => by rw [upd_ne h2, layT_off as ts _ h1]
  have low : ∀ b o, s.heap.get? b = some o → b ∉ as ∧ b ≠ L := fun b o e => ⟨fun z => absurd (Heap.lt_size e) (Nat.not_lt.mpr (Nat.le_trans hL (Nat.le_of_lt (hab b z)))), Nat.ne_of_lt (Nat.lt_of_lt_of_le (Heap.lt_size e) hL)⟩
  have kp : ∀ b u, H b = some u → upd (layT H as ts) L (.lst (as.map V.ref)) b = some u := fun b u e => by
    rw [off b (fun z => by rw [new b z] at e; cases e) (fun z => by rw [z, newL] at e; cases e)]
    exact e
  refine I.call' (ch := []) rfl ⟨fun b o q _ _ _ => hk b o q, fun b o q _ _ _ => ⟨o.slots, hk b o q⟩, fun b o q n _ => ?_, fun b o q _ => ⟨o, hk b o q⟩, fun b xs q => kp b _ q, fun b o u q => kp b _ q, fun b ps q => ⟨#[], by rw [kp b _ q]; simp⟩⟩ (fun b u q => ?_) I.bare fun b z => absurd z (by simp)
  · obtain ⟨z1, z2⟩ := low b o q
    rw [off b z1 z2]
    exact n
  · by_cases hb2 : b = L
    · subst hb2
      rw [upd_same] at q
      cases q
      refine ⟨by rw [List.length_map]; exact hz, acc.toList, c, by rw [hacc]; exact LiI.vals_refs as, ?_⟩
      rw [Array.toArray_toList]
      exact hS
    · by_cases hb : b ∈ as
      · rw [upd_ne hb2] at q
        obtain ⟨j, hj⟩ := List.mem_iff_getElem?.mp hb
        obtain ⟨vs, hvs⟩ : ∃ vs, ts[j]? = some vs := by
          have : j < ts.length := by rw [← hl]; exact (List.getElem?_eq_some_iff.mp hj).1
          exact ⟨ts[j], by simp [this]⟩
        rw [layT_at as ts H j b vs nd hj hvs] at q
        cases q
        obtain ⟨vals, e1, e2, e3⟩ := hv j b vs hj hvs
        exact ⟨e1, vals.toList, e2, ⟨_, e3, rfl, _, by rw [Array.toArray_toList]⟩⟩
      · rw [off b hb hb2] at q
        exact (I.hok b u q).stay (fun d v _ y => hk d v y) (fun d y => kp d _ y) fun d xs y => kp d _ y
end
end R3

namespace R3
open PySem PySem.Spec PyProof.Rows L2
section
variable {g : Sg} {X : Cx} {W : WX} {e : Expr} {fe : FE} {pos : Pos}
end
end R3

namespace R3
open PySem PySem.Spec PyProof.Rows L2
mutual
/-- no list, nothing of the store, no instance of a class whose instances change -/
def nomu : D → Bool
  | .tup xs => nomus xs
  | .obj c xs => (c == 0 || c == 1) && nomus xs
  | .lst _ => false
  | .ref _ => false
  | .scr _ => false
  | .dic _ => false
  | .cls _ => false
  | .err _ _ => false
  | _ => true
def nomus : List D → Bool
  | [] => true
  | d :: r => nomu d && nomus r
end
/-- what is behind a reference, n steps deep; mc: the classes whose instances change -/
def flatN (mc : List Nat) (S : Store) : Nat → D → D
  | n + 1, .ref k => (match S[k]? with
    | some (some (.lst ds)) => .lst (ds.map (flatN mc S n))
    | some (some (.ins c ds)) => if c ∈ mc then .obj c (ds.map (flatN mc S n)) else .ref k
    | _ => .ref k)
  | _, d => d
def deepL (mc : List Nat) (S : Store) : Sl → Sl
  | .no => .no
  | .val d => .val (flatN mc S 4 d)
  | .own (.lst ds) => .val (.lst (ds.map (flatN mc S 4)))
  | .own _ => .no
  | .exc => .exc
def deepE (mc : List Nat) (S : Store) : List Sl → List Sl
  | [] => []
  | s :: r => deepL mc S s :: deepE mc S r
theorem deepE_len (mc : List Nat) (S : Store) : ∀ ρ : List Sl, (deepE mc S ρ).length = ρ.length
  | [] => rfl
  | _ :: r => congrArg (· + 1) (deepE_len mc S r)
theorem deepE_at (mc : List Nat) (S : Store) : ∀ (ρ : List Sl) (i : Nat), Env.at (deepE mc S ρ) i = deepL mc S (Env.at ρ i)
  | [], i => rfl
  | s :: r, 0 => rfl
  | s :: r, i + 1 => deepE_at mc S r i
/-- the classes lie apart -/
def Apart (g : Sg) (mc : List Nat) : Prop := ∀ c ∈ mc, g.ad 0 ≠ g.ad c ∧ g.ad 1 ≠ g.ad c
section
open Classical
variable {g : Sg} {w : Wd} {ρ : List Sl} {S : Store} {σ : L2.St} {H : Hp} {mc : List Nat}
theorem LentD.muta {a : Addr} (h : LentD mc w ρ S σ a) : Muta w ρ S σ a := by
  rcases h with h | ⟨k, c, ds, h1, _, h2⟩
  · exact h.muta
  · exact .inr ⟨k, _, h1, h2⟩
noncomputable def Wd.deep (mc : List Nat) (w : Wd) (ρ : List Sl) (S : Store) (σ : L2.St) (H : Hp) : Wd := { w with I := fun a => if LentD mc w ρ S σ a then H a else w.I a, F := H }
theorem deep_sub (A : At g w ρ S σ H) : Sub w (w.deep mc ρ S σ H) := ⟨fun a o h => by
  show (if _ then _ else _) = _
  split
  · exact A.ih a o h
  · exact h, fun _ _ => rfl, Nat.le_refl _⟩
theorem rep_deep (A : At g w ρ S σ H) : ∀ (n : Nat) {v : V} {d : D}, Rep g w v d → Rep g (w.deep mc ρ S σ H) v (flatN mc S n d) := by
  have look : ∀ a, LentD mc w ρ S σ a → (w.deep mc ρ S σ H).I a = H a := fun a h => if_pos h
  intro n
  induction n with
  | zero =>
    intro v d r
    have e : flatN mc S 0 d = d := by cases d <;> rfl
    rw [e]
    exact r.mono (deep_sub A)
  | succ n ih =>
    have all : ∀ {vs : List V} {ds : List D}, Reps g w vs ds → Reps g (w.deep mc ρ S σ H) vs (ds.map (flatN mc S n)) := by
      intro vs
      induction vs with
      | nil => intro ds r; cases r; exact .nil
      | cons v vs ihv =>
        intro ds r
        cases r with
        | cons h r => exact .cons (ih h) (ihv r)
    intro v d r
    cases d with
    | ref k =>
      have e : flatN mc S (n + 1) (.ref k) = (match S[k]? with
        | some (some (.lst ds)) => .lst (ds.map (flatN mc S n))
        | some (some (.ins c ds)) => if c ∈ mc then .obj c (ds.map (flatN mc S n)) else .ref k
        | _ => .ref k) := rfl
      rw [e]
      split
      · rename_i ds hS
        obtain ⟨rfl, _⟩ := rep_ref r
        obtain ⟨_, vs, e2, rr⟩ := A.st k _ hS
        exact .lst ((look _ (.inl (.inr ⟨k, ds, hS, rfl⟩))).trans e2) (all rr)
      · rename_i c ds hS
        split
        · rename_i hc
          obtain ⟨rfl, _⟩ := rep_ref r
          obtain ⟨_, dx, vs, e2, hl, rr⟩ := A.st k _ hS
          exact .obj (dx := dx) ((look _ (.inr ⟨k, c, ds, hS, hc, rfl⟩)).trans e2) hl (all rr)
        · exact r.mono (deep_sub A)
      · exact r.mono (deep_sub A)
    | _ => exact r.mono (deep_sub A)
theorem reps_deep (A : At g w ρ S σ H) (n : Nat) : ∀ {vs : List V} {ds : List D}, Reps g w vs ds → Reps g (w.deep mc ρ S σ H) vs (ds.map (flatN mc S n))
  | _, _, .nil => .nil
  | _, _, .cons h r => .cons (rep_deep A n h) (reps_deep A n r)
theorem At.deep (A : At g w ρ S σ H) : At g (w.deep mc ρ S σ H) (deepE mc S ρ) (flatS S) σ H := by
  have look : ∀ a, LentD mc w ρ S σ a → (w.deep mc ρ S σ H).I a = H a := fun a h => if_pos h
  refine ⟨fun a o h => ?_, fun _ _ z => z, by rw [flatS_len]; exact A.len, fun k o h => absurd h (flatS_no S k o), fun j k oj ok h => absurd h (flatS_no S j oj), by rw [deepE_len]; exact A.sl, fun i d h => ?_, fun i o h => ?_, fun i h => ?_⟩
  · have h' : (if LentD mc w ρ S σ a then H a else w.I a) = some o := h
    split at h'
    · exact h'
    · exact A.ih a o h'
  · rw [deepE_at] at h
    cases e : Env.at ρ i with
    | no => rw [e] at h; cases h
    | val d0 =>
      rw [e] at h
      cases h
      obtain ⟨v, h1, h2⟩ := A.val i d0 e
      exact ⟨v, h1, rep_deep A 4 h2⟩
    | own o =>
      rw [e] at h
      cases o with
      | lst ds =>
        cases h
        obtain ⟨a, h1, h2, ⟨vs, e2, rr⟩, _⟩ := A.own i _ e
        exact ⟨.ref a, h1, .lst ((look _ (.inl (.inl ⟨i, ds, e, h1⟩))).trans e2) (reps_deep A 4 rr)⟩
      | _ => cases h
    | exc => rw [e] at h; cases h
  · rw [deepE_at] at h
    cases e : Env.at ρ i with
    | no => rw [e] at h; cases h
    | val d0 => rw [e] at h; cases h
    | own o => rw [e] at h; cases o <;> cases h
    | exc => rw [e] at h; cases h
  · rw [deepE_at] at h
    cases e : Env.at ρ i with
    | no => rw [e] at h; cases h
    | val d0 => rw [e] at h; cases h
    | own o => rw [e] at h; cases o <;> cases h
    | exc => exact (A.xc i e).mono (deep_sub A) rfl
noncomputable def Wd.undeep (mc : List Nat) (w w' : Wd) (ρ : List Sl) (S : Store) (σ : L2.St) : Wd := { w with I := fun a => if LentD mc w ρ S σ a then none else w'.I a, F := fun a => if Muta w ρ S σ a then none else w'.F a }
theorem At.undeep {w' : Wd} {ρ' : List Sl} {S' : Store} {σ' : L2.St} {H' : Hp} (A : At g w ρ S σ H) (l : Le (w.deep mc ρ S σ H) w') (B : At g w' ρ' S' σ' H') : Le w (w.undeep mc w' ρ S σ) ∧ At g (w.undeep mc w' ρ S σ) ρ S σ H' := by
  have notM : ∀ a u, w.F a = some u → ¬ Muta w ρ S σ a := fun a u h m => by
    have z := (m.free A).1
    rw [h] at z
    cases z
  have keep : ∀ a u, H a = some u → H' a = some u ∧ w'.F a = some u := fun a u h => ⟨B.fh a u (l.f a u h), l.f a u h⟩
  have sI : Same w.I (w.undeep mc w' ρ S σ).I := fun a u h => by
    have nl : ¬ LentD mc w ρ S σ a := fun z => notM a u (A.if_ a u h) z.muta
    show (if _ then _ else _) = _
    rw [if_neg nl]
    exact l.s.i a u ((deep_sub A).i a u h)
  have sub : Sub w (w.undeep mc w' ρ S σ) := ⟨sI, fun _ _ => rfl, Nat.le_refl _⟩
  refine ⟨⟨sub, fun a u h => ?_, fun b h1 h2 => ?_⟩, ⟨fun a u h => ?_, fun a u h => ?_, A.len, fun k o h => ⟨if_pos (.inr ⟨k, o, h, rfl⟩), ?_⟩, A.inj, A.sl, fun i d h => ?_, fun i o h => ?_, fun i h => (A.xc i h).mono sub rfl⟩⟩
  · show (if _ then _ else _) = _
    rw [if_neg (notM a u h)]
    exact (keep a u (A.fh a u h)).2
  · show (if _ then _ else _) = _
    split
    · rfl
    · rename_i nl
      refine l.new b ?_ ?_
      · show (if _ then _ else _) = _
        rw [if_neg nl]
        exact h1
      · show H b ≠ none
        cases e : w.F b with
        | none => exact absurd e h2
        | some u => rw [A.fh b u e]; exact fun z => nomatch z
  · have h' : (if LentD mc w ρ S σ a then none else w'.I a) = some u := h
    split at h'
    · cases h'
    · rename_i nl
      have nm : ¬ Muta w ρ S σ a := fun m => by
        obtain ⟨m1, u2, m2⟩ := m.free A
        have z := l.new a (by show (if _ then _ else _) = _; rw [if_neg nl]; exact A.freeI m1) (by show H a ≠ none; rw [m2]; exact fun z => nomatch z)
        rw [h'] at z
        cases z
      show (if _ then _ else _) = _
      rw [if_neg nm]
      exact B.if_ a u h'
  · have h' : (if Muta w ρ S σ a then none else w'.F a) = some u := h
    split at h'
    · cases h'
    · exact B.fh a u h'
  · obtain ⟨h1, h2⟩ := A.st k o h
    obtain ⟨u, hu⟩ := h2.some
    exact h2.mono sub ((keep _ u hu).1.trans hu.symm)
  · obtain ⟨v, h1, h2⟩ := A.val i d h
    exact ⟨v, h1, h2.mono sub⟩
  · obtain ⟨a, h1, h2, h3, h4, h5⟩ := A.own i o h
    obtain ⟨u, hu⟩ := h3.some
    exact ⟨a, h1, if_pos (.inl ⟨i, o, h, h1⟩), h3.mono sub ((keep _ u hu).1.trans hu.symm), h4, h5⟩
theorem lent_is {w' : Wd} (A : At g w ρ S σ H) (l : Le (w.deep mc ρ S σ H) w') {a : Addr} (h : LentD mc w ρ S σ a) : (∃ vs, w'.I a = some (.lst vs)) ∨ ∃ c dx fs, c ∈ mc ∧ w'.I a = some (.ins (g.ad c) dx fs) := by
  rcases h.what A with ⟨vs, e⟩ | ⟨c, dx, fs, hc, e⟩
  · exact .inl ⟨vs, l.s.i a _ ((if_pos h).trans e)⟩
  · exact .inr ⟨c, dx, fs, hc, l.s.i a _ ((if_pos h).trans e)⟩
mutual
theorem Rep.undeep {w' : Wd} (ap : Apart g mc) (A : At g w ρ S σ H) (l : Le (w.deep mc ρ S σ H) w') : ∀ {v : V} {d : D}, Rep g w' v d → nomu d = true → Rep g (w.undeep mc w' ρ S σ) v d
  | _, _, .non, _ => .non
  | _, _, .bl b, _ => .bl b
  | _, _, .int b, _ => .int b
  | _, _, .str b, _ => .str b
  | _, _, .ty b, _ => .ty b
  | _, _, .tup (a := a) h r, n => by
    refine .tup ?_ (Reps.undeep ap A l r n)
    have nl : ∀ o, w'.I a = some o → (∀ vs, o ≠ .lst vs) → (∀ c dx fs, o ≠ .ins c dx fs) → (w.undeep mc w' ρ S σ).I a = some o := fun o e ne ne2 => by
      have z : ¬ LentD mc w ρ S σ a := fun z => by
        rcases lent_is A l z with ⟨vs, q⟩ | ⟨c, dx, fs, _, q⟩
        · rw [e] at q
          cases q
          exact ne vs rfl
        · rw [e] at q
          cases q
          exact ne2 _ _ _ rfl
      exact (if_neg z).trans e
    rcases h with (h | ⟨o, h⟩) | h
    · exact .inl (.inl (nl _ h (fun _ z => nomatch z) fun _ _ _ z => nomatch z))
    · exact .inl (.inr ⟨o, nl _ h (fun _ z => nomatch z) fun _ _ _ z => nomatch z⟩)
    · exact .inr h
  | _, _, .lst _ _, n => by cases n
  | _, _, .scr _, n => by cases n
  | _, _, .obj (a := a) (dx := dx) (c := c) h hl r, n => by
    have n' := Bool.and_eq_true_iff.mp (show ((c == 0 || c == 1) && nomus _) = true from n)
    refine .obj (dx := dx) ?_ hl (Reps.undeep ap A l r n'.2)
    have hc : c = 0 ∨ c = 1 := by simpa using n'.1
    have z : ¬ LentD mc w ρ S σ a := fun z => by
      rcases lent_is A l z with ⟨vs, q⟩ | ⟨c', dx', fs, hm, q⟩
      · rw [h] at q
        cases q
      · rw [h] at q
        have e : g.ad c = g.ad c' := by injection q with q; injection q with q
        rcases hc with rfl | rfl
        · exact (ap c' hm).1 e
        · exact (ap c' hm).2 e
    exact (if_neg z).trans h
  | _, _, .ref _, n => by cases n
  | _, _, .dic _, n => by cases n
  | _, _, .cls _, n => by cases n
  | _, _, .err _ _ _ _, n => by cases n
theorem Reps.undeep {w' : Wd} (ap : Apart g mc) (A : At g w ρ S σ H) (l : Le (w.deep mc ρ S σ H) w') : ∀ {v : List V} {d : List D}, Reps g w' v d → nomus d = true → Reps g (w.undeep mc w' ρ S σ) v d
  | _, _, .nil, _ => .nil
  | _, _, .cons h r, n => by
    have n' := Bool.and_eq_true_iff.mp n
    exact .cons (Rep.undeep ap A l h n'.1) (Reps.undeep ap A l r n'.2)
end
end
section
variable {g : Sg} {X : Cx} {W : WX} {e : Expr} {fe : FE} {ft : FT} {fr : FA} {mc : List Nat}
theorem xo_deep {σ : L2.St} {ρ : List Sl} {S : Store} {H : Hp} {w : Wd} {ex : KX} (ap : Apart g mc) (A : At g w ρ S σ H) (xo : XOk g W σ ρ w ex) : XOk g W σ (deepE mc S ρ) (w.deep mc ρ S σ H) (fun x _ => nomus x.fs = true ∧ ex x S) := fun x S' e w' H' cls dd l B r => by
  obtain ⟨l2, A2⟩ := A.undeep l B
  obtain ⟨h1, a, vs, h2, h3, h4, h5⟩ := r
  have z : ¬ LentD mc w ρ S σ a := fun z => by
    rcases lent_is A l z with ⟨us, q⟩ | ⟨c, dx, fs, _, q⟩
    · rw [h3] at q
      cases q
    · rw [h3] at q
      cases q
  exact xo x S e.2 _ H' cls dd l2 A2 ⟨h1, a, vs, h2, (if_neg z).trans h3, h4, h5.undeep ap A l e.1⟩
def wDeep (mc : List Nat) (f : FE) (ρ : List Sl) (S : Store) (K : KD) (ex : KX) : Prop := f (deepE mc S ρ) (flatS S) (fun d _ => nomu d = true ∧ K d S) (fun x _ => nomus x.fs = true ∧ ex x S)
theorem deep (ap : Apart g mc) (h : EV g X W e fe) : EV g X W e (wDeep mc fe) := PE.imp h fun σ H Q ⟨w, ρ, S, K, ex, A, xo, ko, q⟩ =>
  ⟨w.deep mc ρ S σ H, deepE mc S ρ, flatS S, _, _, A.deep, xo_deep ap A xo, fun d S' k v w' H' l B r => by
    obtain ⟨l2, A2⟩ := A.undeep l B
    exact ko d S k.2 v _ H' l2 A2 (r.undeep ap A l k.1), q⟩
end
end R3

namespace R3
open PySem PySem.Spec PyProof.Rows L2
section
variable {P : Program} {w : World} {g : Sg} {mg : Str → Option Value} {base : Heap} {f : Addr} {fd : FuncData} {x qual : Str} {params : Arguments} {body : List Stmt} {scope : Scope} {dvs : List V} {kws : List (Str × V)}
end
section
variable {g : Sg} {X : Cx} {W : WX} {e : Expr} {fe : FE} {pos : Pos}
theorem run_ctQ {A0 : Around} {k n : Nat} {C : Ct} {fn : Addr} {pins : List (Addr × Obj)} {s : Shared} {σ : L2.St} {H : Hp} {w : Wd} {ρ : List Sl} {S : Store} {ds : List D} {vs : List V} {us : List Value} {K : KD} {ex : KX} {Q : VK}
    (F : L2.FnR X.prog X.w X.K X.mg X.base (CXK kn X.prog X.w) k fn (spOf g n C)) (hr : L2.Room k A0) (e0 : Env0 X.prog X.w X.K X.mg X.base A0 X.stack s H) (tk : TakesK kn X W) (I : Inv X pins σ H s) (rv : Vals vs us) (A : At g w ρ S σ H) (rr : Reps g w vs ds) (hn : ds.length = n)
    (xo : XOk g W σ ρ w ex) (ko : KOk g w ρ σ K Q) (q : C ds S K ex) :
    codeAny (model X.prog X.w) A0 (.call (.ref fn) ⟨us, []⟩) (fun r s' => match r with | .ok (.ret v) => EP X pins σ Q v s' | .ok _ => False | .error e => X.xe e s') s := by
  refine codeAny_mono (F A0 X.stack s H us vs Q (WE W σ) hr e0 rv ?_) fun r s' hq => ?_
  · refine ⟨w.inner S H, ds, S, K, ex, hn, A.enter, reps_inner rr, fun d S' k v w' H' l A' r' => ?_, fun x S' e w' H' cls dd l A' r' => ?_, q⟩
    · obtain ⟨l2, A2⟩ := A.leave l A'
      exact ko d S' k v _ H' l2 A2 (r'.mono sub_outer)
    · obtain ⟨l2, A2⟩ := A.leave l A'
      obtain ⟨h1, a, vs, h2, h3, h4, h5⟩ := r'
      exact xo x S' e _ H' cls dd l2 A2 ⟨h1, a, vs, h2, h3, h4, h5.mono sub_outer⟩
  · cases r with
    | error e => exact passAtK tk σ pins H s e s' I hq
    | ok fl =>
      cases fl with
      | ret u => exact I.after hq
      | next => exact False.elim hq
      | brk => exact False.elim hq
      | cont => exact False.elim hq
end
/-- the text of an instance within a list -/
theorem reprU_K {prog : Program} {w : World} {A : Around} {E : Value → Shared → Prop} {s : Shared} {K : PySem.W.Frag} {x C f : Addr} {ox : Obj} {od : Option Obj} {base : Nat} {Q : Value → Shared → Prop} (hu : A.units < cLine) (X : K.In s.heap) (I : PySem.W.InstAt s.heap x ox C od) (hs : PySem.W.findIn K (.ref C) "__repr__" = some (some (.ref f))) (hf : PySem.W.isFn K (.ref f) = true)
    (h : wpAny (model prog w) A (call (.ref f) [.ref x]) (fun v s' => ∃ y u, v = .str y u ∧ Q v s') E s) : wpAny (model prog w) A (pyReprObjUnder base (.ref x)) Q E s := by
  unfold pyReprObjUnder pyReprObjBy
  refine wpAny_bind (wpAny_cRoomFor hu ?_)
  refine wpAny_bind (wpAny_bind (I.type.here ((PySem.W.looks_findIn X hs).here ?_)))
  show wpAny _ _ (if (some (Value.ref f)).isNone = true then _ else _) _ _ _
  rw [if_neg (by simp)]
  have fin : wpAny (model prog w) A (call (.ref f) ([.ref x] ++ []) >>= fun v => pure (some v)) (fun r s' => ∃ y u, r = some (.str y u) ∧ Q (.str y u) s') E s := wpAny_bind (wpAny_mono h (fun v s' h' => by
    obtain ⟨y, u, rfl, q⟩ := h'
    exact wpAny_pure ⟨y, u, rfl, q⟩) fun _ _ h' => h')
  refine wpAny_bind (wpAny_mono (Q := fun r s' => ∃ y u, r = some (Value.str y u) ∧ Q (.str y u) s') (t := callSpecialIfBoundBy? _ (.ref x) (Str.ofString "__repr__")) ?_ (fun r s' hr => ?_) fun _ _ z => z)
  · simp only [callSpecialIfBoundBy?, bindSpecialIfBound?]
    refine wpAny_holding (wpAny_bind (wpAny_bind (wpAny_bind (I.type.here ((PySem.W.looks_findIn X hs).here ?_)))))
    refine wpAny_bind (wpAny_askSetting (wpAny_ite ?_))
    split
    · exact wpAny_bind ((PySem.W.bind_fn X _ (beq_iff_eq.mp hf)).here (wpAny_pure (by exact fin)))
    · exact wpAny_tryCatch (wpAny_bind ((PySem.W.bind_fn X _ (beq_iff_eq.mp hf)).here (wpAny_pure (by exact fin))))
  · obtain ⟨y, u, rfl, q⟩ := hr
    refine wpAny_bind (wpAny_isInstance (typeIs_str _ _ _) isSubtype_str_str ?_)
    first
      | exact wpAny_pure q
      | (rw [if_pos rfl]; exact wpAny_pure q)
      | (simp only [if_true]; exact wpAny_pure q)
section
variable {g : Sg} {X : Cx} {W : WX} {pins : List (Addr × Obj)} {w : Wd} {ρ : List Sl} {S : Store} {σ : L2.St} {H : Hp} {s : Shared}
end
end R3

namespace R3
open PySem PySem.Spec PyProof.Rows L2
open Builtin Builtin.List
section
variable {g : Sg} {X : Cx} {W : WX}
theorem runok_is {S : Store} {k : Nat} {d : D} {t : Str} (h : ∀ (w : Wd) (v : V) (u : Value), Rep g w v d → RelV v u → ReprIs X.prog X.w u t) : RunOk g X S k d t := by
  intro base A0 gs pins s σ H w ρ v u Q hsz hg hgs hr hA I At0 ra ru hQ
  exact h w v u ra ru base hsz A0 X.xe s Q fun tk => hQ _ H w (Le.refl w) (I.tok _) At0
theorem runok_obj {S : Store} {k c : Nat} {C : Ct} (hK : g.K = X.K) (F : OwnQ (kn := kn) X.prog X.w X.mg X.base g k c "__repr__" 1 C) (tk : TakesK kn X W) {es : List D} {t : Str} (h : ∀ (K : KD) (ex : KX), K (.str t) S → C [.obj c es] S K ex) : RunOk g X S k (.obj c es) t := by
  intro base A0 gs pins s σ H w ρ v u Q hsz hg hgs hr hA I At0 ra ru hQ
  obtain ⟨p, ox, od, rfl, rfl, J⟩ := inst_of (c := c) (ds := es) I At0 ra (by unfold insOf; simp) ru
  obtain ⟨fn, h1, h2, Fn⟩ := F.ex
  rw [hK] at h1 h2 Fn
  have hun : A0.units + 200 < cLine := by have := hr.un; omega
  refine wpAny_pyReprUnder_ref (by omega) (reprU_K (by omega) I.kIn J h1 h2 ?_)
  have e0 : Env0 X.prog X.w X.K X.mg X.base A0 X.stack s H := ⟨hA, I.env0.mod, I.env0.bs, I.env0.bsz, I.env0.funs, I.env0.frf, I.env0.hok, I.env0.bare⟩
  refine wpAny_mono (wpAny_call (run_ctQ (W := W) (us := [.ref p]) (vs := [.ref p]) (K := fun d S' => d = .str t ∧ S' = S) (ex := fun _ _ => False) (Q := fun v H' => v = .str t ∧ ∃ w', Le w w' ∧ At g w' ρ S σ H') Fn (hr.mono (by omega)) e0 tk I (.cons rfl .nil) At0 (.one ra) rfl (fun _ _ z => z.elim) (fun d S' ⟨e1, e2⟩ v w' H' l' A' r' => ?_) (h _ _ ⟨rfl, rfl⟩))) (fun r s' hb => ?_) fun _ _ y => y
  · subst e1; subst e2
    exact ⟨rep_str r', w', l', A'⟩
  · obtain ⟨v, H', I', rv, rfl, w', l', A'⟩ := hb
    obtain ⟨tt, rfl⟩ := rv
    exact ⟨_, _, rfl, _, _, rfl, hQ s' H' w' l' I' A'⟩
theorem runok_dic {S : Store} {k : Nat} {kvs : List (Key × Int)} (hK : g.K = X.K) (hs : (PyData.dict (kvs.map fun p => (kP p.1, PyData.int p.2))).showable = true) (hdp : (PyData.dict (kvs.map fun p => (kP p.1, PyData.int p.2))).depth ≤ 1) (hz : kvs.all (fun p => kz p.1) = true) : RunOk g X S k (.dic kvs) (PyData.dict (kvs.map fun p => (kP p.1, PyData.int p.2))).shown := by
  intro base A0 gs pins s σ H w ρ v u Q hsz hg hgs hr hA I At0 ra ru hQ
  have hsh := hsz
  have hcl := fun (a : Addr) (rx : Rep g w (.ref a) (.dic kvs)) => hgs.clear hK I At0 rx rfl
  have hun : A0.units + 200 < cLine := by have := hr.un; omega
  cases id ra with
  | @dic a _ hi =>
    obtain rfl : u = Value.ref a := ru
    have hx : ObjOk X.prog X.w H s.heap a (.dK (kvs.map fun p => (p.1, V.int p.2))) := I.hok a _ (At0.ih _ _ hi)
    obtain ⟨_, hsys, vs, kv, o, es, ep, ho, ex, hd, _, pr, _⟩ := hx
    obtain ⟨r1, r2⟩ := pairs_reads (h := s.heap) kv pr
    obtain ⟨e1, e2⟩ := kv_split kvs
    simp only [PyData.shown] at hsz hQ ⊢
    obtain ⟨hs1, hs2⟩ := PyData.showableKv_split _ (by simpa [PyData.showable] using hs)
    have sh : ∀ (f : Key × Int → PyData) (hf : ∀ p, p ∈ kvs → ∀ (u : Value) (as : List Addr), Reads s.heap u (f p) as → (f p).showable = true → ReprIs X.prog X.w u (f p).shown) (l : List (Key × Int)), (∀ p, p ∈ l → p ∈ kvs) → PyData.showableAll (l.map fun p => f p) = true → ∀ {vs : List Value} {as : List Addr}, ReadsAll s.heap vs (l.map fun p => f p) as → ReprAllK X.prog X.w [] s.heap 0 vs (PyData.shownAll (l.map fun p => f p)) := by
      intro f hf l
      induction l with
      | nil => intro _ _ vs as r; cases r; exact .nil
      | cons p l ih =>
        intro hm hs vs as r
        obtain ⟨h1, h2⟩ := Bool.and_eq_true_iff.mp (show ((f p).showable && PyData.showableAll (l.map fun p => f p)) = true from hs)
        cases r with
        | cons ra rr => exact .cons (ReprK.of_is (hf p (hm p (List.mem_cons_self ..)) _ _ ra h1) _ _ _) (ih (fun q hq => hm q (List.mem_cons_of_mem _ hq)) h2 rr)
    have k1 := sh (fun p => kP p.1) (fun p hp u as r hs => by
      obtain ⟨p1, p2⟩ := p
      cases p1 with
      | inl i => cases r with | int i t => exact ReprIs.int t (of_decide_eq_true hs)
      | inr x => cases r with | str x t => exact ReprIs.str x t (of_decide_eq_true (List.all_eq_true.mp hz _ hp))) kvs (fun _ h => h) (by rw [e1] at hs1; exact hs1) r1
    have k2 := sh (fun p => PyData.int p.2) (fun p hp u as r hs => by cases r with | int i t => exact ReprIs.int t (of_decide_eq_true hs)) kvs (fun _ h => h) (by rw [e2] at hs2; exact hs2) r2
    have hE := ReprEntriesK.of_two es.toList _ _ k1 k2
    refine wpAny_pyReprUnder_ref (by omega) ?_
    have et : PyData.shownKv (kvs.map fun p => (kP p.1, PyData.int p.2)) = List.zipWith (fun k v : Str => k ++ ": " ++ v) (PyData.shownAll (kvs.map fun p => kP p.1)) (PyData.shownAll (kvs.map fun p => PyData.int p.2)) := by
      rw [PyData.shownKv_eq, e1, e2]
    rw [et] at hsz hQ
    exact wpAny_pyReprObjUnder_dictK (es := es) ho ex.1 hd hsys (List.not_mem_nil) hE hg (fun b hb => by
      rw [List.mem_singleton.mp hb]; exact hcl a ra) (by omega) (fun _ _ z => z) (fun h' u tk hk => ⟨_, _, rfl, hQ _ H w (Le.refl w) (I.kept hk) At0⟩) hsz
mutual
theorem txt_ok {S : Store} {k c : Nat} {C : Ct} (hK : g.K = X.K) (F : OwnQ (kn := kn) X.prog X.w X.mg X.base g k c "__repr__" 1 C) (tk : TakesK kn X W) : ∀ {d : D} {t : Str}, Txt c C S d t → t.length ≤ sizeLine → RunOk g X S k d t
  | _, _, .non, _ => runok_is fun w v u r ru => by cases r; cases ru; exact ReprIs.none
  | _, _, .bl b, _ => runok_is fun w v u r ru => by cases r; cases ru; exact ReprIs.bool b
  | _, _, .int i h, _ => runok_is fun w v u r ru => by cases r; obtain ⟨t, rfl⟩ := ru; exact ReprIs.int t h
  | _, _, .dic kvs h hd hz, _ => runok_dic hK h hd hz
  | _, _, .str x, hz => runok_is fun w v u r ru => by cases r; obtain ⟨t, rfl⟩ := ru; exact ReprIs.str x t hz
  | _, _, .obj es t h, _ => runok_obj hK F tk h
  | _, _, .lst (ts := ts) h, hz => runok_lst hK (txts_ok hK F tk h fun t ht => Nat.le_trans (listText_mem_le ht) hz) h.shbs
  | _, _, .tup (ts := ts) h, hz => runok_tup hK (txts_ok hK F tk h fun t ht => Nat.le_trans (tupleText_mem_le ht) hz) h.shbs
theorem txts_ok {S : Store} {k c : Nat} {C : Ct} (hK : g.K = X.K) (F : OwnQ (kn := kn) X.prog X.w X.mg X.base g k c "__repr__" 1 C) (tk : TakesK kn X W) : ∀ {ds : List D} {ts : List Str}, Txts c C S ds ts → (∀ t ∈ ts, t.length ≤ sizeLine) → RunOks g X S k ds ts
  | _, _, .nil, _ => .nil
  | _, _, .cons h r, hz => .cons (txt_ok hK F tk h (hz _ List.mem_cons_self)) (txts_ok hK F tk r fun t ht => hz t (List.mem_cons_of_mem _ ht))
end
end
end R3

namespace R3
open PySem PySem.Spec PyProof.Rows L2
section
variable {g : Sg} {X : Cx} {W : WX} {e : Expr} {pos : Pos} {fr : FA}
end
end R3

namespace R3
open PySem PySem.Spec PyProof.Rows L2
section
variable {P : Program} {w : World} {mg : Str → Option Value} {base : Heap}
end
section
variable {g : Sg} {X : Cx} {W : WX} {a b e o : Expr} {pos apos : Pos} {fa fb fe fo : FE} {es : List Expr} {fr fk : FA} {kws : List Keyword} {st : Stmt}
end
end R3

namespace R3
open PySem PySem.Spec PyProof.Rows L2
section
variable {prog : Program} {w : World} {A : Around} {E : Value → Shared → Prop} {s : Shared} {K : Fr} {x C f : Addr} {v : Value} {ox : Obj} {od : Option Obj}
end
section
variable {g : Sg} {X : Cx} {W : WX}
end
end R3

namespace R3
open PySem PySem.Spec PyProof.Rows L2
section
variable {g : Sg} {X : Cx} {W : WX} {a b e e2 o : Expr} {pos apos cpos p p2 : Pos} {fa fb fe fo fo2 : FE} {es : List Expr} {fr : FA} {st : Stmt} {x : Str}
end
end R3

namespace R3
open PySem PySem.Spec PyProof.Rows L2
open SeqAt AutoSeq1 MeetsSeq MeetsSeq2 MeetsSeq3 SeqRoads2
section
variable {g : Sg} {X : Cx} {W : WX} {pins : List (Addr × Obj)} {w : Wd} {ρ : List Sl} {S : Store} {σ : L2.St} {H : Hp} {s : Shared}
theorem zip_inj {ns : List Str} : ∀ {vs us : List V}, vs.length = ns.length → us.length = ns.length → ns.zip vs = ns.zip us → vs = us := by
  induction ns with
  | nil => intro vs us h1 h2 _; rw [List.length_eq_zero_iff.mp h1, List.length_eq_zero_iff.mp h2]
  | cons n ns ih =>
    intro vs us h1 h2 e
    cases vs with
    | nil => cases h1
    | cons v vs =>
      cases us with
      | nil => cases h2
      | cons u us =>
        rw [List.zip_cons_cons, List.zip_cons_cons] at e
        obtain ⟨e1, e2⟩ := List.cons.inj e
        rw [(Prod.mk.inj e1).2, ih (by simpa using h1) (by simpa using h2) e2]
theorem ints_inv : ∀ {ds : List D} {ns : List Int}, intsOf ds = some ns → ds = ns.map D.int
  | [], _, h => by cases h; rfl
  | .int i :: r, ns, h => by
    cases e : intsOf r with
    | none => simp [intsOf, e] at h
    | some ms =>
      simp [intsOf, e] at h
      subst h
      rw [ints_inv e]
      rfl
  | .non :: _, _, h => by cases h
  | .bl _ :: _, _, h => by cases h
  | .str _ :: _, _, h => by cases h
  | .ty _ :: _, _, h => by cases h
  | .tup _ :: _, _, h => by cases h
  | .lst _ :: _, _, h => by cases h
  | .obj _ _ :: _, _, h => by cases h
  | .ref _ :: _, _, h => by cases h
  | .scr _ :: _, _, h => by cases h
  | .dic _ :: _, _, h => by cases h
  | .cls _ :: _, _, h => by cases h
  | .err _ _ :: _, _, h => by cases h
theorem mapV_inj : ∀ {ns ms : List Int}, ns.map V.int = ms.map V.int → ns = ms
  | [], [], _ => rfl
  | [], _ :: _, h => by cases h
  | _ :: _, [], h => by cases h
  | n :: ns, m :: ms, h => by
    obtain ⟨e1, e2⟩ := List.cons.inj h
    rw [V.int.inj e1, mapV_inj e2]
mutual
theorem rep_det (hK : g.K = X.K) (I : Inv X pins σ H s) (A : At g w ρ S σ H) : ∀ {v : V} {d d' : D}, Rep g w v d → Rep g w v d' → dtm d = true → dtm d' = true → d = d'
  | _, _, _, .non, r', _, h => by cases r' <;> first | rfl | cases h
  | _, _, _, .bl _, r', _, h => by cases r' <;> first | rfl | cases h
  | _, _, _, .int _, r', _, h => by cases r' <;> first | rfl | cases h
  | _, _, _, .str _, r', _, h => by cases r' <;> first | rfl | cases h
  | _, _, _, .ty _, r', h, _ => by cases h
  | _, _, _, .tup hh r, r', h, h' => by
    cases r' with
    | tup hh' r' =>
      have := sqt_det hK I A hh hh'
      subst this
      rw [reps_det hK I A r r' h h']
    | lst hh' r' => exact (sqt_no hK I A hh hh' ⟨(fun _ z => nomatch z), (fun _ _ z => nomatch z)⟩).elim
    | obj hh' _ r' => exact (sqt_no hK I A hh hh' ⟨(fun _ z => nomatch z), (fun _ _ z => nomatch z)⟩).elim
    | scr => cases h'
    | ref => cases h'
    | dic => cases h'
    | cls => cases h'
    | err => cases h'
  | _, _, _, .lst hh r, r', h, h' => by
    cases r' with
    | tup hh' r' => exact (sqt_no hK I A hh' hh ⟨(fun _ z => nomatch z), (fun _ _ z => nomatch z)⟩).elim
    | lst hh' r' =>
      rw [hh] at hh'
      cases hh'
      rw [reps_det hK I A r r' h h']
    | obj hh' _ r' => rw [hh] at hh'; cases hh'
    | scr => cases h'
    | ref => cases h'
    | dic => cases h'
    | cls => cases h'
    | err => cases h'
  | _, _, _, .scr _, r', h, _ => by cases h
  | _, _, _, .obj (c := c) (vs := vs) (ds := ds) hh hl r, r', h, h' => by
    cases r' with
    | tup hh' r' => exact (sqt_no hK I A hh' hh ⟨(fun _ z => nomatch z), (fun _ _ z => nomatch z)⟩).elim
    | lst hh' r' => rw [hh] at hh'; cases hh'
    | @obj _ _ c' vs' ds' hh' hl' r' =>
      obtain ⟨k1, k2⟩ := Bool.and_eq_true_iff.mp (show (c == 0 && (intsOf ds).isSome) = true from h)
      obtain ⟨k3, k4⟩ := Bool.and_eq_true_iff.mp (show (c' == 0 && (intsOf ds').isSome) = true from h')
      obtain rfl := beq_iff_eq.mp k1
      obtain rfl := beq_iff_eq.mp k3
      obtain ⟨ns, e1⟩ := Option.isSome_iff_exists.mp k2
      obtain ⟨ms, e2⟩ := Option.isSome_iff_exists.mp k4
      rw [hh] at hh'
      have e0 : (g.fl 0).zip vs = (g.fl 0).zip vs' := by
        have := Option.some.inj hh'
        injection this
      have e3 := zip_inj hl hl' e0
      subst e3
      have m1 := intsOf_reps r e1
      have m2 := intsOf_reps r' e2
      rw [m1] at m2
      rw [ints_inv e1, ints_inv e2, mapV_inj m2]
    | scr => cases h'
    | ref => cases h'
    | dic => cases h'
    | cls => cases h'
    | err => cases h'
  | _, _, _, .ref _, r', h, _ => by cases h
  | _, _, _, .dic _, r', h, _ => by cases h
  | _, _, _, .cls _, r', h, _ => by cases h
  | _, _, _, .err _ _ _ _, r', h, _ => by cases h
theorem reps_det (hK : g.K = X.K) (I : Inv X pins σ H s) (A : At g w ρ S σ H) : ∀ {vs : List V} {ds ds' : List D}, Reps g w vs ds → Reps g w vs ds' → dtms ds = true → dtms ds' = true → ds = ds'
  | _, _, _, .nil, .nil, _, _ => rfl
  | _, _, _, .cons h r, .cons h' r', q, q' => by
    obtain ⟨q1, q2⟩ := Bool.and_eq_true_iff.mp q
    obtain ⟨q3, q4⟩ := Bool.and_eq_true_iff.mp q'
    rw [rep_det hK I A h h' q1 q3, reps_det hK I A r r' q2 q4]
end
end
section
variable {prog : Program} {w : World} {A : Around} {E : Value → Shared → Prop} {s : Shared}
theorem eqb_ref {p : Addr} {v : Value} {Q : Bool → Shared → Prop} (hs : Value.ref p = v → Q true s) (h : wpAny (model prog w) A (richCompare .Eq (.ref p) v) (fun z s' => ∃ b, z = .bool b ∧ Q b s') E s) : wpAny (model prog w) A (eqBool (.ref p) v) Q E s := by
  unfold eqBool
  refine wpAny_holding ?_
  refine wpAny_ite_split (fun hab => ?_) (fun _ => ?_)
  · exact wpAny_bind (wpAny_rule (wpAny_pure (hs (eq_of_beq hab))))
  · refine wpAny_bind (wpAny_mono h (fun z s' hz => ?_) fun _ _ y => y)
    obtain ⟨b, rfl, q⟩ := hz
    exact wpAny_truthy_bool q
end
section
variable {g : Sg} {X : Cx} {W : WX}
theorem eqok_flat {S : Store} {k : Nat} {x y : D} (hx : okN 8 x = true) (hy : okN 8 y = true) (hK : g.K = X.K) : EqOk g X S k x y (eqD x y) := by
  intro A0 pins s σ H w ρ vx vy u v Q hr hA I At0 rx ry _ _ ru rv hQ
  obtain ⟨p, e1, c1, d1⟩ := okN_py 8 x hx
  obtain ⟨q, e2, c2, d2⟩ := okN_py 8 y hy
  obtain ⟨as, r1⟩ := Dp.reads I p vx u (hK ▸ dp_of At0 rx e1) ru
  obtain ⟨bs, r2⟩ := Dp.reads I q vy v (hK ▸ dp_of At0 ry e2) rv
  have hun := hr.units
  refine eqAt_reads p q A0 s u v as bs r1 r2 c1 c2 (by have := Nat.min_le_left p.depth q.depth; omega) X.prog X.w X.xe Q ?_
  rw [eqv_eqD x y p q e1 e2]
  exact hQ s H w (Le.refl w) I At0
theorem eqok_obj {S : Store} {k : Nat} {C : Ct} {xn : Str} (F : OwnN (kn := kn) X.prog X.w X.mg X.base g k 0 "__eq__" 2 C) (hx : g.ad 0 = He.ga X.K xn) (hf : fRight xn X.K = true) (hK : g.K = X.K) (tk : TakesK kn X W) {es : List D} {y : D} {b : Bool} (hy : rightD 0 y = true) (hs : y = .obj 0 es → b = true) (h : ∀ (K : KD) (ex : KX), K (.bl b) S → C [.obj 0 es, y] S K ex) : EqOk g X S k (.obj 0 es) y b := by
  intro A0 pins s σ H w ρ vx vy u v Q hr hA I At0 rx ry tx ty ru rv hQ
  obtain ⟨p, ox, od, rfl, rfl, J⟩ := inst_of (c := 0) (ds := es) I At0 rx (by unfold insOf; simp) ru
  obtain ⟨fn, h1, h2, Fn⟩ := F.ex
  rw [hK] at h1 h2 Fn
  obtain ⟨tb, lk, nf⟩ := right_ok hK hx hf I At0 ry rv hy
  obtain ⟨m, hF⟩ := I.fr
  have e0 : Env0 X.prog X.w X.K X.mg X.base A0 X.stack s H := ⟨hA, I.env0.mod, I.env0.bs, I.env0.bsz, I.env0.funs, I.env0.frf, I.env0.hok, I.env0.bare⟩
  refine eqb_ref (fun e => ?_) ?_
  · subst e
    have ev : vy = .ref p := by cases vy <;> first | (obtain ⟨_, z⟩ := rv; cases z; done) | (cases rv; rfl) | (cases rv; done)
    subst ev
    rw [hs (rep_det hK I At0 ry rx ty tx)] at hQ
    exact hQ s H w (Le.refl w) I At0
  · refine PySem.W.cmp_K (op := .Eq) (tb := tb) (by have := hr.units; omega) hF I.ok.mod.kin J lk nf h1 h2 ?_
    refine wpAny_mono (wpAny_call (run_ct (W := W) (us := [.ref p, v]) (vs := [.ref p, vy]) (K := fun d S' => d = .bl b ∧ S' = S) (ex := fun _ _ => False) (Q := fun z H' => z = .bl b ∧ ∃ w', Le w w' ∧ At g w' ρ S σ H') Fn (hr.mono (by omega)) e0 tk I (.cons rfl (.cons rv .nil)) At0 (.cons rx (.one ry)) rfl (fun _ _ z => z.elim) (fun d S' ⟨e1, e2⟩ z w' H' l' A' r' => ?_) (h _ _ ⟨rfl, rfl⟩))) (fun r s' hb => ?_) fun _ _ y => y
    · subst e1; subst e2
      exact ⟨rep_bl r', w', l', A'⟩
    · obtain ⟨z, H', I', rz, rfl, w', l', A'⟩ := hb
      obtain rfl : r = .bool b := rz
      exact ⟨_, rfl, hQ s' H' w' l' I' A'⟩
end
end R3

namespace R3
open PySem PySem.Spec PyProof.Rows L2
open SeqAt AutoSeq1 MeetsSeq MeetsSeq2 MeetsSeq3 SeqRoads2
section
variable {g : Sg} {X : Cx} {W : WX}
/-- from richCompare to eqBool -/
theorem eqok_rc {S : Store} {k : Nat} (hK : g.K = X.K) {x y : D} {b : Bool} (h : RcOk g X S k x y b false) (hx : (∃ ds, x = .tup ds) ∨ ∃ ds, x = .lst ds) (hs : x = y → b = true) : EqOk g X S k x y b := by
  intro A0 pins s σ H w ρ vx vy u v Q hr hA I At0 rx ry tx ty ru rv hQ
  obtain ⟨a, rfl⟩ : ∃ a, vx = .ref a := by
    rcases hx with ⟨ds, rfl⟩ | ⟨ds, rfl⟩
    · cases rx; exact ⟨_, rfl⟩
    · cases rx; exact ⟨_, rfl⟩
  obtain rfl : u = .ref a := ru
  refine eqb_ref (fun e => ?_) ?_
  · subst e
    have ev : vy = .ref a := by cases vy <;> first | (obtain ⟨_, z⟩ := rv; cases z; done) | (cases rv; rfl) | (cases rv; done)
    subst ev
    rw [hs (rep_det hK I At0 rx ry tx ty)] at hQ
    exact hQ s H w (Le.refl w) I At0
  · exact h hr hA I At0 rx ry tx ty rfl rv fun s' H' w' l' I' A' => ⟨_, rfl, hQ s' H' w' l' I' A'⟩
mutual
theorem eq1_ok {S : Store} {k : Nat} {C : Ct} {xn : Str} (F : OwnN (kn := kn) X.prog X.w X.mg X.base g k 0 "__eq__" 2 C) (hx : g.ad 0 = He.ga X.K xn) (hf : fRight xn X.K = true) (hK : g.K = X.K) (tk : TakesK kn X W) : ∀ {x y : D} {b : Bool}, Eq1 C S x y b → EqOk g X S k x y b
  | _, _, _, .flat h1 h2 => eqok_flat h1 h2 hK
  | _, _, _, .obj hy hr h => eqok_obj F hx hf hK tk hy hr h
  | _, _, _, .tup h => eqok_rc hK (tup_rc hK false (eql_ok F hx hf hK tk h)) (.inl ⟨_, rfl⟩) (fun e => h.same (D.tup.inj e))
  | _, _, _, .lst hl h => eqok_rc hK (lst_rc hK false hl (eql_ok F hx hf hK tk h)) (.inr ⟨_, rfl⟩) (fun e => h.same (D.lst.inj e))
  | _, _, _, .lstn hl => eqok_rc hK (lst_rcn hK false hl) (.inr ⟨_, rfl⟩) (fun e => absurd (congrArg List.length (D.lst.inj e)) hl)
theorem eql_ok {S : Store} {k : Nat} {C : Ct} {xn : Str} (F : OwnN (kn := kn) X.prog X.w X.mg X.base g k 0 "__eq__" 2 C) (hx : g.ad 0 = He.ga X.K xn) (hf : fRight xn X.K = true) (hK : g.K = X.K) (tk : TakesK kn X W) : ∀ {xs ys : List D} {b : Bool}, EqL C S xs ys b → EqOks g X S k xs ys b
  | _, _, _, .nil => .nil
  | _, _, _, .left => .left
  | _, _, _, .right => .right
  | _, _, _, .hit h r => .hit (eq1_ok F hx hf hK tk h) (eql_ok F hx hf hK tk r)
  | _, _, _, .miss h => .miss (eq1_ok F hx hf hK tk h)
end
end
end R3

namespace R3
open PySem PySem.Spec PyProof.Rows L2
section
variable {g : Sg} {X : Cx} {W : WX} {a e o : Expr} {pos apos : Pos} {fa fe fo : FE} {es : List Expr} {kws : List Keyword} {fr fk : FA}
end
section
variable {g : Sg}
end
end R3

namespace R3
open PySem PySem.Spec PyProof.Rows L2
section
variable {g : Sg} {X : Cx} {W : WX} {e e2 elt tg iter : Expr} {pos p : Pos} {fr : FA} {fe fo : FE} {ft : FT} {fg : FG} {vs : List Nat} {st : Stmt}
abbrev FIR := List Sl → Store → (Nat → List D → List D → Store → Prop) → KX → Prop
variable {fi : FIR}
end
end R3

namespace R3
open PySem PySem.Spec PyProof.Rows L2
section
variable {g : Sg} {X : Cx} {W : WX} {e : Expr} {pos : Pos} {es : List Expr} {kws : List Keyword} {fr fk : FA}
end
section
variable {g : Sg} {X : Cx}
end
end R3

namespace R3
open PySem PySem.Spec PyProof.Rows L2
section
variable {g : Sg} {X : Cx} {W : WX}
end
end R3

namespace R3
open PySem PySem.Spec PyProof.Rows L2
section
variable {g : Sg} {X : Cx} {W : WX} {e : Expr} {pos : Pos} {fr : FA}
end
end R3

namespace R3
open PySem PySem.Spec PyProof.Rows L2
def noCt : Ct := fun _ _ _ _ => False
section
variable {g : Sg} {X : Cx} {W : WX} {e : Expr} {pos : Pos} {fr : FA}
mutual
theorem txt_okD {S : Store} {k c : Nat} (hK : g.K = X.K) : ∀ {d : D} {t : Str}, Txt c noCt S d t → t.length ≤ sizeLine → RunOk g X S k d t
  | _, _, .non, _ => runok_is fun w v u r ru => by cases r; cases ru; exact ReprIs.none
  | _, _, .bl b, _ => runok_is fun w v u r ru => by cases r; cases ru; exact ReprIs.bool b
  | _, _, .int i h, _ => runok_is fun w v u r ru => by cases r; obtain ⟨t, rfl⟩ := ru; exact ReprIs.int t h
  | _, _, .dic kvs h hd hz, _ => runok_dic hK h hd hz
  | _, _, .str x, hz => runok_is fun w v u r ru => by cases r; obtain ⟨t, rfl⟩ := ru; exact ReprIs.str x t hz
  | _, _, .obj es t h, _ => (h (fun _ _ => True) (fun _ _ => True) trivial).elim
  | _, _, .lst (ts := ts) h, hz => runok_lst hK (txts_okD hK h fun t ht => Nat.le_trans (listText_mem_le ht) hz) h.shbs
  | _, _, .tup (ts := ts) h, hz => runok_tup hK (txts_okD hK h fun t ht => Nat.le_trans (tupleText_mem_le ht) hz) h.shbs
theorem txts_okD {S : Store} {k c : Nat} (hK : g.K = X.K) : ∀ {ds : List D} {ts : List Str}, Txts c noCt S ds ts → (∀ t ∈ ts, t.length ≤ sizeLine) → RunOks g X S k ds ts
  | _, _, .nil, _ => .nil
  | _, _, .cons h r, hz => .cons (txt_okD hK h (hz _ List.mem_cons_self)) (txts_okD hK r fun t ht => hz t (List.mem_cons_of_mem _ ht))
end
end
end R3

namespace R3
open PySem PySem.Spec PyProof.Rows L2
end R3

namespace R3
open PySem PySem.Spec PyProof.Rows L2
section
variable {g : Sg} {X : Cx} {W : WX}
end
end R3

namespace R3
open PySem PySem.Spec PyProof.Rows L2
section
variable {g : Sg} {X : Cx} {W : WX}
end
end R3

namespace R3
open PySem PySem.Spec PyProof.Rows L2 PySem.W PySem.Calls
section
variable {g : Sg} {X : Cx} {W : WX} {e : Expr} {fe : FE} {pos : Pos}
end
end R3

namespace R3
open PySem PySem.Spec PyProof.Rows L2
section
variable {g : Sg} {X : Cx} {W : WX} {e : Expr} {fe : FE} {pos : Pos}
end
end R3

namespace R3
open PySem PySem.Spec PyProof.Rows L2
open SeqAt AutoSeq1 MeetsSeq MeetsSeq2 MeetsSeq3 SeqRoads2
section
variable {g : Sg} {X : Cx} {W : WX}
variable {e : Expr}
end
end R3

namespace R3
open PySem PySem.Spec PyProof.Rows L2
section
variable {g : Sg} {X : Cx} {W : WX} {pos : Pos}
/-- a, b, .. = a list -/
def gTl (n : Nat) (f : FGs) (d : D) (ρ : List Sl) (K : List Sl → Prop) : Prop := match d with
  | .lst ds => ds.length = n ∧ f ds ρ K
  | _ => False
theorem glst {js : List Nat} {es : List Expr} {fgs : FGs} {k n : Nat} (hc : X.calm = true) (hK : g.K = X.K) (h : GTs g X js es fgs) (hn : (assignEach es X.env).length = n := by rfl) (hst : (assignEach es X.env).findIdx? (·.1) = none := by rfl) : GT g X js (.Tuple es k pos) (gTl n fgs) :=
  PG.imp (pg_lst hc h hn hst) fun v σ H Q ⟨w, ρ, S, d, K, A, r, k, q⟩ => by
    cases d with
    | lst ds =>
      obtain ⟨hl, q⟩ := q
      cases r with
      | lst hh rr => exact ⟨_, _, rfl, SqL.of (K := X.K) (A.ih _ _ hh), by rw [rr.length]; exact hl, w, ρ, S, ds, K, A, rr, k, q⟩
    | _ => exact q.elim
end
end R3

namespace R3
open PySem PySem.Spec PyProof.Rows L2
section
variable {g : Sg} {X : Cx} {W : WX} {e f : Expr} {fe fd : FE} {pos apos cpos p : Pos}
end
end R3

namespace R3
open PySem PySem.Spec PyProof.Rows L2
open SeqAt AutoSeq1 MeetsSeq MeetsSeq2 MeetsSeq3 SeqRoads2
section
variable {g : Sg} {X : Cx} {W : WX} {a : Expr} {p p2 p3 pos apos : Pos} {fa : FE}
end
end R3

namespace R3
open PySem PySem.Spec PyProof.Rows L2
section
variable {g : Sg} {X : Cx} {W : WX} {e o : Expr} {fe fo : FE} {apos cpos : Pos}
end
end R3

namespace R3
open PySem PySem.Spec PyProof.Rows L2
section
variable {g : Sg} {X : Cx} {W : WX} {e e2 tg : Expr} {fi : FIR} {fr : FA} {fg : FG} {fb : FS} {js : List Nat} {body : List Stmt} {pos tpos p : Pos} {elts : List Expr} {kk : Nat}
end
end R3

namespace R3
open PySem PySem.Spec PyProof.Rows L2
section
variable {g : Sg} {X : Cx} {W : WX} {e : Expr} {pos : Pos}
end
end R3

namespace R3
open PySem PySem.Spec PyProof.Rows L2 PySem.Builtin PySem.Builtin.Float PyProof
section
variable {prog : Program} {w : World} {A : Around} {E : Value → Shared → Prop} {s : Shared}
end

section
variable {g : Sg} {X : Cx} {W : WX} {e : Expr} {fe : FE} {pos : Pos}
end

section
variable {g : Sg} {X : Cx} {W : WX} {e o : Expr} {fe fo : FE} {apos pos : Pos}
end
section
variable {M : Model} {A : Around} {E : Value → Shared → Prop} {s : Shared} {env : Env} {pos : Pos} {x : Addr} {Q : Value → Shared → Prop}
end
section
variable {g : Sg} {X : Cx} {W : WX} {e o : Expr} {fo : FE} {es : List Expr} {fr : FA} {pos : Pos}
end
section
variable {g : Sg} {X : Cx}
end
end R3

namespace R3
open PySem PySem.Spec PyProof.Rows L2
open SeqAt AutoSeq1 MeetsSeq MeetsSeq2 MeetsSeq3 SeqRoads2
section
variable {g : Sg} {X : Cx} {W : WX}
end
end R3

namespace R3
open PySem PySem.Spec PyProof.Rows L2
section
variable {X : Cx} {W : WX}
end
section
variable {g : Sg} {X : Cx} {W : WX} {e : Expr} {fg : FG} {fi : FI} {fe : FE} {ft : FT} {vs : List Nat}
end
end R3

namespace R3
open PySem PySem.Spec PyProof.Rows L2
section
variable {g : Sg} {X : Cx} {W : WX} {e o tg : Expr} {fe fo : FE} {apos pos : Pos}
end
end R3
namespace R3
open PySem PySem.Spec PyProof.Rows L2
section
variable {g : Sg} {X : Cx} {W : WX} {e o tg : Expr} {es : List Expr} {fe fo : FE} {fa : FA} {apos pos : Pos}
end
end R3
namespace L2
open PySem PySem.Spec PyProof.Rows
end L2
namespace R3
open PySem PySem.Spec PyProof.Rows L2
section
variable {g : Sg} {X : Cx} {W : WX} {a : Expr} {fa : FE} {p pos : Pos}
end
end R3
namespace R3
open PySem PySem.Spec PyProof.Rows L2 PySem.Builtin PySem.Builtin.Float PyProof
section
variable {g : Sg} {X : Cx}
end
end R3

namespace R3
open PySem PySem.Spec PyProof.Rows L2
section
variable {g : Sg} {X : Cx} {W : WX} {e : Expr} {pos : Pos}
end
end R3

namespace R3
open PySem PySem.Spec PyProof.Rows L2
theorem RoomN.make {k : Nat} {A : Around} (r : RoomN (k + 1) A) (C : Addr) (us : List Value) (kw : List (Str × Value)) : RoomN k (A.under (.builtin "type.__call__" ⟨.ref C :: us, kw⟩)) :=
  ⟨⟨by have := r.rm.dp; rw [make_depth]; omega, by have := r.rm.un; rw [make_units]; omega⟩, by
    obtain ⟨hd, d, fr, gs, u⟩ := A
    have e : gs = some [] := r.gd
    subst e
    first | rfl | (unfold Around.under; rfl) | simp [Around.under, pushGuards, Code.guards, Code.isGuard]⟩
section
variable {X : Cx} {a C fI R : Addr} {f b : Str} {e : Expr} {ta : TA} {p p' p1 p2 pos : Pos}
end
section
variable {g : Sg} {X : Cx} {W : WX} {e : Expr} {fe : FE} {p pos pos2 cpos : Pos}
end
section
variable {g : Sg} {X : Cx} {W : WX} {e : Expr} {fe : FE} {pos : Pos}
end
section
variable {g : Sg} {X : Cx} {W : WX} {st : Stmt}
end
section
variable {g : Sg} {X : Cx} {W : WX} {a b : Expr} {pos : Pos} {fa fb : FE}
end
end R3

set_option exponentiation.threshold 5000
namespace R3
open PySem PySem.Spec PyProof.Rows L2
section
variable {g : Sg} {X : Cx} {W : WX} {e o : Expr} {pos apos : Pos} {fo : FE} {es : List Expr} {fr fk : FA} {kws : List Keyword}
end
section
variable {g : Sg} {X : Cx} {W : WX} {e : Expr} {fe : FE} {pos : Pos} {pins : List (Addr × Obj)} {σ : L2.St} {H : Hp} {s : Shared}
end
end R3

namespace R3
open PySem PySem.Spec PyProof.Rows L2 HandSPX
open Builtin Builtin.ObjectAttr
section
variable {M : Model} {A : Around} {E : Value → Shared → Prop} {hp : Heap} {gs : Array GenState} {dr : Drawn} {tk : Nat} {os : OsState}
variable {nm qn : Str} {C N : Addr} {bs bm bmB : List Value} {hdct : Bool} {sn : List Str} {sub : List Value} {ab : Bool} {col : Option Bool} {dd : Option Addr} {k0 k1 k2 k3 k5 : Option Value} {B newId initId : String}
theorem ckNew (F : ExcBaseFacts B newId initId bmB) (iB : bm.contains (.type B) = true) (iA : bm.contains (.type "AttributeError") = false) (iN : bm.contains (.type "NameError") = false) {us : List Value} {kws : List (Str × Value)} {Q : Unit → Shared → Prop}
    (hC : hp.get? C = some (excClassObj nm qn C N bs bm hdct sn sub ab col dd k0 k1 k2 k3 k5 newId)) (k : Q () ⟨hp, gs, dr, tk, os⟩) : wpAny M A (checkBuiltinCall newId ⟨.ref C :: us, kws⟩) Q E ⟨hp, gs, dr, tk, os⟩ := by
  have inB : (Value.ref C :: bm).contains (.type B) = true := by
    rw [List.contains_cons, iB]
    exact Bool.or_true _
  have ns := F.noStar
  simp only [F.newRow, F.newKind, F.newSplit, checkBuiltinCall]
  repeat (first
    | refine wpAny_loadPart_at hC ?_
    | (refine wpAny_isSubtype_exc hC ?_; rw [inB])
    | refine wpAny_staticBase_exc hC ?_
    | refine wpAny_madeBy_exc hC ?_
    | simp only [Bool.false_eq_true, bne_self_eq_false, if_false]
    | wp_step)
  exact k
end
section
variable {prog : Program} {w : World} {A : Around} {E : Value → Shared → Prop} {R : Result → Shared → Prop} {hp : Heap} {gs : Array GenState} {dr : Drawn} {tk : Nat} {os : OsState}
variable {nm qn : Str} {C N : Addr} {bs bm bmB : List Value} {hdct : Bool} {sn : List Str} {sub : List Value} {ab : Bool} {col : Option Bool} {dd : Option Addr} {k0 k1 k2 k3 k5 : Option Value} {B newId initId : String}
theorem newE (F : ExcBaseFacts B newId initId bmB) (iB : bm.contains (.type B) = true) (iA : bm.contains (.type "AttributeError") = false) (iN : bm.contains (.type "NameError") = false) {us : List Value} {kws : List (Str × Value)}
    (hC : hp.get? C = some (excClassObj nm qn C N bs bm hdct sn sub ab col dd k0 k1 k2 k3 k5 newId)) (hl : us.length ≤ sizeLine)
    (k : R (.ok (.ret (.ref (hp.objs.size + 1)))) ⟨(hp.push (PySem.W.kdv_tup us)).push (excO C hp.objs.size), gs, dr, tk, os⟩) :
    codeAny (model prog w) A (.builtin newId ⟨.ref C :: us, kws⟩) R ⟨hp, gs, dr, tk, os⟩ := by
  have fe := F.ends
  have inB : (Value.ref C :: bm).contains (.type B) = true := by
    rw [List.contains_cons, iB]
    exact Bool.or_true _
  have inA : (Value.ref C :: bm).contains (.type "AttributeError") = false := by
    rw [List.contains_cons, iA]
    rfl
  have inN : (Value.ref C :: bm).contains (.type "NameError") = false := by
    rw [List.contains_cons, iN]
    rfl
  refine codeAny_builtinAt F.entry ?_
  unfold Builtin.«BaseException.__new__»
  refine PySem.wpAt_bind ?_
  show PySem.wpAt _ _ _ (stack >>= _) _ _ _
  refine PySem.wpAt_bind (PySem.wpAt_stack fun p below => PySem.wpAt_of_wpAny ?_)
  wp_walk
  refine PySem.wpAt_of_wpAny ?_
  rw [F.owner]
  repeat (first
    | with_reducible refine wpAny_madeHere_exc F.canon hC ?_
    | with_reducible refine wpAny_loadPart_at hC ?_
    | (with_reducible refine wpAny_isSubtype_exc hC ?_; first | rw [inB] | rw [inA] | rw [inN])
    | wp_step)
  show R _ _
  rw [Heap.size_push]
  exact k
theorem tcallE (F : ExcBaseFacts B newId initId bmB) (iB : bm.contains (.type B) = true) (iA : bm.contains (.type "AttributeError") = false) (iN : bm.contains (.type "NameError") = false) {us : List Value} {kws : List (Str × Value)} {fI : Addr} {Q : PySem.Fin → Shared → Prop}
    (hC : hp.get? C = some (excClassObj nm qn C N bs bm hdct sn sub ab col dd k0 k1 k2 k3 k5 newId)) (hl : us.length ≤ sizeLine)
    (hi : PySem.W.Looks (model prog w) hp (typeLookup (.ref C) "__init__") (some (.ref fI))) (hb : ∀ self, PySem.W.Looks (model prog w) hp (bindSpecial (.ref fI) self) (.ref fI, [self]))
    (k : codeAny (model prog w) A (.call (.ref fI) ⟨.ref (hp.objs.size + 1) :: us, kws⟩)
      (fun r z => match r with
        | .ok (.ret v) => v = .none ∧ Q (.done (.ret (.ref (hp.objs.size + 1)))) z
        | .ok _ => False
        | .error e => E e z) ⟨(hp.push (PySem.W.kdv_tup us)).push (excO C hp.objs.size), gs, dr, tk, os⟩) :
    wpAny (model prog w) A (Builtin.«type.__call__» ⟨.ref C :: us, kws⟩) Q E ⟨hp, gs, dr, tk, os⟩ := by
  repeat (first
    | with_reducible refine wpAny_loadPart_at hC ?_
    | with_reducible refine wpAny_madeBy_exc hC ?_
    | wp_step)
  refine codeAny_call_builtin_code (Code.quiet_builtin _ F.quiet) (ckNew F iB iA iN hC ?_)
  refine newE F iB iA iN hC hl ?_
  show wpAny _ _ _ _ _ _
  have up : ∀ b o, hp.get? b = some o → ((hp.push (PySem.W.kdv_tup us)).push (excO C hp.objs.size)).get? b = some o := fun b o z => Heap.get?_push_of_some _ (Heap.get?_push_of_some _ z)
  have hC2 := up _ _ hC
  have he : ((hp.push (PySem.W.kdv_tup us)).push (excO C hp.objs.size)).get? (hp.objs.size + 1) = some (excO C hp.objs.size) := by heap_get
  have inC : (Value.ref C :: bm).contains (.ref C) = true := by simp
  have hi2 := hi.keeps up
  have hb2 := (hb (.ref (hp.objs.size + 1))).keeps up
  unfold isInstance
  repeat (first
    | with_reducible refine wpAny_loadPart_at he ?_
    | (with_reducible refine wpAny_isSubtype_exc hC2 ?_; rw [inC])
    | wp_step)
  show wpAny _ _ (typeLookup (.ref C) _) _ _ _
  refine hi2.at ?_
  refine wpAny_holding (wpAny_bind (hb2.at ?_))
  refine wpAny_bind (wpAny_call (codeAny_mono k fun r z y => ?_))
  rcases r with e | (v | _ | _ | _) <;> first | exact y | exact y.elim | skip
  obtain ⟨rfl, y⟩ := y
  first
    | exact wpAny_pure (wpAny_pure y)
    | (wp_walk; exact y)
theorem callE (F : ExcBaseFacts B newId initId bmB) (iB : bm.contains (.type B) = true) (iA : bm.contains (.type "AttributeError") = false) (iN : bm.contains (.type "NameError") = false) {us : List Value} {kws : List (Str × Value)} {fI : Addr}
    (hC : hp.get? C = some (excClassObj nm qn C N bs bm hdct sn sub ab col dd k0 k1 k2 k3 k5 newId)) (hl : us.length ≤ sizeLine)
    (hi : PySem.W.Looks (model prog w) hp (typeLookup (.ref C) "__init__") (some (.ref fI))) (hb : ∀ self, PySem.W.Looks (model prog w) hp (bindSpecial (.ref fI) self) (.ref fI, [self]))
    (k : codeAny (model prog w) (A.under (.builtin "type.__call__" ⟨.ref C :: us, kws⟩)) (.call (.ref fI) ⟨.ref (hp.objs.size + 1) :: us, kws⟩) (PySem.W.InitBack (hp.objs.size + 1) R)
      ⟨(hp.push (PySem.W.kdv_tup us)).push (excO C hp.objs.size), gs, dr, tk, os⟩) :
    codeAny (model prog w) A (.call (.ref C) ⟨us, kws⟩) R ⟨hp, gs, dr, tk, os⟩ := by
  have g1 := tc_lookup
  have g2 := tc_bind (.ref C)
  have ty : (⟨hp, gs, dr, tk, os⟩ : Shared).TypeIs (.ref C) "type" := ⟨_, hC, rfl⟩
  refine codeAny_of_tree ?_
  show wpAny _ _ (callAny (.ref C) _) _ _ _
  repeat (any_goals (first
    | assumption
    | with_reducible refine wpAny_loadPart_at hC ?_
    | wp_step))
  refine ⟨rfl, ?_⟩
  refine codeAny_call_builtin_at (Code.quiet_builtin _ (by decide +kernel)) entry_typeCall (wpAny_check_type_call_sub hC (tcallE F iB iA iN hC hl hi hb ?_))
  refine codeAny_mono k fun r z y => ?_
  rcases r with e | (v | _ | _ | _) <;> exact y
end
theorem nb_VE : NewB [.type "ValueError", .type "Exception", .type "BaseException", .type "object"] "ValueError.__new__" := ⟨⟨_, _, _, PySem.F.excBase_ValueError, by decide +kernel⟩, by decide +kernel, by decide +kernel⟩
theorem nb_IE : NewB [.type "IndexError", .type "LookupError", .type "Exception", .type "BaseException", .type "object"] "IndexError.__new__" := ⟨⟨_, _, _, PySem.F.excBase_IndexError, by decide +kernel⟩, by decide +kernel, by decide +kernel⟩
theorem nb_OE : NewB [.type "OverflowError", .type "ArithmeticError", .type "Exception", .type "BaseException", .type "object"] "OverflowError.__new__" := ⟨⟨_, _, _, PySem.F.excBase_OverflowError, by decide +kernel⟩, by decide +kernel, by decide +kernel⟩
theorem nb_RE : NewB [.type "RuntimeError", .type "Exception", .type "BaseException", .type "object"] "RuntimeError.__new__" := ⟨⟨_, _, _, PySem.F.excBase_RuntimeError, by decide +kernel⟩, by decide +kernel, by decide +kernel⟩
theorem nb_KE : NewB [.type "KeyError", .type "LookupError", .type "Exception", .type "BaseException", .type "object"] "LookupError.__new__" := ⟨⟨_, _, _, PySem.F.excBase_LookupError, by decide +kernel⟩, by decide +kernel, by decide +kernel⟩
section
open PySem.F
theorem own_store_KeyError : StoreFacts "KeyError" [.type "KeyError", .type "LookupError", .type "Exception", .type "BaseException", .type "object"] "object.__setattr__" "object" := by
  refine { PySem.F.store_IndexError with mro := ?_, slot := ?_, passes := ?_, args := ?_ }
  all_goals first
    | kernel_rfl
    | (intro x; kernel_rfl)
    | (intro x y z; unfold argsOk; kernel_rfl)
    | skip
  refine .of (owner := "object") (n := "__setattr__") ?_ (by decide +kernel) (by decide +kernel) (by decide +kernel) ?_ ?_
  · rw [typeLookup_type, builtinLookup_eq_fast]
    kernel_rfl
  · first
    | exact .inl (by decide +kernel)
    | exact .inr (by decide +kernel)
  · rw [isSubtype_type]
    kernel_rfl
theorem ke_slot : Slot "KeyError" "__init__" "KeyError.__init__" := by
  refine .of (owner := "KeyError") (n := "__init__") ?_ (by decide +kernel) (by decide +kernel) (by decide +kernel) ?_ ?_
  · rw [typeLookup_type, builtinLookup_eq_fast]
    kernel_rfl
  · first
    | exact .inl (by decide +kernel)
    | exact .inr (by decide +kernel)
  · rw [isSubtype_type]
    kernel_rfl
theorem ke_entry : entryFor table "KeyError.__init__" = some Builtin.«BaseException.__init__» := by
  refine entryFor_alias (id' := "BaseException.__init__") ?_ (by first | rfl | decide +kernel) (by decide +kernel) ?_ <;> rw [fastTable_eq_tree] <;> kernel_rfl
theorem ke_split : splitId "KeyError.__init__" = some ("KeyError", "__init__") := by kernel_rfl
theorem ke_kind : builtinKind "KeyError.__init__" = some .slot := by kernel_rfl
theorem ke_row : Manifest.signature? "KeyError.__init__" = some ⟨.positional, "*", "KeyError", .self, [⟨"args", .varPos, false⟩]⟩ := by kernel_rfl
theorem ke_star : ("KeyError" != "*") = true := by decide +kernel
end
section
variable {prog : Program} {w : World} {A : Around} {E : Value → Shared → Prop} {R : Result → Shared → Prop} {hp : Heap} {gs : Array GenState} {dr : Drawn} {tk : Nat} {os : OsState}
variable {nm qn : Str} {C N : Addr} {bs bm : List Value} {hdct : Bool} {sn : List Str} {sub : List Value} {ab : Bool} {col : Option Bool} {dd : Option Addr} {k0 k1 k2 k3 k5 : Option Value} {newId : String}
theorem ke_init (iB : bm.contains (.type "KeyError") = true) {e t0 : Addr} {us : List Value} (hC : hp.get? C = some (excClassObj nm qn C N bs bm hdct sn sub ab col dd k0 k1 k2 k3 k5 newId)) (he : hp.get? e = some (excO C t0)) (hl : us.length ≤ sizeLine)
    (k : ∀ h2 t1, (∀ b o, b ≠ e → hp.get? b = some o → h2.get? b = some o) → h2.get? e = some (excO C t1) → R (.ok (.ret .none)) ⟨h2, gs, dr, tk, os⟩) :
    codeAny (model prog w) A (.call (.builtin "KeyError.__init__") ⟨.ref e :: us, []⟩) R ⟨hp, gs, dr, tk, os⟩ := by
  have inK : (Value.ref C :: bm).contains (.type "KeyError") = true := by
    rw [List.contains_cons, iB]
    exact Bool.or_true _
  have nost := ke_star
  have ck : ∀ {A : Around} {Q : Unit → Shared → Prop} {E : Value → Shared → Prop}, Q () ⟨hp, gs, dr, tk, os⟩ → wpAny (model prog w) A (checkBuiltinCall "KeyError.__init__" ⟨.ref e :: us, []⟩) Q E ⟨hp, gs, dr, tk, os⟩ := by
    intro A Q E q
    simp only [checkBuiltinCall, ke_split, ke_kind, ke_row]
    repeat (first
      | with_reducible refine wpAny_loadPart_at he ?_
      | with_reducible refine wpAny_loadPart_at hC ?_
      | (with_reducible refine wpAny_isSubtype_exc hC ?_; rw [inK])
      | wp_step)
    refine wpAny_onRaise ?_
    have cs : ∀ (a b : String) (n : Nat), Bind.check ⟨.positional, "*", "KeyError", .self, [⟨"args", .varPos, false⟩]⟩ a b n (List.map (fun x => x.fst) ({ pos := Value.ref e :: us } : Args).kw) = pure () := fun a b n => check_star_args _ _ _ _ _ _
    rw [cs]
    exact wpAny_pure q
  refine codeAny_call_builtin ke_slot.plain ke_entry (ck ?_)
  wp_walk
  refine k _ hp.objs.size (fun b o ne ho => ?_) ?_
  · refine (Heap.get?_update_other _ _ (Ne.symm ne)).trans ?_
    exact Heap.get?_push_of_some _ ho
  · refine (Heap.get?_update_self _ (Heap.get?_push_of_some _ he) rfl).trans ?_
    rfl
end
section
variable {X : Cx} {pins : List (Addr × Obj)} {σ : L2.St} {H : Hp} {s : Shared} {a C fI : Addr} {f : Str} {y : V} {u : Value} {tl : List Value} {newId initId : String}
/-- self.f = y, the first store -/
theorem estK (T : ErrK X.K C fI tl newId f) {Bn : String} (SF : StoreFacts Bn tl "object.__setattr__" "object") (I : Inv X pins σ H s) (e : H a = some (exo a C none)) (ry : RelV y u) {Q : Unit → Shared → Prop} {E : Value → Shared → Prop} {A : Around}
    (h : ∀ dx s', H dx = none → dx ≠ a → Inv X pins σ (upd (upd H dx (exd dx [(f, y)])) a (exo a C (some dx))) s' → Q () s') : wpAny (model X.prog X.w) A (setAttr (.ref a) f u) Q E s := by
  obtain ⟨t1, ho⟩ := exo_at I.hok e
  obtain ⟨hp, g, d, t, os⟩ := s
  have J : PySem.W.InstAt hp a { cls := .ref C, dict := none, data := .fields #[.ref t1, .none, .none, .none, .bool false, .none] } C none := ⟨ho, rfl, rfl, trivial⟩
  refine PySem.W.set_plain I.kIn J T.sa ?_
  refine PySem.W.osa_openX (od := none) SF I.kIn J T.ovr T.tkr fun b => ?_
  obtain ⟨cd, hc, hd'⟩ := PySem.W.any_some T.hd
  have hcls : PySem.W.Looks (model X.prog X.w) hp (classData C) cd := PySem.W.looks_clsIn I.kIn hc
  have hxs : a ≠ hp.objs.size := Nat.ne_of_lt (Heap.lt_size ho)
  have hnd : H hp.objs.size = none := I.hok.fresh (Nat.le_refl _)
  have x1 : (hp.push { cls := .type "dict", data := .dict #[] }).get? a = some { cls := .ref C, data := .fields #[.ref t1, .none, .none, .none, .bool false, .none] } := Heap.get?_push_of_some _ ho
  have fin : ∀ h' tk', h'.Ns1 hp.objs.size (fun z => if z = f then some u else none) → Heap.SameBut hp.objs.size ((hp.push { cls := .type "dict", data := .dict #[] }).update a fun o => { o with dict := some hp.objs.size }) h' → Q () ⟨h', g, d, tk', os⟩ := by
    intro h' tk' hn hs
    have k : ∀ b o, b ≠ a → hp.get? b = some o → h'.get? b = some o := fun b o hb q => (hs.2 b (Nat.ne_of_lt (Heap.lt_size q))).trans ((Heap.get?_update_ne _ _ _ _ hb).trans (Heap.get?_push_of_some _ q))
    have hx : h'.get? a = some { cls := .ref C, dict := some hp.objs.size, data := .fields #[.ref t1, .none, .none, .none, .bool false, .none] } := (hs.2 a hxs).trans (Heap.get?_update_self _ x1 rfl)
    have na : ∀ {b : Addr}, H b = none → b ≠ a := fun {b} n z => by rw [z, e] at n; cases n
    have nd : ∀ {b : Addr} {o : Obj}, hp.get? b = some o → b ≠ hp.objs.size := fun {b o} q => Nat.ne_of_lt (Heap.lt_size q)
    have U : Un X.fs [] H (upd (upd H hp.objs.size (exd hp.objs.size [(f, y)])) a (exo a C (some hp.objs.size))) hp h' := {
      keep := fun b o q n _ _ => k b o (na n) q
      slot := fun b o q n _ _ => ⟨o.slots, k b o (na n) q⟩
      free := fun b o q n _ => (upd_ne (na n)).trans ((upd_ne (nd q)).trans n)
      there := fun b o q _ => (Classical.em (b = a)).elim (fun z => ⟨_, z ▸ hx⟩) fun z => ⟨o, k b o z q⟩
      tups := fun b xs q => (upd_ne (at_ne e q exo_tup)).trans ((upd_ne (ne_of_none q hnd)).trans q)
      frzs := fun b o v q => (upd_ne (at_ne e q exo_frz)).trans ((upd_ne (ne_of_none q hnd)).trans q)
      tbls := fun b ps q => ⟨#[], by rw [upd_ne (at_ne e q exo_tbl), upd_ne (ne_of_none q hnd), q]; simp⟩ }
    refine h hp.objs.size _ hnd (Ne.symm hxs) (I.un (t' := tk') U fun b o q => ?_)
    by_cases hb : b = a
    · subst hb; rw [upd_same] at q; cases q; exact exo_ok hx
    · rw [upd_ne hb] at q
      by_cases hd : b = hp.objs.size
      · subst hd; rw [upd_same] at q; cases q; exact exd_ok hn (relO_put (fs := []) ry fun g => True.intro)
      · rw [upd_ne hd] at q
        exact (I.hok b o q).stay (fun c v hc z => k c v (by rcases hc with hc | hc; (rw [hc]; exact hb); exact at_ne e hc exo_own) z)
          (fun c hc => (upd_ne (at_ne e hc exo_own)).trans ((upd_ne (ne_of_none hc hnd)).trans hc)) (fun c xs hc => (upd_ne (at_ne e hc exo_tup)).trans ((upd_ne (ne_of_none hc hnd)).trans hc))
  show wpAny _ _ (Builtin.ObjectAttr.storeInOwnDict (.ref a) (.ref C) _ f u b) _ _ _
  obtain ⟨nm, bs, mro, ns, qn, hdd, sn, sb, ab, col, del⟩ := cd
  dsimp only at hd'
  subst hd'
  unfold Builtin.ObjectAttr.storeInOwnDict Builtin.ObjectAttr.ownDictForStores
  repeat (first | with_reducible refine HandSPX.store_in_new ?_ ?_ | with_reducible refine wpAny_loadPart_at ho ?_ | with_reducible refine hcls.at ?_ | wp_step)
  · exact ⟨_, #[], _, (Heap.get?_update_ne _ _ _ _ hxs.symm).trans (Heap.get?_push_at rfl rfl), rfl, fun e he => absurd he (by simp), fun _ => rfl⟩
  · exact fin
theorem ke_bi {us : List Value} {Q : Value → Shared → Prop} {E : Value → Shared → Prop} {A : Around} (T : ErrK X.K C fI mKE newId f) (I : Inv X pins σ H s) (e : H a = some (exo a C none)) (hl : us.length ≤ sizeLine) (h : ∀ s', Inv X pins σ H s' → Q .none s') :
    wpAny (model X.prog X.w) A (call (.builtin "KeyError.__init__") (.ref a :: us)) Q E s := by
  obtain ⟨nm, N, qn, bs, bm, hdct, sn, sub, ab, col, dd, k0, k1, k2, k3, k5, hC, hT⟩ := PySem.W.excInit_of I.kIn T.ini
  obtain ⟨t1, ho⟩ := exo_at I.hok e
  obtain ⟨hp, g, d, t, os⟩ := s
  refine wpAny_call (ke_init ((hT _).trans (by decide +kernel)) hC ho hl fun h' t2 k hx => ?_)
  have J := I.write (t' := t) (x := a) (e := a) (o := exo a C none) (by rw [e]; exact True.intro) (.inl rfl) k ⟨_, hx⟩ (exo_ok hx)
  rw [show upd H a (exo a C none) = H from funext fun b => (Classical.em (b = a)).elim (fun z => by rw [z, upd_same, e]) upd_ne] at J
  exact h _ J
end
section
variable {X : Cx} {a C fI R : Addr} {f b : Str} {tl : List Value} {newId initId Tn : String} {o e : Expr} {es : List Expr} {to te : TE} {ta : TA} {p p' p1 p2 pos : Pos} {pl : Sem Bool}
theorem ke_args {pins : List (Addr × Obj)} {σ : L2.St} {H : Hp} {s : Shared} {Q : VK} (T : ErrK X.K C fI mKE newId f) (ha : PA X (e :: es) ta) (I : Inv X pins σ H s) (h : tBI C ta σ H Q)
    (he : starEach (e :: es) X.env = (false, eval e X.env) :: starEach es X.env) (hpl : (backTo pos (starEach es X.env)).any (·.1) = false) :
    wpAny (model X.prog X.w) X.A (callWith pos (Value.builtin "KeyError.__init__") [] (backTo pos (starEach (e :: es) X.env)) []) (EP X pins σ Q) X.xe s := by
  refine PyProof.Rows.callWith_method1 (thn (ha.run pos pins _ σ H _ I h) fun us s1 ⟨vs, H1, I1, r1, a, ws, ev, hl, ea, q⟩ => ?_) he hpl
  subst ev
  cases r1 with
  | @cons _ u0 _ ur ra rw' =>
    obtain rfl : u0 = Value.ref a := ra
    exact ke_bi T I1 ea (Nat.le_trans (show ur.length ≤ 1000 by rw [← Paired.length rw']; exact hl) (by decide)) fun s' J => ⟨.non, H1, J, rfl, q⟩
theorem pe_biKE (T : ErrK X.K C fI mKE newId f) (hh : PySem.W.handedIn (.builtin "KeyError.__init__") = true) (N : BasTy X.K X.mg b Tn "KeyError.__init__") (hg : Gl X b) (ha : PA X (e :: es) ta) (hn : b ≠ "__name__" := by decide) (hdb : (b == ("__debug__" : Str)) = false := by decide)
    (hc : eval (.Call (.Attribute (.Name b p1) "__init__" p2) (e :: es) [] pos) X.env = (do
      let ov ← eval (.Name b p1) X.env
      standAt p2.atName
      let (f, first) ← holding [ov] (getMethod ov "__init__" pl)
      callWith pos f first (backTo pos (starEach (e :: es) X.env)) (backToKw pos (keywordEach [] X.env))) := by rfl)
    (he : starEach (e :: es) X.env = (false, eval e X.env) :: starEach es X.env := by rfl) (hpl : (backTo pos (starEach es X.env)).any (·.1) = false := by rfl) :
    PE X (.Call (.Attribute (.Name b p1) "__init__" p2) (e :: es) [] pos) (tBI C ta) := by
  refine ⟨fun pins s σ H Q I h => ?_⟩
  refine PySem.W.methodCall_KW (ld_blt I hg N.g N.bt ?_ hn hdb) hc
  obtain ⟨m, fr⟩ := I.fr
  refine PySem.W.method_type fr I.ok.mod.kin N.ty N.st N.fc hh ?_
  exact ke_args T ha (I.tok _) h he hpl
theorem ps_estK (T : ErrK X.K C fI tl newId f) {Bn : String} (SF : StoreFacts Bn tl "object.__setattr__" "object") (ho : PE X o to) (he : PE X e te) (hs : swapsWith e (some (.Attribute o f p')) pos.line X.env = pure false := by rfl) : PS X (.Assign [.Attribute o f p'] e pos) (tEst C f to te) := by
  refine ⟨fun pins s σ H D I h => ?_⟩
  refine plainObj_wpAny_Assign_Attribute (thn (he.run pins s σ H _ I h) fun v s1 ⟨y, H1, I1, r1, q1⟩ => thn (ho.run pins s1 σ H1 _ I1 q1) fun u s2 ⟨x, H2, I2, r2, a, ex, ea, q⟩ => ?_) hs
  subst ex
  obtain rfl : u = Value.ref a := r2
  exact estK T SF I2 ea r1 fun dx s' n ne J => ⟨σ, _, J, q dx n ne⟩
theorem err_fnV {P : Program} {w : World} {K : Fr} {mg : Str → Option Value} {base : Heap} {qual : Str} {params : Arguments} {body : List Stmt} {scope : Scope} {fd : FuncData} {txt : Str} (F : FunD K "__init__" qual params body scope [] [] fI fd) (S : FnScope ["self", f] ["self", f] scope)
    (hb : ∀ (cdv : Value) (A : Around) (outer : List PySem.Env) (s : Shared) (H : Hp) (E : XK), PSs (cxOf (CXK kn P w) P w K mg base ["self", f] qual scope fI cdv A outer s H E) body (tSeq (tDrop (tBI C (tCons (tVar 0) (tCons (tC (.str txt)) tNil)))) (tEst C f (tVar 0) (tVar 1))))
    : FnOk P w K mg base (CXK kn P w) 1 fI fd ["self", f] (spErr C f) := by
  exact FunD.ok F S (fun vs H Q E ⟨a, y, e, _⟩ => by rw [e]; rfl) fun cdv A outer s H vs Q E hr ⟨a, y, e, ea, q⟩ => ⟨_, hb cdv A outer s H E, by
    subst e
    refine ⟨.ref a, rfl, a, [.str txt], rfl, (show 1 ≤ 1000 by decide), ea, ?_⟩
    exact ⟨y, rfl, .ref a, rfl, a, rfl, ea, fun dx n ne => q dx n ne⟩⟩
end
def wMkE (c : Nat) (f : FA) (ρ : List Sl) (S : Store) (K : KD) (ex : KX) : Prop := f ρ S (fun ds S1 => ∃ d, ds = [d] ∧ K (.err c [d]) S1) ex
section
variable {kn : Bool} {g : Sg} {X : Cx} {W : WX} {e : Expr} {pos : Pos} {fr fk : FA} {kws : List Keyword}
/-- the call of an own error's class; vs: the values, by place or by name -/
theorem mkE_go {pins : List (Addr × Obj)} {σ : L2.St} {H1 : Hp} {s1 : Shared} {w1 : Wd} {ρ : List Sl} {S1 : Store} {c j : Nat} {f : Str} {v : V} {d : D} {us ws : List Value} {ks : List Str} {K : KD} {Q : VK} {tl : List Value} {newId : String} {fI : Addr}
    (hK : g.K = X.K) (hf : g.fl c = [f]) (K1 : ErrK X.K (g.ad c) fI tl newId f) (B : NewB tl newId) (hr : Room j X.A) (hj : 2 ≤ j) (hus : us.length ≤ 1)
    (F1 : ∀ (A : Around) (outer : List PySem.Env) (s : Shared) (H : Hp) (a : Addr) (Q : VK) (E : XK), Room 1 A → Env0 X.prog X.w X.K X.mg X.base A outer s H → H a = some (exo a (g.ad c) none) → (∀ dx, H dx = none → dx ≠ a → Q .non (upd (upd H dx (exd dx [(f, v)])) a (exo a (g.ad c) (some dx)))) →
      codeAny (model X.prog X.w) A (.call (.ref fI) ⟨.ref a :: us, ks.zip ws⟩) (CR (CXK kn X.prog X.w) outer X.prog X.w H s Q E) s)
    (I1 : Inv X pins σ H1 s1) (A1 : At g w1 ρ S1 σ H1) (r1 : Rep g w1 v d) (k : ∀ v' w' H', Le w1 w' → At g w' ρ S1 σ H' → Rep g w' v' (.err c [d]) → Q v' H') :
    wpAny (model X.prog X.w) X.A (call (.ref (g.ad c)) us (ks.zip ws)) (EP X pins σ Q) X.xe s1 := by
  obtain ⟨Bn, iI, bmB, FB, hB⟩ := B.b
  obtain ⟨nm, N, qn, bs, bm, hdct, sn, sub, ab, col, dd, k0, k1, k2, k3, k5, hC, hT⟩ := PySem.W.excInit_of I1.kIn K1.ini
  obtain ⟨hp, gs, dr, tk, os⟩ := s1
  have hsz : hp.objs.size ≤ hp.objs.size + 1 := Nat.le_succ _
  have hn : H1 (hp.objs.size + 1) = none := I1.hok.fresh hsz
  have up : ∀ b o, hp.get? b = some o → ((hp.push (PySem.W.kdv_tup us)).push (excO (g.ad c) hp.objs.size)).get? b = some o := fun b o z => Heap.get?_push_of_some _ (Heap.get?_push_of_some _ z)
  have he : ((hp.push (PySem.W.kdv_tup us)).push (excO (g.ad c) hp.objs.size)).get? (hp.objs.size + 1) = some (excO (g.ad c) hp.objs.size) := by heap_get
  have I2 : Inv X pins σ (upd H1 (hp.objs.size + 1) (exo (hp.objs.size + 1) (g.ad c) none)) ⟨(hp.push (PySem.W.kdv_tup us)).push (excO (g.ad c) hp.objs.size), gs, dr, tk, os⟩ := I1.laid (t' := tk) up hsz (exo_ok he)
  refine wpAny_call (callE FB ((hT _).trans hB) ((hT _).trans B.na) ((hT _).trans B.nn) hC (Nat.le_trans hus (by decide)) (PySem.W.looks_findIn I1.kIn K1.iC) (fun self => PySem.W.bind_fn I1.kIn self K1.tI)
    (codeAny_mono (F1 _ X.stack _ _ (hp.objs.size + 1) (fun r H2 => r = .non ∧ ∃ dx, H1 dx = none ∧ dx ≠ hp.objs.size + 1 ∧ H2 = upd (upd (upd H1 (hp.objs.size + 1) (exo (hp.objs.size + 1) (g.ad c) none)) dx (exd dx [(f, v)])) (hp.objs.size + 1) (exo (hp.objs.size + 1) (g.ad c) (some dx))) (fun _ _ _ => False)
      ((hr.mono hj).make (g.ad c) us (ks.zip ws)) (I2.env0.make (g.ad c) us (ks.zip ws)) upd_same fun dx n ne => ⟨rfl, dx, by rw [upd_ne ne] at n; exact n, ne, rfl⟩) fun r s' hq' => ?_))
  cases r with
  | error er => exact (passAtK (X := X.wish fun _ _ => False) (W := fun _ _ _ _ => False) takesN σ pins _ _ er s' (I2.wish _) hq').elim
  | ok fl =>
    cases fl with
    | ret u =>
      obtain ⟨v', H', I3, rv, ev, dx, hd1, dne, eH⟩ := I2.after hq'
      subst ev
      refine ⟨rv, V.ref (hp.objs.size + 1), H', I3, rfl, ?_⟩
      have ed : H' = upd (upd H1 dx (exd dx [(f, v)])) (hp.objs.size + 1) (exo (hp.objs.size + 1) (g.ad c) (some dx)) := by
        rw [eH]
        funext b
        by_cases z : b = hp.objs.size + 1
        · rw [z, upd_same, upd_same]
        · rw [upd_ne z, upd_ne z]
          by_cases z2 : b = dx
          · rw [z2, upd_same, upd_same]
          · rw [upd_ne z2, upd_ne z2, upd_ne z]
      have ha2 : upd H1 dx (exd dx [(f, v)]) (hp.objs.size + 1) = none := by rw [upd_ne (Ne.symm dne)]; exact hn
      have A2 := (A1.lay (o := exd dx [(f, v)]) hd1).lay (o := exo (hp.objs.size + 1) (g.ad c) (some dx)) ha2
      have L1 := le_add (o := exd dx [(f, v)]) A1.if_ (A1.free hd1)
      have Ax := A1.lay (o := exd dx [(f, v)]) hd1
      have L2 := le_add (o := exo (hp.objs.size + 1) (g.ad c) (some dx)) Ax.if_ (Ax.free ha2)
      rw [ed]
      refine k _ _ _ (L1.trans L2) A2 (.err (dx := dx) (vs := [v]) upd_same ?_ (by rw [hf]; rfl) (.one (r1.mono (L1.trans L2).s)))
      show upd (upd w1.I dx _) (hp.objs.size + 1) _ dx = _
      rw [upd_ne dne, upd_same, hf]
      rfl
    | next => exact False.elim hq'
    | brk => exact False.elim hq'
    | cont => exact False.elim hq'
end
section
variable {kn : Bool} {g : Sg} {X : Cx} {W : WX} {e : Expr} {pos : Pos} {fe : FE} {fr fk : FA} {kws : List Keyword} {x f : Str} {c j : Nat}
theorem emkE {p : Pos} (F : ErrV (kn := kn) X.prog X.w X.K X.mg X.base x (g.ad c) f) (hK : g.K = X.K) (hf : g.fl c = [f]) (hr : Room j X.A) (hj : 2 ≤ j) (hg : Gl X x) (ha : EA g X W [e] fr) (hdb : (x == ("__debug__" : Str)) = false := by decide)
    (he : starEach [e] X.env = (false, eval e X.env) :: starEach [] X.env := by rfl) (hpl : (backTo pos (starEach [] X.env)).any (·.1) = false := by rfl) : EV g X W (.Call (.Name x p) [e] [] pos) (wMkE c fr) := by
  refine ⟨fun pins s σ H Q I h => ?_⟩
  obtain ⟨w, ρ, S, K, ex, A, xo, ko, q⟩ := h
  obtain ⟨tl, newId, fI, K1, B, F1, _⟩ := F.k
  refine wpAny_Call_Name_kw (ld_glob I hg F.g ?_ hdb)
  refine PySem.W.callWith_K (h₀ := X.base) I.ok.mod.kin K1.kC (thn (rdA_run ha pos I A xo q) fun us s1 ⟨vs, H1, w1, ds, S1, I1, rv, l1, A1, r1, d, ed, hq⟩ => ⟨I1.kIn, ?_⟩) he hpl
  subst ed
  obtain ⟨v, rfl, rd⟩ := Reps.inv1 r1
  obtain ⟨u, rfl, ru⟩ := vals1 rv
  refine mkE_go (kn := kn) (us := [u]) (ws := []) (ks := []) (S1 := S1) (K := K) hK hf K1 B hr hj (Nat.le_refl _) (fun A2 outer s2 H2 a Q2 E2 r2 e2 h2 h3 => ?_) I1 A1 rd (fun v2 w2 H2 l2 A2 r2 => ko _ _ hq v2 w2 H2 (l1.trans l2) A2 r2)
  exact F1 A2 outer s2 H2 [.ref a, u] [.ref a, v] Q2 E2 r2 e2 (.cons rfl (.cons ru .nil)) ⟨a, v, rfl, h2, h3⟩
theorem emkEK {p : Pos} (F : ErrV (kn := kn) X.prog X.w X.K X.mg X.base x (g.ad c) f) (hK : g.K = X.K) (hf : g.fl c = [f]) (hr : Room j X.A) (hj : 2 ≤ j) (hg : Gl X x) (ha : EK g X W kws fk) (hdb : (x == ("__debug__" : Str)) = false := by decide)
    (hall : (backToKw pos (keywordEach kws X.env)).all (·.1.isSome) = true := by rfl) (hks : (backToKw pos (keywordEach kws X.env)).filterMap (·.1) = [f] := by rfl)
    (hpl : ((backTo pos (starEach [] X.env)).any (·.1) || (backToKw pos (keywordEach kws X.env)).any (·.1.isNone)) = false := by rfl) : EV g X W (.Call (.Name x p) [] kws pos) (wMkE c fk) := by
  refine ⟨fun pins s σ H Q I h => ?_⟩
  obtain ⟨w, ρ, S, K, ex, A, xo, ko, q⟩ := h
  obtain ⟨tl, newId, fI, K1, B, _, F1⟩ := F.k
  refine wpAny_Call_Name_kw (ld_glob I hg F.g ?_ hdb)
  refine PySem.W.callWith_KW0 (first := []) (h₀ := X.base) I.ok.mod.kin K1.kC hall (thn (rdK_run ha pos I A xo q) fun us s1 ⟨vs, H1, w1, ds, S1, I1, rv, l1, A1, r1, d, ed, hq⟩ => ⟨I1.kIn, ?_⟩) hpl
  rw [hks]
  subst ed
  obtain ⟨v, rfl, rd⟩ := Reps.inv1 r1
  obtain ⟨u, rfl, ru⟩ := vals1 rv
  refine mkE_go (kn := kn) (us := []) (ws := [u]) (ks := [f]) (S1 := S1) (K := K) hK hf K1 B hr hj (Nat.zero_le _) (fun A2 outer s2 H2 a Q2 E2 r2 e2 h2 h3 => ?_) I1 A1 rd (fun v2 w2 H2 l2 A2 r2 => ko _ _ hq v2 w2 H2 (l1.trans l2) A2 r2)
  exact F1 A2 outer s2 H2 [.ref a] [u] [.ref a] [v] Q2 E2 r2 e2 (.cons rfl .nil) (.cons ru .nil) rfl rfl ⟨a, v, rfl, h2, h3⟩
theorem err_at {pins : List (Addr × Obj)} {σ : L2.St} {H : Hp} {s : Shared} {w : Wd} {ρ : List Sl} {S : Store} {v : V} {ds : List D} (I : Inv X pins σ H s) (A : At g w ρ S σ H) (r : Rep g w v (.err c ds)) :
    ∃ a oe od dx vs, v = .ref a ∧ PySem.W.InstAt s.heap a oe (g.ad c) (some od) ∧ Reps g w vs ds ∧ vs.length = (g.fl c).length ∧ H dx = some (exd dx ((g.fl c).zip vs)) ∧ (∃ mA, s.heap.Ns1 dx mA ∧ (∀ n, RelO (((g.fl c).zip vs).lookup n) (mA n)) ∧ ∀ n, PySem.W.lookIn n od = some (mA n)) := by
  cases r with
  | @err a dx _ vs _ h hd hl rr =>
    obtain ⟨t1, ho⟩ := exo_at I.hok (A.ih _ _ h)
    obtain ⟨mA, hns, hr⟩ := exd_at I.hok (A.ih _ _ hd)
    obtain ⟨od, h2, h3⟩ := lookIn_ns hns
    exact ⟨a, _, od, dx, vs, rfl, ⟨ho, rfl, rfl, h2⟩, rr, hl, A.ih _ _ hd, mA, hns, hr, h3⟩
/-- e.f, e an error's value -/
def wEF (cs : List Nat) (fe : FE) (ρ : List Sl) (S : Store) (K : KD) (ex : KX) : Prop := fe ρ S (fun y S1 => match y with
  | .err c [d] => cs.contains c = true ∧ K d S1
  | _ => False) ex
theorem eEF {cs : List Nat} (hfl : ∀ c, cs.contains c = true → g.fl c = [f] ∧ XfC X.K (g.ad c) ∧ PySem.W.findIn X.K (.ref (g.ad c)) f = some none) (he : EV g X W e fe) (hb : attributeBase e f X.env (eval e X.env) = eval e X.env := by rfl) : EV g X W (.Attribute e f pos) (wEF cs fe) := by
  refine ⟨fun pins s σ H Q I h => ?_⟩
  obtain ⟨w, ρ, S, K, ex, A, xo, ko, q⟩ := h
  refine attr_of hb (thn (he.run pins s σ H (fun v H1 => ∃ c d w1 S1, Le w w1 ∧ At g w1 ρ S1 σ H1 ∧ Rep g w1 v (.err c [d]) ∧ cs.contains c = true ∧ K d S1) I ⟨w, ρ, S, _, ex, A, xo, fun y S1 q1 v w1 H1 l1 A1 r1 => ?_, q⟩) fun u s1 hh => ?_)
  · split at q1
    · exact ⟨_, _, w1, S1, l1, A1, r1, q1.1, q1.2⟩
    · exact q1.elim
  obtain ⟨v, H1, I1, ru, c, d, w1, S1, l1, A1, r1, hc, q1⟩ := hh
  obtain ⟨ef, T, no⟩ := hfl c hc
  obtain ⟨a, oe, od, dx, vs, rfl, J, rr, hl, hd, mA, hns, hr, h3⟩ := err_at I1 A1 r1
  obtain rfl : u = Value.ref a := ru
  obtain ⟨y, rfl, ry⟩ := Reps.inv1 rr
  rw [ef] at hr
  obtain ⟨z, hz, rz⟩ := RelO.some_of (v := y) (o := mA f) (by
    have := hr f
    simpa [List.lookup] using this)
  exact HandSPX.exc_get I1.kIn J T.ga T.gg T.exC (PySem.W.findObj_own T.hdC no rfl (by rw [h3, hz])) (handed_of rz) ⟨y, H1, I1.tok _, rz, ko _ _ q1 _ w1 H1 l1 A1 ry⟩
/-- isinstance(e, C), e an error's value -/
def wIsE (cs : Nat → Option Bool) (fe : FE) (ρ : List Sl) (S : Store) (K : KD) (ex : KX) : Prop := fe ρ S (fun y S1 => match y with
  | .err c _ => (match cs c with | some b => K (.bl b) S1 | none => False)
  | _ => False) ex
theorem eIsE {cs : Nat → Option Bool} {cE : Expr} {cc : V} {cv : Value} {p2 : Pos} (hcs : ∀ c b, cs c = some b → ExcC X.K (g.ad c) ∧ PySem.W.kitOne X.K (.ref (g.ad c)) cv = some b) (hcv : ∀ u, RelV cc u → u = cv) (hn : EV g X W e fe)
    (hc : PE X cE (tC cc)) (hg : Gl X "isinstance") (hm : X.mg "isinstance" = none) (he : starEach [e, cE] X.env = (false, eval e X.env) :: starEach [cE] X.env := by rfl) (he2 : starEach [cE] X.env = (false, eval cE X.env) :: starEach [] X.env := by rfl)
    (hpl : (backTo pos (starEach [cE] X.env)).any (·.1) = false := by rfl) : EV g X W (.Call (.Name "isinstance" p2) [e, cE] [] pos) (wIsE cs fe) := by
  have call : CallR X (.builtin "isinstance") (fun xs H Q => ∃ (w : Wd) (ρ : List Sl) (S : Store) (σ : L2.St) (v : V) (c : Nat) (ds : List D) (b : Bool), xs = [v, cc] ∧ At g w ρ S σ H ∧ Rep g w v (.err c ds) ∧ cs c = some b ∧ Q (.bl b) H) := by
    intro pins s σ H xs us Q I r h
    obtain ⟨w, ρ, S, σ', v, c, ds, b, rfl, A, rv, hb, q⟩ := h
    obtain ⟨C, hk⟩ := hcs c b hb
    cases r with
    | cons rx rr =>
      cases rr with
      | cons rt rr =>
        cases rr
        have ec := hcv _ rt
        subst ec
        cases rv with
        | @err a dx _ vs _ h hd hl rr =>
          obtain ⟨t1, ho⟩ := exo_at I.hok (A.ih _ _ h)
          obtain ⟨mA, hns, hr⟩ := exd_at I.hok (A.ih _ _ hd)
          obtain ⟨od, h2, h3⟩ := lookIn_ns hns
          cases rx
          exact PySem.W.kia_one (kit_exc (ox := { cls := .ref (g.ad c), dict := some dx, data := .fields #[.ref t1, .none, .none, .none, .bool false, .none] }) C) I.kIn ⟨some od, ho, rfl, rfl, h2⟩ hk (fun z => nomatch z) fun tk => ⟨.bl b, H, I.kept (t' := tk) fun _ _ z => z, rfl, q⟩
  refine ⟨fun pins s σ H Q I h => ?_⟩
  obtain ⟨w, ρ, S, K, ex, A, xo, ko, q⟩ := h
  refine (pe_callB call hg hm boot_isinstance (pa_cons hn (pa_cons hc pa_nil he2) he) (by decide) (by decide) he hpl).run pins s σ H Q I ?_
  refine ⟨w, ρ, S, _, ex, A, xo, fun y S1 q1 v w1 H1 l1 A1 r1 => ?_, q⟩
  split at q1
  · rename_i c ds
    cases hb : cs c with
    | none => rw [hb] at q1; exact q1.elim
    | some b =>
      rw [hb] at q1
      exact ⟨w1, ρ, S1, σ, v, c, ds, b, rfl, A1, r1, hb, ko _ _ q1 _ w1 H1 l1 A1 (.bl b)⟩
  · exact q1.elim
end
def rEqR (neg : Bool) (x y : D) (S : Store) (K : KD) : Prop := match x with
  | .ref n => ∃ ds ps q, S[n]? = some (some (.lst ds)) ∧ toPys ds = some ps ∧ toPy y = some q ∧ SeqAt.shaped (.list ps) = true ∧ SeqAt.shaped q = true ∧ K (.bl (if neg then !PyData.eqv (.list ps) q else PyData.eqv (.list ps) q)) S
  | _ => False
section
variable {g : Sg} {X : Cx}
theorem reqR {neg : Bool} {σ : L2.St} {H : Hp} {w : Wd} {ρ : List Sl} {S : Store} {x y : D} {vx vy : V} {K : KD} {Q : VK} (hK : g.K = X.K) (A : At g w ρ S σ H) (rx : Rep g w vx x) (ry : Rep g w vy y) (ko : KOk g w ρ σ K Q) (h : rEqR neg x y S K) :
    ∃ p q, Dp X.K H vx p ∧ Dp X.K H vy q ∧ SeqAt.shaped p = true ∧ SeqAt.shaped q = true ∧ Q (.bl (if neg then !PyData.eqv p q else PyData.eqv p q)) H := by
  unfold rEqR at h
  split at h
  · obtain ⟨ds, ps, q, hS, h1, h2, h3, h4, k⟩ := h
    cases rx with
    | ref hk =>
      obtain ⟨_, vs, e1, rr⟩ := A.st _ _ hS
      exact ⟨.list ps, q, by rw [← hK]; exact .lst (SqL.of e1) (dps_of A rr h1), by rw [← hK]; exact dp_of A ry h2, h3, h4, ko _ S k _ w H (Le.refl w) A (.bl _)⟩
  · exact h.elim
theorem deqR (hK : g.K = X.K) (hu : X.A.units + 64 < cLine) : OpD g X (compareOp .Eq) (rEqR false) := OpD.of (op_eqD hu) fun _ _ _ _ _ _ _ _ _ _ _ A rx ry ko h => reqR (neg := false) hK A rx ry ko h
end
end R3


namespace Row
open PySem PySem.Spec PyProof.Rows L2 R3

/-! ### contracts -/
def intsD (xs : List Int) : List D := xs.map D.int
def betw (d : D) (lo hi : Int) : Bool := match d with
  | .int i => decide (lo ≤ i) && decide (i ≤ hi)
  | _ => false
/-! draws -/
/-! pools -/
def Pl (n : Nat) (S : Store) : Prop := ∃ a m : Int, 0 ≤ a ∧ 0 ≤ m ∧ m < 2147483647 ∧ S[n]? = some (some (.lst [.int a, .int m]))
def C_law_pool : CtL := fun ds S K _ => ∃ ns, ∃ k : Nat, ds = [.scr ns, .int (k : Nat)] ∧ ns.length ≤ 63 ∧ k ≤ 63 ∧ ∀ a m : Int, 0 ≤ a → 0 ≤ m → m < 2147483647 → K [.int a, .int m] S
def C_law_take : Ct := fun ds S K _ => ∃ n many, ds = [.ref n, .int many] ∧ Pl n S ∧ 0 < many ∧ many.natAbs.log2 < 9000 ∧ ∀ v S', 0 ≤ v → v < many → Pl n S' → Oth n S S' → K (.int v) S'

/-! own errors as values: each with what tells its field -/
def eo90 : List (Nat × Int) := [(9, 0), (10, 1), (11, 1), (12, 1), (13, 1), (14, 1), (16, 0), (17, 0), (15, 2), (18, 5), (19, 0), (20, 0), (21, 2), (22, 3), (23, 4)]
def row90 : List (List Int) := [[0, 1], [0, 1], [0, 1], [0, 1], [0, 1], [0, 1], [0, 1], [0, 1], [0, 1], [0, 1], [2, 6], [2, 6], [3, 6], [4], [5]]
def val90 : List D := [.non, .bl true, .int (-1), .int 0, .str "aB", .str "", .tup [.int 1, .int 2], .lst [.int 3], .dic [], .int (10 ^ 20)]
def due90 (j : Nat) : List D := (List.range 8).map fun (n : Nat) => .bl ((row90.getD j []).contains (n : Int))
def one90 (j : Nat) : List D := (List.range 15).map fun (n : Nat) => .bl (n == j)
def C_law_errors : CtL := fun ds S K _ => ∃ d, ds = [d] ∧ K (eo90.map fun p => .lst [.err p.1 [d], .int p.2]) S
def C_law_named : CtL := fun ds S K _ => ∃ d, ds = [d] ∧ K (eo90.map fun p => .err p.1 [d]) S
def C_law_field : Ct := fun ds S K _ => ∃ (j : Nat) (d : D) (p : Nat × Int), eo90[j]? = some p ∧ ds = [.err p.1 [d], .int p.2] ∧ K d S
def C_law_bases : CtL := fun ds S K _ => ∃ (j : Nat) (d : D) (p : Nat × Int), eo90[j]? = some p ∧ ds = [.err p.1 [d]] ∧ K (due90 j) S
def C_law_classes : CtL := fun ds S K _ => ∃ (j : Nat) (d : D) (p : Nat × Int), eo90[j]? = some p ∧ ds = [.err p.1 [d]] ∧ K (one90 j) S
def C_law : Ct := fun ds S K _ => ∃ ns, ds = [.scr ns] ∧ ns.length ≤ 63 ∧ S = [] ∧ ∀ S', K (.bl true) S'


def N_law_pool : List Str := ["_law_script", "_law_k", "_law_cell", "_law_number", "_law_mixed"]
def rd_law_pool : FS := wSeq (wSet 2 (wOp rIxD (wVal (wCat (wVal (wSlL (wVar 0) (wPrt (wVar 1)) (wPrt (wOp rdAdd (wVar 1) (wC (.int 1)))))) (wVal (wLst (wCons (wC (.int 0)) (wNil)))))) (wC (.int 0)))) (wSeq (wSet 3 (wIf (wTst (wOp (rdGe) (wVar 2) (wC (.int 0)))) (wVar 2) (wOp rdSub (wNeg (wC (.int 1))) (wVar 2)))) (wSeq (wSet 4 (wOp rdMod (wOp rMulU (wOp rdAdd (wOp rdAdd (wOp rdAdd (wOp rdMod (wVar 3) (wC (.int 2147483629))) (wOp rMulU (wOp rMulU (wC (.int 7919)) (wVar 1)) (wVar 1))) (wOp rMulU (wC (.int 31)) (wVar 1))) (wC (.int 17))) (wC (.int 48271))) (wC (.int 2147483647)))) (wRetL (wLst (wCons (wOp rMulU (wVar 3) (wCB rInt1 (wCons (wOp (rdGe) (wVar 3) (wOp rdPow (wC (.int 10)) (wC (.int 18)))) (wNil)))) (wCons (wOp rdMod (wOp rMulU (wVar 4) (wVar 4)) (wC (.int 2147483629))) (wNil)))))))
def N_law_take : List Str := ["_law_pool_here", "_law_many", "_law_digit"]
def rd_law_take : FS := wSeq (wIfS (wTst (wOp (rdGt) (wOp rIxD (wVar 0) (wC (.int 0))) (wC (.int 0)))) (wSeq (wSet 2 (wOp rdMod (wOp rIxD (wVar 0) (wC (.int 0))) (wVar 1))) (wSeq (wPutRef (wOp rdFdv (wOp rIxD (wVar 0) (wC (.int 0))) (wVar 1)) (wVar 0) (wC (.int 0))) (wRet (wVar 2)))) (wNext)) (wSeq (wPutRef (wOp rdMod (wOp rdAdd (wOp rMulU (wOp rIxD (wVar 0) (wC (.int 1))) (wC (.int 48271))) (wC (.int 12345))) (wC (.int 2147483647))) (wVar 0) (wC (.int 1))) (wRet (wOp rdMod (wOp rdFdv (wOp rdMod (wOp rMulU (wOp rIxD (wVar 0) (wC (.int 1))) (wOp rIxD (wVar 0) (wC (.int 1)))) (wC (.int 2147483629))) (wC (.int 64))) (wVar 1))))
def N_law_errors : List Str := ["_law_one", "_law_found"]
def rd_law_errors : FS := wSeq (wSet 1 (wVal (wLst (wCons (wVal (wLst (wCons (wMkE 9 (wCons (wVar 0) (wNil))) (wCons (wC (.int 0)) (wNil))))) (wCons (wVal (wLst (wCons (wMkE 10 (wCons (wVar 0) (wNil))) (wCons (wC (.int 1)) (wNil))))) (wCons (wVal (wLst (wCons (wMkE 11 (wCons (wVar 0) (wNil))) (wCons (wC (.int 1)) (wNil))))) (wNil))))))) (wSeq (wSet 1 (wVal (wCat (wVar 1) (wVal (wLst (wCons (wVal (wLst (wCons (wMkE 12 (wCons (wVar 0) (wNil))) (wCons (wC (.int 1)) (wNil))))) (wNil))))))) (wSeq (wSet 1 (wVal (wCat (wVar 1) (wVal (wLst (wCons (wVal (wLst (wCons (wMkE 13 (wCons (wVar 0) (wNil))) (wCons (wC (.int 1)) (wNil))))) (wCons (wVal (wLst (wCons (wMkE 14 (wCons (wVar 0) (wNil))) (wCons (wC (.int 1)) (wNil))))) (wCons (wVal (wLst (wCons (wMkE 16 (wCons (wVar 0) (wNil))) (wCons (wC (.int 0)) (wNil))))) (wNil))))))))) (wSeq (wSet 1 (wVal (wCat (wVar 1) (wVal (wLst (wCons (wVal (wLst (wCons (wMkE 17 (wCons (wVar 0) (wNil))) (wCons (wC (.int 0)) (wNil))))) (wCons (wVal (wLst (wCons (wMkE 15 (wCons (wVar 0) (wNil))) (wCons (wC (.int 2)) (wNil))))) (wCons (wVal (wLst (wCons (wMkE 18 (wCons (wVar 0) (wNil))) (wCons (wC (.int 5)) (wNil))))) (wNil))))))))) (wSeq (wSet 1 (wVal (wCat (wVar 1) (wVal (wLst (wCons (wVal (wLst (wCons (wMkE 19 (wCons (wVar 0) (wNil))) (wCons (wC (.int 0)) (wNil))))) (wCons (wVal (wLst (wCons (wMkE 20 (wCons (wVar 0) (wNil))) (wCons (wC (.int 0)) (wNil))))) (wNil)))))))) (wSeq (wSet 1 (wVal (wCat (wVar 1) (wVal (wLst (wCons (wVal (wLst (wCons (wMkE 21 (wCons (wVar 0) (wNil))) (wCons (wC (.int 2)) (wNil))))) (wNil))))))) (wRetL (wCat (wVar 1) (wVal (wLst (wCons (wVal (wLst (wCons (wMkE 22 (wCons (wVar 0) (wNil))) (wCons (wC (.int 3)) (wNil))))) (wCons (wVal (wLst (wCons (wMkE 23 (wCons (wVar 0) (wNil))) (wCons (wC (.int 4)) (wNil))))) (wNil))))))))))))
def N_law_named : List Str := ["_law_one", "_law_found"]
def rd_law_named : FS := wSeq (wSet 1 (wVal (wLst (wCons (wMkE 9 (wCons (wVar 0) (wNil))) (wCons (wMkE 10 (wCons (wVar 0) (wNil))) (wNil)))))) (wSeq (wSet 1 (wVal (wCat (wVar 1) (wVal (wLst (wCons (wMkE 11 (wCons (wVar 0) (wNil))) (wCons (wMkE 12 (wCons (wVar 0) (wNil))) (wNil)))))))) (wSeq (wSet 1 (wVal (wCat (wVar 1) (wVal (wLst (wCons (wMkE 13 (wCons (wVar 0) (wNil))) (wCons (wMkE 14 (wCons (wVar 0) (wNil))) (wNil)))))))) (wSeq (wSet 1 (wVal (wCat (wVar 1) (wVal (wLst (wCons (wMkE 16 (wCons (wVar 0) (wNil))) (wNil))))))) (wSeq (wSet 1 (wVal (wCat (wVar 1) (wVal (wLst (wCons (wMkE 17 (wCons (wVar 0) (wNil))) (wCons (wMkE 15 (wCons (wVar 0) (wNil))) (wCons (wMkE 18 (wCons (wVar 0) (wNil))) (wNil))))))))) (wSeq (wSet 1 (wVal (wCat (wVar 1) (wVal (wLst (wCons (wMkE 19 (wCons (wVar 0) (wNil))) (wNil))))))) (wSeq (wSet 1 (wVal (wCat (wVar 1) (wVal (wLst (wCons (wMkE 20 (wCons (wVar 0) (wNil))) (wCons (wMkE 21 (wCons (wVar 0) (wNil))) (wNil)))))))) (wRetL (wCat (wVar 1) (wVal (wLst (wCons (wMkE 22 (wCons (wVar 0) (wNil))) (wCons (wMkE 23 (wCons (wVar 0) (wNil))) (wNil)))))))))))))
def N_law_field : List Str := ["_law_error", "_law_way"]
def rd_law_field : FS := wSeq (wIfS (wTst (wOp (rEqU false) (wVar 1) (wC (.int 0)))) (wRet (wEF [9, 16, 17, 19, 20] (wVar 0))) (wNext)) (wSeq (wIfS (wTst (wOp (rEqU false) (wVar 1) (wC (.int 1)))) (wRet (wEF [10, 11, 12, 13, 14] (wVar 0))) (wNext)) (wSeq (wIfS (wTst (wOp (rEqU false) (wVar 1) (wC (.int 2)))) (wRet (wEF [15, 21] (wVar 0))) (wNext)) (wSeq (wIfS (wTst (wOp (rEqU false) (wVar 1) (wC (.int 5)))) (wRet (wEF [18] (wVar 0))) (wNext)) (wRet (wIf (wTst (wOp (rEqU false) (wVar 1) (wC (.int 3)))) (wEF [22] (wVar 0)) (wEF [23] (wVar 0)))))))
def N_law_bases : List Str := ["_law_error", "_law_found"]
def rd_law_bases : FS := wSeq (wSet 1 (wVal (wLst (wCons (wIsE (csOf [(9, true), (10, true), (11, true), (12, true), (13, true), (14, true), (15, true), (16, true), (17, true), (18, true), (19, false), (20, false), (21, false), (22, false), (23, false)]) (wVar 0)) (wCons (wIsE (csOf [(9, true), (10, true), (11, true), (12, true), (13, true), (14, true), (15, true), (16, true), (17, true), (18, true), (19, false), (20, false), (21, false), (22, false), (23, false)]) (wVar 0)) (wCons (wIsE (csOf [(9, false), (10, false), (11, false), (12, false), (13, false), (14, false), (15, false), (16, false), (17, false), (18, false), (19, true), (20, true), (21, false), (22, false), (23, false)]) (wVar 0)) (wNil))))))) (wSeq (wSet 1 (wVal (wCat (wVar 1) (wVal (wLst (wCons (wIsE (csOf [(9, false), (10, false), (11, false), (12, false), (13, false), (14, false), (15, false), (16, false), (17, false), (18, false), (19, false), (20, false), (21, true), (22, false), (23, false)]) (wVar 0)) (wCons (wIsE (csOf [(9, false), (10, false), (11, false), (12, false), (13, false), (14, false), (15, false), (16, false), (17, false), (18, false), (19, false), (20, false), (21, false), (22, true), (23, false)]) (wVar 0)) (wNil)))))))) (wSeq (wSet 1 (wVal (wCat (wVar 1) (wVal (wLst (wCons (wIsE (csOf [(9, false), (10, false), (11, false), (12, false), (13, false), (14, false), (15, false), (16, false), (17, false), (18, false), (19, false), (20, false), (21, false), (22, false), (23, true)]) (wVar 0)) (wNil))))))) (wRetL (wCat (wVar 1) (wVal (wLst (wCons (wIsE (csOf [(9, false), (10, false), (11, false), (12, false), (13, false), (14, false), (15, false), (16, false), (17, false), (18, false), (19, true), (20, true), (21, true), (22, false), (23, false)]) (wVar 0)) (wCons (wIsE (csOf [(9, false), (10, false), (11, false), (12, false), (13, false), (14, false), (15, false), (16, false), (17, false), (18, false), (19, false), (20, false), (21, false), (22, false), (23, false)]) (wVar 0)) (wNil)))))))))
def N_law_classes : List Str := ["_law_error", "_law_found"]
def rd_law_classes : FS := wSeq (wSet 1 (wVal (wLst (wCons (wIsE (csOf [(9, true), (10, false), (11, false), (12, false), (13, false), (14, false), (15, false), (16, false), (17, false), (18, false), (19, false), (20, false), (21, false), (22, false), (23, false)]) (wVar 0)) (wCons (wIsE (csOf [(9, false), (10, true), (11, false), (12, false), (13, false), (14, false), (15, false), (16, false), (17, false), (18, false), (19, false), (20, false), (21, false), (22, false), (23, false)]) (wVar 0)) (wNil)))))) (wSeq (wSet 1 (wVal (wCat (wVar 1) (wVal (wLst (wCons (wIsE (csOf [(9, false), (10, false), (11, true), (12, false), (13, false), (14, false), (15, false), (16, false), (17, false), (18, false), (19, false), (20, false), (21, false), (22, false), (23, false)]) (wVar 0)) (wNil))))))) (wSeq (wSet 1 (wVal (wCat (wVar 1) (wVal (wLst (wCons (wIsE (csOf [(9, false), (10, false), (11, false), (12, true), (13, false), (14, false), (15, false), (16, false), (17, false), (18, false), (19, false), (20, false), (21, false), (22, false), (23, false)]) (wVar 0)) (wCons (wIsE (csOf [(9, false), (10, false), (11, false), (12, false), (13, true), (14, false), (15, false), (16, false), (17, false), (18, false), (19, false), (20, false), (21, false), (22, false), (23, false)]) (wVar 0)) (wNil)))))))) (wSeq (wSet 1 (wVal (wCat (wVar 1) (wVal (wLst (wCons (wIsE (csOf [(9, false), (10, false), (11, false), (12, false), (13, false), (14, true), (15, false), (16, false), (17, false), (18, false), (19, false), (20, false), (21, false), (22, false), (23, false)]) (wVar 0)) (wCons (wIsE (csOf [(9, false), (10, false), (11, false), (12, false), (13, false), (14, false), (15, false), (16, true), (17, false), (18, false), (19, false), (20, false), (21, false), (22, false), (23, false)]) (wVar 0)) (wNil)))))))) (wSeq (wSet 1 (wVal (wCat (wVar 1) (wVal (wLst (wCons (wIsE (csOf [(9, false), (10, false), (11, false), (12, false), (13, false), (14, false), (15, false), (16, false), (17, true), (18, false), (19, false), (20, false), (21, false), (22, false), (23, false)]) (wVar 0)) (wCons (wIsE (csOf [(9, false), (10, false), (11, false), (12, false), (13, false), (14, false), (15, true), (16, false), (17, false), (18, false), (19, false), (20, false), (21, false), (22, false), (23, false)]) (wVar 0)) (wNil)))))))) (wSeq (wSet 1 (wVal (wCat (wVar 1) (wVal (wLst (wCons (wIsE (csOf [(9, false), (10, false), (11, false), (12, false), (13, false), (14, false), (15, false), (16, false), (17, false), (18, true), (19, false), (20, false), (21, false), (22, false), (23, false)]) (wVar 0)) (wCons (wIsE (csOf [(9, false), (10, false), (11, false), (12, false), (13, false), (14, false), (15, false), (16, false), (17, false), (18, false), (19, true), (20, false), (21, false), (22, false), (23, false)]) (wVar 0)) (wNil)))))))) (wSeq (wSet 1 (wVal (wCat (wVar 1) (wVal (wLst (wCons (wIsE (csOf [(9, false), (10, false), (11, false), (12, false), (13, false), (14, false), (15, false), (16, false), (17, false), (18, false), (19, false), (20, true), (21, false), (22, false), (23, false)]) (wVar 0)) (wCons (wIsE (csOf [(9, false), (10, false), (11, false), (12, false), (13, false), (14, false), (15, false), (16, false), (17, false), (18, false), (19, false), (20, false), (21, true), (22, false), (23, false)]) (wVar 0)) (wNil)))))))) (wRetL (wCat (wVar 1) (wVal (wLst (wCons (wIsE (csOf [(9, false), (10, false), (11, false), (12, false), (13, false), (14, false), (15, false), (16, false), (17, false), (18, false), (19, false), (20, false), (21, false), (22, true), (23, false)]) (wVar 0)) (wCons (wIsE (csOf [(9, false), (10, false), (11, false), (12, false), (13, false), (14, false), (15, false), (16, false), (17, false), (18, false), (19, false), (20, false), (21, false), (22, false), (23, true)]) (wVar 0)) (wNil)))))))))))))
def N_law : List Str := ["_law_script", "_law_rows", "_law_k", "_law_pool_here", "_law_one", "_law_errors_here", "_law_named_here", "_law_place", "_law_error", "_law_way", "_law_due", "_law_kept", "_law_number"]
def rb_law_1 : FS := wSeq (wJoin 3 (wCallL 2 C_law_pool (wCons (wVar 0) (wCons (wVar 2) (wNil))))) (wFor (wItU (wVal (wLst (wCons (wOp rIxD (wVal (wLst (wCons (wC .non) (wCons (wC (.bl true)) (wCons (wNeg (wC (.int 1))) (wCons (wC (.int 0)) (wCons (wC (.str "aB")) (wCons (wC (.str "")) (wCons (wTup (wCons (wC (.int 1)) (wCons (wC (.int 2)) (wNil)))) (wCons (wVal (wLst (wCons (wC (.int 3)) (wNil)))) (wCons (wDic0) (wCons (wOp rdPow (wC (.int 10)) (wC (.int 20))) (wNil))))))))))))) (wCall 2 C_law_take (wCons (wVar 3) (wCons (wC (.int 10)) (wNil))))) (wCons (wC .non) (wNil)))))) (gNm 4) (wSeq (wPar 5 6 (wCons (wVal (wCallL 1 C_law_errors (wCons (wVar 4) (wNil)))) (wCons (wVal (wCallL 1 C_law_named (wCons (wVar 4) (wNil)))) (wNil)))) (wFor (wR1 (wCons (wC (.int 15)) (wNil))) (gNm 7) (wSeq (wAsg (wOp rIxD (wVar 5) (wVar 7)) (gTl 2 (gCs (gNm 8) (gCs (gNm 9) (gNl))))) (wSeq (wIfS (wTst (wOp (rEqU true) (wCB rReprD (wCons (wCall 2 C_law_field (wCons (wVar 8) (wCons (wVar 9) (wNil)))) (wNil))) (wCB rReprD (wCons (wVar 4) (wNil))))) (wRet (wC (.bl false))) (wNext)) (wSeq (wIfS (wTst (wOp (rEqU true) (wCB rReprD (wCons (wCall 2 C_law_field (wCons (wOp rIxD (wVar 6) (wVar 7)) (wCons (wVar 9) (wNil)))) (wNil))) (wCB rReprD (wCons (wVar 4) (wNil))))) (wRet (wC (.bl false))) (wNext)) (wSeq (wSet 10 (wVal (wLc (wR1 (wCons (wC (.int 8)) (wNil))) (gNm 12) (wYes) (wOp (rInU false) (wVar 12) (wOp rIxD (wVar 1) (wVar 7))) [12]))) (wSeq (wIfS (wOr (wTst (wOp (rEqU true) (wVal (wCallL 1 C_law_bases (wCons (wVar 8) (wNil)))) (wVar 10))) (wTst (wOp (rEqU true) (wVal (wCallL 1 C_law_bases (wCons (wOp rIxD (wVar 6) (wVar 7)) (wNil)))) (wVar 10)))) (wRet (wC (.bl false))) (wNext)) (wIfS (wTst (wOp (rEqU true) (wVal (wCallL 1 C_law_classes (wCons (wVar 8) (wNil)))) (wVal (wLc (wR1 (wCons (wC (.int 15)) (wNil))) (gNm 12) (wYes) (wOp (rEqU false) (wVar 12) (wVar 7)) [12])))) (wRet (wC (.bl false))) (wNext))))))))))
def rt_law_5 : FS := wRet (wOp (rEqR false) (wEF [9, 16, 17, 19, 20] (wVar 8)) (wVal (wLst (wCons (wC (.int 3)) (wCons (wC (.int 4)) (wNil))))))
def rt_law_4 : FS := wSeq (wAppR (wVar 11) (wC (.int 4))) rt_law_5
def rt_law_3 : FS := wSeq (wSet 8 (wMkE 9 (wCons (wVar 11) (wNil)))) rt_law_4
def rt_law_2 : FS := wSeq (wJoin 11 (wLst (wCons (wC (.int 3)) (wNil)))) rt_law_3
def rt_law_1 : FS := wSeq (wFor (wR1 (wCons (wCB rMaxD (wCons (wC (.int 1)) (wCons (wCB rMinD (wCons (wC (.int 10)) (wCons (wCB rLenD (wCons (wVar 0) (wNil))) (wNil)))) (wNil)))) (wNil))) (gNm 2) rb_law_1) rt_law_2
def rt_law_0 : FS := wSeq (wSet 1 (wVal (wCat (wVal (wRep (wVal (wLst (wCons (wVal (wLst (wCons (wC (.int 0)) (wCons (wC (.int 1)) (wNil))))) (wNil)))) (wC (.int 10)))) (wVal (wLst (wCons (wVal (wLst (wCons (wC (.int 2)) (wCons (wC (.int 6)) (wNil))))) (wCons (wVal (wLst (wCons (wC (.int 2)) (wCons (wC (.int 6)) (wNil))))) (wCons (wVal (wLst (wCons (wC (.int 3)) (wCons (wC (.int 6)) (wNil))))) (wCons (wVal (wLst (wCons (wC (.int 4)) (wNil)))) (wCons (wVal (wLst (wCons (wC (.int 5)) (wNil)))) (wNil))))))))))) rt_law_1
def rd_law : FS := rt_law_0
def rx_law : FS := wSeq (wSet 1 (wVal (wCat (wVal (wRep (wVal (wLst (wCons (wVal (wLst (wCons (wC (.int 0)) (wCons (wC (.int 1)) (wNil))))) (wNil)))) (wC (.int 10)))) (wVal (wLst (wCons (wVal (wLst (wCons (wC (.int 2)) (wCons (wC (.int 6)) (wNil))))) (wCons (wVal (wLst (wCons (wC (.int 2)) (wCons (wC (.int 6)) (wNil))))) (wCons (wVal (wLst (wCons (wC (.int 3)) (wCons (wC (.int 6)) (wNil))))) (wCons (wVal (wLst (wCons (wC (.int 4)) (wNil)))) (wCons (wVal (wLst (wCons (wC (.int 5)) (wNil)))) (wNil))))))))))) (wSeq (wFor (wR1 (wCons (wCB rMaxD (wCons (wC (.int 1)) (wCons (wCB rMinD (wCons (wC (.int 10)) (wCons (wCB rLenD (wCons (wVar 0) (wNil))) (wNil)))) (wNil)))) (wNil))) (gNm 2) (wSeq (wJoin 3 (wCallL 2 C_law_pool (wCons (wVar 0) (wCons (wVar 2) (wNil))))) (wFor (wItU (wVal (wLst (wCons (wOp rIxD (wVal (wLst (wCons (wC .non) (wCons (wC (.bl true)) (wCons (wNeg (wC (.int 1))) (wCons (wC (.int 0)) (wCons (wC (.str "aB")) (wCons (wC (.str "")) (wCons (wTup (wCons (wC (.int 1)) (wCons (wC (.int 2)) (wNil)))) (wCons (wVal (wLst (wCons (wC (.int 3)) (wNil)))) (wCons (wDic0) (wCons (wOp rdPow (wC (.int 10)) (wC (.int 20))) (wNil))))))))))))) (wCall 2 C_law_take (wCons (wVar 3) (wCons (wC (.int 10)) (wNil))))) (wCons (wC .non) (wNil)))))) (gNm 4) (wSeq (wPar 5 6 (wCons (wVal (wCallL 1 C_law_errors (wCons (wVar 4) (wNil)))) (wCons (wVal (wCallL 1 C_law_named (wCons (wVar 4) (wNil)))) (wNil)))) (wFor (wR1 (wCons (wC (.int 15)) (wNil))) (gNm 7) (wSeq (wAsg (wOp rIxD (wVar 5) (wVar 7)) (gTl 2 (gCs (gNm 8) (gCs (gNm 9) (gNl))))) (wSeq (wIfS (wTst (wOp (rEqU true) (wCB rReprD (wCons (wCall 2 C_law_field (wCons (wVar 8) (wCons (wVar 9) (wNil)))) (wNil))) (wCB rReprD (wCons (wVar 4) (wNil))))) (wRet (wC (.bl false))) (wNext)) (wSeq (wIfS (wTst (wOp (rEqU true) (wCB rReprD (wCons (wCall 2 C_law_field (wCons (wOp rIxD (wVar 6) (wVar 7)) (wCons (wVar 9) (wNil)))) (wNil))) (wCB rReprD (wCons (wVar 4) (wNil))))) (wRet (wC (.bl false))) (wNext)) (wSeq (wSet 10 (wVal (wLc (wR1 (wCons (wC (.int 8)) (wNil))) (gNm 12) (wYes) (wOp (rInU false) (wVar 12) (wOp rIxD (wVar 1) (wVar 7))) [12]))) (wSeq (wIfS (wOr (wTst (wOp (rEqU true) (wVal (wCallL 1 C_law_bases (wCons (wVar 8) (wNil)))) (wVar 10))) (wTst (wOp (rEqU true) (wVal (wCallL 1 C_law_bases (wCons (wOp rIxD (wVar 6) (wVar 7)) (wNil)))) (wVar 10)))) (wRet (wC (.bl false))) (wNext)) (wIfS (wTst (wOp (rEqU true) (wVal (wCallL 1 C_law_classes (wCons (wVar 8) (wNil)))) (wVal (wLc (wR1 (wCons (wC (.int 15)) (wNil))) (gNm 12) (wYes) (wOp (rEqU false) (wVar 12) (wVar 7)) [12])))) (wRet (wC (.bl false))) (wNext)))))))))))) (wSeq (wJoin 11 (wLst (wCons (wC (.int 3)) (wNil)))) (wSeq (wSet 8 (wMkE 9 (wCons (wVar 11) (wNil)))) (wSeq (wAppR (wVar 11) (wC (.int 4))) (wRet (wOp (rEqR false) (wEF [9, 16, 17, 19, 20] (wVar 8)) (wVal (wLst (wCons (wC (.int 3)) (wCons (wC (.int 4)) (wNil)))))))))))
theorem sc_law_pool : FnScope N_law_pool ["_law_script", "_law_k"] (defScope s_law_pool) := ⟨rfl, rfl, rfl, by decide +kernel, rfl, by decide +kernel, by decide +kernel⟩
theorem sc_law_take : FnScope N_law_take ["_law_pool_here", "_law_many"] (defScope s_law_take) := ⟨rfl, rfl, rfl, by decide +kernel, rfl, by decide +kernel, by decide +kernel⟩
theorem sc_law_errors : FnScope N_law_errors ["_law_one"] (defScope s_law_errors) := ⟨rfl, rfl, rfl, by decide +kernel, rfl, by decide +kernel, by decide +kernel⟩
theorem sc_law_named : FnScope N_law_named ["_law_one"] (defScope s_law_named) := ⟨rfl, rfl, rfl, by decide +kernel, rfl, by decide +kernel, by decide +kernel⟩
theorem sc_law_field : FnScope N_law_field ["_law_error", "_law_way"] (defScope s_law_field) := ⟨rfl, rfl, rfl, by decide +kernel, rfl, by decide +kernel, by decide +kernel⟩
theorem sc_law_bases : FnScope N_law_bases ["_law_error"] (defScope s_law_bases) := ⟨rfl, rfl, rfl, by decide +kernel, rfl, by decide +kernel, by decide +kernel⟩
theorem sc_law_classes : FnScope N_law_classes ["_law_error"] (defScope s_law_classes) := ⟨rfl, rfl, rfl, by decide +kernel, rfl, by decide +kernel, by decide +kernel⟩
theorem sc_law : FnScope N_law ["_law_script"] (defScope s_law) := ⟨rfl, rfl, rfl, by decide +kernel, rfl, by decide +kernel, by decide +kernel⟩
theorem sc_InvalidNumber__init : FnScope ["self", "value"] ["self", "value"] (defScope s_InvalidNumber__init) := ⟨rfl, rfl, rfl, by decide +kernel, rfl, by decide +kernel, by decide +kernel⟩
theorem errV_InvalidNumber {P : Program} {w : World} {K : Fr} {mg : Str → Option Value} {base h : Heap} (c : Told fa fn K) (hX : K.In h) (G : h.Ns mainGlobals mg) : ErrV (kn := kn) P w K mg base "InvalidNumber" (He.ga K "InvalidNumber") "value" := by
  obtain ⟨fd, F⟩ := c.fun_ 8 (d := d_InvalidNumber__init) rfl
  have G1 := err_fnV (kn := kn) (P := P) (w := w) (mg := mg) (base := base) (C := He.ga K "InvalidNumber") (f := "value") F sc_InvalidNumber__init (fun cdv A outer s H E => pss_cons (ps_expr (pe_biOwn (fErr_ok (c.fact 67)) bas_VE (fBO_ok (He.glo_ok hX G (c.fact 13)) (c.fact 68)) rfl (pa_cons (xv 0) (pa_cons pe_str pa_nil)))) (pss_one (ps_est (fErr_ok (c.fact 67)) bas_VE (xv 0) (xv 1))))
  have kb := FunD.kb0N (ps := ["self", "value"]) F rfl 1 ["value"] [0, 1] fun _ _ _ _ _ _ us ws h1 h2 => match us, ws, h1, h2 with | [_], [_], _, _ => rfl
  refine ⟨He.glo_ok hX G (c.fact 30), _, _, _, fErr_ok (c.fact 67), nb_VE, ?_, ?_⟩
  · exact (G1.raw (F.bindsN fun _ _ _ _ _ _ us hl => match us, hl with | [_, _], _ => rfl) .nil).imp fun vs H Q E h => by
      rw [List.append_nil]
      exact h
  · exact G1.kw kb fun vs zs H Q E l1 l2 h => match vs, zs, l1, l2, h with | [_], [_], _, _, h => h
theorem sc_InvalidProfile__init : FnScope ["self", "index"] ["self", "index"] (defScope s_InvalidProfile__init) := ⟨rfl, rfl, rfl, by decide +kernel, rfl, by decide +kernel, by decide +kernel⟩
theorem errV_InvalidProfile {P : Program} {w : World} {K : Fr} {mg : Str → Option Value} {base h : Heap} (c : Told fa fn K) (hX : K.In h) (G : h.Ns mainGlobals mg) : ErrV (kn := kn) P w K mg base "InvalidProfile" (He.ga K "InvalidProfile") "index" := by
  obtain ⟨fd, F⟩ := c.fun_ 9 (d := d_InvalidProfile__init) rfl
  have G1 := err_fnV (kn := kn) (P := P) (w := w) (mg := mg) (base := base) (C := He.ga K "InvalidProfile") (f := "index") F sc_InvalidProfile__init (fun cdv A outer s H E => pss_cons (ps_expr (pe_biOwn (fErr_ok (c.fact 69)) bas_VE (fBO_ok (He.glo_ok hX G (c.fact 13)) (c.fact 68)) rfl (pa_cons (xv 0) (pa_cons pe_str pa_nil)))) (pss_one (ps_est (fErr_ok (c.fact 69)) bas_VE (xv 0) (xv 1))))
  have kb := FunD.kb0N (ps := ["self", "index"]) F rfl 1 ["index"] [0, 1] fun _ _ _ _ _ _ us ws h1 h2 => match us, ws, h1, h2 with | [_], [_], _, _ => rfl
  refine ⟨He.glo_ok hX G (c.fact 32), _, _, _, fErr_ok (c.fact 69), nb_VE, ?_, ?_⟩
  · exact (G1.raw (F.bindsN fun _ _ _ _ _ _ us hl => match us, hl with | [_, _], _ => rfl) .nil).imp fun vs H Q E h => by
      rw [List.append_nil]
      exact h
  · exact G1.kw kb fun vs zs H Q E l1 l2 h => match vs, zs, l1, l2, h with | [_], [_], _, _, h => h
theorem sc_InvalidWidths__init : FnScope ["self", "index"] ["self", "index"] (defScope s_InvalidWidths__init) := ⟨rfl, rfl, rfl, by decide +kernel, rfl, by decide +kernel, by decide +kernel⟩
theorem errV_InvalidWidths {P : Program} {w : World} {K : Fr} {mg : Str → Option Value} {base h : Heap} (c : Told fa fn K) (hX : K.In h) (G : h.Ns mainGlobals mg) : ErrV (kn := kn) P w K mg base "InvalidWidths" (He.ga K "InvalidWidths") "index" := by
  obtain ⟨fd, F⟩ := c.fun_ 10 (d := d_InvalidWidths__init) rfl
  have G1 := err_fnV (kn := kn) (P := P) (w := w) (mg := mg) (base := base) (C := He.ga K "InvalidWidths") (f := "index") F sc_InvalidWidths__init (fun cdv A outer s H E => pss_cons (ps_expr (pe_biOwn (fErr_ok (c.fact 70)) bas_VE (fBO_ok (He.glo_ok hX G (c.fact 13)) (c.fact 68)) rfl (pa_cons (xv 0) (pa_cons pe_str pa_nil)))) (pss_one (ps_est (fErr_ok (c.fact 70)) bas_VE (xv 0) (xv 1))))
  have kb := FunD.kb0N (ps := ["self", "index"]) F rfl 1 ["index"] [0, 1] fun _ _ _ _ _ _ us ws h1 h2 => match us, ws, h1, h2 with | [_], [_], _, _ => rfl
  refine ⟨He.glo_ok hX G (c.fact 34), _, _, _, fErr_ok (c.fact 70), nb_VE, ?_, ?_⟩
  · exact (G1.raw (F.bindsN fun _ _ _ _ _ _ us hl => match us, hl with | [_, _], _ => rfl) .nil).imp fun vs H Q E h => by
      rw [List.append_nil]
      exact h
  · exact G1.kw kb fun vs zs H Q E l1 l2 h => match vs, zs, l1, l2, h with | [_], [_], _, _, h => h
theorem sc_InvalidWeights__init : FnScope ["self", "index"] ["self", "index"] (defScope s_InvalidWeights__init) := ⟨rfl, rfl, rfl, by decide +kernel, rfl, by decide +kernel, by decide +kernel⟩
theorem errV_InvalidWeights {P : Program} {w : World} {K : Fr} {mg : Str → Option Value} {base h : Heap} (c : Told fa fn K) (hX : K.In h) (G : h.Ns mainGlobals mg) : ErrV (kn := kn) P w K mg base "InvalidWeights" (He.ga K "InvalidWeights") "index" := by
  obtain ⟨fd, F⟩ := c.fun_ 11 (d := d_InvalidWeights__init) rfl
  have G1 := err_fnV (kn := kn) (P := P) (w := w) (mg := mg) (base := base) (C := He.ga K "InvalidWeights") (f := "index") F sc_InvalidWeights__init (fun cdv A outer s H E => pss_cons (ps_expr (pe_biOwn (fErr_ok (c.fact 71)) bas_VE (fBO_ok (He.glo_ok hX G (c.fact 13)) (c.fact 68)) rfl (pa_cons (xv 0) (pa_cons pe_str pa_nil)))) (pss_one (ps_est (fErr_ok (c.fact 71)) bas_VE (xv 0) (xv 1))))
  have kb := FunD.kb0N (ps := ["self", "index"]) F rfl 1 ["index"] [0, 1] fun _ _ _ _ _ _ us ws h1 h2 => match us, ws, h1, h2 with | [_], [_], _, _ => rfl
  refine ⟨He.glo_ok hX G (c.fact 36), _, _, _, fErr_ok (c.fact 71), nb_VE, ?_, ?_⟩
  · exact (G1.raw (F.bindsN fun _ _ _ _ _ _ us hl => match us, hl with | [_, _], _ => rfl) .nil).imp fun vs H Q E h => by
      rw [List.append_nil]
      exact h
  · exact G1.kw kb fun vs zs H Q E l1 l2 h => match vs, zs, l1, l2, h with | [_], [_], _, _, h => h
theorem sc_InvalidObservations__init : FnScope ["self", "index"] ["self", "index"] (defScope s_InvalidObservations__init) := ⟨rfl, rfl, rfl, by decide +kernel, rfl, by decide +kernel, by decide +kernel⟩
theorem errV_InvalidObservations {P : Program} {w : World} {K : Fr} {mg : Str → Option Value} {base h : Heap} (c : Told fa fn K) (hX : K.In h) (G : h.Ns mainGlobals mg) : ErrV (kn := kn) P w K mg base "InvalidObservations" (He.ga K "InvalidObservations") "index" := by
  obtain ⟨fd, F⟩ := c.fun_ 12 (d := d_InvalidObservations__init) rfl
  have G1 := err_fnV (kn := kn) (P := P) (w := w) (mg := mg) (base := base) (C := He.ga K "InvalidObservations") (f := "index") F sc_InvalidObservations__init (fun cdv A outer s H E => pss_cons (ps_expr (pe_biOwn (fErr_ok (c.fact 72)) bas_VE (fBO_ok (He.glo_ok hX G (c.fact 13)) (c.fact 68)) rfl (pa_cons (xv 0) (pa_cons pe_str pa_nil)))) (pss_one (ps_est (fErr_ok (c.fact 72)) bas_VE (xv 0) (xv 1))))
  have kb := FunD.kb0N (ps := ["self", "index"]) F rfl 1 ["index"] [0, 1] fun _ _ _ _ _ _ us ws h1 h2 => match us, ws, h1, h2 with | [_], [_], _, _ => rfl
  refine ⟨He.glo_ok hX G (c.fact 38), _, _, _, fErr_ok (c.fact 72), nb_VE, ?_, ?_⟩
  · exact (G1.raw (F.bindsN fun _ _ _ _ _ _ us hl => match us, hl with | [_, _], _ => rfl) .nil).imp fun vs H Q E h => by
      rw [List.append_nil]
      exact h
  · exact G1.kw kb fun vs zs H Q E l1 l2 h => match vs, zs, l1, l2, h with | [_], [_], _, _, h => h
theorem sc_InvalidOperations__init : FnScope ["self", "index"] ["self", "index"] (defScope s_InvalidOperations__init) := ⟨rfl, rfl, rfl, by decide +kernel, rfl, by decide +kernel, by decide +kernel⟩
theorem errV_InvalidOperations {P : Program} {w : World} {K : Fr} {mg : Str → Option Value} {base h : Heap} (c : Told fa fn K) (hX : K.In h) (G : h.Ns mainGlobals mg) : ErrV (kn := kn) P w K mg base "InvalidOperations" (He.ga K "InvalidOperations") "index" := by
  obtain ⟨fd, F⟩ := c.fun_ 13 (d := d_InvalidOperations__init) rfl
  have G1 := err_fnV (kn := kn) (P := P) (w := w) (mg := mg) (base := base) (C := He.ga K "InvalidOperations") (f := "index") F sc_InvalidOperations__init (fun cdv A outer s H E => pss_cons (ps_expr (pe_biOwn (fErr_ok (c.fact 73)) bas_VE (fBO_ok (He.glo_ok hX G (c.fact 13)) (c.fact 68)) rfl (pa_cons (xv 0) (pa_cons pe_str pa_nil)))) (pss_one (ps_est (fErr_ok (c.fact 73)) bas_VE (xv 0) (xv 1))))
  have kb := FunD.kb0N (ps := ["self", "index"]) F rfl 1 ["index"] [0, 1] fun _ _ _ _ _ _ us ws h1 h2 => match us, ws, h1, h2 with | [_], [_], _, _ => rfl
  refine ⟨He.glo_ok hX G (c.fact 40), _, _, _, fErr_ok (c.fact 73), nb_VE, ?_, ?_⟩
  · exact (G1.raw (F.bindsN fun _ _ _ _ _ _ us hl => match us, hl with | [_, _], _ => rfl) .nil).imp fun vs H Q E h => by
      rw [List.append_nil]
      exact h
  · exact G1.kw kb fun vs zs H Q E l1 l2 h => match vs, zs, l1, l2, h with | [_], [_], _, _, h => h
theorem sc_ParseError__init : FnScope ["self", "value"] ["self", "value"] (defScope s_ParseError__init) := ⟨rfl, rfl, rfl, by decide +kernel, rfl, by decide +kernel, by decide +kernel⟩
theorem errV_ParseError {P : Program} {w : World} {K : Fr} {mg : Str → Option Value} {base h : Heap} (c : Told fa fn K) (hX : K.In h) (G : h.Ns mainGlobals mg) : ErrV (kn := kn) P w K mg base "ParseError" (He.ga K "ParseError") "value" := by
  obtain ⟨fd, F⟩ := c.fun_ 14 (d := d_ParseError__init) rfl
  have G1 := err_fnV (kn := kn) (P := P) (w := w) (mg := mg) (base := base) (C := He.ga K "ParseError") (f := "value") F sc_ParseError__init (fun cdv A outer s H E => pss_cons (ps_expr (pe_biOwn (fErr_ok (c.fact 74)) bas_VE (fBO_ok (He.glo_ok hX G (c.fact 13)) (c.fact 68)) rfl (pa_cons (xv 0) (pa_cons pe_str pa_nil)))) (pss_one (ps_est (fErr_ok (c.fact 74)) bas_VE (xv 0) (xv 1))))
  have kb := FunD.kb0N (ps := ["self", "value"]) F rfl 1 ["value"] [0, 1] fun _ _ _ _ _ _ us ws h1 h2 => match us, ws, h1, h2 with | [_], [_], _, _ => rfl
  refine ⟨He.glo_ok hX G (c.fact 42), _, _, _, fErr_ok (c.fact 74), nb_VE, ?_, ?_⟩
  · exact (G1.raw (F.bindsN fun _ _ _ _ _ _ us hl => match us, hl with | [_, _], _ => rfl) .nil).imp fun vs H Q E h => by
      rw [List.append_nil]
      exact h
  · exact G1.kw kb fun vs zs H Q E l1 l2 h => match vs, zs, l1, l2, h with | [_], [_], _, _, h => h
theorem sc_InvalidCommand__init : FnScope ["self", "value"] ["self", "value"] (defScope s_InvalidCommand__init) := ⟨rfl, rfl, rfl, by decide +kernel, rfl, by decide +kernel, by decide +kernel⟩
theorem errV_InvalidCommand {P : Program} {w : World} {K : Fr} {mg : Str → Option Value} {base h : Heap} (c : Told fa fn K) (hX : K.In h) (G : h.Ns mainGlobals mg) : ErrV (kn := kn) P w K mg base "InvalidCommand" (He.ga K "InvalidCommand") "value" := by
  obtain ⟨fd, F⟩ := c.fun_ 15 (d := d_InvalidCommand__init) rfl
  have G1 := err_fnV (kn := kn) (P := P) (w := w) (mg := mg) (base := base) (C := He.ga K "InvalidCommand") (f := "value") F sc_InvalidCommand__init (fun cdv A outer s H E => pss_cons (ps_expr (pe_biOwn (fErr_ok (c.fact 75)) bas_VE (fBO_ok (He.glo_ok hX G (c.fact 13)) (c.fact 68)) rfl (pa_cons (xv 0) (pa_cons pe_str pa_nil)))) (pss_one (ps_est (fErr_ok (c.fact 75)) bas_VE (xv 0) (xv 1))))
  have kb := FunD.kb0N (ps := ["self", "value"]) F rfl 1 ["value"] [0, 1] fun _ _ _ _ _ _ us ws h1 h2 => match us, ws, h1, h2 with | [_], [_], _, _ => rfl
  refine ⟨He.glo_ok hX G (c.fact 44), _, _, _, fErr_ok (c.fact 75), nb_VE, ?_, ?_⟩
  · exact (G1.raw (F.bindsN fun _ _ _ _ _ _ us hl => match us, hl with | [_, _], _ => rfl) .nil).imp fun vs H Q E h => by
      rw [List.append_nil]
      exact h
  · exact G1.kw kb fun vs zs H Q E l1 l2 h => match vs, zs, l1, l2, h with | [_], [_], _, _, h => h
theorem sc_InvalidCascade__init : FnScope ["self", "name"] ["self", "name"] (defScope s_InvalidCascade__init) := ⟨rfl, rfl, rfl, by decide +kernel, rfl, by decide +kernel, by decide +kernel⟩
theorem errV_InvalidCascade {P : Program} {w : World} {K : Fr} {mg : Str → Option Value} {base h : Heap} (c : Told fa fn K) (hX : K.In h) (G : h.Ns mainGlobals mg) : ErrV (kn := kn) P w K mg base "InvalidCascade" (He.ga K "InvalidCascade") "name" := by
  obtain ⟨fd, F⟩ := c.fun_ 16 (d := d_InvalidCascade__init) rfl
  have G1 := err_fnV (kn := kn) (P := P) (w := w) (mg := mg) (base := base) (C := He.ga K "InvalidCascade") (f := "name") F sc_InvalidCascade__init (fun cdv A outer s H E => pss_cons (ps_expr (pe_biOwn (fErr_ok (c.fact 76)) bas_VE (fBO_ok (He.glo_ok hX G (c.fact 13)) (c.fact 68)) rfl (pa_cons (xv 0) (pa_cons pe_str pa_nil)))) (pss_one (ps_est (fErr_ok (c.fact 76)) bas_VE (xv 0) (xv 1))))
  have kb := FunD.kb0N (ps := ["self", "name"]) F rfl 1 ["name"] [0, 1] fun _ _ _ _ _ _ us ws h1 h2 => match us, ws, h1, h2 with | [_], [_], _, _ => rfl
  refine ⟨He.glo_ok hX G (c.fact 46), _, _, _, fErr_ok (c.fact 76), nb_VE, ?_, ?_⟩
  · exact (G1.raw (F.bindsN fun _ _ _ _ _ _ us hl => match us, hl with | [_, _], _ => rfl) .nil).imp fun vs H Q E h => by
      rw [List.append_nil]
      exact h
  · exact G1.kw kb fun vs zs H Q E l1 l2 h => match vs, zs, l1, l2, h with | [_], [_], _, _, h => h
theorem sc_ScriptError__init : FnScope ["self", "line"] ["self", "line"] (defScope s_ScriptError__init) := ⟨rfl, rfl, rfl, by decide +kernel, rfl, by decide +kernel, by decide +kernel⟩
theorem errV_ScriptError {P : Program} {w : World} {K : Fr} {mg : Str → Option Value} {base h : Heap} (c : Told fa fn K) (hX : K.In h) (G : h.Ns mainGlobals mg) : ErrV (kn := kn) P w K mg base "ScriptError" (He.ga K "ScriptError") "line" := by
  obtain ⟨fd, F⟩ := c.fun_ 17 (d := d_ScriptError__init) rfl
  have G1 := err_fnV (kn := kn) (P := P) (w := w) (mg := mg) (base := base) (C := He.ga K "ScriptError") (f := "line") F sc_ScriptError__init (fun cdv A outer s H E => pss_cons (ps_expr (pe_biOwn (fErr_ok (c.fact 77)) bas_VE (fBO_ok (He.glo_ok hX G (c.fact 13)) (c.fact 68)) rfl (pa_cons (xv 0) (pa_cons pe_str pa_nil)))) (pss_one (ps_est (fErr_ok (c.fact 77)) bas_VE (xv 0) (xv 1))))
  have kb := FunD.kb0N (ps := ["self", "line"]) F rfl 1 ["line"] [0, 1] fun _ _ _ _ _ _ us ws h1 h2 => match us, ws, h1, h2 with | [_], [_], _, _ => rfl
  refine ⟨He.glo_ok hX G (c.fact 48), _, _, _, fErr_ok (c.fact 77), nb_VE, ?_, ?_⟩
  · exact (G1.raw (F.bindsN fun _ _ _ _ _ _ us hl => match us, hl with | [_, _], _ => rfl) .nil).imp fun vs H Q E h => by
      rw [List.append_nil]
      exact h
  · exact G1.kw kb fun vs zs H Q E l1 l2 h => match vs, zs, l1, l2, h with | [_], [_], _, _, h => h
theorem sc_InvalidColumn__init : FnScope ["self", "value"] ["self", "value"] (defScope s_InvalidColumn__init) := ⟨rfl, rfl, rfl, by decide +kernel, rfl, by decide +kernel, by decide +kernel⟩
theorem errV_InvalidColumn {P : Program} {w : World} {K : Fr} {mg : Str → Option Value} {base h : Heap} (c : Told fa fn K) (hX : K.In h) (G : h.Ns mainGlobals mg) : ErrV (kn := kn) P w K mg base "InvalidColumn" (He.ga K "InvalidColumn") "value" := by
  obtain ⟨fd, F⟩ := c.fun_ 18 (d := d_InvalidColumn__init) rfl
  have G1 := err_fnV (kn := kn) (P := P) (w := w) (mg := mg) (base := base) (C := He.ga K "InvalidColumn") (f := "value") F sc_InvalidColumn__init (fun cdv A outer s H E => pss_cons (ps_expr (pe_biTy (fErr_ok (c.fact 78)) bas_IE (fBT_ok (He.free_ok hX G (c.fact 18)) PyProof.Rows.Boot.«IndexError» typ_IE (by decide +kernel) (c.fact 79)) rfl (pa_cons (xv 0) (pa_cons pe_str pa_nil)))) (pss_one (ps_est (fErr_ok (c.fact 78)) bas_IE (xv 0) (xv 1))))
  have kb := FunD.kb0N (ps := ["self", "value"]) F rfl 1 ["value"] [0, 1] fun _ _ _ _ _ _ us ws h1 h2 => match us, ws, h1, h2 with | [_], [_], _, _ => rfl
  refine ⟨He.glo_ok hX G (c.fact 50), _, _, _, fErr_ok (c.fact 78), nb_IE, ?_, ?_⟩
  · exact (G1.raw (F.bindsN fun _ _ _ _ _ _ us hl => match us, hl with | [_, _], _ => rfl) .nil).imp fun vs H Q E h => by
      rw [List.append_nil]
      exact h
  · exact G1.kw kb fun vs zs H Q E l1 l2 h => match vs, zs, l1, l2, h with | [_], [_], _, _, h => h
theorem sc_InvalidValley__init : FnScope ["self", "value"] ["self", "value"] (defScope s_InvalidValley__init) := ⟨rfl, rfl, rfl, by decide +kernel, rfl, by decide +kernel, by decide +kernel⟩
theorem errV_InvalidValley {P : Program} {w : World} {K : Fr} {mg : Str → Option Value} {base h : Heap} (c : Told fa fn K) (hX : K.In h) (G : h.Ns mainGlobals mg) : ErrV (kn := kn) P w K mg base "InvalidValley" (He.ga K "InvalidValley") "value" := by
  obtain ⟨fd, F⟩ := c.fun_ 19 (d := d_InvalidValley__init) rfl
  have G1 := err_fnV (kn := kn) (P := P) (w := w) (mg := mg) (base := base) (C := He.ga K "InvalidValley") (f := "value") F sc_InvalidValley__init (fun cdv A outer s H E => pss_cons (ps_expr (pe_biTy (fErr_ok (c.fact 80)) bas_IE (fBT_ok (He.free_ok hX G (c.fact 18)) PyProof.Rows.Boot.«IndexError» typ_IE (by decide +kernel) (c.fact 79)) rfl (pa_cons (xv 0) (pa_cons pe_str pa_nil)))) (pss_one (ps_est (fErr_ok (c.fact 80)) bas_IE (xv 0) (xv 1))))
  have kb := FunD.kb0N (ps := ["self", "value"]) F rfl 1 ["value"] [0, 1] fun _ _ _ _ _ _ us ws h1 h2 => match us, ws, h1, h2 with | [_], [_], _, _ => rfl
  refine ⟨He.glo_ok hX G (c.fact 52), _, _, _, fErr_ok (c.fact 80), nb_IE, ?_, ?_⟩
  · exact (G1.raw (F.bindsN fun _ _ _ _ _ _ us hl => match us, hl with | [_, _], _ => rfl) .nil).imp fun vs H Q E h => by
      rw [List.append_nil]
      exact h
  · exact G1.kw kb fun vs zs H Q E l1 l2 h => match vs, zs, l1, l2, h with | [_], [_], _, _, h => h
theorem sc_UnknownName__init : FnScope ["self", "name"] ["self", "name"] (defScope s_UnknownName__init) := ⟨rfl, rfl, rfl, by decide +kernel, rfl, by decide +kernel, by decide +kernel⟩
theorem errV_UnknownName {P : Program} {w : World} {K : Fr} {mg : Str → Option Value} {base h : Heap} (c : Told fa fn K) (hX : K.In h) (G : h.Ns mainGlobals mg) : ErrV (kn := kn) P w K mg base "UnknownName" (He.ga K "UnknownName") "name" := by
  obtain ⟨fd, F⟩ := c.fun_ 20 (d := d_UnknownName__init) rfl
  have G1 := err_fnV (kn := kn) (P := P) (w := w) (mg := mg) (base := base) (C := He.ga K "UnknownName") (f := "name") F sc_UnknownName__init (fun cdv A outer s H E => pss_cons (ps_expr (pe_biKE (fErr_ok (c.fact 81)) (by decide +kernel) (fBT_ok (He.free_ok hX G (c.fact 20)) PyProof.Rows.Boot.«KeyError» typ_KE (by decide +kernel) (c.fact 82)) rfl (pa_cons (xv 0) (pa_cons pe_str pa_nil)))) (pss_one (ps_estK (fErr_ok (c.fact 81)) own_store_KeyError (xv 0) (xv 1))))
  have kb := FunD.kb0N (ps := ["self", "name"]) F rfl 1 ["name"] [0, 1] fun _ _ _ _ _ _ us ws h1 h2 => match us, ws, h1, h2 with | [_], [_], _, _ => rfl
  refine ⟨He.glo_ok hX G (c.fact 54), _, _, _, fErr_ok (c.fact 81), nb_KE, ?_, ?_⟩
  · exact (G1.raw (F.bindsN fun _ _ _ _ _ _ us hl => match us, hl with | [_, _], _ => rfl) .nil).imp fun vs H Q E h => by
      rw [List.append_nil]
      exact h
  · exact G1.kw kb fun vs zs H Q E l1 l2 h => match vs, zs, l1, l2, h with | [_], [_], _, _, h => h
theorem sc_LimitExceeded__init : FnScope ["self", "limit"] ["self", "limit"] (defScope s_LimitExceeded__init) := ⟨rfl, rfl, rfl, by decide +kernel, rfl, by decide +kernel, by decide +kernel⟩
theorem errV_LimitExceeded {P : Program} {w : World} {K : Fr} {mg : Str → Option Value} {base h : Heap} (c : Told fa fn K) (hX : K.In h) (G : h.Ns mainGlobals mg) : ErrV (kn := kn) P w K mg base "LimitExceeded" (He.ga K "LimitExceeded") "limit" := by
  obtain ⟨fd, F⟩ := c.fun_ 21 (d := d_LimitExceeded__init) rfl
  have G1 := err_fnV (kn := kn) (P := P) (w := w) (mg := mg) (base := base) (C := He.ga K "LimitExceeded") (f := "limit") F sc_LimitExceeded__init (fun cdv A outer s H E => pss_cons (ps_expr (pe_biTy (fErr_ok (c.fact 83)) bas_OE (fBT_ok (He.free_ok hX G (c.fact 22)) PyProof.Rows.Boot.«OverflowError» typ_OE (by decide +kernel) (c.fact 84)) rfl (pa_cons (xv 0) (pa_cons pe_str pa_nil)))) (pss_one (ps_est (fErr_ok (c.fact 83)) bas_OE (xv 0) (xv 1))))
  have kb := FunD.kb0N (ps := ["self", "limit"]) F rfl 1 ["limit"] [0, 1] fun _ _ _ _ _ _ us ws h1 h2 => match us, ws, h1, h2 with | [_], [_], _, _ => rfl
  refine ⟨He.glo_ok hX G (c.fact 56), _, _, _, fErr_ok (c.fact 83), nb_OE, ?_, ?_⟩
  · exact (G1.raw (F.bindsN fun _ _ _ _ _ _ us hl => match us, hl with | [_, _], _ => rfl) .nil).imp fun vs H Q E h => by
      rw [List.append_nil]
      exact h
  · exact G1.kw kb fun vs zs H Q E l1 l2 h => match vs, zs, l1, l2, h with | [_], [_], _, _, h => h
theorem sc_NothingToUndo__init : FnScope ["self", "count"] ["self", "count"] (defScope s_NothingToUndo__init) := ⟨rfl, rfl, rfl, by decide +kernel, rfl, by decide +kernel, by decide +kernel⟩
theorem errV_NothingToUndo {P : Program} {w : World} {K : Fr} {mg : Str → Option Value} {base h : Heap} (c : Told fa fn K) (hX : K.In h) (G : h.Ns mainGlobals mg) : ErrV (kn := kn) P w K mg base "NothingToUndo" (He.ga K "NothingToUndo") "count" := by
  obtain ⟨fd, F⟩ := c.fun_ 22 (d := d_NothingToUndo__init) rfl
  have G1 := err_fnV (kn := kn) (P := P) (w := w) (mg := mg) (base := base) (C := He.ga K "NothingToUndo") (f := "count") F sc_NothingToUndo__init (fun cdv A outer s H E => pss_cons (ps_expr (pe_biTy (fErr_ok (c.fact 85)) bas_RE (fBT_ok (He.free_ok hX G (c.fact 24)) PyProof.Rows.Boot.«RuntimeError» typ_RE (by decide +kernel) (c.fact 86)) rfl (pa_cons (xv 0) (pa_cons pe_str pa_nil)))) (pss_one (ps_est (fErr_ok (c.fact 85)) bas_RE (xv 0) (xv 1))))
  have kb := FunD.kb0N (ps := ["self", "count"]) F rfl 1 ["count"] [0, 1] fun _ _ _ _ _ _ us ws h1 h2 => match us, ws, h1, h2 with | [_], [_], _, _ => rfl
  refine ⟨He.glo_ok hX G (c.fact 58), _, _, _, fErr_ok (c.fact 85), nb_RE, ?_, ?_⟩
  · exact (G1.raw (F.bindsN fun _ _ _ _ _ _ us hl => match us, hl with | [_, _], _ => rfl) .nil).imp fun vs H Q E h => by
      rw [List.append_nil]
      exact h
  · exact G1.kw kb fun vs zs H Q E l1 l2 h => match vs, zs, l1, l2, h with | [_], [_], _, _, h => h
theorem der_law_pool {P : Program} {w : World} {K : Fr} {mg : Str → Option Value} {base h : Heap} (c : Told fa fn K) (hX : K.In h) (G : h.Ns mainGlobals mg)  {f : Addr} (cdv : Value) (A : Around) (outer : List PySem.Env) (s : Shared) (H : Hp) (E : XK) (hr : R3.Room 0 (A.deeper (envOfC "_law_pool" (defScope s_law_pool) s.heap.objs.size f cdv))) :
    EB (sg K) (cxOf (CXK kn P w) P w K mg base N_law_pool "_law_pool" (defScope s_law_pool) f cdv A outer s H E) (wD E) (defBody s_law_pool) rd_law_pool :=
  bcons (sset (i := 2) sc_law_pool.nd rfl (Or.inl rfl) (eix (lval (ecat (lval (esll rfl (vr 0) (osome (vr 1)) (osome (bop iadd (vr 1) (cint))))) (lval (elst (acons (cint) (anil)))))) (cint) rfl)) (bcons (sset (i := 3) sc_law_pool.nd rfl (Or.inl rfl) (eif (tcmp ige (vr 2) (cint)) (vr 2) (bop isub (eneg (cint)) (vr 2)))) (bcons (sset (i := 4) sc_law_pool.nd rfl (Or.inl rfl) (bop imod (bop (umul rfl) (bop iadd (bop iadd (bop iadd (bop imod (vr 3) (cint)) (bop (umul rfl) (bop (umul rfl) (cint) (vr 1)) (vr 1))) (bop (umul rfl) (cint) (vr 1))) (cint)) (cint)) (cint))) (bone (sretL (elst (acons (bop (umul rfl) (vr 3) (ect cint1 rfl (He.free_ok hX G (c.fact 6)) boot_int (acons (cmp ige (vr 3) (bop ipow (cint) (cint))) (anil)))) (acons (bop imod (bop (umul rfl) (vr 4) (vr 4)) (cint)) (anil))))))))
theorem der_law_take {P : Program} {w : World} {K : Fr} {mg : Str → Option Value} {base h : Heap} (c : Told fa fn K) (hX : K.In h) (G : h.Ns mainGlobals mg)  {f : Addr} (cdv : Value) (A : Around) (outer : List PySem.Env) (s : Shared) (H : Hp) (E : XK) (hr : R3.Room 0 (A.deeper (envOfC "_law_take" (defScope s_law_take) s.heap.objs.size f cdv))) :
    EB (sg K) (cxOf (CXK kn P w) P w K mg base N_law_take "_law_take" (defScope s_law_take) f cdv A outer s H E) (wD E) (defBody s_law_take) rd_law_take :=
  bcons (sif (tcmp igt (eix (vr 0) (cint) rfl) (cint)) (bcons (sset (i := 2) sc_law_take.nd rfl (Or.inl rfl) (bop imod (eix (vr 0) (cint) rfl) (vr 1))) (bcons (mputr (bop ifdiv (eix (vr 0) (cint) rfl) (vr 1)) (vr 0) (cint)) (bone (sret (vr 2))))) (bnil)) (bcons (mputr (bop imod (bop iadd (bop (umul rfl) (eix (vr 0) (cint) rfl) (cint)) (cint)) (cint)) (vr 0) (cint)) (bone (sret (bop imod (bop ifdiv (bop imod (bop (umul rfl) (eix (vr 0) (cint) rfl) (eix (vr 0) (cint) rfl)) (cint)) (cint)) (vr 1)))))
theorem der_law_errors {P : Program} {w : World} {K : Fr} {mg : Str → Option Value} {base h : Heap} (c : Told fa fn K) (hX : K.In h) (G : h.Ns mainGlobals mg)  {f : Addr} (cdv : Value) (A : Around) (outer : List PySem.Env) (s : Shared) (H : Hp) (E : XK) (hr : R3.Room 2 (A.deeper (envOfC "_law_errors" (defScope s_law_errors) s.heap.objs.size f cdv))) :
    EB (sg K) (cxOf (CXK kn P w) P w K mg base N_law_errors "_law_errors" (defScope s_law_errors) f cdv A outer s H E) (wD E) (defBody s_law_errors) rd_law_errors :=
  bcons (sset (i := 1) sc_law_errors.nd rfl (Or.inl rfl) (lval (elst (acons (lval (elst (acons (emkE (c := 9) (errV_InvalidNumber (kn := kn) c hX G) rfl rfl hr (by decide) rfl (acons (vr 0) (anil))) (acons (cint) (anil))))) (acons (lval (elst (acons (emkE (c := 10) (errV_InvalidProfile (kn := kn) c hX G) rfl rfl hr (by decide) rfl (acons (vr 0) (anil))) (acons (cint) (anil))))) (acons (lval (elst (acons (emkE (c := 11) (errV_InvalidWidths (kn := kn) c hX G) rfl rfl hr (by decide) rfl (acons (vr 0) (anil))) (acons (cint) (anil))))) (anil))))))) (bcons (sset (i := 1) sc_law_errors.nd rfl (Or.inl rfl) (lval (ecat (vr 1) (lval (elst (acons (lval (elst (acons (emkE (c := 12) (errV_InvalidWeights (kn := kn) c hX G) rfl rfl hr (by decide) rfl (acons (vr 0) (anil))) (acons (cint) (anil))))) (anil))))))) (bcons (sset (i := 1) sc_law_errors.nd rfl (Or.inl rfl) (lval (ecat (vr 1) (lval (elst (acons (lval (elst (acons (emkE (c := 13) (errV_InvalidObservations (kn := kn) c hX G) rfl rfl hr (by decide) rfl (acons (vr 0) (anil))) (acons (cint) (anil))))) (acons (lval (elst (acons (emkE (c := 14) (errV_InvalidOperations (kn := kn) c hX G) rfl rfl hr (by decide) rfl (acons (vr 0) (anil))) (acons (cint) (anil))))) (acons (lval (elst (acons (emkE (c := 16) (errV_ParseError (kn := kn) c hX G) rfl rfl hr (by decide) rfl (acons (vr 0) (anil))) (acons (cint) (anil))))) (anil))))))))) (bcons (sset (i := 1) sc_law_errors.nd rfl (Or.inl rfl) (lval (ecat (vr 1) (lval (elst (acons (lval (elst (acons (emkE (c := 17) (errV_InvalidCommand (kn := kn) c hX G) rfl rfl hr (by decide) rfl (acons (vr 0) (anil))) (acons (cint) (anil))))) (acons (lval (elst (acons (emkE (c := 15) (errV_InvalidCascade (kn := kn) c hX G) rfl rfl hr (by decide) rfl (acons (vr 0) (anil))) (acons (cint) (anil))))) (acons (lval (elst (acons (emkE (c := 18) (errV_ScriptError (kn := kn) c hX G) rfl rfl hr (by decide) rfl (acons (vr 0) (anil))) (acons (cint) (anil))))) (anil))))))))) (bcons (sset (i := 1) sc_law_errors.nd rfl (Or.inl rfl) (lval (ecat (vr 1) (lval (elst (acons (lval (elst (acons (emkE (c := 19) (errV_InvalidColumn (kn := kn) c hX G) rfl rfl hr (by decide) rfl (acons (vr 0) (anil))) (acons (cint) (anil))))) (acons (lval (elst (acons (emkE (c := 20) (errV_InvalidValley (kn := kn) c hX G) rfl rfl hr (by decide) rfl (acons (vr 0) (anil))) (acons (cint) (anil))))) (anil)))))))) (bcons (sset (i := 1) sc_law_errors.nd rfl (Or.inl rfl) (lval (ecat (vr 1) (lval (elst (acons (lval (elst (acons (emkE (c := 21) (errV_UnknownName (kn := kn) c hX G) rfl rfl hr (by decide) rfl (acons (vr 0) (anil))) (acons (cint) (anil))))) (anil))))))) (bone (sretL (ecat (vr 1) (lval (elst (acons (lval (elst (acons (emkE (c := 22) (errV_LimitExceeded (kn := kn) c hX G) rfl rfl hr (by decide) rfl (acons (vr 0) (anil))) (acons (cint) (anil))))) (acons (lval (elst (acons (emkE (c := 23) (errV_NothingToUndo (kn := kn) c hX G) rfl rfl hr (by decide) rfl (acons (vr 0) (anil))) (acons (cint) (anil))))) (anil)))))))))))))
theorem der_law_named {P : Program} {w : World} {K : Fr} {mg : Str → Option Value} {base h : Heap} (c : Told fa fn K) (hX : K.In h) (G : h.Ns mainGlobals mg)  {f : Addr} (cdv : Value) (A : Around) (outer : List PySem.Env) (s : Shared) (H : Hp) (E : XK) (hr : R3.Room 2 (A.deeper (envOfC "_law_named" (defScope s_law_named) s.heap.objs.size f cdv))) :
    EB (sg K) (cxOf (CXK kn P w) P w K mg base N_law_named "_law_named" (defScope s_law_named) f cdv A outer s H E) (wD E) (defBody s_law_named) rd_law_named :=
  bcons (sset (i := 1) sc_law_named.nd rfl (Or.inl rfl) (lval (elst (acons (emkEK (c := 9) (errV_InvalidNumber (kn := kn) c hX G) rfl rfl hr (by decide) rfl (kcons (vr 0) (knil))) (acons (emkEK (c := 10) (errV_InvalidProfile (kn := kn) c hX G) rfl rfl hr (by decide) rfl (kcons (vr 0) (knil))) (anil)))))) (bcons (sset (i := 1) sc_law_named.nd rfl (Or.inl rfl) (lval (ecat (vr 1) (lval (elst (acons (emkEK (c := 11) (errV_InvalidWidths (kn := kn) c hX G) rfl rfl hr (by decide) rfl (kcons (vr 0) (knil))) (acons (emkEK (c := 12) (errV_InvalidWeights (kn := kn) c hX G) rfl rfl hr (by decide) rfl (kcons (vr 0) (knil))) (anil)))))))) (bcons (sset (i := 1) sc_law_named.nd rfl (Or.inl rfl) (lval (ecat (vr 1) (lval (elst (acons (emkEK (c := 13) (errV_InvalidObservations (kn := kn) c hX G) rfl rfl hr (by decide) rfl (kcons (vr 0) (knil))) (acons (emkEK (c := 14) (errV_InvalidOperations (kn := kn) c hX G) rfl rfl hr (by decide) rfl (kcons (vr 0) (knil))) (anil)))))))) (bcons (sset (i := 1) sc_law_named.nd rfl (Or.inl rfl) (lval (ecat (vr 1) (lval (elst (acons (emkEK (c := 16) (errV_ParseError (kn := kn) c hX G) rfl rfl hr (by decide) rfl (kcons (vr 0) (knil))) (anil))))))) (bcons (sset (i := 1) sc_law_named.nd rfl (Or.inl rfl) (lval (ecat (vr 1) (lval (elst (acons (emkEK (c := 17) (errV_InvalidCommand (kn := kn) c hX G) rfl rfl hr (by decide) rfl (kcons (vr 0) (knil))) (acons (emkEK (c := 15) (errV_InvalidCascade (kn := kn) c hX G) rfl rfl hr (by decide) rfl (kcons (vr 0) (knil))) (acons (emkEK (c := 18) (errV_ScriptError (kn := kn) c hX G) rfl rfl hr (by decide) rfl (kcons (vr 0) (knil))) (anil))))))))) (bcons (sset (i := 1) sc_law_named.nd rfl (Or.inl rfl) (lval (ecat (vr 1) (lval (elst (acons (emkEK (c := 19) (errV_InvalidColumn (kn := kn) c hX G) rfl rfl hr (by decide) rfl (kcons (vr 0) (knil))) (anil))))))) (bcons (sset (i := 1) sc_law_named.nd rfl (Or.inl rfl) (lval (ecat (vr 1) (lval (elst (acons (emkEK (c := 20) (errV_InvalidValley (kn := kn) c hX G) rfl rfl hr (by decide) rfl (kcons (vr 0) (knil))) (acons (emkEK (c := 21) (errV_UnknownName (kn := kn) c hX G) rfl rfl hr (by decide) rfl (kcons (vr 0) (knil))) (anil)))))))) (bone (sretL (ecat (vr 1) (lval (elst (acons (emkEK (c := 22) (errV_LimitExceeded (kn := kn) c hX G) rfl rfl hr (by decide) rfl (kcons (vr 0) (knil))) (acons (emkEK (c := 23) (errV_NothingToUndo (kn := kn) c hX G) rfl rfl hr (by decide) rfl (kcons (vr 0) (knil))) (anil))))))))))))))
theorem der_law_field {P : Program} {w : World} {K : Fr} {mg : Str → Option Value} {base h : Heap} (c : Told fa fn K) (hX : K.In h) (G : h.Ns mainGlobals mg)  {f : Addr} (cdv : Value) (A : Around) (outer : List PySem.Env) (s : Shared) (H : Hp) (E : XK) (hr : R3.Room 0 (A.deeper (envOfC "_law_field" (defScope s_law_field) s.heap.objs.size f cdv))) :
    EB (sg K) (cxOf (CXK kn P w) P w K mg base N_law_field "_law_field" (defScope s_law_field) f cdv A outer s H E) (wD E) (defBody s_law_field) rd_law_field :=
  bcons (sif (tcmp (ueq rfl (hr.units)) (vr 1) (cint)) (bone (sret (eEF (cs := [9, 16, 17, 19, 20]) (fun q e => fXf_ok (nm := nm) (fl := fl) (c.fact 5) (by decide) e) (vr 0)))) (bnil)) (bcons (sif (tcmp (ueq rfl (hr.units)) (vr 1) (cint)) (bone (sret (eEF (cs := [10, 11, 12, 13, 14]) (fun q e => fXf_ok (nm := nm) (fl := fl) (c.fact 7) (by decide) e) (vr 0)))) (bnil)) (bcons (sif (tcmp (ueq rfl (hr.units)) (vr 1) (cint)) (bone (sret (eEF (cs := [15, 21]) (fun q e => fXf_ok (nm := nm) (fl := fl) (c.fact 8) (by decide) e) (vr 0)))) (bnil)) (bcons (sif (tcmp (ueq rfl (hr.units)) (vr 1) (cint)) (bone (sret (eEF (cs := [18]) (fun q e => fXf_ok (nm := nm) (fl := fl) (c.fact 9) (by decide) e) (vr 0)))) (bnil)) (bone (sret (eif (tcmp (ueq rfl (hr.units)) (vr 1) (cint)) (eEF (cs := [22]) (fun q e => fXf_ok (nm := nm) (fl := fl) (c.fact 10) (by decide) e) (vr 0)) (eEF (cs := [23]) (fun q e => fXf_ok (nm := nm) (fl := fl) (c.fact 11) (by decide) e) (vr 0))))))))
theorem der_law_bases {P : Program} {w : World} {K : Fr} {mg : Str → Option Value} {base h : Heap} (c : Told fa fn K) (hX : K.In h) (G : h.Ns mainGlobals mg)  {f : Addr} (cdv : Value) (A : Around) (outer : List PySem.Env) (s : Shared) (H : Hp) (E : XK) (hr : R3.Room 0 (A.deeper (envOfC "_law_bases" (defScope s_law_bases) s.heap.objs.size f cdv))) :
    EB (sg K) (cxOf (CXK kn P w) P w K mg base N_law_bases "_law_bases" (defScope s_law_bases) f cdv A outer s H E) (wD E) (defBody s_law_bases) rd_law_bases :=
  bcons (sset (i := 1) sc_law_bases.nd rfl (Or.inl rfl) (lval (elst (acons (eIsE (cs := csOf [(9, true), (10, true), (11, true), (12, true), (13, true), (14, true), (15, true), (16, true), (17, true), (18, true), (19, false), (20, false), (21, false), (22, false), (23, false)]) (cc := .ref (He.ga K "RainError")) (cv := .ref (He.ga K "RainError")) (fun q b e => fXis_ok (nm := nm) (t := fun K => .ref (He.ga K "RainError")) (c.fact 12) b e) (fun u r => r) (vr 0) (pe_glob (v := .ref (He.ga K "RainError")) rfl (He.glo_ok hX G (c.fact 13)) rfl (by decide)) rfl (He.free_ok hX G (c.fact 14))) (acons (eIsE (cs := csOf [(9, true), (10, true), (11, true), (12, true), (13, true), (14, true), (15, true), (16, true), (17, true), (18, true), (19, false), (20, false), (21, false), (22, false), (23, false)]) (cc := .ty "ValueError") (cv := .type "ValueError") (fun q b e => fXis_ok (nm := nm) (t := fun K => .type "ValueError") (c.fact 15) b e) (fun u r => r) (vr 0) (pe_bltn (v := .ty "ValueError") rfl (He.free_ok hX G (c.fact 16)) PyProof.Rows.Boot.«ValueError» rfl (by decide) (by decide)) rfl (He.free_ok hX G (c.fact 14))) (acons (eIsE (cs := csOf [(9, false), (10, false), (11, false), (12, false), (13, false), (14, false), (15, false), (16, false), (17, false), (18, false), (19, true), (20, true), (21, false), (22, false), (23, false)]) (cc := .ty "IndexError") (cv := .type "IndexError") (fun q b e => fXis_ok (nm := nm) (t := fun K => .type "IndexError") (c.fact 17) b e) (fun u r => r) (vr 0) (pe_bltn (v := .ty "IndexError") rfl (He.free_ok hX G (c.fact 18)) PyProof.Rows.Boot.«IndexError» rfl (by decide) (by decide)) rfl (He.free_ok hX G (c.fact 14))) (anil))))))) (bcons (sset (i := 1) sc_law_bases.nd rfl (Or.inl rfl) (lval (ecat (vr 1) (lval (elst (acons (eIsE (cs := csOf [(9, false), (10, false), (11, false), (12, false), (13, false), (14, false), (15, false), (16, false), (17, false), (18, false), (19, false), (20, false), (21, true), (22, false), (23, false)]) (cc := .ty "KeyError") (cv := .type "KeyError") (fun q b e => fXis_ok (nm := nm) (t := fun K => .type "KeyError") (c.fact 19) b e) (fun u r => r) (vr 0) (pe_bltn (v := .ty "KeyError") rfl (He.free_ok hX G (c.fact 20)) PyProof.Rows.Boot.«KeyError» rfl (by decide) (by decide)) rfl (He.free_ok hX G (c.fact 14))) (acons (eIsE (cs := csOf [(9, false), (10, false), (11, false), (12, false), (13, false), (14, false), (15, false), (16, false), (17, false), (18, false), (19, false), (20, false), (21, false), (22, true), (23, false)]) (cc := .ty "OverflowError") (cv := .type "OverflowError") (fun q b e => fXis_ok (nm := nm) (t := fun K => .type "OverflowError") (c.fact 21) b e) (fun u r => r) (vr 0) (pe_bltn (v := .ty "OverflowError") rfl (He.free_ok hX G (c.fact 22)) PyProof.Rows.Boot.«OverflowError» rfl (by decide) (by decide)) rfl (He.free_ok hX G (c.fact 14))) (anil)))))))) (bcons (sset (i := 1) sc_law_bases.nd rfl (Or.inl rfl) (lval (ecat (vr 1) (lval (elst (acons (eIsE (cs := csOf [(9, false), (10, false), (11, false), (12, false), (13, false), (14, false), (15, false), (16, false), (17, false), (18, false), (19, false), (20, false), (21, false), (22, false), (23, true)]) (cc := .ty "RuntimeError") (cv := .type "RuntimeError") (fun q b e => fXis_ok (nm := nm) (t := fun K => .type "RuntimeError") (c.fact 23) b e) (fun u r => r) (vr 0) (pe_bltn (v := .ty "RuntimeError") rfl (He.free_ok hX G (c.fact 24)) PyProof.Rows.Boot.«RuntimeError» rfl (by decide) (by decide)) rfl (He.free_ok hX G (c.fact 14))) (anil))))))) (bone (sretL (ecat (vr 1) (lval (elst (acons (eIsE (cs := csOf [(9, false), (10, false), (11, false), (12, false), (13, false), (14, false), (15, false), (16, false), (17, false), (18, false), (19, true), (20, true), (21, true), (22, false), (23, false)]) (cc := .ty "LookupError") (cv := .type "LookupError") (fun q b e => fXis_ok (nm := nm) (t := fun K => .type "LookupError") (c.fact 25) b e) (fun u r => r) (vr 0) (pe_bltn (v := .ty "LookupError") rfl (He.free_ok hX G (c.fact 26)) PyProof.Rows.Boot.«LookupError» rfl (by decide) (by decide)) rfl (He.free_ok hX G (c.fact 14))) (acons (eIsE (cs := csOf [(9, false), (10, false), (11, false), (12, false), (13, false), (14, false), (15, false), (16, false), (17, false), (18, false), (19, false), (20, false), (21, false), (22, false), (23, false)]) (cc := .ty "TypeError") (cv := .type "TypeError") (fun q b e => fXis_ok (nm := nm) (t := fun K => .type "TypeError") (c.fact 27) b e) (fun u r => r) (vr 0) (pe_bltn (v := .ty "TypeError") rfl (He.free_ok hX G (c.fact 28)) PyProof.Rows.Boot.«TypeError» rfl (by decide) (by decide)) rfl (He.free_ok hX G (c.fact 14))) (anil))))))))))
theorem der_law_classes {P : Program} {w : World} {K : Fr} {mg : Str → Option Value} {base h : Heap} (c : Told fa fn K) (hX : K.In h) (G : h.Ns mainGlobals mg)  {f : Addr} (cdv : Value) (A : Around) (outer : List PySem.Env) (s : Shared) (H : Hp) (E : XK) (hr : R3.Room 0 (A.deeper (envOfC "_law_classes" (defScope s_law_classes) s.heap.objs.size f cdv))) :
    EB (sg K) (cxOf (CXK kn P w) P w K mg base N_law_classes "_law_classes" (defScope s_law_classes) f cdv A outer s H E) (wD E) (defBody s_law_classes) rd_law_classes :=
  bcons (sset (i := 1) sc_law_classes.nd rfl (Or.inl rfl) (lval (elst (acons (eIsE (cs := csOf [(9, true), (10, false), (11, false), (12, false), (13, false), (14, false), (15, false), (16, false), (17, false), (18, false), (19, false), (20, false), (21, false), (22, false), (23, false)]) (cc := .ref (He.ga K "InvalidNumber")) (cv := .ref (He.ga K "InvalidNumber")) (fun q b e => fXis_ok (nm := nm) (t := fun K => .ref (He.ga K "InvalidNumber")) (c.fact 29) b e) (fun u r => r) (vr 0) (pe_glob (v := .ref (He.ga K "InvalidNumber")) rfl (He.glo_ok hX G (c.fact 30)) rfl (by decide)) rfl (He.free_ok hX G (c.fact 14))) (acons (eIsE (cs := csOf [(9, false), (10, true), (11, false), (12, false), (13, false), (14, false), (15, false), (16, false), (17, false), (18, false), (19, false), (20, false), (21, false), (22, false), (23, false)]) (cc := .ref (He.ga K "InvalidProfile")) (cv := .ref (He.ga K "InvalidProfile")) (fun q b e => fXis_ok (nm := nm) (t := fun K => .ref (He.ga K "InvalidProfile")) (c.fact 31) b e) (fun u r => r) (vr 0) (pe_glob (v := .ref (He.ga K "InvalidProfile")) rfl (He.glo_ok hX G (c.fact 32)) rfl (by decide)) rfl (He.free_ok hX G (c.fact 14))) (anil)))))) (bcons (sset (i := 1) sc_law_classes.nd rfl (Or.inl rfl) (lval (ecat (vr 1) (lval (elst (acons (eIsE (cs := csOf [(9, false), (10, false), (11, true), (12, false), (13, false), (14, false), (15, false), (16, false), (17, false), (18, false), (19, false), (20, false), (21, false), (22, false), (23, false)]) (cc := .ref (He.ga K "InvalidWidths")) (cv := .ref (He.ga K "InvalidWidths")) (fun q b e => fXis_ok (nm := nm) (t := fun K => .ref (He.ga K "InvalidWidths")) (c.fact 33) b e) (fun u r => r) (vr 0) (pe_glob (v := .ref (He.ga K "InvalidWidths")) rfl (He.glo_ok hX G (c.fact 34)) rfl (by decide)) rfl (He.free_ok hX G (c.fact 14))) (anil))))))) (bcons (sset (i := 1) sc_law_classes.nd rfl (Or.inl rfl) (lval (ecat (vr 1) (lval (elst (acons (eIsE (cs := csOf [(9, false), (10, false), (11, false), (12, true), (13, false), (14, false), (15, false), (16, false), (17, false), (18, false), (19, false), (20, false), (21, false), (22, false), (23, false)]) (cc := .ref (He.ga K "InvalidWeights")) (cv := .ref (He.ga K "InvalidWeights")) (fun q b e => fXis_ok (nm := nm) (t := fun K => .ref (He.ga K "InvalidWeights")) (c.fact 35) b e) (fun u r => r) (vr 0) (pe_glob (v := .ref (He.ga K "InvalidWeights")) rfl (He.glo_ok hX G (c.fact 36)) rfl (by decide)) rfl (He.free_ok hX G (c.fact 14))) (acons (eIsE (cs := csOf [(9, false), (10, false), (11, false), (12, false), (13, true), (14, false), (15, false), (16, false), (17, false), (18, false), (19, false), (20, false), (21, false), (22, false), (23, false)]) (cc := .ref (He.ga K "InvalidObservations")) (cv := .ref (He.ga K "InvalidObservations")) (fun q b e => fXis_ok (nm := nm) (t := fun K => .ref (He.ga K "InvalidObservations")) (c.fact 37) b e) (fun u r => r) (vr 0) (pe_glob (v := .ref (He.ga K "InvalidObservations")) rfl (He.glo_ok hX G (c.fact 38)) rfl (by decide)) rfl (He.free_ok hX G (c.fact 14))) (anil)))))))) (bcons (sset (i := 1) sc_law_classes.nd rfl (Or.inl rfl) (lval (ecat (vr 1) (lval (elst (acons (eIsE (cs := csOf [(9, false), (10, false), (11, false), (12, false), (13, false), (14, true), (15, false), (16, false), (17, false), (18, false), (19, false), (20, false), (21, false), (22, false), (23, false)]) (cc := .ref (He.ga K "InvalidOperations")) (cv := .ref (He.ga K "InvalidOperations")) (fun q b e => fXis_ok (nm := nm) (t := fun K => .ref (He.ga K "InvalidOperations")) (c.fact 39) b e) (fun u r => r) (vr 0) (pe_glob (v := .ref (He.ga K "InvalidOperations")) rfl (He.glo_ok hX G (c.fact 40)) rfl (by decide)) rfl (He.free_ok hX G (c.fact 14))) (acons (eIsE (cs := csOf [(9, false), (10, false), (11, false), (12, false), (13, false), (14, false), (15, false), (16, true), (17, false), (18, false), (19, false), (20, false), (21, false), (22, false), (23, false)]) (cc := .ref (He.ga K "ParseError")) (cv := .ref (He.ga K "ParseError")) (fun q b e => fXis_ok (nm := nm) (t := fun K => .ref (He.ga K "ParseError")) (c.fact 41) b e) (fun u r => r) (vr 0) (pe_glob (v := .ref (He.ga K "ParseError")) rfl (He.glo_ok hX G (c.fact 42)) rfl (by decide)) rfl (He.free_ok hX G (c.fact 14))) (anil)))))))) (bcons (sset (i := 1) sc_law_classes.nd rfl (Or.inl rfl) (lval (ecat (vr 1) (lval (elst (acons (eIsE (cs := csOf [(9, false), (10, false), (11, false), (12, false), (13, false), (14, false), (15, false), (16, false), (17, true), (18, false), (19, false), (20, false), (21, false), (22, false), (23, false)]) (cc := .ref (He.ga K "InvalidCommand")) (cv := .ref (He.ga K "InvalidCommand")) (fun q b e => fXis_ok (nm := nm) (t := fun K => .ref (He.ga K "InvalidCommand")) (c.fact 43) b e) (fun u r => r) (vr 0) (pe_glob (v := .ref (He.ga K "InvalidCommand")) rfl (He.glo_ok hX G (c.fact 44)) rfl (by decide)) rfl (He.free_ok hX G (c.fact 14))) (acons (eIsE (cs := csOf [(9, false), (10, false), (11, false), (12, false), (13, false), (14, false), (15, true), (16, false), (17, false), (18, false), (19, false), (20, false), (21, false), (22, false), (23, false)]) (cc := .ref (He.ga K "InvalidCascade")) (cv := .ref (He.ga K "InvalidCascade")) (fun q b e => fXis_ok (nm := nm) (t := fun K => .ref (He.ga K "InvalidCascade")) (c.fact 45) b e) (fun u r => r) (vr 0) (pe_glob (v := .ref (He.ga K "InvalidCascade")) rfl (He.glo_ok hX G (c.fact 46)) rfl (by decide)) rfl (He.free_ok hX G (c.fact 14))) (anil)))))))) (bcons (sset (i := 1) sc_law_classes.nd rfl (Or.inl rfl) (lval (ecat (vr 1) (lval (elst (acons (eIsE (cs := csOf [(9, false), (10, false), (11, false), (12, false), (13, false), (14, false), (15, false), (16, false), (17, false), (18, true), (19, false), (20, false), (21, false), (22, false), (23, false)]) (cc := .ref (He.ga K "ScriptError")) (cv := .ref (He.ga K "ScriptError")) (fun q b e => fXis_ok (nm := nm) (t := fun K => .ref (He.ga K "ScriptError")) (c.fact 47) b e) (fun u r => r) (vr 0) (pe_glob (v := .ref (He.ga K "ScriptError")) rfl (He.glo_ok hX G (c.fact 48)) rfl (by decide)) rfl (He.free_ok hX G (c.fact 14))) (acons (eIsE (cs := csOf [(9, false), (10, false), (11, false), (12, false), (13, false), (14, false), (15, false), (16, false), (17, false), (18, false), (19, true), (20, false), (21, false), (22, false), (23, false)]) (cc := .ref (He.ga K "InvalidColumn")) (cv := .ref (He.ga K "InvalidColumn")) (fun q b e => fXis_ok (nm := nm) (t := fun K => .ref (He.ga K "InvalidColumn")) (c.fact 49) b e) (fun u r => r) (vr 0) (pe_glob (v := .ref (He.ga K "InvalidColumn")) rfl (He.glo_ok hX G (c.fact 50)) rfl (by decide)) rfl (He.free_ok hX G (c.fact 14))) (anil)))))))) (bcons (sset (i := 1) sc_law_classes.nd rfl (Or.inl rfl) (lval (ecat (vr 1) (lval (elst (acons (eIsE (cs := csOf [(9, false), (10, false), (11, false), (12, false), (13, false), (14, false), (15, false), (16, false), (17, false), (18, false), (19, false), (20, true), (21, false), (22, false), (23, false)]) (cc := .ref (He.ga K "InvalidValley")) (cv := .ref (He.ga K "InvalidValley")) (fun q b e => fXis_ok (nm := nm) (t := fun K => .ref (He.ga K "InvalidValley")) (c.fact 51) b e) (fun u r => r) (vr 0) (pe_glob (v := .ref (He.ga K "InvalidValley")) rfl (He.glo_ok hX G (c.fact 52)) rfl (by decide)) rfl (He.free_ok hX G (c.fact 14))) (acons (eIsE (cs := csOf [(9, false), (10, false), (11, false), (12, false), (13, false), (14, false), (15, false), (16, false), (17, false), (18, false), (19, false), (20, false), (21, true), (22, false), (23, false)]) (cc := .ref (He.ga K "UnknownName")) (cv := .ref (He.ga K "UnknownName")) (fun q b e => fXis_ok (nm := nm) (t := fun K => .ref (He.ga K "UnknownName")) (c.fact 53) b e) (fun u r => r) (vr 0) (pe_glob (v := .ref (He.ga K "UnknownName")) rfl (He.glo_ok hX G (c.fact 54)) rfl (by decide)) rfl (He.free_ok hX G (c.fact 14))) (anil)))))))) (bone (sretL (ecat (vr 1) (lval (elst (acons (eIsE (cs := csOf [(9, false), (10, false), (11, false), (12, false), (13, false), (14, false), (15, false), (16, false), (17, false), (18, false), (19, false), (20, false), (21, false), (22, true), (23, false)]) (cc := .ref (He.ga K "LimitExceeded")) (cv := .ref (He.ga K "LimitExceeded")) (fun q b e => fXis_ok (nm := nm) (t := fun K => .ref (He.ga K "LimitExceeded")) (c.fact 55) b e) (fun u r => r) (vr 0) (pe_glob (v := .ref (He.ga K "LimitExceeded")) rfl (He.glo_ok hX G (c.fact 56)) rfl (by decide)) rfl (He.free_ok hX G (c.fact 14))) (acons (eIsE (cs := csOf [(9, false), (10, false), (11, false), (12, false), (13, false), (14, false), (15, false), (16, false), (17, false), (18, false), (19, false), (20, false), (21, false), (22, false), (23, true)]) (cc := .ref (He.ga K "NothingToUndo")) (cv := .ref (He.ga K "NothingToUndo")) (fun q b e => fXis_ok (nm := nm) (t := fun K => .ref (He.ga K "NothingToUndo")) (c.fact 57) b e) (fun u r => r) (vr 0) (pe_glob (v := .ref (He.ga K "NothingToUndo")) rfl (He.glo_ok hX G (c.fact 58)) rfl (by decide)) rfl (He.free_ok hX G (c.fact 14))) (anil))))))))))))))
theorem derx_law {P : Program} {w : World} {K : Fr} {mg : Str → Option Value} {base h : Heap} (c : Told fa fn K) (hX : K.In h) (G : h.Ns mainGlobals mg) (F_law_pool : CalL (kn := kn) P w mg base (sg K) 1 "_law_pool" 2 C_law_pool) (F_law_take : Cal (kn := kn) P w mg base (sg K) 1 "_law_take" 2 C_law_take) (F_law_errors : CalL (kn := kn) P w mg base (sg K) 3 "_law_errors" 1 C_law_errors) (F_law_named : CalL (kn := kn) P w mg base (sg K) 3 "_law_named" 1 C_law_named) (F_law_field : Cal (kn := kn) P w mg base (sg K) 1 "_law_field" 2 C_law_field) (F_law_bases : CalL (kn := kn) P w mg base (sg K) 1 "_law_bases" 1 C_law_bases) (F_law_classes : CalL (kn := kn) P w mg base (sg K) 1 "_law_classes" 1 C_law_classes) {f : Addr} (cdv : Value) (A : Around) (outer : List PySem.Env) (s : Shared) (H : Hp) (E : XK) (hr : R3.Room 3 (A.deeper (envOfC "law" (defScope s_law) s.heap.objs.size f cdv))) :
    EB (sg K) (cxOf (CXK kn P w) P w K mg base N_law "law" (defScope s_law) f cdv A outer s H E) (wD E) (defBody s_law) rx_law :=
  bcons (sset (i := 1) sc_law.nd rfl (Or.inr rfl) (lval (ecat (lval (erep (lval (elst (acons (lval (elst (acons (cint) (acons (cint) (anil))))) (anil)))) (cint))) (lval (elst (acons (lval (elst (acons (cint) (acons (cint) (anil))))) (acons (lval (elst (acons (cint) (acons (cint) (anil))))) (acons (lval (elst (acons (cint) (acons (cint) (anil))))) (acons (lval (elst (acons (cint) (anil)))) (acons (lval (elst (acons (cint) (anil)))) (anil))))))))))) (bcons (sfor (passes_of rfl) rfl (itr1 rfl (He.free_ok hX G (c.fact 3)) (acons (ecb (cmax2 rfl) rfl (He.free_ok hX G (c.fact 2)) boot_max (acons (cint) (acons (ecb (cmin2 rfl) rfl (He.free_ok hX G (c.fact 1)) boot_min (acons (cint) (acons (ecb (clen rfl) rfl (He.free_ok hX G (c.fact 0)) boot_len (acons (vr 0) (anil))) (anil)))) (anil)))) (anil))) (gnm (js := [2]) (i := 2) (by decide) sc_law.nd rfl (Or.inl rfl)) (bcons (sjoin (i := 3) sc_law.nd rfl (Or.inl rfl) (ecallL F_law_pool rfl hr (by decide) (takes_ofK rfl rfl rfl rfl) rfl (acons (vr 0) (acons (vr 2) (anil))))) (bone (sfor (passes_of rfl) rfl (itu (lval (elst (acons (eix (lval (elst (acons (cnon) (acons (cbl) (acons (eneg (cint)) (acons (cint) (acons (cstr) (acons (cstr) (acons (etup (acons (cint) (acons (cint) (anil)))) (acons (lval (elst (acons (cint) (anil)))) (acons (edic0) (acons (bop ipow (cint) (cint)) (anil))))))))))))) (ecall F_law_take rfl hr (by decide) (takes_ofK rfl rfl rfl rfl) rfl (acons (vr 3) (acons (cint) (anil)))) rfl) (acons (cnon) (anil))))) rfl) (gnm (js := [4]) (i := 4) (by decide) sc_law.nd rfl (Or.inl rfl)) (bcons (spar (ps_par (i := 5) (j := 6) rfl sc_law.nd rfl rfl (by decide) rfl rfl (acons (lval (ecallL F_law_errors rfl hr (by decide) (takes_ofK rfl rfl rfl rfl) rfl (acons (vr 4) (anil)))) (acons (lval (ecallL F_law_named rfl hr (by decide) (takes_ofK rfl rfl rfl rfl) rfl (acons (vr 4) (anil)))) (anil))) rfl)) (bone (sfor (passes_of rfl) rfl (itr1 rfl (He.free_ok hX G (c.fact 3)) (acons (cint) (anil))) (gnm (js := [7]) (i := 7) (by decide) sc_law.nd rfl (Or.inr rfl)) (bcons (sasg (eix (vr 5) (vr 7) rfl) (glst rfl rfl (gcons (gnm (js := [8, 9]) (i := 8) (by decide) sc_law.nd rfl (Or.inl rfl)) (gcons (gnm (js := [8, 9]) (i := 9) (by decide) sc_law.nd rfl (Or.inl rfl)) (gnil))))) (bcons (sif (tcmp (une rfl (hr.units)) (ecb (crepr rfl hr.units hr.gd) rfl (He.free_ok hX G (c.fact 4)) boot_repr (acons (ecall F_law_field rfl hr (by decide) (takes_ofK rfl rfl rfl rfl) rfl (acons (vr 8) (acons (vr 9) (anil)))) (anil))) (ecb (crepr rfl hr.units hr.gd) rfl (He.free_ok hX G (c.fact 4)) boot_repr (acons (vr 4) (anil)))) (bone (sret (cbl))) (bnil)) (bcons (sif (tcmp (une rfl (hr.units)) (ecb (crepr rfl hr.units hr.gd) rfl (He.free_ok hX G (c.fact 4)) boot_repr (acons (ecall F_law_field rfl hr (by decide) (takes_ofK rfl rfl rfl rfl) rfl (acons (eix (vr 6) (vr 7) rfl) (acons (vr 9) (anil)))) (anil))) (ecb (crepr rfl hr.units hr.gd) rfl (He.free_ok hX G (c.fact 4)) boot_repr (acons (vr 4) (anil)))) (bone (sret (cbl))) (bnil)) (bcons (slcV tame_nm (ps_setLc (i := 10) (own := [("_law_number", 12)]) rfl sc_law.nd rfl rfl rfl (itr1 rfl (He.free_ok hX G (c.fact 3)) (acons (cint) (anil))) (blkOk_by rfl) (fun s H C cl fp => gnm (js := [12]) (i := 12) (by decide) sc_law.nd rfl (Or.inl rfl)) (fun s H C cl fp => yes_pt) (fun s H C cl fp => cmp (uin rfl hr) (vr 12) (eix (vr 1) (vr 7) rfl)))) (bcons (sif (EW.et (orc (tcmp (une rfl (hr.units)) (lval (ecallL F_law_bases rfl hr (by decide) (takes_ofK rfl rfl rfl rfl) rfl (acons (vr 8) (anil)))) (vr 10)) (or1 (tcmp (une rfl (hr.units)) (lval (ecallL F_law_bases rfl hr (by decide) (takes_ofK rfl rfl rfl rfl) rfl (acons (eix (vr 6) (vr 7) rfl) (anil)))) (vr 10))))) (bone (sret (cbl))) (bnil)) (bone (sif (tcmp (une rfl (hr.units)) (lval (ecallL F_law_classes rfl hr (by decide) (takes_ofK rfl rfl rfl rfl) rfl (acons (vr 8) (anil)))) (lval (elc tame_nm (pe_lc (own := [("_law_number", 12)]) rfl sc_law.nd (itr1 rfl (He.free_ok hX G (c.fact 3)) (acons (cint) (anil))) (blkOk_by rfl) (fun s H C cl fp => gnm (js := [12]) (i := 12) (by decide) sc_law.nd rfl (Or.inl rfl)) (fun s H C cl fp => yes_pt) (fun s H C cl fp => cmp (ueq rfl (hr.units)) (vr 12) (vr 7)))))) (bone (sret (cbl))) (bnil))))))))))))))) (bcons (sjoin (i := 11) sc_law.nd rfl (Or.inl rfl) (elst (acons (cint) (anil)))) (bcons (sset (i := 8) sc_law.nd rfl (Or.inl rfl) (emkE (c := 9) (errV_InvalidNumber (kn := kn) c hX G) rfl rfl hr (by decide) rfl (acons (vr 11) (anil)))) (bcons (mappR (vr 11) (cint)) (bone (sret (cmp (deqR rfl (hr.units)) (eEF (cs := [9, 16, 17, 19, 20]) (fun q e => fXf_ok (nm := nm) (fl := fl) (c.fact 5) (by decide) e) (vr 8)) (lval (elst (acons (cint) (acons (cint) (anil))))))))))))
theorem der_law {P : Program} {w : World} {K : Fr} {mg : Str → Option Value} {base h : Heap} (c : Told fa fn K) (hX : K.In h) (G : h.Ns mainGlobals mg) (F_law_pool : CalL (kn := kn) P w mg base (sg K) 1 "_law_pool" 2 C_law_pool) (F_law_take : Cal (kn := kn) P w mg base (sg K) 1 "_law_take" 2 C_law_take) (F_law_errors : CalL (kn := kn) P w mg base (sg K) 3 "_law_errors" 1 C_law_errors) (F_law_named : CalL (kn := kn) P w mg base (sg K) 3 "_law_named" 1 C_law_named) (F_law_field : Cal (kn := kn) P w mg base (sg K) 1 "_law_field" 2 C_law_field) (F_law_bases : CalL (kn := kn) P w mg base (sg K) 1 "_law_bases" 1 C_law_bases) (F_law_classes : CalL (kn := kn) P w mg base (sg K) 1 "_law_classes" 1 C_law_classes) {f : Addr} (cdv : Value) (A : Around) (outer : List PySem.Env) (s : Shared) (H : Hp) (E : XK) (hr : R3.Room 3 (A.deeper (envOfC "law" (defScope s_law) s.heap.objs.size f cdv))) :
    EB (sg K) (cxOf (CXK kn P w) P w K mg base N_law "law" (defScope s_law) f cdv A outer s H E) (wD E) (defBody s_law) rd_law :=
  derx_law c hX G F_law_pool F_law_take F_law_errors F_law_named F_law_field F_law_bases F_law_classes cdv A outer s H E hr
/-! ### plain: the basics -/
theorem intsD_len (xs : List Int) : (intsD xs).length = xs.length := List.length_map ..
/-! ### plain: rows of drawn heights and widths -/
/-! ### steps -/
mutual
theorem eqD_refl : ∀ (n : Nat) (d : D), okN n d = true → eqD d d = true
  | _, .non, _ => rfl
  | _, .bl b, _ => by cases b <;> rfl
  | _, .int i, _ => decide_eq_true rfl
  | _, .str x, _ => beq_self_eq_true x
  | n + 1, .tup xs, h => eqDs_refl n xs h
  | n + 1, .lst xs, h => eqDs_refl n xs h
  | 0, .tup _, h => by cases h
  | 0, .lst _, h => by cases h
  | n, .ty _, h => by cases n <;> cases h
  | n, .obj _ _, h => by cases n <;> cases h
  | n, .ref _, h => by cases n <;> cases h
  | n, .scr _, h => by cases n <;> cases h
  | n, .dic _, h => by cases n <;> cases h
  | n, .cls _, h => by cases n <;> cases h
  | n, .err _ _, h => by cases n <;> cases h
theorem eqDs_refl : ∀ (n : Nat) (ds : List D), okNs n ds = true → eqDs ds ds = true
  | _, [], _ => rfl
  | n, d :: ds, h => by
    have h' := Bool.and_eq_true_iff.mp (show (okN n d && okNs n ds) = true by cases n <;> exact h)
    show (eqD d d && eqDs ds ds) = true
    rw [eqD_refl n d h'.1, eqDs_refl n ds h'.2]
    rfl
end

theorem ixN_in {n : Nat} {i : Int} (h0 : 0 ≤ i) (h1 : i < n) : ixN n i = some i.toNat := by
  unfold ixN
  rw [if_pos h0, if_pos h1]
theorem bt {i lo hi : Int} (h1 : lo ≤ i) (h2 : i ≤ hi) : betw (.int i) lo hi = true := by
  show (decide (lo ≤ i) && decide (i ≤ hi)) = true
  rw [decide_eq_true h1, decide_eq_true h2]
  rfl
theorem pick {xs : List D} {v : Int} (h0 : 0 ≤ v) (h1 : v < xs.length) : ∃ d, atI xs v = some d ∧ d ∈ xs := by
  have hlt : v.toNat < xs.length := by omega
  refine ⟨xs[v.toNat], ?_, List.getElem_mem hlt⟩
  unfold atI
  rw [ixN_in h0 h1]
  exact List.getElem?_eq_getElem hlt

theorem pl_law_take : ∀ ds S K ex, ds.length = 2 → C_law_take ds S K ex → rd_law_take { nx := fun _ S' => K .non S', rt := K, ex := fun x _ S' => ex x S' } (startD 3 ds) S := by
  rintro ds S K ex hn ⟨n, many, rfl, ⟨a, m, a0, m0, m1, hS⟩, hm, hl, q⟩
  refine ⟨_, hS, _, rfl, ?_⟩
  refine br (fun h => ?_) fun h => ?_
  · have ha : 0 < a := of_decide_eq_true h
    refine ⟨_, hS, _, rfl, hm, ?_⟩
    refine ⟨_, hS, _, rfl, ⟨hm, hl⟩, ?_⟩
    refine ⟨_, hS, _, rfl, ?_⟩
    obtain ⟨h2, o2⟩ := R3.put_ok (ys := [.int (a / many), .int m]) hS
    exact q _ _ (Int.emod_nonneg _ (by omega)) (Int.emod_lt_of_pos _ hm) ⟨a / many, m, Int.ediv_nonneg a0 (by omega), m0, m1, h2⟩ o2
  · refine ⟨_, hS, _, rfl, ?_⟩
    refine ⟨.inl (.inr ⟨by decide, by decide⟩), show (0 : Int) < 2147483647 by decide, ?_⟩
    refine ⟨_, hS, _, rfl, ?_⟩
    obtain ⟨h2, o2⟩ := R3.put_ok (ys := [.int a, .int ((m * 48271 + 12345) % 2147483647)]) hS
    have b1 := Int.emod_nonneg (m * 48271 + 12345) (show (2147483647 : Int) ≠ 0 by decide)
    have b2 := Int.emod_lt_of_pos (m * 48271 + 12345) (show (0 : Int) < 2147483647 by decide)
    refine ⟨_, h2, _, rfl, _, h2, _, rfl, ?_⟩
    refine ⟨.inl (.inl ⟨show -(2 ^ 64) < (m * 48271 + 12345) % 2147483647 by omega, show (m * 48271 + 12345) % 2147483647 < 2 ^ 64 by omega⟩), show (0 : Int) < 2147483629 by decide, ⟨show (0 : Int) < 64 by decide, by decide⟩, hm, ?_⟩
    exact q _ _ (Int.emod_nonneg _ (by omega)) (Int.emod_lt_of_pos _ hm) ⟨a, _, a0, b1, b2, h2⟩ o2
theorem cutD_ints (xs : List Int) (lo hi : Option Int) : ∃ ys : List Int, R3.cutD (intsD xs) lo hi = intsD ys ∧ ys.length ≤ xs.length := by
  refine ⟨(xs.drop (HT.sIx (intsD xs).length 0 lo)).take (HT.sIx (intsD xs).length (intsD xs).length hi - HT.sIx (intsD xs).length 0 lo), ?_, ?_⟩
  · unfold R3.cutD intsD
    rw [List.map_take, List.map_drop]
  · rw [List.length_take, List.length_drop]
    omega
theorem pl_law_pool : ∀ ds S K ex, ds.length = 2 → C_law_pool ds S K ex → rd_law_pool { nx := fun _ _ => False, rt := fun _ _ => False, ex := fun x _ S' => ex x S', rl := K } (startD 5 ds) S := by
  rintro ds S K ex hn ⟨ns, k, rfl, hl, hk, q⟩
  obtain ⟨ys, hy, ly⟩ := cutD_ints ns (some (k : Int)) (some ((k : Int) + 1))
  refine ⟨show 1 ≤ 1000000 by decide, ?_⟩
  have hy' : R3.cutD (List.map D.int ns) (some (k : Int)) (some ((k : Int) + 1)) = intsD ys := hy
  show Small ((R3.cutD (List.map D.int ns) (some (k : Int)) (some ((k : Int) + 1))).length + 1) ∧ _
  rw [hy', intsD_len]
  refine ⟨show ys.length + 1 ≤ 1000000 by omega, ?_⟩
  obtain ⟨c, hc⟩ : ∃ c : Int, atI (intsD ys ++ [.int 0]) 0 = some (.int c) := by
    cases ys with
    | nil => exact ⟨0, rfl⟩
    | cons y r => exact ⟨y, atIn (show (intsD (y :: r) ++ [.int 0])[0]? = some (.int y) from rfl)⟩
  refine ⟨_, hc, ?_⟩
  have rest : ∀ m : Int, 0 ≤ m → (wSeq (wSet 4 (wOp rdMod (wOp rMulU (wOp rdAdd (wOp rdAdd (wOp rdAdd (wOp rdMod (wVar 3) (wC (.int 2147483629))) (wOp rMulU (wOp rMulU (wC (.int 7919)) (wVar 1)) (wVar 1))) (wOp rMulU (wC (.int 31)) (wVar 1))) (wC (.int 17))) (wC (.int 48271))) (wC (.int 2147483647)))) (wRetL (wLst (wCons (wOp rMulU (wVar 3) (wCB rInt1 (wCons (wOp (rdGe) (wVar 3) (wOp rdPow (wC (.int 10)) (wC (.int 18)))) (wNil)))) (wCons (wOp rdMod (wOp rMulU (wVar 4) (wVar 4)) (wC (.int 2147483629))) (wNil)))))) { nx := fun _ _ => False, rt := fun _ _ => False, ex := fun x _ S' => ex x S', rl := K } [.val (.scr ns), .val (.int (k : Nat)), .val (.int c), .val (.int m), .no] S := by
    intro m hm
    refine ⟨show (0 : Int) < 2147483629 by decide, .inl (.inl ⟨by decide, by decide⟩), .inl (.inr ⟨by omega, by omega⟩), .inl (.inl ⟨by decide, by decide⟩), .inl (.inr ⟨by decide, by decide⟩), show (0 : Int) < 2147483647 by decide, ?_⟩
    refine ⟨⟨by decide, by decide, show (10 : Int).natAbs < 2 ^ 64 by decide⟩, ?_⟩
    have b1 := fun z : Int => Int.emod_nonneg z (show (2147483647 : Int) ≠ 0 by decide)
    have b2 := fun z : Int => Int.emod_lt_of_pos z (show (0 : Int) < 2147483647 by decide)
    generalize hz : ((m % 2147483629 + 7919 * (k : Int) * (k : Int) + 31 * (k : Int) + 17) * 48271) = z
    have c1 := b1 z
    have c2 := b2 z
    have fin : ∀ a : Int, 0 ≤ a → (CMul (z % 2147483647) (z % 2147483647) ∨ CMulW (z % 2147483647) (z % 2147483647)) ∧ ((0 : Int) < 2147483629) ∧ Small 2 ∧ K [.int a, .int (z % 2147483647 * (z % 2147483647) % 2147483629)] S := fun a ha =>
      ⟨.inl (.inl ⟨by omega, by omega⟩), by decide, show 2 ≤ 1000000 by decide, q _ _ ha (Int.emod_nonneg _ (by decide)) (by have := Int.emod_lt_of_pos (z % 2147483647 * (z % 2147483647)) (show (0 : Int) < 2147483629 by decide); omega)⟩
    have e18 : (10 : Int) ^ (18 : Int).toNat = 1000000000000000000 := by decide
    show (CMul m (if decide ((10 : Int) ^ (18 : Int).toNat ≤ m) then 1 else 0) ∨ CMulW m (if decide ((10 : Int) ^ (18 : Int).toNat ≤ m) then 1 else 0)) ∧ _
    by_cases h : (10 : Int) ^ (18 : Int).toNat ≤ m
    · rw [decide_eq_true h]
      exact ⟨.inl (.inr ⟨by decide, by decide⟩), fin _ (by show 0 ≤ m * 1; omega)⟩
    · rw [decide_eq_false h]
      exact ⟨.inl (.inr ⟨by decide, by decide⟩), fin _ (by show 0 ≤ m * 0; omega)⟩
  refine brD (fun h => ?_) fun h => ?_
  · exact rest c h
  · exact rest (-1 - c) (by omega)

/-! own errors as values -/
theorem pl_law_errors : ∀ ds S K ex, ds.length = 1 → C_law_errors ds S K ex → rd_law_errors { nx := fun _ _ => False, rt := fun _ _ => False, ex := fun x _ S' => ex x S', rl := K } (startD 2 ds) S := by
  rintro ds S K ex hn ⟨d, rfl, q⟩
  repeat (first
    | exact q
    | refine ⟨_, rfl, ?_⟩
    | refine ⟨Nat.le_of_ble_eq_true rfl, ?_⟩)
theorem pl_law_named : ∀ ds S K ex, ds.length = 1 → C_law_named ds S K ex → rd_law_named { nx := fun _ _ => False, rt := fun _ _ => False, ex := fun x _ S' => ex x S', rl := K } (startD 2 ds) S := by
  rintro ds S K ex hn ⟨d, rfl, q⟩
  repeat (first
    | exact q
    | refine ⟨_, rfl, ?_⟩
    | refine ⟨Nat.le_of_ble_eq_true rfl, ?_⟩)
theorem pl_law_field : ∀ ds S K ex, ds.length = 2 → C_law_field ds S K ex → rd_law_field { nx := fun _ S' => K .non S', rt := K, ex := fun x _ S' => ex x S' } (startD 2 ds) S := by
  rintro ds S K ex hn ⟨j, d, p, hp, rfl, q⟩
  have hm : p ∈ eo90 := List.mem_of_getElem? hp
  simp only [eo90, List.mem_cons, List.not_mem_nil, or_false] at hm
  clear hp
  rcases hm with rfl | rfl | rfl | rfl | rfl | rfl | rfl | rfl | rfl | rfl | rfl | rfl | rfl | rfl | rfl
  all_goals repeat (first
    | exact q
    | refine ⟨rfl, ?_⟩
    | refine ⟨rfl, rfl, ?_⟩)
theorem pl_law_bases : ∀ ds S K ex, ds.length = 1 → C_law_bases ds S K ex → rd_law_bases { nx := fun _ _ => False, rt := fun _ _ => False, ex := fun x _ S' => ex x S', rl := K } (startD 2 ds) S := by
  rintro ds S K ex hn ⟨j, d, p, hp, rfl, q⟩
  have hj : j < 15 := (List.getElem?_eq_some_iff.mp hp).1
  match j, hj with
  | 0, _ | 1, _ | 2, _ | 3, _ | 4, _ | 5, _ | 6, _ | 7, _ | 8, _ | 9, _ | 10, _ | 11, _ | 12, _ | 13, _ | 14, _ =>
    cases hp
    repeat (first
      | exact q
      | refine ⟨Nat.le_of_ble_eq_true rfl, ?_⟩)

theorem pl_law_classes : ∀ ds S K ex, ds.length = 1 → C_law_classes ds S K ex → rd_law_classes { nx := fun _ _ => False, rt := fun _ _ => False, ex := fun x _ S' => ex x S', rl := K } (startD 2 ds) S := by
  rintro ds S K ex hn ⟨j, d, p, hp, rfl, q⟩
  have hj : j < 15 := (List.getElem?_eq_some_iff.mp hp).1
  match j, hj with
  | 0, _ | 1, _ | 2, _ | 3, _ | 4, _ | 5, _ | 6, _ | 7, _ | 8, _ | 9, _ | 10, _ | 11, _ | 12, _ | 13, _ | 14, _ =>
    cases hp
    repeat (first
      | exact q
      | refine ⟨Nat.le_of_ble_eq_true rfl, ?_⟩)

/-! the rounds of the law -/
def p90 : FS := wSeq (wAsg (wOp rIxD (wVar 5) (wVar 7)) (gTl 2 (gCs (gNm 8) (gCs (gNm 9) (gNl))))) (wSeq (wIfS (wTst (wOp (rEqU true) (wCB rReprD (wCons (wCall 2 C_law_field (wCons (wVar 8) (wCons (wVar 9) (wNil)))) (wNil))) (wCB rReprD (wCons (wVar 4) (wNil))))) (wRet (wC (.bl false))) (wNext)) (wSeq (wIfS (wTst (wOp (rEqU true) (wCB rReprD (wCons (wCall 2 C_law_field (wCons (wOp rIxD (wVar 6) (wVar 7)) (wCons (wVar 9) (wNil)))) (wNil))) (wCB rReprD (wCons (wVar 4) (wNil))))) (wRet (wC (.bl false))) (wNext)) (wSeq (wSet 10 (wVal (wLc (wR1 (wCons (wC (.int 8)) (wNil))) (gNm 12) (wYes) (wOp (rInU false) (wVar 12) (wOp rIxD (wVar 1) (wVar 7))) [12]))) (wSeq (wIfS (wOr (wTst (wOp (rEqU true) (wVal (wCallL 1 C_law_bases (wCons (wVar 8) (wNil)))) (wVar 10))) (wTst (wOp (rEqU true) (wVal (wCallL 1 C_law_bases (wCons (wOp rIxD (wVar 6) (wVar 7)) (wNil)))) (wVar 10)))) (wRet (wC (.bl false))) (wNext)) (wIfS (wTst (wOp (rEqU true) (wVal (wCallL 1 C_law_classes (wCons (wVar 8) (wNil)))) (wVal (wLc (wR1 (wCons (wC (.int 15)) (wNil))) (gNm 12) (wYes) (wOp (rEqU false) (wVar 12) (wVar 7)) [12])))) (wRet (wC (.bl false))) (wNext))))))
def o90 : FS := wSeq (wPar 5 6 (wCons (wVal (wCallL 1 C_law_errors (wCons (wVar 4) (wNil)))) (wCons (wVal (wCallL 1 C_law_named (wCons (wVar 4) (wNil)))) (wNil)))) (wFor (wR1 (wCons (wC (.int 15)) (wNil))) (gNm 7) p90)
def k90 : FS := wSeq (wJoin 3 (wCallL 2 C_law_pool (wCons (wVar 0) (wCons (wVar 2) (wNil))))) (wFor (wItU (wVal (wLst (wCons (wOp rIxD (wVal (wLst (wCons (wC .non) (wCons (wC (.bl true)) (wCons (wNeg (wC (.int 1))) (wCons (wC (.int 0)) (wCons (wC (.str "aB")) (wCons (wC (.str "")) (wCons (wTup (wCons (wC (.int 1)) (wCons (wC (.int 2)) (wNil)))) (wCons (wVal (wLst (wCons (wC (.int 3)) (wNil)))) (wCons (wDic0) (wCons (wOp rdPow (wC (.int 10)) (wC (.int 20))) (wNil))))))))))))) (wCall 2 C_law_take (wCons (wVar 3) (wCons (wC (.int 10)) (wNil))))) (wCons (wC .non) (wNil)))))) (gNm 4) o90)
def t90 : FS := wSeq (wJoin 11 (wLst (wCons (wC (.int 3)) (wNil)))) (wSeq (wSet 8 (wMkE 9 (wCons (wVar 11) (wNil)))) (wSeq (wAppR (wVar 11) (wC (.int 4))) (wRet (wOp (rEqR false) (wEF [9, 16, 17, 19, 20] (wVar 8)) (wVal (wLst (wCons (wC (.int 3)) (wCons (wC (.int 4)) (wNil)))))))))
def rows90 : List D := row90.map fun r => .lst (r.map D.int)
def errs90 (d : D) : List D := eo90.map fun p => .lst [.err p.1 [d], .int p.2]
def nam90 (d : D) : List D := eo90.map fun p => .err p.1 [d]
def ok90 (d : D) : Prop := Shw 1000000 d ∧ PyData.strOk (shw d) = true
theorem place90 {fn : R3.Fin} {a0 a2 a3 a8 a9 a10 : Sl} {d : D} {S : Store} {j : Nat} (hd : ok90 d) (hj : j < 15) (q : ∀ b8 b9 b10 : Sl, fn.nx [a0, .val (.lst rows90), a2, a3, .val d, .val (.lst (errs90 d)), .val (.lst (nam90 d)), .val (.int (j : Nat)), b8, b9, b10, .no, .no] S) :
    p90 fn [a0, .val (.lst rows90), a2, a3, .val d, .val (.lst (errs90 d)), .val (.lst (nam90 d)), .val (.int (j : Nat)), a8, a9, a10, .no, .no] S := by
  obtain ⟨h1, h2⟩ := hd
  have es : eqD (.str (shw d)) (.str (shw d)) = true := by show (shw d == shw d) = true; simp
  have e1 : (!eqD (.str (shw d)) (.str (shw d))) = false := by rw [es]; rfl
  obtain ⟨p, hp⟩ : ∃ p, eo90[j]? = some p := ⟨_, List.getElem?_eq_getElem (show j < eo90.length from hj)⟩
  match j, hj, hp with
  | 0, _, hp | 1, _, hp | 2, _, hp | 3, _, hp | 4, _, hp | 5, _, hp | 6, _, hp | 7, _, hp | 8, _, hp | 9, _, hp | 10, _, hp | 11, _, hp | 12, _, hp | 13, _, hp | 14, _, hp =>
    have hq := hp
    cases hp
    refine ⟨_, rfl, rfl, rfl, _, d, _, hq, rfl, h1, h1, h2, h2, brF e1 ?_⟩
    refine ⟨_, rfl, rfl, _, d, _, hq, rfl, h1, h1, h2, h2, brF e1 ?_⟩
    refine ⟨rfl, ⟨by decide, by decide⟩, ?_⟩
    repeat' (first
      | exact q _ _ _
      | refine ⟨_, rfl, rfl, rfl, Nat.le_of_ble_eq_true rfl, ?_⟩)
    refine ⟨rfl, _, d, _, hq, rfl, rfl, rfl, brF rfl ?_⟩
    refine ⟨_, rfl, rfl, _, d, _, hq, rfl, rfl, rfl, brF rfl ?_⟩
    refine ⟨rfl, _, d, _, hq, rfl, rfl, ⟨by decide, by decide⟩, ?_⟩
    repeat' (first
      | exact q _ _ _
      | refine ⟨rfl, rfl, Nat.le_of_ble_eq_true rfl, ?_⟩
      | refine ⟨rfl, rfl, brF rfl ?_⟩)

theorem ok90_all : ∀ d ∈ val90, ok90 d := by
  intro d hd
  simp only [val90, List.mem_cons, List.not_mem_nil, or_false] at hd
  rcases hd with rfl | rfl | rfl | rfl | rfl | rfl | rfl | rfl | rfl | rfl
  all_goals exact ⟨⟨_, rfl, by decide +kernel, by decide +kernel, by decide +kernel⟩, by decide +kernel⟩
theorem val90_go {fn : R3.Fin} {a0 a2 a3 a5 a6 a7 a8 a9 a10 : Sl} {d : D} {S : Store} (hd : ok90 d) (q : ∀ b5 b6 b7 b8 b9 b10 : Sl, fn.nx [a0, .val (.lst rows90), a2, a3, .val d, b5, b6, b7, b8, b9, b10, .no, .no] S) :
    o90 fn [a0, .val (.lst rows90), a2, a3, .val d, a5, a6, a7, a8, a9, a10, .no, .no] S := by
  refine ⟨rfl, d, rfl, rfl, d, rfl, ⟨by decide, by decide⟩, ?_⟩
  refine forI (fun i ρ S' => S' = S ∧ ∃ b7 b8 b9 b10 : Sl, ρ = [a0, .val (.lst rows90), a2, a3, .val d, .val (.lst (errs90 d)), .val (.lst (nam90 d)), b7, b8, b9, b10, .no, .no]) ⟨rfl, _, _, _, _, rfl⟩ ?_ ?_
  · rintro i x ρ S' N hx ⟨rfl, b7, b8, b9, b10, rfl⟩ hN
    obtain ⟨hi, rfl⟩ := rng_at hx
    rw [Int.zero_add]
    exact place90 hd hi fun c8 c9 c10 => hN _ _ ⟨rfl, _, _, _, _, rfl⟩
  · rintro ρ S' ⟨rfl, b7, b8, b9, b10, rfl⟩
    exact q _ _ _ _ _ _
theorem round90 {fn : R3.Fin} {a3 a4 a5 a6 a7 a8 a9 a10 : Sl} {ns : List Int} {k : Nat} {S : Store} (hl : ns.length ≤ 63) (hk : k ≤ 63) (q : ∀ (S' : Store) (b3 b4 b5 b6 b7 b8 b9 b10 : Sl), fn.nx [.val (.scr ns), .val (.lst rows90), .val (.int (k : Nat)), b3, b4, b5, b6, b7, b8, b9, b10, .no, .no] S') :
    k90 fn [.val (.scr ns), .val (.lst rows90), .val (.int (k : Nat)), a3, a4, a5, a6, a7, a8, a9, a10, .no, .no] S := by
  refine ⟨rfl, ns, k, rfl, hl, hk, fun a m a0 m0 m1 => ?_⟩
  have hP : Pl S.length (S ++ [some (.lst [.int a, .int m])]) := ⟨a, m, a0, m0, m1, by simp⟩
  refine ⟨Nat.le_of_ble_eq_true rfl, Nat.le_of_ble_eq_true rfl, ⟨by decide, by decide, show (10 : Int).natAbs < 2 ^ 64 by decide⟩, Nat.le_of_ble_eq_true rfl, rfl, S.length, 10, rfl, hP, by decide, by decide, fun v S' v0 v1 hP' oth => ?_⟩
  obtain ⟨i, rfl⟩ := Int.eq_ofNat_of_zero_le v0
  obtain ⟨d, hd⟩ : ∃ d, val90[i]? = some d := ⟨_, List.getElem?_eq_getElem (show i < 10 by omega)⟩
  refine ⟨d, atIn (xs := val90) hd, Nat.le_of_ble_eq_true rfl, ?_⟩
  refine val90_go (ok90_all d (List.mem_of_getElem? hd)) fun b5 b6 b7 b8 b9 b10 => ?_
  exact val90_go (d := .non) (ok90_all _ (by simp [val90])) fun c5 c6 c7 c8 c9 c10 => q _ _ _ _ _ _ _ _ _
theorem tail90 {K : KD} {ex : KX} {a0 a1 a2 a3 a4 a5 a6 a7 a8 a9 a10 : Sl} {S : Store} (q : ∀ S', K (.bl true) S') : t90 { nx := fun _ S' => K .non S', rt := K, ex := fun x _ S' => ex x S' } [a0, a1, a2, a3, a4, a5, a6, a7, a8, a9, a10, .no, .no] S := by
  refine ⟨Nat.le_of_ble_eq_true rfl, _, rfl, ⟨[.int 3], by simp⟩, [.int 3], by simp, Nat.le_of_ble_eq_true rfl, rfl, Nat.le_of_ble_eq_true rfl, [.int 3, .int 4], _, _, ?_, rfl, rfl, by decide +kernel, by decide +kernel, q _⟩
  simp
theorem pl_law : ∀ ds S K ex, ds.length = 1 → C_law ds S K ex → rd_law { nx := fun _ S' => K .non S', rt := K, ex := fun x _ S' => ex x S' } (startD 13 ds) S := by
  rintro ds S K ex hn ⟨ns, rfl, hl, rfl, q⟩
  have st : startD 13 [D.scr ns] = .val (.scr ns) :: .no :: .no :: .no :: .no :: .no :: [.no, .no, .no, .no, .no, .no, .no] := rfl
  rw [st]
  have b : ∃ m : Nat, m ≤ 20 ∧ (if (if ((ns.length : Nat) : Int) < 10 then ((ns.length : Nat) : Int) else 10) > 1 then (if ((ns.length : Nat) : Int) < 10 then ((ns.length : Nat) : Int) else 10) else 1) = (m : Int) := by
    refine ⟨(if (if ((ns.length : Nat) : Int) < 10 then ((ns.length : Nat) : Int) else 10) > 1 then (if ((ns.length : Nat) : Int) < 10 then ((ns.length : Nat) : Int) else 10) else 1).toNat, ?_, ?_⟩ <;> split <;> split <;> omega
  obtain ⟨m, m2, em⟩ := b
  refine ⟨Nat.le_of_ble_eq_true rfl, Nat.le_of_ble_eq_true rfl, ⟨by decide, by decide, Nat.le_of_ble_eq_true rfl⟩, Nat.le_of_ble_eq_true rfl, Nat.le_of_ble_eq_true rfl, Nat.le_of_ble_eq_true rfl, Nat.le_of_ble_eq_true rfl, Nat.le_of_ble_eq_true rfl, Nat.le_of_ble_eq_true rfl, Nat.le_of_ble_eq_true rfl, ⟨?_, ?_⟩, ?_⟩
  · show -(2 ^ 62) ≤ (if (if ((ns.length : Nat) : Int) < 10 then ((ns.length : Nat) : Int) else 10) > 1 then (if ((ns.length : Nat) : Int) < 10 then ((ns.length : Nat) : Int) else 10) else 1)
    rw [em]
    omega
  · show (if (if ((ns.length : Nat) : Int) < 10 then ((ns.length : Nat) : Int) else 10) > 1 then (if ((ns.length : Nat) : Int) < 10 then ((ns.length : Nat) : Int) else 10) else 1) < 2 ^ 62
    rw [em]
    omega
  show forL _ _ _ (rng 0 (if (if ((ns.length : Nat) : Int) < 10 then ((ns.length : Nat) : Int) else 10) > 1 then (if ((ns.length : Nat) : Int) < 10 then ((ns.length : Nat) : Int) else 10) else 1).toNat) _ _
  rw [em, Int.toNat_natCast]
  refine forI (fun i ρ S' => ∃ a2 a3 a4 a5 a6 a7 a8 a9 a10 : Sl, ρ = [.val (.scr ns), .val (.lst rows90), a2, a3, a4, a5, a6, a7, a8, a9, a10, .no, .no]) ⟨_, _, _, _, _, _, _, _, _, rfl⟩ ?_ ?_
  · rintro i x ρ S0 N hx ⟨a2, a3, a4, a5, a6, a7, a8, a9, a10, rfl⟩ hN
    obtain ⟨hi, rfl⟩ := rng_at hx
    rw [Int.zero_add]
    exact round90 hl (by omega) fun S' b3 b4 b5 b6 b7 b8 b9 b10 => hN _ _ ⟨_, _, _, _, _, _, _, _, _, rfl⟩
  · rintro ρ S' ⟨a2, a3, a4, a5, a6, a7, a8, a9, a10, rfl⟩
    exact tail90 q
theorem law_start (ns : List Int) (hl : ns.length ≤ 63) (hb : ∀ z ∈ ns, Builtin.Int.intBits z ≤ 1048576) : C_law [.scr ns] [] (fun d _ => d = .bl true) noX := ⟨ns, rfl, hl, rfl, fun _ => rfl⟩

theorem ok_law_pool {P : Program} {w : World} {K : Fr} {mg : Str → Option Value} {base h : Heap} (c : Told fa fn K) (hX : K.In h) (G : h.Ns mainGlobals mg)  : CalL (kn := kn) P w mg base (sg K) 1 "_law_pool" 2 C_law_pool := by
  obtain ⟨fd, F⟩ := c.fun_ 0 (d := d_law_pool) rfl
  exact ⟨⟨_, He.glo_ok hX G (c.fact 59), F.kp, raw0 (def_okL (g := sg K) F sc_law_pool (der_law_pool c hX G ) pl_law_pool) (F.bindsN fun _ _ _ _ _ _ us hl => match us, hl with | [_, _], _ => rfl)⟩⟩
theorem ok_law_take {P : Program} {w : World} {K : Fr} {mg : Str → Option Value} {base h : Heap} (c : Told fa fn K) (hX : K.In h) (G : h.Ns mainGlobals mg)  : Cal (kn := kn) P w mg base (sg K) 1 "_law_take" 2 C_law_take := by
  obtain ⟨fd, F⟩ := c.fun_ 1 (d := d_law_take) rfl
  exact ⟨⟨_, He.glo_ok hX G (c.fact 60), F.kp, raw0 (def_ok (g := sg K) F sc_law_take (der_law_take c hX G ) pl_law_take) (F.bindsN fun _ _ _ _ _ _ us hl => match us, hl with | [_, _], _ => rfl)⟩⟩
theorem ok_law_errors {P : Program} {w : World} {K : Fr} {mg : Str → Option Value} {base h : Heap} (c : Told fa fn K) (hX : K.In h) (G : h.Ns mainGlobals mg)  : CalL (kn := kn) P w mg base (sg K) 3 "_law_errors" 1 C_law_errors := by
  obtain ⟨fd, F⟩ := c.fun_ 2 (d := d_law_errors) rfl
  exact ⟨⟨_, He.glo_ok hX G (c.fact 61), F.kp, raw0 (def_okL (g := sg K) F sc_law_errors (der_law_errors c hX G ) pl_law_errors) (F.bindsN fun _ _ _ _ _ _ us hl => match us, hl with | [_], _ => rfl)⟩⟩
theorem ok_law_named {P : Program} {w : World} {K : Fr} {mg : Str → Option Value} {base h : Heap} (c : Told fa fn K) (hX : K.In h) (G : h.Ns mainGlobals mg)  : CalL (kn := kn) P w mg base (sg K) 3 "_law_named" 1 C_law_named := by
  obtain ⟨fd, F⟩ := c.fun_ 3 (d := d_law_named) rfl
  exact ⟨⟨_, He.glo_ok hX G (c.fact 62), F.kp, raw0 (def_okL (g := sg K) F sc_law_named (der_law_named c hX G ) pl_law_named) (F.bindsN fun _ _ _ _ _ _ us hl => match us, hl with | [_], _ => rfl)⟩⟩
theorem ok_law_field {P : Program} {w : World} {K : Fr} {mg : Str → Option Value} {base h : Heap} (c : Told fa fn K) (hX : K.In h) (G : h.Ns mainGlobals mg)  : Cal (kn := kn) P w mg base (sg K) 1 "_law_field" 2 C_law_field := by
  obtain ⟨fd, F⟩ := c.fun_ 4 (d := d_law_field) rfl
  exact ⟨⟨_, He.glo_ok hX G (c.fact 63), F.kp, raw0 (def_ok (g := sg K) F sc_law_field (der_law_field c hX G ) pl_law_field) (F.bindsN fun _ _ _ _ _ _ us hl => match us, hl with | [_, _], _ => rfl)⟩⟩
theorem ok_law_bases {P : Program} {w : World} {K : Fr} {mg : Str → Option Value} {base h : Heap} (c : Told fa fn K) (hX : K.In h) (G : h.Ns mainGlobals mg)  : CalL (kn := kn) P w mg base (sg K) 1 "_law_bases" 1 C_law_bases := by
  obtain ⟨fd, F⟩ := c.fun_ 5 (d := d_law_bases) rfl
  exact ⟨⟨_, He.glo_ok hX G (c.fact 64), F.kp, raw0 (def_okL (g := sg K) F sc_law_bases (der_law_bases c hX G ) pl_law_bases) (F.bindsN fun _ _ _ _ _ _ us hl => match us, hl with | [_], _ => rfl)⟩⟩
theorem ok_law_classes {P : Program} {w : World} {K : Fr} {mg : Str → Option Value} {base h : Heap} (c : Told fa fn K) (hX : K.In h) (G : h.Ns mainGlobals mg)  : CalL (kn := kn) P w mg base (sg K) 1 "_law_classes" 1 C_law_classes := by
  obtain ⟨fd, F⟩ := c.fun_ 6 (d := d_law_classes) rfl
  exact ⟨⟨_, He.glo_ok hX G (c.fact 65), F.kp, raw0 (def_okL (g := sg K) F sc_law_classes (der_law_classes c hX G ) pl_law_classes) (F.bindsN fun _ _ _ _ _ _ us hl => match us, hl with | [_], _ => rfl)⟩⟩
theorem facts {w : World} {K : Fr} {mg : Str → Option Value} {h : Heap} {f : Addr} (c : Told fa fn K) (hX : K.In h) (G : h.Ns mainGlobals mg) (hf : mg ("law" : Str) = some (.ref f)) :
    ∃ fd : FuncData, (∀ (s : Shared) (u : Value), BindsTo s fd ⟨[u], []⟩ [("_law_script", u)]) ∧ ∀ base : Heap, R3.FnOk PySem.Challenge.pw_rainvalleys_k90_error_classes w (sg K).K mg base (CXK false PySem.Challenge.pw_rainvalleys_k90_error_classes w) 4 f fd ["_law_script"] (spOf (sg K) 1 C_law) := by
  obtain ⟨fd, F⟩ := c.fun_ 7 (d := d_law) rfl
  have e := hf.symm.trans (He.glo_ok hX G (c.fact 66))
  cases e
  have b := FunD.bindsA (ps := ["_law_script"]) F fun _ _ _ _ _ _ us hl => match us, hl with | [_], _ => rfl
  refine ⟨fd, fun s u => b s [u] rfl, fun base => ?_⟩
  have F_law_pool := ok_law_pool (kn := false) (P := PySem.Challenge.pw_rainvalleys_k90_error_classes) (w := w) (base := base) c hX G 
  have F_law_take := ok_law_take (kn := false) (P := PySem.Challenge.pw_rainvalleys_k90_error_classes) (w := w) (base := base) c hX G 
  have F_law_errors := ok_law_errors (kn := false) (P := PySem.Challenge.pw_rainvalleys_k90_error_classes) (w := w) (base := base) c hX G 
  have F_law_named := ok_law_named (kn := false) (P := PySem.Challenge.pw_rainvalleys_k90_error_classes) (w := w) (base := base) c hX G 
  have F_law_field := ok_law_field (kn := false) (P := PySem.Challenge.pw_rainvalleys_k90_error_classes) (w := w) (base := base) c hX G 
  have F_law_bases := ok_law_bases (kn := false) (P := PySem.Challenge.pw_rainvalleys_k90_error_classes) (w := w) (base := base) c hX G 
  have F_law_classes := ok_law_classes (kn := false) (P := PySem.Challenge.pw_rainvalleys_k90_error_classes) (w := w) (base := base) c hX G 
  exact def_ok (g := sg K) F sc_law (der_law c hX G F_law_pool F_law_take F_law_errors F_law_named F_law_field F_law_bases F_law_classes) pl_law
end Row
open PySem PySem.W PySem.Calls PyProof.Rows
theorem PySem.Challenge.cw_rainvalleys_k90_error_classes_holds : PySem.Challenge.rw_rainvalleys_k90_error_classes.Holds := by
  w_on; o_law
  refine HandSHeadRun.head_any (r := OpenLaw.row PySem.Challenge.rw_rainvalleys_k90_error_classes) (q := view (OpenLaw.row PySem.Challenge.rw_rainvalleys_k90_error_classes).prog [25]) (H := Row.hk) (ob := Row.ob) (M := 20000) (loose := Row.loose)
    (d := HandSHeadRun.topDef (OpenLaw.row PySem.Challenge.rw_rainvalleys_k90_error_classes).prog 25) (kwd := []) Row.ob_eq (by kernel_rfl) (fun s => by kernel_rfl) Row.run
    (by kernel_rfl) (by kernel_rfl) (by kernel_rfl) (by rfl) (by first | assumption | decide +kernel) (by decide +kernel) ⟨rfl, rfl, rfl, rfl, rfl, by decide +kernel⟩ ?hw ?hc
  case hw => w_witness2
  case hc =>
    refine R3.walk_ofR (kn := false) (l := PySem.Challenge.rw_rainvalleys_k90_error_classes) (n := 63) (k := 4) (x := "_law_script") (C := Row.C_law) (g := Row.sg) (fun _ => rfl) rfl (by decide) (by kernel_rfl) ⟨rfl, by decide, by decide⟩ (fun ns hl hb => Row.law_start ns hl hb) ?F
    intro w mg fa h Y G hmg0
    obtain ⟨K, KX, c⟩ := Y
    have hmg : mg ("law" : PySem.Str) = some (.ref fa) := by
      have e : (HandSHeadRun.topDef (OpenLaw.row PySem.Challenge.rw_rainvalleys_k90_error_classes).prog 25).name = ("law" : PySem.Str) := by kernel_rfl
      rw [← e]
      exact hmg0
    obtain ⟨fd, hb, hF⟩ := Row.facts (w := w) c KX G hmg
    exact ⟨K, fd, KX, hb, hF⟩
