import PyProof.Rows.All
import Wide.All
import OpenK.AllK
import Wide.FinOn
import HandS.ForMost
import HandS.EndBits
import PyProof.ReprReads
import PyProof.ReprRoads
import KE.DatumOrd
import KE.SortData
import HandS.Flow
import HandS.TupAny
import HandS.IsInst
import HandS.Deep
import HandS.Style
import HandS.DictComp
import HandS.Small
import HandS.Defaults
import HandS.SetFor
import HandS.Strs
import HandS.Words
import HandS.WordsExc
import HandS.Head0
import HandS.Head1
import HandS.Head2
import HandS.HeadEnd
import HandS.HeadHook1
import HandS.HeadHook2
import PySem.Challenge.RW_effectonce_k52_whole_calendars_alike
set_option Elab.async false
set_option linter.all false
set_option maxRecDepth 100000
set_option maxHeartbeats 0
/-! EvA: a def's contract that also knows which guards run around it (repr of containers asks that); calls, bodies, the law's end. -/
namespace EV
open PySem PySem.Spec PyProof.Rows L2

/-- room for k calls; no guard runs around -/
structure Rm (k : Nat) (A : Around) : Prop where
  room : Room k A
  gd : A.guards = some []
theorem Rm.mono {j k : Nat} {A : Around} (r : Rm k A) (h : j ≤ k) : Rm j A := ⟨r.room.mono h, r.gd⟩
theorem Rm.deeper {k : Nat} {A : Around} (r : Rm (k + 1) A) (e : Env) : Rm k (A.deeper e) := ⟨r.room.deeper e, r.gd⟩

/-- a promise: arguments, abstract heap, what is wanted -/
abbrev Pm := List V → Hp → VK → Prop
def Back (P : Program) (w : World) (outer : List Env) (H : Hp) (s : Shared) (Q : VK) (r : Result) (s' : Shared) : Prop :=
  match r with
  | .ok (.ret u) => CE outer P w H s Q u s'
  | _ => False
structure FnG (P : Program) (w : World) (K : PySem.W.Frag) (mg : Str → Option Value) (base : Heap)
    (k : Nat) (f : Addr) (fd : FuncData) (ps : List Str) (sp : Pm) : Prop where
  len : ∀ vs H Q, sp vs H Q → vs.length = ps.length
  run : ∀ (A : Around) (outer : List Env) (s : Shared) (H : Hp) (args : Args) (us : List Value) (vs : List V) (Q : VK),
    Rm k A → Env0 P w K mg base A outer s H → BindsTo s fd args (ps.zip us) → Vals vs us → sp vs H Q →
    codeAny (model P w) A (.call (.ref f) args) (Back P w outer H s Q) s

section
variable {X : Cx} {k : Nat} {f : Addr} {fd : FuncData} {ps : List Str} {sp : Pm}
theorem runG {pins : List (Addr × Obj)} {σ : L2.St} {H : Hp} {s : Shared} {Q : VK} {us : List Value} {vs : List V}
    (F : FnG X.prog X.w X.K X.mg X.base k f fd ps sp) (hr : Rm k X.A) (hb : Binds X.K fd ps [])
    (I : Inv X pins σ H s) (r : Vals vs us) (h : sp vs H Q) :
    wpAny (model X.prog X.w) X.A (call (.ref f) us) (EP X pins σ Q) X.xe s := by
  have hl : us.length = ps.length := by
    rw [← r.length]
    exact F.len _ _ _ h
  have hb' := hb s us I.kIn (by simpa using hl)
  rw [List.append_nil] at hb'
  refine wpAny_call (codeAny_mono (F.run X.A X.stack s H ⟨us, []⟩ us vs Q hr I.env0 hb' r h) fun r s' hq => ?_)
  cases r with
  | error e => exact False.elim hq
  | ok fl =>
    cases fl with
    | ret u => exact I.after hq
    | next => exact False.elim hq
    | brk => exact False.elim hq
    | cont => exact False.elim hq

def tCallG (sp : Pm) (t : TA) : TE := fun σ H Q => t σ H fun vs H1 => sp vs H1 Q
theorem pe_callG {x : Str} {p pos : Pos} {e : Expr} {es : List Expr} {t : TA}
    (F : FnG X.prog X.w X.K X.mg X.base k f fd ps sp) (hr : Rm k X.A) (hg : Gl X x)
    (hm : X.mg x = some (.ref f)) (hk : PySem.W.keepIn X.K (.ref f) = true) (hb : Binds X.K fd ps []) (ha : PA X (e :: es) t)
    (hdb : (x == ("__debug__" : Str)) = false)
    (he : starEach (e :: es) X.env = (false, eval e X.env) :: starEach es X.env)
    (hpl : (backTo pos (starEach es X.env)).any (·.1) = false) :
    PE X (.Call (.Name x p) (e :: es) [] pos) (tCallG sp t) := by
  constructor
  intro pins s σ H Q I h
  refine wpAny_Call_Name_kw (ld_glob I hg hm ?_ hdb)
  refine PySem.W.callWith_K (h₀ := X.base) I.ok.mod.kin hk ?_ he hpl
  refine thn (ha.run pos pins s σ H _ I h) ?_
  rintro us s1 ⟨vs, H1, I1, r, q⟩
  exact ⟨I1.kIn, runG F hr hb I1 r q⟩
theorem pe_callG0 {x : Str} {p pos : Pos}
    (F : FnG X.prog X.w X.K X.mg X.base k f fd ps sp) (hr : Rm k X.A) (hg : Gl X x)
    (hm : X.mg x = some (.ref f)) (hk : PySem.W.keepIn X.K (.ref f) = true) (hb : Binds X.K fd ps [])
    (hdb : (x == ("__debug__" : Str)) = false) :
    PE X (.Call (.Name x p) [] [] pos) (tCallG sp tNil) := by
  constructor
  intro pins s σ H Q I h
  refine wpAny_Call_Name_kw (ld_glob I hg hm ?_ hdb)
  exact PySem.W.callWith_K0 I.kIn hk (runG (us := []) F hr hb I .nil h)
end

/-- a def by its body -/
theorem fnG_of {P : Program} {w : World} {K : PySem.W.Frag} {mg : Str → Option Value} {base : Heap} {k : Nat} {f : Addr}
    {name qual : Str} {st : Stmt} {fd : FuncData} {N ps : List Str} {sp : Pm} (F : Fun K name qual st f fd) (S : FnScope N ps (defScope st))
    (len : ∀ vs H Q, sp vs H Q → vs.length = ps.length)
    (hbody : ∀ (cdv : Value) (A : Around) (outer : List Env) (s : Shared) (H : Hp) (vs : List V) (Q : VK),
      Rm k (A.deeper (envOfC qual (defScope st) s.heap.objs.size f cdv)) → sp vs H Q →
      ∃ t, PSs (cxOf CX0 P w K mg base N qual (defScope st) f cdv A outer s H E0).nox (defBody st) t ∧
        t { nx := fun _ H' => Q .non H', rt := Q } (start N vs) H) :
    FnG P w K mg base (k + 1) f fd ps sp := by
  obtain ⟨oc, od, kV, doc, pm, an, cdv, ct, osl, rfl, lk, hcd⟩ := F.ex
  constructor
  · exact len
  intro A outer s H args us vs Q hr e0 hb r hsp
  have hl := len _ _ _ hsp
  have KX : K.In s.heap := e0.mod.kin.keeps fun b o e => (e0.bs b o e).1
  have lim : s.heap.NoLimit := e0.mod.nolimit.keeps fun b o e => (e0.bs b o e).1
  have hkind : ∀ y ∈ ps.zip us, (defScope st).names.lookup y.1 = some .local ∨ ((defScope st).names.lookup y.1 = some .cell ∧
      ((cellsFrom (s.heap.objs.size + 1) (defScope st).names []).lookup y.1).isSome = true) := by
    rintro ⟨n, v⟩ hy
    rcases S.par n (List.of_mem_zip hy).1 with q | q
    · exact .inl q
    · exact .inr ⟨q, PySem.W.cellsFrom_some _ _ _ (.inl q)⟩
  refine codeAny_call_function hr.room.depth (KX _ _ lk) rfl S.co S.gen rfl (PySem.W.codeRec_of KX hcd) (hb _ _ _ _ ?_)
  refine wpAny_newFunctionEnv_cells S.kind hkind ?_
  intro env he s1 x
  subst he
  refine ⟨lim.keeps x.toInCall.keep, codeAny_func ?_⟩
  obtain ⟨t, ht, hq⟩ := hbody cdv A outer s H vs Q (hr.deeper _) hsp
  have I := inv_start (CX := CX0) (P := P) (w := w) (qual := qual) (E := E0) S hr.room.hd e0 hl r x
  refine wpAny_mono (ht.nox.run [] s1 (start N vs) H _ I hq) (fun fl s' hs => ?_) (fun e s' hs => ?_)
  · cases fl with
    | ret u =>
      obtain ⟨v, σ', H', J, rv, q⟩ := hs
      exact ⟨v, H', J.os, J.bare, J.base, J.hok, rv, q⟩
    | next =>
      obtain ⟨σ', H', J, q⟩ := hs
      exact ⟨V.non, H', J.os, J.bare, J.base, J.hok, rfl, q⟩
    | brk =>
      obtain ⟨_, _, _, q⟩ := hs
      exact False.elim q
    | cont =>
      obtain ⟨_, _, _, q⟩ := hs
      exact False.elim q
  · exact hs

/-- the law's call over the heap behind the top -/
theorem law_callG {P : Program} {w : World} {K : PySem.W.Frag} {mg mb : Str → Option Value} {k : Nat} {fa a : Addr} {fd : FuncData} {x : Str}
    {sp : Pm} {t0 : Shared} {vs : List Value} {ns : List Int}
    (KX : K.In t0.heap) (hns : t0.heap.Ns mainGlobals mg) (hb : t0.heap.Ns builtinsNs mb)
    (hbb : ∀ x : Str, x ≠ "__name__" → mb x = bootBuiltins x) (hlim : t0.heap.NoLimit) (hg : t0.gens = #[])
    (ha : t0.heap.get? a = some { cls := .type "list", data := .seq vs.toArray }) (hi : IntsAre vs ns) (hl : ns.length ≤ sizeLine)
    (hr : Rm k callerA)
    (F : ∀ base : Heap, K.In base → base.Ns mainGlobals mg → FnG P w K mg base k fa fd [x] sp)
    (hbind : ∀ (s : Shared) (u : Value), BindsTo s fd ⟨[u], []⟩ [(x, u)])
    (hsp : ∀ H : Hp, Only H → SqL K H a (ns.map V.int) → sp [.ref a] H (fun v _ => v = .bl true)) :
    codeAny (model P w) callerA (.call (.ref fa) ⟨[.ref a], []⟩)
      (fun r s' => r = .ok (.ret (.bool true)) ∧ OldK t0.heap s'.heap ∧ s'.os = t0.os ∧ AllBare s'.gens) t0 := by
  have rv := vals_ints hi
  have lenV := hi.length
  have core : ∀ H : Hp, Only H → SqL K H a (ns.map V.int) → HOk P w H t0.heap → (∀ b, H b ≠ none → b = a) → (H a ≠ none → K.lookup a = none) →
      codeAny (model P w) callerA (.call (.ref fa) ⟨[.ref a], []⟩)
        (fun r s' => r = .ok (.ret (.bool true)) ∧ OldK t0.heap s'.heap ∧ s'.os = t0.os ∧ AllBare s'.gens) t0 := by
    intro H hO hS hok hA hK
    have noA : ∀ {b : Addr} {o : Obj} {es : Array DictEntry} {ep : Nat}, t0.heap.get? b = some o → o.data = .dict es ep → H b = none := by
      intro b o es ep e d
      cases q : H b with
      | none => rfl
      | some u =>
        have e' : b = a := hA b (by rw [q]; simp)
        subst e'
        rw [ha] at e
        cases e
        have d' : Data.seq vs.toArray _ = Data.dict es ep := d
        cases d'
    have nsK : ∀ {b : Addr} {m : Str → Option Value}, t0.heap.Ns b m → (hidT t0.heap H).Ns b m := by
      rintro b m ⟨o, es, ep, e, d, r⟩
      exact ⟨o, es, ep, hidT_get e (noA e d), d, r⟩
    have hKb : K.In (hidT t0.heap H) := by
      intro b o e
      refine hidT_get (KX b o e) ?_
      cases q : H b with
      | none => rfl
      | some u =>
        have e' : b = a := hA b (by rw [q]; simp)
        subst e'
        rw [hK (by rw [q]; simp)] at e
        cases e
    have hM : Mod K mg (hidT t0.heap H) := by
      refine ⟨hKb, nsK hns, ⟨mb, nsK hb, hbb⟩, ?_⟩
      obtain ⟨mc, h1, h2⟩ := hlim
      exact ⟨mc, nsK h1, h2⟩
    have e0 : Env0 P w K mg (hidT t0.heap H) callerA [] t0 H :=
      ⟨rfl, hM, fun b o e => of_hidT e, Nat.le_of_eq (hidT_size _ _), trivial, fun b hb => absurd (show b ∈ ([] : List Addr) from hb) (by simp), hok, .of_eq hg⟩
    refine codeAny_mono ((F _ hKb (nsK hns)).run callerA [] t0 H ⟨[.ref a], []⟩ [.ref a] [.ref a] _ hr e0 (hbind t0 (.ref a)) (.cons rfl .nil) (hsp H hO hS)) ?_
    intro r s' h
    cases r with
    | error e => exact False.elim h
    | ok fl =>
      cases fl with
      | next => exact False.elim h
      | brk => exact False.elim h
      | cont => exact False.elim h
      | ret u =>
        obtain ⟨v, H', os, bare, un, hok', r', q⟩ := h
        have q' : v = .bl true := q
        subst q'
        obtain rfl : u = Value.bool true := r'
        refine ⟨rfl, OldK.of_keep fun b o e => ?_, os, bare⟩
        cases q : H b with
        | none => exact un.keep b o e q (fun z => absurd (show b ∈ ([] : List Addr) from z) (by simp)) (by simp)
        | some u =>
          rcases hO b with z | ⟨ob, xs, z⟩
          · rw [q] at z
            cases z
          · have z2 := un.frzs b ob _ z
            have e1 := (hok b _ z).1
            have e2 := (hok' b _ z2).1
            rw [e] at e1
            cases e1
            exact e2
  cases hk : K.lookup a with
  | some o =>
    have e := KX a o hk
    rw [ha] at e
    cases e
    refine core (fun _ => none) (fun _ => .inl rfl) (.inr ⟨_, vs.toArray, _, hk, rfl, rfl, rfl, ?_, by simpa using rv⟩) ?_ (fun b z => absurd rfl z) (fun z => absurd rfl z)
    · rw [List.size_toArray, lenV]
      exact hl
    · intro b u z
      have z' : (none : Option HO) = some u := z
      cases z'
  | none =>
    refine core (fun b => if b = a then some (.frz { cls := .type "list", data := .seq vs.toArray } (.lst (ns.map V.int))) else none)
      (fun b => ?_) (.inl (.inr ⟨{ cls := .type "list", data := .seq vs.toArray }, if_pos rfl⟩)) (fun b u z => ?_) (fun b z => ?_) (fun _ => hk)
    · by_cases hb : b = a
      · exact .inr ⟨_, _, if_pos hb⟩
      · exact .inl (if_neg hb)
    · by_cases hb : b = a
      · have z' := (if_pos hb).symm.trans z
        cases z'
        subst hb
        refine ⟨ha, ?_, vs, _, rv, ha⟩
        rw [List.length_map]
        exact hl
      · have z' := (if_neg hb).symm.trans z
        cases z'
    · by_cases hb : b = a
      · exact hb
      · exact absurd (if_neg hb) z

/-- the head's goal from the law's promise -/
theorem walkG {l : PySem.W.OpenLaw} {n k : Nat} {q : Program} {loose : List Str} {XP : (Str → Option Value) → Heap → Prop} {YP : World → Heap → Prop} {d : DefRec} {x : Str}
    (hn : l.most = some n) (hn2 : n ≤ sizeLine) (hdf : d.params.defaults = []) (hr : Rm k callerA)
    (F : ∀ (w : World) (mg : Str → Option Value) (fa : Addr) (h : Heap), YP w h → h.Ns mainGlobals mg → mg d.name = some (.ref fa) →
      ∃ (K : PySem.W.Frag) (fd : FuncData) (sp : Pm), K.In h ∧ (∀ (s : Shared) (u : Value), BindsTo s fd ⟨[u], []⟩ [(x, u)]) ∧
        (∀ (H : Hp) (a : Addr) (ns : List Int), ns.length ≤ n → (∀ z ∈ ns, Builtin.Int.intBits z ≤ 1048576) → Only H →
          SqL K H a (ns.map V.int) → sp [.ref a] H (fun v _ => v = .bl true)) ∧
        ∀ base : Heap, K.In base → base.Ns mainGlobals mg → FnG l.prog w K mg base k fa fd [x] sp) :
    PySem.W.WalkO q loose XP YP l.row.toRowW d [] (fun f vs => PySem.call f vs) := by
  refine Att.attach_callB hn hdf ?_
  intro w t0 t1 mg mb fa o pm cd doc a vs ns G Y ho hd hcd hmg hobj hints hlen hbits hg
  obtain ⟨K, fd, sp, KX, hb, hsp, hF⟩ := F w mg fa _ Y G.T.g hmg
  exact law_callG KX G.T.g G.T.b G.T.builtins G.T.nolimit hg hobj hints (Nat.le_trans hlen hn2) hr hF hb fun H hO hS => hsp H a ns hlen hbits hO hS
end EV

/-! EvB: data, stores, and how they lie in the abstract heap. -/
namespace EV
open PySem PySem.Spec PyProof.Rows L2

abbrev D := PyData
/-- a value: data that never changes, an object of the store, the object that a slot owns, a list that is only walked (the script) -/
inductive X where
  | d (x : D) | l (n : Nat) | o (i : Nat) | k (ds : List D)
/-- an object that may change -/
inductive Ob where
  | lst (xs : List X) | dic (kvs : List (Key × X))
inductive Slot where
  | no | v (x : X) | own (b : Ob)
abbrev Lo := List Slot
abbrev Sto := List Ob

def keyD : D → Option Key
  | .int i => some (.inl i)
  | .str s => some (.inr s)
  | _ => none
def dKey : Key → D
  | .inl i => .int i
  | .inr s => .str s
theorem keyD_dKey (k : Key) : keyD (dKey k) = some k := by cases k <;> rfl
theorem dKey_keyD {d : D} {k : Key} (h : keyD d = some k) : d = dKey k := by
  cases d with
  | int i => cases h; rfl
  | str s => cases h; rfl
  | _ => cases h

mutual
/-- data as a value, by what never changes -/
def RV (K : PySem.W.Frag) (I : Hp) : D → V → Prop
  | .none, v => v = .non
  | .bool b, v => v = .bl b
  | .int i, v => v = .int i
  | .str s, v => v = .str s
  | .list ds, v => ∃ a vs, v = .ref a ∧ I a = some (.lst vs) ∧ RVs K I ds vs
  | .tuple ds, v => ∃ a vs, v = .ref a ∧ SqT K I a vs ∧ RVs K I ds vs
  | .dict kvs, v => ∃ a ws, v = .ref a ∧ Rd I a (.dK ws) ∧ RKs K I kvs ws
def RVs (K : PySem.W.Frag) (I : Hp) : List D → List V → Prop
  | [], vs => vs = []
  | d :: ds, vs => ∃ v r, vs = v :: r ∧ RV K I d v ∧ RVs K I ds r
def RKs (K : PySem.W.Frag) (I : Hp) : List (D × D) → List (Key × V) → Prop
  | [], ws => ws = []
  | (k, d) :: ds, ws => ∃ y v r, ws = (y, v) :: r ∧ keyD k = some y ∧ RV K I d v ∧ RKs K I ds r
end

def Le (I J : Hp) : Prop := ∀ a u, I a = some u → J a = some u
theorem Le.refl (I : Hp) : Le I I := fun _ _ h => h
theorem Le.trans {I J L : Hp} (h : Le I J) (k : Le J L) : Le I L := fun a u e => k a u (h a u e)
theorem Le.rd {I J : Hp} (h : Le I J) {a : Addr} {u : HO} (r : Rd I a u) : Rd J a u := by
  rcases r with r | ⟨o, r⟩
  · exact .inl (h _ _ r)
  · exact .inr ⟨o, h _ _ r⟩
theorem Le.sqL {K : PySem.W.Frag} {I J : Hp} (h : Le I J) {a : Addr} {xs : List V} (r : SqL K I a xs) : SqL K J a xs := by
  rcases r with r | r
  · exact .inl (h.rd r)
  · exact .inr r
theorem Le.sqT {K : PySem.W.Frag} {I J : Hp} (h : Le I J) {a : Addr} {xs : List V} (r : SqT K I a xs) : SqT K J a xs := by
  rcases r with r | r
  · exact .inl (h.rd r)
  · exact .inr r

def dicz : HO → Bool
  | .dK _ => true
  | _ => false
/-- what is frozen stands in the heap; a dict may be locked there -/
def Fz (I H : Hp) : Prop := ∀ a u, I a = some u → H a = some u ∨ (dicz u = true ∧ ∃ o, H a = some (.frz o u))
theorem Fz.rd {I H : Hp} (h : Fz I H) {a : Addr} {u : HO} (r : Rd I a u) : Rd H a u := by
  rcases r with r | ⟨o, r⟩
  · rcases h _ _ r with q | ⟨_, o, q⟩
    · exact .inl q
    · exact .inr ⟨o, q⟩
  · rcases h _ _ r with q | ⟨z, _⟩
    · exact .inr ⟨o, q⟩
    · cases z
theorem Fz.lst {I H : Hp} (h : Fz I H) {a : Addr} {xs : List V} (r : I a = some (.lst xs)) : H a = some (.lst xs) := by
  rcases h _ _ r with q | ⟨z, _⟩
  · exact q
  · cases z
theorem Fz.some {I H : Hp} (h : Fz I H) {a : Addr} {u : HO} (r : I a = some u) : H a ≠ none := by
  rcases h _ _ r with q | ⟨_, o, q⟩ <;> rw [q] <;> simp
theorem Fz.none {I H : Hp} (h : Fz I H) {a : Addr} (r : H a = none) : I a = none := by
  cases e : I a with
  | none => rfl
  | some u => exact absurd r (h.some e)
theorem Fz.sqL {K : PySem.W.Frag} {I H : Hp} (h : Fz I H) {a : Addr} {xs : List V} (r : SqL K I a xs) : SqL K H a xs := by
  rcases r with r | r
  · exact .inl (h.rd r)
  · exact .inr r
theorem Fz.sqT {K : PySem.W.Frag} {I H : Hp} (h : Fz I H) {a : Addr} {xs : List V} (r : SqT K I a xs) : SqT K H a xs := by
  rcases r with r | r
  · exact .inl (h.rd r)
  · exact .inr r

section
variable {K : PySem.W.Frag} {I J : Hp}
mutual
theorem RV.mono (h : Le I J) : ∀ (d : D) (v : V), RV K I d v → RV K J d v
  | .none, v, r => r
  | .bool b, v, r => r
  | .int i, v, r => r
  | .str s, v, r => r
  | .list ds, v, r => by
    simp only [RV] at r ⊢
    obtain ⟨a, vs, e, q, t⟩ := r
    exact ⟨a, vs, e, h _ _ q, RVs.mono h ds vs t⟩
  | .tuple ds, v, r => by
    simp only [RV] at r ⊢
    obtain ⟨a, vs, e, q, t⟩ := r
    exact ⟨a, vs, e, h.sqT q, RVs.mono h ds vs t⟩
  | .dict kvs, v, r => by
    simp only [RV] at r ⊢
    obtain ⟨a, vs, e, q, t⟩ := r
    exact ⟨a, vs, e, h.rd q, RKs.mono h kvs vs t⟩
theorem RVs.mono (h : Le I J) : ∀ (ds : List D) (vs : List V), RVs K I ds vs → RVs K J ds vs
  | [], _, r => r
  | d :: ds, vs, r => by
    simp only [RVs] at r ⊢
    obtain ⟨v, t, e, q, z⟩ := r
    exact ⟨v, t, e, RV.mono h d v q, RVs.mono h ds t z⟩
theorem RKs.mono (h : Le I J) : ∀ (kvs : List (D × D)) (ws : List (Key × V)), RKs K I kvs ws → RKs K J kvs ws
  | [], _, r => r
  | (k, d) :: ds, ws, r => by
    simp only [RKs] at r ⊢
    obtain ⟨y, v, t, e, ky, q, z⟩ := r
    exact ⟨y, v, t, e, ky, RV.mono h d v q, RKs.mono h ds t z⟩
end
theorem RVs.length : ∀ {ds : List D} {vs : List V}, RVs K I ds vs → vs.length = ds.length
  | [], _, r => by
    simp only [RVs] at r
    rw [r]
    rfl
  | d :: ds, vs, r => by
    simp only [RVs] at r
    obtain ⟨v, t, e, _, z⟩ := r
    rw [e, List.length_cons, List.length_cons, RVs.length z]
theorem RVs.get : ∀ {ds : List D} {vs : List V} {i : Nat} {d : D}, RVs K I ds vs → ds[i]? = some d → ∃ v, vs[i]? = some v ∧ RV K I d v
  | [], _, i, d, _, h => by simp at h
  | x :: ds, vs, i, d, r, h => by
    simp only [RVs] at r
    obtain ⟨v, t, e, q, z⟩ := r
    subst e
    cases i with
    | zero =>
      simp at h
      subst h
      exact ⟨v, rfl, q⟩
    | succ i => exact RVs.get (i := i) z (by simpa using h)
theorem RVs.app : ∀ {ds es : List D} {vs ws : List V}, RVs K I ds vs → RVs K I es ws → RVs K I (ds ++ es) (vs ++ ws)
  | [], es, vs, ws, r, q => by
    simp only [RVs] at r
    subst r
    exact q
  | d :: ds, es, vs, ws, r, q => by
    simp only [RVs, List.cons_append] at r ⊢
    obtain ⟨v, t, e, z, y⟩ := r
    subst e
    exact ⟨v, t ++ ws, rfl, z, RVs.app y q⟩
theorem RVs.take : ∀ (n : Nat) {ds : List D} {vs : List V}, RVs K I ds vs → RVs K I (ds.take n) (vs.take n)
  | 0, ds, vs, r => by simp [RVs]
  | n + 1, [], vs, r => by
    simp only [RVs] at r
    subst r
    simp [RVs]
  | n + 1, d :: ds, vs, r => by
    simp only [RVs] at r
    obtain ⟨v, t, e, z, y⟩ := r
    subst e
    simp only [List.take_succ_cons, RVs]
    exact ⟨v, t.take n, rfl, z, RVs.take n y⟩
theorem RVs.drop : ∀ (n : Nat) {ds : List D} {vs : List V}, RVs K I ds vs → RVs K I (ds.drop n) (vs.drop n)
  | 0, ds, vs, r => by simpa using r
  | n + 1, [], vs, r => by
    simp only [RVs] at r
    subst r
    simp [RVs]
  | n + 1, d :: ds, vs, r => by
    simp only [RVs] at r
    obtain ⟨v, t, e, z, y⟩ := r
    subst e
    simp only [List.drop_succ_cons]
    exact RVs.drop n y
theorem RVs.rep {ds : List D} {vs : List V} (r : RVs K I ds vs) : ∀ n : Nat, RVs K I (List.replicate n ds).flatten (List.replicate n vs).flatten
  | 0 => by simp [RVs]
  | n + 1 => by
    simp only [List.replicate_succ, List.flatten_cons]
    exact r.app (RVs.rep r n)
theorem RVs.rev : ∀ {ds : List D} {vs : List V}, RVs K I ds vs → RVs K I ds.reverse vs.reverse
  | [], vs, r => by
    simp only [RVs] at r
    subst r
    simp [RVs]
  | d :: ds, vs, r => by
    simp only [RVs] at r
    obtain ⟨v, t, e, z, y⟩ := r
    subst e
    simp only [List.reverse_cons]
    exact (RVs.rev y).app (by simp only [RVs]; exact ⟨v, [], rfl, z, rfl⟩)
theorem RVs.ints : ∀ (ns : List Int), RVs K I (ns.map PyData.int) (ns.map V.int)
  | [] => rfl
  | n :: ns => by
    simp only [List.map_cons, RVs]
    exact ⟨_, _, rfl, rfl, RVs.ints ns⟩
mutual
/-- no dict within: the library's own reading of data -/
theorem RV.dp {H : Hp} (h : Fz I H) : ∀ (d : D) (v : V), d.hasDict = false → RV K I d v → Dp K H v d
  | .none, v, _, r => by
    simp only [RV] at r
    rw [r]
    exact .non
  | .bool b, v, _, r => by
    simp only [RV] at r
    rw [r]
    exact .bl b
  | .int i, v, _, r => by
    simp only [RV] at r
    rw [r]
    exact .int i
  | .str s, v, _, r => by
    simp only [RV] at r
    rw [r]
    exact .str s
  | .list ds, v, c, r => by
    simp only [RV] at r
    obtain ⟨a, vs, e, q, t⟩ := r
    rw [e]
    exact .lst (.inl (.inl (h.lst q))) (RVs.dp h ds vs (by simpa [PyData.hasDict] using c) t)
  | .tuple ds, v, c, r => by
    simp only [RV] at r
    obtain ⟨a, vs, e, q, t⟩ := r
    rw [e]
    exact .tup (h.sqT q) (RVs.dp h ds vs (by simpa [PyData.hasDict] using c) t)
  | .dict kvs, v, c, r => by simp [PyData.hasDict] at c
theorem RVs.dp {H : Hp} (h : Fz I H) : ∀ (ds : List D) (vs : List V), PyData.hasDictAll ds = false → RVs K I ds vs → DpAll K H vs ds
  | [], vs, _, r => by
    simp only [RVs] at r
    rw [r]
    exact .nil
  | d :: ds, vs, c, r => by
    simp only [RVs] at r
    obtain ⟨v, t, e, q, z⟩ := r
    rw [e]
    have c' : d.hasDict = false ∧ PyData.hasDictAll ds = false := by simpa [PyData.hasDictAll] using c
    exact .cons (RV.dp h d v c'.1 q) (RVs.dp h ds t c'.2 z)
end
end

/-- an element of an object -/
def RE (K : PySem.W.Frag) (I : Hp) (m : List Addr) : X → V → Prop
  | .d d, v => RV K I d v
  | .l n, v => ∃ a, m[n]? = some a ∧ v = .ref a
  | .o _, _ => False
  | .k ds, v => ∃ a vs, v = .ref a ∧ SqL K I a vs ∧ RVs K I ds vs
def RX (K : PySem.W.Frag) (I : Hp) (m : List Addr) (σ : L2.St) : X → V → Prop
  | .d d, v => RV K I d v
  | .l n, v => ∃ a, m[n]? = some a ∧ v = .ref a
  | .o i, v => σ[i]? = some (some v)
  | .k ds, v => ∃ a vs, v = .ref a ∧ SqL K I a vs ∧ RVs K I ds vs
def REs (K : PySem.W.Frag) (I : Hp) (m : List Addr) : List X → List V → Prop
  | [], vs => vs = []
  | x :: xs, vs => ∃ v r, vs = v :: r ∧ RE K I m x v ∧ REs K I m xs r
def REk (K : PySem.W.Frag) (I : Hp) (m : List Addr) : List (Key × X) → List (Key × V) → Prop
  | [], ws => ws = []
  | p :: r, ws => ∃ v t, ws = (p.1, v) :: t ∧ RE K I m p.2 v ∧ REk K I m r t
def RO (K : PySem.W.Frag) (I : Hp) (m : List Addr) : Ob → HO → Prop
  | .lst xs, o => ∃ vs, o = .lst vs ∧ REs K I m xs vs
  | .dic kvs, o => ∃ ws, o = .dK ws ∧ REk K I m kvs ws
def RXs (K : PySem.W.Frag) (I : Hp) (m : List Addr) (σ : L2.St) : List X → List V → Prop
  | [], vs => vs = []
  | x :: xs, vs => ∃ v r, vs = v :: r ∧ RX K I m σ x v ∧ RXs K I m σ xs r

section
variable {K : PySem.W.Frag} {I J : Hp} {m n : List Addr} {σ : L2.St}
theorem pre_get {m n : List Addr} (p : m <+: n) {i : Nat} {a : Addr} (h : m[i]? = some a) : n[i]? = some a := by
  obtain ⟨t, rfl⟩ := p
  rw [List.getElem?_append_left (List.getElem?_eq_some_iff.mp h).1]
  exact h
theorem RE.mono (h : Le I J) (p : m <+: n) {x : X} {v : V} (r : RE K I m x v) : RE K J n x v := by
  cases x with
  | d d => exact RV.mono h d v r
  | l i =>
    obtain ⟨a, e, q⟩ := r
    exact ⟨a, pre_get p e, q⟩
  | o i => exact r
  | k ds =>
    obtain ⟨a, vs, e, q, t⟩ := r
    exact ⟨a, vs, e, h.sqL q, RVs.mono h ds vs t⟩
theorem RX.mono (h : Le I J) (p : m <+: n) {x : X} {v : V} (r : RX K I m σ x v) : RX K J n σ x v := by
  cases x with
  | d d => exact RV.mono h d v r
  | l i =>
    obtain ⟨a, e, q⟩ := r
    exact ⟨a, pre_get p e, q⟩
  | o i => exact r
  | k ds =>
    obtain ⟨a, vs, e, q, t⟩ := r
    exact ⟨a, vs, e, h.sqL q, RVs.mono h ds vs t⟩
theorem RE.rx {x : X} {v : V} (r : RE K I m x v) : RX K I m σ x v := by
  cases x with
  | d d => exact r
  | l i => exact r
  | o i => exact r.elim
  | k ds => exact r
theorem REs.mono (h : Le I J) (p : m <+: n) : ∀ {xs : List X} {vs : List V}, REs K I m xs vs → REs K J n xs vs
  | [], _, r => r
  | _ :: _, _, ⟨v, t, e, q, z⟩ => ⟨v, t, e, q.mono h p, z.mono h p⟩
theorem REk.mono (h : Le I J) (p : m <+: n) : ∀ {xs : List (Key × X)} {vs : List (Key × V)}, REk K I m xs vs → REk K J n xs vs
  | [], _, r => r
  | _ :: _, _, ⟨v, t, e, q, z⟩ => ⟨v, t, e, q.mono h p, z.mono h p⟩
theorem RXs.mono (h : Le I J) (p : m <+: n) : ∀ {xs : List X} {vs : List V}, RXs K I m σ xs vs → RXs K J n σ xs vs
  | [], _, r => r
  | _ :: _, _, ⟨v, t, e, q, z⟩ => ⟨v, t, e, q.mono h p, z.mono h p⟩
theorem RO.mono (h : Le I J) (p : m <+: n) {b : Ob} {o : HO} (r : RO K I m b o) : RO K J n b o := by
  cases b with
  | lst xs =>
    obtain ⟨vs, e, q⟩ := r
    exact ⟨vs, e, q.mono h p⟩
  | dic kvs =>
    obtain ⟨vs, e, q⟩ := r
    exact ⟨vs, e, q.mono h p⟩
theorem REs.length : ∀ {xs : List X} {vs : List V}, REs K I m xs vs → vs.length = xs.length
  | [], _, r => by
    have r' : _ = [] := r
    rw [r']
    rfl
  | _ :: _, _, ⟨v, t, e, q, z⟩ => by rw [e, List.length_cons, List.length_cons, z.length]
theorem REs.get : ∀ {xs : List X} {vs : List V} {i : Nat} {x : X}, REs K I m xs vs → xs[i]? = some x → ∃ v, vs[i]? = some v ∧ RE K I m x v
  | [], _, i, d, _, h => by simp at h
  | y :: xs, vs, i, x, ⟨v, t, e, q, z⟩, h => by
    subst e
    cases i with
    | zero =>
      simp at h
      subst h
      exact ⟨v, rfl, q⟩
    | succ i => exact REs.get (i := i) z (by simpa using h)
theorem REs.app : ∀ {xs ys : List X} {vs ws : List V}, REs K I m xs vs → REs K I m ys ws → REs K I m (xs ++ ys) (vs ++ ws)
  | [], es, vs, ws, r, q => by
    have r' : vs = [] := r
    subst r'
    exact q
  | _ :: _, es, vs, ws, ⟨v, t, e, z, y⟩, q => by
    subst e
    exact ⟨v, t ++ ws, rfl, z, y.app q⟩
theorem REs.set : ∀ {xs : List X} {vs : List V} {i : Nat} {x : X} {v : V}, REs K I m xs vs → RE K I m x v → REs K I m (xs.set i x) (vs.set i v)
  | [], vs, i, x, v, r, q => by
    have r' : vs = [] := r
    subst r'
    simp [REs]
  | y :: xs, vs, 0, x, v, ⟨u, t, e, z, w⟩, q => by
    subst e
    exact ⟨v, t, rfl, q, w⟩
  | y :: xs, vs, i + 1, x, v, ⟨u, t, e, z, w⟩, q => by
    subst e
    exact ⟨u, t.set i v, rfl, z, w.set q⟩
theorem REs.erase : ∀ {xs : List X} {vs : List V} (i : Nat), REs K I m xs vs → REs K I m (xs.eraseIdx i) (vs.eraseIdx i)
  | [], vs, i, r => by
    have r' : vs = [] := r
    subst r'
    simp [REs]
  | y :: xs, vs, 0, ⟨u, t, e, z, w⟩ => by
    subst e
    exact w
  | y :: xs, vs, i + 1, ⟨u, t, e, z, w⟩ => by
    subst e
    exact ⟨u, t.eraseIdx i, rfl, z, w.erase i⟩
theorem REs.dropLast : ∀ {xs : List X} {vs : List V}, REs K I m xs vs → REs K I m xs.dropLast vs.dropLast
  | [], vs, r => by
    have r' : vs = [] := r
    subst r'
    simp [REs]
  | [y], vs, ⟨u, t, e, z, w⟩ => by
    have w' : t = [] := w
    subst e w'
    simp [REs]
  | y :: y2 :: xs, vs, ⟨u, t, e, z, w⟩ => by
    subst e
    have h2 := w.dropLast
    obtain ⟨u2, t2, e2, z2, w2⟩ := w
    subst e2
    exact ⟨u, _, rfl, z, h2⟩
theorem REs.rev : ∀ {xs : List X} {vs : List V}, REs K I m xs vs → REs K I m xs.reverse vs.reverse
  | [], vs, r => by
    have r' : vs = [] := r
    subst r'
    simp [REs]
  | y :: xs, vs, ⟨u, t, e, z, w⟩ => by
    subst e
    simp only [List.reverse_cons]
    exact w.rev.app ⟨u, [], rfl, z, rfl⟩
theorem REs.ofD : ∀ {ds : List D} {vs : List V}, RVs K I ds vs → REs K I m (ds.map X.d) vs
  | [], _, r => by
    simp only [RVs] at r
    exact r
  | _ :: _, _, r => by
    simp only [RVs] at r
    obtain ⟨v, t, e, q, z⟩ := r
    exact ⟨v, t, e, q, REs.ofD z⟩
theorem REs.toD : ∀ {ds : List D} {vs : List V}, REs K I m (ds.map X.d) vs → RVs K I ds vs
  | [], _, r => by
    simp only [RVs]
    exact r
  | _ :: _, _, ⟨v, t, e, q, z⟩ => by
    simp only [RVs]
    exact ⟨v, t, e, q, REs.toD z⟩
theorem REk.length : ∀ {xs : List (Key × X)} {vs : List (Key × V)}, REk K I m xs vs → vs.length = xs.length
  | [], _, r => by
    have r' : _ = [] := r
    rw [r']
    rfl
  | _ :: _, _, ⟨v, t, e, q, z⟩ => by rw [e, List.length_cons, List.length_cons, z.length]
end
end EV

/-! EvC: the relation between the evaluator's state and the abstract heap. -/
namespace EV
open PySem PySem.Spec PyProof.Rows L2

/-- the entry of the def that runs -/
structure Bs where
  H : Hp
  I : Hp
  m : List Addr

structure SR (K : PySem.W.Frag) (B : Bs) (L : List Addr) (I : Hp) (m : List Addr) (env : Lo) (st : Sto) (σ : L2.St) (H : Hp) : Prop where
  el : env.length = σ.length
  fz : Fz I H
  nod : m.Nodup
  len : m.length = st.length
  sto : ∀ (n : Nat) (b : Ob), st[n]? = some b → ∃ (a : Addr) (o : HO), m[n]? = some a ∧ H a = some o ∧ RO K I m b o
  mI : ∀ a ∈ m, I a = none
  val : ∀ (i : Nat) (x : X), env[i]? = some (.v x) → ∃ v : V, σ[i]? = some (some v) ∧ RE K I m x v
  own : ∀ (i : Nat) (b : Ob), env[i]? = some (.own b) → ∃ (a : Addr) (o : HO), σ[i]? = some (some (.ref a)) ∧ H a = some o ∧ RO K I m b o ∧ I a = none ∧ a ∉ m ∧ B.H a = none
  inj : ∀ (i j : Nat) (b c : Ob) (a : Addr), env[i]? = some (.own b) → env[j]? = some (.own c) → σ[i]? = some (some (.ref a)) → σ[j]? = some (some (.ref a)) → i = j
  bI : ∀ a, B.H a ≠ none → I a = B.I a
  bm : ∀ a ∈ m, a ∈ B.m ∨ B.H a = none
  bk : ∀ a o, B.H a = some o → a ∉ B.m → H a = some o ∨ (a ∈ L ∧ dicz o = true ∧ ∃ ob, H a = some (.frz ob o))
  bp : B.m <+: m
  bf : Fz B.I B.H
  bmI : ∀ a ∈ B.m, B.H a ≠ none

theorem upd_get {H : Hp} {p a : Addr} {o : HO} {u : HO} (h : upd H p o a = some u) : (a = p ∧ u = o) ∨ (a ≠ p ∧ H a = some u) := by
  by_cases e : a = p
  · rw [e, upd_same] at h
    cases h
    exact .inl ⟨e, rfl⟩
  · rw [upd_ne e] at h
    exact .inr ⟨e, h⟩
theorem set_get {α : Type} {l : List α} {i j : Nat} {x y : α} (h : (l.set i x)[j]? = some y) : (j = i ∧ y = x ∧ i < l.length) ∨ (j ≠ i ∧ l[j]? = some y) := by
  by_cases e : i = j
  · subst e
    by_cases q : i < l.length
    · rw [List.getElem?_set_self q] at h
      exact .inl ⟨rfl, (Option.some.inj h).symm, q⟩
    · rw [List.getElem?_eq_none (by simpa using q)] at h
      cases h
  · rw [List.getElem?_set_ne e] at h
    exact .inr ⟨fun z => e z.symm, h⟩

section
variable {K : PySem.W.Frag} {B : Bs} {L : List Addr} {I : Hp} {m : List Addr} {env : Lo} {st : Sto} {σ : L2.St} {H : Hp}
theorem SR.memH (S : SR K B L I m env st σ H) {a : Addr} (h : a ∈ m) : ∃ (n : Nat) (b : Ob) (o : HO), m[n]? = some a ∧ st[n]? = some b ∧ H a = some o ∧ RO K I m b o := by
  obtain ⟨n, hn⟩ := List.mem_iff_getElem?.mp h
  have hl : n < st.length := by
    rw [← S.len]
    exact (List.getElem?_eq_some_iff.mp hn).1
  obtain ⟨a', o, e1, e2, e3⟩ := S.sto n st[n] (List.getElem?_eq_getElem hl)
  rw [hn] at e1
  cases e1
  exact ⟨n, _, o, hn, List.getElem?_eq_getElem hl, e2, e3⟩
theorem SR.memS (S : SR K B L I m env st σ H) {a : Addr} (h : a ∈ m) : H a ≠ none := by
  obtain ⟨_, _, o, _, _, e, _⟩ := S.memH h
  rw [e]
  simp
theorem SR.dom (S : SR K B L I m env st σ H) {a : Addr} (h : B.H a ≠ none) : H a ≠ none := by
  by_cases hm : a ∈ B.m
  · obtain ⟨t, e⟩ := S.bp
    exact S.memS (by rw [← e]; exact List.mem_append_left _ hm)
  · cases e : B.H a with
    | none => exact absurd e h
    | some o => rcases S.bk a o e hm with q | ⟨_, _, ob, q⟩ <;> rw [q] <;> simp
theorem SR.bfree (S : SR K B L I m env st σ H) {a : Addr} (h : H a = none) : B.H a = none := by
  cases e : B.H a with
  | none => rfl
  | some o => exact absurd h (S.dom (by rw [e]; simp))
theorem SR.le (S : SR K B L I m env st σ H) : Le B.I I := fun a u h => by
  rw [S.bI a (S.bf.some h)]
  exact h

/-- the store's n-th object -/
theorem SR.at (S : SR K B L I m env st σ H) {n : Nat} {b : Ob} {a : Addr} (h : st[n]? = some b) (ha : m[n]? = some a) : ∃ o, H a = some o ∧ RO K I m b o := by
  obtain ⟨a', o, e1, e2, e3⟩ := S.sto n b h
  rw [ha] at e1
  cases e1
  exact ⟨o, e2, e3⟩

/-! ### a new object, not yet anyone's -/
structure Fr (K : PySem.W.Frag) (B : Bs) (L : List Addr) (I : Hp) (m : List Addr) (env : Lo) (st : Sto) (σ : L2.St) (H : Hp) (p : Addr) (o : HO) : Prop where
  sr : SR K B L I m env st σ H
  at_ : H p = some o
  iN : I p = none
  mN : p ∉ m
  bN : B.H p = none
  oN : ∀ (i : Nat) (b : Ob), env[i]? = some (.own b) → σ[i]? ≠ some (some (.ref p))

/-- any change at an address that is nobody's -/
theorem SR.touch (S : SR K B L I m env st σ H) {p : Addr} {o : HO} (iN : I p = none) (mN : p ∉ m) (bN : B.H p = none) (oN : ∀ (i : Nat) (b : Ob), env[i]? = some (.own b) → σ[i]? ≠ some (some (.ref p))) :
    SR K B L I m env st σ (upd H p o) where
  el := S.el
  fz := fun a u h => by
    have : a ≠ p := fun e => by rw [e, iN] at h; cases h
    rw [upd_ne this]
    exact S.fz a u h
  nod := S.nod
  len := S.len
  sto := fun n b h => by
    obtain ⟨a, o', e1, e2, e3⟩ := S.sto n b h
    refine ⟨a, o', e1, ?_, e3⟩
    rw [upd_ne (fun e => mN (by rw [← e]; exact List.mem_of_getElem? e1))]
    exact e2
  mI := S.mI
  val := S.val
  own := fun i b h => by
    obtain ⟨a, o', e1, e2, r⟩ := S.own i b h
    refine ⟨a, o', e1, ?_, r⟩
    rw [upd_ne (fun e => oN i b h (by rw [← e]; exact e1))]
    exact e2
  inj := S.inj
  bI := S.bI
  bm := S.bm
  bk := fun a o' h hm => by
    rw [upd_ne (fun e => by rw [e, bN] at h; cases h)]
    exact S.bk a o' h hm
  bp := S.bp
  bf := S.bf
  bmI := S.bmI
theorem SR.alloc (S : SR K B L I m env st σ H) {p : Addr} (h : H p = none) (o : HO) : Fr K B L I m env st σ (upd H p o) p o := by
  have iN := S.fz.none h
  have mN : p ∉ m := fun q => S.memS q h
  have bN := S.bfree h
  have oN : ∀ (i : Nat) (b : Ob), env[i]? = some (.own b) → σ[i]? ≠ some (some (.ref p)) := fun i b q e => by
    obtain ⟨a, o', e1, e2, _⟩ := S.own i b q
    rw [e] at e1
    cases e1
    rw [h] at e2
    cases e2
  exact ⟨S.touch iN mN bN oN, upd_same, iN, mN, bN, oN⟩
theorem Fr.write {p : Addr} {o : HO} (F : Fr K B L I m env st σ H p o) (o' : HO) : Fr K B L I m env st σ (upd H p o') p o' :=
  ⟨F.sr.touch F.iN F.mN F.bN F.oN, upd_same, F.iN, F.mN, F.bN, F.oN⟩

/-- the new object is frozen -/
theorem le_upd {p : Addr} {o : HO} (h : I p = none) : Le I (upd I p o) := fun a u e => by
  rw [upd_ne (fun z => by rw [z, h] at e; cases e)]
  exact e
theorem Fr.freeze {p : Addr} {o : HO} (F : Fr K B L I m env st σ H p o) : SR K B L (upd I p o) m env st σ H := by
  have le : Le I (upd I p o) := le_upd F.iN
  have S := F.sr
  exact {
    el := S.el
    fz := fun a u h => by
      rcases upd_get h with ⟨e, e'⟩ | ⟨_, h'⟩
      · rw [e, e']
        exact .inl F.at_
      · exact S.fz a u h'
    nod := S.nod
    len := S.len
    sto := fun n b h => by
      obtain ⟨a, o', e1, e2, e3⟩ := S.sto n b h
      exact ⟨a, o', e1, e2, e3.mono le (List.prefix_refl _)⟩
    mI := fun a h => by
      rw [upd_ne (fun e => F.mN (by rw [← e]; exact h))]
      exact S.mI a h
    val := fun i x h => by
      obtain ⟨v, e, r⟩ := S.val i x h
      exact ⟨v, e, r.mono le (List.prefix_refl _)⟩
    own := fun i b h => by
      obtain ⟨a, o', e1, e2, e3, e4, e5, e6⟩ := S.own i b h
      refine ⟨a, o', e1, e2, e3.mono le (List.prefix_refl _), ?_, e5, e6⟩
      rw [upd_ne (fun e => F.oN i b h (by rw [← e]; exact e1))]
      exact e4
    inj := S.inj
    bI := fun a h => by
      rw [upd_ne (fun e => by rw [e, F.bN] at h; exact h rfl)]
      exact S.bI a h
    bm := S.bm
    bk := S.bk
    bp := S.bp
    bf := S.bf
    bmI := S.bmI }
/-- .. or put into the store -/
theorem Fr.push {p : Addr} {o : HO} {b : Ob} (F : Fr K B L I m env st σ H p o) (r : RO K I m b o) : SR K B L I (m ++ [p]) env (st ++ [b]) σ H := by
  have S := F.sr
  have pre : m <+: m ++ [p] := List.prefix_append _ _
  have le := Le.refl I
  exact {
    el := S.el
    fz := S.fz
    nod := by
      rw [List.nodup_append]
      refine ⟨S.nod, by simp, fun a h c hc => ?_⟩
      have hc' : c = p := by simpa using hc
      rw [hc']
      exact fun e => F.mN (by rw [← e]; exact h)
    len := by rw [List.length_append, List.length_append, S.len] <;> rfl
    sto := fun n b' h => by
      by_cases hn : n < st.length
      · rw [List.getElem?_append_left hn] at h
        obtain ⟨a, o', e1, e2, e3⟩ := S.sto n b' h
        exact ⟨a, o', pre_get pre e1, e2, e3.mono le pre⟩
      · rw [List.getElem?_append_right (by omega)] at h
        have hz : n - st.length = 0 := by
          have := (List.getElem?_eq_some_iff.mp h).1
          simp at this
          omega
        rw [hz] at h
        have h' : b = b' := by simpa using h
        subst h'
        refine ⟨p, o, ?_, F.at_, r.mono le pre⟩
        have : n = m.length := by rw [S.len]; omega
        rw [this, List.getElem?_append_right (Nat.le_refl _)]
        simp
    mI := fun a h => by
      rcases List.mem_append.mp h with q | q
      · exact S.mI a q
      · have q' : a = p := by simpa using q
        rw [q']
        exact F.iN
    val := fun i x h => by
      obtain ⟨v, e, q⟩ := S.val i x h
      exact ⟨v, e, q.mono le pre⟩
    own := fun i b' h => by
      obtain ⟨a, o', e1, e2, e3, e4, e5, e6⟩ := S.own i b' h
      refine ⟨a, o', e1, e2, e3.mono le pre, e4, ?_, e6⟩
      intro q
      rcases List.mem_append.mp q with q | q
      · exact e5 q
      · have q' : a = p := by simpa using q
        rw [q'] at e1
        exact F.oN i b' h e1
    inj := S.inj
    bI := S.bI
    bm := fun a h => by
      rcases List.mem_append.mp h with q | q
      · exact S.bm a q
      · have q' : a = p := by simpa using q
        rw [q']
        exact .inr F.bN
    bk := S.bk
    bp := S.bp.trans pre
    bf := S.bf
    bmI := S.bmI }

/-! ### slots -/
theorem SR.setV (S : SR K B L I m env st σ H) {i : Nat} {x : X} {v : V} (r : RE K I m x v) : SR K B L I m (env.set i (.v x)) st (σ.set i (some v)) H where
  el := by simp [S.el]
  fz := S.fz
  nod := S.nod
  len := S.len
  sto := S.sto
  mI := S.mI
  val := fun j y h => by
    rcases set_get h with ⟨e, e', hl⟩ | ⟨hn, h'⟩
    · cases e'
      subst e
      exact ⟨v, by rw [List.getElem?_set_self (by rw [← S.el]; exact hl)], r⟩
    · obtain ⟨u, e1, e2⟩ := S.val j y h'
      exact ⟨u, by rw [List.getElem?_set_ne (fun z => hn z.symm)]; exact e1, e2⟩
  own := fun j b h => by
    rcases set_get h with ⟨e, e', hl⟩ | ⟨hn, h'⟩
    · cases e'
    · obtain ⟨a, o, e1, e2⟩ := S.own j b h'
      exact ⟨a, o, by rw [List.getElem?_set_ne (fun z => hn z.symm)]; exact e1, e2⟩
  inj := fun j k b c a h1 h2 e1 e2 => by
    rcases set_get h1 with ⟨_, e', _⟩ | ⟨n1, h1'⟩
    · cases e'
    · rcases set_get h2 with ⟨_, e', _⟩ | ⟨n2, h2'⟩
      · cases e'
      · rw [List.getElem?_set_ne (fun z => n1 z.symm)] at e1
        rw [List.getElem?_set_ne (fun z => n2 z.symm)] at e2
        exact S.inj j k b c a h1' h2' e1 e2
  bI := S.bI
  bm := S.bm
  bk := S.bk
  bp := S.bp
  bf := S.bf
  bmI := S.bmI
/-- a slot is forgotten -/
theorem SR.clear (S : SR K B L I m env st σ H) {i : Nat} {w : Option V} : SR K B L I m (env.set i .no) st (σ.set i w) H where
  el := by simp [S.el]
  fz := S.fz
  nod := S.nod
  len := S.len
  sto := S.sto
  mI := S.mI
  val := fun j y h => by
    rcases set_get h with ⟨e, e', hl⟩ | ⟨hn, h'⟩
    · cases e'
    · obtain ⟨u, e1, e2⟩ := S.val j y h'
      exact ⟨u, by rw [List.getElem?_set_ne (fun z => hn z.symm)]; exact e1, e2⟩
  own := fun j b h => by
    rcases set_get h with ⟨e, e', hl⟩ | ⟨hn, h'⟩
    · cases e'
    · obtain ⟨a, o, e1, e2⟩ := S.own j b h'
      exact ⟨a, o, by rw [List.getElem?_set_ne (fun z => hn z.symm)]; exact e1, e2⟩
  inj := fun j k b c a h1 h2 e1 e2 => by
    rcases set_get h1 with ⟨_, e', _⟩ | ⟨n1, h1'⟩
    · cases e'
    · rcases set_get h2 with ⟨_, e', _⟩ | ⟨n2, h2'⟩
      · cases e'
      · rw [List.getElem?_set_ne (fun z => n1 z.symm)] at e1
        rw [List.getElem?_set_ne (fun z => n2 z.symm)] at e2
        exact S.inj j k b c a h1' h2' e1 e2
  bI := S.bI
  bm := S.bm
  bk := S.bk
  bp := S.bp
  bf := S.bf
  bmI := S.bmI
/-- the new object becomes a slot's own -/
theorem Fr.toOwn {p : Addr} {o : HO} {b : Ob} (F : Fr K B L I m env st σ H p o) (r : RO K I m b o) (i : Nat) : SR K B L I m (env.set i (.own b)) st (σ.set i (some (.ref p))) H := by
  have S := F.sr
  exact {
    el := by simp [S.el]
    fz := S.fz
    nod := S.nod
    len := S.len
    sto := S.sto
    mI := S.mI
    val := fun j y h => by
      rcases set_get h with ⟨e, e', hl⟩ | ⟨hn, h'⟩
      · cases e'
      · obtain ⟨u, e1, e2⟩ := S.val j y h'
        exact ⟨u, by rw [List.getElem?_set_ne (fun z => hn z.symm)]; exact e1, e2⟩
    own := fun j b' h => by
      rcases set_get h with ⟨e, e', hl⟩ | ⟨hn, h'⟩
      · cases e'
        subst e
        exact ⟨p, o, by rw [List.getElem?_set_self (by rw [← S.el]; exact hl)], F.at_, r, F.iN, F.mN, F.bN⟩
      · obtain ⟨a, o', e1, e2⟩ := S.own j b' h'
        exact ⟨a, o', by rw [List.getElem?_set_ne (fun z => hn z.symm)]; exact e1, e2⟩
    inj := fun j k b' c a h1 h2 e1 e2 => by
      rcases set_get h1 with ⟨q1, z1, l1⟩ | ⟨n1, h1'⟩
      · rcases set_get h2 with ⟨q2, z2, l2⟩ | ⟨n2, h2'⟩
        · rw [q1, q2]
        · subst q1
          rw [List.getElem?_set_self (by rw [← S.el]; exact l1)] at e1
          rw [List.getElem?_set_ne (fun z => n2 z.symm)] at e2
          cases e1
          exact absurd e2 (F.oN k c h2')
      · rcases set_get h2 with ⟨q2, z2, l2⟩ | ⟨n2, h2'⟩
        · subst q2
          rw [List.getElem?_set_self (by rw [← S.el]; exact l2)] at e2
          rw [List.getElem?_set_ne (fun z => n1 z.symm)] at e1
          cases e2
          exact absurd e1 (F.oN j b' h1')
        · rw [List.getElem?_set_ne (fun z => n1 z.symm)] at e1
          rw [List.getElem?_set_ne (fun z => n2 z.symm)] at e2
          exact S.inj j k b' c a h1' h2' e1 e2
    bI := S.bI
    bm := S.bm
    bk := S.bk
    bp := S.bp
    bf := S.bf
    bmI := S.bmI }
/-- the object that slot i owns, seen as nobody's: the slot then is forgotten -/
theorem SR.take (S : SR K B L I m env st σ H) {i : Nat} {b : Ob} {a : Addr} (h : env[i]? = some (.own b)) (ha : σ[i]? = some (some (.ref a))) :
    ∃ o, RO K I m b o ∧ ∀ w, Fr K B L I m (env.set i .no) st (σ.set i w) H a o := by
  obtain ⟨a', o, e1, e2, e3, e4, e5, e6⟩ := S.own i b h
  rw [ha] at e1
  cases e1
  refine ⟨o, e3, fun w => ⟨S.clear, e2, e4, e5, e6, fun j c hj e => ?_⟩⟩
  rcases set_get hj with ⟨_, e', _⟩ | ⟨n, h'⟩
  · cases e'
  · rw [List.getElem?_set_ne (fun z => n z.symm)] at e
    exact n (S.inj j i c b a h' h e ha)
theorem set_back {α : Type} {l : List α} {i : Nat} {x : α} (h : l[i]? = some x) (y : α) : (l.set i y).set i x = l := by
  rw [List.set_set]
  apply List.ext_getElem?
  intro j
  by_cases e : i = j
  · subst e
    rw [List.getElem?_set_self (List.getElem?_eq_some_iff.mp h).1, h]
  · rw [List.getElem?_set_ne e]
/-- a slot's own object changes -/
theorem SR.putOwn (S : SR K B L I m env st σ H) {i : Nat} {b b' : Ob} {a : Addr} {o' : HO} (h : env[i]? = some (.own b)) (ha : σ[i]? = some (some (.ref a))) (r : RO K I m b' o') :
    SR K B L I m (env.set i (.own b')) st σ (upd H a o') := by
  obtain ⟨o, _, F⟩ := S.take h ha
  have G := ((F none).write o').toOwn r i
  rw [List.set_set, set_back ha] at G
  exact G
/-- a slot's own object is frozen -/
theorem SR.freezeOwn (S : SR K B L I m env st σ H) {i : Nat} {b : Ob} {a : Addr} (h : env[i]? = some (.own b)) (ha : σ[i]? = some (some (.ref a))) {x : X}
    (hx : ∀ o J, Le I J → J a = some o → RO K I m b o → RE K J m x (.ref a)) : ∃ J, Le I J ∧ SR K B L J m (env.set i (.v x)) st σ H ∧ RE K J m x (.ref a) := by
  obtain ⟨o, r, F⟩ := S.take h ha
  have le : Le I (upd I a o) := le_upd (F none).iN
  have rx := hx o _ le upd_same r
  have G := ((F none).freeze).setV (i := i) rx
  rw [List.set_set, set_back ha] at G
  exact ⟨_, le, G, rx⟩

/-! ### the store -/
theorem SR.putSto (S : SR K B L I m env st σ H) {n : Nat} {b b' : Ob} {a : Addr} {o' : HO} (h : st[n]? = some b) (ha : m[n]? = some a) (r : RO K I m b' o') :
    SR K B L I m env (st.set n b') σ (upd H a o') where
  el := S.el
  fz := fun c u hc => by
    have : c ≠ a := fun e => by rw [e, S.mI a (List.mem_of_getElem? ha)] at hc; cases hc
    rw [upd_ne this]
    exact S.fz c u hc
  nod := S.nod
  len := by simp [S.len]
  sto := fun k c hc => by
    rcases set_get hc with ⟨e, e', hl⟩ | ⟨hn, h'⟩
    · subst e e'
      exact ⟨a, o', ha, upd_same, r⟩
    · obtain ⟨a2, o2, e1, e2, e3⟩ := S.sto k c h'
      refine ⟨a2, o2, e1, ?_, e3⟩
      have : a2 ≠ a := fun e => by
        rw [e] at e1
        exact hn ((List.getElem?_inj (List.getElem?_eq_some_iff.mp e1).1 S.nod).mp (e1.trans ha.symm))
      rw [upd_ne this]
      exact e2
  mI := S.mI
  val := S.val
  own := fun i c hc => by
    obtain ⟨a2, o2, e1, e2, e3, e4, e5, e6⟩ := S.own i c hc
    refine ⟨a2, o2, e1, ?_, e3, e4, e5, e6⟩
    rw [upd_ne (fun e => e5 (by rw [e]; exact List.mem_of_getElem? ha))]
    exact e2
  inj := S.inj
  bI := S.bI
  bm := S.bm
  bk := fun c o hc hm => by
    have : c ≠ a := fun e => by
      rcases S.bm a (List.mem_of_getElem? ha) with q | q
      · exact hm (by rw [e]; exact q)
      · rw [e, q] at hc
        cases hc
    rw [upd_ne this]
    exact S.bk c o hc hm
  bp := S.bp
  bf := S.bf
  bmI := S.bmI

/-! ### a call -/
theorem SR.enter (S : SR K B L I m env st σ H) : SR K ⟨H, I, m⟩ [] I m [] st [] H where
  el := rfl
  fz := S.fz
  nod := S.nod
  len := S.len
  sto := S.sto
  mI := S.mI
  val := fun i x h => by simp at h
  own := fun i b h => by simp at h
  inj := fun i j b c a h => by simp at h
  bI := fun a _ => rfl
  bm := fun a h => .inl h
  bk := fun a o h _ => .inl h
  bp := List.prefix_refl _
  bf := S.fz
  bmI := fun a h => S.memS h
theorem SR.back (S : SR K B L I m env st σ H) {I' : Hp} {m' : List Addr} {st' : Sto} {H' : Hp} (R : SR K ⟨H, I, m⟩ [] I' m' [] st' [] H') :
    SR K B L I' m' env st' σ H' ∧ Le I I' ∧ m <+: m' := by
  have le : Le I I' := R.le
  have pre : m <+: m' := R.bp
  have kp : ∀ a o, H a = some o → a ∉ m → H' a = some o := fun a o h hm => by
    rcases R.bk a o h hm with q | ⟨q, _⟩
    · exact q
    · cases q
  refine ⟨?_, le, pre⟩
  exact {
    el := S.el
    fz := R.fz
    nod := R.nod
    len := R.len
    sto := R.sto
    mI := R.mI
    val := fun i x h => by
      obtain ⟨v, e, r⟩ := S.val i x h
      exact ⟨v, e, r.mono le pre⟩
    own := fun i b h => by
      obtain ⟨a, o, e1, e2, e3, e4, e5, e6⟩ := S.own i b h
      refine ⟨a, o, e1, kp a o e2 e5, e3.mono le pre, ?_, ?_, e6⟩
      · rw [R.bI a (show H a ≠ none by rw [e2]; simp)]
        exact e4
      · intro q
        rcases R.bm a q with z | z
        · exact e5 z
        · have z' : H a = none := z
          rw [e2] at z'
          cases z'
    inj := S.inj
    bI := fun a h => by
      rw [R.bI a (S.dom h)]
      exact S.bI a h
    bm := fun a h => by
      rcases R.bm a h with q | q
      · exact S.bm a q
      · exact .inr (S.bfree q)
    bk := fun a o h hm => by
      have hm' : a ∉ m := fun q => by
        rcases S.bm a q with z | z
        · exact hm z
        · rw [z] at h
          cases h
      rcases S.bk a o h hm with q | ⟨q1, q2, ob, q⟩
      · exact .inl (kp a o q hm')
      · exact .inr ⟨q1, q2, ob, kp a _ q hm'⟩
    bp := S.bp.trans pre
    bf := S.bf
    bmI := S.bmI }
/-- a def's own frame, at its entry: a new SR with its arguments' slots -/
theorem SR.frame (S : SR K B L I m [] st [] H) {xs : List X} {vs : List V} (r : REs K I m xs vs) (n : Nat) :
    SR K B L I m (xs.map Slot.v ++ List.replicate n .no) st (vs.map some ++ List.replicate n none) H where
  el := by simp [r.length]
  fz := S.fz
  nod := S.nod
  len := S.len
  sto := S.sto
  mI := S.mI
  val := fun i x h => by
    by_cases hi : i < xs.length
    · rw [List.getElem?_append_left (by simpa using hi), List.getElem?_map] at h
      cases e : xs[i]? with
      | none =>
        rw [e] at h
        cases h
      | some y =>
        rw [e] at h
        cases h
        obtain ⟨v, hv, q⟩ := r.get e
        refine ⟨v, ?_, q⟩
        rw [List.getElem?_append_left (by simpa [r.length] using hi), List.getElem?_map, hv]
        rfl
    · rw [List.getElem?_append_right (by simpa using hi), List.getElem?_replicate] at h
      split at h <;> cases h
  own := fun i b h => by
    by_cases hi : i < xs.length
    · rw [List.getElem?_append_left (by simpa using hi), List.getElem?_map] at h
      cases e : xs[i]? with
      | none =>
        rw [e] at h
        cases h
      | some y =>
        rw [e] at h
        cases h
    · rw [List.getElem?_append_right (by simpa using hi), List.getElem?_replicate] at h
      split at h <;> cases h
  inj := fun i j b c a h => by
    intro _
    by_cases hi : i < xs.length
    · rw [List.getElem?_append_left (by simpa using hi), List.getElem?_map] at h
      cases e : xs[i]? with
      | none =>
        rw [e] at h
        cases h
      | some y =>
        rw [e] at h
        cases h
    · rw [List.getElem?_append_right (by simpa using hi), List.getElem?_replicate] at h
      split at h <;> cases h
  bI := S.bI
  bm := S.bm
  bk := S.bk
  bp := S.bp
  bf := S.bf
  bmI := S.bmI
/-- the frame is left -/
theorem SR.leave (S : SR K B L I m env st σ H) : SR K B L I m [] st [] H where
  el := rfl
  fz := S.fz
  nod := S.nod
  len := S.len
  sto := S.sto
  mI := S.mI
  val := fun i x h => by simp at h
  own := fun i b h => by simp at h
  inj := fun i j b c a h => by simp at h
  bI := S.bI
  bm := S.bm
  bk := S.bk
  bp := S.bp
  bf := S.bf
  bmI := S.bmI
end
end EV

/-! EvD: the evaluator. -/
namespace EV
open PySem L2

inductive BO where | add | sub | mul | fdiv | mod
inductive CO where | eq | ne | lt | le | gt | ge | is | isn | in_ | nin
inductive Bi where | len | int | abs | max2 | min2 | max1 | min1 | sum | any | all | tuple | repr | isI (t : String)
inductive Ba where | list | sorted | sset
inductive Me where | pop0 | pop1 | append
inductive T where
  | nm (i : Nat) | tup (ts : List T)
mutual
inductive E where
  | nm (i : Nat) | ct (d : D) | gl (c : Nat)
  | tup (es : List E)
  | bop (o : BO) (a b : E) | neg (a : E)
  | not (a : E) | and (a b : E) | or (a b : E)
  | cmp (o : CO) (a b : E) | chn (o p : CO) (a b c : E)
  | ite (c a b : E)
  | ix (a i : E) | sl (a : E) (lo hi : Option E)
  | call (f : Nat) (es : List E)
  | bi (b : Bi) (es : List E)
  | me (m : Me) (a : E) (es : List E)
  | al (a : A) | st (a : A)
inductive A where
  | lst (es : List E) | dic (kvs : List (E × E))
  | lc (e : E) (t : T) (it : It) (c : Option E) (vs : List Nat)
  | ba (b : Ba) (a : E) | rv (a : E)
inductive It where
  | sq (e : E) | rg (es : List E) | zp (a b : E) | en (a : E)
end
inductive S where
  | asg (t : T) (e : E) | par (is : List Nat) (es : List E) | own (i : Nat) (a : A) | frz (i : Nat) | setx (a i e : E) | aug (i : Nat) (o : BO) (e : E)
  | ex (e : E) | ifs (c : E) (p q : List S) | whl (c : E) (b : List S) | for (t : T) (it : It) (b : List S)
  | ret (e : E) | retn | brk | cnt | pas
inductive Fl where | nx | bk | ct | rt (x : X)

/-! ### values -/
def X.isO : X → Bool
  | .o _ => true
  | _ => false
def allD : List X → Option (List D)
  | [] => some []
  | .d x :: r => match allD r with
    | some ds => some (x :: ds)
    | none => none
  | _ :: _ => none
/-- a list as data -/
def toD (env : Lo) (st : Sto) : X → Option D
  | .d x => some x
  | .k _ => none
  | .l n => match st[n]? with
    | some (.lst xs) => match allD xs with
      | some ds => some (.list ds)
      | none => none
    | _ => none
  | .o i => match env[i]? with
    | some (.own (.lst xs)) => match allD xs with
      | some ds => some (.list ds)
      | none => none
    | _ => none
/-- an object frozen -/
def allK : List (Key × X) → Option (List (D × D))
  | [] => some []
  | (k, .d x) :: r => match allK r with
    | some ds => some ((dKey k, x) :: ds)
    | none => none
  | _ :: _ => none
def frO : Ob → Option D
  | .lst xs => match allD xs with
    | some ds => some (.list ds)
    | none => none
  | .dic kvs => match allK kvs with
    | some ds => some (.dict ds)
    | none => none
/-- an object to be looked at -/
def obX (env : Lo) (st : Sto) : X → Option Ob
  | .l n => st[n]?
  | .o i => match env[i]? with
    | some (.own b) => some b
    | _ => none
  | .d (.list ds) => some (.lst (ds.map .d))
  | .d _ => none
  | .k _ => none
def lk (k : Key) : List (Key × X) → Option X
  | [] => none
  | (j, x) :: r => if j = k then some x else lk k r
def pt (k : Key) (y : X) (kvs : List (Key × X)) : List (Key × X) :=
  if (kvs.any fun p => decide (p.1 = k)) = true then kvs.map (fun p => if p.1 = k then (p.1, y) else p) else kvs ++ [(k, y)]
def lkD (k : Key) : List (D × D) → Option D
  | [] => none
  | (j, x) :: r => if keyD j = some k then some x else lkD k r

def tru (env : Lo) (st : Sto) : X → Option Bool
  | .d .none => some false
  | .d (.bool b) => some b
  | .d (.int i) => some (i != 0)
  | .d (.str s) => if s.length ≤ sizeLine then some (s.length != 0) else none
  | .d (.list ds) => some (!ds.isEmpty)
  | .d (.tuple ds) => some (!ds.isEmpty)
  | .d (.dict _) => none
  | x => match obX env st x with
    | some (.lst xs) => some (!xs.isEmpty)
    | _ => none

def scD : D → D → Bool
  | .none, .none => true | .none, .int _ => true | .int _, .none => true | .none, .bool _ => true | .bool _, .none => true | .none, .str _ => true | .str _, .none => true
  | .int _, .int _ => true | .bool _, .bool _ => true | .str _, .str _ => true
  | .int _, .str _ => true | .str _, .int _ => true | .bool _, .str _ => true | .str _, .bool _ => true
  | _, _ => false
def eqD (d e : D) : Option Bool :=
  if scD d e then some (PyData.eqv d e) else if SeqAt.shaped d && SeqAt.shaped e then some (PyData.eqv d e) else none
def small (i : Int) : Bool := decide (-(2 ^ 64) < i) && decide (i < 2 ^ 64)
def in63 (i : Int) : Bool := decide (-(2 ^ 63) ≤ i) && decide (i < 2 ^ 63)
def in62 (i : Int) : Bool := decide (-(2 ^ 62) ≤ i) && decide (i < 2 ^ 62)
def divOk (j : Int) : Bool := decide (j ≠ 0) && decide (j.natAbs < 1073741824)

def bopD : BO → D → D → Option D
  | .add, .int i, .int j => some (.int (i + j))
  | .sub, .int i, .int j => some (.int (i - j))
  | .mul, .int i, .int j => if small i || small j then some (.int (i * j)) else none
  | .fdiv, .int i, .int j => if divOk j then some (.int (i.fdiv j)) else none
  | .mod, .int i, .int j => if j ≠ 0 then some (.int (i.fmod j)) else none
  | .add, .str a, .str b => if a.length + b.length ≤ sizeLine then some (.str (a ++ b)) else none
  | .add, .list a, .list b => if a.length + b.length ≤ sizeLine then some (.list (a ++ b)) else none
  | .add, .tuple a, .tuple b => if a.length + b.length ≤ sizeLine then some (.tuple (a ++ b)) else none
  | .mul, .list a, .int k => if in63 k && decide (a.length * k.toNat ≤ sizeLine) then some (.list (List.replicate k.toNat a).flatten) else none
  | _, _, _ => none
/-- a comparison -/
def inD (d : D) : D → Option Bool
  | .list ds => if SeqAt.shaped d && PyData.canLayAll0 ds then some (ds.any fun z => PyData.eqv z d) else none
  | .tuple ds => if SeqAt.shaped d && PyData.canLayAll0 ds then some (ds.any fun z => PyData.eqv z d) else none
  | .dict kvs => match keyD d with
    | some k => some (lkD k kvs).isSome
    | none => none
  | .str z => match d with
    | .str x => match x.cps.toList with
      | [c] => some (decide (c ∈ z.cps.toList))
      | _ => none
    | _ => none
  | _ => none
def inX (env : Lo) (st : Sto) (x y : X) : Option Bool :=
  match toD env st x with
  | none => none
  | some a => match toD env st y with
    | some b => inD a b
    | none => match obX env st y with
      | some (.dic kvs) => match keyD a with
        | some k => some (lk k kvs).isSome
        | none => none
      | _ => none
def isN (env : Lo) : X → D → Option Bool
  | .d .none, .none => some true
  | .o i, .none => match env[i]? with
    | some (.own _) => some false
    | _ => none
  | _, .none => some false
  | _, _ => none
def cmpD : CO → D → D → Option Bool
  | .eq, a, b => eqD a b
  | .ne, a, b => match eqD a b with
    | some k => some (!k)
    | none => none
  | .lt, .int i, .int j => some (decide (i < j))
  | .le, .int i, .int j => some (decide (i ≤ j))
  | .gt, .int i, .int j => some (decide (j < i))
  | .ge, .int i, .int j => some (decide (j ≤ i))
  | .lt, .str i, .str j => some (decide (i.cps.toList < j.cps.toList))
  | _, _, _ => none
def cmpX (env : Lo) (st : Sto) (o : CO) (x y : X) : Option Bool :=
  match o with
  | .is => match y with
    | .d d => isN env x d
    | _ => none
  | .isn => match y with
    | .d d => match isN env x d with
      | some k => some (!k)
      | none => none
    | _ => none
  | .in_ => inX env st x y
  | .nin => match inX env st x y with
    | some k => some (!k)
    | none => none
  | _ => match toD env st x with
    | some a => match toD env st y with
      | some b => cmpD o a b
      | none => none
    | none => none
/-- an item -/
def ixX (env : Lo) (st : Sto) (x y : X) : Option X :=
  match x, y with
  | .d (.tuple ds), .d (.int i) => (atI ds i).map .d
  | .d (.str s), .d (.int i) => if s.length ≤ sizeLine then (atI s.cps.toList i).map fun c => .d (.str ⟨#[c]⟩) else none
  | .d (.dict kvs), .d k => match keyD k with
    | some k => (lkD k kvs).map .d
    | none => none
  | x, .d k => match obX env st x with
    | some (.lst xs) => match k with
      | .int i => atI xs i
      | _ => none
    | some (.dic kvs) => match keyD k with
      | some k => lk k kvs
      | none => none
    | none => none
  | _, _ => none
def cutD {α : Type} (xs : List α) (lo hi : Option Int) : List α := (xs.drop (HT.sIx xs.length 0 lo)).take (HT.sIx xs.length xs.length hi - HT.sIx xs.length 0 lo)
def slX (env : Lo) (st : Sto) (x : X) (lo hi : Option Int) : Option D :=
  match x with
  | .d (.tuple ds) => some (.tuple (cutD ds lo hi))
  | .d (.str s) => if s.length ≤ sizeLine then some (.str (cutS s lo hi)) else none
  | x => match toD env st x with
    | some (.list ds) => some (.list (cutD ds lo hi))
    | _ => none

/-! ### built-ins -/
def intsD : List D → Option (List Int)
  | [] => some []
  | .int i :: r => match intsD r with
    | some ns => some (i :: ns)
    | none => none
  | _ :: _ => none
def blsD : List D → Option (List Bool)
  | [] => some []
  | .bool i :: r => match blsD r with
    | some ns => some (i :: ns)
    | none => none
  | _ :: _ => none
def maxI : List Int → Option Int
  | [] => none
  | n :: ns => some (ns.foldl (fun a y => if a < y then y else a) n)
def minI : List Int → Option Int
  | [] => none
  | n :: ns => some (ns.foldl (fun a y => if y < a then y else a) n)
/-- what sorted makes of data of one kind -/
def sortD (ds : List D) : List D := ds.mergeSort (PySem.W.dataLe false id)
def hasT : D → Bool
  | .tuple (_ :: _) => true
  | _ => false
def noT : D → Bool
  | .tuple _ => false
  | .none => false
  | _ => true
def sortOk (ds : List D) : Bool :=
  (ds.all fun a => ds.all fun b => PySem.W.alike a b) && (ds.all hasT || ds.all noT) && (ds.all fun a => decide (a.depth ≤ 64)) && decide (ds.length ≤ sizeLine) && !PyData.hasDictAll ds
def tys : List String := ["int", "bool", "str", "tuple", "list", "dict"]
def isTy (t : String) : D → Bool
  | .none => t == "NoneType"
  | .bool _ => t == "bool" || t == "int"
  | .int _ => t == "int"
  | .str _ => t == "str"
  | .list _ => t == "list"
  | .tuple _ => t == "tuple"
  | .dict _ => t == "dict"
def listD : D → Option (List D)
  | .list ds => some ds
  | _ => none
def itemsD : D → Option (List D)
  | .list ds => some ds
  | .tuple ds => some ds
  | _ => none
def bi1 : Bi → D → Option D
  | .len, .list ds => some (.int ds.length)
  | .len, .tuple ds => some (.int ds.length)
  | .len, .str s => if s.length ≤ sizeLine then some (.int s.length) else none
  | .int, .int i => some (.int i)
  | .int, .bool b => some (.int (if b then 1 else 0))
  | .abs, .int i => some (.int (if i < 0 then -i else i))
  | .max1, d => match itemsD d with
    | some ds => match intsD ds with
      | some ns => (maxI ns).map .int
      | none => none
    | none => none
  | .min1, d => match itemsD d with
    | some ds => match intsD ds with
      | some ns => (minI ns).map .int
      | none => none
    | none => none
  | .sum, .list ds => match intsD ds with
    | some ns => some (.int ns.sum)
    | none => none
  | .any, .list ds => match blsD ds with
    | some ns => some (.bool (ns.any id))
    | none => none
  | .all, .list ds => match blsD ds with
    | some ns => some (.bool (ns.all id))
    | none => none
  | .tuple, .list ds => some (.tuple ds)
  | .tuple, .tuple ds => some (.tuple ds)
  | .repr, d => if d.showable && !d.hasDict && decide (d.shown.length ≤ sizeLine) && decide (d.depth ≤ 64) then some (.str d.shown) else none
  | _, _ => none
def two (f : Int → Int → D) : List X → Option D
  | [.d (.int i), .d (.int j)] => some (f i j)
  | _ => none
def isX (t : String) : List X → Option D
  | [.d d] => if tys.contains t then some (.bool (isTy t d)) else none
  | _ => none
def lenX (env : Lo) (st : Sto) : List X → Option D
  | [x] => match toD env st x with
    | some d => bi1 .len d
    | none => match obX env st x with
      | some (.lst xs) => some (.int xs.length)
      | some (.dic kvs) => some (.int kvs.length)
      | none => none
  | _ => none
def oneX (env : Lo) (st : Sto) (b : Bi) : List X → Option D
  | [x] => match toD env st x with
    | some d => bi1 b d
    | none => none
  | _ => none
def biX (env : Lo) (st : Sto) (b : Bi) (xs : List X) : Option D :=
  match b with
  | .max2 => two (fun i j => .int (if j > i then j else i)) xs
  | .min2 => two (fun i j => .int (if j < i then j else i)) xs
  | .isI t => isX t xs
  | .len => lenX env st xs
  | b => oneX env st b xs
/-- sorted(set(ints)) -/
def insI (x : Int) : List Int → List Int
  | [] => [x]
  | y :: r => if x < y then x :: y :: r else if x = y then y :: r else y :: insI x r
def ssetI : List Int → List Int
  | [] => []
  | x :: r => insI x (ssetI r)
def baX (env : Lo) (st : Sto) : Ba → X → Option Ob
  | .list, x => match x with
    | .d (.tuple ds) => some (.lst (ds.map .d))
    | x => match obX env st x with
      | some (.lst xs) => some (.lst xs)
      | _ => none
  | .sorted, x => match toD env st x with
    | some d => match listD d with
      | some ds => if sortOk ds then some (.lst ((sortD ds).map .d)) else none
      | none => none
    | none => none
  | .sset, x => match toD env st x with
    | some d => match listD d with
      | some ds => match intsD ds with
        | some ns => if ns.length < 64 then some (.lst ((ssetI ns).map fun i => .d (.int i))) else none
        | none => none
      | none => none
    | none => none
/-- an object is put back -/
def putX (env : Lo) (st : Sto) (b : Ob) : X → Option (Lo × Sto)
  | .k _ => none
  | .l n => if n < st.length then some (env, st.set n b) else none
  | .o i => match env[i]? with
    | some (.own _) => some (env.set i (.own b), st)
    | _ => none
  | .d _ => none
def mutX (env : Lo) (st : Sto) : X → Option Ob
  | .d _ => none
  | .k _ => none
  | x => obX env st x
def meX (env : Lo) (st : Sto) : Me → X → List X → Option (X × Lo × Sto)
  | .pop0, x, [] => match mutX env st x with
    | some (.lst xs) => match xs[xs.length - 1]? with
      | some y => match putX env st (.lst xs.dropLast) x with
        | some (e, s) => some (y, e, s)
        | none => none
      | none => none
    | _ => none
  | .pop1, x, [.d (.int i)] => match mutX env st x with
    | some (.lst xs) => if in63 i then match seqIndex? i xs.length with
      | some k => match xs[k]? with
        | some y => match putX env st (.lst (xs.eraseIdx k)) x with
          | some (e, s) => some (y, e, s)
          | none => none
        | none => none
      | none => none else none
    | _ => none
  | .append, x, [y] => if y.isO then none else match mutX env st x with
    | some (.lst xs) => if xs.length < sizeLine then match putX env st (.lst (xs ++ [y])) x with
      | some (e, s) => some (.d .none, e, s)
      | none => none else none
    | _ => none
  | _, _, _ => none

/-! ### targets -/
mutual
def asgT : T → X → Lo → Option Lo
  | .nm i, x, env => if x.isO then none else some (env.set i (.v x))
  | .tup ts, .d (.tuple ds), env => asgTs ts (ds.map .d) env
  | .tup _, _, _ => none
def asgTs : List T → List X → Lo → Option Lo
  | [], [], env => some env
  | t :: ts, x :: xs, env => match asgT t x env with
    | some e => asgTs ts xs e
    | none => none
  | _, _, _ => none
end
def wipeL (env : Lo) : List Nat → Lo
  | [] => env
  | i :: r => (wipeL env r).set i .no
def restL (env old : Lo) : List Nat → Lo
  | [] => env
  | i :: r => (restL env old r).set i (match old[i]? with | some s => s | none => .no)
def noOwn (env : Lo) (vs : List Nat) : Bool := vs.all fun i => match env[i]? with
  | some (.own _) => false
  | _ => true

abbrev Ev (α : Type) := Lo → Sto → Option (α × Lo × Sto)
def lcGo (f : Ev X) (c : Ev Bool) (t : T) (vs : List Nat) : List X → Lo → Sto → Option (List X × Lo × Sto)
  | [], env, st => some ([], env, st)
  | x :: r, env, st => match asgT t x (wipeL env vs) with
    | none => none
    | some e1 => match c e1 st with
      | none => none
      | some (true, e2, s2) => match f e2 s2 with
        | none => none
        | some (y, e3, s3) => if y.isO then none else match lcGo f c t vs r e3 s3 with
          | none => none
          | some (ys, e4, s4) => some (y :: ys, e4, s4)
      | some (false, e2, s2) => lcGo f c t vs r e2 s2
def rgL (lo : Int) : Nat → List X
  | 0 => []
  | n + 1 => .d (.int lo) :: rgL (lo + 1) n
def zipX : List X → List X → Option (List X)
  | .d x :: xs, .d y :: ys => match zipX xs ys with
    | some r => some (.d (.tuple [x, y]) :: r)
    | none => none
  | [], [] => some []
  | _, _ => none
def enX (n : Int) : List X → Option (List X)
  | .d x :: xs => match enX (n + 1) xs with
    | some r => some (.d (.tuple [.int n, x]) :: r)
    | none => none
  | [] => some []
  | _ => none
def itX : X → Option (List X)
  | .k ds => some (ds.map .d)
  | .d (.list ds) => some (ds.map .d)
  | .d (.tuple ds) => some (ds.map .d)
  | .d (.str s) => some (s.cps.toList.map fun c => .d (.str ⟨#[c]⟩))
  | _ => none
def listX : X → Option (List X)
  | .d (.list ds) => some (ds.map .d)
  | _ => none
def dispK : List X → List X → Option (List (Key × X))
  | [], [] => some []
  | .d k :: ks, v :: vs => match keyD k with
    | some k => if v.isO then none else match dispK ks vs with
      | some r => some ((k, v) :: r)
      | none => none
    | none => none
  | _, _ => none
def mergeX (acc : List (Key × X)) : List (Key × X) → List (Key × X)
  | [] => acc
  | (k, v) :: r => mergeX (pt k v acc) r

structure Fn where
  np : Nat
  nl : Nat
  body : List S
structure Pg where
  fns : List Fn
  cs : List D

section
variable (cs : List D) (cl : Nat → List X → Sto → Option (X × Sto))
mutual
def evE : E → Lo → Sto → Option (X × Lo × Sto)
  | .nm i, env, st => match env[i]? with
    | some (.v x) => some (x, env, st)
    | some (.own _) => some (.o i, env, st)
    | _ => none
  | .ct d, env, st => some (.d d, env, st)
  | .gl c, env, st => match cs[c]? with
    | some d => some (.d d, env, st)
    | none => none
  | .tup es, env, st => match evEs es env st with
    | some (xs, e, s) => match allD xs with
      | some ds => if ds.length ≤ sizeLine then some (.d (.tuple ds), e, s) else none
      | none => none
    | none => none
  | .bop o a b, env, st => match evE a env st with
    | some (x, e1, s1) => match evE b e1 s1 with
      | some (y, e2, s2) => match toD e2 s2 x with
        | some d => match toD e2 s2 y with
          | some c => match bopD o d c with
            | some z => some (.d z, e2, s2)
            | none => none
          | none => none
        | none => none
      | none => none
    | none => none
  | .neg a, env, st => match evE a env st with
    | some (.d (.int i), e1, s1) => some (.d (.int (-i)), e1, s1)
    | _ => none
  | .not a, env, st => match evE a env st with
    | some (x, e, s) => match tru e s x with
      | some b => some (.d (.bool (!b)), e, s)
      | none => none
    | none => none
  | .and a b, env, st => match evE a env st with
    | some (x, e1, s1) => match tru e1 s1 x with
      | some true => evE b e1 s1
      | some false => some (x, e1, s1)
      | none => none
    | none => none
  | .or a b, env, st => match evE a env st with
    | some (x, e1, s1) => match tru e1 s1 x with
      | some true => some (x, e1, s1)
      | some false => evE b e1 s1
      | none => none
    | none => none
  | .cmp o a b, env, st => match evE a env st with
    | some (x, e1, s1) => match evE b e1 s1 with
      | some (y, e2, s2) => match cmpX e2 s2 o x y with
        | some k => some (.d (.bool k), e2, s2)
        | none => none
      | none => none
    | none => none
  | .chn o p a b c, env, st => match evE a env st with
    | some (x, e1, s1) => match evE b e1 s1 with
      | some (y, e2, s2) => match cmpX e2 s2 o x y with
        | some false => some (.d (.bool false), e2, s2)
        | some true => match evE c e2 s2 with
          | some (z, e3, s3) => match cmpX e3 s3 p y z with
            | some k => some (.d (.bool k), e3, s3)
            | none => none
          | none => none
        | none => none
      | none => none
    | none => none
  | .ite c a b, env, st => match evT c env st with
    | some (true, e1, s1) => evE a e1 s1
    | some (false, e1, s1) => evE b e1 s1
    | none => none
  | .ix a i, env, st => match evE a env st with
    | some (x, e1, s1) => match evE i e1 s1 with
      | some (y, e2, s2) => match ixX e2 s2 x y with
        | some z => some (z, e2, s2)
        | none => none
      | none => none
    | none => none
  | .sl a lo hi, env, st => match evE a env st with
    | some (x, e1, s1) => match evP lo e1 s1 with
      | some (l, e2, s2) => match evP hi e2 s2 with
        | some (h, e3, s3) => match slX e3 s3 x l h with
          | some z => some (.d z, e3, s3)
          | none => none
        | none => none
      | none => none
    | none => none
  | .call f es, env, st => match evEs es env st with
    | some (xs, e, s) => if xs.any X.isO then none else match cl f xs s with
      | some (x, s') => some (x, e, s')
      | none => none
    | none => none
  | .bi b es, env, st => match evEs es env st with
    | some (xs, e, s) => match biX e s b xs with
      | some d => some (.d d, e, s)
      | none => none
    | none => none
  | .me m a es, env, st => match evE a env st with
    | some (x, e1, s1) => match obX e1 s1 x with
      | some (.lst _) => match evEs es e1 s1 with
        | some (xs, e2, s2) => meX e2 s2 m x xs
        | none => none
      | _ => none
    | none => none
  | .al a, env, st => match evA a env st with
    | some (b, e, s) => match frO b with
      | some d => some (.d d, e, s)
      | none => none
    | none => none
  | .st a, env, st => match evA a env st with
    | some (b, e, s) => some (.l s.length, e, s ++ [b])
    | none => none
/-- a test -/
def evT : E → Lo → Sto → Option (Bool × Lo × Sto)
  | .and a b, env, st => match evT a env st with
    | some (true, e, s) => evT b e s
    | some (false, e, s) => some (false, e, s)
    | none => none
  | .or a b, env, st => match evT a env st with
    | some (true, e, s) => some (true, e, s)
    | some (false, e, s) => evT b e s
    | none => none
  | .not a, env, st => match evT a env st with
    | some (b, e, s) => some (!b, e, s)
    | none => none
  | .nm i, env, st => match env[i]? with
    | some (.v x) => match tru env st x with
      | some k => some (k, env, st)
      | none => none
    | some (.own _) => match tru env st (.o i) with
      | some k => some (k, env, st)
      | none => none
    | _ => none
  | .cmp o a b, env, st => match evE a env st with
    | some (x, e1, s1) => match evE b e1 s1 with
      | some (y, e2, s2) => match cmpX e2 s2 o x y with
        | some k => some (k, e2, s2)
        | none => none
      | none => none
    | none => none
  | .chn o p a b c, env, st => match evE a env st with
    | some (x, e1, s1) => match evE b e1 s1 with
      | some (y, e2, s2) => match cmpX e2 s2 o x y with
        | some false => some (false, e2, s2)
        | some true => match evE c e2 s2 with
          | some (z, e3, s3) => match cmpX e3 s3 p y z with
            | some k => some (k, e3, s3)
            | none => none
          | none => none
        | none => none
      | none => none
    | none => none
  | .ix a i, env, st => match evE a env st with
    | some (x, e1, s1) => match evE i e1 s1 with
      | some (y, e2, s2) => match ixX e2 s2 x y with
        | some z => match tru e2 s2 z with
          | some k => some (k, e2, s2)
          | none => none
        | none => none
      | none => none
    | none => none
  | .call f es, env, st => match evEs es env st with
    | some (xs, e, s) => if xs.any X.isO then none else match cl f xs s with
      | some (x, s') => match tru e s' x with
        | some k => some (k, e, s')
        | none => none
      | none => none
    | none => none
  | .bi b es, env, st => match evEs es env st with
    | some (xs, e, s) => match biX e s b xs with
      | some d => match tru e s (.d d) with
        | some k => some (k, e, s)
        | none => none
      | none => none
    | none => none
  | .ite c a b, env, st => match evT c env st with
    | some (true, e1, s1) => evT a e1 s1
    | some (false, e1, s1) => evT b e1 s1
    | none => none
  | _, _, _ => none
def evEs : List E → Lo → Sto → Option (List X × Lo × Sto)
  | [], env, st => some ([], env, st)
  | a :: r, env, st => match evE a env st with
    | some (x, e1, s1) => match evEs r e1 s1 with
      | some (xs, e2, s2) => some (x :: xs, e2, s2)
      | none => none
    | none => none
/-- a slice's part -/
def evP : Option E → Lo → Sto → Option (Option Int × Lo × Sto)
  | none, env, st => some (none, env, st)
  | some a, env, st => match evE a env st with
    | some (.d (.int i), e, s) => some (some i, e, s)
    | _ => none
def evC : Option E → Lo → Sto → Option (Bool × Lo × Sto)
  | none, env, st => some (true, env, st)
  | some a, env, st => evT a env st
def evA : A → Lo → Sto → Option (Ob × Lo × Sto)
  | .lst es, env, st => match evEs es env st with
    | some (xs, e, s) => if xs.any X.isO then none else if xs.length ≤ sizeLine then some (.lst xs, e, s) else none
    | none => none
  | .dic kvs, env, st => match evD kvs env st with
    | some (kvs, e, s) => if kvs.length ≤ 15 then some (.dic (mergeX [] kvs), e, s) else none
    | none => none
  | .lc x t it c vs, env, st => match evIt it env st with
    | some (xs, e1, s1) => if noOwn e1 vs && decide (xs.length ≤ sizeLine) then match lcGo (evE x) (evC c) t vs xs e1 s1 with
      | some (ys, e2, s2) => some (.lst ys, restL e2 e1 vs, s2)
      | none => none else none
    | none => none
  | .ba b a, env, st => match evE a env st with
    | some (x, e, s) => match baX e s b x with
      | some o => some (o, e, s)
      | none => none
    | none => none
  | .rv a, env, st => match evE a env st with
    | some (x, e, s) => match obX e s x with
      | some (.lst xs) => some (.lst xs.reverse, e, s)
      | _ => none
    | none => none
/-- a display's pairs, key and value in turn -/
def evD : List (E × E) → Lo → Sto → Option (List (Key × X) × Lo × Sto)
  | [], env, st => some ([], env, st)
  | (k, v) :: r, env, st => match evE k env st with
    | some (.d d, e1, s1) => match keyD d with
      | some y => match evE v e1 s1 with
        | some (x, e2, s2) => if x.isO then none else match evD r e2 s2 with
          | some (z, e3, s3) => some ((y, x) :: z, e3, s3)
          | none => none
        | none => none
      | none => none
    | _ => none
def evIt : It → Lo → Sto → Option (List X × Lo × Sto)
  | .sq a, env, st => match evE a env st with
    | some (x, e, s) => match itX x with
      | some xs => some (xs, e, s)
      | none => none
    | none => none
  | .rg es, env, st => match evEs es env st with
    | some ([.d (.int j)], e, s) => if in62 j then some (rgL 0 j.toNat, e, s) else none
    | some ([.d (.int i), .d (.int j)], e, s) => if in62 i && in62 j then some (rgL i (j - i).toNat, e, s) else none
    | _ => none
  | .zp a b, env, st => match evE a env st with
    | some (x, e1, s1) => match evE b e1 s1 with
      | some (y, e2, s2) => match listX x, listX y with
        | some xs, some ys => match zipX xs ys with
          | some r => some (r, e2, s2)
          | none => none
        | _, _ => none
      | none => none
    | none => none
  | .en a, env, st => match evE a env st with
    | some (x, e, s) => match listX x with
      | some xs => match enX 0 xs with
        | some r => some (r, e, s)
        | none => none
      | none => none
    | none => none
end

def forGo (b : Ev Fl) (t : T) : List X → Lo → Sto → Option (Fl × Lo × Sto)
  | [], env, st => some (.nx, env, st)
  | x :: r, env, st => match asgT t x env with
    | none => none
    | some e1 => match b e1 st with
      | none => none
      | some (.nx, e2, s2) => forGo b t r e2 s2
      | some (.ct, e2, s2) => forGo b t r e2 s2
      | some (.bk, e2, s2) => some (.nx, e2, s2)
      | some (.rt y, e2, s2) => some (.rt y, e2, s2)
def whGo (c : Ev Bool) (b : Ev Fl) : Nat → Lo → Sto → Option (Fl × Lo × Sto)
  | 0, _, _ => none
  | n + 1, env, st => match c env st with
    | none => none
    | some (false, e1, s1) => some (.nx, e1, s1)
    | some (true, e1, s1) => match b e1 s1 with
      | none => none
      | some (.nx, e2, s2) => whGo c b n e2 s2
      | some (.ct, e2, s2) => whGo c b n e2 s2
      | some (.bk, e2, s2) => some (.nx, e2, s2)
      | some (.rt y, e2, s2) => some (.rt y, e2, s2)
/-- what a def hands back -/
def fixR (env : Lo) : X → Option X
  | .o i => match env[i]? with
    | some (.own b) => match frO b with
      | some d => some (.d d)
      | none => none
    | _ => none
  | x => some x
variable (w : Nat)
mutual
def evS : S → Lo → Sto → Option (Fl × Lo × Sto)
  | .asg t x, env, st => match evE cs cl x env st with
    | some (v, e, s) => match asgT t v e with
      | some e' => some (.nx, e', s)
      | none => none
    | none => none
  | .par is es, env, st => match evEs cs cl es env st with
    | some (xs, e, s) => match asgTs (is.map .nm) xs e with
      | some e' => some (.nx, e', s)
      | none => none
    | none => none
  | .own i a, env, st => match evA cs cl a env st with
    | some (b, e, s) => some (.nx, e.set i (.own b), s)
    | none => none
  | .frz i, env, st => match env[i]? with
    | some (.own b) => match frO b with
      | some d => some (.nx, env.set i (.v (.d d)), st)
      | none => none
    | some (.v _) => some (.nx, env, st)
    | _ => none
  | .setx a i x, env, st => match evE cs cl x env st with
    | some (v, e1, s1) => match evE cs cl a e1 s1 with
      | some (o, e2, s2) => match evE cs cl i e2 s2 with
        | some (.d k, e3, s3) => if v.isO then none else match mutX e3 s3 o with
          | some (.dic kvs) => match keyD k with
            | some k => if kvs.length < sizeLine then match putX e3 s3 (.dic (pt k v kvs)) o with
              | some (e4, s4) => some (.nx, e4, s4)
              | none => none else none
            | none => none
          | some (.lst xs) => match k with
            | .int j => match ixN xs.length j with
              | some j => match putX e3 s3 (.lst (xs.set j v)) o with
                | some (e4, s4) => some (.nx, e4, s4)
                | none => none
              | none => none
            | _ => none
          | _ => none
        | _ => none
      | none => none
    | none => none
  | .aug i o x, env, st => match env[i]? with
    | some (.v (.d d)) => match evE cs cl x env st with
      | some (.d c, e, s) => match d, c with
        | .int a, .int b => match o with
          | .add => some (.nx, e.set i (.v (.d (.int (a + b)))), s)
          | .sub => some (.nx, e.set i (.v (.d (.int (a - b)))), s)
          | _ => none
        | _, _ => none
      | _ => none
    | _ => none
  | .ex x, env, st => match evE cs cl x env st with
    | some (_, e, s) => some (.nx, e, s)
    | none => none
  | .ifs c p q, env, st => match evT cs cl c env st with
    | some (true, e, s) => evSs p e s
    | some (false, e, s) => evSs q e s
    | none => none
  | .whl c b, env, st => whGo (evT cs cl c) (evSs b) w env st
  | .for t it b, env, st => match evIt cs cl it env st with
    | some (xs, e, s) => forGo (evSs b) t xs e s
    | none => none
  | .ret x, env, st => match evE cs cl x env st with
    | some (v, e, s) => match fixR e v with
      | some v => some (.rt v, e, s)
      | none => none
    | none => none
  | .retn, env, st => some (.rt (.d .none), env, st)
  | .brk, env, st => some (.bk, env, st)
  | .cnt, env, st => some (.ct, env, st)
  | .pas, env, st => some (.nx, env, st)
def evSs : List S → Lo → Sto → Option (Fl × Lo × Sto)
  | [], env, st => some (.nx, env, st)
  | a :: r, env, st => match evS a env st with
    | some (.nx, e, s) => evSs r e s
    | x => x
end
end
/-- a call of at most k defs within one another; a while of at most w turns -/
def evCall (Γ : Pg) (w : Nat) : Nat → Nat → List X → Sto → Option (X × Sto)
  | 0, _, _, _ => none
  | k + 1, f, xs, st => match Γ.fns[f]? with
    | none => none
    | some fn => if xs.length = fn.np then match evSs Γ.cs (evCall Γ w k) w fn.body (xs.map Slot.v ++ List.replicate (fn.nl - fn.np) .no) st with
      | some (.nx, _, s) => some (.d .none, s)
      | some (.rt x, _, s) => some (x, s)
      | _ => none else none
end EV

/-! EvE: the operations by values. -/
namespace EV
open PySem PySem.Spec PyProof.Rows L2

theorem allD_map : ∀ {xs : List X} {ds : List D}, allD xs = some ds → xs = ds.map X.d
  | [], ds, h => by
    cases h
    rfl
  | .d x :: r, ds, h => by
    unfold allD at h
    cases e : allD r with
    | none =>
      rw [e] at h
      cases h
    | some es =>
      rw [e] at h
      cases h
      rw [List.map_cons, ← allD_map e]
  | .l n :: r, ds, h => by simp [allD] at h
  | .o n :: r, ds, h => by simp [allD] at h
  | .k n :: r, ds, h => by simp [allD] at h
theorem allK_get : ∀ {kvs : List (Key × X)} {ds : List (D × D)} {K : PySem.W.Frag} {I : Hp} {m : List Addr} {ws : List (Key × V)}, allK kvs = some ds → REk K I m kvs ws → RKs K I ds ws
  | [], ds, K, I, m, ws, h, r => by
    cases h
    simp only [RKs]
    exact r
  | (k, .d x) :: t, ds, K, I, m, ws, h, ⟨v, u, e, q, z⟩ => by
    unfold allK at h
    cases e2 : allK t with
    | none =>
      rw [e2] at h
      cases h
    | some es =>
      rw [e2] at h
      cases h
      simp only [RKs]
      exact ⟨k, v, u, e, keyD_dKey k, q, allK_get e2 z⟩
  | (k, .l n) :: r, ds, K, I, m, ws, h, _ => by simp [allK] at h
  | (k, .o n) :: r, ds, K, I, m, ws, h, _ => by simp [allK] at h
  | (k, .k n) :: r, ds, K, I, m, ws, h, _ => by simp [allK] at h

/-- data as it lies in the heap now: frozen, or a list that may still change -/
def RH (K : PySem.W.Frag) (I H : Hp) (d : D) (v : V) : Prop :=
  RV K I d v ∨ ∃ ds a vs, d = .list ds ∧ v = .ref a ∧ H a = some (.lst vs) ∧ RVs K I ds vs
/-- what is wanted of a result -/
def Kt (K : PySem.W.Frag) (B : Bs) (L : List Addr) (I : Hp) (m : List Addr) (env : Lo) (st : Sto) (σ : L2.St) (x : X) (Q : VK) : Prop :=
  ∀ (v : V) (H' I' : Hp) (m' : List Addr), SR K B L I' m' env st σ H' → Le I I' → m <+: m' → RX K I' m' σ x v → Q v H'

section
variable {K : PySem.W.Frag} {B : Bs} {L : List Addr} {I : Hp} {m : List Addr} {env : Lo} {st : Sto} {σ : L2.St} {H : Hp} {Q : VK}
theorem SR.ob (S : SR K B L I m env st σ H) {x : X} {v : V} {b : Ob} (r : RX K I m σ x v) (h : obX env st x = some b) : ∃ a o, v = .ref a ∧ H a = some o ∧ RO K I m b o := by
  cases x with
  | d d =>
    cases d with
    | list ds =>
      have h' : some (Ob.lst (ds.map .d)) = some b := h
      cases h'
      have r' : RV K I (.list ds) v := r
      simp only [RV] at r'
      obtain ⟨a, vs, e, q, t⟩ := r'
      exact ⟨a, _, e, S.fz.lst q, vs, rfl, REs.ofD t⟩
    | _ => cases h
  | l n =>
    have h' : st[n]? = some b := h
    obtain ⟨a, e, e2⟩ := r
    obtain ⟨o, h1, h2⟩ := S.at h' e
    exact ⟨a, o, e2, h1, h2⟩
  | o i =>
    have h' : (match env[i]? with | some (.own b) => some b | _ => none) = some b := h
    have r' : σ[i]? = some (some v) := r
    cases e : env[i]? with
    | none =>
      rw [e] at h'
      cases h'
    | some s =>
      rw [e] at h'
      cases s with
      | own c =>
        cases h'
        obtain ⟨a, o, e1, e2, e3, _⟩ := S.own i b e
        rw [r'] at e1
        cases e1
        exact ⟨a, o, rfl, e2, e3⟩
      | _ => cases h'
  | k ds => cases h
theorem SR.toD (S : SR K B L I m env st σ H) {x : X} {v : V} {d : D} (r : RX K I m σ x v) (h : toD env st x = some d) : RH K I H d v := by
  cases x with
  | d c =>
    cases h
    exact .inl r
  | l n =>
    have h' : (match st[n]? with | some (.lst xs) => (match allD xs with | some ds => some (PyData.list ds) | none => none) | _ => none) = some d := h
    cases e : st[n]? with
    | none =>
      rw [e] at h'
      cases h'
    | some b =>
      rw [e] at h'
      cases b with
      | dic kvs => cases h'
      | lst xs =>
        cases e2 : allD xs with
        | none =>
          simp only [e2] at h'
          cases h'
        | some ds =>
          simp only [e2] at h'
          cases h'
          obtain ⟨a, o, h1, h2, vs, h3, h4⟩ := S.ob (x := .l n) r e
          rw [allD_map e2] at h4
          exact .inr ⟨ds, a, vs, rfl, h1, by rw [h2, h3], REs.toD h4⟩
  | o i =>
    have h' : (match env[i]? with | some (.own (.lst xs)) => (match allD xs with | some ds => some (PyData.list ds) | none => none) | _ => none) = some d := h
    cases e : env[i]? with
    | none =>
      rw [e] at h'
      cases h'
    | some s =>
      rw [e] at h'
      cases s with
      | own b =>
        cases b with
        | dic kvs => cases h'
        | lst xs =>
          cases e2 : allD xs with
          | none =>
            simp only [e2] at h'
            cases h'
          | some ds =>
            simp only [e2] at h'
            cases h'
            obtain ⟨a, o, h1, h2, vs, h3, h4⟩ := S.ob (x := .o i) (b := .lst xs) r (by show (match env[i]? with | some (.own b) => some b | _ => none) = _; rw [e])
            rw [allD_map e2] at h4
            exact .inr ⟨ds, a, vs, rfl, h1, by rw [h2, h3], REs.toD h4⟩
      | _ => cases h'
  | k ds => cases h
theorem RH.lst (S : SR K B L I m env st σ H) {ds : List D} {v : V} (r : RH K I H (.list ds) v) : ∃ a vs, v = .ref a ∧ H a = some (.lst vs) ∧ RVs K I ds vs := by
  rcases r with r | ⟨es, a, vs, e, e1, e2, e3⟩
  · simp only [RV] at r
    obtain ⟨a, vs, e, q, t⟩ := r
    exact ⟨a, vs, e, S.fz.lst q, t⟩
  · cases e
    exact ⟨a, vs, e1, e2, e3⟩
theorem RH.tup (S : SR K B L I m env st σ H) {ds : List D} {v : V} (r : RH K I H (.tuple ds) v) : ∃ a vs, v = .ref a ∧ SqT K H a vs ∧ RVs K I ds vs := by
  rcases r with r | ⟨es, a, vs, e, _⟩
  · simp only [RV] at r
    obtain ⟨a, vs, e, q, t⟩ := r
    exact ⟨a, vs, e, S.fz.sqT q, t⟩
  · cases e
theorem RH.int {i : Int} {v : V} (r : RH K I H (.int i) v) : v = .int i := by
  rcases r with r | ⟨es, a, vs, e, _⟩
  · simpa only [RV] using r
  · cases e
theorem RH.str {i : Str} {v : V} (r : RH K I H (.str i) v) : v = .str i := by
  rcases r with r | ⟨es, a, vs, e, _⟩
  · simpa only [RV] using r
  · cases e
theorem RH.bl {i : Bool} {v : V} (r : RH K I H (.bool i) v) : v = .bl i := by
  rcases r with r | ⟨es, a, vs, e, _⟩
  · simpa only [RV] using r
  · cases e
theorem RH.non {v : V} (r : RH K I H .none v) : v = .non := by
  rcases r with r | ⟨es, a, vs, e, _⟩
  · simpa only [RV] using r
  · cases e
theorem RH.dpN (S : SR K B L I m env st σ H) {d : D} {v : V} (c : d.hasDict = false) (r : RH K I H d v) : Dp K H v d := by
  rcases r with r | ⟨ds, a, vs, e, e1, e2, e3⟩
  · exact RV.dp S.fz d v c r
  · subst e e1
    exact .lst (.inl (.inl e2)) (RVs.dp S.fz ds vs (by simpa [PyData.hasDict] using c) e3)
theorem RH.dp (S : SR K B L I m env st σ H) {d : D} {v : V} (c : d.canLay0 = true) (r : RH K I H d v) : Dp K H v d :=
  r.dpN S (PyData.hasDict_of_canLay d c)

theorem Kt.same (k : Kt K B L I m env st σ x Q) (S : SR K B L I m env st σ H) {v : V} (r : RX K I m σ x v) : Q v H := k v H I m S (Le.refl I) (List.prefix_refl m) r
theorem Kt.dat {d : D} (k : Kt K B L I m env st σ (.d d) Q) (S : SR K B L I m env st σ H) {v : V} (r : RV K I d v) : Q v H := k.same S r
/-- a new list, a new tuple -/
theorem newL (S : SR K B L I m env st σ H) {p : Addr} (h : H p = none) {ds : List D} {vs : List V} (r : RVs K I ds vs) :
    ∃ J, SR K B L J m env st σ (upd H p (.lst vs)) ∧ Le I J ∧ RV K J (.list ds) (.ref p) := by
  have F := S.alloc h (.lst vs)
  have le : Le I (upd I p (.lst vs)) := le_upd F.iN
  refine ⟨_, F.freeze, le, ?_⟩
  simp only [RV]
  exact ⟨p, vs, rfl, upd_same, RVs.mono le ds vs r⟩
theorem newT (S : SR K B L I m env st σ H) {p : Addr} (h : H p = none) {ds : List D} {vs : List V} (r : RVs K I ds vs) :
    ∃ J, SR K B L J m env st σ (upd H p (.tup vs)) ∧ Le I J ∧ RV K J (.tuple ds) (.ref p) := by
  have F := S.alloc h (.tup vs)
  have le : Le I (upd I p (.tup vs)) := le_upd F.iN
  refine ⟨_, F.freeze, le, ?_⟩
  simp only [RV]
  exact ⟨p, vs, rfl, .inl (.inl upd_same), RVs.mono le ds vs r⟩
theorem Kt.list {ds : List D} (k : Kt K B L I m env st σ (.d (.list ds)) Q) (S : SR K B L I m env st σ H) {vs : List V} (r : RVs K I ds vs) :
    ∀ p, H p = none → Q (.ref p) (upd H p (.lst vs)) := fun p h => by
  obtain ⟨J, S', le, r'⟩ := newL S h r
  exact k _ _ J m S' le (List.prefix_refl m) r'
theorem Kt.tuple {ds : List D} (k : Kt K B L I m env st σ (.d (.tuple ds)) Q) (S : SR K B L I m env st σ H) {vs : List V} (r : RVs K I ds vs) :
    ∀ p, H p = none → Q (.ref p) (upd H p (.tup vs)) := fun p h => by
  obtain ⟨J, S', le, r'⟩ := newT S h r
  exact k _ _ J m S' le (List.prefix_refl m) r'
end

/-! ### two-place operations -/
def rB (K : PySem.W.Frag) (F : Lo → Sto → X → X → Option X) : R2 := fun x y H Q => ∃ B L I m env st σ xa xb z,
  SR K B L I m env st σ H ∧ RX K I m σ xa x ∧ RX K I m σ xb y ∧ F env st xa xb = some z ∧ Kt K B L I m env st σ z Q
def bopX (o : BO) (env : Lo) (st : Sto) (x y : X) : Option X := match toD env st x with
  | some d => match toD env st y with
    | some c => match bopD o d c with
      | some z => some (.d z)
      | none => none
    | none => none
  | none => none
def opB : BO → Operator
  | .add => .Add
  | .sub => .Sub
  | .mul => .Mult
  | .fdiv => .FloorDiv
  | .mod => .Mod
theorem bopX_some {o : BO} {env : Lo} {st : Sto} {x y z : X} (h : bopX o env st x y = some z) :
    ∃ d c w, toD env st x = some d ∧ toD env st y = some c ∧ bopD o d c = some w ∧ z = .d w := by
  unfold bopX at h
  split at h
  · split at h
    · split at h
      · cases h
        exact ⟨_, _, _, by assumption, by assumption, by assumption, rfl⟩
      · cases h
    · cases h
  · cases h
theorem ite_some {α : Type} {c : Prop} [Decidable c] {a b : α} (h : (if c then some a else none) = some b) : c ∧ a = b := by
  by_cases hc : c
  · rw [if_pos hc] at h
    cases h
    exact ⟨hc, rfl⟩
  · rw [if_neg hc] at h
    cases h
theorem op_bop {X : Cx} (o : BO) : OpR X (binaryOp (opB o)) (rB X.K (bopX o)) := by
  intro pins s σ H x y v u Q I rx ry h
  obtain ⟨B, L, J, m, env, st, τ, xa, xb, z, S, ra, rb, e, k⟩ := h
  obtain ⟨d, c, w, e1, e2, e3, rfl⟩ := bopX_some e
  have h1 := S.toD ra e1
  have h2 := S.toD rb e2
  cases o with
  | add =>
    cases d with
    | int i =>
      cases c with
      | int j =>
        cases e3
        cases h1.int
        cases h2.int
        exact op_add pins s σ H _ _ v u Q I rx ry ⟨i, j, rfl, rfl, k.dat S (by simp [RV])⟩
      | _ => cases e3
    | str i =>
      cases c with
      | str j =>
        obtain ⟨hz, rfl⟩ := ite_some (show (if i.length + j.length ≤ sizeLine then some (PyData.str (i ++ j)) else none) = some w from e3)
        cases h1.str
        cases h2.str
        exact op_add_str pins s σ H _ _ v u Q I rx ry ⟨i, j, rfl, rfl, hz, k.dat S (by simp [RV])⟩
      | _ => cases e3
    | list i =>
      cases c with
      | list j =>
        obtain ⟨hz, rfl⟩ := ite_some (show (if i.length + j.length ≤ sizeLine then some (PyData.list (i ++ j)) else none) = some w from e3)
        obtain ⟨a, vs, ea, ha, qa⟩ := h1.lst S
        obtain ⟨b, ws, eb, hb, qb⟩ := h2.lst S
        exact op_cat pins s σ H _ _ v u Q I rx ry ⟨a, b, vs, ws, ea, eb, ha, hb, by rw [qa.length, qb.length]; exact hz, k.list S (qa.app qb)⟩
      | _ => cases e3
    | tuple i =>
      cases c with
      | tuple j =>
        obtain ⟨hz, rfl⟩ := ite_some (show (if i.length + j.length ≤ sizeLine then some (PyData.tuple (i ++ j)) else none) = some w from e3)
        obtain ⟨a, vs, ea, ha, qa⟩ := h1.tup S
        obtain ⟨b, ws, eb, hb, qb⟩ := h2.tup S
        refine op_catA pins s σ H _ _ v u Q I rx ry ⟨a, b, vs, ws, ea, eb, ha, hb, by rw [qa.length, qb.length]; exact hz, fun hx => ?_, fun hx hy => ?_, fun _ _ => k.tuple S (qa.app qb)⟩
        · have : i = [] := List.eq_nil_of_length_eq_zero (by rw [← qa.length, hx]; rfl)
          subst this
          rw [← eb]
          rcases h2 with h2 | ⟨_, _, _, q, _⟩
          · exact k.dat S h2
          · cases q
        · have : j = [] := List.eq_nil_of_length_eq_zero (by rw [← qb.length, hy]; rfl)
          subst this
          rw [← ea]
          rcases h1 with h1 | ⟨_, _, _, q, _⟩
          · exact k.dat S (by rw [List.append_nil]; exact h1)
          · cases q
      | _ => cases e3
    | _ => cases c <;> cases e3
  | sub =>
    cases d with
    | int i =>
      cases c with
      | int j =>
        cases e3
        cases h1.int
        cases h2.int
        exact op_sub pins s σ H _ _ v u Q I rx ry ⟨i, j, rfl, rfl, k.dat S (by simp [RV])⟩
      | _ => cases e3
    | _ => cases c <;> cases e3
  | mul =>
    cases d with
    | int i =>
      cases c with
      | int j =>
        obtain ⟨hz, rfl⟩ := ite_some (show (if small i || small j then some (PyData.int (i * j)) else none) = some w from e3)
        cases h1.int
        cases h2.int
        refine op_mul pins s σ H _ _ v u Q I rx ry ⟨i, j, rfl, rfl, ?_, k.dat S (by simp [RV])⟩
        simp only [small, Bool.or_eq_true, Bool.and_eq_true, decide_eq_true_eq] at hz
        exact hz
      | _ => cases e3
    | list i =>
      cases c with
      | int j =>
        obtain ⟨hz, rfl⟩ := ite_some (show (if in63 j && decide (i.length * j.toNat ≤ sizeLine) then some (PyData.list (List.replicate j.toNat i).flatten) else none) = some w from e3)
        cases h2.int
        obtain ⟨a, vs, ea, ha, qa⟩ := h1.lst S
        simp only [in63, Bool.and_eq_true, decide_eq_true_eq] at hz
        exact op_rep pins s σ H _ _ v u Q I rx ry ⟨a, j, vs, ea, rfl, ha, hz.1.1, hz.1.2, by rw [qa.length]; exact hz.2, k.list S (qa.rep _)⟩
      | _ => cases e3
    | _ => cases c <;> cases e3
  | fdiv =>
    cases d with
    | int i =>
      cases c with
      | int j =>
        obtain ⟨hz, rfl⟩ := ite_some (show (if divOk j then some (PyData.int (i.fdiv j)) else none) = some w from e3)
        cases h1.int
        cases h2.int
        simp only [divOk, Bool.and_eq_true, decide_eq_true_eq] at hz
        exact op_fdivN pins s σ H _ _ v u Q I rx ry ⟨i, j, rfl, rfl, hz, k.dat S (by simp [RV])⟩
      | _ => cases e3
    | _ => cases c <;> cases e3
  | mod =>
    cases d with
    | int i =>
      cases c with
      | int j =>
        obtain ⟨hz, rfl⟩ := ite_some (show (if j ≠ 0 then some (PyData.int (i.fmod j)) else none) = some w from e3)
        cases h1.int
        cases h2.int
        exact op_modN pins s σ H _ _ v u Q I rx ry ⟨i, j, rfl, rfl, hz, k.dat S (by simp [RV])⟩
      | _ => cases e3
    | _ => cases c <;> cases e3
end EV

/-! EvF: comparisons, items, slices. -/
namespace EV
open PySem PySem.Spec PyProof.Rows L2

def coB : CO → CmpOp
  | .eq => .Eq
  | .ne => .NotEq
  | .lt => .Lt
  | .le => .LtE
  | .gt => .Gt
  | .ge => .GtE
  | .is => .Is
  | .isn => .IsNot
  | .in_ => .In
  | .nin => .NotIn
def cmpR (o : CO) (env : Lo) (st : Sto) (x y : X) : Option X := match cmpX env st o x y with
  | some k => some (.d (.bool k))
  | none => none
theorem cmpR_some {o : CO} {env : Lo} {st : Sto} {x y z : X} (h : cmpR o env st x y = some z) : ∃ k, cmpX env st o x y = some k ∧ z = .d (.bool k) := by
  unfold cmpR at h
  split at h
  · cases h
    exact ⟨_, by assumption, rfl⟩
  · cases h
theorem scD_eq {K : PySem.W.Frag} {I H : Hp} : ∀ {d c : D} {x y : V}, scD d c = true → RH K I H d x → RH K I H c y → scal x y = true ∧ decide (x = y) = PyData.eqv d c := by
  intro d c x y h h1 h2
  cases d with
  | none =>
    cases h1.non
    cases c with
    | none => cases h2.non; exact ⟨rfl, rfl⟩
    | bool b => cases h2.bl; exact ⟨rfl, rfl⟩
    | int b => cases h2.int; exact ⟨rfl, rfl⟩
    | str b => cases h2.str; exact ⟨rfl, rfl⟩
    | _ => cases h
  | bool a =>
    cases h1.bl
    cases c with
    | none => cases h2.non; exact ⟨rfl, rfl⟩
    | bool b =>
      cases h2.bl
      refine ⟨rfl, ?_⟩
      simp only [PyData.eqv]
      exact dec_bl
    | str b => cases h2.str; exact ⟨rfl, rfl⟩
    | _ => cases h
  | int a =>
    cases h1.int
    cases c with
    | none => cases h2.non; exact ⟨rfl, rfl⟩
    | int b =>
      cases h2.int
      refine ⟨rfl, ?_⟩
      simp only [PyData.eqv]
      exact dec_int
    | str b => cases h2.str; exact ⟨rfl, rfl⟩
    | _ => cases h
  | str a =>
    cases h1.str
    cases c with
    | none => cases h2.non; exact ⟨rfl, rfl⟩
    | bool b => cases h2.bl; exact ⟨rfl, rfl⟩
    | int b => cases h2.int; exact ⟨rfl, rfl⟩
    | str b =>
      cases h2.str
      refine ⟨rfl, ?_⟩
      simp only [PyData.eqv]
      exact dec_str
    | _ => cases h
  | _ => cases c <;> cases h
theorem shaped_lay {d : D} (h : SeqAt.shaped d = true) : d.canLay0 = true := SeqAt.canLay_of_shaped h

section
variable {K : PySem.W.Frag} {B : Bs} {L : List Addr} {I : Hp} {m : List Addr} {env : Lo} {st : Sto} {σ : L2.St} {H : Hp} {Q : VK}
theorem RKs.lk {k : Key} : ∀ {kvs : List (D × D)} {ws : List (Key × V)}, RKs K I kvs ws → (lkD k kvs = none ∧ valV ws k = none) ∨ ∃ d v, lkD k kvs = some d ∧ valV ws k = some v ∧ RV K I d v
  | [], ws, r => by
    simp only [RKs] at r
    subst r
    exact .inl ⟨rfl, rfl⟩
  | (j, d) :: t, ws, r => by
    simp only [RKs] at r
    obtain ⟨y, v, u, e, ky, q, z⟩ := r
    subst e
    by_cases hk : y = k
    · subst hk
      refine .inr ⟨d, v, ?_, valV_pos rfl, q⟩
      unfold lkD
      rw [if_pos ky]
    · have h1 : lkD k ((j, d) :: t) = lkD k t := by
        rw [lkD.eq_2, if_neg (by rw [ky]; intro e; exact hk (Option.some.inj e))]
      have h2 : valV ((y, v) :: u) k = valV u k := valV_neg hk
      rw [h1, h2]
      exact RKs.lk z
theorem REk.lk {k : Key} : ∀ {kvs : List (Key × X)} {ws : List (Key × V)}, REk K I m kvs ws → (EV.lk k kvs = none ∧ valV ws k = none) ∨ ∃ d v, EV.lk k kvs = some d ∧ valV ws k = some v ∧ RE K I m d v
  | [], ws, r => by
    have r' : ws = [] := r
    subst r'
    exact .inl ⟨rfl, rfl⟩
  | (j, d) :: t, ws, ⟨v, u, e, q, z⟩ => by
    subst e
    by_cases hk : j = k
    · subst hk
      refine .inr ⟨d, v, ?_, valV_pos rfl, q⟩
      unfold EV.lk
      rw [if_pos rfl]
    · have h1 : EV.lk k ((j, d) :: t) = EV.lk k t := by
        rw [EV.lk.eq_2, if_neg hk]
      have h2 : valV ((j, v) :: u) k = valV u k := valV_neg hk
      rw [h1, h2]
      exact REk.lk z
theorem key_V {d : D} {k : Key} (h : keyD d = some k) (r : RH K I H d v) : v = kV k := by
  cases d with
  | int i =>
    cases h
    exact r.int
  | str i =>
    cases h
    exact r.str
  | _ => cases h
/-- looking a key up in frozen data -/
theorem RH.dget (S : SR K B L I m env st σ H) {kvs : List (D × D)} {v y : V} {d : D} {k : Key} (r : RH K I H (.dict kvs) v) (hk : keyD d = some k) (ry : RH K I H d y) :
    ∃ a o, v = .ref a ∧ DGet H a y o ∧ ((lkD k kvs = none ∧ o = none) ∨ ∃ c u, lkD k kvs = some c ∧ o = some u ∧ RV K I c u) := by
  rcases r with r | ⟨_, _, _, e, _⟩
  · simp only [RV] at r
    obtain ⟨a, ws, e, q, t⟩ := r
    refine ⟨a, valV ws k, e, .inl ⟨ws, k, S.fz.rd q, key_V hk ry, rfl⟩, ?_⟩
    rcases t.lk (k := k) with ⟨h1, h2⟩ | ⟨c, u, h1, h2, h3⟩
    · exact .inl ⟨h1, h2⟩
    · exact .inr ⟨c, u, h1, h2, h3⟩
  · cases e
/-- .. in an object -/
theorem SR.oget (S : SR K B L I m env st σ H) {kvs : List (Key × X)} {x : X} {v y : V} {d : D} {k : Key} (r : RX K I m σ x v) (h : obX env st x = some (.dic kvs)) (hk : keyD d = some k) (ry : RH K I H d y) :
    ∃ a o, v = .ref a ∧ DGet H a y o ∧ ((lk k kvs = none ∧ o = none) ∨ ∃ c u, lk k kvs = some c ∧ o = some u ∧ RE K I m c u) := by
  obtain ⟨a, o, e, e2, ws, e3, q⟩ := S.ob r h
  refine ⟨a, valV ws k, e, .inl ⟨ws, k, .inl (by rw [e2, e3]), key_V hk ry, rfl⟩, ?_⟩
  rcases q.lk (k := k) with ⟨h1, h2⟩ | ⟨c, u, h1, h2, h3⟩
  · exact .inl ⟨h1, h2⟩
  · exact .inr ⟨c, u, h1, h2, h3⟩
end

/-- membership, both ways: neg tells which -/
theorem op_inX {X : Cx} (hu : X.A.units + 65 < cLine) (neg : Bool) {pins : List (Addr × Obj)} {s : Shared} {σ : L2.St} {H : Hp} {x y : V} {v u : Value} {Q : VK}
    (J : Inv X pins σ H s) (rx : RelV x v) (ry : RelV y u) {B : Bs} {L : List Addr} {I : Hp} {m : List Addr} {env : Lo} {st : Sto} {τ : L2.St} {xa xb : EV.X} {k : Bool}
    (S : SR X.K B L I m env st τ H) (ra : RX X.K I m τ xa x) (rb : RX X.K I m τ xb y) (h : inX env st xa xb = some k) (q : Q (.bl (if neg then !k else k)) H) :
    wpAny (model X.prog X.w) X.A (compareOp (if neg then .NotIn else .In) v u) (EP X pins σ Q) X.xe s := by
  have hu1 : X.A.units + 1 < cLine := by omega
  unfold inX at h
  split at h
  · cases h
  rename_i d e1
  have h1 := S.toD ra e1
  split at h
  · rename_i c e2
    have h2 := S.toD rb e2
    cases c with
    | list ds =>
      obtain ⟨hz, rfl⟩ := ite_some (show (if SeqAt.shaped d && PyData.canLayAll0 ds then some (ds.any fun z => PyData.eqv z d) else none) = some k from h)
      rw [Bool.and_eq_true] at hz
      obtain ⟨as, r1⟩ := Dp.reads J d x v (h1.dp S (shaped_lay hz.1)) rx
      obtain ⟨bs, r2⟩ := Dp.reads J (.list ds) y u (h2.dp S (by simpa [PyData.canLay0] using hz.2)) ry
      cases neg with
      | false => exact SeqAt.in_list_reads r2 r1 hz.2 (shaped_lay hz.1) (room_in_shaped hz.1 hu) ⟨.bl _, H, J, rfl, q⟩
      | true => exact SeqAt.notIn_list_reads r2 r1 hz.2 (shaped_lay hz.1) (room_in_shaped hz.1 hu) ⟨.bl _, H, J, rfl, q⟩
    | tuple ds =>
      obtain ⟨hz, rfl⟩ := ite_some (show (if SeqAt.shaped d && PyData.canLayAll0 ds then some (ds.any fun z => PyData.eqv z d) else none) = some k from h)
      rw [Bool.and_eq_true] at hz
      obtain ⟨as, r1⟩ := Dp.reads J d x v (h1.dp S (shaped_lay hz.1)) rx
      obtain ⟨bs, r2⟩ := Dp.reads J (.tuple ds) y u (h2.dp S (by simpa [PyData.canLay0] using hz.2)) ry
      cases neg with
      | false => exact SeqAt.in_tuple_reads r2 r1 hz.2 (shaped_lay hz.1) (room_in_shaped hz.1 hu) ⟨.bl _, H, J, rfl, q⟩
      | true => exact SeqAt.notIn_tuple_reads r2 r1 hz.2 (shaped_lay hz.1) (room_in_shaped hz.1 hu) ⟨.bl _, H, J, rfl, q⟩
    | dict kvs =>
      have h' : (match keyD d with | some k => some (lkD k kvs).isSome | none => none) = some k := h
      split at h'
      · rename_i y' hk
        cases h'
        obtain ⟨a, o, e, g, r⟩ := h2.dget S hk h1
        subst e
        obtain rfl : u = Value.ref a := ry
        have eo : o.isSome = (lkD y' kvs).isSome := by
          rcases r with ⟨p1, p2⟩ | ⟨_, _, p1, p2, _⟩ <;> rw [p1, p2] <;> rfl
        cases neg with
        | false => exact d_in hu1 J g rx fun s3 I3 => ⟨.bl _, H, I3, rfl, by rw [eo]; exact q⟩
        | true => exact d_notIn hu1 J g rx fun s3 I3 => ⟨.bl _, H, I3, rfl, by rw [eo]; exact q⟩
      · cases h'
    | str z =>
      cases d with
      | str w =>
        have h' : (match w.cps.toList with | [c] => some (decide (c ∈ z.cps.toList)) | _ => none) = some k := h
        split at h'
        · rename_i c hc
          cases h'
          have ew : w = ⟨#[c]⟩ := by
            have : w.cps = #[c] := by
              apply Array.toList_inj.mp
              rw [hc]
            cases w
            simp only at this
            rw [this]
          subst ew
          cases h1.str
          cases h2.str
          cases neg with
          | false => exact op_in_sign pins s σ H _ _ v u Q J rx ry ⟨c, z, rfl, rfl, q⟩
          | true => exact op_notIn_sign pins s σ H _ _ v u Q J rx ry ⟨c, z, rfl, rfl, q⟩
        · cases h'
      | _ => cases h
    | _ => cases h
  · split at h
    · rename_i kvs e3
      split at h
      · rename_i y' hk
        cases h
        obtain ⟨a, o, e, g, r⟩ := S.oget rb e3 hk h1
        subst e
        obtain rfl : u = Value.ref a := ry
        have eo : o.isSome = (lk y' kvs).isSome := by
          rcases r with ⟨p1, p2⟩ | ⟨_, _, p1, p2, _⟩ <;> rw [p1, p2] <;> rfl
        cases neg with
        | false => exact d_in hu1 J g rx fun s3 I3 => ⟨.bl _, H, I3, rfl, by rw [eo]; exact q⟩
        | true => exact d_notIn hu1 J g rx fun s3 I3 => ⟨.bl _, H, I3, rfl, by rw [eo]; exact q⟩
      · cases h
    · cases h

theorem isN_V {K : PySem.W.Frag} {I : Hp} {m : List Addr} {env : Lo} {st : Sto} {σ : L2.St} {H : Hp} {B : Bs} {L : List Addr} (S : SR K B L I m env st σ H) {x : X} {v : V} {d : D} {k : Bool}
    (r : RX K I m σ x v) (h : isN env x d = some k) : d = .none ∧ decide (v = .non) = k := by
  have ref : ∀ a, v = .ref a → decide (v = .non) = false := fun a e => by subst e; rfl
  cases d with
  | none =>
    refine ⟨rfl, ?_⟩
    cases x with
    | d c =>
      have r' : RV K I c v := r
      cases c with
      | none =>
        cases h
        simp only [RV] at r'
        subst r'
        rfl
      | bool b =>
        cases h
        simp only [RV] at r'
        subst r'
        rfl
      | int b =>
        cases h
        simp only [RV] at r'
        subst r'
        rfl
      | str b =>
        cases h
        simp only [RV] at r'
        subst r'
        rfl
      | list b =>
        cases h
        simp only [RV] at r'
        obtain ⟨a, _, e, _⟩ := r'
        exact ref a e
      | tuple b =>
        cases h
        simp only [RV] at r'
        obtain ⟨a, _, e, _⟩ := r'
        exact ref a e
      | dict b =>
        cases h
        simp only [RV] at r'
        obtain ⟨a, _, e, _⟩ := r'
        exact ref a e
    | l n =>
      cases h
      obtain ⟨a, _, e⟩ := r
      exact ref a e
    | o n =>
      have h' : (match env[n]? with | some (.own _) => some false | _ => none) = some k := h
      split at h'
      · rename_i b e
        cases h'
        obtain ⟨a, o, e1, _⟩ := S.own n b e
        have r' : σ[n]? = some (some v) := r
        rw [r'] at e1
        cases e1
        rfl
      · cases h'
    | k ds =>
      cases h
      obtain ⟨a, _, e, _⟩ := r
      exact ref a e
  | _ =>
    cases x with
    | d c => cases c <;> cases h
    | _ => cases h

theorem op_cmp {X : Cx} (hu : X.A.units + 65 < cLine) (o : CO) : OpR X (compareOp (coB o)) (rB X.K (cmpR o)) := by
  intro pins s σ H x y v u Q I rx ry h
  obtain ⟨B, L, J, m, env, st, τ, xa, xb, z, S, ra, rb, e, k⟩ := h
  obtain ⟨b, e1, rfl⟩ := cmpR_some e
  have fin : Q (.bl b) H := k.dat S (by simp [RV])
  have two : ∀ {c : D → D → Option Bool}, (match toD env st xa with | some a => (match toD env st xb with | some b => c a b | none => none) | none => none) = some b →
      ∃ a d, RH X.K J H a x ∧ RH X.K J H d y ∧ c a d = some b := by
    intro c h
    split at h
    · rename_i a ea
      split at h
      · rename_i d ed
        exact ⟨a, d, S.toD ra ea, S.toD rb ed, h⟩
      · cases h
    · cases h
  cases o with
  | eq =>
    obtain ⟨a, d, h1, h2, h3⟩ := two (c := cmpD .eq) e1
    have h3' : eqD a d = some b := h3
    unfold eqD at h3'
    split at h3'
    · rename_i hs
      cases h3'
      obtain ⟨q1, q2⟩ := scD_eq hs h1 h2
      exact op_eq pins s σ H x y v u Q I rx ry ⟨q1, by rw [q2]; exact fin⟩
    · obtain ⟨hz, rfl⟩ := ite_some h3'
      rw [Bool.and_eq_true] at hz
      exact op_eqD (by omega) pins s σ H x y v u Q I rx ry ⟨a, d, h1.dp S (shaped_lay hz.1), h2.dp S (shaped_lay hz.2), hz.1, hz.2, fin⟩
  | ne =>
    obtain ⟨a, d, h1, h2, h3⟩ := two (c := cmpD .ne) e1
    have h3' : (match eqD a d with | some k => some (!k) | none => none) = some b := h3
    split at h3'
    · rename_i k0 ek
      cases h3'
      unfold eqD at ek
      split at ek
      · rename_i hs
        cases ek
        obtain ⟨q1, q2⟩ := scD_eq hs h1 h2
        exact op_ne pins s σ H x y v u Q I rx ry ⟨q1, by rw [q2]; exact fin⟩
      · obtain ⟨hz, rfl⟩ := ite_some ek
        rw [Bool.and_eq_true] at hz
        exact op_neD (by omega) pins s σ H x y v u Q I rx ry ⟨a, d, h1.dp S (shaped_lay hz.1), h2.dp S (shaped_lay hz.2), hz.1, hz.2, fin⟩
    · cases h3'
  | lt =>
    obtain ⟨a, d, h1, h2, h3⟩ := two (c := cmpD .lt) e1
    cases a with
    | int i =>
      cases d with
      | int j =>
        cases h3
        cases h1.int
        cases h2.int
        exact op_lt pins s σ H _ _ v u Q I rx ry ⟨i, j, rfl, rfl, fin⟩
      | _ => cases h3
    | str i =>
      cases d with
      | str j =>
        cases h3
        cases h1.str
        cases h2.str
        exact op_lt_str pins s σ H _ _ v u Q I rx ry ⟨i, j, rfl, rfl, fin⟩
      | _ => cases h3
    | _ => cases d <;> cases h3
  | le =>
    obtain ⟨a, d, h1, h2, h3⟩ := two (c := cmpD .le) e1
    cases a with
    | int i =>
      cases d with
      | int j =>
        cases h3
        cases h1.int
        cases h2.int
        exact op_le pins s σ H _ _ v u Q I rx ry ⟨i, j, rfl, rfl, fin⟩
      | _ => cases h3
    | _ => cases d <;> cases h3
  | gt =>
    obtain ⟨a, d, h1, h2, h3⟩ := two (c := cmpD .gt) e1
    cases a with
    | int i =>
      cases d with
      | int j =>
        cases h3
        cases h1.int
        cases h2.int
        exact op_gt pins s σ H _ _ v u Q I rx ry ⟨i, j, rfl, rfl, fin⟩
      | _ => cases h3
    | _ => cases d <;> cases h3
  | ge =>
    obtain ⟨a, d, h1, h2, h3⟩ := two (c := cmpD .ge) e1
    cases a with
    | int i =>
      cases d with
      | int j =>
        cases h3
        cases h1.int
        cases h2.int
        exact op_ge pins s σ H _ _ v u Q I rx ry ⟨i, j, rfl, rfl, fin⟩
      | _ => cases h3
    | _ => cases d <;> cases h3
  | is =>
    cases xb with
    | d d =>
      have e1' : isN env xa d = some b := e1
      obtain ⟨rfl, q⟩ := isN_V S ra e1'
      have rb' : RV X.K J PyData.none y := rb
      simp only [RV] at rb'
      exact op_isN pins s σ H x y v u Q I rx ry ⟨rb', by rw [q]; exact fin⟩
    | _ => cases e1
  | isn =>
    cases xb with
    | d d =>
      have e1' : (match isN env xa d with | some k => some (!k) | none => none) = some b := e1
      split at e1'
      · rename_i k0 ek
        cases e1'
        obtain ⟨rfl, q⟩ := isN_V S ra ek
        have rb' : RV X.K J PyData.none y := rb
        simp only [RV] at rb'
        exact op_notN pins s σ H x y v u Q I rx ry ⟨rb', by rw [q]; exact fin⟩
      · cases e1'
    | _ => cases e1
  | in_ => exact op_inX hu false I rx ry S ra rb e1 fin
  | nin =>
    have e1' : (match inX env st xa xb with | some k => some (!k) | none => none) = some b := e1
    split at e1'
    · rename_i k0 ek
      cases e1'
      exact op_inX hu true I rx ry S ra rb ek fin
    · cases e1'

/-! ### items -/
theorem atI_RVs {K : PySem.W.Frag} {I : Hp} {ds : List D} {vs : List V} {i : Int} {d : D} (r : RVs K I ds vs) (h : atI ds i = some d) : ∃ v, atI vs i = some v ∧ RV K I d v := by
  unfold atI at h ⊢
  rw [r.length]
  cases e : ixN ds.length i with
  | none =>
    rw [e] at h
    cases h
  | some j =>
    rw [e] at h
    have h' : ds[j]? = some d := h
    obtain ⟨v, hv, q⟩ := r.get h'
    exact ⟨v, hv, q⟩
theorem atI_REs {K : PySem.W.Frag} {I : Hp} {m : List Addr} {ds : List X} {vs : List V} {i : Int} {d : X} (r : REs K I m ds vs) (h : atI ds i = some d) : ∃ v, atI vs i = some v ∧ RE K I m d v := by
  unfold atI at h ⊢
  rw [r.length]
  cases e : ixN ds.length i with
  | none =>
    rw [e] at h
    cases h
  | some j =>
    rw [e] at h
    have h' : ds[j]? = some d := h
    obtain ⟨v, hv, q⟩ := r.get h'
    exact ⟨v, hv, q⟩
theorem ix_dict {X : Cx} (hu : X.A.units + 1 < cLine) : IxR X (fun x y H Q => ∃ a v, x = .ref a ∧ DGet H a y (some v) ∧ Q v H) := by
  intro value slice pins s σ H x y v u Q I rx ry h hs
  obtain ⟨a, w, rfl, g, q⟩ := h
  cases rx
  unfold subscriptTail
  refine wpAny_bind ?_
  have hT := dict_typeIs I g
  rw [getitemInPython_of_ne hT.not_modules]
  refine wpAny_bind (wpAny_specialOf hT PySem.F.slot_dict_getitem.lookup ?_)
  have fin : wpAny (model X.prog X.w) X.A (subscripted slice false (.ref a) u) (fun r s3 => wpAny (model X.prog X.w) X.A (letTemporaryGo value (.ref a) r >>= fun _ => pure r) (EP X pins σ Q) X.xe s3) X.xe s := by
    rw [hs]
    refine wpAny_operating ?_
    exact d_getItem hu I g ry fun w' s3 I3 rw' => wpAny_bind (wpAny_letTemporaryGo (wpAny_pure ⟨w, H, I3, rw', q⟩))
  first
    | exact wpAny_pure (wpAny_bind fin)
    | exact wpAny_bind (wpAny_pure (wpAny_bind fin))
    | exact wpAny_bind fin
theorem op_ix {X : Cx} (hu : X.A.units + 1 < cLine) : IxR X (rB X.K ixX) := by
  intro value slice pins s σ H x y v u Q I rx ry h hs
  obtain ⟨B, L, J, m, env, st, τ, xa, xb, z, S, ra, rb, e, k⟩ := h
  have ob : ∀ c, xb = .d c → (match obX env st xa with
      | some (.lst xs) => (match c with
        | .int i => atI xs i
        | _ => none)
      | some (.dic kvs) => (match keyD c with
        | some k => lk k kvs
        | none => none)
      | none => none) = some z → wpAny (model X.prog X.w) X.A (subscriptTail value slice v u) (EP X pins σ Q) X.xe s := by
    intro c ec h
    subst ec
    have rb' : RV X.K J c y := rb
    split at h
    · rename_i xs eo
      split at h
      · rename_i i
        obtain ⟨a, o, e1, e2, vs, e3, r⟩ := S.ob ra eo
        obtain ⟨w, hw, q⟩ := atI_REs r h
        simp only [RV] at rb'
        exact ix_list value slice pins s σ H x y v u Q I rx ry ⟨a, vs, i, w, e1, rb', .inl (.inl (by rw [e2, e3])), hw, k.same S q.rx⟩ hs
      · cases h
    · rename_i kvs eo
      split at h
      · rename_i y' hk
        obtain ⟨a, o, e1, g, r⟩ := S.oget ra eo hk (.inl rb')
        rcases r with ⟨p1, p2⟩ | ⟨c', w, p1, p2, p3⟩
        · rw [p1] at h
          cases h
        · rw [p1] at h
          cases h
          subst p2
          exact ix_dict hu value slice pins s σ H x y v u Q I rx ry ⟨a, w, e1, g, k.same S p3.rx⟩ hs
      · cases h
    · cases h
  unfold ixX at e
  split at e
  · rename_i ds i
    cases e2 : atI ds i with
    | none =>
      rw [e2] at e
      cases e
    | some d =>
      rw [e2] at e
      cases e
      have ra' : RV X.K J (.tuple ds) x := ra
      have rb' : RV X.K J (.int i) y := rb
      simp only [RV] at ra' rb'
      obtain ⟨a, vs, e3, q1, q2⟩ := ra'
      obtain ⟨w, hw, q⟩ := atI_RVs q2 e2
      exact ix_tup value slice pins s σ H x y v u Q I rx ry ⟨a, vs, i, w, e3, rb', S.fz.sqT q1, hw, k.dat S q⟩ hs
  · rename_i t i
    split at e
    · rename_i hz
      cases e2 : atI t.cps.toList i with
      | none =>
        rw [e2] at e
        cases e
      | some d =>
        rw [e2] at e
        cases e
        have ra' : RV X.K J (.str t) x := ra
        have rb' : RV X.K J (.int i) y := rb
        simp only [RV] at ra' rb'
        exact ix_str value slice pins s σ H x y v u Q I rx ry ⟨t, i, d, ra', rb', hz, e2, k.dat S (by simp [RV])⟩ hs
    · cases e
  · rename_i kvs c
    split at e
    · rename_i y' hk
      have ra' : RV X.K J (.dict kvs) x := ra
      have rb' : RV X.K J c y := rb
      obtain ⟨a, o, e1, g, r⟩ := RH.dget S (.inl ra') hk (.inl rb')
      rcases r with ⟨p1, p2⟩ | ⟨c', w, p1, p2, p3⟩
      · rw [p1] at e
        cases e
      · rw [p1] at e
        cases e
        subst p2
        exact ix_dict hu value slice pins s σ H x y v u Q I rx ry ⟨a, w, e1, g, k.dat S p3⟩ hs
    · cases e
  · rename_i c _ _ _
    exact ob c rfl e
  · cases e
end EV

/-! EvG: truth, slices, built-ins by values. -/
namespace EV
open PySem PySem.Spec PyProof.Rows L2

theorem emp {α β : Type} {xs : List α} {ys : List β} (h : xs.length = ys.length) : xs.isEmpty = ys.isEmpty := by
  cases xs <;> cases ys <;> simp_all
section
variable {K : PySem.W.Frag} {B : Bs} {L : List Addr} {I : Hp} {m : List Addr} {env : Lo} {st : Sto} {σ : L2.St} {H : Hp} {Q : VK}
theorem SR.tru (S : SR K B L I m env st σ H) {x : X} {v : V} {k : Bool} (r : RX K I m σ x v) (h : EV.tru env st x = some k) : TruV K v H k := by
  have ob : ∀ {x : X}, RX K I m σ x v → (match obX env st x with | some (.lst xs) => some (!xs.isEmpty) | _ => none) = some k → TruV K v H k := by
    intro x r h
    split at h
    · rename_i xs e
      cases h
      obtain ⟨a, o, e1, e2, vs, e3, q⟩ := S.ob r e
      subst e1
      exact .inl ⟨vs, .inl (.inl (by rw [e2, e3])), by rw [emp q.length]⟩
    · cases h
  cases x with
  | d d =>
    have r' : RV K I d v := r
    cases d with
    | none =>
      cases h
      simp only [RV] at r'
      subst r'
      exact rfl
    | bool b =>
      cases h
      simp only [RV] at r'
      subst r'
      exact rfl
    | int i =>
      cases h
      simp only [RV] at r'
      subst r'
      exact rfl
    | str s =>
      obtain ⟨hz, rfl⟩ := ite_some (show (if s.length ≤ sizeLine then some (s.length != 0) else none) = some k from h)
      simp only [RV] at r'
      subst r'
      refine ⟨hz, ?_⟩
      cases s.length <;> simp <;> omega
    | list ds =>
      cases h
      simp only [RV] at r'
      obtain ⟨a, vs, e, q, t⟩ := r'
      subst e
      exact .inl ⟨vs, .inl (.inl (S.fz.lst q)), by rw [emp t.length]⟩
    | tuple ds =>
      cases h
      simp only [RV] at r'
      obtain ⟨a, vs, e, q, t⟩ := r'
      subst e
      exact .inr (.inl ⟨vs, S.fz.sqT q, by rw [emp t.length]⟩)
    | dict kvs => cases h
  | l n => exact ob r h
  | o n => exact ob r h
  | k ds => cases h
end

/-! ### slices -/
def rSl (K : PySem.W.Frag) : V → Option Int → Option Int → Hp → VK → Prop := fun x lo hi H Q => ∃ B L I m env st σ xa z,
  SR K B L I m env st σ H ∧ RX K I m σ xa x ∧ slX env st xa lo hi = some z ∧ Kt K B L I m env st σ (.d z) Q
theorem cut_RVs {K : PySem.W.Frag} {I : Hp} {ds : List D} {vs : List V} (r : RVs K I ds vs) (lo hi : Option Int) : RVs K I (cutD ds lo hi) (cutV vs lo hi) := by
  unfold cutD cutV
  rw [r.length]
  exact (r.drop _).take _
theorem sl_any {X : Cx} : SlR X (rSl X.K) := by
  intro pins s σ H x v vl vu lo hi sl Q I rx hs pl pu h
  obtain ⟨B, L, J, m, env, st, τ, xa, z, S, ra, e, k⟩ := h
  have lst : ∀ {y : EV.X}, RX X.K J m τ y x → (match toD env st y with | some (.list ds) => some (PyData.list (cutD ds lo hi)) | _ => none) = some z →
      ∃ T id, typeLookup (.type T) "__getitem__" = pure (some (.builtin id)) ∧ s.TypeIs v T ∧ wpAny (model X.prog X.w) X.A (getItem v (.ref sl)) (EP X pins σ Q) X.xe s := by
    intro y ry h
    split at h
    · rename_i ds ed
      cases h
      obtain ⟨a, vs, ea, ha, q⟩ := (S.toD ry ed).lst S
      exact sl_list pins s σ H x v vl vu lo hi sl Q I rx hs pl pu ⟨a, vs, ea, .inl (.inl ha), k.list S (cut_RVs q lo hi)⟩
    · cases h
  unfold slX at e
  split at e
  · rename_i ds
    cases e
    have ra' : RV X.K J (.tuple ds) x := ra
    have ra2 := ra'
    simp only [RV] at ra'
    obtain ⟨a, vs, ea, ha, q⟩ := ra'
    refine sl_tupA pins s σ H x v vl vu lo hi sl Q I rx hs pl pu ⟨a, vs, ea, S.fz.sqT ha, fun hw => ?_, fun _ => k.tuple S (cut_RVs q lo hi)⟩
    have e0 : cutD ds lo hi = ds := by
      unfold cutD
      rw [← q.length, hw.1, hw.2, q.length]
      simp
    rw [← ea]
    exact k.dat S (by rw [e0]; exact ra2)
  · rename_i t
    obtain ⟨hz, rfl⟩ := ite_some e
    have ra' : RV X.K J (.str t) x := ra
    simp only [RV] at ra'
    exact sl_str pins s σ H x v vl vu lo hi sl Q I rx hs pl pu ⟨t, ra', hz, k.dat S (by simp [RV])⟩
  · exact lst ra e

/-! ### built-ins -/
def rN (K : PySem.W.Frag) (F : Lo → Sto → List X → Option D) : List V → Hp → VK → Prop := fun vs H Q => ∃ B L I m env st σ xs z,
  SR K B L I m env st σ H ∧ RXs K I m σ xs vs ∧ F env st xs = some z ∧ Kt K B L I m env st σ (.d z) Q
theorem rxs1 {K : PySem.W.Frag} {I : Hp} {m : List Addr} {σ : L2.St} {x : X} {vs : List V} (r : RXs K I m σ [x] vs) : ∃ v, vs = [v] ∧ RX K I m σ x v := by
  obtain ⟨v, t, e, q, z⟩ := r
  have z' : t = [] := z
  subst z'
  exact ⟨v, e, q⟩
theorem rxs2 {K : PySem.W.Frag} {I : Hp} {m : List Addr} {σ : L2.St} {x y : X} {vs : List V} (r : RXs K I m σ [x, y] vs) : ∃ v u, vs = [v, u] ∧ RX K I m σ x v ∧ RX K I m σ y u := by
  obtain ⟨v, t, e, q, z⟩ := r
  obtain ⟨u, e2, q2⟩ := rxs1 z
  subst e2
  exact ⟨v, u, e, q, q2⟩
theorem intsD_map : ∀ {ds : List D} {ns : List Int}, intsD ds = some ns → ds = ns.map .int
  | [], ns, h => by
    cases h
    rfl
  | .int x :: r, ns, h => by
    unfold intsD at h
    cases e : intsD r with
    | none =>
      rw [e] at h
      cases h
    | some es =>
      rw [e] at h
      cases h
      rw [List.map_cons, ← intsD_map e]
  | .none :: r, ns, h => by simp [intsD] at h
  | .bool _ :: r, ns, h => by simp [intsD] at h
  | .str _ :: r, ns, h => by simp [intsD] at h
  | .list _ :: r, ns, h => by simp [intsD] at h
  | .tuple _ :: r, ns, h => by simp [intsD] at h
  | .dict _ :: r, ns, h => by simp [intsD] at h
theorem blsD_map : ∀ {ds : List D} {ns : List Bool}, blsD ds = some ns → ds = ns.map .bool
  | [], ns, h => by
    cases h
    rfl
  | .bool x :: r, ns, h => by
    unfold blsD at h
    cases e : blsD r with
    | none =>
      rw [e] at h
      cases h
    | some es =>
      rw [e] at h
      cases h
      rw [List.map_cons, ← blsD_map e]
  | .none :: r, ns, h => by simp [blsD] at h
  | .int _ :: r, ns, h => by simp [blsD] at h
  | .str _ :: r, ns, h => by simp [blsD] at h
  | .list _ :: r, ns, h => by simp [blsD] at h
  | .tuple _ :: r, ns, h => by simp [blsD] at h
  | .dict _ :: r, ns, h => by simp [blsD] at h
theorem RVs.toInts {K : PySem.W.Frag} {I : Hp} : ∀ {ns : List Int} {vs : List V}, RVs K I (ns.map .int) vs → vs = ns.map .int
  | [], vs, r => by
    simpa only [List.map_nil, RVs] using r
  | n :: ns, vs, r => by
    simp only [List.map_cons, RVs, RV] at r
    obtain ⟨v, t, e, q, z⟩ := r
    rw [e, q, RVs.toInts z, List.map_cons]
theorem RVs.toBls {K : PySem.W.Frag} {I : Hp} : ∀ {ns : List Bool} {vs : List V}, RVs K I (ns.map .bool) vs → vs = ns.map .bl
  | [], vs, r => by
    simpa only [List.map_nil, RVs] using r
  | n :: ns, vs, r => by
    simp only [List.map_cons, RVs, RV] at r
    obtain ⟨v, t, e, q, z⟩ := r
    rw [e, q, RVs.toBls z, List.map_cons]
theorem call_lenD {X : Cx} : CallR X (.builtin "len") (fun xs H Q => ∃ a kvs, xs = [.ref a] ∧ Rd H a (.dK kvs) ∧ Q (.int kvs.length) H) := by
  intro pins s σ H xs us Q I r h
  obtain ⟨a, kvs, rfl, hr, q⟩ := h
  rw [Vals.ref1 r]
  exact d_len I hr fun t s' I' => ⟨.int kvs.length, H, I', ⟨t, rfl⟩, q⟩
theorem cb_len {X : Cx} : CallR X (.builtin "len") (rN X.K fun env st xs => biX env st .len xs) := by
  intro pins s σ H xs us Q I r h
  obtain ⟨B, L, J, m, env, st, τ, ys, z, S, ra, e, k⟩ := h
  match ys, ra, e with
  | [], _, e => cases e
  | [x], ra, e =>
    obtain ⟨v, rfl, rx⟩ := rxs1 ra
    have e' : (match toD env st x with | some d => bi1 .len d | none => (match obX env st x with | some (.lst xs) => some (PyData.int xs.length) | some (.dic kvs) => some (.int kvs.length) | none => none)) = some z := e
    split at e'
    · rename_i d ed
      have rd := S.toD rx ed
      cases d with
      | list ds =>
        cases e'
        obtain ⟨a, vs, ea, ha, q⟩ := rd.lst S
        exact call_len_seq pins s σ H _ us Q I r ⟨a, vs, by rw [ea], .inl (.inl (.inl ha)), k.dat S (by simp [RV, q.length])⟩
      | tuple ds =>
        cases e'
        obtain ⟨a, vs, ea, ha, q⟩ := rd.tup S
        exact call_len_seq pins s σ H _ us Q I r ⟨a, vs, by rw [ea], .inr ha, k.dat S (by simp [RV, q.length])⟩
      | str t =>
        obtain ⟨hz, rfl⟩ := ite_some (show (if t.length ≤ sizeLine then some (PyData.int t.length) else none) = some z from e')
        exact call_len_str pins s σ H _ us Q I r ⟨t, by rw [rd.str], hz, k.dat S (by simp [RV])⟩
      | _ => cases e'
    · split at e'
      · rename_i xs eo
        cases e'
        obtain ⟨a, o, e1, e2, vs, e3, q⟩ := S.ob rx eo
        exact call_len_seq pins s σ H _ us Q I r ⟨a, vs, by rw [e1], .inl (.inl (.inl (by rw [e2, e3]))), k.dat S (by simp [RV, q.length])⟩
      · rename_i kvs eo
        cases e'
        obtain ⟨a, o, e1, e2, vs, e3, q⟩ := S.ob rx eo
        exact call_lenD pins s σ H _ us Q I r ⟨a, vs, by rw [e1], .inl (by rw [e2, e3]), k.dat S (by simp [RV, q.length])⟩
      · cases e'
  | _ :: _ :: _, _, e => cases e
/-- a built-in of one datum -/
theorem one {K : PySem.W.Frag} {b : Bi} {B : Bs} {L : List Addr} {J : Hp} {m : List Addr} {env : Lo} {st : Sto} {τ : L2.St} {H : Hp} {ys : List X} {xs : List V} {z : D}
    (S : SR K B L J m env st τ H) (hb : biX env st b = oneX env st b)
    (ra : RXs K J m τ ys xs) (e : biX env st b ys = some z) : ∃ x v d, ys = [x] ∧ xs = [v] ∧ RX K J m τ x v ∧ toD env st x = some d ∧ RH K J H d v ∧ bi1 b d = some z := by
  rw [hb] at e
  match ys, ra, e with
  | [], _, e => cases e
  | [x], ra, e =>
    obtain ⟨v, rfl, rx⟩ := rxs1 ra
    have e' : (match toD env st x with | some d => bi1 b d | none => none) = some z := e
    split at e'
    · rename_i d ed
      exact ⟨x, v, d, rfl, rfl, rx, ed, S.toD rx ed, e'⟩
    · cases e'
  | _ :: _ :: _, _, e => cases e
theorem cb_int {X : Cx} : CallR X (.type "int") (rN X.K fun env st xs => biX env st .int xs) := by
  intro pins s σ H xs us Q I r h
  obtain ⟨B, L, J, m, env, st, τ, ys, z, S, ra, e, k⟩ := h
  obtain ⟨x, v, d, rfl, rfl, rx, ed, rd, e'⟩ := one S rfl ra e
  cases d with
  | int i =>
    cases e'
    exact call_int1 pins s σ H _ us Q I r (.inl ⟨i, by rw [rd.int], k.dat S (by simp [RV])⟩)
  | bool i =>
    cases e'
    exact call_int1 pins s σ H _ us Q I r (.inr ⟨i, by rw [rd.bl], k.dat S (by simp [RV])⟩)
  | _ => cases e'
theorem cb_abs {X : Cx} : CallR X (.builtin "abs") (rN X.K fun env st xs => biX env st .abs xs) := by
  intro pins s σ H xs us Q I r h
  obtain ⟨B, L, J, m, env, st, τ, ys, z, S, ra, e, k⟩ := h
  obtain ⟨x, v, d, rfl, rfl, rx, ed, rd, e'⟩ := one S rfl ra e
  cases d with
  | int i =>
    cases e'
    exact call_abs pins s σ H _ us Q I r ⟨i, by rw [rd.int], k.dat S (by simp [RV])⟩
  | _ => cases e'
theorem cb_sum {X : Cx} (hc : X.calm = true) : CallR X (.builtin "sum") (rN X.K fun env st xs => biX env st .sum xs) := by
  intro pins s σ H xs us Q I r h
  obtain ⟨B, L, J, m, env, st, τ, ys, z, S, ra, e, k⟩ := h
  obtain ⟨x, v, d, rfl, rfl, rx, ed, rd, e'⟩ := one S rfl ra e
  cases d with
  | list ds =>
    have e2 : (match intsD ds with | some ns => some (PyData.int ns.sum) | none => none) = some z := e'
    split at e2
    · rename_i ns en
      cases e2
      obtain ⟨a, vs, ea, ha, q⟩ := rd.lst S
      rw [intsD_map en] at q
      exact cr_sum hc pins s σ H _ us Q I r ⟨a, ns, by rw [ea], .inl (.inl (by rw [ha, q.toInts])), k.dat S (by simp [RV])⟩
    · cases e2
  | _ => cases e'
theorem cb_any {X : Cx} (hc : X.calm = true) : CallR X (.builtin "any") (rN X.K fun env st xs => biX env st .any xs) := by
  intro pins s σ H xs us Q I r h
  obtain ⟨B, L, J, m, env, st, τ, ys, z, S, ra, e, k⟩ := h
  obtain ⟨x, v, d, rfl, rfl, rx, ed, rd, e'⟩ := one S rfl ra e
  cases d with
  | list ds =>
    have e2 : (match blsD ds with | some ns => some (PyData.bool (ns.any id)) | none => none) = some z := e'
    split at e2
    · rename_i ns en
      cases e2
      obtain ⟨a, vs, ea, ha, q⟩ := rd.lst S
      rw [blsD_map en] at q
      exact cr_any hc pins s σ H _ us Q I r ⟨a, ns, by rw [ea], .inl (.inl (by rw [ha, q.toBls])), k.dat S (by simp [RV])⟩
    · cases e2
  | _ => cases e'
theorem cb_all {X : Cx} (hc : X.calm = true) : CallR X (.builtin "all") (rN X.K fun env st xs => biX env st .all xs) := by
  intro pins s σ H xs us Q I r h
  obtain ⟨B, L, J, m, env, st, τ, ys, z, S, ra, e, k⟩ := h
  obtain ⟨x, v, d, rfl, rfl, rx, ed, rd, e'⟩ := one S rfl ra e
  cases d with
  | list ds =>
    have e2 : (match blsD ds with | some ns => some (PyData.bool (ns.all id)) | none => none) = some z := e'
    split at e2
    · rename_i ns en
      cases e2
      obtain ⟨a, vs, ea, ha, q⟩ := rd.lst S
      rw [blsD_map en] at q
      exact cr_all hc pins s σ H _ us Q I r ⟨a, ns, by rw [ea], .inl (.inl (by rw [ha, q.toBls])), k.dat S (by simp [RV])⟩
    · cases e2
  | _ => cases e'
theorem cb_tuple {X : Cx} : CallR X (.type "tuple") (rN X.K fun env st xs => biX env st .tuple xs) := by
  intro pins s σ H xs us Q I r h
  obtain ⟨B, L, J, m, env, st, τ, ys, z, S, ra, e, k⟩ := h
  obtain ⟨x, v, d, rfl, rfl, rx, ed, rd, e'⟩ := one S rfl ra e
  cases d with
  | list ds =>
    cases e'
    obtain ⟨a, vs, ea, ha, q⟩ := rd.lst S
    exact call_tuple_of pins s σ H _ us Q I r ⟨a, vs, by rw [ea], .inl ⟨.inl (.inl ha), k.tuple S q⟩⟩
  | tuple ds =>
    cases e'
    obtain ⟨a, vs, ea, ha, q⟩ := rd.tup S
    refine call_tuple_of pins s σ H _ us Q I r ⟨a, vs, by rw [ea], .inr ⟨ha, ?_⟩⟩
    rcases rd with rd | ⟨_, _, _, z, _⟩
    · rw [← ea]
      exact k.dat S rd
    · cases z
  | _ => cases e'
end EV

/-! EvH: more built-ins, allocations, methods by values. -/
namespace EV
open PySem PySem.Spec PyProof.Rows L2

theorem maxI_of {n : Int} {ns : List Int} : maxI (n :: ns) = some (PySem.W.maxOf n ns) := by
  have q : (fun a y : Int => if a < y then y else a) = fun a y => if PySem.W.DatumOrd.lt a y = true then y else a := by
    funext a y
    have e : (PySem.W.DatumOrd.lt a y) = decide (a < y) := rfl
    rw [e]
    by_cases h : a < y <;> simp [h]
  show some (ns.foldl (fun a y : Int => if a < y then y else a) n) = _
  rw [q]
  rfl
theorem minI_of {n : Int} {ns : List Int} : minI (n :: ns) = some (PySem.W.minOf n ns) := by
  have q : (fun a y : Int => if y < a then y else a) = fun a y => if PySem.W.DatumOrd.lt y a = true then y else a := by
    funext a y
    have e : (PySem.W.DatumOrd.lt y a) = decide (y < a) := rfl
    rw [e]
    by_cases h : y < a <;> simp [h]
  show some (ns.foldl (fun a y : Int => if y < a then y else a) n) = _
  rw [q]
  rfl
theorem cb_max1 {X : Cx} (hc : X.calm = true) (hu : X.A.units + 65 < cLine) : CallR X (.builtin "max") (rN X.K fun env st xs => biX env st .max1 xs) := by
  intro pins s σ H xs us Q I r h
  obtain ⟨B, L, J, m, env, st, τ, ys, z, S, ra, e, k⟩ := h
  obtain ⟨x, v, d, rfl, rfl, rx, ed, rd, e'⟩ := one S rfl ra e
  have e2 : (match itemsD d with | some ds => (match intsD ds with | some ns => (maxI ns).map PyData.int | none => none) | none => none) = some z := e'
  split at e2
  · rename_i ds ei
    split at e2
    · rename_i ns en
      cases ns with
      | nil => cases e2
      | cons n ns =>
        rw [maxI_of] at e2
        cases e2
        have ed2 := intsD_map en
        cases d with
        | list es =>
          cases ei
          obtain ⟨a, vs, ea, ha, q⟩ := rd.lst S
          rw [ed2] at q
          have hv := q.toInts
          subst hv
          obtain ⟨its, rv, hl, _⟩ := I.list (.inl (.inl ha))
          rw [ea] at r
          rw [Vals.ref1 r]
          refine PySem.W.max_list_datum (x := n) (xs := ns) (I.ok.hd hc) hl.isList (PySem.W.HoldAll.of_ints rv.ints) (by show X.A.units + 1 + 0 < cLine; omega) fun i u h' tk hi hh hk => ?_
          obtain ⟨t, rfl⟩ := PySem.W.int_of_holds hh
          exact ⟨.int _, H, I.kept hk, ⟨t, rfl⟩, k.dat S (by simp [RV])⟩
        | tuple es =>
          cases ei
          obtain ⟨a, vs, ea, ha, q⟩ := rd.tup S
          rw [ed2] at q
          have hv := q.toInts
          subst hv
          obtain ⟨its, rv, hl, _⟩ := I.tuple ha
          rw [ea] at r
          rw [Vals.ref1 r]
          refine PySem.W.max_tuple_datum (x := n) (xs := ns) (I.ok.hd hc) (show s.heap.IsTuple a its.toArray from hl) (PySem.W.HoldAll.of_ints rv.ints) (by show X.A.units + 1 + 0 < cLine; omega) fun i u h' tk hi hh hk => ?_
          obtain ⟨t, rfl⟩ := PySem.W.int_of_holds hh
          exact ⟨.int _, H, I.kept hk, ⟨t, rfl⟩, k.dat S (by simp [RV])⟩
        | _ => cases ei
    · cases e2
  · cases e2
theorem cb_min1 {X : Cx} (hc : X.calm = true) (hu : X.A.units + 65 < cLine) : CallR X (.builtin "min") (rN X.K fun env st xs => biX env st .min1 xs) := by
  intro pins s σ H xs us Q I r h
  obtain ⟨B, L, J, m, env, st, τ, ys, z, S, ra, e, k⟩ := h
  obtain ⟨x, v, d, rfl, rfl, rx, ed, rd, e'⟩ := one S rfl ra e
  have e2 : (match itemsD d with | some ds => (match intsD ds with | some ns => (minI ns).map PyData.int | none => none) | none => none) = some z := e'
  split at e2
  · rename_i ds ei
    split at e2
    · rename_i ns en
      cases ns with
      | nil => cases e2
      | cons n ns =>
        rw [minI_of] at e2
        cases e2
        have ed2 := intsD_map en
        cases d with
        | list es =>
          cases ei
          obtain ⟨a, vs, ea, ha, q⟩ := rd.lst S
          rw [ed2] at q
          have hv := q.toInts
          subst hv
          obtain ⟨its, rv, hl, _⟩ := I.list (.inl (.inl ha))
          rw [ea] at r
          rw [Vals.ref1 r]
          refine PySem.W.min_list_datum (x := n) (xs := ns) (I.ok.hd hc) hl.isList (PySem.W.HoldAll.of_ints rv.ints) (by show X.A.units + 1 + 0 < cLine; omega) fun i u h' tk hi hh hk => ?_
          obtain ⟨t, rfl⟩ := PySem.W.int_of_holds hh
          exact ⟨.int _, H, I.kept hk, ⟨t, rfl⟩, k.dat S (by simp [RV])⟩
        | tuple es =>
          cases ei
          obtain ⟨a, vs, ea, ha, q⟩ := rd.tup S
          rw [ed2] at q
          have hv := q.toInts
          subst hv
          obtain ⟨its, rv, hl, _⟩ := I.tuple ha
          rw [ea] at r
          rw [Vals.ref1 r]
          refine PySem.W.min_tuple_datum (x := n) (xs := ns) (I.ok.hd hc) (show s.heap.IsTuple a its.toArray from hl) (PySem.W.HoldAll.of_ints rv.ints) (by show X.A.units + 1 + 0 < cLine; omega) fun i u h' tk hi hh hk => ?_
          obtain ⟨t, rfl⟩ := PySem.W.int_of_holds hh
          exact ⟨.int _, H, I.kept hk, ⟨t, rfl⟩, k.dat S (by simp [RV])⟩
        | _ => cases ei
    · cases e2
  · cases e2
theorem two_of {ys : List X} {f : Int → Int → D} {z : D} (e : two f ys = some z) : ∃ i j, ys = [.d (.int i), .d (.int j)] ∧ z = f i j := by
  unfold two at e
  split at e
  · cases e
    exact ⟨_, _, rfl, rfl⟩
  · cases e
theorem two_ints {K : PySem.W.Frag} {J : Hp} {m : List Addr} {τ : L2.St} {ys : List X} {xs : List V} {f : Int → Int → D} {z : D}
    (ra : RXs K J m τ ys xs) (e : two f ys = some z) : ∃ i j, xs = [.int i, .int j] ∧ z = f i j := by
  obtain ⟨i, j, rfl, e2⟩ := two_of e
  obtain ⟨v, u, rfl, h1, h2⟩ := rxs2 ra
  have h1' : RV K J (.int i) v := h1
  have h2' : RV K J (.int j) u := h2
  simp only [RV] at h1' h2'
  exact ⟨i, j, by rw [h1', h2'], e2⟩
theorem cb_max2 {X : Cx} (hc : X.calm = true) : CallR X (.builtin "max") (rN X.K fun env st xs => biX env st .max2 xs) := by
  intro pins s σ H xs us Q I r h
  obtain ⟨B, L, J, m, env, st, τ, ys, z, S, ra, e, k⟩ := h
  obtain ⟨i, j, rfl, rfl⟩ := two_ints ra e
  exact call_max2 hc pins s σ H _ us Q I r ⟨i, j, rfl, k.dat S (by simp [RV])⟩
theorem cb_min2 {X : Cx} (hc : X.calm = true) : CallR X (.builtin "min") (rN X.K fun env st xs => biX env st .min2 xs) := by
  intro pins s σ H xs us Q I r h
  obtain ⟨B, L, J, m, env, st, τ, ys, z, S, ra, e, k⟩ := h
  obtain ⟨i, j, rfl, rfl⟩ := two_ints ra e
  exact call_min2 hc pins s σ H _ us Q I r ⟨i, j, rfl, k.dat S (by simp [RV])⟩
/-- repr of data -/
theorem cb_repr {X : Cx} (hg : X.A.guards = some []) (hu : X.A.units + 70 < cLine) : CallR X (.builtin "repr") (rN X.K fun env st xs => biX env st .repr xs) := by
  intro pins s σ H xs us Q I r h
  obtain ⟨B, L, J, m, env, st, τ, ys, z, S, ra, e, k⟩ := h
  obtain ⟨x, v, d, rfl, rfl, rx, ed, rd, e'⟩ := one S rfl ra e
  have e2 : (if d.showable && !d.hasDict && decide (d.shown.length ≤ sizeLine) && decide (d.depth ≤ 64) then some (PyData.str d.shown) else none) = some z := by
    cases d <;> exact e'
  obtain ⟨hz, rfl⟩ := ite_some e2
  simp only [Bool.and_eq_true, Bool.not_eq_true', decide_eq_true_eq] at hz
  obtain ⟨⟨⟨h1, h2⟩, h3⟩, h4⟩ := hz
  have dp := rd.dpN S h2
  have fin : ∀ {s' : Shared} {t : Tok}, Inv X pins σ H s' → EP X pins σ Q (.str d.shown t) s' := fun J' => ⟨.str _, H, J', ⟨_, rfl⟩, k.dat S (by simp [RV])⟩
  cases r with
  | cons ru rr =>
    cases rr
    rename_i u
    obtain ⟨as, rs⟩ := Dp.reads I d v u dp ru
    cases d with
    | none =>
      cases rd.non
      cases ru
      exact PySem.P.repr_of_none (by simpa [PyData.shown] using fin (I.tok _))
    | bool b =>
      cases rd.bl
      cases ru
      exact PySem.P.repr_of_bool (by simpa [PyData.shown] using fin (I.tok _))
    | int i =>
      cases rd.int
      obtain ⟨t, rfl⟩ := ru
      refine PySem.P.repr_of_int (by simpa [PyData.showable] using h1) (by simpa [PyData.shown] using fin (I.tok _))
    | str i =>
      cases rd.str
      obtain ⟨t, rfl⟩ := ru
      exact PySem.P.repr_of_str (by simpa [PyData.shown] using fin (I.tok _)) (by simpa [PyData.shown] using h3)
    | list ds =>
      obtain ⟨a, vs, rfl, _⟩ := rd.lst S
      obtain rfl : u = Value.ref a := ru
      refine repr_of_reads' rs h1 (fun q => by rw [h2] at q; cases q) hg (by omega) (fun _ _ q => q) (fun h' t tk hk => fin (I.kept hk)) h3
    | tuple ds =>
      obtain ⟨a, vs, rfl, _⟩ := rd.tup S
      obtain rfl : u = Value.ref a := ru
      refine repr_of_reads' rs h1 (fun q => by rw [h2] at q; cases q) hg (by omega) (fun _ _ q => q) (fun h' t tk hk => fin (I.kept hk)) h3
    | dict ds => simp [PyData.hasDict] at h2
/-- isinstance(x, T), T one of the names -/
def rIs (K : PySem.W.Frag) (t : String) : List V → Hp → VK → Prop := fun vs H Q => ∃ B L I m env st σ xa v z,
  vs = [v, .ty t] ∧ SR K B L I m env st σ H ∧ RX K I m σ xa v ∧ biX env st (.isI t) [xa] = some z ∧ Kt K B L I m env st σ (.d z) Q
def tyN : D → String
  | .none => "NoneType"
  | .bool _ => "bool"
  | .int _ => "int"
  | .str _ => "str"
  | .list _ => "list"
  | .tuple _ => "tuple"
  | .dict _ => "dict"
theorem kit_tab : ∀ d ∈ ([.none, .bool true, .int 0, .str Str.empty, .list [], .tuple [], .dict []] : List D), ∀ t ∈ tys, kitB (tyN d) t = some (isTy t d) := by
  intro d hd t ht
  simp only [List.mem_cons, List.not_mem_nil, or_false] at hd
  simp only [tys, List.mem_cons, List.not_mem_nil, or_false] at ht
  rcases hd with rfl | rfl | rfl | rfl | rfl | rfl | rfl <;> rcases ht with rfl | rfl | rfl | rfl | rfl | rfl <;> (simp only [tyN, isTy]; decide +kernel)
theorem kit_d (d : D) (t : String) (ht : tys.contains t = true) : kitB (tyN d) t = some (isTy t d) := by
  have ht' : t ∈ tys := by simpa using ht
  cases d with
  | none => exact kit_tab .none (by simp) t ht'
  | bool b => exact kit_tab (.bool true) (by simp) t ht'
  | int b => exact kit_tab (.int 0) (by simp) t ht'
  | str b => exact kit_tab (.str Str.empty) (by simp) t ht'
  | list b => exact kit_tab (.list []) (by simp) t ht'
  | tuple b => exact kit_tab (.tuple []) (by simp) t ht'
  | dict b => exact kit_tab (.dict []) (by simp) t ht'
theorem cb_isI {X : Cx} (t : String) : CallR X (.builtin "isinstance") (rIs X.K t) := by
  intro pins s σ H xs us Q I r h
  obtain ⟨B, L, J, m, env, st, τ, xa, v, z, rfl, S, ra, e, k⟩ := h
  cases xa with
  | d d =>
    obtain ⟨ht, rfl⟩ := ite_some (show (if tys.contains t then some (PyData.bool (isTy t d)) else none) = some z from e)
    have ra' : RV X.K J d v := ra
    refine call_isi pins s σ H _ us Q I r ⟨v, .ty t, .type (tyN d), .type t, isTy t d, rfl, .ty t, ?_, kit_ty (kit_d d t ht), k.dat S (by simp [RV])⟩
    cases d with
    | none =>
      simp only [RV] at ra'
      subst ra'
      exact .base .non
    | bool b =>
      simp only [RV] at ra'
      subst ra'
      exact .base (.bl b)
    | int b =>
      simp only [RV] at ra'
      subst ra'
      exact .base (.int b)
    | str b =>
      simp only [RV] at ra'
      subst ra'
      exact .base (.str b)
    | list b =>
      simp only [RV] at ra'
      obtain ⟨a, vs, e, q, _⟩ := ra'
      subst e
      exact .base (.lst (S.fz.lst q))
    | tuple b =>
      simp only [RV] at ra'
      obtain ⟨a, vs, e, q, _⟩ := ra'
      subst e
      rcases S.fz.sqT q with (q | ⟨o, q⟩) | ⟨o, its, n, q1, q2, _⟩
      · exact .base (.tup q)
      · exact .fTuple q
      · exact .kTuple q1 q2
    | dict b =>
      simp only [RV] at ra'
      obtain ⟨a, vs, e, q, _⟩ := ra'
      subst e
      rcases S.fz.rd q with q | ⟨o, q⟩
      · exact .base (.dK q)
      · exact .fDict q
  | _ => cases e
end EV

/-! EvI: temporaries, allocations, methods by values. -/
namespace EV
open PySem PySem.Spec PyProof.Rows L2

/-! ### a new object while other things run -/
def OwnA (env : Lo) (σ : L2.St) (a : Addr) : Prop := ∃ (i : Nat) (b : Ob), env[i]? = some (.own b) ∧ σ[i]? = some (some (.ref a))
open Classical in
noncomputable def reB (env : Lo) (σ : L2.St) (H I : Hp) (m : List Addr) : Bs := ⟨fun a => if OwnA env σ a then none else H a, I, m⟩
section
variable {K : PySem.W.Frag} {B : Bs} {L : List Addr} {I : Hp} {m : List Addr} {env : Lo} {st : Sto} {σ τ : L2.St} {H : Hp}
theorem reB_own {a : Addr} (h : OwnA env σ a) : (reB env σ H I m).H a = none := by
  unfold reB
  simp [h]
theorem reB_not {a : Addr} (h : ¬ OwnA env σ a) : (reB env σ H I m).H a = H a := by
  unfold reB
  simp [h]
theorem reB_some {a : Addr} {o : HO} (h : (reB env σ H I m).H a = some o) : ¬ OwnA env σ a ∧ H a = some o := by
  by_cases q : OwnA env σ a
  · rw [reB_own q] at h
    cases h
  · rw [reB_not q] at h
    exact ⟨q, h⟩
theorem SR.notOwn (S : SR K B L I m env st σ H) {a : Addr} (h : a ∈ m ∨ I a ≠ none ∨ B.H a ≠ none) : ¬ OwnA env σ a := by
  rintro ⟨i, b, h1, h2⟩
  obtain ⟨a', o, e1, e2, e3, e4, e5, e6⟩ := S.own i b h1
  rw [h2] at e1
  cases e1
  rcases h with h | h | h
  · exact e5 h
  · exact h e4
  · exact h e6
theorem SR.rebase (S : SR K B L I m env st σ H) : SR K (reB env σ H I m) [] I m env st σ H where
  el := S.el
  fz := S.fz
  nod := S.nod
  len := S.len
  sto := S.sto
  mI := S.mI
  val := S.val
  own := fun i b h => by
    obtain ⟨a, o, e1, e2, e3, e4, e5, e6⟩ := S.own i b h
    exact ⟨a, o, e1, e2, e3, e4, e5, reB_own ⟨i, b, h, e1⟩⟩
  inj := S.inj
  bI := fun a h => rfl
  bm := fun a h => .inl h
  bk := fun a o h hm => .inl (reB_some h).2
  bp := List.prefix_refl _
  bf := fun a u h => by
    have h' : I a = some u := h
    have q : ¬ OwnA env σ a := S.notOwn (.inr (.inl (by rw [h']; simp)))
    rw [reB_not q]
    exact S.fz a u h'
  bmI := fun a h => by
    rw [reB_not (S.notOwn (.inl h))]
    exact S.memS h
theorem SR.unbase (S : SR K B L I m env st σ H) {I' : Hp} {m' : List Addr} {env' : Lo} {st' : Sto} {H' : Hp} (R : SR K (reB env σ H I m) [] I' m' env' st' τ H') :
    SR K B L I' m' env' st' τ H' where
  el := R.el
  fz := R.fz
  nod := R.nod
  len := R.len
  sto := R.sto
  mI := R.mI
  val := R.val
  own := fun i b h => by
    obtain ⟨a, o, e1, e2, e3, e4, e5, e6⟩ := R.own i b h
    refine ⟨a, o, e1, e2, e3, e4, e5, ?_⟩
    cases q : B.H a with
    | none => rfl
    | some u =>
      rw [reB_not (S.notOwn (.inr (.inr (by rw [q]; simp))))] at e6
      exact absurd e6 (S.dom (by rw [q]; simp))
  inj := R.inj
  bI := fun a h => by
    have e : (reB env σ H I m).H a ≠ none := by
      rw [reB_not (S.notOwn (.inr (.inr h)))]
      exact S.dom h
    rw [R.bI a e]
    exact S.bI a h
  bm := fun a h => by
    rcases R.bm a h with q | q
    · exact S.bm a q
    · right
      cases e : B.H a with
      | none => rfl
      | some u =>
        have q' := q
        rw [reB_not (S.notOwn (.inr (.inr (by rw [e]; simp))))] at q'
        exact absurd q' (S.dom (by rw [e]; simp))
  bk := fun a o h hm => by
    have hm' : a ∉ m := fun q => by
      rcases S.bm a q with z | z
      · exact hm z
      · rw [z] at h
        cases h
    have no : ¬ OwnA env σ a := S.notOwn (.inr (.inr (by rw [h]; simp)))
    have kp : ∀ u, H a = some u → H' a = some u := fun u e => by
      rcases R.bk a u (by rw [reB_not no]; exact e) hm' with q | ⟨q, _⟩
      · exact q
      · cases q
    rcases S.bk a o h hm with q | ⟨q1, q2, ob, q⟩
    · exact .inl (kp o q)
    · exact .inr ⟨q1, q2, ob, kp _ q⟩
  bp := S.bp.trans R.bp
  bf := S.bf
  bmI := S.bmI
theorem Fr.through {p : Addr} {o : HO} (F : Fr K B L I m env st σ H p o) {I' : Hp} {m' : List Addr} {env' : Lo} {st' : Sto} {H' : Hp}
    (R : SR K (reB env σ H I m) [] I' m' env' st' τ H') : Fr K B L I' m' env' st' τ H' p o := by
  have no : ¬ OwnA env σ p := fun ⟨i, b, h1, h2⟩ => F.oN i b h1 h2
  have bh : (reB env σ H I m).H p = some o := by
    rw [reB_not no]
    exact F.at_
  refine ⟨F.sr.unbase R, ?_, ?_, fun q => ?_, F.bN, fun i b h e => ?_⟩
  · rcases R.bk p o bh F.mN with q | ⟨q, _⟩
    · exact q
    · cases q
  · rw [R.bI p (by rw [bh]; simp)]
    exact F.iN
  · rcases R.bm p q with z | z
    · exact F.mN z
    · rw [bh] at z
      cases z
  · obtain ⟨a, o', e1, _, _, _, _, e6⟩ := R.own i b h
    rw [e] at e1
    cases e1
    rw [bh] at e6
    cases e6
/-- nothing changes that is seen: a slot's temporary forgotten -/
theorem SR.le2 (S : SR K B L I m env st σ H) {I' : Hp} {m' : List Addr} {env' : Lo} {st' : Sto} {H' : Hp} (R : SR K (reB env σ H I m) [] I' m' env' st' τ H') : Le I I' ∧ m <+: m' :=
  ⟨R.le, R.bp⟩
end

/-! ### allocations -/
def Ka (K : PySem.W.Frag) (B : Bs) (L : List Addr) (I : Hp) (m : List Addr) (env : Lo) (st : Sto) (σ : L2.St) (b : Ob) (Q : VK) : Prop :=
  ∀ (p : Addr) (o : HO) (H' I' : Hp) (m' : List Addr), Fr K B L I' m' env st σ H' p o → Le I I' → m <+: m' → RO K I' m' b o → Q (.ref p) H'
section
variable {K : PySem.W.Frag} {B : Bs} {L : List Addr} {I : Hp} {m : List Addr} {env : Lo} {st : Sto} {σ : L2.St} {H : Hp} {Q : VK}
theorem Ka.new {b : Ob} (k : Ka K B L I m env st σ b Q) (S : SR K B L I m env st σ H) {o : HO} (r : RO K I m b o) : ∀ p, H p = none → Q (.ref p) (upd H p o) :=
  fun p h => k p o _ I m (S.alloc h o) (Le.refl I) (List.prefix_refl m) r
end
def rA1 (K : PySem.W.Frag) (F : Lo → Sto → X → Option Ob) : List V → Hp → VK → Prop := fun vs H Q => ∃ B L I m env st σ xa v b,
  vs = [v] ∧ SR K B L I m env st σ H ∧ RX K I m σ xa v ∧ F env st xa = some b ∧ Ka K B L I m env st σ b Q
theorem ca_list {X : Cx} : CallR X (.type "list") (rA1 X.K fun env st x => baX env st .list x) := by
  intro pins s σ H xs us Q I r h
  obtain ⟨B, L, J, m, env, st, τ, xa, v, b, rfl, S, ra, e, k⟩ := h
  have ob : (match obX env st xa with | some (.lst xs) => some (Ob.lst xs) | _ => none) = some b → wpAny (model X.prog X.w) X.A (call (.type "list") us) (EP X pins σ Q) X.xe s := by
    intro h
    split at h
    · rename_i xs eo
      cases h
      obtain ⟨a, o, e1, e2, vs, e3, q⟩ := S.ob ra eo
      exact call_list_of pins s σ H _ us Q I r ⟨a, vs, by rw [e1], .inl (.inl (.inl (by rw [e2, e3]))), k.new S ⟨vs, rfl, q⟩⟩
    · cases h
  cases xa with
  | d d =>
    cases d with
    | tuple ds =>
      cases e
      have ra' : RV X.K J (.tuple ds) v := ra
      simp only [RV] at ra'
      obtain ⟨a, vs, e1, q1, q2⟩ := ra'
      exact call_list_of pins s σ H _ us Q I r ⟨a, vs, by rw [e1], .inr (S.fz.sqT q1), k.new S ⟨vs, rfl, REs.ofD q2⟩⟩
    | _ => exact ob e
  | _ => exact ob e

/-! sorted -/
theorem RVs.zip {K : PySem.W.Frag} {I : Hp} : ∀ {ds : List D} {vs : List V}, RVs K I ds vs → ∀ b ∈ vs.zip ds, RV K I b.2 b.1
  | [], vs, r => by
    simp only [RVs] at r
    subst r
    intro b hb
    simp at hb
  | d :: ds, vs, r => by
    simp only [RVs] at r
    obtain ⟨v, t, e, q, z⟩ := r
    subst e
    intro b hb
    rw [List.zip_cons_cons] at hb
    rcases List.mem_cons.mp hb with rfl | hb
    · exact q
    · exact RVs.zip z b hb
theorem RVs.unzip {K : PySem.W.Frag} {I : Hp} : ∀ {bs : List (V × D)}, (∀ b ∈ bs, RV K I b.2 b.1) → RVs K I (bs.map (·.2)) (bs.map (·.1))
  | [], _ => by simp [RVs]
  | b :: bs, h => by
    simp only [List.map_cons, RVs]
    exact ⟨b.1, bs.map (·.1), rfl, h b List.mem_cons_self, RVs.unzip fun c hc => h c (List.mem_cons_of_mem _ hc)⟩
theorem hasDict_mem : ∀ {ds : List D}, PyData.hasDictAll ds = false → ∀ d ∈ ds, d.hasDict = false
  | [], _, d, h => by simp at h
  | c :: ds, e, d, h => by
    have e' : c.hasDict = false ∧ PyData.hasDictAll ds = false := by simpa [PyData.hasDictAll] using e
    rcases List.mem_cons.mp h with rfl | h
    · exact e'.1
    · exact hasDict_mem e'.2 d h
theorem each_zip {s : Heap} : ∀ {its : List Value} {vs : List V} {ds : List D}, Vals vs its → vs.length = ds.length →
    (∀ b ∈ vs.zip ds, ∀ u, RelV b.1 u → ∃ as, Reads s u b.2 as) → PySem.W.EachIs (fun u (b : V × D) => RelV b.1 u ∧ ∃ as, Reads s u b.2 as) its (vs.zip ds)
  | _, _, [], .nil, _, _ => .nil
  | _, _, d :: ds, .nil, h, _ => by simp at h
  | _, _, [], .cons r t, h, _ => by simp at h
  | _, _, d :: ds, .cons r t, h, f => by
    rw [List.zip_cons_cons]
    refine .cons ⟨r, f _ (by rw [List.zip_cons_cons]; exact List.mem_cons_self) _ r⟩ (each_zip t (by simpa using h) fun b hb => f b (by rw [List.zip_cons_cons]; exact List.mem_cons_of_mem _ hb))
theorem each_vals : ∀ {out : List Value} {bs : List (V × D)} {R : Value → V × D → Prop}, PySem.W.EachIs R out bs → (∀ u b, R u b → RelV b.1 u) → Vals (bs.map (·.1)) out
  | _, _, _, .nil, _ => .nil
  | _, _, _, .cons r t, f => .cons (f _ _ r) (each_vals t f)
theorem map_snd_zip {α β : Type} : ∀ {xs : List α} {ys : List β}, xs.length = ys.length → (xs.zip ys).map (·.2) = ys
  | [], [], _ => rfl
  | [], _ :: _, h => by simp at h
  | _ :: _, [], h => by simp at h
  | x :: xs, y :: ys, h => by
    rw [List.zip_cons_cons, List.map_cons, map_snd_zip (by simpa using h)]
theorem ca_sorted {X : Cx} (hu : X.A.units + 70 < cLine) : CallR X (.builtin "sorted") (rA1 X.K fun env st x => baX env st .sorted x) := by
  intro pins s σ H xs us Q I r h
  obtain ⟨B, L, J, m, env, st, τ, xa, v, b, rfl, S, ra, e, k⟩ := h
  have e' : (match toD env st xa with | some d => (match listD d with | some ds => if sortOk ds then some (Ob.lst ((sortD ds).map .d)) else none | none => none) | none => none) = some b := e
  split at e'
  · rename_i d ed
    split at e'
    · rename_i ds el
      obtain ⟨hz, rfl⟩ := ite_some e'
      cases d with
      | list es =>
        cases el
        obtain ⟨a, vs, ea, ha, q⟩ := (S.toD ra ed).lst S
        unfold sortOk at hz
        simp only [Bool.and_eq_true, decide_eq_true_eq, List.all_eq_true, Bool.not_eq_true', Bool.or_eq_true] at hz
        obtain ⟨⟨⟨⟨h1, h2⟩, h3⟩, h4⟩, h5⟩ := hz
        obtain ⟨its, rv, hl, _⟩ := I.list (.inl (.inl ha))
        have hlen : vs.length = ds.length := q.length
        have e0 := each_zip (s := s.heap) (ds := ds) rv hlen fun b hb u ru =>
          Dp.reads I b.2 b.1 u (RV.dp S.fz b.2 b.1 (hasDict_mem h5 b.2 (List.of_mem_zip hb).2) (q.zip b hb)) ru
        have esnd : (vs.zip ds).map (·.2) = ds := map_snd_zip hlen
        have hzl : (vs.zip ds).length = ds.length := by rw [List.length_zip, hlen, Nat.min_self]
        rw [ea] at r
        rw [Vals.ref1 r]
        refine PySem.W.sorted_data (enc := fun b : V × D => b.2) hl.isList e0 (e0.mono fun _ _ z => z.2) ?_ ?_ (by rw [hzl]; exact h4) (fun b hb => ?_) fun out hout eo => ?_
        · intro c hc c' hc'
          rw [esnd] at hc hc'
          exact h1 c hc c' hc'
        · rw [esnd]
          rcases h2 with h2 | h2
          · left
            intro c hc
            have := h2 c hc
            cases c with
            | tuple xs =>
              cases xs with
              | nil => simp [hasT] at this
              | cons y ys => exact ⟨y, ys, rfl⟩
            | _ => simp [hasT] at this
          · right
            intro c hc
            have := h2 c hc
            cases c with
            | tuple xs => simp [noT] at this
            | none => simp [noT] at this
            | _ => exact ⟨by simp, by simp⟩
        · have : (b.2).depth ≤ 64 := h3 b.2 (List.of_mem_zip hb).2
          show X.A.units + 2 + (b.2).depth < cLine
          omega
        · have vv := each_vals eo fun u b z => z.1
          have rr : RVs X.K J (((vs.zip ds).mergeSort (PySem.W.dataLe false fun b : V × D => b.2)).map (·.2)) (((vs.zip ds).mergeSort (PySem.W.dataLe false fun b : V × D => b.2)).map (·.1)) :=
            RVs.unzip fun b hb => q.zip b (List.mem_mergeSort.mp hb)
          have es2 : ((vs.zip ds).mergeSort (PySem.W.dataLe false fun b : V × D => b.2)).map (·.2) = sortD ds := by
            unfold sortD
            have hm := List.map_mergeSort (r := PySem.W.dataLe false fun b : V × D => b.2) (s := PySem.W.dataLe false id) (f := fun b : V × D => b.2) (l := vs.zip ds) (fun _ _ _ _ => rfl)
            exact hm.trans (by rw [esnd])
          rw [es2] at rr
          obtain ⟨c, hc⟩ := sortedAll_at s.heap its out.toArray
          have hp : s.heap.objs.size ≤ s.heap.objs.size + 1 := Nat.le_succ _
          have hn : H (s.heap.objs.size + 1) = none := I.hok.fresh hp
          have hlo : (((vs.zip ds).mergeSort (PySem.W.dataLe false fun b : V × D => b.2)).map (·.1)).length ≤ sizeLine := by
            rw [List.length_map, List.length_mergeSort, hzl]
            exact h4
          refine ⟨.ref _, _, I.laid (a := s.heap.objs.size + 1) (o := .lst _) (t' := s.toks) (fun b o z => sortedAll_old z) hp ⟨hlo, out, c, vv, hc⟩, rfl, ?_⟩
          exact k.new S ⟨_, rfl, REs.ofD rr⟩ _ hn
      | _ => cases el
    · cases e'
  · cases e'
end EV

/-! EvJ: readings of the evaluator; slots of a comprehension; what is walked; targets. -/
namespace EV
open PySem PySem.Spec PyProof.Rows L2

def rE (K : PySem.W.Frag) (F : Ev X) : TE := fun σ H Q => ∃ B L I m env st x env' st', SR K B L I m env st σ H ∧ F env st = some (x, env', st') ∧
  ∀ (v : V) (H' I' : Hp) (m' : List Addr), SR K B L I' m' env' st' σ H' → Le I I' → m <+: m' → RX K I' m' σ x v → Q v H'
def rT (K : PySem.W.Frag) (F : Ev Bool) : TT := fun σ H Q => ∃ B L I m env st x env' st', SR K B L I m env st σ H ∧ F env st = some (x, env', st') ∧
  ∀ (H' I' : Hp) (m' : List Addr), SR K B L I' m' env' st' σ H' → Le I I' → m <+: m' → Q x H'
def rEs (K : PySem.W.Frag) (F : Ev (List X)) : TA := fun σ H Q => ∃ B L I m env st xs env' st', SR K B L I m env st σ H ∧ F env st = some (xs, env', st') ∧
  ∀ (vs : List V) (H' I' : Hp) (m' : List Addr), SR K B L I' m' env' st' σ H' → Le I I' → m <+: m' → RXs K I' m' σ xs vs → Q vs H'
def rA (K : PySem.W.Frag) (F : Ev Ob) : TE := fun σ H Q => ∃ B L I m env st b env' st', SR K B L I m env st σ H ∧ F env st = some (b, env', st') ∧
  ∀ (p : Addr) (o : HO) (H' I' : Hp) (m' : List Addr), Fr K B L I' m' env' st' σ H' p o → Le I I' → m <+: m' → RO K I' m' b o → Q (.ref p) H'
def rP (K : PySem.W.Frag) (F : Ev (Option Int)) : TO := fun σ H Q => ∃ B L I m env st x env' st', SR K B L I m env st σ H ∧ F env st = some (x, env', st') ∧
  ∀ (H' I' : Hp) (m' : List Addr), SR K B L I' m' env' st' σ H' → Le I I' → m <+: m' → Q x H'

section
variable {X : Cx} {e tg : Expr}
theorem pe_imp {t t' : TE} (h : PE X e t) (k : ∀ σ H Q, t' σ H Q → t σ H Q) : PE X e t' := ⟨fun pins s σ H Q I q => h.run pins s σ H Q I (k σ H Q q)⟩
theorem pt_imp {t t' : TT} (h : PT X e t) (k : ∀ σ H Q, t' σ H Q → t σ H Q) : PT X e t' := ⟨fun pins s σ H Q I q => h.run pins s σ H Q I (k σ H Q q)⟩
theorem pw_imp {t t' : TT} (h : PW X e t) (k : ∀ σ H Q, t' σ H Q → t σ H Q) : PW X e t' := ⟨fun w pins s σ H Q I q => h.run w pins s σ H Q I (k σ H Q q)⟩
theorem pa_imp {es : List Expr} {t t' : TA} (h : PA X es t) (k : ∀ σ H Q, t' σ H Q → t σ H Q) : PA X es t' := ⟨fun pos pins s σ H Q I q => h.run pos pins s σ H Q I (k σ H Q q)⟩
theorem po_imp {o : Option Expr} {t t' : TO} (h : PO X o t) (k : ∀ σ H Q, t' σ H Q → t σ H Q) : PO X o t' := ⟨fun pins s σ H Q I q => h.run pins s σ H Q I (k σ H Q q)⟩
theorem pi_imp {t t' : TI} (h : PI X tg e t) (k : ∀ σ H R, t' σ H R → t σ H R) : PI X tg e t' := ⟨fun pins s σ H R I q => h.run pins s σ H R I (k σ H R q)⟩
theorem pi_or {t t' : TI} (h : PI X tg e t) (h' : PI X tg e t') : PI X tg e (fun σ H R => t σ H R ∨ t' σ H R) :=
  ⟨fun pins s σ H R I q => q.elim (fun q => h.run pins s σ H R I q) fun q => h'.run pins s σ H R I q⟩
theorem pe_or2 {t t' : TE} (h : PE X e t) (h' : PE X e t') : PE X e (fun σ H R => t σ H R ∨ t' σ H R) :=
  ⟨fun pins s σ H R I q => q.elim (fun q => h.run pins s σ H R I q) fun q => h'.run pins s σ H R I q⟩
end

/-! ### a comprehension's slots -/
theorem wipe_get {σ : L2.St} {j : Nat} : ∀ {vs : List Nat}, (wipe σ vs)[j]? = if j ∈ vs then (if j < σ.length then some none else none) else σ[j]?
  | [] => by simp [wipe]
  | v :: vs => by
    unfold wipe
    by_cases h : v = j
    · subst h
      by_cases hl : v < σ.length
      · rw [List.getElem?_set_self (by rw [wipe_length]; exact hl)]
        simp [hl]
      · rw [List.getElem?_eq_none (by simp [wipe_length]; omega)]
        simp [hl]
    · rw [List.getElem?_set_ne h, wipe_get]
      have : (j ∈ v :: vs) ↔ j ∈ vs := by simp [show ¬ j = v from fun z => h z.symm]
      simp only [this]
theorem wipeL_len {env : Lo} : ∀ {vs : List Nat}, (wipeL env vs).length = env.length
  | [] => rfl
  | v :: vs => by
    unfold wipeL
    rw [List.length_set, wipeL_len]
theorem wipeL_get {env : Lo} {j : Nat} : ∀ {vs : List Nat}, (wipeL env vs)[j]? = if j ∈ vs then (if j < env.length then some .no else none) else env[j]?
  | [] => by simp [wipeL]
  | v :: vs => by
    unfold wipeL
    by_cases h : v = j
    · subst h
      by_cases hl : v < env.length
      · rw [List.getElem?_set_self (by rw [wipeL_len]; exact hl)]
        simp [hl]
      · rw [List.getElem?_eq_none (by simp [wipeL_len]; omega)]
        simp [hl]
    · rw [List.getElem?_set_ne h, wipeL_get]
      have : (j ∈ v :: vs) ↔ j ∈ vs := by simp [show ¬ j = v from fun z => h z.symm]
      simp only [this]
theorem restL_len {env old : Lo} : ∀ {vs : List Nat}, (restL env old vs).length = env.length
  | [] => rfl
  | v :: vs => by
    unfold restL
    rw [List.length_set, restL_len]
theorem restL_get {env old : Lo} {j : Nat} : ∀ {vs : List Nat}, (restL env old vs)[j]? = if j ∈ vs then (if j < env.length then some (match old[j]? with | some s => s | none => .no) else none) else env[j]?
  | [] => by simp [restL]
  | v :: vs => by
    unfold restL
    by_cases h : v = j
    · subst h
      by_cases hl : v < env.length
      · rw [List.getElem?_set_self (by rw [restL_len]; exact hl)]
        simp [hl]
        try (cases old[v]? <;> rfl)
      · rw [List.getElem?_eq_none (by simp [restL_len]; omega)]
        simp [hl]
    · rw [List.getElem?_set_ne h, restL_get]
      have : (j ∈ v :: vs) ↔ j ∈ vs := by simp [show ¬ j = v from fun z => h z.symm]
      simp only [this]
/-- outside vs nothing differs -/
def SameBut (vs : List Nat) (σ τ : L2.St) : Prop := τ.length = σ.length ∧ ∀ j, j ∉ vs → τ[j]? = σ[j]?
theorem wipe_same {vs : List Nat} {σ τ : L2.St} (h : SameBut vs (wipe σ vs) τ) : wipe τ vs = wipe σ vs := by
  apply List.ext_getElem?
  intro j
  have hl : τ.length = σ.length := by rw [h.1, wipe_length]
  rw [wipe_get, wipe_get, hl]
  by_cases hj : j ∈ vs
  · simp [hj]
  · simp only [hj, if_false]
    rw [h.2 j hj, wipe_get]
    simp [hj]
section
variable {K : PySem.W.Frag} {B : Bs} {L : List Addr} {I : Hp} {m : List Addr} {env : Lo} {st : Sto} {σ : L2.St} {H : Hp}
theorem SR.wipe (S : SR K B L I m env st σ H) : ∀ vs : List Nat, SR K B L I m (wipeL env vs) st (L2.wipe σ vs) H
  | [] => S
  | v :: vs => (SR.wipe S vs).clear
theorem SR.rest {vs : List Nat} (S0 : SR K B L I m env st σ H) (hno : noOwn env vs = true) {I' : Hp} {m' : List Addr} {e : Lo} {st' : Sto} {H' : Hp}
    (R : SR K B L I' m' (wipeL e vs) st' (L2.wipe σ vs) H') (le : Le I I') (pre : m <+: m') : SR K B L I' m' (restL e env vs) st' σ H' where
  el := by
    have h1 := R.el
    rw [wipeL_len, wipe_length] at h1
    rw [restL_len, h1]
  fz := R.fz
  nod := R.nod
  len := R.len
  sto := R.sto
  mI := R.mI
  val := fun i x h => by
    rw [restL_get] at h
    by_cases hj : i ∈ vs
    · simp only [hj, if_true] at h
      split at h
      · cases q : env[i]? with
        | none =>
          rw [q] at h
          cases h
        | some s =>
          rw [q] at h
          cases h
          obtain ⟨v, e1, e2⟩ := S0.val i x q
          exact ⟨v, e1, e2.mono le pre⟩
      · cases h
    · simp only [hj, if_false] at h
      obtain ⟨v, e1, e2⟩ := R.val i x (by rw [wipeL_get]; simp only [hj, if_false]; exact h)
      rw [wipe_get] at e1
      simp only [hj, if_false] at e1
      exact ⟨v, e1, e2⟩
  own := fun i b h => by
    rw [restL_get] at h
    by_cases hj : i ∈ vs
    · simp only [hj, if_true] at h
      split at h
      · cases q : env[i]? with
        | none =>
          rw [q] at h
          cases h
        | some s =>
          rw [q] at h
          cases h
          have := List.all_eq_true.mp hno i hj
          rw [q] at this
          cases this
      · cases h
    · simp only [hj, if_false] at h
      obtain ⟨a, o, e1, e2⟩ := R.own i b (by rw [wipeL_get]; simp only [hj, if_false]; exact h)
      rw [wipe_get] at e1
      simp only [hj, if_false] at e1
      exact ⟨a, o, e1, e2⟩
  inj := fun i j b c a h1 h2 e1 e2 => by
    have no : ∀ i b, (restL e env vs)[i]? = some (.own b) → i ∉ vs ∧ e[i]? = some (.own b) := fun i b h => by
      rw [restL_get] at h
      by_cases hj : i ∈ vs
      · simp only [hj, if_true] at h
        split at h
        · cases q : env[i]? with
          | none =>
            rw [q] at h
            cases h
          | some s =>
            rw [q] at h
            cases h
            have := List.all_eq_true.mp hno i hj
            rw [q] at this
            cases this
        · cases h
      · simp only [hj, if_false] at h
        exact ⟨hj, h⟩
    obtain ⟨n1, q1⟩ := no i b h1
    obtain ⟨n2, q2⟩ := no j c h2
    exact R.inj i j b c a (by rw [wipeL_get]; simp only [n1, if_false]; exact q1) (by rw [wipeL_get]; simp only [n2, if_false]; exact q2)
      (by rw [wipe_get]; simp only [n1, if_false]; exact e1) (by rw [wipe_get]; simp only [n2, if_false]; exact e2)
  bI := R.bI
  bm := R.bm
  bk := R.bk
  bp := R.bp
  bf := R.bf
  bmI := R.bmI
end

/-! ### targets -/
mutual
def idx : T → List Nat
  | .nm i => [i]
  | .tup ts => idxs ts
def idxs : List T → List Nat
  | [] => []
  | t :: ts => idx t ++ idxs ts
end
def rG (K : PySem.W.Frag) (t : T) : TG := fun v σ H Q => ∃ B L I m env st x env', SR K B L I m env st σ H ∧ RX K I m σ x v ∧ asgT t x env = some env' ∧
  ∀ σ', SR K B L I m env' st σ' H → SameBut (idx t) σ σ' → Q σ' H
def rGs (K : PySem.W.Frag) (ts : List T) : TGs := fun vs σ H Q => ∃ B L I m env st xs env', SR K B L I m env st σ H ∧ REs K I m xs vs ∧ asgTs ts xs env = some env' ∧
  ∀ σ', SR K B L I m env' st σ' H → SameBut (idxs ts) σ σ' → Q σ' H
theorem SameBut.refl (vs : List Nat) (σ : L2.St) : SameBut vs σ σ := ⟨rfl, fun _ _ => rfl⟩
theorem SameBut.trans {vs ws : List Nat} {σ τ υ : L2.St} (h : SameBut vs σ τ) (k : SameBut ws τ υ) : SameBut (vs ++ ws) σ υ :=
  ⟨k.1.trans h.1, fun j hj => (k.2 j fun z => hj (List.mem_append_right _ z)).trans (h.2 j fun z => hj (List.mem_append_left _ z))⟩
theorem SameBut.sub {vs ws : List Nat} {σ τ : L2.St} (h : SameBut vs σ τ) (k : ∀ j ∈ vs, j ∈ ws) : SameBut ws σ τ := ⟨h.1, fun j hj => h.2 j fun z => hj (k j z)⟩
theorem SameBut.set {i : Nat} {σ : L2.St} {w : Option V} : SameBut [i] σ (σ.set i w) :=
  ⟨by simp, fun j hj => List.getElem?_set_ne (fun z => hj (by simp [z]))⟩
theorem RX.re {K : PySem.W.Frag} {I : Hp} {m : List Addr} {σ : L2.St} {x : X} {v : V} (r : RX K I m σ x v) (h : x.isO = false) : RE K I m x v := by
  cases x with
  | d d => exact r
  | l n => exact r
  | o n => cases h
  | k ds => exact r
section
variable {X : Cx}
theorem pg_nm {i : Nat} {x : Str} {pos : Pos} (hN : X.N.Nodup) (hi : X.N[i]? = some x) (hx : Loc X.env.scope x) (hf : X.fn x = true ∨ X.env.scope.names.lookup x = some .local) :
    PG X (.Name x pos) (rG X.K (.nm i)) := by
  constructor
  intro pins s σ H v u Q I r h
  obtain ⟨B, L, J, m, env, st, y, env', S, ry, e, k⟩ := h
  unfold asgT at e
  split at e
  · cases e
  · rename_i hy
    cases e
    have hy' : y.isO = false := by simpa using hy
    exact (pg_name hN hi hx hf).run pins s σ H v u Q I r (k _ (S.setV (ry.re hy')) SameBut.set)
theorem pgs_nl : PGs X [] (rGs X.K []) := by
  constructor
  intro pins s σ H vs us Q I r h
  obtain ⟨B, L, J, m, env, st, y, env', S, ry, e, k⟩ := h
  cases y with
  | nil =>
    cases e
    have : vs = [] := ry
    subst this
    exact pgs_nil.run pins s σ H [] us Q I r ⟨rfl, k σ S (SameBut.refl _ _)⟩
  | cons a b => cases e
theorem pgs_cn {e : Expr} {es : List Expr} {t : T} {ts : List T} (h1 : PG X e (rG X.K t)) (h2 : PGs X es (rGs X.K ts))
    (hs : (assignEach (e :: es) X.env).map (·.2) = assign e X.env :: (assignEach es X.env).map (·.2)) : PGs X (e :: es) (rGs X.K (t :: ts)) := by
  constructor
  intro pins s σ H vs us Q I r h
  obtain ⟨B, L, J, m, env, st, y, env', S, ry, e2, k⟩ := h
  cases y with
  | nil => cases e2
  | cons x xs =>
    obtain ⟨v, vr, rfl, rx, rxs⟩ := ry
    have e3 : (match asgT t x env with | some e => asgTs ts xs e | none => none) = some env' := e2
    split at e3
    · rename_i env1 e4
      refine (pgs_cons h1 h2 hs).run pins s σ H (v :: vr) us Q I r ⟨v, vr, rfl, B, L, J, m, env, st, x, env1, S, rx.rx, e4, fun σ1 S1 b1 => ?_⟩
      exact ⟨B, L, J, m, env1, st, xs, env', S1, rxs, e3, fun σ2 S2 b2 => k σ2 S2 (b1.trans b2)⟩
    · cases e3
theorem asgTs_len : ∀ {ts : List T} {xs : List EV.X} {env env' : Lo}, asgTs ts xs env = some env' → xs.length = ts.length
  | [], [], _, _, _ => rfl
  | [], _ :: _, _, _, h => by cases h
  | _ :: _, [], _, _, h => by cases h
  | t :: ts, x :: xs, env, env', h => by
    have e3 : (match asgT t x env with | some e => asgTs ts xs e | none => none) = some env' := h
    split at e3
    · rw [List.length_cons, List.length_cons, asgTs_len e3]
    · cases e3
theorem pg_tp {es : List Expr} {kk : Nat} {pos : Pos} {ts : List T} (hc : X.calm = true) (h : PGs X es (rGs X.K ts)) (hn : (assignEach es X.env).length = ts.length)
    (hst : (assignEach es X.env).findIdx? (·.1) = none) : PG X (.Tuple es kk pos) (rG X.K (.tup ts)) := by
  constructor
  intro pins s σ H v u Q I r hw
  obtain ⟨B, L, J, m, env, st, y, env', S, ry, e2, k⟩ := hw
  cases y with
  | d d =>
    cases d with
    | tuple ds =>
      have ry' : RV X.K J (.tuple ds) v := ry
      simp only [RV] at ry'
      obtain ⟨a, vs, ea, ha, q⟩ := ry'
      have e3 : asgTs ts (ds.map .d) env = some env' := e2
      have hl := asgTs_len e3
      rw [List.length_map] at hl
      exact (pg_tup hc h hn hst).run pins s σ H v u Q I r ⟨a, vs, ea, S.fz.sqT ha, by rw [q.length, hl], B, L, J, m, env, st, _, env', S, REs.ofD q, e3, k⟩
    | _ => cases e2
  | _ => cases e2
end

/-! ### what is walked -/
def Wk (K : PySem.W.Frag) (J : L2.It) (xs : List X) (I0 : Hp) (m0 : List Addr) : Prop :=
  ∀ (B : Bs) (L : List Addr) (I : Hp) (m : List Addr) (env : Lo) (st : Sto) (σ : L2.St) (H : Hp), SR K B L I m env st σ H → Le I0 I → m0 <+: m → ∀ i,
    (∀ x, xs[i]? = some x → J.go i H ∧ ∀ v H', J.yld i H v H' → ∃ I', SR K B L I' m env st σ H' ∧ Le I I' ∧ RE K I' m x v) ∧ (xs.length ≤ i → J.stop i H)
def rIt (K : PySem.W.Frag) (F : Ev (List X)) : TI := fun σ H R => ∃ B L I m env st xs env' st', SR K B L I m env st σ H ∧ F env st = some (xs, env', st') ∧
  ∀ (J : L2.It) (H' I' : Hp) (m' : List Addr), SR K B L I' m' env' st' σ H' → Le I I' → m <+: m' → Wk K J xs I' m' → R J H'
section
variable {K : PySem.W.Frag} {I : Hp} {m : List Addr}
theorem wk_list {a : Addr} {vs : List V} {ds : List D} (h : SqL K I a vs) (r : RVs K I ds vs) : Wk K (Itl K a) (ds.map .d) I m := by
  intro B L J n env st σ H S le pre i
  have hs := S.fz.sqL (le.sqL h)
  refine ⟨fun x hx => ?_, fun hi => ⟨vs, hs, by rw [r.length]; simpa using hi⟩⟩
  obtain ⟨v, hv, q⟩ := (REs.ofD (m := m) r).get hx
  refine ⟨⟨vs, v, hs, hv⟩, fun u H' y => ?_⟩
  obtain ⟨rfl, y⟩ := y
  have := y vs hs
  rw [hv] at this
  cases this
  exact ⟨J, S, Le.refl J, q.mono le pre⟩
theorem wk_tup {a : Addr} {vs : List V} {ds : List D} (h : SqT K I a vs) (r : RVs K I ds vs) : Wk K (Itt K a) (ds.map .d) I m := by
  intro B L J n env st σ H S le pre i
  have hs := S.fz.sqT (le.sqT h)
  refine ⟨fun x hx => ?_, fun hi => ⟨vs, hs, by rw [r.length]; simpa using hi⟩⟩
  obtain ⟨v, hv, q⟩ := (REs.ofD (m := m) r).get hx
  refine ⟨⟨vs, v, hs, hv⟩, fun u H' y => ?_⟩
  obtain ⟨rfl, y⟩ := y
  have := y vs hs
  rw [hv] at this
  cases this
  exact ⟨J, S, Le.refl J, q.mono le pre⟩
theorem wk_str {s : Str} : Wk K (Its s) (s.cps.toList.map fun c => .d (.str ⟨#[c]⟩)) I m := by
  intro B L J n env st σ H S le pre i
  refine ⟨fun x hx => ?_, fun hi => by show s.cps.size ≤ i; simpa using hi⟩
  rw [List.getElem?_map] at hx
  cases e : s.cps.toList[i]? with
  | none =>
    rw [e] at hx
    cases hx
  | some c =>
    rw [e] at hx
    cases hx
    have e' : s.cps[i]? = some c := by rw [← Array.getElem?_toList]; exact e
    refine ⟨?_, fun u H' y => ?_⟩
    · show i < s.cps.size
      exact (Array.getElem?_eq_some_iff.mp e').1
    · obtain ⟨rfl, c', h1, rfl⟩ := y
      rw [e'] at h1
      cases h1
      refine ⟨J, S, Le.refl J, ?_⟩
      show RV K J (.str ⟨#[c]⟩) _
      simp only [RV]
theorem rgL_get : ∀ {n : Nat} {lo : Int} {i : Nat} {x : X}, (rgL lo n)[i]? = some x → i < n ∧ x = .d (.int (lo + i))
  | 0, lo, i, x, h => by simp [rgL] at h
  | n + 1, lo, 0, x, h => by
    simp only [rgL, List.getElem?_cons_zero, Option.some.injEq] at h
    subst h
    exact ⟨Nat.succ_pos _, by simp⟩
  | n + 1, lo, i + 1, x, h => by
    simp only [rgL, List.getElem?_cons_succ] at h
    obtain ⟨h1, h2⟩ := rgL_get h
    refine ⟨by omega, ?_⟩
    rw [h2]
    congr 2
    push_cast
    omega
theorem rgL_len : ∀ {n : Nat} {lo : Int}, (rgL lo n).length = n
  | 0, _ => rfl
  | n + 1, _ => by rw [rgL, List.length_cons, rgL_len]
theorem wk_rng {lo : Int} {n : Nat} : Wk K (Itr lo n) (rgL lo n) I m := by
  intro B L J k env st σ H S le pre i
  refine ⟨fun x hx => ?_, fun hi => by show n ≤ i; rwa [rgL_len] at hi⟩
  obtain ⟨h1, rfl⟩ := rgL_get hx
  refine ⟨h1, fun u H' y => ?_⟩
  obtain ⟨rfl, rfl⟩ := y
  refine ⟨J, S, Le.refl J, ?_⟩
  show RV K J (.int _) _
  simp only [RV]
theorem zipX_get : ∀ {xs ys zs : List X} {i : Nat} {z : X}, zipX xs ys = some zs → zs[i]? = some z → ∃ a b, xs[i]? = some (.d a) ∧ ys[i]? = some (.d b) ∧ z = .d (.tuple [a, b])
  | [], [], zs, i, z, h, hz => by
    cases h
    simp at hz
  | .d x :: xs, .d y :: ys, zs, i, z, h, hz => by
    have h' : (match zipX xs ys with | some r => some (X.d (.tuple [x, y]) :: r) | none => none) = some zs := h
    split at h'
    · rename_i r er
      cases h'
      cases i with
      | zero =>
        simp at hz
        subst hz
        exact ⟨x, y, rfl, rfl, rfl⟩
      | succ i => exact zipX_get (i := i) er (by simpa using hz)
    · cases h'
  | [], _ :: _, zs, i, z, h, _ => by simp [zipX] at h
  | _ :: _, [], zs, i, z, h, _ => by simp [zipX] at h
  | .l _ :: _, _ :: _, zs, i, z, h, _ => by simp [zipX] at h
  | .o _ :: _, _ :: _, zs, i, z, h, _ => by simp [zipX] at h
  | .k _ :: _, _ :: _, zs, i, z, h, _ => by simp [zipX] at h
  | .d _ :: _, .l _ :: _, zs, i, z, h, _ => by simp [zipX] at h
  | .d _ :: _, .o _ :: _, zs, i, z, h, _ => by simp [zipX] at h
  | .d _ :: _, .k _ :: _, zs, i, z, h, _ => by simp [zipX] at h
theorem zipX_len : ∀ {xs ys zs : List X}, zipX xs ys = some zs → zs.length = xs.length ∧ ys.length = xs.length
  | [], [], zs, h => by
    cases h
    exact ⟨rfl, rfl⟩
  | .d x :: xs, .d y :: ys, zs, h => by
    have h' : (match zipX xs ys with | some r => some (X.d (.tuple [x, y]) :: r) | none => none) = some zs := h
    split at h'
    · rename_i r er
      cases h'
      obtain ⟨q1, q2⟩ := zipX_len er
      simp [q1, q2]
    · cases h'
  | [], _ :: _, zs, h => by simp [zipX] at h
  | _ :: _, [], zs, h => by simp [zipX] at h
  | .l _ :: _, _ :: _, zs, h => by simp [zipX] at h
  | .o _ :: _, _ :: _, zs, h => by simp [zipX] at h
  | .k _ :: _, _ :: _, zs, h => by simp [zipX] at h
  | .d _ :: _, .l _ :: _, zs, h => by simp [zipX] at h
  | .d _ :: _, .o _ :: _, zs, h => by simp [zipX] at h
  | .d _ :: _, .k _ :: _, zs, h => by simp [zipX] at h
theorem wk_zip {a b : Addr} {vs ws : List V} {ds es : List D} {zs : List X} (ha : I a = some (.lst vs)) (hb : I b = some (.lst ws)) (ra : RVs K I ds vs) (rb : RVs K I es ws)
    (hz : zipX (ds.map .d) (es.map .d) = some zs) : Wk K (Itz K a b) zs I m := by
  intro B L J n env st σ H S le pre i
  have h1 : SqL K H a vs := .inl (.inl (S.fz.lst (le _ _ ha)))
  have h2 : SqL K H b ws := .inl (.inl (S.fz.lst (le _ _ hb)))
  obtain ⟨l1, l2⟩ := zipX_len hz
  rw [List.length_map] at l1 l2
  rw [List.length_map] at l2
  refine ⟨fun x hx => ?_, fun hi => ⟨vs, ws, h1, h2, .inl (by rw [ra.length]; omega)⟩⟩
  obtain ⟨c, d, e1, e2, rfl⟩ := zipX_get hz hx
  obtain ⟨v, hv, qv⟩ := (REs.ofD (m := m) ra).get e1
  obtain ⟨w, hw, qw⟩ := (REs.ofD (m := m) rb).get e2
  refine ⟨⟨vs, ws, v, w, h1, h2, hv, hw⟩, fun u H' y => ?_⟩
  obtain ⟨T, p, q, rfl, hT, rfl, y1, y2⟩ := y
  have e3 := y1 vs h1
  have e4 := y2 ws h2
  rw [hv] at e3
  rw [hw] at e4
  cases e3
  cases e4
  have qv' : RV K J c v := RV.mono le _ _ qv
  have qw' : RV K J d w := RV.mono le _ _ qw
  obtain ⟨J', S', le', r'⟩ := newT S hT (ds := [c, d]) (vs := [v, w]) (by simp only [RVs]; exact ⟨v, [w], rfl, qv', w, [], rfl, qw', rfl⟩)
  exact ⟨J', S', le', r'⟩
theorem enX_get : ∀ {xs zs : List X} {n : Int} {i : Nat} {z : X}, enX n xs = some zs → zs[i]? = some z → ∃ a, xs[i]? = some (.d a) ∧ z = .d (.tuple [.int (n + i), a])
  | [], zs, n, i, z, h, hz => by
    cases h
    simp at hz
  | .d x :: xs, zs, n, i, z, h, hz => by
    have h' : (match enX (n + 1) xs with | some r => some (X.d (.tuple [.int n, x]) :: r) | none => none) = some zs := h
    split at h'
    · rename_i r er
      cases h'
      cases i with
      | zero =>
        simp at hz
        subst hz
        exact ⟨x, rfl, by simp⟩
      | succ i =>
        obtain ⟨a, h1, h2⟩ := enX_get (i := i) er (by simpa using hz)
        refine ⟨a, by simpa using h1, ?_⟩
        rw [h2]
        congr 4
        push_cast
        omega
    · cases h'
  | .l _ :: _, zs, n, i, z, h, _ => by simp [enX] at h
  | .o _ :: _, zs, n, i, z, h, _ => by simp [enX] at h
  | .k _ :: _, zs, n, i, z, h, _ => by simp [enX] at h
theorem enX_len : ∀ {xs zs : List X} {n : Int}, enX n xs = some zs → zs.length = xs.length
  | [], zs, n, h => by
    cases h
    rfl
  | .d x :: xs, zs, n, h => by
    have h' : (match enX (n + 1) xs with | some r => some (X.d (.tuple [.int n, x]) :: r) | none => none) = some zs := h
    split at h'
    · rename_i r er
      cases h'
      simp [enX_len er]
    · cases h'
  | .l _ :: _, zs, n, h => by simp [enX] at h
  | .o _ :: _, zs, n, h => by simp [enX] at h
  | .k _ :: _, zs, n, h => by simp [enX] at h
theorem wk_en {a : Addr} {vs : List V} {ds : List D} {zs : List X} (ha : I a = some (.lst vs)) (ra : RVs K I ds vs) (hz : enX 0 (ds.map .d) = some zs) : Wk K (Ite K a) zs I m := by
  intro B L J n env st σ H S le pre i
  have h1 : SqL K H a vs := .inl (.inl (S.fz.lst (le _ _ ha)))
  have l1 := enX_len hz
  rw [List.length_map] at l1
  refine ⟨fun x hx => ?_, fun hi => ⟨vs, h1, by rw [ra.length]; omega⟩⟩
  obtain ⟨c, e1, rfl⟩ := enX_get hz hx
  obtain ⟨v, hv, qv⟩ := (REs.ofD (m := m) ra).get e1
  refine ⟨⟨vs, v, h1, hv⟩, fun u H' y => ?_⟩
  obtain ⟨T, p, rfl, hT, rfl, y1⟩ := y
  have e3 := y1 vs h1
  rw [hv] at e3
  cases e3
  have qv' : RV K J c v := RV.mono le _ _ qv
  obtain ⟨J', S', le', r'⟩ := newT S hT (ds := [.int (0 + (i : Int)), c]) (vs := [.int (i : Int), v]) (by simp only [RVs, RV]; exact ⟨_, [v], rfl, by simp, v, [], rfl, qv', rfl⟩)
  exact ⟨J', S', le', r'⟩
end
end EV

/-! EvK: expressions. -/
namespace EV
open PySem PySem.Spec PyProof.Rows L2

abbrev Cl := Nat → List X → Sto → Option (X × Sto)
section
variable (X : Cx) (cs : List D) (cl : Cl)
abbrev JE (e : Expr) (i : E) : Prop := PE X e (rE X.K (evE cs cl i))
abbrev JT (e : Expr) (i : E) : Prop := PT X e (rT X.K (evT cs cl i))
abbrev JW (e : Expr) (i : E) : Prop := PW X e (rT X.K (evT cs cl i))
abbrev Js (e : List Expr) (i : List E) : Prop := PA X e (rEs X.K (evEs cs cl i))
abbrev JA (e : Expr) (i : A) : Prop := PE X e (rA X.K (evA cs cl i))
abbrev JP (e : Option Expr) (i : Option E) : Prop := PO X e (rP X.K (evP cs cl i))
abbrev JI (tg e : Expr) (i : It) : Prop := PI X tg e (rIt X.K (evIt cs cl i))
end

section
variable {K : PySem.W.Frag} {B : Bs} {L : List Addr} {I : Hp} {m : List Addr} {env e1 e2 e3 : Lo} {st s1 s2 s3 : Sto} {σ : L2.St} {H : Hp} {Q : VK}
theorem go1 {fa : Ev X} {x : X} {k : VK} (S : SR K B L I m env st σ H) (q : fa env st = some (x, e1, s1))
    (h : ∀ (v : V) (H' I' : Hp) (m' : List Addr), SR K B L I' m' e1 s1 σ H' → Le I I' → m <+: m' → RX K I' m' σ x v → k v H') : rE K fa σ H k :=
  ⟨B, L, I, m, env, st, x, e1, s1, S, q, h⟩
theorem Kt.mv {z : X} (k : Kt K B L I m env st σ z Q) {I' : Hp} {m' : List Addr} (l : Le I I') (p : m <+: m') : Kt K B L I' m' env st σ z Q :=
  fun v H2 I2 m2 S2 l2 p2 r2 => k v H2 I2 m2 S2 (l.trans l2) (p.trans p2) r2
theorem Kt.qb {k : Bool} {R : Bool → Hp → Prop} (h : ∀ (H' I' : Hp) (m' : List Addr), SR K B L I' m' env st σ H' → Le I I' → m <+: m' → R k H') :
    Kt K B L I m env st σ (.d (.bool k)) (fun x H' => ∃ k, x = .bl k ∧ R k H') := fun v H' I' m' S' l p r => by
  have r' : RV K I' (.bool k) v := r
  simp only [RV] at r'
  exact ⟨k, r', h H' I' m' S' l p⟩
theorem go2 {fa fb : Ev X} {F : Lo → Sto → X → X → Option X} {x y z : X} (S : SR K B L I m env st σ H) (q1 : fa env st = some (x, e1, s1)) (q2 : fb e1 s1 = some (y, e2, s2))
    (q3 : F e2 s2 x y = some z) (k : Kt K B L I m e2 s2 σ z Q) : tOp (rB K F) (rE K fa) (rE K fb) σ H Q :=
  go1 S q1 fun v H1 I1 m1 S1 l1 p1 r1 => go1 S1 q2 fun u H2 I2 m2 S2 l2 p2 r2 =>
    ⟨B, L, I2, m2, e2, s2, σ, x, y, z, S2, r1.mono l2 p2, r2, q3, k.mv (l1.trans l2) (p1.trans p2)⟩
end

section
variable {X : Cx} {cs : List D} {cl : Cl} {a b c e : Expr} {ia ib ic ie : E} {pos : Pos}
/-! ### names, constants -/
theorem x_nm {i : Nat} {x : Str} (hN : X.N[i]? = some x) (hv : Vis X.env.scope x) (hd : (x == ("__debug__" : Str)) = false := by decide) (hcd : (x == ("__classdict__" : Str)) = false := by decide) :
    JE X cs cl (.Name x pos) (.nm i) :=
  pe_imp (pe_var hN hv hd hcd) fun σ H Q ⟨B, L, I, m, env, st, z, e', s', S, e, k⟩ => by
    rw [evE] at e
    split at e
    · rename_i x h
      cases e
      obtain ⟨v, h1, h2⟩ := S.val i _ h
      exact ⟨v, h1, k v H I m S (Le.refl I) (List.prefix_refl m) h2.rx⟩
    · rename_i b h
      cases e
      obtain ⟨q, o, h1, _⟩ := S.own i _ h
      exact ⟨_, h1, k _ H I m S (Le.refl I) (List.prefix_refl m) h1⟩
    · cases e
theorem x_of {d : D} {v : V} {e : Expr} (h : PE X e (tC v)) (r : ∀ I, RV X.K I d v) : JE X cs cl e (.ct d) :=
  pe_imp h fun σ H Q ⟨B, L, I, m, env, st, z, e', s', S, q, k⟩ => by
    rw [evE] at q
    cases q
    exact k v H I m S (Le.refl I) (List.prefix_refl m) (r I)
theorem x_int {i : Int} {j} : JE X cs cl (.Constant (.int i) j pos) (.ct (.int i)) := x_of pe_int fun I => by simp [RV]
theorem x_bl {i : Bool} {j} : JE X cs cl (.Constant (.bool i) j pos) (.ct (.bool i)) := x_of pe_bl fun I => by simp [RV]
theorem x_str {i : Str} {j} : JE X cs cl (.Constant (.str i) j pos) (.ct (.str i)) := x_of pe_str fun I => by simp [RV]
theorem x_non {j} : JE X cs cl (.Constant .none j pos) (.ct .none) := x_of pe_non fun I => by simp [RV]
theorem x_gl {x : Str} {n : Nat} {d : D} {v : V} {u : Value} (hg : Gl X x) (hm : X.mg x = some u) (r : RelV v u) (hd : (x == ("__debug__" : Str)) = false) (hc : cs[n]? = some d) (rd : ∀ I, RV X.K I d v) :
    JE X cs cl (.Name x pos) (.gl n) :=
  pe_imp (pe_glob hg hm r hd) fun σ H Q ⟨B, L, I, m, env, st, z, e', s', S, q, k⟩ => by
    rw [evE, hc] at q
    cases q
    exact k v H I m S (Le.refl I) (List.prefix_refl m) (rd I)
/-! ### lists of expressions -/
theorem xs_nl : Js X cs cl [] [] :=
  pa_imp pa_nil fun σ H Q ⟨B, L, I, m, env, st, z, e', s', S, q, k⟩ => by
    rw [evEs] at q
    cases q
    exact k [] H I m S (Le.refl I) (List.prefix_refl m) rfl
theorem xs_cn {es : List Expr} {is : List E} (ha : JE X cs cl a ia) (hr : Js X cs cl es is) (hs : starEach (a :: es) X.env = (false, eval a X.env) :: starEach es X.env := by rfl) : Js X cs cl (a :: es) (ia :: is) :=
  pa_imp (pa_cons ha hr hs) fun σ H Q ⟨B, L, I, m, env, st, z, e', s', S, q, k⟩ => by
    rw [evEs] at q
    split at q
    · rename_i x e1 s1 q1
      split at q
      · rename_i xs e2 s2 q2
        cases q
        exact go1 S q1 fun v H1 I1 m1 S1 l1 p1 r1 => ⟨B, L, I1, m1, e1, s1, xs, _, _, S1, q2, fun vs H2 I2 m2 S2 l2 p2 r2 =>
          k (v :: vs) H2 I2 m2 S2 (l1.trans l2) (p1.trans p2) ⟨v, vs, rfl, r1.mono l2 p2, r2⟩⟩
      · cases q
    · cases q
theorem rxs_allD {K : PySem.W.Frag} {I : Hp} {m : List Addr} {σ : L2.St} : ∀ {ds : List D} {vs : List V}, RXs K I m σ (ds.map .d) vs → RVs K I ds vs
  | [], vs, r => r
  | d :: ds, vs, r => by
    obtain ⟨v, w, rfl, r1, r2⟩ := r
    simp only [RVs]
    exact ⟨v, w, rfl, r1, rxs_allD r2⟩
theorem x_tup {es : List Expr} {is : List E} {kk} (h : Js X cs cl es is) : JE X cs cl (.Tuple es kk pos) (.tup is) :=
  pe_imp (pe_tup h) fun σ H Q ⟨B, L, I, m, env, st, z, e', s', S, q, k⟩ => by
    rw [evE] at q
    split at q
    · rename_i xs e1 s1 q1
      split at q
      · rename_i ds q2
        split at q
        · rename_i hl
          cases q
          cases allD_map q2
          refine ⟨B, L, I, m, env, st, _, _, _, S, q1, fun vs H1 I1 m1 S1 l1 p1 r1 => ?_⟩
          have rv := rxs_allD r1
          refine ⟨by rw [rv.length]; exact hl, ?_⟩
          exact (Kt.mv k l1 p1).tuple S1 rv
        · cases q
      · cases q
    · cases q
/-! ### operations -/
theorem x_bop {o : BO} (ha : JE X cs cl a ia) (hb : JE X cs cl b ib) : JE X cs cl (.BinOp a (opB o) b pos) (.bop o ia ib) :=
  pe_imp (pe_op (op_bop o) ha hb) fun σ H Q ⟨B, L, I, m, env, st, z, e', s', S, q, k⟩ => by
    rw [evE] at q
    split at q
    · rename_i x e1 s1 q1
      split at q
      · rename_i y e2 s2 q2
        split at q
        · rename_i d q3
          split at q
          · rename_i c q4
            split at q
            · rename_i z q5
              cases q
              exact go2 S q1 q2 (by unfold bopX; rw [q3, q4]; simp only [q5]) k
            · cases q
          · cases q
        · cases q
      · cases q
    · cases q
theorem x_neg (ha : JE X cs cl a ia) : JE X cs cl (.UnaryOp .USub a pos) (.neg ia) :=
  pe_imp (pe_un (r := rU fun i => .int (-i)) un_neg ha) fun σ H Q ⟨B, L, I, m, env, st, z, e', s', S, q, k⟩ => by
    rw [evE] at q
    split at q
    · rename_i i e1 s1 q1
      cases q
      refine go1 S q1 fun v H1 I1 m1 S1 l1 p1 r1 => ?_
      have r1' : RV X.K I1 (.int i) v := r1
      simp only [RV] at r1'
      exact ⟨i, r1', k _ H1 I1 m1 S1 l1 p1 (show RV X.K I1 (.int (-i)) _ by simp only [RV])⟩
    · cases q
theorem x_not (ha : JE X cs cl a ia) : JE X cs cl (.UnaryOp .Not a pos) (.not ia) :=
  pe_imp (pe_notT ha) fun σ H Q ⟨B, L, I, m, env, st, z, e', s', S, q, k⟩ => by
    rw [evE] at q
    split at q
    · rename_i x e1 s1 q1
      split at q
      · rename_i t q2
        cases q
        refine go1 S q1 fun v H1 I1 m1 S1 l1 p1 r1 => ?_
        exact ⟨t, S1.tru r1 q2, k _ H1 I1 m1 S1 l1 p1 (show RV X.K I1 (.bool (!t)) _ by simp only [RV])⟩
      · cases q
    · cases q
theorem x_one {op} {a : Expr} (h : JE X cs cl a ia) : JE X cs cl (.BoolOp op [a] pos) ia := pe_one h
theorem x_and {rest : List Expr} (ha : JE X cs cl a ia) (hb : JE X cs cl (.BoolOp .And (b :: rest) pos) ib) : JE X cs cl (.BoolOp .And (a :: b :: rest) pos) (.and ia ib) :=
  pe_imp (pe_andT ha hb) fun σ H Q ⟨B, L, I, m, env, st, z, e', s', S, q, k⟩ => by
    rw [evE] at q
    split at q
    · rename_i x e1 s1 q1
      refine go1 S q1 fun v H1 I1 m1 S1 l1 p1 r1 => ?_
      split at q
      · rename_i q2
        exact ⟨true, S1.tru r1 q2, ⟨B, L, I1, m1, e1, s1, z, e', s', S1, q, Kt.mv k l1 p1⟩⟩
      · rename_i q2
        cases q
        exact ⟨false, S1.tru r1 q2, k v H1 I1 m1 S1 l1 p1 r1⟩
      · cases q
    · cases q
theorem x_or {rest : List Expr} (ha : JE X cs cl a ia) (hb : JE X cs cl (.BoolOp .Or (b :: rest) pos) ib) : JE X cs cl (.BoolOp .Or (a :: b :: rest) pos) (.or ia ib) :=
  pe_imp (pe_orT ha hb) fun σ H Q ⟨B, L, I, m, env, st, z, e', s', S, q, k⟩ => by
    rw [evE] at q
    split at q
    · rename_i x e1 s1 q1
      refine go1 S q1 fun v H1 I1 m1 S1 l1 p1 r1 => ?_
      split at q
      · rename_i q2
        cases q
        exact ⟨true, S1.tru r1 q2, k v H1 I1 m1 S1 l1 p1 r1⟩
      · rename_i q2
        exact ⟨false, S1.tru r1 q2, ⟨B, L, I1, m1, e1, s1, z, e', s', S1, q, Kt.mv k l1 p1⟩⟩
      · cases q
    · cases q
theorem x_cmp {o : CO} (hu : X.A.units + 65 < cLine) (ha : JE X cs cl a ia) (hb : JE X cs cl b ib) (hm : behindInMarks (coB o) b = false := by first | exact nobehind _ (by decide) (by decide) | rfl) : JE X cs cl (.Compare a [coB o] [b] pos) (.cmp o ia ib) :=
  pe_imp (pe_cmpR (op_cmp hu o) ha hb hm) fun σ H Q ⟨B, L, I, m, env, st, z, e', s', S, q, k⟩ => by
    rw [evE] at q
    split at q
    · rename_i x e1 s1 q1
      split at q
      · rename_i y e2 s2 q2
        split at q
        · rename_i t q3
          cases q
          exact go2 S q1 q2 (by unfold cmpR; rw [q3]) k
        · cases q
      · cases q
    · cases q
theorem x_chn {o p : CO} (hu : X.A.units + 65 < cLine) (ha : JE X cs cl a ia) (hb : JE X cs cl b ib) (hc : JE X cs cl c ic) (hm : lastMarks [coB o, coB p] [b, c] = false := by with_unfolding_all rfl) :
    JE X cs cl (.Compare a [coB o, coB p] [b, c] pos) (.chn o p ia ib ic) :=
  pe_imp (pe_chain (op_cmp hu o) (op_cmp hu p) ha hb hc hm) fun σ H Q ⟨B, L, I, m, env, st, z, e', s', S, q, k⟩ => by
    rw [evE] at q
    split at q
    · rename_i x e1 s1 q1
      split at q
      · rename_i y e2 s2 q2
        refine go1 S q1 fun v H1 I1 m1 S1 l1 p1 r1 => go1 S1 q2 fun u H2 I2 m2 S2 l2 p2 r2 => ?_
        split at q
        · rename_i q3
          cases q
          refine ⟨B, L, I2, m2, _, _, σ, x, y, .d (.bool false), S2, r1.mono l2 p2, r2, by unfold cmpR; rw [q3], fun w H3 I3 m3 S3 l3 p3 r3 => ?_⟩
          have r3' : RV X.K I3 (.bool false) w := r3
          simp only [RV] at r3'
          subst r3'
          exact ⟨false, rfl, k _ H3 I3 m3 S3 (l1.trans (l2.trans l3)) (p1.trans (p2.trans p3)) r3⟩
        · rename_i q3
          split at q
          · rename_i t e3 s3 q4
            split at q
            · rename_i d q5
              cases q
              refine ⟨B, L, I2, m2, e2, s2, σ, x, y, .d (.bool true), S2, r1.mono l2 p2, r2, by unfold cmpR; rw [q3], fun w H3 I3 m3 S3 l3 p3 r3 => ?_⟩
              have r3' : RV X.K I3 (.bool true) w := r3
              simp only [RV] at r3'
              subst r3'
              refine ⟨true, rfl, ?_⟩
              refine go1 S3 q4 fun w' H4 I4 m4 S4 l4 p4 r4 => ?_
              exact ⟨B, L, I4, m4, _, _, σ, y, t, .d (.bool d), S4, (r2.mono l3 p3).mono l4 p4, r4, by unfold cmpR; rw [q5], Kt.mv k (l1.trans (l2.trans (l3.trans l4))) (p1.trans (p2.trans (p3.trans p4)))⟩
            · cases q
          · cases q
        · cases q
      · cases q
    · cases q
theorem x_ite (hc : JT X cs cl c ic) (ha : JE X cs cl a ia) (hb : JE X cs cl b ib) : JE X cs cl (.IfExp c a b pos) (.ite ic ia ib) :=
  pe_imp (pe_ifExp hc ha hb) fun σ H Q ⟨B, L, I, m, env, st, z, e', s', S, q, k⟩ => by
    rw [evE] at q
    split at q
    · rename_i e1 s1 q1
      exact ⟨B, L, I, m, env, st, true, e1, s1, S, q1, fun H1 I1 m1 S1 l1 p1 => ⟨B, L, I1, m1, e1, s1, z, e', s', S1, q, Kt.mv k l1 p1⟩⟩
    · rename_i e1 s1 q1
      exact ⟨B, L, I, m, env, st, false, e1, s1, S, q1, fun H1 I1 m1 S1 l1 p1 => ⟨B, L, I1, m1, e1, s1, z, e', s', S1, q, Kt.mv k l1 p1⟩⟩
    · cases q
theorem x_ix (hu : X.A.units + 1 < cLine) (ha : JE X cs cl a ia) (hb : JE X cs cl b ib) (hs : PlainIx b) : JE X cs cl (.Subscript a b pos) (.ix ia ib) :=
  pe_imp (pe_ix (op_ix hu) ha hb hs) fun σ H Q ⟨B, L, I, m, env, st, z, e', s', S, q, k⟩ => by
    rw [evE] at q
    split at q
    · rename_i x e1 s1 q1
      split at q
      · rename_i y e2 s2 q2
        split at q
        · rename_i z q3
          cases q
          exact go2 S q1 q2 q3 k
        · cases q
      · cases q
    · cases q
theorem xp_no : JP X cs cl none none :=
  po_imp po_none fun σ H Q ⟨B, L, I, m, env, st, z, e', s', S, q, k⟩ => by
    rw [evP] at q
    cases q
    exact k H I m S (Le.refl I) (List.prefix_refl m)
theorem xp_so (ha : JE X cs cl a ia) : JP X cs cl (some a) (some ia) :=
  po_imp (po_some ha) fun σ H Q ⟨B, L, I, m, env, st, z, e', s', S, q, k⟩ => by
    rw [evP] at q
    split at q
    · rename_i i e1 s1 q1
      cases q
      refine go1 S q1 fun v H1 I1 m1 S1 l1 p1 r1 => ?_
      have r1' : RV X.K I1 (.int i) v := r1
      simp only [RV] at r1'
      exact ⟨i, r1', k H1 I1 m1 S1 l1 p1⟩
    · cases q
theorem x_sl {lo hi : Option Expr} {il ih : Option E} {p2 : Pos} (ha : JE X cs cl a ia) (hl : JP X cs cl lo il) (hh : JP X cs cl hi ih) : JE X cs cl (.Subscript a (.Slice lo hi none p2) pos) (.sl ia il ih) :=
  pe_imp (pe_slice sl_any ha hl hh) fun σ H Q ⟨B, L, I, m, env, st, z, e', s', S, q, k⟩ => by
    rw [evE] at q
    split at q
    · rename_i x e1 s1 q1
      split at q
      · rename_i l e2 s2 q2
        split at q
        · rename_i h e3 s3 q3
          split at q
          · rename_i z q4
            cases q
            refine go1 S q1 fun v H1 I1 m1 S1 l1 p1 r1 => ⟨B, L, I1, m1, e1, s1, l, e2, s2, S1, q2, fun H2 I2 m2 S2 l2 p2 => ⟨B, L, I2, m2, e2, s2, h, _, _, S2, q3, fun H3 I3 m3 S3 l3 p3 => ?_⟩⟩
            exact ⟨B, L, I3, m3, _, _, σ, x, z, S3, (r1.mono l2 p2).mono l3 p3, q4, Kt.mv k (l1.trans (l2.trans l3)) (p1.trans (p2.trans p3))⟩
          · cases q
        · cases q
      · cases q
    · cases q
/-! ### tests -/
theorem t_and1 (ha : JT X cs cl a ia) : JW X cs cl (.BoolOp .And [a] pos) ia := pw_and1 ha
theorem t_or1 (ha : JT X cs cl a ia) : JW X cs cl (.BoolOp .Or [a] pos) ia := pw_or1 ha
theorem t_and {rest : List Expr} (ha : JT X cs cl a ia) (hb : JW X cs cl (.BoolOp .And (b :: rest) pos) ib) : JW X cs cl (.BoolOp .And (a :: b :: rest) pos) (.and ia ib) :=
  pw_imp (pw_and ha hb) fun σ H Q ⟨B, L, I, m, env, st, z, e', s', S, q, k⟩ => by
    rw [evT] at q
    split at q
    · rename_i e1 s1 q1
      exact ⟨B, L, I, m, env, st, true, e1, s1, S, q1, fun H1 I1 m1 S1 l1 p1 => ⟨B, L, I1, m1, e1, s1, z, e', s', S1, q, fun H2 I2 m2 S2 l2 p2 => k H2 I2 m2 S2 (l1.trans l2) (p1.trans p2)⟩⟩
    · rename_i e1 s1 q1
      cases q
      exact ⟨B, L, I, m, env, st, false, _, _, S, q1, fun H1 I1 m1 S1 l1 p1 => k H1 I1 m1 S1 l1 p1⟩
    · cases q
theorem t_or {rest : List Expr} (ha : JT X cs cl a ia) (hb : JW X cs cl (.BoolOp .Or (b :: rest) pos) ib) : JW X cs cl (.BoolOp .Or (a :: b :: rest) pos) (.or ia ib) :=
  pw_imp (pw_or ha hb) fun σ H Q ⟨B, L, I, m, env, st, z, e', s', S, q, k⟩ => by
    rw [evT] at q
    split at q
    · rename_i e1 s1 q1
      cases q
      exact ⟨B, L, I, m, env, st, true, _, _, S, q1, fun H1 I1 m1 S1 l1 p1 => k H1 I1 m1 S1 l1 p1⟩
    · rename_i e1 s1 q1
      exact ⟨B, L, I, m, env, st, false, e1, s1, S, q1, fun H1 I1 m1 S1 l1 p1 => ⟨B, L, I1, m1, e1, s1, z, e', s', S1, q, fun H2 I2 m2 S2 l2 p2 => k H2 I2 m2 S2 (l1.trans l2) (p1.trans p2)⟩⟩
    · cases q
theorem t_not (ha : JT X cs cl a ia) : JT X cs cl (.UnaryOp .Not a pos) (.not ia) :=
  pt_imp (pt_not ha) fun σ H Q ⟨B, L, I, m, env, st, z, e', s', S, q, k⟩ => by
    rw [evT] at q
    split at q
    · rename_i t e1 s1 q1
      cases q
      exact ⟨B, L, I, m, env, st, t, _, _, S, q1, k⟩
    · cases q
theorem t_cmp {o : CO} (hu : X.A.units + 65 < cLine) (ha : JE X cs cl a ia) (hb : JE X cs cl b ib) (hm : behindInMarks (coB o) b = false := by first | exact nobehind _ (by decide) (by decide) | rfl) : JT X cs cl (.Compare a [coB o] [b] pos) (.cmp o ia ib) :=
  pt_imp (pt_cmpR (op_cmp hu o) ha hb hm) fun σ H Q ⟨B, L, I, m, env, st, z, e', s', S, q, k⟩ => by
    rw [evT] at q
    split at q
    · rename_i x e1 s1 q1
      split at q
      · rename_i y e2 s2 q2
        split at q
        · rename_i t q3
          cases q
          exact go2 S q1 q2 (by unfold cmpR; rw [q3]) (Kt.qb k)
        · cases q
      · cases q
    · cases q
theorem t_chn {o p : CO} (hu : X.A.units + 65 < cLine) (ha : JE X cs cl a ia) (hb : JE X cs cl b ib) (hc : JE X cs cl c ic) (hm : lastMarks [coB o, coB p] [b, c] = false := by with_unfolding_all rfl) :
    JT X cs cl (.Compare a [coB o, coB p] [b, c] pos) (.chn o p ia ib ic) :=
  pt_imp (pt_chain (op_cmp hu o) (op_cmp hu p) ha hb hc hm) fun σ H Q ⟨B, L, I, m, env, st, z, e', s', S, q, k⟩ => by
    rw [evT] at q
    split at q
    · rename_i x e1 s1 q1
      split at q
      · rename_i y e2 s2 q2
        refine go1 S q1 fun v H1 I1 m1 S1 l1 p1 r1 => go1 S1 q2 fun u H2 I2 m2 S2 l2 p2 r2 => ?_
        split at q
        · rename_i q3
          cases q
          refine ⟨B, L, I2, m2, _, _, σ, x, y, .d (.bool false), S2, r1.mono l2 p2, r2, by unfold cmpR; rw [q3], fun w H3 I3 m3 S3 l3 p3 r3 => ?_⟩
          have r3' : RV X.K I3 (.bool false) w := r3
          simp only [RV] at r3'
          subst r3'
          exact ⟨false, rfl, false, rfl, k H3 I3 m3 S3 (l1.trans (l2.trans l3)) (p1.trans (p2.trans p3))⟩
        · rename_i q3
          split at q
          · rename_i t e3 s3 q4
            split at q
            · rename_i d q5
              cases q
              refine ⟨B, L, I2, m2, e2, s2, σ, x, y, .d (.bool true), S2, r1.mono l2 p2, r2, by unfold cmpR; rw [q3], fun w H3 I3 m3 S3 l3 p3 r3 => ?_⟩
              have r3' : RV X.K I3 (.bool true) w := r3
              simp only [RV] at r3'
              subst r3'
              refine ⟨true, rfl, ?_⟩
              refine go1 S3 q4 fun w' H4 I4 m4 S4 l4 p4 r4 => ?_
              exact ⟨B, L, I4, m4, _, _, σ, y, t, .d (.bool z), S4, (r2.mono l3 p3).mono l4 p4, r4, by unfold cmpR; rw [q5],
                Kt.qb fun H5 I5 m5 S5 l5 p5 => k H5 I5 m5 S5 (l1.trans (l2.trans (l3.trans (l4.trans l5)))) (p1.trans (p2.trans (p3.trans (p4.trans p5))))⟩
            · cases q
          · cases q
        · cases q
      · cases q
    · cases q
/-- a value as a test -/
def tvOf (f : Ev EV.X) : Ev Bool := fun env st => match f env st with
  | some (x, e, s) => match tru e s x with
    | some k => some (k, e, s)
    | none => none
  | none => none
theorem t_of {f : Ev EV.X} {g : Ev Bool} (ha : PE X a (rE X.K f)) (he : ∀ whole, isTrue a X.env whole = (do let v ← whole; standAt a.pos; holding [v] (truthy v))) (h : ∀ env st r, g env st = some r → tvOf f env st = some r) : PT X a (rT X.K g) :=
  pt_imp (pt_truth ha he) fun σ H Q ⟨B, L, I, m, env, st, z, e', s', S, q, k⟩ => by
    have q := h _ _ _ q
    unfold tvOf at q
    split at q
    · rename_i x e1 s1 q1
      split at q
      · rename_i t q2
        cases q
        exact go1 S q1 fun v H1 I1 m1 S1 l1 p1 r1 => ⟨z, S1.tru r1 q2, k H1 I1 m1 S1 l1 p1⟩
      · cases q
    · cases q
theorem t_nm {i : Nat} {x : Str} (ha : JE X cs cl (.Name x pos) (.nm i)) (he : ∀ whole, isTrue (.Name x pos) X.env whole = (do let v ← whole; standAt (Expr.Name x pos).pos; holding [v] (truthy v)) := by intro _; rfl) : JT X cs cl (.Name x pos) (.nm i) :=
  t_of ha he fun env st r q => by
    rw [evT] at q
    unfold tvOf
    rw [evE]
    split at q
    · rename_i h
      simp only [h]
      exact q
    · rename_i h
      simp only [h]
      exact q
    · cases q
theorem t_ix (ha : JE X cs cl (.Subscript a b pos) (.ix ia ib)) (he : ∀ whole, isTrue (.Subscript a b pos) X.env whole = (do let v ← whole; standAt (Expr.Subscript a b pos).pos; holding [v] (truthy v)) := by intro _; rfl) : JT X cs cl (.Subscript a b pos) (.ix ia ib) :=
  t_of ha he fun env st r q => by
    rw [evT] at q
    unfold tvOf
    rw [evE]
    split at q
    · rename_i x e1 s1 q1
      try rw [q1]
      split at q
      · rename_i y e2 s2 q2
        try simp only [q2]
        split at q
        · rename_i z q3
          try simp only [q3]
          exact q
        · cases q
      · cases q
    · cases q
theorem t_call {f : Expr} {es : List Expr} {ks} {fi : Nat} {is : List E} (ha : JE X cs cl (.Call f es ks pos) (.call fi is)) (he : ∀ whole, isTrue (.Call f es ks pos) X.env whole = (do let v ← whole; standAt (Expr.Call f es ks pos).pos; holding [v] (truthy v)) := by intro _; rfl) : JT X cs cl (.Call f es ks pos) (.call fi is) :=
  t_of ha he fun env st r q => by
    rw [evT] at q
    unfold tvOf
    rw [evE]
    split at q
    · rename_i x e1 s1 q1
      try rw [q1]
      try simp only
      split at q
      · cases q
      · rename_i h1
        try simp only [h1, if_false]
        split at q
        · rename_i y s2 q2
          try simp only [q2]
          exact q
        · cases q
    · cases q
theorem t_bi {f : Expr} {es : List Expr} {ks} {o : Bi} {is : List E} (ha : JE X cs cl (.Call f es ks pos) (.bi o is)) (he : ∀ whole, isTrue (.Call f es ks pos) X.env whole = (do let v ← whole; standAt (Expr.Call f es ks pos).pos; holding [v] (truthy v)) := by intro _; rfl) : JT X cs cl (.Call f es ks pos) (.bi o is) :=
  t_of ha he fun env st r q => by
    rw [evT] at q
    unfold tvOf
    rw [evE]
    split at q
    · rename_i x e1 s1 q1
      try rw [q1]
      try simp only
      split at q
      · rename_i y q2
        try simp only [q2]
        exact q
      · cases q
    · cases q
end
end EV

/-! EvL: calls, built-ins, methods, allocations, what is walked. -/
namespace EV
open PySem PySem.Spec PyProof.Rows L2

/-- a def's promise by the evaluator -/
def pm (K : PySem.W.Frag) (n : Nat) (F : List X → Sto → Option (X × Sto)) : Pm := fun vs H Q => vs.length = n ∧ ∃ I m st xs x st', SR K ⟨H, I, m⟩ [] I m [] st [] H ∧ REs K I m xs vs ∧
  F xs st = some (x, st') ∧ ∀ (v : V) (H' I' : Hp) (m' : List Addr), SR K ⟨H, I, m⟩ [] I' m' [] st' [] H' → RE K I' m' x v → Q v H'
structure CalF (P : Program) (w : World) (K : PySem.W.Frag) (mg : Str → Option Value) (base : Heap) (A : Around) (cl : Cl) (fi : Nat) (x : Str) (n : Nat) : Prop where
  ex : ∃ k f fd ps, FnG P w K mg base k f fd ps (pm K n (cl fi)) ∧ Rm k A ∧ mg x = some (.ref f) ∧ PySem.W.keepIn K (.ref f) = true ∧ Binds K fd ps []
theorem RXs.es {K : PySem.W.Frag} {I : Hp} {m : List Addr} {σ : L2.St} : ∀ {xs : List X} {vs : List V}, xs.any X.isO = false → RXs K I m σ xs vs → REs K I m xs vs
  | [], vs, _, r => r
  | x :: xs, vs, h, r => by
    obtain ⟨v, w, rfl, r1, r2⟩ := r
    simp only [List.any_cons, Bool.or_eq_false_iff] at h
    exact ⟨v, w, rfl, r1.re h.1, r2.es h.2⟩
theorem RXs.length {K : PySem.W.Frag} {I : Hp} {m : List Addr} {σ : L2.St} : ∀ {xs : List X} {vs : List V}, RXs K I m σ xs vs → vs.length = xs.length
  | [], vs, r => by
    cases (show vs = [] from r)
    rfl
  | x :: xs, vs, r => by
    obtain ⟨v, w, rfl, r1, r2⟩ := r
    simp [r2.length]
theorem evEs_len {cs : List D} {cl : Cl} : ∀ {is : List E} {env : Lo} {st : Sto} {xs : List X} {e1 : Lo} {s1 : Sto}, evEs cs cl is env st = some (xs, e1, s1) → is.length = xs.length
  | [], env, st, xs, e1, s1, q => by
    rw [evEs] at q
    cases q
    rfl
  | a :: r, env, st, xs, e1, s1, q => by
    rw [evEs] at q
    split at q
    · split at q
      · rename_i q3
        cases q
        simp [evEs_len q3]
      · cases q
    · cases q
section
variable {K : PySem.W.Frag} {B : Bs} {L : List Addr} {I : Hp} {m : List Addr} {env e1 e2 e3 : Lo} {st s1 s2 s3 : Sto} {σ : L2.St} {H : Hp} {Q : VK}
theorem gos {fa : Ev (List X)} {x : List X} {k : List V → Hp → Prop} (S : SR K B L I m env st σ H) (q : fa env st = some (x, e1, s1))
    (h : ∀ (v : List V) (H' I' : Hp) (m' : List Addr), SR K B L I' m' e1 s1 σ H' → Le I I' → m <+: m' → RXs K I' m' σ x v → k v H') : rEs K fa σ H k :=
  ⟨B, L, I, m, env, st, x, e1, s1, S, q, h⟩
end
theorem isO_ofE {K : PySem.W.Frag} {I : Hp} {m : List Addr} {σ : L2.St} {x : X} {v : V} (r : RE K I m x v) : RX K I m σ x v := r.rx
section
variable {X : Cx} {cs : List D} {cl : Cl} {a b c e : Expr} {ia ib ic ie : E} {es : List Expr} {is : List E} {p pos : Pos} {x : Str}
theorem x_call {fi n : Nat} (F : CalF X.prog X.w X.K X.mg X.base X.A cl fi x n) (hg : Gl X x) (ha : Js X cs cl (e :: es) is) (hdb : (x == ("__debug__" : Str)) = false := by decide)
    (he : starEach (e :: es) X.env = (false, eval e X.env) :: starEach es X.env := by rfl) (hpl : (backTo pos (starEach es X.env)).any (·.1) = false := by rfl) (hn : is.length = n := by rfl) :
    JE X cs cl (.Call (.Name x p) (e :: es) [] pos) (.call fi is) := by
  obtain ⟨k, f, fd, ps, F, hr, hm, hk, hb⟩ := F.ex
  refine pe_imp (pe_callG F hr hg hm hk hb ha hdb he hpl) fun σ H Q ⟨B, L, I, m, env, st, z, e', s', S, q, kt⟩ => ?_
  rw [evE] at q
  split at q
  · rename_i xs e1 s1 q1
    split at q
    · cases q
    · rename_i h1
      split at q
      · rename_i y s2 q2
        cases q
        refine gos S q1 fun vs H1 I1 m1 S1 l1 p1 r1 => ?_
        have h1' : xs.any EV.X.isO = false := by simpa using h1
        have hl := evEs_len q1
        refine ⟨by rw [r1.length, ← hl]; exact hn, I1, m1, s1, xs, z, _, S1.enter, r1.es h1', q2, fun v H2 I2 m2 S2 r2 => ?_⟩
        obtain ⟨b1, b2, b3⟩ := S1.back S2
        exact kt v H2 I2 m2 b1 (l1.trans b2) (p1.trans b3) r2.rx
      · cases q
  · cases q
theorem x_call0 {fi : Nat} (F : CalF X.prog X.w X.K X.mg X.base X.A cl fi x 0) (hg : Gl X x) (hdb : (x == ("__debug__" : Str)) = false := by decide) :
    JE X cs cl (.Call (.Name x p) [] [] pos) (.call fi []) := by
  obtain ⟨k, f, fd, ps, F, hr, hm, hk, hb⟩ := F.ex
  refine pe_imp (pe_callG0 F hr hg hm hk hb hdb) fun σ H Q ⟨B, L, I, m, env, st, z, e', s', S, q, kt⟩ => ?_
  rw [evE, evEs] at q
  simp only [List.any_nil, Bool.false_eq_true, if_false] at q
  split at q
  · rename_i y s2 q2
    cases q
    refine ⟨rfl, I, m, st, [], z, _, S.enter, rfl, q2, fun v H2 I2 m2 S2 r2 => ?_⟩
    obtain ⟨b1, b2, b3⟩ := S.back S2
    exact kt v H2 I2 m2 b1 b2 b3 r2.rx
  · cases q
theorem bi_imp {o : Bi} {t : TE} {ex : Expr} (h : PE X ex (tCB (rN X.K fun env st xs => biX env st o xs) (rEs X.K (evEs cs cl is)))) : JE X cs cl ex (.bi o is) :=
  pe_imp h fun σ H Q ⟨B, L, I, m, env, st, z, e', s', S, q, kt⟩ => by
    rw [evE] at q
    split at q
    · rename_i xs e1 s1 q1
      split at q
      · rename_i d q2
        cases q
        exact gos S q1 fun vs H1 I1 m1 S1 l1 p1 r1 => ⟨B, L, I1, m1, _, _, σ, xs, d, S1, r1, q2, Kt.mv kt l1 p1⟩
      · cases q
    · cases q
theorem x_biB {o : Bi} {id : String} (hc : CallR X (.builtin id) (rN X.K fun env st xs => biX env st o xs)) (hg : Gl X x) (hm : X.mg x = none) (hv : bootBuiltins x = some (.builtin id)) (ha : Js X cs cl (e :: es) is)
    (hn : x ≠ "__name__" := by decide) (hdb : (x == ("__debug__" : Str)) = false := by decide)
    (he : starEach (e :: es) X.env = (false, eval e X.env) :: starEach es X.env := by rfl) (hpl : (backTo pos (starEach es X.env)).any (·.1) = false := by rfl) : JE X cs cl (.Call (.Name x p) (e :: es) [] pos) (.bi o is) :=
  bi_imp (t := fun _ _ _ => True) (pe_callB hc hg hm hv ha hn hdb he hpl)
theorem x_biT {o : Bi} {T : String} (hc : CallR X (.type T) (rN X.K fun env st xs => biX env st o xs)) (hg : Gl X x) (hm : X.mg x = none) (hv : bootBuiltins x = some (.type T)) (ha : Js X cs cl (e :: es) is)
    (hn : x ≠ "__name__" := by decide) (hdb : (x == ("__debug__" : Str)) = false := by decide)
    (he : starEach (e :: es) X.env = (false, eval e X.env) :: starEach es X.env := by rfl) (hpl : (backTo pos (starEach es X.env)).any (·.1) = false := by rfl) : JE X cs cl (.Call (.Name x p) (e :: es) [] pos) (.bi o is) :=
  bi_imp (t := fun _ _ _ => True) (pe_callTy hc hg hm hv ha hn hdb he hpl)

/-! ### methods of lists -/
theorem SR.put {K : PySem.W.Frag} {B : Bs} {L : List Addr} {I : Hp} {m : List Addr} {env e' : Lo} {st s' : Sto} {σ : L2.St} {H : Hp} {x : EV.X} {v : V} {b b' : Ob} (S : SR K B L I m env st σ H) (r : RX K I m σ x v)
    (h : mutX env st x = some b) (hp : putX env st b' x = some (e', s')) : ∃ a o, v = .ref a ∧ H a = some o ∧ RO K I m b o ∧ ∀ o', RO K I m b' o' → SR K B L I m e' s' σ (upd H a o') := by
  cases x with
  | d d => cases h
  | k d => cases h
  | l n =>
    obtain ⟨a, h1, rfl⟩ := r
    have h' : st[n]? = some b := h
    obtain ⟨o, h2, h3⟩ := S.at h' h1
    have hp' : (if n < st.length then some (env, st.set n b') else none) = some (e', s') := hp
    split at hp'
    · cases hp'
      exact ⟨a, o, rfl, h2, h3, fun o' r' => S.putSto h' h1 r'⟩
    · cases hp'
  | o i =>
    have h' : (match env[i]? with | some (Slot.own b) => some b | _ => none) = some b := h
    split at h'
    · rename_i b0 h0
      cases h'
      obtain ⟨a, o, h1, h2, h3, _⟩ := S.own i b h0
      have r' : σ[i]? = some (some v) := r
      rw [h1] at r'
      cases r'
      have hp' : (match env[i]? with | some (Slot.own _) => some (env.set i (.own b'), st) | _ => none) = some (e', s') := hp
      rw [h0] at hp'
      cases hp'
      exact ⟨a, o, rfl, h2, h3, fun o' r' => S.putOwn h0 h1 r'⟩
    · cases h'
theorem obX_sq {K : PySem.W.Frag} {B : Bs} {L : List Addr} {I : Hp} {m : List Addr} {env : Lo} {st : Sto} {σ : L2.St} {H : Hp} {x : EV.X} {v : V} {xs : List EV.X} (S : SR K B L I m env st σ H) (r : RX K I m σ x v) (h : obX env st x = some (.lst xs)) : tyV K "list" v H := by
  obtain ⟨a, o, rfl, h1, vs, rfl, h3⟩ := S.ob r h
  exact .inl ⟨rfl, vs, .inl (.inl h1)⟩
theorem mt_pop' : MtR X "list.pop" rPop := mt_pop
theorem mt_popAt' : MtR X "list.pop" rPopAt := mt_popAt
theorem mt_append' : MtR X "list.append" rAppend := mt_append
theorem x_pop0 {apos cpos : Pos} (ha : JE X cs cl a ia) (hbase : attributeBase a "pop" X.env (eval a X.env) = eval a X.env := by rfl) (hline : (apos.endLine == cpos.line) = true := by rfl) :
    JE X cs cl (.Call (.Attribute a "pop" apos) [] [] cpos) (.me .pop0 ia []) :=
  pe_imp (pe_bm0 PySem.F.plainAttrs_list PySem.F.slot_list_pop PySem.F.type_list_pop mt_pop' ha hbase hline) fun σ H Q ⟨B, L, I, m, env, st, z, e', s', S, q, kt⟩ => by
    rw [evE] at q
    split at q
    · rename_i y e1 s1 q1
      split at q
      · rename_i l q2
        rw [evEs] at q
        simp only at q
        refine go1 S q1 fun v H1 I1 m1 S1 l1 p1 r1 => ⟨obX_sq S1 r1 q2, ?_⟩
        unfold meX at q
        simp only at q
        split at q
        · rename_i xs q3
          split at q
          · rename_i y q4
            split at q
            · rename_i e2 s2 q5
              cases q
              obtain ⟨a, o, rfl, h1, ⟨vs, rfl, h3⟩, h4⟩ := S1.put r1 q3 q5
              have hl := h3.length
              obtain ⟨w, h5, h6⟩ := h3.get q4
              refine ⟨a, vs, w, rfl, rfl, h1, by rw [hl]; exact h5, ?_⟩
              exact kt w _ I1 m1 (h4 _ ⟨vs.dropLast, rfl, h3.dropLast⟩) l1 p1 h6.rx
            · cases q
          · cases q
        · cases q
      · cases q
    · cases q
theorem x_pop1 {apos cpos : Pos} (ha : JE X cs cl a ia) (hb : JE X cs cl b ib) (hbase : attributeBase a "pop" X.env (eval a X.env) = eval a X.env := by rfl)
    (hfew : ((backTo cpos (starEach [b] X.env)).all (fun x => !x.1) && (backToKw cpos (keywordEach [] X.env)).all (fun x => x.1.isSome)
      && decide ([b].length + ([] : List Keyword).length + (if ([] : List Keyword).isEmpty then 0 else 1) < 30)) = true := by rfl)
    (hline : (apos.endLine == cpos.line) = true := by rfl) (hs : starEach [b] X.env = (false, eval b X.env) :: starEach [] X.env := by rfl) :
    JE X cs cl (.Call (.Attribute a "pop" apos) [b] [] cpos) (.me .pop1 ia [ib]) :=
  pe_imp (pe_bm PySem.F.plainAttrs_list PySem.F.slot_list_pop PySem.F.type_list_pop mt_popAt' ha (xs_cn hb xs_nl hs) hbase hfew hline hs rfl) fun σ H Q ⟨B, L, I, m, env, st, z, e', s', S, q, kt⟩ => by
    rw [evE] at q
    split at q
    · rename_i y e1 s1 q1
      split at q
      · rename_i l q2
        split at q
        · rename_i ys e2 s2 q0
          refine go1 S q1 fun v H1 I1 m1 S1 l1 p1 r1 => ⟨obX_sq S1 r1 q2, gos S1 q0 fun vs H2 I2 m2 S2 l2 p2 r2 => ?_⟩
          unfold meX at q
          split at q
          · rename_i h
            cases h
          · rename_i i _
            obtain ⟨u, rfl, ru⟩ := rxs1 r2
            have ru' : RV X.K I2 (.int i) u := ru
            simp only [RV] at ru'
            subst ru'
            split at q
            · rename_i xs q3
              split at q
              · rename_i hi
                split at q
                · rename_i kk q4
                  split at q
                  · rename_i y q5
                    split at q
                    · rename_i e3 s3 q6
                      cases q
                      obtain ⟨a, o, rfl, h1, ⟨vs, rfl, h3⟩, h4⟩ := S2.put (r1.mono l2 p2) q3 q6
                      have hl := h3.length
                      obtain ⟨w, h5, h6⟩ := h3.get q5
                      have hi' : -(2 ^ 63) ≤ i ∧ i < 2 ^ 63 := by simpa [in63] using hi
                      refine ⟨a, vs, i, kk, w, rfl, rfl, h1, hi'.1, hi'.2, by rw [hl]; exact q4, h5, ?_⟩
                      exact kt w _ I2 m2 (h4 _ ⟨vs.eraseIdx kk, rfl, h3.erase kk⟩) (l1.trans l2) (p1.trans p2) h6.rx
                    · cases q
                  · cases q
                · cases q
              · cases q
            · cases q
          · rename_i h
            cases h
          · cases q
        · cases q
      · cases q
    · cases q
theorem x_app {apos cpos : Pos} (ha : JE X cs cl a ia) (hb : JE X cs cl b ib) (hbase : attributeBase a "append" X.env (eval a X.env) = eval a X.env := by rfl)
    (hfew : ((backTo cpos (starEach [b] X.env)).all (fun x => !x.1) && (backToKw cpos (keywordEach [] X.env)).all (fun x => x.1.isSome)
      && decide ([b].length + ([] : List Keyword).length + (if ([] : List Keyword).isEmpty then 0 else 1) < 30)) = true := by rfl)
    (hline : (apos.endLine == cpos.line) = true := by rfl) (hs : starEach [b] X.env = (false, eval b X.env) :: starEach [] X.env := by rfl) :
    JE X cs cl (.Call (.Attribute a "append" apos) [b] [] cpos) (.me .append ia [ib]) :=
  pe_imp (pe_bm PySem.F.plainAttrs_list slot_list_append type_list_append mt_append' ha (xs_cn hb xs_nl hs) hbase hfew hline hs rfl) fun σ H Q ⟨B, L, I, m, env, st, z, e', s', S, q, kt⟩ => by
    rw [evE] at q
    split at q
    · rename_i y e1 s1 q1
      split at q
      · rename_i l q2
        split at q
        · rename_i ys e2 s2 q0
          refine go1 S q1 fun v H1 I1 m1 S1 l1 p1 r1 => ⟨obX_sq S1 r1 q2, gos S1 q0 fun vs H2 I2 m2 S2 l2 p2 r2 => ?_⟩
          unfold meX at q
          split at q
          · rename_i h
            cases h
          · rename_i h
            cases h
          · rename_i y
            obtain ⟨u, rfl, ru⟩ := rxs1 r2
            split at q
            · cases q
            · rename_i ho
              split at q
              · rename_i xs q3
                split at q
                · rename_i hi
                  split at q
                  · rename_i e3 s3 q6
                    cases q
                    obtain ⟨a, o, rfl, h1, ⟨vs, rfl, h3⟩, h4⟩ := S2.put (r1.mono l2 p2) q3 q6
                    have hl := h3.length
                    refine ⟨a, vs, u, rfl, rfl, h1, by rw [hl]; exact hi, ?_⟩
                    exact kt .non _ I2 m2 (h4 _ ⟨vs ++ [u], rfl, h3.app ⟨u, [], rfl, ru.re (by simpa using ho), rfl⟩⟩) (l1.trans l2) (p1.trans p2) (show RV X.K I2 .none .non by simp only [RV])
                  · cases q
                · cases q
              · cases q
          · cases q
        · cases q
      · cases q
    · cases q

/-! ### allocations -/
theorem x_al {i : A} (h : JA X cs cl e i) : JE X cs cl e (.al i) :=
  pe_imp h fun σ H Q ⟨B, L, I, m, env, st, z, e', s', S, q, kt⟩ => by
    rw [evE] at q
    split at q
    · rename_i b e1 s1 q1
      split at q
      · rename_i d q2
        cases q
        refine ⟨B, L, I, m, env, st, b, _, _, S, q1, fun p o H1 I1 m1 F l1 p1 r1 => ?_⟩
        have le : Le I1 (upd I1 p o) := le_upd F.iN
        refine kt _ H1 _ m1 F.freeze (l1.trans le) p1 ?_
        cases b with
        | lst xs =>
          obtain ⟨vs, rfl, r⟩ := r1
          have q2' : (match allD xs with | some ds => some (PyData.list ds) | none => none) = some d := q2
          split at q2'
          · rename_i ds q3
            cases q2'
            cases allD_map q3
            show RV X.K _ (.list ds) _
            simp only [RV]
            exact ⟨p, vs, rfl, upd_same, (REs.toD r).mono le⟩
          · cases q2'
        | dic kvs =>
          obtain ⟨ws, rfl, r⟩ := r1
          have q2' : (match allK kvs with | some ds => some (PyData.dict ds) | none => none) = some d := q2
          split at q2'
          · rename_i ds q3
            cases q2'
            show RV X.K _ (.dict ds) _
            simp only [RV]
            exact ⟨p, ws, rfl, .inl upd_same, (allK_get q3 r).mono le⟩
          · cases q2'
      · cases q
    · cases q
theorem x_st {i : A} (h : JA X cs cl e i) : JE X cs cl e (.st i) :=
  pe_imp h fun σ H Q ⟨B, L, I, m, env, st, z, e', s', S, q, kt⟩ => by
    rw [evE] at q
    split at q
    · rename_i b e1 s1 q1
      cases q
      refine ⟨B, L, I, m, env, st, b, _, _, S, q1, fun p o H1 I1 m1 F l1 p1 r1 => ?_⟩
      refine kt _ H1 I1 _ (F.push r1) l1 (p1.trans (List.prefix_append m1 [p])) ?_
      refine ⟨p, ?_, rfl⟩
      rw [← F.sr.len]
      simp
    · cases q
theorem xa_lst (h : Js X cs cl es is) : JA X cs cl (.List es pos) (.lst is) :=
  pe_imp (pe_lst h) fun σ H Q ⟨B, L, I, m, env, st, z, e', s', S, q, kt⟩ => by
    rw [evA] at q
    split at q
    · rename_i xs e1 s1 q1
      split at q
      · cases q
      · rename_i h1
        split at q
        · rename_i h2
          cases q
          refine gos S q1 fun vs H1 I1 m1 S1 l1 p1 r1 => ⟨by rw [r1.length]; exact h2, fun p hp => ?_⟩
          have h1' : xs.any EV.X.isO = false := by simpa using h1
          exact kt p _ _ I1 m1 (S1.alloc hp _) l1 p1 ⟨vs, rfl, r1.es h1'⟩
        · cases q
    · cases q
theorem xa_list (hm : X.mg "list" = none) (hg : Gl X "list") (ha : JE X cs cl a ia) (hs : starEach [a] X.env = (false, eval a X.env) :: starEach [] X.env := by rfl) : JA X cs cl (.Call (.Name "list" p) [a] [] pos) (.ba .list ia) :=
  pe_imp (pe_callTy ca_list hg hm rfl (pa_cons ha pa_nil hs) (by decide) (by decide) hs rfl) fun σ H Q ⟨B, L, I, m, env, st, z, e', s', S, q, kt⟩ => by
    rw [evA] at q
    split at q
    · rename_i x e1 s1 q1
      split at q
      · rename_i o q2
        cases q
        exact go1 S q1 fun v H1 I1 m1 S1 l1 p1 r1 => ⟨B, L, I1, m1, _, _, σ, x, v, z, rfl, S1, r1, q2, fun p o H2 I2 m2 F l2 p2 r2 => kt p o H2 I2 m2 F (l1.trans l2) (p1.trans p2) r2⟩
      · cases q
    · cases q
theorem xa_sorted (hu : X.A.units + 70 < cLine) (hm : X.mg "sorted" = none) (hg : Gl X "sorted") (ha : JE X cs cl a ia) (hs : starEach [a] X.env = (false, eval a X.env) :: starEach [] X.env := by rfl) : JA X cs cl (.Call (.Name "sorted" p) [a] [] pos) (.ba .sorted ia) :=
  pe_imp (pe_callB (ca_sorted hu) hg hm rfl (pa_cons ha pa_nil hs) (by decide) (by decide) hs rfl) fun σ H Q ⟨B, L, I, m, env, st, z, e', s', S, q, kt⟩ => by
    rw [evA] at q
    split at q
    · rename_i x e1 s1 q1
      split at q
      · rename_i o q2
        cases q
        exact go1 S q1 fun v H1 I1 m1 S1 l1 p1 r1 => ⟨B, L, I1, m1, _, _, σ, x, v, z, rfl, S1, r1, q2, fun p o H2 I2 m2 F l2 p2 r2 => kt p o H2 I2 m2 F (l1.trans l2) (p1.trans p2) r2⟩
      · cases q
    · cases q
theorem xa_rv {k : Nat} {p1 p2 p3 : Pos} (ha : JE X cs cl a ia) : JA X cs cl (.Subscript a (.Slice none none (some (.UnaryOp .USub (.Constant (.int 1) k p1) p2)) p3) pos) (.rv ia) :=
  pe_imp (pe_revL ha) fun σ H Q ⟨B, L, I, m, env, st, z, e', s', S, q, kt⟩ => by
    rw [evA] at q
    split at q
    · rename_i x e1 s1 q1
      split at q
      · rename_i xs q2
        cases q
        refine go1 S q1 fun v H1 I1 m1 S1 l1 p1 r1 => ?_
        obtain ⟨a, o, rfl, h1, vs, rfl, h3⟩ := S1.ob r1 q2
        exact ⟨a, vs, rfl, .inl (.inl h1), fun p hp => kt p _ _ I1 m1 (S1.alloc hp _) l1 p1 ⟨vs.reverse, rfl, h3.rev⟩⟩
      · cases q
    · cases q
end

/-! ### dicts -/
theorem REk.pt {K : PySem.W.Frag} {I : Hp} {m : List Addr} {k : Key} {y : X} {v : V} (ry : RE K I m y v) {kvs : List (Key × X)} {ws : List (Key × V)} (r : REk K I m kvs ws) : REk K I m (pt k y kvs) (putK ws k v) := by
  have any : ∀ {kvs : List (Key × X)} {ws : List (Key × V)}, REk K I m kvs ws → (kvs.any fun p => decide (p.1 = k)) = (ws.any fun p => decide (p.1 = k)) := by
    intro kvs
    induction kvs with
    | nil =>
      intro ws r
      cases (show ws = [] from r)
      rfl
    | cons p kvs ih =>
      intro ws r
      obtain ⟨u, t, rfl, h1, h2⟩ := r
      simp [ih h2]
  unfold EV.pt putK
  rw [any r]
  split
  · clear any
    rename_i h
    clear h
    induction kvs generalizing ws with
    | nil =>
      cases (show ws = [] from r)
      rfl
    | cons p kvs ih =>
      obtain ⟨u, t, rfl, h1, h2⟩ := r
      simp only [List.map_cons]
      by_cases hp : p.1 = k
      · simp only [hp, if_true]
        exact ⟨v, _, rfl, ry, ih h2⟩
      · simp only [hp, if_false]
        exact ⟨u, _, rfl, h1, ih h2⟩
  · clear any
    rename_i h
    clear h
    induction kvs generalizing ws with
    | nil =>
      cases (show ws = [] from r)
      exact ⟨v, [], rfl, ry, rfl⟩
    | cons p kvs ih =>
      obtain ⟨u, t, rfl, h1, h2⟩ := r
      exact ⟨u, _, rfl, h1, ih h2⟩
theorem REk.merge {K : PySem.W.Frag} {I : Hp} {m : List Addr} : ∀ {more : List (Key × X)} {ms : List (Key × V)} {acc : List (Key × X)} {as : List (Key × V)}, REk K I m more ms → REk K I m acc as → REk K I m (mergeX acc more) (mergeK as ms)
  | [], ms, acc, as, r, ra => by
    cases (show ms = [] from r)
    exact ra
  | p :: more, ms, acc, as, r, ra => by
    obtain ⟨u, t, rfl, h1, h2⟩ := r
    obtain ⟨k, x⟩ := p
    have := REk.merge h2 (REk.pt (k := k) h1 ra)
    exact this
theorem pairs_go {K : PySem.W.Frag} {cs : List D} {cl : Cl} {σ : L2.St} {Q : List (V × V) → Hp → Prop} : ∀ {kvs : List (E × E)} {B : Bs} {L : List Addr} {I : Hp} {m : List Addr} {env e' : Lo} {st s' : Sto} {H : Hp} {z : List (Key × X)},
    SR K B L I m env st σ H → evD cs cl kvs env st = some (z, e', s') →
    (∀ (ws : List (Key × V)) (H' I' : Hp) (m' : List Addr), SR K B L I' m' e' s' σ H' → Le I I' → m <+: m' → REk K I' m' z ws → Q (ws.map fun kv => (kV kv.1, kv.2)) H') →
    tPairs (kvs.map fun p => (rE K (evE cs cl p.1), rE K (evE cs cl p.2))) σ H Q
  | [], B, L, I, m, env, e', st, s', H, z, S, q, k => by
    rw [evD] at q
    cases q
    exact k [] H I m S (Le.refl I) (List.prefix_refl m) rfl
  | (a, b) :: kvs, B, L, I, m, env, e', st, s', H, z, S, q, k => by
    rw [evD] at q
    split at q
    · rename_i d e1 s1 q1
      split at q
      · rename_i y q2
        split at q
        · rename_i x e2 s2 q3
          split at q
          · cases q
          · rename_i ho
            split at q
            · rename_i w e3 s3 q4
              cases q
              refine go1 S q1 fun u H1 I1 m1 S1 l1 p1 r1 => go1 S1 q3 fun v H2 I2 m2 S2 l2 p2 r2 => ?_
              refine pairs_go S2 q4 fun ws H3 I3 m3 S3 l3 p3 r3 => ?_
              have hu : u = kV y := key_V q2 (.inl (show RV K I1 d u from r1) : RH K I1 H1 d u)
              subst hu
              exact k ((y, v) :: ws) H3 I3 m3 S3 (l1.trans (l2.trans l3)) (p1.trans (p2.trans p3)) ⟨v, ws, rfl, (r2.mono l3 p3).re (by simpa using ho), r3⟩
            · cases q
        · cases q
      · cases q
    · cases q
section
variable {X : Cx} {cs : List D} {cl : Cl} {pos : Pos}
abbrev JD (X : Cx) (cs : List D) (cl : Cl) (pos : Pos) (ks : List (Option Expr)) (vs : List Expr) (kvs : List (E × E)) : Prop := PPs X pos ks vs (kvs.map fun p => (rE X.K (evE cs cl p.1), rE X.K (evE cs cl p.2)))
theorem xd_nil : JD X cs cl pos [] [] [] := pps_nil
theorem xd_cons {k v : Expr} {ik iv : E} {ks : List (Option Expr)} {vs : List Expr} {kvs : List (E × E)} (hk : JE X cs cl k ik) (hv : JE X cs cl v iv) (hr : JD X cs cl pos ks vs kvs) : JD X cs cl pos (some k :: ks) (v :: vs) ((ik, iv) :: kvs) :=
  pps_cons hk hv hr
theorem xa_dic {ks : List (Option Expr)} {vs : List Expr} {kvs : List (E × E)} (h : JD X cs cl pos ks vs kvs) (hall : ks.all (·.isSome) = true := by rfl) (hl : ks.length = vs.length := by rfl) (h0 : ks ≠ [] := by intro z; cases z) (h15 : ks.length ≤ 15 := by decide) :
    JA X cs cl (.Dict ks vs pos) (.dic kvs) :=
  pe_imp (pe_disp h hall hl h0 h15) fun σ H Q ⟨B, L, I, m, env, st, z, e', s', S, q, kt⟩ p hp => by
    rw [evA] at q
    split at q
    · rename_i w e1 s1 q1
      split at q
      · rename_i h2
        cases q
        have F := S.alloc hp (.dK [])
        have R := F.sr.rebase
        refine pairs_go R q1 fun ws H1 I1 m1 S1 l1 p1 r1 => ?_
        have F1 := F.through S1
        refine ⟨F1.at_, ws, rfl, by rw [r1.length]; exact h2, ?_⟩
        exact kt p _ _ I1 m1 (F1.write _) l1 p1 ⟨_, rfl, r1.merge rfl⟩
      · cases q
    · cases q
theorem xa_dic0 : JA X cs cl (.Dict [] [] pos) (.dic []) :=
  pe_imp pe_dnewK fun σ H Q ⟨B, L, I, m, env, st, z, e', s', S, q, kt⟩ p hp => by
    rw [evA, evD] at q
    simp only [List.length_nil, Nat.zero_le, if_true] at q
    cases q
    exact kt p _ _ I m (S.alloc hp _) (Le.refl I) (List.prefix_refl m) ⟨[], rfl, rfl⟩
end

/-! ### what is walked -/
section
variable {X : Cx} {cs : List D} {cl : Cl} {a b c e tg : Expr} {ia ib ic ie : E} {es : List Expr} {is : List E} {p pos : Pos}
theorem xi_sq (ha : JE X cs cl a ia) : JI X cs cl tg a (.sq ia) :=
  pi_imp (pi_or (pi_list ha) (pi_or (pi_tup ha) (pi_str ha))) fun σ H R ⟨B, L, I, m, env, st, z, e', s', S, q, k⟩ => by
    rw [evIt] at q
    split at q
    · rename_i x e1 s1 q1
      split at q
      · rename_i xs q2
        cases q
        cases x with
        | d d =>
          cases d with
          | list ds =>
            cases q2
            refine .inl (go1 S q1 fun v H1 I1 m1 S1 l1 p1 r1 => ?_)
            have r1' : RV X.K I1 (.list ds) v := r1
            simp only [RV] at r1'
            obtain ⟨a, vs, rfl, h1, h2⟩ := r1'
            have h3 : SqL X.K I1 a vs := .inl (.inl h1)
            exact ⟨a, rfl, ⟨vs, S1.fz.sqL h3⟩, k _ H1 I1 m1 S1 l1 p1 (wk_list h3 h2)⟩
          | tuple ds =>
            cases q2
            refine .inr (.inl (go1 S q1 fun v H1 I1 m1 S1 l1 p1 r1 => ?_))
            have r1' : RV X.K I1 (.tuple ds) v := r1
            simp only [RV] at r1'
            obtain ⟨a, vs, rfl, h1, h2⟩ := r1'
            exact ⟨a, rfl, ⟨vs, S1.fz.sqT h1⟩, k _ H1 I1 m1 S1 l1 p1 (wk_tup h1 h2)⟩
          | str s =>
            cases q2
            refine .inr (.inr (go1 S q1 fun v H1 I1 m1 S1 l1 p1 r1 => ?_))
            have r1' : RV X.K I1 (.str s) v := r1
            simp only [RV] at r1'
            exact ⟨s, r1', k _ H1 I1 m1 S1 l1 p1 wk_str⟩
          | _ => cases q2
        | k ds =>
          cases q2
          refine .inl (go1 S q1 fun v H1 I1 m1 S1 l1 p1 r1 => ?_)
          obtain ⟨a, vs, rfl, h1, h2⟩ := r1
          exact ⟨a, rfl, ⟨vs, S1.fz.sqL h1⟩, k _ H1 I1 m1 S1 l1 p1 (wk_list h1 h2)⟩
        | _ => cases q2
      · cases q
    · cases q
theorem in62_of {j : Int} (h : in62 j = true) : -(2 ^ 62) ≤ j ∧ j < 2 ^ 62 := by simpa [in62] using h
theorem xi_rg1 (hm : X.mg "range" = none) (hg : Gl X "range") (ha : JE X cs cl a ia) (hs : starEach [a] X.env = [(false, eval a X.env)] := by rfl) : JI X cs cl tg (.Call (.Name "range" p) [a] [] pos) (.rg [ia]) :=
  pi_imp (pi_range1 hg hm (xs_cn ha xs_nl hs) hs) fun σ H R ⟨B, L, I, m, env, st, z, e', s', S, q, k⟩ => by
    rw [evIt] at q
    split at q
    · rename_i j e1 s1 q1
      split at q
      · rename_i h
        cases q
        refine gos S q1 fun vs H1 I1 m1 S1 l1 p1 r1 => ?_
        obtain ⟨v, rfl, rv⟩ := rxs1 r1
        have rv' : RV X.K I1 (.int j) v := rv
        simp only [RV] at rv'
        subst rv'
        exact ⟨j, rfl, (in62_of h).1, (in62_of h).2, k _ H1 I1 m1 S1 l1 p1 wk_rng⟩
      · cases q
    · rename_i i j e1 s1 q1
      have := evEs_len q1
      simp at this
    · cases q
theorem xi_rg2 (hm : X.mg "range" = none) (hg : Gl X "range") (ha : JE X cs cl a ia) (hb : JE X cs cl b ib) (hs : starEach [a, b] X.env = [(false, eval a X.env), (false, eval b X.env)] := by rfl) (hs2 : starEach [b] X.env = [(false, eval b X.env)] := by rfl) :
    JI X cs cl tg (.Call (.Name "range" p) [a, b] [] pos) (.rg [ia, ib]) :=
  pi_imp (pi_range2 hg hm (xs_cn ha (xs_cn hb xs_nl hs2) (hs.trans (by rw [hs2]))) hs hs2) fun σ H R ⟨B, L, I, m, env, st, z, e', s', S, q, k⟩ => by
    rw [evIt] at q
    split at q
    · rename_i j e1 s1 q1
      have := evEs_len q1
      simp at this
    · rename_i i j e1 s1 q1
      split at q
      · rename_i h
        cases q
        refine gos S q1 fun vs H1 I1 m1 S1 l1 p1 r1 => ?_
        obtain ⟨v, u, rfl, rv, ru⟩ := rxs2 r1
        have rv' : RV X.K I1 (.int i) v := rv
        have ru' : RV X.K I1 (.int j) u := ru
        simp only [RV] at rv' ru'
        subst rv' ru'
        simp only [Bool.and_eq_true] at h
        exact ⟨i, j, rfl, ⟨(in62_of h.1).1, (in62_of h.1).2, (in62_of h.2).1, (in62_of h.2).2⟩, k _ H1 I1 m1 S1 l1 p1 wk_rng⟩
      · cases q
    · cases q
theorem listX_RX {K : PySem.W.Frag} {I : Hp} {m : List Addr} {σ : L2.St} {x : EV.X} {xs : List EV.X} {v : V} (h : listX x = some xs) (r : RX K I m σ x v) : ∃ ds a vs, xs = ds.map .d ∧ v = .ref a ∧ I a = some (.lst vs) ∧ RVs K I ds vs := by
  cases x with
  | d d =>
    cases d with
    | list ds =>
      cases h
      have r' : RV K I (.list ds) v := r
      simp only [RV] at r'
      obtain ⟨a, vs, rfl, h1, h2⟩ := r'
      exact ⟨ds, a, vs, rfl, rfl, h1, h2⟩
    | _ => cases h
  | _ => cases h
theorem xi_zp {elts : List Expr} {kk : Nat} {tpos : Pos} (hm : X.mg "zip" = none) (hg : Gl X "zip") (ha : JE X cs cl a ia) (hb : JE X cs cl b ib) (hs : starEach [a, b] X.env = (false, eval a X.env) :: starEach [b] X.env := by rfl) (hs2 : starEach [b] X.env = [(false, eval b X.env)] := by rfl)
    (hpl : (backTo pos (starEach [b] X.env)).any (·.1) = false := by rfl) : JI X cs cl (.Tuple elts kk tpos) (.Call (.Name "zip" p) [a, b] [] pos) (.zp ia ib) :=
  pi_imp (pi_zip hg hm (pa_cons ha (pa_cons hb pa_nil hs2) hs) hs hpl) fun σ H R ⟨B, L, I, m, env, st, z, e', s', S, q, k⟩ => by
    rw [evIt] at q
    split at q
    · rename_i x e1 s1 q1
      split at q
      · rename_i y e2 s2 q2
        split at q
        · rename_i xs ys q3 q4
          split at q
          · rename_i r q5
            cases q
            refine go1 S q1 fun v H1 I1 m1 S1 l1 p1 r1 => go1 S1 q2 fun u H2 I2 m2 S2 l2 p2 r2 => ?_
            obtain ⟨ds, a, vs, rfl, rfl, h1, h2⟩ := listX_RX q3 (r1.mono l2 p2)
            obtain ⟨es, b, ws, rfl, rfl, h3, h4⟩ := listX_RX q4 r2
            exact ⟨a, b, vs, ws, rfl, .inl (.inl (S2.fz.lst h1)), .inl (.inl (S2.fz.lst h3)), k _ H2 I2 m2 S2 (l1.trans l2) (p1.trans p2) (wk_zip h1 h3 h2 h4 q5)⟩
          · cases q
        · cases q
      · cases q
    · cases q
theorem xi_en {elts : List Expr} {kk : Nat} {tpos : Pos} (hm : X.mg "enumerate" = none) (hg : Gl X "enumerate") (ha : JE X cs cl a ia) (hs : starEach [a] X.env = [(false, eval a X.env)] := by rfl) :
    JI X cs cl (.Tuple elts kk tpos) (.Call (.Name "enumerate" p) [a] [] pos) (.en ia) :=
  pi_imp (pi_enum hg hm (pa_cons ha pa_nil hs) hs) fun σ H R ⟨B, L, I, m, env, st, z, e', s', S, q, k⟩ => by
    rw [evIt] at q
    split at q
    · rename_i x e1 s1 q1
      split at q
      · rename_i xs q3
        split at q
        · rename_i r q5
          cases q
          refine go1 S q1 fun v H1 I1 m1 S1 l1 p1 r1 => ?_
          obtain ⟨ds, a, vs, rfl, rfl, h1, h2⟩ := listX_RX q3 r1
          exact ⟨a, vs, rfl, .inl (.inl (S1.fz.lst h1)), k _ H1 I1 m1 S1 l1 p1 (wk_en h1 h2 q5)⟩
        · cases q
      · cases q
    · cases q
end
end EV

/-! EvM: list comprehensions. -/
namespace EV
open PySem PySem.Spec PyProof.Rows L2

section
variable {K : PySem.W.Frag} {B : Bs} {L : List Addr} {I : Hp} {m : List Addr} {env : Lo} {st : Sto} {σ : L2.St} {H : Hp} {p : Addr} {o : HO}
theorem Fr.wipe (F : Fr K B L I m env st σ H p o) (vs : List Nat) : Fr K B L I m (wipeL env vs) st (L2.wipe σ vs) H p o where
  sr := F.sr.wipe vs
  at_ := F.at_
  iN := F.iN
  mN := F.mN
  bN := F.bN
  oN := fun i b h e => by
    rw [wipeL_get] at h
    rw [wipe_get] at e
    split at h
    · split at h <;> cases h
    · rename_i hj
      simp only [hj, if_false] at e
      exact F.oN i b h e
theorem Fr.rest {vs : List Nat} {e : Lo} {st' : Sto} {I' : Hp} {m' : List Addr} {H' : Hp} (S0 : SR K B L I m env st σ H) (hno : noOwn env vs = true)
    (R : Fr K B L I' m' (wipeL e vs) st' (L2.wipe σ vs) H' p o) (le : Le I I') (pre : m <+: m') : Fr K B L I' m' (restL e env vs) st' σ H' p o where
  sr := S0.rest hno R.sr le pre
  at_ := R.at_
  iN := R.iN
  mN := R.mN
  bN := R.bN
  oN := fun i b h e1 => by
    rw [restL_get] at h
    split at h
    · rename_i hj
      split at h
      · cases q : env[i]? with
        | none =>
          rw [q] at h
          cases h
        | some s =>
          rw [q] at h
          cases h
          have := List.all_eq_true.mp hno i hj
          rw [q] at this
          cases this
      · cases h
    · rename_i hj
      exact R.oN i b (by rw [wipeL_get]; simp only [hj, if_false]; exact h) (by rw [wipe_get]; simp only [hj, if_false]; exact e1)
end

section
variable {X : Cx} {cs : List D} {cl : Cl}
abbrev JC (X : Cx) (cs : List D) (cl : Cl) (ifs : List Expr) (c : Option E) : Prop := PTs X ifs (rT X.K (evC cs cl c))
theorem xc_no : JC X cs cl [] none := ⟨fun pins s σ H Q I ⟨B, L, J, m, env, st, z, e', s', S, q, k⟩ => by
  rw [evC] at q
  cases q
  exact pts_nil.run pins s σ H Q I (k H J m S (Le.refl J) (List.prefix_refl m))⟩
theorem xc_so {c : Expr} {ic : E} (h : JT X cs cl c ic) : JC X cs cl [c] (some ic) := ⟨fun pins s σ H Q I ⟨B, L, J, m, env, st, z, e', s', S, q, k⟩ => by
  rw [evC] at q
  exact (pts_one h).run pins s σ H Q I ⟨B, L, J, m, env, st, z, e', s', S, q, k⟩⟩
/-- the turns of a comprehension -/
theorem lc_turns {K : PySem.W.Frag} {f : Ev EV.X} {c : Ev Bool} {t : T} {vs : List Nat} (ht : ∀ j ∈ idx t, j ∈ vs) {J : L2.It} {xs : List EV.X}
    {B : Bs} {L : List Addr} {I1 : Hp} {m1 : List Addr} {e1 e2 : Lo} {s1 s2 : Sto} {σ : L2.St} {H1 : Hp} {D : Addr} {ys : List EV.X} {Qd : Hp → Prop}
    (W0 : Wk K J xs I1 m1) (hlen : xs.length ≤ sizeLine)
    (F0 : Fr K B L I1 m1 (wipeL e1 vs) s1 (L2.wipe σ vs) (upd H1 D (.lst [])) D (.lst [])) (q0 : lcGo f c t vs xs e1 s1 = some (ys, e2, s2))
    (k : ∀ (H' I' : Hp) (m' : List Addr) (acc : List V), Fr K B L I' m' (wipeL e2 vs) s2 (L2.wipe σ vs) H' D (.lst acc) → REs K I' m' ys acc → Le I1 I' → m1 <+: m' → Qd H') :
    ∃ W : Nat → Nat → Hp → Prop, (∃ m, W 0 m (upd H1 D (.lst []))) ∧ ∀ i m H, W i m H →
      (J.stop i H ∧ Qd H) ∨ (J.go i H ∧ ∃ Nx : Hp → Prop, (∀ H', Nx H' → ∃ m', m' < m ∧ W (i + 1) m' H') ∧ ∀ x H', J.yld i H x H' → rG K t x (L2.wipe σ vs) H' fun σ2 H2 => L2.wipe σ2 vs = L2.wipe σ vs ∧ rT K c σ2 H2 fun b H3 =>
        if b = true then rE K f σ2 H3 fun y H4 => ∃ acc, H4 D = some (.lst acc) ∧ acc.length < sizeLine ∧ Nx (upd H4 D (.lst (acc ++ [y]))) else Nx H3) := by
  let W : Nat → Nat → Hp → Prop := fun i n H => n = xs.length - i ∧ i ≤ xs.length ∧ ∃ (I : Hp) (m : List Addr) (env : Lo) (st : Sto) (zs rs : List EV.X) (acc : List V),
    Fr K B L I m (wipeL env vs) st (L2.wipe σ vs) H D (.lst acc) ∧ REs K I m zs acc ∧ zs.length ≤ i ∧ lcGo f c t vs (xs.drop i) env st = some (rs, e2, s2) ∧ zs ++ rs = ys ∧ Le I1 I ∧ m1 <+: m
  refine ⟨W, ⟨xs.length, rfl, Nat.zero_le _, I1, m1, e1, s1, [], ys, [], F0, rfl, Nat.le_refl _, q0, rfl, Le.refl _, List.prefix_refl _⟩, ?_⟩
  rintro i n H ⟨rfl, hi, I, m, env, st, zs, rs, acc, F, hz, hzl, q, rfl, le, pre⟩
  have WK := W0 (reB (wipeL env vs) (L2.wipe σ vs) H I m) [] I m (wipeL env vs) st (L2.wipe σ vs) H F.sr.rebase le pre i
  by_cases hlt : i < xs.length
  · right
    have hx : xs[i]? = some xs[i] := List.getElem?_eq_getElem hlt
    obtain ⟨go, yl⟩ := WK.1 _ hx
    refine ⟨go, fun H' => W (i + 1) (xs.length - (i + 1)) H', fun H' w => ⟨_, by omega, w⟩, fun v H' y => ?_⟩
    obtain ⟨I', S', le', rv⟩ := yl v H' y
    rw [List.drop_eq_getElem_cons hlt] at q
    rw [lcGo] at q
    split at q
    · cases q
    · rename_i ea qa
      refine ⟨_, _, I', m, wipeL env vs, st, xs[i], ea, S', rv.rx, qa, fun σ2 S2 sb => ?_⟩
      have hw : L2.wipe σ2 vs = L2.wipe σ vs := wipe_same (sb.sub ht)
      refine ⟨hw, ?_⟩
      -- what is to be reached when nothing is added
      split at q
      · cases q
      · rename_i eb sb' qb
        refine ⟨_, _, I', m, ea, st, true, eb, sb', S2, qb, fun H3 I3 m3 S3 l3 p3 => ?_⟩
        simp only [if_true]
        split at q
        · cases q
        · rename_i yv ec sc qc
          split at q
          · cases q
          · rename_i ho
            split at q
            · cases q
            · rename_i rs' ed sd qd
              cases q
              refine go1 S3 qc fun w H4 I4 m4 S4 l4 p4 r4 => ?_
              have F4 := F.through S4
              have lx : Le I I4 := le'.trans (l3.trans l4)
              have px : m <+: m4 := p3.trans p4
              have hacc : acc.length ≤ i := by rw [hz.length]; exact hzl
              refine ⟨acc, F4.at_, by omega, rfl, hlt, I4, m4, ec, sc, zs ++ [yv], rs', acc ++ [w], ?_, (hz.mono lx px).app ⟨w, [], rfl, r4.re (by simpa using ho), rfl⟩, ?_, qd, by simp, le.trans lx, pre.trans px⟩
              · rw [← hw]
                exact (F4.write _).wipe vs
              · rw [List.length_append, List.length_singleton]
                omega
      · rename_i eb sb' qb
        refine ⟨_, _, I', m, ea, st, false, eb, sb', S2, qb, fun H3 I3 m3 S3 l3 p3 => ?_⟩
        simp only [Bool.false_eq_true, if_false]
        have F3 := F.through S3
        have lx : Le I I3 := le'.trans l3
        refine ⟨rfl, hlt, I3, m3, eb, sb', zs, rs, acc, ?_, hz.mono lx p3, by omega, q, rfl, le.trans lx, pre.trans p3⟩
        rw [← hw]
        exact F3.wipe vs
  · left
    have e : i = xs.length := by omega
    subst e
    rw [List.drop_length] at q
    rw [lcGo] at q
    cases q
    refine ⟨WK.2 (Nat.le_refl _), k H I m acc F (by simpa using hz) le pre⟩
theorem xa_lc_pre {elt tg iter : Expr} {ifs : List Expr} {x : E} {t : T} {it : It} {c : Option E} {vs : List Nat} (ht : ∀ j ∈ idx t, j ∈ vs) {σ : L2.St} {H : Hp} {Q : VK} (h : rA X.K (evA cs cl (.lc x t it c vs)) σ H Q) :
    tLc (rIt X.K (evIt cs cl it)) (rG X.K t) (rT X.K (evC cs cl c)) (rE X.K (evE cs cl x)) vs σ H Q := by
  obtain ⟨B, L, I, m, env, st, z, e', s', S, q, kt⟩ := h
  rw [evA] at q
  split at q
  · rename_i xs e1 s1 q1
    split at q
    · rename_i hc
      simp only [Bool.and_eq_true, decide_eq_true_eq] at hc
      split at q
      · rename_i ys e2 s2 q2
        cases q
        refine ⟨B, L, I, m, env, st, xs, e1, s1, S, q1, fun J H1 I1 m1 S1 l1 p1 W0 D hD => ?_⟩
        refine lc_turns (Qd := fun H' => Q (.ref D) H') ht W0 hc.2 ((S1.alloc hD (.lst [])).wipe vs) q2 fun H' I' m' acc F ra le pre => ?_
        exact kt D _ H' I' m' (Fr.rest S1 hc.1 F le pre) (l1.trans le) (p1.trans pre) ⟨acc, rfl, ra⟩
      · cases q
    · cases q
  · cases q
theorem xa_lc {elt tg iter : Expr} {ifs : List Expr} {scope : Scope} {own : List (Str × Nat)} {pos : Pos} {x : E} {t : T} {it : It} {c : Option E} (hc : X.calm = true) (hN : X.N.Nodup)
    (ok : BlkOk X.N X.env.scope scope own) (ht : ∀ j ∈ idx t, j ∈ own.map (·.2)) (hi : JI X cs cl tg iter it)
    (hg : ∀ (s : Shared) (H : Hp) (C : Addr) (cl' : List (Str × Addr)) (fp : List Addr), PG (X.blk s H scope (compEnvC scope cl' C X.env) fp) tg (rG X.K t))
    (hif : ∀ (s : Shared) (H : Hp) (C : Addr) (cl' : List (Str × Addr)) (fp : List Addr), JC (X.blk s H scope (compEnvC scope cl' C X.env) fp) cs cl ifs c)
    (he : ∀ (s : Shared) (H : Hp) (C : Addr) (cl' : List (Str × Addr)) (fp : List Addr), JE (X.blk s H scope (compEnvC scope cl' C X.env) fp) cs cl elt x) (hs : ∀ x, foldedSetIterable iter X.env x = pure x := by intro _; rfl) :
    JA X cs cl (.ListComp elt [⟨tg, iter, ifs, 0⟩] scope pos) (.lc x t it c (own.map (·.2))) :=
  pe_imp (pe_lc hc hN hi ok hg hif he hs) fun σ H Q h => xa_lc_pre (elt := elt) (tg := tg) (iter := iter) (ifs := ifs) ht h
end
end EV

/-! EvN: statements. -/
namespace EV
open PySem PySem.Spec PyProof.Rows L2

def KF (K : PySem.W.Frag) (B : Bs) (L : List Addr) (I : Hp) (m : List Addr) (env : Lo) (st : Sto) (D : Ends) : Fl → Prop
  | .nx => ∀ (σ' : L2.St) (H' I' : Hp) (m' : List Addr), SR K B L I' m' env st σ' H' → Le I I' → m <+: m' → D.nx σ' H'
  | .bk => ∀ (σ' : L2.St) (H' I' : Hp) (m' : List Addr), SR K B L I' m' env st σ' H' → Le I I' → m <+: m' → D.bk σ' H'
  | .ct => ∀ (σ' : L2.St) (H' I' : Hp) (m' : List Addr), SR K B L I' m' env st σ' H' → Le I I' → m <+: m' → D.ct σ' H'
  | .rt x => ∀ (v : V) (H' I' : Hp) (m' : List Addr), SR K B L I' m' [] st [] H' → Le I I' → m <+: m' → RE K I' m' x v → D.rt v H'
def rS (K : PySem.W.Frag) (F : Ev Fl) : TS := fun D σ H => ∃ B L I m env st f env' st', SR K B L I m env st σ H ∧ F env st = some (f, env', st') ∧ KF K B L I m env' st' D f
theorem KF.mv {K : PySem.W.Frag} {B : Bs} {L : List Addr} {I I' : Hp} {m m' : List Addr} {env : Lo} {st : Sto} {D : Ends} {f : Fl} (k : KF K B L I m env st D f) (l : Le I I') (p : m <+: m') : KF K B L I' m' env st D f := by
  cases f with
  | nx => exact fun σ' H2 I2 m2 S2 l2 p2 => k σ' H2 I2 m2 S2 (l.trans l2) (p.trans p2)
  | bk => exact fun σ' H2 I2 m2 S2 l2 p2 => k σ' H2 I2 m2 S2 (l.trans l2) (p.trans p2)
  | ct => exact fun σ' H2 I2 m2 S2 l2 p2 => k σ' H2 I2 m2 S2 (l.trans l2) (p.trans p2)
  | rt x => exact fun v H2 I2 m2 S2 l2 p2 => k v H2 I2 m2 S2 (l.trans l2) (p.trans p2)
theorem frO_RV {K : PySem.W.Frag} {I J : Hp} {m : List Addr} {p : Addr} {b : Ob} {o : HO} {d : D} (r1 : RO K I m b o) (q2 : frO b = some d) (le : Le I J) (hJ : J p = some o) : RV K J d (.ref p) := by
  cases b with
  | lst xs =>
    obtain ⟨vs, rfl, r⟩ := r1
    have q2' : (match allD xs with | some ds => some (PyData.list ds) | none => none) = some d := q2
    split at q2'
    · rename_i ds q3
      cases q2'
      cases allD_map q3
      simp only [RV]
      exact ⟨p, vs, rfl, hJ, (REs.toD r).mono le⟩
    · cases q2'
  | dic kvs =>
    obtain ⟨ws, rfl, r⟩ := r1
    have q2' : (match allK kvs with | some ds => some (PyData.dict ds) | none => none) = some d := q2
    split at q2'
    · rename_i ds q3
      cases q2'
      simp only [RV]
      exact ⟨p, ws, rfl, .inl hJ, (allK_get q3 r).mono le⟩
    · cases q2'
section
variable {X : Cx} {st : Stmt} {sts : List Stmt}
theorem ps_imp {t t' : TS} (h : PS X st t) (k : ∀ D σ H, t' D σ H → t D σ H) : PS X st t' := ⟨fun pins s σ H D I q => h.run pins s σ H D I (k D σ H q)⟩
theorem pss_imp {t t' : TS} (h : PSs X sts t) (k : ∀ D σ H, t' D σ H → t D σ H) : PSs X sts t' := ⟨fun pins s σ H D I q => h.run pins s σ H D I (k D σ H q)⟩
end
section
variable (X : Cx) (cs : List D) (cl : Cl) (w : Nat)
abbrev JS (st : Stmt) (i : S) : Prop := PS X st (rS X.K (evS cs cl w i))
abbrev JSs (st : List Stmt) (i : List S) : Prop := PSs X st (rS X.K (evSs cs cl w i))
end
section
variable {X : Cx} {cs : List D} {cl : Cl} {w : Nat} {a b c e tg : Expr} {ia ib ic ie : E} {es : List Expr} {is : List E} {p pos : Pos}
/-! ### in a row -/
theorem ss_nil : JSs X cs cl w [] [] :=
  pss_imp pss_nil fun D σ H ⟨B, L, I, m, env, st, f, env', st', S, q, k⟩ => by
    rw [evSs] at q
    cases q
    exact k σ H I m S (Le.refl I) (List.prefix_refl m)
theorem ss_cons {s : Stmt} {ss : List Stmt} {i : EV.S} {js : List EV.S} (h1 : JS X cs cl w s i) (h2 : JSs X cs cl w ss js) : JSs X cs cl w (s :: ss) (i :: js) :=
  pss_imp (pss_cons h1 h2) fun D σ H ⟨B, L, I, m, env, st, f, env', st', S, q, k⟩ => by
    rw [evSs] at q
    split at q
    · rename_i e1 s1 q1
      exact ⟨B, L, I, m, env, st, .nx, e1, s1, S, q1, fun σ1 H1 I1 m1 S1 l1 p1 => ⟨B, L, I1, m1, e1, s1, f, env', st', S1, q, k.mv l1 p1⟩⟩
    · rename_i hn
      refine ⟨B, L, I, m, env, st, f, env', st', S, q, ?_⟩
      cases f with
      | nx => exact absurd q (hn env' st')
      | bk => exact k
      | ct => exact k
      | rt x => exact k
theorem ss_frz {ss : List Stmt} {i : Nat} {js : List EV.S} (h2 : JSs X cs cl w ss js) : JSs X cs cl w ss (.frz i :: js) :=
  pss_imp h2 fun D σ H ⟨B, L, I, m, env, st, f, env', st', S, q, k⟩ => by
    rw [evSs, evS] at q
    cases h : env[i]? with
    | none =>
      rw [h] at q
      cases q
    | some sl =>
      rw [h] at q
      cases sl with
      | no => cases q
      | v x => exact ⟨B, L, I, m, _, _, f, env', st', S, q, k⟩
      | own b =>
        simp only at q
        cases hf : frO b with
        | none =>
          rw [hf] at q
          cases q
        | some d =>
          rw [hf] at q
          obtain ⟨a, o, h1, h2, h3, _⟩ := S.own i b h
          obtain ⟨J, le, S', rx⟩ := S.freezeOwn (x := .d d) h h1 fun o J le hJ r1 => frO_RV r1 hf le hJ
          exact ⟨B, L, J, m, _, _, f, env', st', S', q, k.mv le (List.prefix_refl m)⟩
/-! ### assignments -/
theorem s_asgT {te : TE} {t : T} {s : Stmt} (h : PS X s (tAsg te (rG X.K t))) (hk : ∀ σ H Q, rE X.K (evE cs cl ie) σ H Q → te σ H Q) : JS X cs cl w s (.asg t ie) :=
  ps_imp h fun D σ H ⟨B, L, I, m, env, st, f, env', st', S, q, k⟩ => by
    rw [evS] at q
    split at q
    · rename_i x e1 s1 q1
      split at q
      · rename_i e2 q2
        cases q
        refine hk _ _ _ (go1 S q1 fun v H1 I1 m1 S1 l1 p1 r1 => ?_)
        exact ⟨B, L, I1, m1, _, _, x, _, S1, r1, q2, fun σ' S2 sb => k σ' H1 I1 m1 S2 l1 p1⟩
      · cases q
    · cases q
theorem s_asg {t : T} (he : JE X cs cl e ie) (hg : PG X tg (rG X.K t)) (hs : swapsWithSole [tg] e pos.line X.env = pure false := by rfl) (hw : swappedStores [tg] e X.env = pure none := by rfl)
    (h1 : (assignEach [tg] X.env).map (·.2) = [assign tg X.env] := by rfl) : JS X cs cl w (.Assign [tg] e pos) (.asg t ie) :=
  s_asgT (ps_asg he hg hs hw h1) fun _ _ _ h => h
theorem gN_of {i : Nat} {x : EV.X} {v : V} {σ : L2.St} {H : Hp} {Q : L2.St → Hp → Prop} {K : PySem.W.Frag} {B : Bs} {L : List Addr} {I : Hp} {m : List Addr} {env e2 : Lo} {st : Sto} (S : SR K B L I m env st σ H) (r : RX K I m σ x v) (q : asgT (.nm i) x env = some e2)
    (k : ∀ σ', SR K B L I m e2 st σ' H → Q σ' H) : gName i v σ H Q := by
  unfold asgT at q
  split at q
  · cases q
  · rename_i ho
    cases q
    exact k _ (S.setV (r.re (by simpa using ho)))
/-- name = value -/
theorem s_setT {te : TE} {i : Nat} {s : Stmt} (h : PS X s (tAsg te (gName i))) (hk : ∀ σ H Q, rE X.K (evE cs cl ie) σ H Q → te σ H Q) : JS X cs cl w s (.asg (.nm i) ie) :=
  ps_imp h fun D σ H ⟨B, L, I, m, env, st, f, env', st', S, q, k⟩ => by
    rw [evS] at q
    split at q
    · rename_i x e1 s1 q1
      split at q
      · rename_i e2 q2
        cases q
        refine hk _ _ _ (go1 S q1 fun v H1 I1 m1 S1 l1 p1 r1 => ?_)
        exact gN_of S1 r1 q2 fun σ' S2 => k σ' H1 I1 m1 S2 l1 p1
      · cases q
    · cases q
theorem s_set {i : Nat} {x : Str} {pos' : Pos} (hN : X.N.Nodup) (hi : X.N[i]? = some x) (hx : Loc X.env.scope x) (he : JE X cs cl e ie) (hs : swapsWith e (some (.Name x pos')) pos.line X.env = pure false := by rfl)
    (hf : X.fn x = true ∨ X.env.scope.names.lookup x = some .local := by first | exact .inl rfl | exact .inr rfl | assumption) : JS X cs cl w (.Assign [.Name x pos'] e pos) (.asg (.nm i) ie) :=
  s_setT (ps_set hN hi hx he hs hf) fun _ _ _ h => h
theorem s_ownT {te : TE} {i : Nat} {s : Stmt} {o : A} (h : PS X s (tAsg te (gName i))) (hk : ∀ σ H Q, rA X.K (evA cs cl o) σ H Q → te σ H Q) : JS X cs cl w s (.own i o) :=
  ps_imp h fun D σ H ⟨B, L, I, m, env, st, f, env', st', S, q, k⟩ => by
    rw [evS] at q
    split at q
    · rename_i b e1 s1 q1
      cases q
      refine hk _ _ _ ⟨B, L, I, m, _, _, b, _, _, S, q1, fun p o H1 I1 m1 F l1 p1 r1 => ?_⟩
      exact k _ H1 I1 m1 (F.toOwn r1 i) l1 p1
    · cases q
theorem s_own {i : Nat} {x : Str} {pos' : Pos} {o : A} (hN : X.N.Nodup) (hi : X.N[i]? = some x) (hx : Loc X.env.scope x) (he : JA X cs cl e o) (hs : swapsWith e (some (.Name x pos')) pos.line X.env = pure false := by rfl)
    (hf : X.fn x = true ∨ X.env.scope.names.lookup x = some .local := by first | exact .inl rfl | exact .inr rfl | assumption) : JS X cs cl w (.Assign [.Name x pos'] e pos) (.own i o) :=
  s_ownT (ps_set hN hi hx he hs hf) fun _ _ _ h => h
theorem al_pre {i : A} {σ : L2.St} {H : Hp} {Q : VK} (h : rE X.K (evE cs cl (.al i)) σ H Q) : rA X.K (evA cs cl i) σ H Q := by
  obtain ⟨B, L, I, m, env, st, z, e', s', S, q, kt⟩ := h
  rw [evE] at q
  split at q
  · rename_i b e1 s1 q1
    split at q
    · rename_i d q2
      cases q
      refine ⟨B, L, I, m, env, st, b, _, _, S, q1, fun p o H1 I1 m1 F l1 p1 r1 => ?_⟩
      have le : Le I1 (upd I1 p o) := le_upd F.iN
      refine kt _ H1 _ m1 F.freeze (l1.trans le) p1 ?_
      exact frO_RV r1 q2 le upd_same
    · cases q
  · cases q
theorem st_pre {i : A} {σ : L2.St} {H : Hp} {Q : VK} (h : rE X.K (evE cs cl (.st i)) σ H Q) : rA X.K (evA cs cl i) σ H Q := by
  obtain ⟨B, L, I, m, env, st, z, e', s', S, q, kt⟩ := h
  rw [evE] at q
  split at q
  · rename_i b e1 s1 q1
    cases q
    refine ⟨B, L, I, m, env, st, b, _, _, S, q1, fun p o H1 I1 m1 F l1 p1 r1 => ?_⟩
    refine kt _ H1 I1 _ (F.push r1) l1 (p1.trans (List.prefix_append m1 [p])) ?_
    refine ⟨p, ?_, rfl⟩
    rw [← F.sr.len]
    simp
  · cases q
/-- name = [..] on one line, a comprehension -/
theorem s_lcT {i : Nat} {y : Str} {py : Pos} {elt tg iter : Expr} {ifs : List Expr} {scope : Scope} {own : List (Str × Nat)} {pos spos : Pos} {x : E} {t : T} {it : It} {c : Option E} (hc : X.calm = true) (hN : X.N.Nodup) (hy : X.N[i]? = some y) (hyl : X.env.scope.names.lookup y = some .local)
    (hsw : swapsWith (.ListComp elt [⟨tg, iter, ifs, 0⟩] scope pos) (some (.Name y py)) spos.line X.env = pure true)
    (ok : BlkOk X.N X.env.scope scope own) (ht : ∀ j ∈ idx t, j ∈ own.map (·.2)) (hi : JI X cs cl tg iter it)
    (hg : ∀ (s : Shared) (H : Hp) (C : Addr) (cl' : List (Str × Addr)) (fp : List Addr), PG (X.blk s H scope (compEnvC scope cl' C X.env) fp) tg (rG X.K t))
    (hif : ∀ (s : Shared) (H : Hp) (C : Addr) (cl' : List (Str × Addr)) (fp : List Addr), JC (X.blk s H scope (compEnvC scope cl' C X.env) fp) cs cl ifs c)
    (he : ∀ (s : Shared) (H : Hp) (C : Addr) (cl' : List (Str × Addr)) (fp : List Addr), JE (X.blk s H scope (compEnvC scope cl' C X.env) fp) cs cl elt x) (hs : ∀ x, foldedSetIterable iter X.env x = pure x := by intro _; rfl) :
    PS X (.Assign [.Name y py] (.ListComp elt [⟨tg, iter, ifs, 0⟩] scope pos) spos) (tAsg (rA X.K (evA cs cl (.lc x t it c (own.map (·.2))))) (gName i)) :=
  ps_imp (ps_setLc hc hN hy hyl hsw hi ok hg hif he hs) fun D σ H h => xa_lc_pre (elt := elt) (tg := tg) (iter := iter) (ifs := ifs) ht h
theorem s_lcD {i : Nat} {s : Stmt} {o : A} (h : PS X s (tAsg (rA X.K (evA cs cl o)) (gName i))) : JS X cs cl w s (.asg (.nm i) (.al o)) := s_setT h fun _ _ _ h => al_pre h
theorem s_lcS {i : Nat} {s : Stmt} {o : A} (h : PS X s (tAsg (rA X.K (evA cs cl o)) (gName i))) : JS X cs cl w s (.asg (.nm i) (.st o)) := s_setT h fun _ _ _ h => st_pre h
theorem s_lcO {i : Nat} {s : Stmt} {o : A} (h : PS X s (tAsg (rA X.K (evA cs cl o)) (gName i))) : JS X cs cl w s (.own i o) := s_ownT h fun _ _ _ h => h
/-! ### several names at once -/
theorem asgT_nm {i : Nat} {x : EV.X} {env e2 : Lo} (h : asgT (.nm i) x env = some e2) : x.isO = false ∧ e2 = env.set i (.v x) := by
  unfold asgT at h
  split at h
  · cases h
  · rename_i ho
    cases h
    exact ⟨by simpa using ho, rfl⟩
theorem asgTs_cons {t : T} {ts : List T} {xs : List EV.X} {env e2 : Lo} (h : asgTs (t :: ts) xs env = some e2) : ∃ x r e1, xs = x :: r ∧ asgT t x env = some e1 ∧ asgTs ts r e1 = some e2 := by
  cases xs with
  | nil => cases h
  | cons x r =>
    have e3 : (match asgT t x env with | some e => asgTs ts r e | none => none) = some e2 := h
    split at e3
    · exact ⟨x, r, _, rfl, by assumption, e3⟩
    · cases e3
theorem asgTs_nil {xs : List EV.X} {env e2 : Lo} (h : asgTs [] xs env = some e2) : xs = [] ∧ e2 = env := by
  cases xs with
  | nil =>
    cases h
    exact ⟨rfl, rfl⟩
  | cons x r => cases h
theorem s_par {i j : Nat} {x y : Str} {px py pt : Pos} {kt k2 pt2} (hc : X.calm = true) (hN : X.N.Nodup) (hi : X.N[i]? = some x) (hj : X.N[j]? = some y) (hij : i ≠ j)
    (hx : X.env.scope.names.lookup x = some .local) (hy : X.env.scope.names.lookup y = some .local) (ha : Js X cs cl [a, b] [ia, ib])
    (hw : swappedStores [.Tuple [.Name x px, .Name y py] kt pt] (.Tuple [a, b] k2 pt2) X.env = pure (some [x, y]))
    (hs : swapsWithSole [.Tuple [.Name x px, .Name y py] kt pt] (.Tuple [a, b] k2 pt2) pos.line X.env = pure false := by rfl) :
    JS X cs cl w (.Assign [.Tuple [.Name x px, .Name y py] kt pt] (.Tuple [a, b] k2 pt2) pos) (.par [i, j] [ia, ib]) :=
  ps_imp (ps_par hc hN hi hj hij hx hy ha hw hs) fun D σ H ⟨B, L, I, m, env, st, f, env', st', S, q, k⟩ => by
    rw [evS] at q
    split at q
    · rename_i xs e1 s1 q1
      split at q
      · rename_i e2 q2
        cases q
        refine gos S q1 fun vs H1 I1 m1 S1 l1 p1 r1 => ?_
        obtain ⟨x1, r, ea, rfl, h1, q2⟩ := asgTs_cons q2
        obtain ⟨x2, r, eb, rfl, h2, q2⟩ := asgTs_cons q2
        obtain ⟨rfl, rfl⟩ := asgTs_nil q2
        obtain ⟨o1, rfl⟩ := asgT_nm h1
        obtain ⟨o2, rfl⟩ := asgT_nm h2
        obtain ⟨v, u, rfl, rv, ru⟩ := rxs2 r1
        exact ⟨v, u, rfl, k _ H1 I1 m1 ((S1.setV (rv.re o1)).setV (ru.re o2)) l1 p1⟩
      · cases q
    · cases q
theorem s_par3 {i j l : Nat} {x y z : Str} {px py pz pt pos : Pos} {kt k2 pt2} (hc : X.calm = true) (hN : X.N.Nodup) (hi : X.N[i]? = some x) (hj : X.N[j]? = some y) (hl : X.N[l]? = some z) (hij : i ≠ j) (hil : i ≠ l) (hjl : j ≠ l)
    (hx : X.env.scope.names.lookup x = some .local) (hy : X.env.scope.names.lookup y = some .local) (hz : X.env.scope.names.lookup z = some .local) (ha : Js X cs cl [a, b, c] [ia, ib, ic])
    (hw : swappedStores [.Tuple [.Name x px, .Name y py, .Name z pz] kt pt] (.Tuple [a, b, c] k2 pt2) X.env = pure (some [x, y, z]))
    (hs : swapsWithSole [.Tuple [.Name x px, .Name y py, .Name z pz] kt pt] (.Tuple [a, b, c] k2 pt2) pos.line X.env = pure false := by rfl) :
    JS X cs cl w (.Assign [.Tuple [.Name x px, .Name y py, .Name z pz] kt pt] (.Tuple [a, b, c] k2 pt2) pos) (.par [i, j, l] [ia, ib, ic]) :=
  ps_imp (ps_par3 hc hN hi hj hl hij hil hjl hx hy hz ha hw hs) fun D σ H ⟨B, L, I, m, env, st, f, env', st', S, q, k⟩ => by
    rw [evS] at q
    split at q
    · rename_i xs e1 s1 q1
      split at q
      · rename_i e2 q2
        cases q
        refine gos S q1 fun vs H1 I1 m1 S1 l1 p1 r1 => ?_
        obtain ⟨x1, r, ea, rfl, h1, q2⟩ := asgTs_cons q2
        obtain ⟨x2, r, eb, rfl, h2, q2⟩ := asgTs_cons q2
        obtain ⟨x3, r, eb, rfl, h3, q2⟩ := asgTs_cons q2
        obtain ⟨rfl, rfl⟩ := asgTs_nil q2
        obtain ⟨o1, rfl⟩ := asgT_nm h1
        obtain ⟨o2, rfl⟩ := asgT_nm h2
        obtain ⟨o3, rfl⟩ := asgT_nm h3
        obtain ⟨v, r, rfl, rv, r1⟩ := r1
        obtain ⟨u, w, rfl, ru, rw'⟩ := rxs2 r1
        exact ⟨v, u, w, rfl, k _ H1 I1 m1 (((S1.setV (rv.re o1)).setV (ru.re o2)).setV (rw'.re o3)) l1 p1⟩
      · cases q
    · cases q
/-! ### items -/
theorem s_setx {tpos : Pos} (hu : X.A.units + 1 < cLine) (he : JE X cs cl e ie) (ha : JE X cs cl a ia) (hb : JE X cs cl b ib)
    (hsub : ∀ v, assign (.Subscript a b tpos) X.env v = (do
      let ov ← holding [v] (eval a X.env)
      let iv ← holding [v, ov] (eval b X.env)
      standAt tpos
      holding [v, ov, iv] (setItem ov iv v)
      release [v, ov, iv] []) := by intro _; rfl)
    (hs : swapsWithSole [.Subscript a b tpos] e pos.line X.env = pure false := by rfl) (hw : swappedStores [.Subscript a b tpos] e X.env = pure none := by rfl)
    (h1 : (assignEach [.Subscript a b tpos] X.env).map (·.2) = [assign (.Subscript a b tpos) X.env] := by rfl) : JS X cs cl w (.Assign [.Subscript a b tpos] e pos) (.setx ia ib ie) :=
  ps_imp (ps_asg he (pg_sub (t := fun o i v H Q => rSetD o i v H Q ∨ rSetL o i v H Q) ha hb (fun pins s σ H o i v ov iv u Q I ro ri rv h =>
    h.elim (fun h => set_dict hu pins s σ H o i v ov iv u Q I ro ri rv h) fun h => set_list pins s σ H o i v ov iv u Q I ro ri rv h) hsub) hs hw h1) fun D σ H ⟨B, L, I, m, env, st, f, env', st', S, q, k⟩ => by
    rw [evS] at q
    split at q
    · rename_i x e1 s1 q1
      split at q
      · rename_i o e2 s2 q2
        split at q
        · rename_i kd e3 s3 q3
          split at q
          · cases q
          · rename_i ho
            refine go1 S q1 fun v H1 I1 m1 S1 l1 p1 r1 => go1 S1 q2 fun u H2 I2 m2 S2 l2 p2 r2 => go1 S2 q3 fun z H3 I3 m3 S3 l3 p3 r3 => ?_
            have rv : RE X.K I3 m3 x v := (((r1.mono l2 p2).mono l3 p3).re (by simpa using ho))
            split at q
            · rename_i kvs q4
              split at q
              · rename_i key q5
                split at q
                · rename_i hl
                  split at q
                  · rename_i e4 s4 q6
                    cases q
                    obtain ⟨ad, ob, rfl, h1, ⟨ws, rfl, h3⟩, h4⟩ := S3.put (r2.mono l3 p3) q4 q6
                    left
                    have hz : z = kV key := key_V q5 (.inl (show RV X.K I3 kd z from r3) : RH X.K I3 H3 kd z)
                    subst hz
                    exact ⟨ad, _, rfl, DPut.k h1 (by rw [h3.length]; exact hl), k _ _ I3 m3 (h4 _ ⟨_, rfl, REk.pt rv h3⟩) (l1.trans (l2.trans l3)) (p1.trans (p2.trans p3))⟩
                  · cases q
                · cases q
              · cases q
            · rename_i xs q4
              split at q
              · rename_i j
                split at q
                · rename_i j' q5
                  split at q
                  · rename_i e4 s4 q6
                    cases q
                    obtain ⟨ad, ob, rfl, h1, ⟨ws, rfl, h3⟩, h4⟩ := S3.put (r2.mono l3 p3) q4 q6
                    right
                    have hz : RV X.K I3 (.int j) z := r3
                    simp only [RV] at hz
                    exact ⟨ad, ws, j, j', rfl, hz, h1, by rw [h3.length]; exact q5, k _ _ I3 m3 (h4 _ ⟨_, rfl, h3.set rv⟩) (l1.trans (l2.trans l3)) (p1.trans (p2.trans p3))⟩
                  · cases q
                · cases q
              · cases q
            · cases q
        · cases q
      · cases q
    · cases q
theorem s_augA {i : Nat} {x : Str} {pos' : Pos} (hN : X.N.Nodup) (hi : X.N[i]? = some x) (hx : Loc X.env.scope x) (he : JE X cs cl e ie)
    (hf : X.fn x = true ∨ X.env.scope.names.lookup x = some .local := by first | exact .inl rfl | exact .inr rfl | assumption) : JS X cs cl w (.AugAssign (.Name x pos') .Add e pos) (.aug i .add ie) :=
  ps_imp (ps_aug hN hi hx he ip_add hf) fun D σ H ⟨B, L, I, m, env, st, f, env', st', S, q, k⟩ => by
    rw [evS] at q
    split at q
    · rename_i d q1
      split at q
      · rename_i c e1 s1 q2
        obtain ⟨v, h1, h2⟩ := S.val i _ q1
        refine ⟨v, h1, go1 S q2 fun u H1 I1 m1 S1 l1 p1 r1 => ?_⟩
        split at q
        · rename_i z1 z2
          cases q
          have h2' : RV X.K I (.int z1) v := h2
          have r1' : RV X.K I1 (.int z2) u := r1
          simp only [RV] at h2' r1'
          subst h2' r1'
          exact ⟨z1, z2, rfl, rfl, k _ H1 I1 m1 (S1.setV (show RV X.K I1 (.int _) _ by simp only [RV])) l1 p1⟩
        · cases q
      · cases q
    · cases q
theorem s_augS {i : Nat} {x : Str} {pos' : Pos} (hN : X.N.Nodup) (hi : X.N[i]? = some x) (hx : Loc X.env.scope x) (he : JE X cs cl e ie)
    (hf : X.fn x = true ∨ X.env.scope.names.lookup x = some .local := by first | exact .inl rfl | exact .inr rfl | assumption) : JS X cs cl w (.AugAssign (.Name x pos') .Sub e pos) (.aug i .sub ie) :=
  ps_imp (ps_aug hN hi hx he ip_sub hf) fun D σ H ⟨B, L, I, m, env, st, f, env', st', S, q, k⟩ => by
    rw [evS] at q
    split at q
    · rename_i d q1
      split at q
      · rename_i c e1 s1 q2
        obtain ⟨v, h1, h2⟩ := S.val i _ q1
        refine ⟨v, h1, go1 S q2 fun u H1 I1 m1 S1 l1 p1 r1 => ?_⟩
        split at q
        · rename_i z1 z2
          cases q
          have h2' : RV X.K I (.int z1) v := h2
          have r1' : RV X.K I1 (.int z2) u := r1
          simp only [RV] at h2' r1'
          subst h2' r1'
          exact ⟨z1, z2, rfl, rfl, k _ H1 I1 m1 (S1.setV (show RV X.K I1 (.int _) _ by simp only [RV])) l1 p1⟩
        · cases q
      · cases q
    · cases q
/-! ### the small ones -/
theorem s_ex (he : JE X cs cl e ie) (hs : swapsWith e none pos.line X.env = pure false := by rfl) : JS X cs cl w (.Expr e pos) (.ex ie) :=
  ps_imp (ps_expr he hs) fun D σ H ⟨B, L, I, m, env, st, f, env', st', S, q, k⟩ => by
    rw [evS] at q
    split at q
    · rename_i x e1 s1 q1
      cases q
      exact go1 S q1 fun v H1 I1 m1 S1 l1 p1 r1 => k σ H1 I1 m1 S1 l1 p1
    · cases q
theorem s_doc {x : Str} {j} {pos' : Pos} : JS X cs cl w (.Expr (.Constant (.str x) j pos) pos') .pas :=
  ps_imp ps_doc fun D σ H ⟨B, L, I, m, env, st, f, env', st', S, q, k⟩ => by
    rw [evS] at q
    cases q
    exact k σ H I m S (Le.refl I) (List.prefix_refl m)
theorem s_pas : JS X cs cl w (.Pass pos) .pas :=
  ps_imp ps_pass fun D σ H ⟨B, L, I, m, env, st, f, env', st', S, q, k⟩ => by
    rw [evS] at q
    cases q
    exact k σ H I m S (Le.refl I) (List.prefix_refl m)
theorem s_brk : JS X cs cl w (.Break pos) .brk :=
  ps_imp ps_break fun D σ H ⟨B, L, I, m, env, st, f, env', st', S, q, k⟩ => by
    rw [evS] at q
    cases q
    exact k σ H I m S (Le.refl I) (List.prefix_refl m)
theorem s_cnt : JS X cs cl w (.Continue pos) .cnt :=
  ps_imp ps_continue fun D σ H ⟨B, L, I, m, env, st, f, env', st', S, q, k⟩ => by
    rw [evS] at q
    cases q
    exact k σ H I m S (Le.refl I) (List.prefix_refl m)
theorem s_retn : JS X cs cl w (.Return none pos) .retn :=
  ps_imp ps_retN fun D σ H ⟨B, L, I, m, env, st, f, env', st', S, q, k⟩ => by
    rw [evS] at q
    cases q
    exact k .non H I m S.leave (Le.refl I) (List.prefix_refl m) (show RV X.K I .none .non by simp only [RV])
theorem s_ret (he : JE X cs cl e ie) : JS X cs cl w (.Return (some e) pos) (.ret ie) :=
  ps_imp (ps_ret he) fun D σ H ⟨B, L, I, m, env, st, f, env', st', S, q, k⟩ => by
    rw [evS] at q
    split at q
    · rename_i x e1 s1 q1
      split at q
      · rename_i y q2
        cases q
        refine go1 S q1 fun v H1 I1 m1 S1 l1 p1 r1 => ?_
        cases x with
        | o i =>
          have q2' : (match env'[i]? with | some (Slot.own b) => (match frO b with | some d => some (EV.X.d d) | none => none) | _ => none) = some y := q2
          split at q2'
          · rename_i b q3
            split at q2'
            · rename_i d q4
              cases q2'
              have h1 : σ[i]? = some (some v) := r1
              obtain ⟨a, o, h2, _⟩ := S1.own i b q3
              rw [h1] at h2
              cases h2
              obtain ⟨J, le, S', rx⟩ := S1.freezeOwn (x := .d d) q3 h1 fun o J le hJ r1 => frO_RV r1 q4 le hJ
              exact k _ H1 J m1 S'.leave (l1.trans le) p1 rx
            · cases q2'
          · cases q2'
        | d d =>
          cases q2
          exact k v H1 I1 m1 S1.leave l1 p1 r1
        | l n =>
          cases q2
          exact k v H1 I1 m1 S1.leave l1 p1 r1
        | k ds =>
          cases q2
          exact k v H1 I1 m1 S1.leave l1 p1 r1
      · cases q
    · cases q
/-! ### if, while, for -/
theorem s_if {ss ts : List Stmt} {is js : List EV.S} (hc : JT X cs cl c ic) (ha : JSs X cs cl w ss is) (hb : JSs X cs cl w ts js) : JS X cs cl w (.If c ss ts pos) (.ifs ic is js) :=
  ps_imp (ps_if hc ha hb) fun D σ H ⟨B, L, I, m, env, st, f, env', st', S, q, k⟩ => by
    rw [evS] at q
    split at q
    · rename_i e1 s1 q1
      exact ⟨B, L, I, m, env, st, true, _, _, S, q1, fun H1 I1 m1 S1 l1 p1 => ⟨B, L, I1, m1, _, _, f, env', st', S1, q, k.mv l1 p1⟩⟩
    · rename_i e1 s1 q1
      exact ⟨B, L, I, m, env, st, false, _, _, S, q1, fun H1 I1 m1 S1 l1 p1 => ⟨B, L, I1, m1, _, _, f, env', st', S1, q, k.mv l1 p1⟩⟩
    · cases q
theorem s_whl {ss : List Stmt} {is : List EV.S} (hp : PassesOwn (model X.prog X.w) X.A X.env X.xe) (hc : JT X cs cl c ic) (hb : JSs X cs cl w ss is) : JS X cs cl w (.While c ss [] pos) (.whl ic is) :=
  ps_imp (ps_while hp hc hb) fun D σ H ⟨B, L, I, m, env, st, f, env', st', S, q, k⟩ => by
    rw [evS] at q
    let W : Nat → L2.St → Hp → Prop := fun n σ' H' => ∃ I' m' ea sa, SR X.K B L I' m' ea sa σ' H' ∧ Le I I' ∧ m <+: m' ∧ whGo (evT cs cl ic) (evSs cs cl w is) n ea sa = some (f, env', st')
    refine ⟨W, ⟨w, I, m, env, st, S, Le.refl I, List.prefix_refl m, q⟩, ?_⟩
    rintro n σ1 H1 ⟨I1, m1, ea, sa, S1, l1, p1, q1⟩
    cases n with
    | zero => cases q1
    | succ n =>
      rw [whGo] at q1
      split at q1
      · cases q1
      · rename_i eb sb q2
        cases q1
        refine ⟨B, L, I1, m1, ea, sa, false, _, _, S1, q2, fun H2 I2 m2 S2 l2 p2 => ?_⟩
        simp only [Bool.false_eq_true, if_false]
        exact k _ _ _ _ S2 (l1.trans l2) (p1.trans p2)
      · rename_i eb sb q2
        refine ⟨B, L, I1, m1, ea, sa, true, eb, sb, S1, q2, fun H2 I2 m2 S2 l2 p2 => ?_⟩
        simp only [if_true]
        refine ⟨W n, fun σ' H' h => ⟨n, Nat.lt_succ_self n, h⟩, ?_⟩
        split at q1
        · cases q1
        · rename_i ec sc q3
          exact ⟨B, L, I2, m2, eb, sb, .nx, ec, sc, S2, q3, fun σ3 H3 I3 m3 S3 l3 p3 => ⟨I3, m3, ec, sc, S3, l1.trans (l2.trans l3), p1.trans (p2.trans p3), q1⟩⟩
        · rename_i ec sc q3
          exact ⟨B, L, I2, m2, eb, sb, .ct, ec, sc, S2, q3, fun σ3 H3 I3 m3 S3 l3 p3 => ⟨I3, m3, ec, sc, S3, l1.trans (l2.trans l3), p1.trans (p2.trans p3), q1⟩⟩
        · rename_i ec sc q3
          cases q1
          exact ⟨B, L, I2, m2, eb, sb, .bk, _, _, S2, q3, fun σ3 H3 I3 m3 S3 l3 p3 => k σ3 H3 I3 m3 S3 (l1.trans (l2.trans l3)) (p1.trans (p2.trans p3))⟩
        · rename_i y ec sc q3
          cases q1
          exact ⟨B, L, I2, m2, eb, sb, .rt y, _, _, S2, q3, fun v H3 I3 m3 S3 l3 p3 r3 => k v H3 I3 m3 S3 (l1.trans (l2.trans l3)) (p1.trans (p2.trans p3)) r3⟩
theorem s_for {t : T} {it : It} {iter : Expr} {ss : List Stmt} {is : List EV.S} (hp : PassesOwn (model X.prog X.w) X.A X.env X.xe) (hc : X.calm = true) (hi : JI X cs cl tg iter it) (hg : PG X tg (rG X.K t)) (hb : JSs X cs cl w ss is)
    (hs : ∀ x, foldedSetIterable iter X.env x = pure x := by intro _; rfl) : JS X cs cl w (.For tg iter ss [] pos) (.for t it is) :=
  ps_imp (ps_for hp hc hi hg hb hs) fun D σ H ⟨B, L, I, m, env, st, f, env', st', S, q, k⟩ => by
    rw [evS] at q
    split at q
    · rename_i xs e1 s1 q1
      refine ⟨B, L, I, m, env, st, xs, e1, s1, S, q1, fun J H1 I1 m1 S1 l1 p1 W0 => ?_⟩
      let W : Nat → Nat → L2.St → Hp → Prop := fun i n σ' H' => n = xs.length - i ∧ i ≤ xs.length ∧ ∃ I' m' ea sa, SR X.K B L I' m' ea sa σ' H' ∧ Le I1 I' ∧ m1 <+: m' ∧ forGo (evSs cs cl w is) t (xs.drop i) ea sa = some (f, env', st')
      refine ⟨W, ⟨xs.length, rfl, Nat.zero_le _, I1, m1, e1, s1, S1, Le.refl _, List.prefix_refl _, q⟩, ?_⟩
      rintro i n σ2 H2 ⟨rfl, hi, I2, m2, ea, sa, S2, l2, p2, q2⟩
      have WK := W0 B L I2 m2 ea sa σ2 H2 S2 l2 p2 i
      by_cases hlt : i < xs.length
      · right
        have hx : xs[i]? = some xs[i] := List.getElem?_eq_getElem hlt
        obtain ⟨go, yl⟩ := WK.1 _ hx
        refine ⟨go, fun σ' H' => W (i + 1) (xs.length - (i + 1)) σ' H', fun σ' H' w => ⟨_, by omega, w⟩, fun v H' y => ?_⟩
        obtain ⟨I3, S3, l3, rv⟩ := yl v H' y
        rw [List.drop_eq_getElem_cons hlt] at q2
        rw [forGo] at q2
        split at q2
        · cases q2
        · rename_i eb qb
          refine ⟨B, L, I3, m2, ea, sa, _, eb, S3, rv.rx, qb, fun σ4 S4 sb => ?_⟩
          have lx : Le I1 I3 := l2.trans l3
          split at q2
          · cases q2
          · rename_i ec sc q3
            exact ⟨B, L, I3, m2, eb, sa, .nx, ec, sc, S4, q3, fun σ5 H5 I5 m5 S5 l5 p5 => ⟨rfl, hlt, I5, m5, ec, sc, S5, lx.trans l5, p2.trans p5, q2⟩⟩
          · rename_i ec sc q3
            exact ⟨B, L, I3, m2, eb, sa, .ct, ec, sc, S4, q3, fun σ5 H5 I5 m5 S5 l5 p5 => ⟨rfl, hlt, I5, m5, ec, sc, S5, lx.trans l5, p2.trans p5, q2⟩⟩
          · rename_i ec sc q3
            cases q2
            exact ⟨B, L, I3, m2, eb, sa, .bk, _, _, S4, q3, fun σ5 H5 I5 m5 S5 l5 p5 => k σ5 H5 I5 m5 S5 (l1.trans (lx.trans l5)) (p1.trans (p2.trans p5))⟩
          · rename_i y ec sc q3
            cases q2
            exact ⟨B, L, I3, m2, eb, sa, .rt y, _, _, S4, q3, fun v5 H5 I5 m5 S5 l5 p5 r5 => k v5 H5 I5 m5 S5 (l1.trans (lx.trans l5)) (p1.trans (p2.trans p5)) r5⟩
      · left
        have e : i = xs.length := by omega
        subst e
        rw [List.drop_length] at q2
        rw [forGo] at q2
        cases q2
        exact ⟨WK.2 (Nat.le_refl _), k σ2 H2 I2 m2 S2 (l1.trans l2) (p1.trans p2)⟩
    · cases q
end
end EV

/-! EvO: defs, the law's end. -/
namespace EV
open PySem PySem.Spec PyProof.Rows L2

theorem fnG_ofD {P : Program} {w : World} {K : PySem.W.Frag} {mg : Str → Option Value} {base : Heap} {k : Nat} {f : Addr}
    {name qual : Str} {params : Arguments} {body : List Stmt} {scope : Scope} {dvs : List V} {kws : List (Str × V)} {fd : FuncData} {N ps : List Str} {sp : Pm} (F : FunD K name qual params body scope dvs kws f fd) (S : FnScope N ps scope)
    (len : ∀ vs H Q, sp vs H Q → vs.length = ps.length)
    (hbody : ∀ (cdv : Value) (A : Around) (outer : List Env) (s : Shared) (H : Hp) (vs : List V) (Q : VK),
      Rm k (A.deeper (envOfC qual scope s.heap.objs.size f cdv)) → sp vs H Q →
      ∃ t, PSs (cxOf CX0 P w K mg base N qual scope f cdv A outer s H E0).nox body t ∧
        t { nx := fun _ H' => Q .non H', rt := Q } (start N vs) H) :
    FnG P w K mg base (k + 1) f fd ps sp := by
  obtain ⟨oc, od, dV, kV, doc, pm, an, cdv, ct, osl, rfl, lk, hcd, _, _⟩ := F.ex
  constructor
  · exact len
  intro A outer s H args us vs Q hr e0 hb r hsp
  have hl := len _ _ _ hsp
  have KX : K.In s.heap := e0.mod.kin.keeps fun b o e => (e0.bs b o e).1
  have lim : s.heap.NoLimit := e0.mod.nolimit.keeps fun b o e => (e0.bs b o e).1
  have hkind : ∀ y ∈ ps.zip us, scope.names.lookup y.1 = some .local ∨ (scope.names.lookup y.1 = some .cell ∧
      ((cellsFrom (s.heap.objs.size + 1) scope.names []).lookup y.1).isSome = true) := by
    rintro ⟨n, v⟩ hy
    rcases S.par n (List.of_mem_zip hy).1 with q | q
    · exact .inl q
    · exact .inr ⟨q, PySem.W.cellsFrom_some _ _ _ (.inl q)⟩
  refine codeAny_call_function hr.room.depth (KX _ _ lk) rfl S.co S.gen rfl (PySem.W.codeRec_of KX hcd) (hb _ _ _ _ ?_)
  refine wpAny_newFunctionEnv_cells S.kind hkind ?_
  intro env he s1 x
  subst he
  refine ⟨lim.keeps x.toInCall.keep, codeAny_func ?_⟩
  obtain ⟨t, ht, hq⟩ := hbody cdv A outer s H vs Q (hr.deeper _) hsp
  have I := inv_start (CX := CX0) (P := P) (w := w) (qual := qual) (E := E0) S hr.room.hd e0 hl r x
  refine wpAny_mono (ht.nox.run [] s1 (start N vs) H _ I hq) (fun fl s' hs => ?_) (fun e s' hs => ?_)
  · cases fl with
    | ret u =>
      obtain ⟨v, σ', H', J, rv, q⟩ := hs
      exact ⟨v, H', J.os, J.bare, J.base, J.hok, rv, q⟩
    | next =>
      obtain ⟨σ', H', J, q⟩ := hs
      exact ⟨V.non, H', J.os, J.bare, J.base, J.hok, rfl, q⟩
    | brk =>
      obtain ⟨_, _, _, q⟩ := hs
      exact False.elim q
    | cont =>
      obtain ⟨_, _, _, q⟩ := hs
      exact False.elim q
  · exact hs
/-- a def of the law's text, as it stands -/
structure Df where
  x : Str
  args : Arguments
  body : List Stmt
  scope : Scope
  N : List Str
  ps : List Str
def Df.Is (d : Df) (K : PySem.W.Frag) (mg : Str → Option Value) : Prop := ∃ f fd, FunD K d.x d.x d.args d.body d.scope [] [] f fd ∧ mg d.x = some (.ref f) ∧ Binds K fd d.ps []
def Lv (ds : List Df) (Γ : Pg) (P : Program) (w : World) (K : PySem.W.Frag) (mg : Str → Option Value) (base : Heap) (ww k : Nat) : Prop :=
  ∀ i d, ds[i]? = some d → ∃ f fd, FnG P w K mg base k f fd d.ps (pm K d.ps.length (evCall Γ ww k i)) ∧ FunD K d.x d.x d.args d.body d.scope [] [] f fd ∧ mg d.x = some (.ref f) ∧ Binds K fd d.ps []
theorem lv_zero {ds : List Df} {Γ : Pg} {P : Program} {w : World} {K : PySem.W.Frag} {mg : Str → Option Value} {base : Heap} {ww : Nat} (h : ∀ (i : Nat) d, ds[i]? = some d → d.Is K mg) : Lv ds Γ P w K mg base ww 0 := by
  intro i d hd
  obtain ⟨f, fd, F, hm, hb⟩ := h i d hd
  refine ⟨f, fd, ⟨fun vs H Q h => h.1, fun A outer s H args us vs Q _ _ _ _ h => ?_⟩, F, hm, hb⟩
  obtain ⟨_, I, m, st, xs, x, st', _, _, q, _⟩ := h
  cases q
/-- what the names say: free names, constants -/
structure Nm (K : PySem.W.Frag) (mg : Str → Option Value) (free : List Str) : Prop where
  fr : ∀ x ∈ free, mg x = none
theorem lv_step {ds : List Df} {Γ : Pg} {P : Program} {w : World} {K : PySem.W.Frag} {mg : Str → Option Value} {base : Heap} {ww k : Nat}
    (hs : ∀ (i : Nat) (d : Df), ds[i]? = some d → FnScope d.N d.ps d.scope ∧ ∃ fn, Γ.fns[i]? = some fn ∧ fn.np = d.ps.length ∧ fn.nl = d.N.length ∧
      ∀ (f : Addr) (cdv : Value) (A : Around) (outer : List Env) (s : Shared) (H : Hp), Rm k (A.deeper (envOfC d.x d.scope s.heap.objs.size f cdv)) →
        (∀ (j : Nat) (e : Df), ds[j]? = some e → CalF P w K mg base (A.deeper (envOfC d.x d.scope s.heap.objs.size f cdv)) (evCall Γ ww k) j e.x e.ps.length) →
        JSs (cxOf CX0 P w K mg base d.N d.x d.scope f cdv A outer s H E0).nox Γ.cs (evCall Γ ww k) ww d.body fn.body)
    (h : Lv ds Γ P w K mg base ww k) : Lv ds Γ P w K mg base ww (k + 1) := by
  intro i d hd
  obtain ⟨f, fd, FG, F, hm, hb⟩ := h i d hd
  obtain ⟨S, fn, h1, h2, h3, h4⟩ := hs i d hd
  refine ⟨f, fd, fnG_ofD F S (fun vs H Q h => h.1) fun cdv A outer s H vs Q hr hsp => ?_, F, hm, hb⟩
  refine ⟨_, h4 f cdv A outer s H hr fun j e he => ?_, ?_⟩
  · obtain ⟨f', fd', FG', F', hm', hb'⟩ := h j e he
    exact ⟨⟨k, f', fd', e.ps, FG', hr, hm', F'.kp, hb'⟩⟩
  obtain ⟨hl, I, m, st, xs, x, st', S0, rs, q, kt⟩ := hsp
  rw [evCall, h1] at q
  simp only at q
  split at q
  · rename_i hx
    have e0 : L2.start d.N vs = vs.map some ++ List.replicate (fn.nl - fn.np) none := by
      unfold L2.start
      rw [hl, h2, h3]
    have S1 := S0.frame rs (fn.nl - fn.np)
    rw [e0]
    split at q
    · rename_i e1 s1 q1
      cases q
      refine ⟨_, _, I, m, _, st, .nx, _, _, S1, q1, fun σ' H' I' m' S' l p => ?_⟩
      exact kt .non H' I' m' S'.leave (show RV K I' .none .non by simp only [RV])
    · rename_i y e1 s1 q1
      cases q
      refine ⟨_, _, I, m, _, st, .rt x, _, _, S1, q1, fun v H' I' m' S' l p r => ?_⟩
      exact kt v H' I' m' S' r
    · cases q
  · cases q
theorem lv_all {ds : List Df} {Γ : Pg} {P : Program} {w : World} {K : PySem.W.Frag} {mg : Str → Option Value} {base : Heap} {ww : Nat} (h0 : ∀ (i : Nat) d, ds[i]? = some d → d.Is K mg)
    (hs : ∀ (k i : Nat) (d : Df), ds[i]? = some d → FnScope d.N d.ps d.scope ∧ ∃ fn, Γ.fns[i]? = some fn ∧ fn.np = d.ps.length ∧ fn.nl = d.N.length ∧
      ∀ (f : Addr) (cdv : Value) (A : Around) (outer : List Env) (s : Shared) (H : Hp), Rm k (A.deeper (envOfC d.x d.scope s.heap.objs.size f cdv)) →
        (∀ (j : Nat) (e : Df), ds[j]? = some e → CalF P w K mg base (A.deeper (envOfC d.x d.scope s.heap.objs.size f cdv)) (evCall Γ ww k) j e.x e.ps.length) →
        JSs (cxOf CX0 P w K mg base d.N d.x d.scope f cdv A outer s H E0).nox Γ.cs (evCall Γ ww k) ww d.body fn.body) : ∀ k, Lv ds Γ P w K mg base ww k
  | 0 => lv_zero h0
  | k + 1 => lv_step (hs k) (lv_all h0 hs k)

/-! ### the law -/
def spL (K : PySem.W.Frag) (Γ : Pg) (k li : Nat) : Pm := fun vs H Q => ∃ ww, pm K 1 (evCall Γ ww k li) vs H Q
theorem start_sp {K : PySem.W.Frag} {Γ : Pg} {k li : Nat} {H : Hp} {a : Addr} {ns : List Int} (hS : SqL K H a (ns.map V.int))
    (h : ∃ ww st', evCall Γ ww k li [.k (ns.map .int)] [] = some (.d (.bool true), st')) : spL K Γ k li [.ref a] H (fun v _ => v = .bl true) := by
  obtain ⟨ww, st', h⟩ := h
  refine ⟨ww, rfl, H, [], [], [.k (ns.map .int)], .d (.bool true), st', ?_, ⟨.ref a, [], rfl, ⟨a, ns.map V.int, rfl, hS, RVs.ints ns⟩, rfl⟩, h, fun v H' I' m' S' r => ?_⟩
  · exact {
      el := rfl
      fz := fun b u e => .inl e
      nod := List.nodup_nil
      len := rfl
      sto := fun n b h => by simp at h
      mI := fun b h => by simp at h
      val := fun i x h => by simp at h
      own := fun i b h => by simp at h
      inj := fun i j b c a h => by simp at h
      bI := fun b _ => rfl
      bm := fun b h => by simp at h
      bk := fun b o h _ => .inl h
      bp := List.prefix_refl _
      bf := fun b u e => .inl e
      bmI := fun b h => by simp at h }
  · have r' : RV K I' (.bool true) v := r
    simp only [RV] at r'
    exact r'
theorem law_fnG {ds : List Df} {Γ : Pg} {P : Program} {w : World} {K : PySem.W.Frag} {mg : Str → Option Value} {base : Heap} {k li : Nat} {d : Df} {f : Addr} {fd : FuncData} (hd : ds[li]? = some d) (h1 : d.ps.length = 1)
    (F : FunD K d.x d.x d.args d.body d.scope [] [] f fd) (hm : mg d.x = some (.ref f)) (H : ∀ ww, Lv ds Γ P w K mg base ww k) : FnG P w K mg base k f fd d.ps (spL K Γ k li) where
  len := fun vs H Q ⟨ww, h⟩ => by rw [h1]; exact h.1
  run := fun A outer s H' args us vs Q r e b rv ⟨ww, h⟩ => by
    obtain ⟨f', fd', FG, F', hm', hb⟩ := H ww li d hd
    rw [hm] at hm'
    cases hm'
    obtain ⟨oc, od, dV, kV, doc, pm', an, cdv, ct, osl, rfl, lk, hcd, _, _⟩ := F.ex
    obtain ⟨oc2, od2, dV2, kV2, doc2, pm2, an2, cdv2, ct2, osl2, rfl, lk2, hcd2, _, _⟩ := F'.ex
    rw [lk] at lk2
    injection lk2 with lk2
    injection lk2 with z1 z2 z3 z4
    injection z3 with z3
    rw [h1] at FG
    try rw [z3] at b
    exact FG.run A outer s H' args us vs Q r e b rv h
end EV

/-! EvP: sorted(set(l)), small facts of room. -/
namespace EV
open PySem PySem.Spec PyProof.Rows L2
section
variable {P : Program} {w : World} {A : Around} {E : Value → Shared → Prop} {s : Shared}
theorem call_set_listI {l : Addr} {items : Array Value} (ns : List Int) {Q : Value → Shared → Prop} (hh : A.handled = none) (hl : s.heap.IsList l items) (hit : IntsAre items.toList ns) (hb : ns.length + 1 < scanBound)
    (h : ∀ (h' : Heap) (tk c : Nat), SetR w h' s.heap.objs.size (fun j => decide (j ∈ ns)) c → c ≤ ns.length → (∀ b o, s.heap.get? b = some o → h'.get? b = some o) → Q (.ref s.heap.objs.size) { s with heap := h', toks := tk }) :
    wpAny (model P w) A (call (.type "set") [.ref l]) Q E s := by
  have hisz : items.size = ns.length := by
    have q := IntsAre.length hit
    rw [Array.length_toList] at q
    exact q
  obtain ⟨c, tl, hmro⟩ := F.called_set.mro
  have hmade := F.called_set.made
  have hsub := F.called_set.sub
  refine wpAny_call (codeAny_of_tree ?_)
  show wpAny _ _ (callAny (.type "set") _) _ _ _
  refine wpAny_pure ⟨Code.quiet_builtin _ (by decide +kernel), codeAny_builtin F.entry_type_call ?_⟩
  rw [Around.under_plain (weight_type_call_type "set" [.ref l] []) rfl]
  have h1 := F.called_set.notType
  have h2 := F.called_set.canCreate
  have hct := F.typeCall_set_1 (.ref l)
  repeat (any_goals (first | assumption | wp_step))

  refine codeAny_mono (code_set_led1 (.ref l) (E := E) (Q₁ := fun obj s₁ => obj = .ref s.heap.objs.size ∧ s₁ = { s with heap := s.heap.push { cls := .type "set", dict := none, data := .set #[] 0 (.fresh 0 0 (!w.params.followText "set-order")) } }) ⟨rfl, rfl⟩) fun r s₁ hr => ?_
  cases r with
  | error e => exact hr
  | ok fl =>
    cases fl with
    | ret obj =>
      obtain ⟨rfl, rfl⟩ := hr
      have hS : (s.heap.push { cls := .type "set", dict := none, data := .set #[] 0 (.fresh 0 0 (!w.params.followText "set-order")) }).get? s.heap.objs.size = some { cls := .type "set", dict := none, data := .set #[] 0 (.fresh 0 0 (!w.params.followText "set-order")) } := Heap.get?_push_size _ rfl
      have hT : Shared.TypeIs { s with heap := s.heap.push { cls := .type "set", dict := none, data := .set #[] 0 (.fresh 0 0 (!w.params.followText "set-order")) } } (.ref s.heap.objs.size) "set" := ⟨_, hS, rfl⟩
      have hli := F.called_set.init.lookup
      have hbi := F.called_set.init.bind (.ref s.heap.objs.size)
      repeat (any_goals (first | assumption | wp_step))

      refine codeAny_mono (codeAny_call_builtin (R := wants (fun r s₂ => r = .none ∧ ∃ h' tk c, s₂ = { s with heap := h', toks := tk } ∧ SetR w h' s.heap.objs.size (fun j => decide (j ∈ ns)) c ∧ c ≤ ns.length ∧
          (∀ b o, s.heap.get? b = some o → h'.get? b = some o)) E) F.called_set.init.plain F.entry_set_init (check_set_init_1 hT ?_)) fun r₂ s₂ hr₂ => ?_
      · obtain ⟨ol, hol, hcl, nl, hdl⟩ := hl
        obtain ⟨ocls, odict, odata, oslots⟩ := ol
        simp only at hcl hdl
        subst hcl; subst hdl
        have hol' : (s.heap.push { cls := .type "set", dict := none, data := .set #[] 0 (.fresh 0 0 (!w.params.followText "set-order")) }).get? l = some { cls := .type "list", dict := odict, data := .seq items nl, slots := oslots } := Heap.get?_push_of_some _ hol
        have hsls := F.sub_list_set
        have hslf := F.sub_list_frozenset
        have hne : (Value.type "list" == Value.type "dict") = false := by decide
        have hl1 : (s.heap.push { cls := .type "set", dict := none, data := .set #[] 0 (.fresh 0 0 (!w.params.followText "set-order")) }).IsList l items := ⟨_, hol', rfl, nl, rfl⟩
        unfold Builtin.«set.__init__» noKeywords Builtin.Frozenset.updateFrom
        generalize hPI : pyIter = PI
        wp_walk
        subst hPI

        refine wpAny_pyIter_list hl1 ?_
        refine wpAny_bind (wpAny_runValue ?_)
        have hlS : l < s.heap.objs.size := Heap.lt_size hol
        have hh3 : A.in1.in1.in1.handled = none := by simp [hh]
        have hz1 : (s.heap.push { cls := .type "set", dict := none, data := .set #[] 0 (.fresh 0 0 (!w.params.followText "set-order")) }).objs.size = s.heap.objs.size + 1 := Heap.size_push ..
        have hneI : l ≠ (s.heap.push { cls := .type "set", dict := none, data := .set #[] 0 (.fresh 0 0 (!w.params.followText "set-order")) }).objs.size := by
          rw [Heap.size_push]; exact Nat.ne_of_lt (Nat.lt_succ_of_lt hlS)
        have hSf : s.heap.objs.size ∉ [(s.heap.push { cls := .type "set", dict := none, data := .set #[] 0 (.fresh 0 0 (!w.params.followText "set-order")) }).objs.size, l] := by
          rw [Heap.size_push]; simp only [List.mem_cons, List.mem_singleton, List.not_mem_nil, or_false, not_or]
          exact ⟨Nat.ne_of_lt (Nat.lt_succ_self _), Nat.ne_of_gt hlS⟩
        have hval : ∀ (i : Nat) (v : Value), items[i]? = some v → ∃ k t, ns[i]? = some k ∧ v = .int k t := fun i v hv => by
          have hi : i < ns.length := by rw [← hisz]; exact (Array.getElem?_eq_some_iff.mp hv).1
          obtain ⟨t, e⟩ := PyProof.Rows.IntsAre.int_at hit i v (by rw [Array.getElem?_toList]; exact hv)
          refine ⟨ns[i], t, List.getElem?_eq_getElem hi, ?_⟩
          rw [e, List.getD_eq_getElem?_getD, List.getElem?_eq_getElem hi] <;> rfl
        refine set_update_ints ((Walks.list hh3 _ l hneI items).toS) s.heap.objs.size
          hSf ns hisz hb hval (items.size - 0) 0 _ (by omega) (Nat.zero_le _)
          ⟨⟨_, Heap.get?_push_size _ rfl, rfl, rfl⟩, (hl1.push _)⟩ ?hS0 ?hR
        case hS0 =>
          have hget : ((s.heap.push { cls := .type "set", dict := none, data := .set #[] 0 (.fresh 0 0 (!w.params.followText "set-order")) }).push { cls := .type "list_iterator", data := .fields #[.ref l, .int 0 0] }).get? s.heap.objs.size
              = some { cls := .type "set", dict := none, data := .set #[] 0 (.fresh 0 0 (!w.params.followText "set-order")) } := Heap.get?_push_of_some _ hS
          exact ⟨0, Nat.le_refl 0, setR_new_at hget⟩
        case hR =>
          intro s' c' hm hc' hS'
          obtain ⟨h', g2, d', tk', os'⟩ := s'
          have eg : g2 = s.gens := hm.gens
          have ed : d' = s.drawn := hm.drawn
          have eo : os' = s.os := hm.os
          subst eg; subst ed; subst eo
          show wpAny _ _ _ _ _ _
          refine wpAny_pure ?_
          show wpAny _ _ (ret Value.none) _ _ _
          rw [hisz] at hc'
          refine wpAny_pure ⟨rfl, h', tk', c', rfl, hS', hc', fun b o e => ?_⟩
          have hb0 : b < s.heap.objs.size := Heap.lt_size e
          have hb1 : b ≠ s.heap.objs.size := Nat.ne_of_lt hb0
          have hb2 : b ≠ (s.heap.push { cls := .type "set", dict := none, data := .set #[] 0 (.fresh 0 0 (!w.params.followText "set-order")) }).objs.size := by
            rw [Heap.size_push]; exact Nat.ne_of_lt (Nat.lt_succ_of_lt hb0)
          exact hm.heap b o (by simp only [List.mem_cons, List.mem_singleton, List.not_mem_nil, or_false, not_or]; exact ⟨hb1, hb2⟩) (Heap.get?_push_of_some _ (Heap.get?_push_of_some _ e))

      · cases r₂ with
        | error e => exact hr₂
        | ok fl₂ =>
          cases fl₂ with
          | ret r =>
            obtain ⟨rfl, h', tk, c', rfl, hS', hc', hk'⟩ := hr₂
            repeat (any_goals (first | assumption | wp_step))
            exact h _ _ _ hS' hc' hk'
          | _ => exact hr₂.elim
    | _ => exact hr.elim


end
end EV

/-! EvQ: sorted(set(l)), small facts of room. -/
namespace EV
open PySem PySem.Spec PyProof.Rows L2

theorem lt65 {u c : Nat} (h : u + 70 < c) : u + 65 < c := by omega
theorem lt1 {u c : Nat} (h : u + 70 < c) : u + 1 < c := by omega
theorem u70 {k : Nat} {A : Around} (r : Rm k A) : A.units + 70 < cLine := by
  have := r.room.un
  omega
theorem insI_mem {x y : Int} : ∀ {l : List Int}, y ∈ insI x l ↔ y = x ∨ y ∈ l
  | [] => by simp [insI]
  | z :: r => by
    unfold insI
    split
    · simp
    · split
      · rename_i h
        subst h
        simp
      · rw [List.mem_cons, insI_mem, List.mem_cons]
        constructor
        · rintro (h | h | h)
          · exact .inr (.inl h)
          · exact .inl h
          · exact .inr (.inr h)
        · rintro (h | h | h)
          · exact .inr (.inl h)
          · exact .inl h
          · exact .inr (.inr h)
theorem insI_lt {x : Int} : ∀ {l : List Int}, l.Pairwise (· < ·) → (insI x l).Pairwise (· < ·)
  | [], _ => by simp [insI]
  | z :: r, h => by
    obtain ⟨h1, h2⟩ := List.pairwise_cons.mp h
    unfold insI
    split
    · rename_i hx
      refine List.pairwise_cons.mpr ⟨fun y hy => ?_, h⟩
      rcases List.mem_cons.mp hy with e | hy
      · omega
      · have := h1 y hy
        omega
    · split
      · exact h
      · refine List.pairwise_cons.mpr ⟨fun y hy => ?_, insI_lt h2⟩
        rcases insI_mem.mp hy with e | hy
        · omega
        · exact h1 y hy
theorem ssetI_mem {y : Int} : ∀ {l : List Int}, y ∈ ssetI l ↔ y ∈ l
  | [] => by simp [ssetI]
  | z :: r => by
    unfold ssetI
    rw [insI_mem, ssetI_mem, List.mem_cons]
theorem ssetI_lt : ∀ {l : List Int}, (ssetI l).Pairwise (· < ·)
  | [] => by simp [ssetI]
  | z :: r => by
    unfold ssetI
    exact insI_lt ssetI_lt
theorem lt_uniq : ∀ {l k : List Int}, l.Pairwise (· < ·) → k.Pairwise (· < ·) → (∀ x, x ∈ l ↔ x ∈ k) → l = k
  | [], [], _, _, _ => rfl
  | [], y :: k, _, _, h => by
    have := (h y).mpr List.mem_cons_self
    simp at this
  | x :: l, [], _, _, h => by
    have := (h x).mp List.mem_cons_self
    simp at this
  | x :: l, y :: k, hl, hk, h => by
    obtain ⟨a1, a2⟩ := List.pairwise_cons.mp hl
    obtain ⟨b1, b2⟩ := List.pairwise_cons.mp hk
    have e : x = y := by
      rcases List.mem_cons.mp ((h x).mp List.mem_cons_self) with q | q
      · exact q
      · rcases List.mem_cons.mp ((h y).mpr List.mem_cons_self) with p | p
        · exact p.symm
        · have := a1 y p
          have := b1 x q
          omega
    subst e
    congr 1
    refine lt_uniq a2 b2 fun z => ⟨fun hz => ?_, fun hz => ?_⟩
    · rcases List.mem_cons.mp ((h z).mp (List.mem_cons_of_mem _ hz)) with q | q
      · have := a1 z hz
        omega
      · exact q
    · rcases List.mem_cons.mp ((h z).mpr (List.mem_cons_of_mem _ hz)) with q | q
      · have := b1 z hz
        omega
      · exact q
section
variable {X : Cx} {cs : List D} {cl : Cl} {a : Expr} {ia : E} {p p2 pos pos2 : Pos}
def rSetLI (K : PySem.W.Frag) (w : World) : List V → Hp → VK → Prop := fun vs H Q => ∃ (a : Addr) (ns : List Int), vs = [.ref a] ∧ SqL K H a (ns.map .int) ∧ ns.length ≤ 1000 ∧
  ∀ (p : Addr) (c : Nat), H p = none → c ≤ ns.length → Q (.ref p) (upd H p (SetO w p (fun j => decide (j ∈ ns)) c))
theorem cr_setLI (hc : X.calm = true) : CallR X (.type "set") (rSetLI X.K X.w) := by
  intro pins s σ H vs us Q I r h
  obtain ⟨a, ns, rfl, ha, hl, q⟩ := h
  rw [Vals.ref1 r]
  obtain ⟨its, rv, pl, hz⟩ := I.list ha
  have hi := intsAre_of rv
  have hb : ns.length + 1 < scanBound := by
    have : (1001 : Nat) < scanBound := by decide
    omega
  refine call_set_listI ns (I.ok.hd hc) pl.isList (by simpa using hi) hb fun h' tk c R hc' k => ?_
  have hn : H s.heap.objs.size = none := I.hok.fresh (Nat.le_refl _)
  exact ⟨.ref s.heap.objs.size, _, I.laid (t' := tk) k (Nat.le_refl _) (setO_new R), rfl, q _ c hn hc'⟩
theorem xa_sset (h70 : X.A.units + 70 < cLine) (g1 : X.mg "sorted" = none) (g2 : X.mg "set" = none) (hg1 : Gl X "sorted") (hg2 : Gl X "set") (ha : JE X cs cl a ia) (hc : X.calm = true := by rfl)
    (hs : starEach [a] X.env = (false, eval a X.env) :: starEach [] X.env := by rfl)
    (hs2 : starEach [.Call (.Name "set" p2) [a] [] pos2] X.env = (false, eval (.Call (.Name "set" p2) [a] [] pos2) X.env) :: starEach [] X.env := by rfl) :
    JA X cs cl (.Call (.Name "sorted" p) [.Call (.Name "set" p2) [a] [] pos2] [] pos) (.ba .sset ia) :=
  pe_imp (pe_callB (cr_sortedSet hc) hg1 g1 rfl (pa_cons (pe_callTy (cr_setLI hc) hg2 g2 rfl (pa_cons ha pa_nil hs) (by decide) (by decide) hs rfl) pa_nil hs2) (by decide) (by decide) hs2 rfl)
    fun σ H Q ⟨B, L, I, m, env, st, z, e', s', S, q, kt⟩ => by
    rw [evA] at q
    split at q
    · rename_i x e1 s1 q1
      split at q
      · rename_i o q2
        cases q
        refine go1 S q1 fun v H1 I1 m1 S1 l1 p1 r1 => ?_
        unfold baX at q2
        simp only at q2
        split at q2
        · rename_i d q3
          split at q2
          · rename_i ds q4
            split at q2
            · rename_i ns q5
              split at q2
              · rename_i h64
                cases q2
                have hd : d = .list ds := by
                  unfold listD at q4
                  split at q4
                  · cases q4
                    rfl
                  · cases q4
                subst hd
                cases intsD_map q5
                obtain ⟨ad, vs, rfl, h1, h2⟩ := RH.lst S1 (S1.toD r1 q3)
                cases h2.toInts
                refine ⟨ad, ns, rfl, .inl (.inl h1), by omega, fun p c hp hc' => ?_⟩
                have F := S1.alloc hp (SetO X.w p (fun j => decide (j ∈ ns)) c)
                refine ⟨p, _, c, rfl, upd_same, by omega, fun ns' p' hlt hmem hlen hp' => ?_⟩
                have e : ns' = ssetI ns := lt_uniq hlt ssetI_lt fun k => by rw [hmem, ssetI_mem]; simp
                subst e
                have hm : (ssetI ns).map (fun i => EV.X.d (.int i)) = ((ssetI ns).map PyData.int).map EV.X.d := by simp
                have F2 := F.sr.alloc hp' (.lst ((ssetI ns).map V.int))
                exact kt p' _ _ I1 m1 F2 l1 p1 ⟨_, rfl, by rw [hm]; exact REs.ofD (RVs.ints _)⟩
              · cases q2
            · cases q2
          · cases q2
        · cases q2
      · cases q
    · cases q
end
end EV

/-! EvR: the evaluator's equations, one for each form, for symbolic runs. -/
namespace EV
open PySem L2

def bnd {α β : Type} : Option (α × Lo × Sto) → (α → Lo → Sto → Option β) → Option β
  | some (x, e, s), k => k x e s
  | none, _ => none
def obd {α β : Type} : Option α → (α → Option β) → Option β
  | some x, k => k x
  | none, _ => none
def cnd {β : Type} : Option Bool → Option β → Option β → Option β
  | some true, a, _ => a
  | some false, _, b => b
  | none, _, _ => none
def ifT {β : Type} : Option (Bool × Lo × Sto) → (Lo → Sto → Option β) → (Lo → Sto → Option β) → Option β
  | some (true, e, s), a, _ => a e s
  | some (false, e, s), _, b => b e s
  | none, _, _ => none
def seqF : Option (Fl × Lo × Sto) → (Lo → Sto → Option (Fl × Lo × Sto)) → Option (Fl × Lo × Sto)
  | some (.nx, e, s), k => k e s
  | some (.bk, e, s), _ => some (.bk, e, s)
  | some (.ct, e, s), _ => some (.ct, e, s)
  | some (.rt x, e, s), _ => some (.rt x, e, s)
  | none, _ => none
def slotX : Option Slot → Nat → Option X
  | some (.v x), _ => some x
  | some (.own _), i => some (.o i)
  | _, _ => none
def tupX (xs : List X) : Option D := match allD xs with
  | some ds => if ds.length ≤ sizeLine then some (.tuple ds) else none
  | none => none
def resF : Option (Fl × Lo × Sto) → Option (X × Sto)
  | some (.nx, _, s) => some (.d .none, s)
  | some (.rt x, _, s) => some (x, s)
  | _ => none
section
variable {α β : Type} {x : α} {e : Lo} {s : Sto} {b p q : Bool} {k : α → Lo → Sto → Option β} {k0 : α → Option β} {A B : Lo → Sto → Option β} {a c : Option β}
theorem bnd_some : bnd (some (x, e, s)) k = k x e s := of_eq_true (eq_self _)
theorem obd_some : obd (some x) k0 = k0 x := of_eq_true (eq_self _)
theorem cnd_some : cnd (some b) a c = cond b a c := by cases b <;> rfl
theorem ifT_some : ifT (some (b, e, s)) A B = cond b (A e s) (B e s) := by cases b <;> rfl
theorem bnd_cond {u v : Option (α × Lo × Sto)} : bnd (cond b u v) k = cond b (bnd u k) (bnd v k) := by cases b <;> rfl
theorem ifT_cond {u v : Option (Bool × Lo × Sto)} : ifT (cond b u v) A B = cond b (ifT u A B) (ifT v A B) := by cases b <;> rfl
theorem cAnd : cond p (some (X.d (.bool q), e, s)) (some (X.d (.bool p), e, s)) = some (X.d (.bool (p && q)), e, s) := by cases p <;> rfl
theorem cOr : cond p (some (X.d (.bool p), e, s)) (some (X.d (.bool q), e, s)) = some (X.d (.bool (p || q)), e, s) := by cases p <;> rfl
theorem cAndT : cond p (some (q, e, s)) (some (false, e, s)) = some (p && q, e, s) := by cases p <;> rfl
theorem cOrT : cond p (some (true, e, s)) (some (q, e, s)) = some (p || q, e, s) := by cases p <;> rfl
theorem seq_nx {k : Lo → Sto → Option (Fl × Lo × Sto)} : seqF (some (.nx, e, s)) k = k e s := of_eq_true (eq_self _)
theorem seq_rt {x : X} {k : Lo → Sto → Option (Fl × Lo × Sto)} : seqF (some (.rt x, e, s)) k = some (.rt x, e, s) := of_eq_true (eq_self _)
theorem seq_bk {k : Lo → Sto → Option (Fl × Lo × Sto)} : seqF (some (.bk, e, s)) k = some (.bk, e, s) := of_eq_true (eq_self _)
theorem seq_ct {k : Lo → Sto → Option (Fl × Lo × Sto)} : seqF (some (.ct, e, s)) k = some (.ct, e, s) := of_eq_true (eq_self _)
theorem seq_cond {u v : Option (Fl × Lo × Sto)} {k : Lo → Sto → Option (Fl × Lo × Sto)} : seqF (cond b u v) k = cond b (seqF u k) (seqF v k) := by cases b <;> rfl
theorem res_nx : resF (some (.nx, e, s)) = some (.d .none, s) := of_eq_true (eq_self _)
theorem res_rt {x : X} : resF (some (.rt x, e, s)) = some (x, s) := of_eq_true (eq_self _)
theorem res_cond {u v : Option (Fl × Lo × Sto)} : resF (cond b u v) = cond b (resF u) (resF v) := by cases b <;> rfl
theorem slot_v {x : X} {i : Nat} : slotX (some (.v x)) i = some x := of_eq_true (eq_self _)
theorem slot_own {o : Ob} {i : Nat} : slotX (some (.own o)) i = some (.o i) := of_eq_true (eq_self _)
theorem cond_same {a : α} : cond b a a = a := by cases b <;> rfl
theorem gz {α : Type} {a : α} {l : List α} : (a :: l)[0]? = some a := of_eq_true (eq_self _)
theorem gs {α : Type} {a : α} {l : List α} {n : Nat} : (a :: l)[n + 1]? = l[n]? := of_eq_true (eq_self _)
theorem sz {α : Type} {a b : α} {l : List α} : (a :: l).set 0 b = b :: l := of_eq_true (eq_self _)
theorem ss {α : Type} {a b : α} {l : List α} {n : Nat} : (a :: l).set (n + 1) b = a :: l.set n b := of_eq_true (eq_self _)
theorem mc {α β : Type} {a : α} {l : List α} {f : α → β} : (a :: l).map f = f a :: l.map f := of_eq_true (eq_self _)
theorem mn {α β : Type} {f : α → β} : ([] : List α).map f = [] := of_eq_true (eq_self _)
theorem ac {α : Type} {a : α} {l m : List α} : (a :: l) ++ m = a :: (l ++ m) := of_eq_true (eq_self _)
theorem an {α : Type} {m : List α} : [] ++ m = m := of_eq_true (eq_self _)
theorem rc {α : Type} {a : α} {n : Nat} : List.replicate (n + 1) a = a :: List.replicate n a := of_eq_true (eq_self _)
theorem rz {α : Type} {a : α} : List.replicate 0 a = [] := of_eq_true (eq_self _)
theorem om {α β : Type} {a : α} {f : α → β} : Option.map f (some a) = some (f a) := of_eq_true (eq_self _)
end
section
variable {cs : List D} {cl : Nat → List X → Sto → Option (X × Sto)} {w : Nat} {env : Lo} {st : Sto}
theorem E_nm {i : Nat} : evE cs cl (.nm i) env st = obd (slotX env[i]? i) fun x => some (x, env, st) := by
  rw [evE]
  cases q : env[i]? with
  | none => rfl
  | some sl => cases sl <;> rfl
theorem E_ct {d : D} : evE cs cl (.ct d) env st = some (.d d, env, st) := by rw [evE]
theorem E_gl {c : Nat} : evE cs cl (.gl c) env st = obd cs[c]? fun d => some (.d d, env, st) := by
  rw [evE]
  cases cs[c]? <;> rfl
theorem E_tup {es : List E} : evE cs cl (.tup es) env st = bnd (evEs cs cl es env st) fun xs e s => obd (tupX xs) fun d => some (.d d, e, s) := by
  rw [evE]
  cases evEs cs cl es env st with
  | none => rfl
  | some r =>
    obtain ⟨xs, e, s⟩ := r
    show _ = obd (tupX xs) _
    unfold tupX
    cases h : allD xs with
    | none => simp [h, obd]
    | some ds =>
      simp only [h]
      split <;> rfl
theorem E_bop {o : BO} {a b : E} : evE cs cl (.bop o a b) env st = bnd (evE cs cl a env st) fun x e1 s1 => bnd (evE cs cl b e1 s1) fun y e2 s2 => obd (bopX o e2 s2 x y) fun z => some (z, e2, s2) := by
  rw [evE]
  cases evE cs cl a env st with
  | none => rfl
  | some r =>
    obtain ⟨x, e1, s1⟩ := r
    simp only [bnd]
    cases evE cs cl b e1 s1 with
    | none => rfl
    | some r =>
      obtain ⟨y, e2, s2⟩ := r
      simp only [bnd, bopX]
      cases toD e2 s2 x with
      | none => rfl
      | some d =>
        cases toD e2 s2 y with
        | none => rfl
        | some c =>
          simp only
          cases bopD o d c <;> rfl
theorem E_neg {a : E} : evE cs cl (.neg a) env st = bnd (evE cs cl a env st) fun x e s => obd (match x with | .d (.int i) => some i | _ => none) fun i => some (.d (.int (-i)), e, s) := by
  rw [evE]
  cases evE cs cl a env st with
  | none => rfl
  | some r =>
    obtain ⟨x, e1, s1⟩ := r
    cases x with
    | d d => cases d <;> rfl
    | _ => rfl
theorem E_not {a : E} : evE cs cl (.not a) env st = bnd (evE cs cl a env st) fun x e s => obd (tru e s x) fun b => some (.d (.bool (!b)), e, s) := by
  rw [evE]
  cases evE cs cl a env st with
  | none => rfl
  | some r =>
    obtain ⟨x, e1, s1⟩ := r
    simp only [bnd]
    cases tru e1 s1 x <;> rfl
theorem E_and {a b : E} : evE cs cl (.and a b) env st = bnd (evE cs cl a env st) fun x e s => cnd (tru e s x) (evE cs cl b e s) (some (x, e, s)) := by
  rw [evE]
  cases evE cs cl a env st with
  | none => rfl
  | some r =>
    obtain ⟨x, e1, s1⟩ := r
    simp only [bnd]
    cases tru e1 s1 x with
    | none => rfl
    | some b => cases b <;> rfl
theorem E_or {a b : E} : evE cs cl (.or a b) env st = bnd (evE cs cl a env st) fun x e s => cnd (tru e s x) (some (x, e, s)) (evE cs cl b e s) := by
  rw [evE]
  cases evE cs cl a env st with
  | none => rfl
  | some r =>
    obtain ⟨x, e1, s1⟩ := r
    simp only [bnd]
    cases tru e1 s1 x with
    | none => rfl
    | some b => cases b <;> rfl
theorem E_cmp {o : CO} {a b : E} : evE cs cl (.cmp o a b) env st = bnd (evE cs cl a env st) fun x e1 s1 => bnd (evE cs cl b e1 s1) fun y e2 s2 => obd (cmpX e2 s2 o x y) fun k => some (.d (.bool k), e2, s2) := by
  rw [evE]
  cases evE cs cl a env st with
  | none => rfl
  | some r =>
    obtain ⟨x, e1, s1⟩ := r
    simp only [bnd]
    cases evE cs cl b e1 s1 with
    | none => rfl
    | some r =>
      obtain ⟨y, e2, s2⟩ := r
      simp only [bnd]
      cases cmpX e2 s2 o x y <;> rfl
theorem E_chn {o p : CO} {a b c : E} : evE cs cl (.chn o p a b c) env st = bnd (evE cs cl a env st) fun x e1 s1 => bnd (evE cs cl b e1 s1) fun y e2 s2 => cnd (cmpX e2 s2 o x y)
    (bnd (evE cs cl c e2 s2) fun z e3 s3 => obd (cmpX e3 s3 p y z) fun k => some (.d (.bool k), e3, s3)) (some (.d (.bool false), e2, s2)) := by
  rw [evE]
  cases evE cs cl a env st with
  | none => rfl
  | some r =>
    obtain ⟨x, e1, s1⟩ := r
    simp only [bnd]
    cases evE cs cl b e1 s1 with
    | none => rfl
    | some r =>
      obtain ⟨y, e2, s2⟩ := r
      simp only [bnd]
      cases cmpX e2 s2 o x y with
      | none => rfl
      | some t =>
        cases t with
        | false => rfl
        | true =>
          simp only [cnd]
          cases evE cs cl c e2 s2 with
          | none => rfl
          | some r =>
            obtain ⟨z, e3, s3⟩ := r
            simp only [bnd]
            cases cmpX e3 s3 p y z <;> rfl
theorem E_ite {c a b : E} : evE cs cl (.ite c a b) env st = ifT (evT cs cl c env st) (fun e s => evE cs cl a e s) (fun e s => evE cs cl b e s) := by
  rw [evE]
  cases evT cs cl c env st with
  | none => rfl
  | some r =>
    obtain ⟨x, e1, s1⟩ := r
    cases x <;> rfl
theorem E_ix {a b : E} : evE cs cl (.ix a b) env st = bnd (evE cs cl a env st) fun x e1 s1 => bnd (evE cs cl b e1 s1) fun y e2 s2 => obd (ixX e2 s2 x y) fun z => some (z, e2, s2) := by
  rw [evE]
  cases evE cs cl a env st with
  | none => rfl
  | some r =>
    obtain ⟨x, e1, s1⟩ := r
    simp only [bnd]
    cases evE cs cl b e1 s1 with
    | none => rfl
    | some r =>
      obtain ⟨y, e2, s2⟩ := r
      simp only [bnd]
      cases ixX e2 s2 x y <;> rfl
theorem E_sl {a : E} {lo hi : Option E} : evE cs cl (.sl a lo hi) env st = bnd (evE cs cl a env st) fun x e1 s1 => bnd (evP cs cl lo e1 s1) fun l e2 s2 => bnd (evP cs cl hi e2 s2) fun h e3 s3 => obd (slX e3 s3 x l h) fun z => some (.d z, e3, s3) := by
  rw [evE]
  cases evE cs cl a env st with
  | none => rfl
  | some r =>
    obtain ⟨x, e1, s1⟩ := r
    simp only [bnd]
    cases evP cs cl lo e1 s1 with
    | none => rfl
    | some r =>
      obtain ⟨l, e2, s2⟩ := r
      simp only [bnd]
      cases evP cs cl hi e2 s2 with
      | none => rfl
      | some r =>
        obtain ⟨h, e3, s3⟩ := r
        simp only [bnd]
        cases slX e3 s3 x l h <;> rfl
def callX (cl : Nat → List X → Sto → Option (X × Sto)) (f : Nat) (xs : List X) (e : Lo) (s : Sto) : Option (X × Lo × Sto) :=
  if xs.any X.isO then none else match cl f xs s with
    | some (x, s') => some (x, e, s')
    | none => none
theorem E_call {f : Nat} {es : List E} : evE cs cl (.call f es) env st = bnd (evEs cs cl es env st) fun xs e s => callX cl f xs e s := by
  rw [evE]
  cases evEs cs cl es env st <;> rfl
theorem callX_of {f : Nat} {xs : List X} {e : Lo} {s s' : Sto} {x : X} (h : xs.any X.isO = false) (hc : cl f xs s = some (x, s')) : callX cl f xs e s = some (x, e, s') := by
  unfold callX
  rw [h, hc]
  rfl
theorem E_bi {b : Bi} {es : List E} : evE cs cl (.bi b es) env st = bnd (evEs cs cl es env st) fun xs e s => obd (biX e s b xs) fun d => some (.d d, e, s) := by
  rw [evE]
  cases evEs cs cl es env st with
  | none => rfl
  | some r =>
    obtain ⟨xs, e, s⟩ := r
    simp only [bnd]
    cases biX e s b xs <;> rfl
def isL : Option Ob → Bool
  | some (.lst _) => true
  | _ => false
theorem E_me {m : Me} {a : E} {es : List E} : evE cs cl (.me m a es) env st = bnd (evE cs cl a env st) fun x e1 s1 => cond (isL (obX e1 s1 x)) (bnd (evEs cs cl es e1 s1) fun xs e2 s2 => meX e2 s2 m x xs) none := by
  rw [evE]
  cases evE cs cl a env st with
  | none => rfl
  | some r =>
    obtain ⟨x, e1, s1⟩ := r
    simp only [bnd]
    cases obX e1 s1 x with
    | none => rfl
    | some o =>
      cases o with
      | dic _ => rfl
      | lst _ =>
        simp only [isL, cond]
        cases evEs cs cl es e1 s1 <;> rfl
theorem E_al {a : A} : evE cs cl (.al a) env st = bnd (evA cs cl a env st) fun b e s => obd (frO b) fun d => some (.d d, e, s) := by
  rw [evE]
  cases evA cs cl a env st with
  | none => rfl
  | some r =>
    obtain ⟨b, e, s⟩ := r
    simp only [bnd]
    cases frO b <;> rfl
theorem E_st {a : A} : evE cs cl (.st a) env st = bnd (evA cs cl a env st) fun b e s => some (.l s.length, e, s ++ [b]) := by
  rw [evE]
  cases evA cs cl a env st <;> rfl
theorem T_and {a b : E} : evT cs cl (.and a b) env st = ifT (evT cs cl a env st) (fun e s => evT cs cl b e s) (fun e s => some (false, e, s)) := by
  rw [evT]
  cases evT cs cl a env st with
  | none => rfl
  | some r =>
    obtain ⟨x, e1, s1⟩ := r
    cases x <;> rfl
theorem T_or {a b : E} : evT cs cl (.or a b) env st = ifT (evT cs cl a env st) (fun e s => some (true, e, s)) (fun e s => evT cs cl b e s) := by
  rw [evT]
  cases evT cs cl a env st with
  | none => rfl
  | some r =>
    obtain ⟨x, e1, s1⟩ := r
    cases x <;> rfl
theorem T_not {a : E} : evT cs cl (.not a) env st = bnd (evT cs cl a env st) fun b e s => some (!b, e, s) := by
  rw [evT]
  cases evT cs cl a env st <;> rfl
theorem T_nm {i : Nat} : evT cs cl (.nm i) env st = obd (slotX env[i]? i) fun x => obd (tru env st x) fun k => some (k, env, st) := by
  rw [evT]
  cases q : env[i]? with
  | none => rfl
  | some sl =>
    cases sl with
    | no => rfl
    | v x =>
      simp only [slotX, obd]
      cases tru env st x <;> rfl
    | own b =>
      simp only [slotX, obd]
      cases tru env st (.o i) <;> rfl
theorem T_cmp {o : CO} {a b : E} : evT cs cl (.cmp o a b) env st = bnd (evE cs cl a env st) fun x e1 s1 => bnd (evE cs cl b e1 s1) fun y e2 s2 => obd (cmpX e2 s2 o x y) fun k => some (k, e2, s2) := by
  rw [evT]
  cases evE cs cl a env st with
  | none => rfl
  | some r =>
    obtain ⟨x, e1, s1⟩ := r
    simp only [bnd]
    cases evE cs cl b e1 s1 with
    | none => rfl
    | some r =>
      obtain ⟨y, e2, s2⟩ := r
      simp only [bnd]
      cases cmpX e2 s2 o x y <;> rfl
theorem T_chn {o p : CO} {a b c : E} : evT cs cl (.chn o p a b c) env st = bnd (evE cs cl a env st) fun x e1 s1 => bnd (evE cs cl b e1 s1) fun y e2 s2 => cnd (cmpX e2 s2 o x y)
    (bnd (evE cs cl c e2 s2) fun z e3 s3 => obd (cmpX e3 s3 p y z) fun k => some (k, e3, s3)) (some (false, e2, s2)) := by
  rw [evT]
  cases evE cs cl a env st with
  | none => rfl
  | some r =>
    obtain ⟨x, e1, s1⟩ := r
    simp only [bnd]
    cases evE cs cl b e1 s1 with
    | none => rfl
    | some r =>
      obtain ⟨y, e2, s2⟩ := r
      simp only [bnd]
      cases cmpX e2 s2 o x y with
      | none => rfl
      | some t =>
        cases t with
        | false => rfl
        | true =>
          simp only [cnd]
          cases evE cs cl c e2 s2 with
          | none => rfl
          | some r =>
            obtain ⟨z, e3, s3⟩ := r
            simp only [bnd]
            cases cmpX e3 s3 p y z <;> rfl
theorem T_ix {a b : E} : evT cs cl (.ix a b) env st = bnd (evE cs cl (.ix a b) env st) fun x e s => obd (tru e s x) fun k => some (k, e, s) := by
  rw [evT, evE]
  cases evE cs cl a env st with
  | none => rfl
  | some r =>
    obtain ⟨x, e1, s1⟩ := r
    simp only
    cases evE cs cl b e1 s1 with
    | none => rfl
    | some r =>
      obtain ⟨y, e2, s2⟩ := r
      simp only
      cases ixX e2 s2 x y with
      | none => rfl
      | some z =>
        simp only [bnd]
        cases tru e2 s2 z <;> rfl
theorem T_call {f : Nat} {es : List E} : evT cs cl (.call f es) env st = bnd (evE cs cl (.call f es) env st) fun x e s => obd (tru e s x) fun k => some (k, e, s) := by
  rw [evT, evE]
  cases evEs cs cl es env st with
  | none => rfl
  | some r =>
    obtain ⟨xs, e1, s1⟩ := r
    simp only
    split
    · rfl
    · cases cl f xs s1 with
      | none => rfl
      | some r =>
        obtain ⟨x, s'⟩ := r
        simp only [bnd]
        cases tru e1 s' x <;> rfl
theorem T_bi {b : Bi} {es : List E} : evT cs cl (.bi b es) env st = bnd (evE cs cl (.bi b es) env st) fun x e s => obd (tru e s x) fun k => some (k, e, s) := by
  rw [evT, evE]
  cases evEs cs cl es env st with
  | none => rfl
  | some r =>
    obtain ⟨xs, e1, s1⟩ := r
    simp only
    cases biX e1 s1 b xs with
    | none => rfl
    | some r =>
      simp only [bnd]
      cases tru e1 s1 (.d r) <;> rfl
theorem Es_nil : evEs cs cl [] env st = some ([], env, st) := by rw [evEs]
theorem Es_cons {a : E} {r : List E} : evEs cs cl (a :: r) env st = bnd (evE cs cl a env st) fun x e1 s1 => bnd (evEs cs cl r e1 s1) fun xs e2 s2 => some (x :: xs, e2, s2) := by
  rw [evEs]
  cases evE cs cl a env st with
  | none => rfl
  | some q =>
    obtain ⟨x, e1, s1⟩ := q
    simp only [bnd]
    cases evEs cs cl r e1 s1 <;> rfl
theorem P_none : evP cs cl none env st = some (none, env, st) := by rw [evP]
theorem P_some {a : E} : evP cs cl (some a) env st = bnd (evE cs cl a env st) fun x e s => obd (match x with | .d (.int i) => some i | _ => none) fun i => some (some i, e, s) := by
  rw [evP]
  cases evE cs cl a env st with
  | none => rfl
  | some r =>
    obtain ⟨x, e1, s1⟩ := r
    cases x with
    | d d => cases d <;> rfl
    | _ => rfl
theorem A_lst {es : List E} : evA cs cl (.lst es) env st = bnd (evEs cs cl es env st) fun xs e s => if xs.any X.isO then none else if xs.length ≤ sizeLine then some (.lst xs, e, s) else none := by
  rw [evA]
  cases evEs cs cl es env st <;> rfl
theorem A_ba {b : Ba} {a : E} : evA cs cl (.ba b a) env st = bnd (evE cs cl a env st) fun x e s => obd (baX e s b x) fun o => some (o, e, s) := by
  rw [evA]
  cases evE cs cl a env st with
  | none => rfl
  | some r =>
    obtain ⟨x, e1, s1⟩ := r
    simp only [bnd]
    cases baX e1 s1 b x <;> rfl
theorem A_rv {a : E} : evA cs cl (.rv a) env st = bnd (evE cs cl a env st) fun x e s => obd (match obX e s x with | some (.lst xs) => some xs | _ => none) fun xs => some (.lst xs.reverse, e, s) := by
  rw [evA]
  cases evE cs cl a env st with
  | none => rfl
  | some r =>
    obtain ⟨x, e1, s1⟩ := r
    simp only [bnd]
    cases obX e1 s1 x with
    | none => rfl
    | some o => cases o <;> rfl
theorem A_dic {kvs : List (E × E)} : evA cs cl (.dic kvs) env st = bnd (evD cs cl kvs env st) fun z e s => if z.length ≤ 15 then some (.dic (mergeX [] z), e, s) else none := by
  rw [evA]
  cases evD cs cl kvs env st <;> rfl
def keyX : X → Option Key
  | .d d => keyD d
  | _ => none
theorem D_nil : evD cs cl [] env st = some ([], env, st) := by rw [evD]
theorem D_cons {a b : E} {r : List (E × E)} : evD cs cl ((a, b) :: r) env st = bnd (evE cs cl a env st) fun x e1 s1 => obd (keyX x) fun y => bnd (evE cs cl b e1 s1) fun v e2 s2 => if v.isO then none else bnd (evD cs cl r e2 s2) fun z e3 s3 => some ((y, v) :: z, e3, s3) := by
  rw [evD]
  cases evE cs cl a env st with
  | none => rfl
  | some q =>
    obtain ⟨x, e1, s1⟩ := q
    simp only [bnd]
    cases x with
    | d d =>
      simp only [keyX]
      cases keyD d with
      | none => rfl
      | some y =>
        simp only [obd]
        cases evE cs cl b e1 s1 with
        | none => rfl
        | some q =>
          obtain ⟨v, e2, s2⟩ := q
          simp only [bnd]
          split
          · rfl
          · cases evD cs cl r e2 s2 <;> rfl
    | _ => rfl
theorem A_lc {x : E} {t : T} {it : It} {c : Option E} {vs : List Nat} : evA cs cl (.lc x t it c vs) env st = bnd (evIt cs cl it env st) fun xs e1 s1 => if noOwn e1 vs && decide (xs.length ≤ sizeLine) then
    bnd (lcGo (evE cs cl x) (evC cs cl c) t vs xs e1 s1) fun ys e2 s2 => some (.lst ys, restL e2 e1 vs, s2) else none := by
  rw [evA]
  cases evIt cs cl it env st with
  | none => rfl
  | some r =>
    obtain ⟨xs, e1, s1⟩ := r
    simp only [bnd]
    split
    · cases lcGo (evE cs cl x) (evC cs cl c) t vs xs e1 s1 <;> rfl
    · rfl
theorem C_none : evC cs cl none env st = some (true, env, st) := by rw [evC]
theorem C_some {a : E} : evC cs cl (some a) env st = evT cs cl a env st := by rw [evC]
theorem I_sq {a : E} : evIt cs cl (.sq a) env st = bnd (evE cs cl a env st) fun x e s => obd (itX x) fun xs => some (xs, e, s) := by
  rw [evIt]
  cases evE cs cl a env st with
  | none => rfl
  | some r =>
    obtain ⟨x, e1, s1⟩ := r
    simp only [bnd]
    cases itX x <;> rfl
def rgX : List X → Option (List X)
  | [.d (.int j)] => if in62 j then some (rgL 0 j.toNat) else none
  | [.d (.int i), .d (.int j)] => if in62 i && in62 j then some (rgL i (j - i).toNat) else none
  | _ => none
theorem I_rg {es : List E} : evIt cs cl (.rg es) env st = bnd (evEs cs cl es env st) fun xs e s => obd (rgX xs) fun r => some (r, e, s) := by
  rw [evIt]
  cases evEs cs cl es env st with
  | none => rfl
  | some r =>
    obtain ⟨xs, e1, s1⟩ := r
    simp only [bnd]
    unfold rgX
    split <;> rename_i h
    · simp only [Option.some.injEq, Prod.mk.injEq] at h
      obtain ⟨rfl, rfl, rfl⟩ := h
      simp only
      split <;> rfl
    · simp only [Option.some.injEq, Prod.mk.injEq] at h
      obtain ⟨rfl, rfl, rfl⟩ := h
      simp only
      split <;> rfl
    · split
      · simp_all
      · exact absurd rfl (h _ _ _ _)
      · rfl
theorem I_zp {a b : E} : evIt cs cl (.zp a b) env st = bnd (evE cs cl a env st) fun x e1 s1 => bnd (evE cs cl b e1 s1) fun y e2 s2 => obd (listX x) fun xs => obd (listX y) fun ys => obd (zipX xs ys) fun r => some (r, e2, s2) := by
  rw [evIt]
  cases evE cs cl a env st with
  | none => rfl
  | some r =>
    obtain ⟨x, e1, s1⟩ := r
    simp only [bnd]
    cases evE cs cl b e1 s1 with
    | none => rfl
    | some r =>
      obtain ⟨y, e2, s2⟩ := r
      simp only [bnd]
      cases listX x with
      | none => rfl
      | some xs =>
        cases listX y with
        | none => rfl
        | some ys =>
          simp only [obd]
          cases zipX xs ys <;> rfl
theorem S_asg {t : T} {x : E} : evS cs cl w (.asg t x) env st = bnd (evE cs cl x env st) fun v e s => obd (asgT t v e) fun e' => some (.nx, e', s) := by
  rw [evS]
  cases evE cs cl x env st with
  | none => rfl
  | some r =>
    obtain ⟨v, e, s⟩ := r
    simp only [bnd]
    cases asgT t v e <;> rfl
theorem S_par {is : List Nat} {es : List E} : evS cs cl w (.par is es) env st = bnd (evEs cs cl es env st) fun xs e s => obd (asgTs (is.map .nm) xs e) fun e' => some (.nx, e', s) := by
  rw [evS]
  cases evEs cs cl es env st with
  | none => rfl
  | some r =>
    obtain ⟨v, e, s⟩ := r
    simp only [bnd]
    cases asgTs (is.map .nm) v e <;> rfl
theorem S_ret {x : E} : evS cs cl w (.ret x) env st = bnd (evE cs cl x env st) fun v e s => obd (fixR e v) fun v => some (.rt v, e, s) := by
  rw [evS]
  cases evE cs cl x env st with
  | none => rfl
  | some r =>
    obtain ⟨v, e, s⟩ := r
    simp only [bnd]
    cases fixR e v <;> rfl
theorem fixR_d {e : Lo} {d : D} : fixR e (.d d) = some (.d d) := of_eq_true (eq_self _)
theorem fixR_l {e : Lo} {n : Nat} : fixR e (.l n) = some (.l n) := of_eq_true (eq_self _)
theorem S_ifs {c : E} {p q : List S} : evS cs cl w (.ifs c p q) env st = ifT (evT cs cl c env st) (fun e s => evSs cs cl w p e s) (fun e s => evSs cs cl w q e s) := by
  rw [evS]
  cases evT cs cl c env st with
  | none => rfl
  | some r =>
    obtain ⟨x, e1, s1⟩ := r
    cases x <;> rfl
theorem S_ex {x : E} : evS cs cl w (.ex x) env st = bnd (evE cs cl x env st) fun v e s => some (.nx, e, s) := by
  rw [evS]
  cases evE cs cl x env st <;> rfl
theorem S_whl {c : E} {b : List S} : evS cs cl w (.whl c b) env st = whGo (evT cs cl c) (evSs cs cl w b) w env st := by rw [evS]
theorem S_for {t : T} {it : It} {b : List S} : evS cs cl w (.for t it b) env st = bnd (evIt cs cl it env st) fun xs e s => forGo (evSs cs cl w b) t xs e s := by
  rw [evS]
  cases evIt cs cl it env st <;> rfl
theorem S_retn : evS cs cl w .retn env st = some (.rt (.d .none), env, st) := by rw [evS]
theorem S_brk : evS cs cl w .brk env st = some (.bk, env, st) := by rw [evS]
theorem S_cnt : evS cs cl w .cnt env st = some (.ct, env, st) := by rw [evS]
theorem S_pas : evS cs cl w .pas env st = some (.nx, env, st) := by rw [evS]
def augX : BO → Option Slot → X → Option X
  | .add, some (.v (.d (.int a))), .d (.int b) => some (.d (.int (a + b)))
  | .sub, some (.v (.d (.int a))), .d (.int b) => some (.d (.int (a - b)))
  | _, _, _ => none
theorem S_aug {i : Nat} {o : BO} {x : E} {a b : Int} {e : Lo} {s : Sto} (h : env[i]? = some (.v (.d (.int a)))) (hx : evE cs cl x env st = some (.d (.int b), e, s)) :
    evS cs cl w (.aug i o x) env st = obd (augX o (some (.v (.d (.int a)))) (.d (.int b))) fun z => some (.nx, e.set i (.v z), s) := by
  rw [evS, h]
  simp only
  rw [hx]
  cases o <;> rfl
def setX (e : Lo) (s : Sto) (o : X) (k : X) (v : X) : Option (Lo × Sto) := if v.isO then none else match k with
  | .d k => match mutX e s o with
    | some (.dic kvs) => match keyD k with
      | some k => if kvs.length < sizeLine then putX e s (.dic (pt k v kvs)) o else none
      | none => none
    | some (.lst xs) => match k with
      | .int j => match ixN xs.length j with
        | some j => putX e s (.lst (xs.set j v)) o
        | none => none
      | _ => none
    | _ => none
  | _ => none
theorem S_setx {a i x : E} : evS cs cl w (.setx a i x) env st = bnd (evE cs cl x env st) fun v e1 s1 => bnd (evE cs cl a e1 s1) fun o e2 s2 => bnd (evE cs cl i e2 s2) fun k e3 s3 => obd (setX e3 s3 o k v) fun r => some (.nx, r.1, r.2) := by
  rw [evS]
  cases evE cs cl x env st with
  | none => rfl
  | some r =>
    obtain ⟨v, e1, s1⟩ := r
    simp only [bnd]
    cases evE cs cl a e1 s1 with
    | none => rfl
    | some r =>
      obtain ⟨o, e2, s2⟩ := r
      simp only [bnd]
      cases evE cs cl i e2 s2 with
      | none => rfl
      | some r =>
        obtain ⟨k, e3, s3⟩ := r
        simp only [bnd, setX]
        cases k with
        | d k =>
          simp only
          split
          · rfl
          · cases mutX e3 s3 o with
            | none => rfl
            | some ob =>
              cases ob with
              | dic kvs =>
                simp only
                cases keyD k with
                | none => rfl
                | some k =>
                  simp only
                  split
                  · cases putX e3 s3 (.dic (pt k v kvs)) o <;> rfl
                  · rfl
              | lst xs =>
                cases k with
                | int j =>
                  simp only
                  cases ixN xs.length j with
                  | none => rfl
                  | some j =>
                    simp only
                    cases putX e3 s3 (.lst (xs.set j v)) o <;> rfl
                | _ => rfl
        | _ =>
          simp only
          split <;> rfl
theorem Ss_nil : evSs cs cl w [] env st = some (.nx, env, st) := by rw [evSs]
theorem Ss_cons {a : S} {r : List S} : evSs cs cl w (a :: r) env st = seqF (evS cs cl w a env st) fun e s => evSs cs cl w r e s := by
  rw [evSs]
  cases evS cs cl w a env st with
  | none => rfl
  | some q =>
    obtain ⟨f, e, s⟩ := q
    cases f <;> rfl
theorem call_eq {Γ : Pg} {w k f : Nat} {fn : Fn} {xs : List X} {st : Sto} (h : Γ.fns[f]? = some fn) (hl : xs.length = fn.np) :
    evCall Γ w (k + 1) f xs st = resF (evSs Γ.cs (evCall Γ w k) w fn.body (xs.map Slot.v ++ List.replicate (fn.nl - fn.np) .no) st) := by
  rw [evCall, h]
  simp only [hl, if_true]
  cases evSs Γ.cs (evCall Γ w k) w fn.body (xs.map Slot.v ++ List.replicate (fn.nl - fn.np) .no) st with
  | none => rfl
  | some q =>
    obtain ⟨f, e, s⟩ := q
    cases f <;> rfl
end
end EV

/-! EvS: operations on plain data, for symbolic runs. -/
namespace EV
open PySem L2

theorem str_inj {a b : String} : (Str.ofString a = Str.ofString b) = (a = b) := by
  apply propext
  constructor
  · intro h
    rw [Str.ofString_eq_toList, Str.ofString_eq_toList] at h
    injection h with h
    have h2 : a.toList.map Char.toNat = b.toList.map Char.toNat := by simpa using h
    have h3 : a.toList = b.toList := by
      generalize a.toList = x at h2
      generalize b.toList = y at h2
      induction x generalizing y with
      | nil =>
        cases y with
        | nil => rfl
        | cons _ _ => simp at h2
      | cons c x ih =>
        cases y with
        | nil => simp at h2
        | cons d y =>
          simp only [List.map_cons, List.cons.injEq] at h2
          rw [ih _ h2.2]
          congr 1
          exact Char.ext (UInt32.toNat_inj.mp h2.1)
    exact String.toList_inj.mp h3
  · intro h
    rw [h]
section
variable {e : Lo} {s : Sto} {i j : Int} {a b : D}
theorem B_add : bopX .add e s (.d (.int i)) (.d (.int j)) = some (.d (.int (i + j))) := of_eq_true (eq_self _)
theorem B_sub : bopX .sub e s (.d (.int i)) (.d (.int j)) = some (.d (.int (i - j))) := of_eq_true (eq_self _)
theorem B_mul1 (h : small i = true) : bopX .mul e s (.d (.int i)) (.d (.int j)) = some (.d (.int (i * j))) := by
  simp [bopX, toD, bopD, h]
theorem B_mul2 (h : small j = true) : bopX .mul e s (.d (.int i)) (.d (.int j)) = some (.d (.int (i * j))) := by
  simp [bopX, toD, bopD, h]
theorem B_fdiv (h : divOk j = true) : bopX .fdiv e s (.d (.int i)) (.d (.int j)) = some (.d (.int (i.fdiv j))) := by
  simp [bopX, toD, bopD, h]
theorem B_mod (h : j ≠ 0) : bopX .mod e s (.d (.int i)) (.d (.int j)) = some (.d (.int (i.fmod j))) := by
  simp [bopX, toD, bopD, h]
theorem B_catL {as bs : List D} (h : as.length + bs.length ≤ sizeLine) : bopX .add e s (.d (.list as)) (.d (.list bs)) = some (.d (.list (as ++ bs))) := by
  simp [bopX, toD, bopD, h]
theorem B_catT {as bs : List D} (h : as.length + bs.length ≤ sizeLine) : bopX .add e s (.d (.tuple as)) (.d (.tuple bs)) = some (.d (.tuple (as ++ bs))) := by
  simp [bopX, toD, bopD, h]
theorem C_lt : cmpX e s .lt (.d (.int i)) (.d (.int j)) = some (decide (i < j)) := of_eq_true (eq_self _)
theorem C_le : cmpX e s .le (.d (.int i)) (.d (.int j)) = some (decide (i ≤ j)) := of_eq_true (eq_self _)
theorem C_gt : cmpX e s .gt (.d (.int i)) (.d (.int j)) = some (decide (j < i)) := of_eq_true (eq_self _)
theorem C_ge : cmpX e s .ge (.d (.int i)) (.d (.int j)) = some (decide (j ≤ i)) := of_eq_true (eq_self _)
theorem C_eqI : cmpX e s .eq (.d (.int i)) (.d (.int j)) = some (decide (i = j)) := by
  show some (PyData.eqv (.int i) (.int j)) = _
  simp [PyData.eqv]
  rfl
theorem C_neI : cmpX e s .ne (.d (.int i)) (.d (.int j)) = some (!decide (i = j)) := by
  show some (!PyData.eqv (.int i) (.int j)) = _
  simp [PyData.eqv]
  rfl
theorem C_eqS {a b : Str} : cmpX e s .eq (.d (.str a)) (.d (.str b)) = some (decide (a = b)) := by
  show some (PyData.eqv (.str a) (.str b)) = _
  simp [PyData.eqv]
  rfl
theorem C_neS {a b : Str} : cmpX e s .ne (.d (.str a)) (.d (.str b)) = some (!decide (a = b)) := by
  show some (!PyData.eqv (.str a) (.str b)) = _
  simp [PyData.eqv]
  rfl
theorem C_eqB {a b : Bool} : cmpX e s .eq (.d (.bool a)) (.d (.bool b)) = some (a == b) := of_eq_true (eq_self _)
theorem C_neB {a b : Bool} : cmpX e s .ne (.d (.bool a)) (.d (.bool b)) = some (!(a == b)) := of_eq_true (eq_self _)
theorem C_isNN : cmpX e s .is (.d .none) (.d .none) = some true := of_eq_true (eq_self _)
theorem C_isIN : cmpX e s .is (.d (.int i)) (.d .none) = some false := of_eq_true (eq_self _)
theorem C_isTN {ds : List D} : cmpX e s .is (.d (.tuple ds)) (.d .none) = some false := of_eq_true (eq_self _)
theorem C_isnNN : cmpX e s .isn (.d .none) (.d .none) = some false := of_eq_true (eq_self _)
theorem C_isnIN : cmpX e s .isn (.d (.int i)) (.d .none) = some true := of_eq_true (eq_self _)
theorem C_eqD (ha : SeqAt.shaped a = true) (hb : SeqAt.shaped b = true) : cmpX e s .eq (.d a) (.d b) = some (PyData.eqv a b) := by
  show eqD a b = _
  unfold eqD
  split
  · rfl
  · simp [ha, hb]
theorem C_neD (ha : SeqAt.shaped a = true) (hb : SeqAt.shaped b = true) : cmpX e s .ne (.d a) (.d b) = some (!PyData.eqv a b) := by
  have : eqD a b = some (PyData.eqv a b) := by
    unfold eqD
    split
    · rfl
    · simp [ha, hb]
  show (match eqD a b with | some k => some (!k) | none => none) = _
  rw [this]
theorem R_b {k : Bool} : tru e s (.d (.bool k)) = some k := by simp [tru]
theorem R_i : tru e s (.d (.int i)) = some (i != 0) := by simp [tru]
theorem X_t {ds : List D} : ixX e s (.d (.tuple ds)) (.d (.int i)) = (atI ds i).map .d := of_eq_true (eq_self _)
theorem X_l {ds : List D} : ixX e s (.d (.list ds)) (.d (.int i)) = (atI ds i).map .d := by
  show atI (ds.map X.d) i = _
  simp [atI, ixN]
  split
  · split <;> simp
  · split <;> simp
theorem X_dic {n : Nat} {k : Str} {kvs : List (Key × X)} (h : s[n]? = some (.dic kvs)) : ixX e s (.l n) (.d (.str k)) = lk (.inr k) kvs := by
  simp [ixX, obX, h, keyD]
theorem atN {α : Type} {xs : List α} {n : Nat} : atI xs (n : Int) = xs[n]? := by
  unfold atI ixN
  by_cases h : n < xs.length
  · simp [h]
  · simp [h]
theorem at0 {α : Type} {a : α} {r : List α} : atI (a :: r) 0 = some a := atN (n := 0)
theorem at1 {α : Type} {a b : α} {r : List α} : atI (a :: b :: r) 1 = some b := atN (n := 1)
theorem at2 {α : Type} {a b c : α} {r : List α} : atI (a :: b :: c :: r) 2 = some c := atN (n := 2)
theorem at3 {α : Type} {a b c d : α} {r : List α} : atI (a :: b :: c :: d :: r) 3 = some d := atN (n := 3)
theorem sl1 : (1 : Nat) ≤ sizeLine := by decide
theorem tup1 {a : D} : tupX [.d a] = some (.tuple [a]) := by simp [tupX, allD]; decide
theorem tup2 {a b : D} : tupX [.d a, .d b] = some (.tuple [a, b]) := by simp [tupX, allD]; decide
theorem tup3 {a b c : D} : tupX [.d a, .d b, .d c] = some (.tuple [a, b, c]) := by simp [tupX, allD]; decide
theorem tup4 {a b c d : D} : tupX [.d a, .d b, .d c, .d d] = some (.tuple [a, b, c, d]) := by simp [tupX, allD]; decide
theorem biInt : biX e s .int [.d (.int i)] = some (.int i) := of_eq_true (eq_self _)
theorem biAbs : biX e s .abs [.d (.int i)] = some (.int (if i < 0 then -i else i)) := of_eq_true (eq_self _)
theorem biMax2 : biX e s .max2 [.d (.int i), .d (.int j)] = some (.int (if j > i then j else i)) := of_eq_true (eq_self _)
theorem biMin2 : biX e s .min2 [.d (.int i), .d (.int j)] = some (.int (if j < i then j else i)) := of_eq_true (eq_self _)
theorem biLenL {ds : List D} : biX e s .len [.d (.list ds)] = some (.int ds.length) := of_eq_true (eq_self _)
theorem biLenT {ds : List D} : biX e s .len [.d (.tuple ds)] = some (.int ds.length) := of_eq_true (eq_self _)
theorem biTupL {ds : List D} : biX e s .tuple [.d (.list ds)] = some (.tuple ds) := of_eq_true (eq_self _)
theorem lenSto {n : Nat} {xs : List X} (h : s[n]? = some (.lst xs)) : biX e s .len [.l n] = some (.int xs.length) := by
  simp only [biX, lenX]
  cases q : toD e s (.l n) with
  | none => simp [obX, h]
  | some d =>
    have q' : (match s[n]? with | some (Ob.lst xs) => (match allD xs with | some ds => some (PyData.list ds) | none => none) | _ => none) = some d := q
    rw [h] at q'
    simp only at q'
    split at q'
    · rename_i ds hd
      cases q'
      have : xs = ds.map .d := by
        clear q h
        induction xs generalizing ds with
        | nil => simp [allD] at hd; subst hd; rfl
        | cons x xs ih =>
          cases x with
          | d d =>
            rw [allD] at hd
            split at hd
            · rename_i es he
              cases hd
              simp [ih _ he]
            · cases hd
          | _ => simp [allD] at hd
      subst this
      simp [bi1]
    · cases q'
end
end EV

/-! EvT: loops and comprehensions in symbolic runs. -/
namespace EV
open PySem L2

def rgI (lo : Int) : Nat → List Int
  | 0 => []
  | n + 1 => lo :: rgI (lo + 1) n
theorem rgL_rgI : ∀ {n : Nat} {lo : Int}, rgL lo n = (rgI lo n).map fun t => .d (.int t)
  | 0, _ => rfl
  | n + 1, lo => by simp only [rgL, rgI, List.map_cons, rgL_rgI]
theorem mem_rgI {t : Int} : ∀ {n : Nat} {lo : Int}, t ∈ rgI lo n ↔ lo ≤ t ∧ t < lo + n
  | 0, lo => by simp [rgI]
  | n + 1, lo => by
    simp only [rgI, List.mem_cons, mem_rgI]
    push_cast
    omega
theorem len_rgI : ∀ {n : Nat} {lo : Int}, (rgI lo n).length = n
  | 0, _ => rfl
  | n + 1, lo => by simp only [rgI, List.length_cons, len_rgI]
theorem rgI_app : ∀ {m n : Nat} {lo : Int}, rgI lo (m + n) = rgI lo m ++ rgI (lo + m) n
  | 0, n, lo => by simp [rgI]
  | m + 1, n, lo => by
    have : m + 1 + n = (m + n) + 1 := by omega
    rw [this, rgI, rgI, rgI_app, List.cons_append]
    congr 3
    push_cast
    omega
theorem rgI_get : ∀ {n i : Nat} {lo : Int}, i < n → (rgI lo n)[i]? = some (lo + i)
  | 0, _, _, h => absurd h (Nat.not_lt_zero _)
  | n + 1, 0, lo, h => by simp [rgI]
  | n + 1, i + 1, lo, h => by
    simp only [rgI, List.getElem?_cons_succ]
    rw [rgI_get (by omega)]
    congr 1
    push_cast
    omega
theorem frO_map {ds : List D} : frO (.lst (ds.map .d)) = some (.list ds) := by
  have h : allD (ds.map .d) = some ds := by
    induction ds with
    | nil => rfl
    | cons d r ih => simp [allD, ih]
  simp [frO, h]
theorem rg1 {j : Int} (h : in62 j = true) : rgX [.d (.int j)] = some ((rgI 0 j.toNat).map fun t => .d (.int t)) := by
  simp [rgX, h, rgL_rgI]
theorem rg2 {i j : Int} (h : in62 i = true) (h2 : in62 j = true) : rgX [.d (.int i), .d (.int j)] = some ((rgI i (j - i).toNat).map fun t => .d (.int t)) := by
  simp [rgX, h, h2, rgL_rgI]
theorem set_set_same {env : Lo} {i : Nat} {x y : Slot} : (env.set i x).set i y = env.set i y := List.set_set ..
theorem lcGo_pure {f : Ev X} {c : Ev Bool} {i : Nat} {env : Lo} {st : Sto} {p : X → Bool} {g : X → D} : ∀ {xs : List X} {e0 : Slot}, (∀ x ∈ xs, x.isO = false) →
    (∀ x ∈ xs, c (env.set i (.v x)) st = some (p x, env.set i (.v x), st)) → (∀ x ∈ xs, p x = true → f (env.set i (.v x)) st = some (.d (g x), env.set i (.v x), st)) →
    ∃ y, lcGo f c (.nm i) [i] xs (env.set i e0) st = some ((xs.filter p).map (fun x => .d (g x)), env.set i y, st)
  | [], e0, _, _, _ => ⟨e0, rfl⟩
  | x :: r, e0, ho, hc, hf => by
    have h1 := ho x List.mem_cons_self
    have h2 := hc x List.mem_cons_self
    have h3 := hf x List.mem_cons_self
    obtain ⟨y, ih⟩ := lcGo_pure (f := f) (c := c) (i := i) (env := env) (st := st) (p := p) (g := g) (xs := r) (e0 := .v x) (fun z hz => ho z (List.mem_cons_of_mem _ hz)) (fun z hz => hc z (List.mem_cons_of_mem _ hz)) fun z hz => hf z (List.mem_cons_of_mem _ hz)
    refine ⟨y, ?_⟩
    rw [lcGo]
    have ha : asgT (.nm i) x (wipeL (env.set i e0) [i]) = some (env.set i (.v x)) := by
      simp only [asgT, h1, wipeL, List.set_set]
      rfl
    rw [ha]
    simp only
    rw [h2]
    cases hp : p x with
    | true =>
      simp only
      rw [h3 hp]
      simp only [X.isO, ih, Bool.false_eq_true, if_false, List.filter_cons, hp, if_true, List.map_cons]
    | false => simp only [ih, List.filter_cons, hp, Bool.false_eq_true, if_false]
theorem set_self {env : Lo} {i : Nat} (h : i < env.length) : env.set i env[i] = env := by simp
section
variable {cs : List D} {cl : Nat → List X → Sto → Option (X × Sto)} {w : Nat} {env : Lo} {st : Sto}
theorem lc_pure {x : E} {c : Option E} {i : Nat} {it : It} {xs : List X} {p : X → Bool} {g : X → D} (hit : evIt cs cl it env st = some (xs, env, st)) (hi : i < env.length) (hno : noOwn env [i] = true) (hl : xs.length ≤ sizeLine) (ho : ∀ x ∈ xs, x.isO = false)
    (hc : ∀ x ∈ xs, evC cs cl c (env.set i (.v x)) st = some (p x, env.set i (.v x), st)) (hf : ∀ y ∈ xs, p y = true → evE cs cl x (env.set i (.v y)) st = some (.d (g y), env.set i (.v y), st)) :
    evA cs cl (.lc x (.nm i) it c [i]) env st = some (.lst (((xs.filter p).map g).map .d), env, st) := by
  rw [A_lc, hit]
  simp only [bnd_some, hno, hl, decide_true, Bool.and_self, if_true]
  obtain ⟨y, h⟩ := lcGo_pure (f := evE cs cl x) (c := evC cs cl c) (i := i) (env := env) (st := st) (p := p) (g := g) (xs := xs) (e0 := env[i]) ho hc hf
  rw [set_self hi] at h
  rw [h]
  simp only [bnd_some, restL, List.getElem?_eq_getElem hi, List.set_set, set_self hi, List.map_map]
  rfl
theorem lc_ints {x : E} {c : Option E} {i : Nat} {it : It} {ns : List Int} {p : Int → Bool} {g : Int → D} (hit : evIt cs cl it env st = some (ns.map fun t => .d (.int t), env, st)) (hi : i < env.length) (hno : noOwn env [i] = true) (hl : ns.length ≤ sizeLine)
    (hc : ∀ n ∈ ns, evC cs cl c (env.set i (.v (.d (.int n)))) st = some (p n, env.set i (.v (.d (.int n))), st)) (hf : ∀ n ∈ ns, p n = true → evE cs cl x (env.set i (.v (.d (.int n)))) st = some (.d (g n), env.set i (.v (.d (.int n))), st)) :
    evA cs cl (.lc x (.nm i) it c [i]) env st = some (.lst (((ns.filter p).map g).map .d), env, st) := by
  let P : X → Bool := fun x => match x with
    | .d (.int n) => p n
    | _ => false
  let G : X → D := fun x => match x with
    | .d (.int n) => g n
    | _ => .none
  have h := lc_pure (x := x) (c := c) (p := P) (g := G) hit hi hno (by simpa using hl) (fun x hx => by
      obtain ⟨n, _, rfl⟩ := List.mem_map.mp hx
      rfl) (fun x hx => by
      obtain ⟨n, hn, rfl⟩ := List.mem_map.mp hx
      exact hc n hn) (fun x hx hp => by
      obtain ⟨n, hn, rfl⟩ := List.mem_map.mp hx
      exact hf n hn hp)
  rw [h]
  congr 3
  simp only [List.filter_map, List.map_map]
  rfl
/-- loops by what stays true -/
theorem for_inv {b : Ev Fl} {t : T} (P : List X → Lo → Sto → Prop) (Q : Lo → Sto → Prop) (step : ∀ x r env st, P (x :: r) env st → ∃ e1 e2 s2, asgT t x env = some e1 ∧
      ((b e1 st = some (.nx, e2, s2) ∧ P r e2 s2) ∨ (b e1 st = some (.ct, e2, s2) ∧ P r e2 s2) ∨ (b e1 st = some (.bk, e2, s2) ∧ Q e2 s2))) : ∀ (xs : List X) (env : Lo) (st : Sto), P xs env st →
    ∃ e' s', forGo b t xs env st = some (.nx, e', s') ∧ (P [] e' s' ∨ Q e' s')
  | [], env, st, h => ⟨env, st, rfl, .inl h⟩
  | x :: r, env, st, h => by
    obtain ⟨e1, e2, s2, h1, h2⟩ := step x r env st h
    rcases h2 with ⟨h2, h3⟩ | ⟨h2, h3⟩ | ⟨h2, h3⟩
    · obtain ⟨e', s', h4, h5⟩ := for_inv P Q step r e2 s2 h3
      refine ⟨e', s', ?_, h5⟩
      rw [forGo, h1]
      simp only
      rw [h2]
      exact h4
    · obtain ⟨e', s', h4, h5⟩ := for_inv P Q step r e2 s2 h3
      refine ⟨e', s', ?_, h5⟩
      rw [forGo, h1]
      simp only
      rw [h2]
      exact h4
    · refine ⟨e2, s2, ?_, .inr h3⟩
      rw [forGo, h1]
      simp only
      rw [h2]
theorem wh_inv {c : Ev Bool} {b : Ev Fl} (P : Nat → Lo → Sto → Prop) (Q : Lo → Sto → Prop) (step : ∀ n env st, P n env st → (∃ e1 s1, c env st = some (false, e1, s1) ∧ Q e1 s1) ∨
      ∃ e1 s1 e2 s2 m, c env st = some (true, e1, s1) ∧ b e1 s1 = some (.nx, e2, s2) ∧ m < n ∧ P m e2 s2) : ∀ (fuel n : Nat) (env : Lo) (st : Sto), P n env st → n < fuel →
    ∃ e' s', whGo c b fuel env st = some (.nx, e', s') ∧ Q e' s'
  | 0, n, env, st, h, hl => absurd hl (Nat.not_lt_zero _)
  | fuel + 1, n, env, st, h, hl => by
    rcases step n env st h with ⟨e1, s1, h1, h2⟩ | ⟨e1, s1, e2, s2, m, h1, h2, h3, h4⟩
    · refine ⟨e1, s1, ?_, h2⟩
      rw [whGo, h1]
    · obtain ⟨e', s', h5, h6⟩ := wh_inv P Q step fuel m e2 s2 h4 (by omega)
      refine ⟨e', s', ?_, h6⟩
      rw [whGo, h1]
      simp only
      rw [h2]
      exact h5
/-- the first that fits is handed back -/
theorem for_find {b : Ev Fl} {i : Nat} {p : Int → Bool} {r : Int → X} : ∀ {ns : List Int} {e0 : Slot}, (∀ n ∈ ns, b (env.set i (.v (.d (.int n)))) st = cond (p n) (some (.rt (r n), env.set i (.v (.d (.int n))), st)) (some (.nx, env.set i (.v (.d (.int n))), st))) →
    ∃ y, forGo b (.nm i) (ns.map fun t => .d (.int t)) (env.set i e0) st = (match ns.find? p with | some n => some (.rt (r n), env.set i y, st) | none => some (.nx, env.set i y, st))
  | [], e0, h => ⟨e0, rfl⟩
  | n :: ns, e0, h => by
    have h1 := h n List.mem_cons_self
    have ha : asgT (.nm i) (.d (.int n)) (env.set i e0) = some (env.set i (.v (.d (.int n)))) := by
      simp only [asgT, X.isO, List.set_set]
      rfl
    cases hp : p n with
    | true =>
      refine ⟨.v (.d (.int n)), ?_⟩
      rw [List.map_cons, forGo, ha]
      simp only
      rw [h1, hp]
      simp only [cond, List.find?_cons, hp]
    | false =>
      obtain ⟨y, ih⟩ := for_find (b := b) (i := i) (p := p) (r := r) (ns := ns) (e0 := .v (.d (.int n))) fun m hm => h m (List.mem_cons_of_mem _ hm)
      refine ⟨y, ?_⟩
      rw [List.map_cons, forGo, ha]
      simp only
      rw [h1, hp]
      simp only [cond, List.find?_cons, hp]
      exact ih
end
end EV

namespace K52
open PySem PySem.Spec PyProof.Rows L2 EV
def top (i : Nat) : Stmt := PySem.Challenge.pw_effectonce_k52_whole_calendars_alike.main.body.getD i (.Pass ⟨0, 0, 0, 0⟩)
/-- least_multiple(one, other) -/
def fn_least_multiple : Fn := ⟨2, 4, [.par [2, 3] [.nm 0, .nm 1],
    .whl (.cmp .ne (.nm 3) (.ct (.int 0))) [.par [2, 3] [.nm 3, .bop .mod (.nm 2) (.nm 3)]],
    .ret (.bop .fdiv (.bop .mul (.nm 0) (.nm 1)) (.nm 2))]⟩
/-- has_time(c, t) -/
def fn_has_time : Fn := ⟨2, 2, [.ifs (.cmp .eq (.ix (.nm 0) (.ct (.int 0))) (.ct (.str "every"))) [.ret (.and (.cmp .ge (.nm 1) (.ix (.nm 0) (.ct (.int 2)))) (.and (.cmp .eq (.bop .mod (.bop .sub (.nm 1) (.ix (.nm 0) (.ct (.int 2)))) (.ix (.nm 0) (.ct (.int 1)))) (.ct (.int 0))) (.or (.cmp .is (.ix (.nm 0) (.ct (.int 3))) (.ct .none)) (.cmp .le (.nm 1) (.ix (.nm 0) (.ct (.int 3)))))))] [],
    .ifs (.cmp .eq (.ix (.nm 0) (.ct (.int 0))) (.ct (.str "list"))) [.ret (.cmp .in_ (.nm 1) (.ix (.nm 0) (.ct (.int 1))))] [],
    .ifs (.cmp .eq (.ix (.nm 0) (.ct (.int 0))) (.ct (.str "moved"))) [.ret (.call 1 [.ix (.nm 0) (.ct (.int 1)), .bop .sub (.nm 1) (.ix (.nm 0) (.ct (.int 2)))])] [],
    .ifs (.cmp .eq (.ix (.nm 0) (.ct (.int 0))) (.ct (.str "both"))) [.ret (.or (.call 1 [.ix (.nm 0) (.ct (.int 1)), .nm 1]) (.call 1 [.ix (.nm 0) (.ct (.int 2)), .nm 1]))] [],
    .ifs (.cmp .eq (.ix (.nm 0) (.ct (.int 0))) (.ct (.str "common"))) [.ret (.and (.call 1 [.ix (.nm 0) (.ct (.int 1)), .nm 1]) (.call 1 [.ix (.nm 0) (.ct (.int 2)), .nm 1]))] [],
    .ret (.and (.call 1 [.ix (.nm 0) (.ct (.int 1)), .nm 1]) (.not (.call 1 [.ix (.nm 0) (.ct (.int 2)), .nm 1])))]⟩
/-- times_in(c, low, high) -/
def fn_times_in : Fn := ⟨3, 4, [.ret (.bi .tuple [.al (.lc (.nm 3) (.nm 3) (.rg [.nm 1, .nm 2]) (some (.call 1 [.nm 0, .nm 3])) [3])])]⟩
/-- tail_of(c) -/
def fn_tail_of : Fn := ⟨1, 5, [.ifs (.cmp .eq (.ix (.nm 0) (.ct (.int 0))) (.ct (.str "every"))) [.ret (.ite (.cmp .is (.ix (.nm 0) (.ct (.int 3))) (.ct .none)) (.tup [.ix (.nm 0) (.ct (.int 2)), .ix (.nm 0) (.ct (.int 1))]) (.tup [.bop .add (.ix (.nm 0) (.ct (.int 3))) (.ct (.int 1)), .ct (.int 1)]))] [],
    .ifs (.cmp .eq (.ix (.nm 0) (.ct (.int 0))) (.ct (.str "list"))) [.ret (.tup [.bop .add (.bi .max1 [.bop .add (.tup [.neg (.ct (.int 1))]) (.ix (.nm 0) (.ct (.int 1)))]) (.ct (.int 1)), .ct (.int 1)])] [],
    .asg (.tup [.nm 1, .nm 2]) (.call 3 [.ix (.nm 0) (.ct (.int 1))]),
    .ifs (.cmp .eq (.ix (.nm 0) (.ct (.int 0))) (.ct (.str "moved"))) [.ret (.tup [.bop .add (.nm 1) (.ix (.nm 0) (.ct (.int 2))), .nm 2])] [],
    .asg (.tup [.nm 3, .nm 4]) (.call 3 [.ix (.nm 0) (.ct (.int 2))]),
    .ret (.tup [.bi .max2 [.nm 1, .nm 3], .call 0 [.nm 2, .nm 4]])]⟩
/-- repeats(c) -/
def fn_repeats : Fn := ⟨1, 6, [.asg (.tup [.nm 1, .nm 2]) (.call 3 [.nm 0]),
    .asg (.nm 3) (.al (.lc (.call 1 [.nm 0, .nm 5]) (.nm 5) (.rg [.nm 1, .bop .add (.nm 1) (.nm 2)]) none [5])),
    .asg (.nm 4) (.bi .min1 [.al (.lc (.nm 4) (.nm 4) (.rg [.ct (.int 1), .bop .add (.nm 2) (.ct (.int 1))]) (some (.and (.cmp .eq (.bop .mod (.nm 2) (.nm 4)) (.ct (.int 0))) (.cmp .eq (.nm 3) (.bop .mul (.sl (.nm 3) none (some (.nm 4))) (.bop .fdiv (.nm 2) (.nm 4)))))) [4])]),
    .whl (.and (.cmp .gt (.nm 1) (.ct (.int 0))) (.cmp .eq (.call 1 [.nm 0, .bop .sub (.nm 1) (.ct (.int 1))]) (.call 1 [.nm 0, .bop .add (.bop .sub (.nm 1) (.ct (.int 1))) (.nm 4)]))) [.aug 1 .sub (.ct (.int 1))],
    .ret (.tup [.nm 1, .nm 4])]⟩
/-- plain_calendar(c) -/
def fn_plain_calendar : Fn := ⟨1, 4, [.asg (.tup [.nm 1, .nm 2]) (.call 4 [.nm 0]),
    .ret (.tup [.call 2 [.nm 0, .ct (.int 0), .nm 1], .nm 1, .nm 2, .bi .tuple [.al (.lc (.bop .sub (.nm 3) (.nm 1)) (.nm 3) (.sq (.call 2 [.nm 0, .nm 1, .bop .add (.nm 1) (.nm 2)])) none [3])]])]⟩
/-- first_unlike(c, d) -/
def fn_first_unlike : Fn := ⟨2, 7, [.asg (.tup [.tup [.nm 2, .nm 3], .tup [.nm 4, .nm 5]]) (.tup [.call 3 [.nm 0], .call 3 [.nm 1]]),
    .for (.nm 6) (.rg [.bop .add (.bi .max2 [.nm 2, .nm 4]) (.call 0 [.nm 3, .nm 5])]) [.ifs (.cmp .ne (.call 1 [.nm 0, .nm 6]) (.call 1 [.nm 1, .nm 6])) [.ret (.nm 6)] []],
    .ret (.ct .none)]⟩
/-- is_endless(c) -/
def fn_is_endless : Fn := ⟨1, 1, [.ret (.cmp .ne (.ix (.call 5 [.nm 0]) (.ct (.int 3))) (.tup []))]⟩
/-- calendar_of(plain) -/
def fn_calendar_of : Fn := ⟨1, 7, [.asg (.tup [.nm 1, .nm 2, .nm 3, .nm 4]) (.nm 0),
    .asg (.nm 5) (.tup [.ct (.str "list"), .nm 1]),
    .for (.nm 6) (.sq (.nm 4)) [.asg (.nm 5) (.tup [.ct (.str "both"), .nm 5, .tup [.ct (.str "every"), .nm 3, .bop .add (.nm 2) (.nm 6), .ct .none]])],
    .ret (.nm 5)]⟩
/-- _law_open_cells(_law_script) -/
def fn_law_open_cells : Fn := ⟨1, 4, [.asg (.nm 1) (.ct (.int 11)),
    .for (.nm 2) (.sq (.nm 0)) [.asg (.nm 1) (.bop .mod (.bi .int [.bop .add (.bop .add (.bop .mul (.nm 1) (.ct (.int 69069))) (.bop .mul (.nm 2) (.ct (.int 31)))) (.ct (.int 5))]) (.ct (.int 2147483629)))],
    .asg (.nm 3) (.al (.lc (.bi .abs [.nm 2]) (.nm 2) (.sq (.nm 0)) none [2])),
    .ret (.st (.dic [(.ct (.str "cells"), .st (.rv (.nm 3))), (.ct (.str "left"), .ct (.int 1)), (.ct (.str "mixed"), .nm 1), (.ct (.str "turn"), .ct (.int 0))]))]⟩
/-- _law_pick(_law_source, _law_most) -/
def fn_law_pick : Fn := ⟨2, 6, [.ifs (.cmp .lt (.nm 1) (.ct (.int 2))) [.ret (.ct (.int 0))] [],
    .asg (.nm 2) (.ix (.nm 0) (.ct (.str "cells"))),
    .whl (.and (.cmp .lt (.ix (.nm 0) (.ct (.str "left"))) (.ct (.int 2))) (.cmp .gt (.bi .len [.nm 2]) (.ct (.int 0)))) [.setx (.nm 0) (.ct (.str "left")) (.me .pop0 (.nm 2) [])],
    .asg (.nm 3) (.ix (.nm 0) (.ct (.str "left"))),
    .ifs (.cmp .gt (.nm 3) (.ct (.int 1))) [.setx (.nm 0) (.ct (.str "left")) (.bop .fdiv (.nm 3) (.nm 1)),
    .ret (.bop .mod (.bi .int [.nm 3]) (.nm 1))] [],
    .setx (.nm 0) (.ct (.str "turn")) (.bop .add (.ix (.nm 0) (.ct (.str "turn"))) (.ct (.int 1))),
    .asg (.nm 4) (.ix (.nm 0) (.ct (.str "turn"))),
    .asg (.nm 5) (.bop .mod (.bi .int [.bop .add (.ix (.nm 0) (.ct (.str "mixed"))) (.bop .mul (.nm 4) (.ct (.int 104729)))]) (.ct (.int 998244353))),
    .asg (.nm 5) (.bop .mod (.bi .int [.bop .add (.bop .mul (.nm 5) (.nm 5)) (.bop .mul (.nm 4) (.ct (.int 17)))]) (.ct (.int 2147483647))),
    .ret (.bop .mod (.bi .int [.bop .fdiv (.nm 5) (.ct (.int 16))]) (.nm 1))]⟩
/-- _law_draw_wide_calendar(_law_source, _law_depth) -/
def fn_law_draw_wide_calendar : Fn := ⟨2, 7, [.asg (.nm 2) (.call 10 [.nm 0, .ite (.cmp .gt (.nm 1) (.ct (.int 0))) (.ct (.int 7)) (.ct (.int 3))]),
    .ifs (.cmp .lt (.nm 2) (.ct (.int 2))) [.asg (.nm 3) (.ix (.al (.lst [.ct .none, .ct .none, .call 10 [.nm 0, .ct (.int 30)]])) (.call 10 [.nm 0, .ct (.int 3)])),
    .asg (.nm 4) (.ix (.al (.lst [.ct (.int 1), .ct (.int 2), .ct (.int 3), .ct (.int 4), .ct (.int 5), .ct (.int 6), .ct (.int 7), .ct (.int 10), .ct (.int 12), .ct (.int 14), .ct (.int 30), .ct (.int 35), .ct (.int 60)])) (.call 10 [.nm 0, .ct (.int 13)])),
    .ret (.tup [.ct (.str "every"), .nm 4, .call 10 [.nm 0, .ct (.int 9)], .nm 3])] [],
    .ifs (.cmp .eq (.nm 2) (.ct (.int 2))) [.ret (.tup [.ct (.str "list"), .bi .tuple [.al (.ba .sset (.al (.lc (.call 10 [.nm 0, .ct (.int 30)]) (.nm 6) (.rg [.call 10 [.nm 0, .ct (.int 5)]]) none [6])))]])] [],
    .asg (.nm 5) (.call 11 [.nm 0, .bop .sub (.nm 1) (.ct (.int 1))]),
    .ifs (.cmp .eq (.nm 2) (.ct (.int 3))) [.ret (.tup [.ct (.str "moved"), .nm 5, .call 10 [.nm 0, .ct (.int 8)]])] [],
    .ret (.tup [.ix (.al (.lst [.ct (.str "both"), .ct (.str "common"), .ct (.str "without")])) (.bop .sub (.nm 2) (.ct (.int 4))), .nm 5, .call 11 [.nm 0, .bop .sub (.nm 1) (.ct (.int 1))]])]⟩
/-- _law_has(_law_calendar, _law_time) -/
def fn_law_has : Fn := ⟨2, 8, [.asg (.nm 2) (.ix (.nm 0) (.ct (.int 0))),
    .ifs (.cmp .eq (.nm 2) (.ct (.str "every"))) [.asg (.tup [.nm 3, .nm 4, .nm 5]) (.sl (.nm 0) (some (.ct (.int 1))) none),
    .ret (.and (.cmp .ge (.nm 1) (.nm 4)) (.and (.cmp .eq (.bop .mod (.bi .int [.bop .sub (.nm 1) (.nm 4)]) (.nm 3)) (.ct (.int 0))) (.or (.cmp .is (.nm 5) (.ct .none)) (.cmp .le (.nm 1) (.nm 5)))))] [],
    .ifs (.cmp .eq (.nm 2) (.ct (.str "list"))) [.ret (.cmp .in_ (.nm 1) (.ix (.nm 0) (.ct (.int 1))))] [],
    .asg (.nm 6) (.call 12 [.ix (.nm 0) (.ct (.int 1)), .ite (.cmp .eq (.nm 2) (.ct (.str "moved"))) (.bop .sub (.nm 1) (.ix (.nm 0) (.ct (.int 2)))) (.nm 1)]),
    .ifs (.cmp .eq (.nm 2) (.ct (.str "moved"))) [.ret (.nm 6)] [],
    .asg (.nm 7) (.call 12 [.ix (.nm 0) (.ct (.int 2)), .nm 1]),
    .ret (.ite (.cmp .eq (.nm 2) (.ct (.str "both"))) (.or (.nm 6) (.nm 7)) (.ite (.cmp .eq (.nm 2) (.ct (.str "common"))) (.and (.nm 6) (.nm 7)) (.and (.nm 6) (.not (.nm 7)))))]⟩
/-- _law_tail(_law_calendar) -/
def fn_law_tail : Fn := ⟨1, 1, [.ifs (.cmp .eq (.ix (.nm 0) (.ct (.int 0))) (.ct (.str "every"))) [.ret (.ite (.cmp .is (.ix (.nm 0) (.ct (.int 3))) (.ct .none)) (.ix (.nm 0) (.ct (.int 2))) (.bop .add (.ix (.nm 0) (.ct (.int 3))) (.ct (.int 1))))] [],
    .ifs (.cmp .eq (.ix (.nm 0) (.ct (.int 0))) (.ct (.str "list"))) [.ret (.bop .add (.bi .max1 [.bop .add (.tup [.bop .sub (.ct (.int 0)) (.ct (.int 1))]) (.ix (.nm 0) (.ct (.int 1)))]) (.ct (.int 1)))] [],
    .ifs (.cmp .eq (.ix (.nm 0) (.ct (.int 0))) (.ct (.str "moved"))) [.ret (.bop .add (.call 13 [.ix (.nm 0) (.ct (.int 1))]) (.ix (.nm 0) (.ct (.int 2))))] [],
    .ret (.bi .max2 [.call 13 [.ix (.nm 0) (.ct (.int 1))], .call 13 [.ix (.nm 0) (.ct (.int 2))]])]⟩
/-- _law_plain(_law_calendar) -/
def fn_law_plain : Fn := ⟨1, 9, [.asg (.nm 1) (.call 13 [.nm 0]),
    .asg (.nm 2) (.al (.lc (.call 12 [.nm 0, .nm 7]) (.nm 7) (.rg [.bop .add (.nm 1) (.ct (.int 840))]) none [7])),
    .asg (.nm 3) (.sl (.nm 2) (some (.nm 1)) (some (.bop .add (.nm 1) (.ct (.int 420))))),
    .asg (.nm 4) (.ix (.al (.lc (.nm 4) (.nm 4) (.rg [.ct (.int 1), .ct (.int 421)]) (some (.and (.cmp .eq (.bop .mod (.bi .int [.ct (.int 420)]) (.nm 4)) (.ct (.int 0))) (.cmp .eq (.nm 3) (.sl (.nm 2) (some (.bop .add (.nm 1) (.nm 4))) (some (.bop .add (.bop .add (.nm 1) (.nm 4)) (.ct (.int 420)))))))) [4])) (.ct (.int 0))),
    .asg (.nm 5) (.ix (.al (.lc (.nm 8) (.nm 8) (.rg [.bop .add (.nm 1) (.ct (.int 1))]) (some (.cmp .eq (.sl (.nm 2) (some (.nm 8)) (some (.nm 1))) (.sl (.nm 2) (some (.bop .add (.nm 8) (.nm 4))) (some (.bop .add (.nm 1) (.nm 4)))))) [8])) (.ct (.int 0))),
    .asg (.nm 6) (.bi .tuple [.al (.lc (.nm 8) (.nm 8) (.rg [.nm 4]) (some (.ix (.nm 2) (.bop .add (.nm 5) (.nm 8)))) [8])]),
    .ret (.tup [.bi .tuple [.al (.lc (.nm 8) (.nm 8) (.rg [.nm 5]) (some (.ix (.nm 2) (.nm 8))) [8])], .nm 5, .nm 4, .nm 6])]⟩
/-- _law_otherwise(_law_source, _law_one, _law_other, _law_third) -/
def fn_law_otherwise : Fn := ⟨4, 8, [.asg (.nm 4) (.call 10 [.nm 0, .ct (.int 9)]),
    .asg (.nm 5) (.bop .add (.ct (.int 1)) (.call 10 [.nm 0, .ct (.int 4)])),
    .ifs (.cmp .eq (.nm 4) (.ct (.int 0))) [.ret (.tup [.tup [.ct (.str "both"), .nm 1, .nm 2], .tup [.ct (.str "both"), .nm 2, .nm 1]])] [],
    .ifs (.cmp .eq (.nm 4) (.ct (.int 1))) [.ret (.tup [.tup [.ct (.str "common"), .nm 1, .tup [.ct (.str "both"), .nm 2, .nm 3]], .tup [.ct (.str "both"), .tup [.ct (.str "common"), .nm 1, .nm 2], .tup [.ct (.str "common"), .nm 1, .nm 3]]])] [],
    .ifs (.cmp .eq (.nm 4) (.ct (.int 2))) [.ret (.tup [.tup [.ct (.str "without"), .nm 1, .tup [.ct (.str "both"), .nm 2, .nm 3]], .tup [.ct (.str "without"), .tup [.ct (.str "without"), .nm 1, .nm 2], .nm 3]])] [],
    .ifs (.cmp .eq (.nm 4) (.ct (.int 3))) [.ret (.tup [.tup [.ct (.str "without"), .nm 1, .tup [.ct (.str "without"), .nm 1, .nm 2]], .tup [.ct (.str "common"), .nm 1, .nm 2]])] [],
    .ifs (.cmp .eq (.nm 4) (.ct (.int 4))) [.ret (.tup [.tup [.ct (.str "moved"), .tup [.ct (.str "both"), .nm 1, .nm 2], .nm 5], .tup [.ct (.str "both"), .tup [.ct (.str "moved"), .nm 1, .nm 5], .tup [.ct (.str "moved"), .nm 2, .nm 5]]])] [],
    .ifs (.cmp .eq (.nm 4) (.ct (.int 5))) [.ret (.tup [.tup [.ct (.str "moved"), .tup [.ct (.str "moved"), .nm 1, .nm 5], .ct (.int 2)], .tup [.ct (.str "moved"), .nm 1, .bop .add (.nm 5) (.ct (.int 2))]])] [],
    .ifs (.cmp .eq (.nm 4) (.ct (.int 6))) [.ret (.tup [.tup [.ct (.str "both"), .tup [.ct (.str "common"), .nm 1, .nm 2], .tup [.ct (.str "without"), .nm 1, .nm 2]], .nm 1])] [],
    .ifs (.cmp .eq (.nm 4) (.ct (.int 7))) [.par [6, 7] [.bop .add (.ct (.int 1)) (.call 10 [.nm 0, .ct (.int 3)]), .call 10 [.nm 0, .ct (.int 6)]],
    .ret (.tup [.tup [.ct (.str "every"), .nm 6, .nm 7, .ct .none], .tup [.ct (.str "both"), .tup [.ct (.str "every"), .bop .mul (.ct (.int 2)) (.nm 6), .nm 7, .ct .none], .tup [.ct (.str "every"), .bop .mul (.ct (.int 2)) (.nm 6), .bop .add (.nm 7) (.nm 6), .ct .none]]])] [],
    .ret (.tup [.tup [.ct (.str "both"), .nm 1, .tup [.ct (.str "common"), .nm 1, .nm 2]], .tup [.ct (.str "common"), .nm 1, .tup [.ct (.str "both"), .nm 1, .nm 2]]])]⟩
/-- law(_law_script) -/
def fn_law : Fn := ⟨1, 18, [.asg (.nm 1) (.call 9 [.nm 0]),
    .for (.nm 2) (.rg [.ct (.int 2)]) [.asg (.nm 3) (.al (.lc (.call 11 [.nm 1, .ct (.int 1)]) (.nm 17) (.rg [.ct (.int 3)]) none [17])),
    .asg (.tup [.nm 4, .nm 5]) (.call 15 [.nm 1, .ix (.nm 3) (.ct (.int 0)), .ix (.nm 3) (.ct (.int 1)), .ix (.nm 3) (.ct (.int 2))]),
    .ifs (.or (.cmp .ne (.call 5 [.nm 4]) (.call 14 [.nm 4])) (.cmp .ne (.call 5 [.nm 5]) (.call 5 [.nm 4]))) [.ret (.ct (.bool false))] [],
    .ifs (.cmp .isn (.call 6 [.nm 4, .nm 5]) (.ct .none)) [.ret (.ct (.bool false))] [],
    .asg (.tup [.nm 6, .nm 7, .nm 8, .nm 9]) (.call 14 [.nm 4]),
    .asg (.nm 10) (.and (.cmp .le (.bi .len [.nm 6]) (.ct (.int 60))) (.cmp .le (.bop .mul (.bi .len [.nm 9]) (.nm 8)) (.ct (.int 600)))),
    .ifs (.and (.nm 10) (.cmp .isn (.call 6 [.call 8 [.tup [.nm 6, .nm 7, .nm 8, .nm 9]], .nm 5]) (.ct .none))) [.ret (.ct (.bool false))] [],
    .asg (.nm 11) (.al (.lst [.tup [.ix (.nm 3) (.ct (.int 0)), .ix (.nm 3) (.ct (.int 1))], .tup [.nm 4, .ix (.nm 3) (.ct (.int 2))], .tup [.ix (.nm 3) (.ct (.int 1)), .tup [.ct (.str "without"), .ix (.nm 3) (.ct (.int 1)), .tup [.ct (.str "list"), .tup [.ct (.int 11)]]]]])),
    .for (.tup [.nm 12, .nm 13]) (.sq (.nm 11)) [.par [14, 15] [.call 14 [.nm 12], .call 14 [.nm 13]],
    .asg (.nm 16) (.call 6 [.nm 12, .nm 13]),
    .ifs (.or (.cmp .ne (.call 5 [.nm 12]) (.nm 14)) (.or (.cmp .ne (.call 5 [.nm 13]) (.nm 15)) (.cmp .ne (.cmp .is (.nm 16) (.ct .none)) (.cmp .eq (.nm 14) (.nm 15))))) [.ret (.ct (.bool false))] [],
    .ifs (.and (.cmp .isn (.nm 16) (.ct .none)) (.cmp .eq (.call 1 [.nm 12, .nm 16]) (.call 1 [.nm 13, .nm 16]))) [.ret (.ct (.bool false))] [],
    .ifs (.and (.cmp .isn (.nm 16) (.ct .none)) (.cmp .eq (.call 12 [.nm 12, .nm 16]) (.call 12 [.nm 13, .nm 16]))) [.ret (.ct (.bool false))] [],
    .ifs (.and (.cmp .isn (.nm 16) (.ct .none)) (.cmp .ne (.call 2 [.nm 12, .ct (.int 0), .nm 16]) (.call 2 [.nm 13, .ct (.int 0), .nm 16]))) [.ret (.ct (.bool false))] [],
    .ifs (.or (.cmp .ne (.call 7 [.nm 12]) (.cmp .ne (.ix (.nm 14) (.ct (.int 3))) (.tup []))) (.cmp .ne (.call 4 [.nm 12]) (.sl (.nm 14) (some (.ct (.int 1))) (some (.ct (.int 3)))))) [.ret (.ct (.bool false))] []]],
    .ret (.ct (.bool true))]⟩
def prog : Pg := ⟨[fn_least_multiple, fn_has_time, fn_times_in, fn_tail_of, fn_repeats, fn_plain_calendar, fn_first_unlike, fn_is_endless, fn_calendar_of, fn_law_open_cells, fn_law_pick, fn_law_draw_wide_calendar, fn_law_has, fn_law_tail, fn_law_plain, fn_law_otherwise, fn_law], []⟩
abbrev i_least_multiple : Nat := 0
abbrev i_has_time : Nat := 1
abbrev i_times_in : Nat := 2
abbrev i_tail_of : Nat := 3
abbrev i_repeats : Nat := 4
abbrev i_plain_calendar : Nat := 5
abbrev i_first_unlike : Nat := 6
abbrev i_is_endless : Nat := 7
abbrev i_calendar_of : Nat := 8
abbrev i_law_open_cells : Nat := 9
abbrev i_law_pick : Nat := 10
abbrev i_law_draw_wide_calendar : Nat := 11
abbrev i_law_has : Nat := 12
abbrev i_law_tail : Nat := 13
abbrev i_law_plain : Nat := 14
abbrev i_law_otherwise : Nat := 15
abbrev i_law : Nat := 16
abbrev t_0 : Stmt := top 1
def d_0 : Df := ⟨"least_multiple", defArgs t_0, defBody t_0, defScope t_0, ["one", "other", "a", "b"], ["one", "other"]⟩
theorem d_0_S : FnScope d_0.N d_0.ps d_0.scope := ⟨rfl, rfl, rfl, by decide +kernel, rfl, by decide +kernel, by decide +kernel⟩
abbrev t_1 : Stmt := top 2
def d_1 : Df := ⟨"has_time", defArgs t_1, defBody t_1, defScope t_1, ["c", "t"], ["c", "t"]⟩
theorem d_1_S : FnScope d_1.N d_1.ps d_1.scope := ⟨rfl, rfl, rfl, by decide +kernel, rfl, by decide +kernel, by decide +kernel⟩
abbrev t_2 : Stmt := top 3
def d_2 : Df := ⟨"times_in", defArgs t_2, defBody t_2, defScope t_2, ["c", "low", "high", "t"], ["c", "low", "high"]⟩
theorem d_2_S : FnScope d_2.N d_2.ps d_2.scope := ⟨rfl, rfl, rfl, by decide +kernel, rfl, by decide +kernel, by decide +kernel⟩
abbrev t_3 : Stmt := top 4
def d_3 : Df := ⟨"tail_of", defArgs t_3, defBody t_3, defScope t_3, ["c", "n", "q", "later", "other"], ["c"]⟩
theorem d_3_S : FnScope d_3.N d_3.ps d_3.scope := ⟨rfl, rfl, rfl, by decide +kernel, rfl, by decide +kernel, by decide +kernel⟩
abbrev t_4 : Stmt := top 5
def d_4 : Df := ⟨"repeats", defArgs t_4, defBody t_4, defScope t_4, ["c", "n", "whole", "told", "q", "t"], ["c"]⟩
theorem d_4_S : FnScope d_4.N d_4.ps d_4.scope := ⟨rfl, rfl, rfl, by decide +kernel, rfl, by decide +kernel, by decide +kernel⟩
abbrev t_5 : Stmt := top 6
def d_5 : Df := ⟨"plain_calendar", defArgs t_5, defBody t_5, defScope t_5, ["c", "n", "q", "t"], ["c"]⟩
theorem d_5_S : FnScope d_5.N d_5.ps d_5.scope := ⟨rfl, rfl, rfl, by decide +kernel, rfl, by decide +kernel, by decide +kernel⟩
abbrev t_6 : Stmt := top 7
def d_6 : Df := ⟨"first_unlike", defArgs t_6, defBody t_6, defScope t_6, ["c", "d", "n", "q", "later", "other", "t"], ["c", "d"]⟩
theorem d_6_S : FnScope d_6.N d_6.ps d_6.scope := ⟨rfl, rfl, rfl, by decide +kernel, rfl, by decide +kernel, by decide +kernel⟩
abbrev t_7 : Stmt := top 8
def d_7 : Df := ⟨"is_endless", defArgs t_7, defBody t_7, defScope t_7, ["c"], ["c"]⟩
theorem d_7_S : FnScope d_7.N d_7.ps d_7.scope := ⟨rfl, rfl, rfl, by decide +kernel, rfl, by decide +kernel, by decide +kernel⟩
abbrev t_8 : Stmt := top 9
def d_8 : Df := ⟨"calendar_of", defArgs t_8, defBody t_8, defScope t_8, ["plain", "early", "n", "q", "rests", "found", "rest"], ["plain"]⟩
theorem d_8_S : FnScope d_8.N d_8.ps d_8.scope := ⟨rfl, rfl, rfl, by decide +kernel, rfl, by decide +kernel, by decide +kernel⟩
abbrev t_9 : Stmt := top 11
def d_9 : Df := ⟨"_law_open_cells", defArgs t_9, defBody t_9, defScope t_9, ["_law_script", "_law_stirred", "_law_cell", "_law_cells"], ["_law_script"]⟩
theorem d_9_S : FnScope d_9.N d_9.ps d_9.scope := ⟨rfl, rfl, rfl, by decide +kernel, rfl, by decide +kernel, by decide +kernel⟩
abbrev t_10 : Stmt := top 12
def d_10 : Df := ⟨"_law_pick", defArgs t_10, defBody t_10, defScope t_10, ["_law_source", "_law_most", "_law_cells", "_law_others", "_law_lap", "_law_stirred"], ["_law_source", "_law_most"]⟩
theorem d_10_S : FnScope d_10.N d_10.ps d_10.scope := ⟨rfl, rfl, rfl, by decide +kernel, rfl, by decide +kernel, by decide +kernel⟩
abbrev t_11 : Stmt := top 13
def d_11 : Df := ⟨"_law_draw_wide_calendar", defArgs t_11, defBody t_11, defScope t_11, ["_law_source", "_law_depth", "_law_road", "_law_end", "_law_step", "_law_one", "_law_turn"], ["_law_source", "_law_depth"]⟩
theorem d_11_S : FnScope d_11.N d_11.ps d_11.scope := ⟨rfl, rfl, rfl, by decide +kernel, rfl, by decide +kernel, by decide +kernel⟩
abbrev t_12 : Stmt := top 14
def d_12 : Df := ⟨"_law_has", defArgs t_12, defBody t_12, defScope t_12, ["_law_calendar", "_law_time", "_law_word", "_law_step", "_law_start", "_law_end", "_law_one", "_law_other"], ["_law_calendar", "_law_time"]⟩
theorem d_12_S : FnScope d_12.N d_12.ps d_12.scope := ⟨rfl, rfl, rfl, by decide +kernel, rfl, by decide +kernel, by decide +kernel⟩
abbrev t_13 : Stmt := top 15
def d_13 : Df := ⟨"_law_tail", defArgs t_13, defBody t_13, defScope t_13, ["_law_calendar"], ["_law_calendar"]⟩
theorem d_13_S : FnScope d_13.N d_13.ps d_13.scope := ⟨rfl, rfl, rfl, by decide +kernel, rfl, by decide +kernel, by decide +kernel⟩
abbrev t_14 : Stmt := top 16
def d_14 : Df := ⟨"_law_plain", defArgs t_14, defBody t_14, defScope t_14, ["_law_calendar", "_law_n", "_law_told", "_law_window", "_law_q", "_law_least", "_law_rests", "_law_time", "_law_k"], ["_law_calendar"]⟩
theorem d_14_S : FnScope d_14.N d_14.ps d_14.scope := ⟨rfl, rfl, rfl, by decide +kernel, rfl, by decide +kernel, by decide +kernel⟩
abbrev t_15 : Stmt := top 17
def d_15 : Df := ⟨"_law_otherwise", defArgs t_15, defBody t_15, defScope t_15, ["_law_source", "_law_one", "_law_other", "_law_third", "_law_road", "_law_n", "_law_k", "_law_start"], ["_law_source", "_law_one", "_law_other", "_law_third"]⟩
theorem d_15_S : FnScope d_15.N d_15.ps d_15.scope := ⟨rfl, rfl, rfl, by decide +kernel, rfl, by decide +kernel, by decide +kernel⟩
abbrev t_16 : Stmt := top 18
def d_16 : Df := ⟨"law", defArgs t_16, defBody t_16, defScope t_16, ["_law_script", "_law_source", "_law_lap", "_law_some", "_law_here", "_law_there", "_law_early", "_law_n", "_law_q", "_law_rests", "_law_is_small", "_law_pairs", "_law_one", "_law_other", "_law_plain_here", "_law_late", "_law_told", "_law_turn"], ["_law_script"]⟩
theorem d_16_S : FnScope d_16.N d_16.ps d_16.scope := ⟨rfl, rfl, rfl, by decide +kernel, rfl, by decide +kernel, by decide +kernel⟩
def ds : List Df := [d_0, d_1, d_2, d_3, d_4, d_5, d_6, d_7, d_8, d_9, d_10, d_11, d_12, d_13, d_14, d_15, d_16]
section
variable {P : Program} {w : World} {K : PySem.W.Frag} {mg : Str → Option Value} {base : Heap} {f : Addr} {cdv : Value} {A : Around} {outer : List Env} {s : Shared} {H : Hp} {cl : Cl} {ww : Nat}
variable (g_abs : mg "abs" = none)
variable (g_int : mg "int" = none)
variable (g_len : mg "len" = none)
variable (g_max : mg "max" = none)
variable (g_min : mg "min" = none)
variable (g_range : mg "range" = none)
variable (g_set : mg "set" = none)
variable (g_sorted : mg "sorted" = none)
variable (g_tuple : mg "tuple" = none)
theorem b_0 (h70 : (A.deeper (envOfC d_0.x d_0.scope s.heap.objs.size f cdv)).units + 70 < cLine) (hgd : (A.deeper (envOfC d_0.x d_0.scope s.heap.objs.size f cdv)).guards = some []) (C : ∀ (j : Nat) (e : Df), ds[j]? = some e → CalF P w K mg base (A.deeper (envOfC d_0.x d_0.scope s.heap.objs.size f cdv)) cl j e.x e.ps.length) :
    JSs (cxOf CX0 P w K mg base d_0.N d_0.x d_0.scope f cdv A outer s H E0).nox prog.cs cl ww d_0.body fn_least_multiple.body :=
  ss_cons (s_par (i := 2) (j := 3) rfl d_0_S.nd rfl rfl (by decide) rfl rfl (xs_cn (x_nm (i := 0) rfl (.inl rfl)) (xs_cn (x_nm (i := 1) rfl (.inl rfl)) (xs_nl))) (by rfl)) (ss_cons (s_whl PassesOwn.never (t_cmp (o := .ne) (lt65 h70) (x_nm (i := 3) rfl (.inl rfl)) (x_int)) (ss_cons (s_par (i := 2) (j := 3) rfl d_0_S.nd rfl rfl (by decide) rfl rfl (xs_cn (x_nm (i := 3) rfl (.inl rfl)) (xs_cn (x_bop (o := .mod) (x_nm (i := 2) rfl (.inl rfl)) (x_nm (i := 3) rfl (.inl rfl))) (xs_nl))) (by rfl)) (ss_nil))) (ss_cons (s_ret (x_bop (o := .fdiv) (x_bop (o := .mul) (x_nm (i := 0) rfl (.inl rfl)) (x_nm (i := 1) rfl (.inl rfl))) (x_nm (i := 2) rfl (.inl rfl)))) (ss_nil)))
theorem b_1 (h70 : (A.deeper (envOfC d_1.x d_1.scope s.heap.objs.size f cdv)).units + 70 < cLine) (hgd : (A.deeper (envOfC d_1.x d_1.scope s.heap.objs.size f cdv)).guards = some []) (C : ∀ (j : Nat) (e : Df), ds[j]? = some e → CalF P w K mg base (A.deeper (envOfC d_1.x d_1.scope s.heap.objs.size f cdv)) cl j e.x e.ps.length) :
    JSs (cxOf CX0 P w K mg base d_1.N d_1.x d_1.scope f cdv A outer s H E0).nox prog.cs cl ww d_1.body fn_has_time.body :=
  ss_cons (s_if (t_cmp (o := .eq) (lt65 h70) (x_ix (lt1 h70) (x_nm (i := 0) rfl (.inl rfl)) (x_int) (by intro _ _; rfl)) (x_str)) (ss_cons (s_ret (x_and (x_cmp (o := .ge) (lt65 h70) (x_nm (i := 1) rfl (.inl rfl)) (x_ix (lt1 h70) (x_nm (i := 0) rfl (.inl rfl)) (x_int) (by intro _ _; rfl))) (x_and (x_cmp (o := .eq) (lt65 h70) (x_bop (o := .mod) (x_bop (o := .sub) (x_nm (i := 1) rfl (.inl rfl)) (x_ix (lt1 h70) (x_nm (i := 0) rfl (.inl rfl)) (x_int) (by intro _ _; rfl))) (x_ix (lt1 h70) (x_nm (i := 0) rfl (.inl rfl)) (x_int) (by intro _ _; rfl))) (x_int)) (x_one (x_or (x_cmp (o := .is) (lt65 h70) (x_ix (lt1 h70) (x_nm (i := 0) rfl (.inl rfl)) (x_int) (by intro _ _; rfl)) (x_non)) (x_one (x_cmp (o := .le) (lt65 h70) (x_nm (i := 1) rfl (.inl rfl)) (x_ix (lt1 h70) (x_nm (i := 0) rfl (.inl rfl)) (x_int) (by intro _ _; rfl))))))))) (ss_nil)) (ss_nil)) (ss_cons (s_if (t_cmp (o := .eq) (lt65 h70) (x_ix (lt1 h70) (x_nm (i := 0) rfl (.inl rfl)) (x_int) (by intro _ _; rfl)) (x_str)) (ss_cons (s_ret (x_cmp (o := .in_) (lt65 h70) (x_nm (i := 1) rfl (.inl rfl)) (x_ix (lt1 h70) (x_nm (i := 0) rfl (.inl rfl)) (x_int) (by intro _ _; rfl)))) (ss_nil)) (ss_nil)) (ss_cons (s_if (t_cmp (o := .eq) (lt65 h70) (x_ix (lt1 h70) (x_nm (i := 0) rfl (.inl rfl)) (x_int) (by intro _ _; rfl)) (x_str)) (ss_cons (s_ret (x_call (n := 2) (C 1 d_1 rfl) rfl (xs_cn (x_ix (lt1 h70) (x_nm (i := 0) rfl (.inl rfl)) (x_int) (by intro _ _; rfl)) (xs_cn (x_bop (o := .sub) (x_nm (i := 1) rfl (.inl rfl)) (x_ix (lt1 h70) (x_nm (i := 0) rfl (.inl rfl)) (x_int) (by intro _ _; rfl))) (xs_nl))))) (ss_nil)) (ss_nil)) (ss_cons (s_if (t_cmp (o := .eq) (lt65 h70) (x_ix (lt1 h70) (x_nm (i := 0) rfl (.inl rfl)) (x_int) (by intro _ _; rfl)) (x_str)) (ss_cons (s_ret (x_or (x_call (n := 2) (C 1 d_1 rfl) rfl (xs_cn (x_ix (lt1 h70) (x_nm (i := 0) rfl (.inl rfl)) (x_int) (by intro _ _; rfl)) (xs_cn (x_nm (i := 1) rfl (.inl rfl)) (xs_nl)))) (x_one (x_call (n := 2) (C 1 d_1 rfl) rfl (xs_cn (x_ix (lt1 h70) (x_nm (i := 0) rfl (.inl rfl)) (x_int) (by intro _ _; rfl)) (xs_cn (x_nm (i := 1) rfl (.inl rfl)) (xs_nl))))))) (ss_nil)) (ss_nil)) (ss_cons (s_if (t_cmp (o := .eq) (lt65 h70) (x_ix (lt1 h70) (x_nm (i := 0) rfl (.inl rfl)) (x_int) (by intro _ _; rfl)) (x_str)) (ss_cons (s_ret (x_and (x_call (n := 2) (C 1 d_1 rfl) rfl (xs_cn (x_ix (lt1 h70) (x_nm (i := 0) rfl (.inl rfl)) (x_int) (by intro _ _; rfl)) (xs_cn (x_nm (i := 1) rfl (.inl rfl)) (xs_nl)))) (x_one (x_call (n := 2) (C 1 d_1 rfl) rfl (xs_cn (x_ix (lt1 h70) (x_nm (i := 0) rfl (.inl rfl)) (x_int) (by intro _ _; rfl)) (xs_cn (x_nm (i := 1) rfl (.inl rfl)) (xs_nl))))))) (ss_nil)) (ss_nil)) (ss_cons (s_ret (x_and (x_call (n := 2) (C 1 d_1 rfl) rfl (xs_cn (x_ix (lt1 h70) (x_nm (i := 0) rfl (.inl rfl)) (x_int) (by intro _ _; rfl)) (xs_cn (x_nm (i := 1) rfl (.inl rfl)) (xs_nl)))) (x_one (x_not (x_call (n := 2) (C 1 d_1 rfl) rfl (xs_cn (x_ix (lt1 h70) (x_nm (i := 0) rfl (.inl rfl)) (x_int) (by intro _ _; rfl)) (xs_cn (x_nm (i := 1) rfl (.inl rfl)) (xs_nl)))))))) (ss_nil))))))
include g_range in
include g_tuple in
theorem b_2 (h70 : (A.deeper (envOfC d_2.x d_2.scope s.heap.objs.size f cdv)).units + 70 < cLine) (hgd : (A.deeper (envOfC d_2.x d_2.scope s.heap.objs.size f cdv)).guards = some []) (C : ∀ (j : Nat) (e : Df), ds[j]? = some e → CalF P w K mg base (A.deeper (envOfC d_2.x d_2.scope s.heap.objs.size f cdv)) cl j e.x e.ps.length) :
    JSs (cxOf CX0 P w K mg base d_2.N d_2.x d_2.scope f cdv A outer s H E0).nox prog.cs cl ww d_2.body fn_times_in.body :=
  ss_cons (s_ret (x_biT (o := .tuple) (cb_tuple) rfl g_tuple rfl (xs_cn (x_al (xa_lc (own := [("t", 3)]) rfl d_2_S.nd (blkOk_by (by rfl)) (by decide) (xi_rg2 g_range rfl (x_nm (i := 1) rfl (.inl rfl)) (x_nm (i := 2) rfl (.inl rfl))) (fun _ _ _ _ _ => pg_nm (i := 3) d_2_S.nd rfl (.inl rfl) (.inr rfl)) (fun _ _ _ _ _ => xc_so (t_call (x_call (n := 2) (C 1 d_1 rfl) rfl (xs_cn (x_nm (i := 0) rfl (.inr (.inl rfl))) (xs_cn (x_nm (i := 3) rfl (.inl rfl)) (xs_nl)))))) (fun _ _ _ _ _ => x_nm (i := 3) rfl (.inl rfl)))) (xs_nl)))) (ss_nil)
include g_max in
theorem b_3 (h70 : (A.deeper (envOfC d_3.x d_3.scope s.heap.objs.size f cdv)).units + 70 < cLine) (hgd : (A.deeper (envOfC d_3.x d_3.scope s.heap.objs.size f cdv)).guards = some []) (C : ∀ (j : Nat) (e : Df), ds[j]? = some e → CalF P w K mg base (A.deeper (envOfC d_3.x d_3.scope s.heap.objs.size f cdv)) cl j e.x e.ps.length) :
    JSs (cxOf CX0 P w K mg base d_3.N d_3.x d_3.scope f cdv A outer s H E0).nox prog.cs cl ww d_3.body fn_tail_of.body :=
  ss_cons (s_if (t_cmp (o := .eq) (lt65 h70) (x_ix (lt1 h70) (x_nm (i := 0) rfl (.inl rfl)) (x_int) (by intro _ _; rfl)) (x_str)) (ss_cons (s_ret (x_ite (t_cmp (o := .is) (lt65 h70) (x_ix (lt1 h70) (x_nm (i := 0) rfl (.inl rfl)) (x_int) (by intro _ _; rfl)) (x_non)) (x_tup (xs_cn (x_ix (lt1 h70) (x_nm (i := 0) rfl (.inl rfl)) (x_int) (by intro _ _; rfl)) (xs_cn (x_ix (lt1 h70) (x_nm (i := 0) rfl (.inl rfl)) (x_int) (by intro _ _; rfl)) (xs_nl)))) (x_tup (xs_cn (x_bop (o := .add) (x_ix (lt1 h70) (x_nm (i := 0) rfl (.inl rfl)) (x_int) (by intro _ _; rfl)) (x_int)) (xs_cn (x_int) (xs_nl)))))) (ss_nil)) (ss_nil)) (ss_cons (s_if (t_cmp (o := .eq) (lt65 h70) (x_ix (lt1 h70) (x_nm (i := 0) rfl (.inl rfl)) (x_int) (by intro _ _; rfl)) (x_str)) (ss_cons (s_ret (x_tup (xs_cn (x_bop (o := .add) (x_biB (o := .max1) (cb_max1 rfl (lt65 h70)) rfl g_max rfl (xs_cn (x_bop (o := .add) (x_tup (xs_cn (x_neg (x_int)) (xs_nl))) (x_ix (lt1 h70) (x_nm (i := 0) rfl (.inl rfl)) (x_int) (by intro _ _; rfl))) (xs_nl))) (x_int)) (xs_cn (x_int) (xs_nl))))) (ss_nil)) (ss_nil)) (ss_cons (s_asg (x_call (n := 1) (C 3 d_3 rfl) rfl (xs_cn (x_ix (lt1 h70) (x_nm (i := 0) rfl (.inl rfl)) (x_int) (by intro _ _; rfl)) (xs_nl))) (pg_tp rfl (pgs_cn (pg_nm (i := 1) d_3_S.nd rfl (.inl rfl) (.inl rfl)) (pgs_cn (pg_nm (i := 2) d_3_S.nd rfl (.inl rfl) (.inl rfl)) (pgs_nl) rfl) rfl) rfl rfl)) (ss_cons (s_if (t_cmp (o := .eq) (lt65 h70) (x_ix (lt1 h70) (x_nm (i := 0) rfl (.inl rfl)) (x_int) (by intro _ _; rfl)) (x_str)) (ss_cons (s_ret (x_tup (xs_cn (x_bop (o := .add) (x_nm (i := 1) rfl (.inl rfl)) (x_ix (lt1 h70) (x_nm (i := 0) rfl (.inl rfl)) (x_int) (by intro _ _; rfl))) (xs_cn (x_nm (i := 2) rfl (.inl rfl)) (xs_nl))))) (ss_nil)) (ss_nil)) (ss_cons (s_asg (x_call (n := 1) (C 3 d_3 rfl) rfl (xs_cn (x_ix (lt1 h70) (x_nm (i := 0) rfl (.inl rfl)) (x_int) (by intro _ _; rfl)) (xs_nl))) (pg_tp rfl (pgs_cn (pg_nm (i := 3) d_3_S.nd rfl (.inl rfl) (.inl rfl)) (pgs_cn (pg_nm (i := 4) d_3_S.nd rfl (.inl rfl) (.inl rfl)) (pgs_nl) rfl) rfl) rfl rfl)) (ss_cons (s_ret (x_tup (xs_cn (x_biB (o := .max2) (cb_max2 rfl) rfl g_max rfl (xs_cn (x_nm (i := 1) rfl (.inl rfl)) (xs_cn (x_nm (i := 3) rfl (.inl rfl)) (xs_nl)))) (xs_cn (x_call (n := 2) (C 0 d_0 rfl) rfl (xs_cn (x_nm (i := 2) rfl (.inl rfl)) (xs_cn (x_nm (i := 4) rfl (.inl rfl)) (xs_nl)))) (xs_nl))))) (ss_nil))))))
include g_min in
include g_range in
theorem b_4 (h70 : (A.deeper (envOfC d_4.x d_4.scope s.heap.objs.size f cdv)).units + 70 < cLine) (hgd : (A.deeper (envOfC d_4.x d_4.scope s.heap.objs.size f cdv)).guards = some []) (C : ∀ (j : Nat) (e : Df), ds[j]? = some e → CalF P w K mg base (A.deeper (envOfC d_4.x d_4.scope s.heap.objs.size f cdv)) cl j e.x e.ps.length) :
    JSs (cxOf CX0 P w K mg base d_4.N d_4.x d_4.scope f cdv A outer s H E0).nox prog.cs cl ww d_4.body fn_repeats.body :=
  ss_cons (s_asg (x_call (n := 1) (C 3 d_3 rfl) rfl (xs_cn (x_nm (i := 0) rfl (.inr (.inl rfl))) (xs_nl))) (pg_tp rfl (pgs_cn (pg_nm (i := 1) d_4_S.nd rfl (.inl rfl) (.inl rfl)) (pgs_cn (pg_nm (i := 2) d_4_S.nd rfl (.inr rfl) (.inl rfl)) (pgs_nl) rfl) rfl) rfl rfl)) (ss_cons (s_set (i := 3) d_4_S.nd rfl (.inr rfl) (x_al (xa_lc (own := [("t", 5)]) rfl d_4_S.nd (blkOk_by (by rfl)) (by decide) (xi_rg2 g_range rfl (x_nm (i := 1) rfl (.inl rfl)) (x_bop (o := .add) (x_nm (i := 1) rfl (.inl rfl)) (x_nm (i := 2) rfl (.inr (.inl rfl))))) (fun _ _ _ _ _ => pg_nm (i := 5) d_4_S.nd rfl (.inl rfl) (.inr rfl)) (fun _ _ _ _ _ => xc_no) (fun _ _ _ _ _ => x_call (n := 2) (C 1 d_1 rfl) rfl (xs_cn (x_nm (i := 0) rfl (.inr (.inl rfl))) (xs_cn (x_nm (i := 5) rfl (.inl rfl)) (xs_nl))))))) (ss_cons (s_set (i := 4) d_4_S.nd rfl (.inl rfl) (x_biB (o := .min1) (cb_min1 rfl (lt65 h70)) rfl g_min rfl (xs_cn (x_al (xa_lc (own := [("q", 4)]) rfl d_4_S.nd (blkOk_by (by rfl)) (by decide) (xi_rg2 g_range rfl (x_int) (x_bop (o := .add) (x_nm (i := 2) rfl (.inr (.inl rfl))) (x_int))) (fun _ _ _ _ _ => pg_nm (i := 4) d_4_S.nd rfl (.inl rfl) (.inr rfl)) (fun _ _ _ _ _ => xc_so (L2.PW.pt (t_and (t_cmp (o := .eq) (lt65 h70) (x_bop (o := .mod) (x_nm (i := 2) rfl (.inr (.inl rfl))) (x_nm (i := 4) rfl (.inl rfl))) (x_int)) (t_and1 (t_cmp (o := .eq) (lt65 h70) (x_nm (i := 3) rfl (.inr (.inl rfl))) (x_bop (o := .mul) (x_sl (x_nm (i := 3) rfl (.inr (.inl rfl))) (xp_no) (xp_so (x_nm (i := 4) rfl (.inl rfl)))) (x_bop (o := .fdiv) (x_nm (i := 2) rfl (.inr (.inl rfl))) (x_nm (i := 4) rfl (.inl rfl))))))))) (fun _ _ _ _ _ => x_nm (i := 4) rfl (.inl rfl)))) (xs_nl)))) (ss_cons (s_whl PassesOwn.never (L2.PW.pt (t_and (t_cmp (o := .gt) (lt65 h70) (x_nm (i := 1) rfl (.inl rfl)) (x_int)) (t_and1 (t_cmp (o := .eq) (lt65 h70) (x_call (n := 2) (C 1 d_1 rfl) rfl (xs_cn (x_nm (i := 0) rfl (.inr (.inl rfl))) (xs_cn (x_bop (o := .sub) (x_nm (i := 1) rfl (.inl rfl)) (x_int)) (xs_nl)))) (x_call (n := 2) (C 1 d_1 rfl) rfl (xs_cn (x_nm (i := 0) rfl (.inr (.inl rfl))) (xs_cn (x_bop (o := .add) (x_bop (o := .sub) (x_nm (i := 1) rfl (.inl rfl)) (x_int)) (x_nm (i := 4) rfl (.inl rfl))) (xs_nl)))))))) (ss_cons (s_augS (i := 1) d_4_S.nd rfl (.inl rfl) (x_int)) (ss_nil))) (ss_cons (s_ret (x_tup (xs_cn (x_nm (i := 1) rfl (.inl rfl)) (xs_cn (x_nm (i := 4) rfl (.inl rfl)) (xs_nl))))) (ss_nil)))))
include g_tuple in
theorem b_5 (h70 : (A.deeper (envOfC d_5.x d_5.scope s.heap.objs.size f cdv)).units + 70 < cLine) (hgd : (A.deeper (envOfC d_5.x d_5.scope s.heap.objs.size f cdv)).guards = some []) (C : ∀ (j : Nat) (e : Df), ds[j]? = some e → CalF P w K mg base (A.deeper (envOfC d_5.x d_5.scope s.heap.objs.size f cdv)) cl j e.x e.ps.length) :
    JSs (cxOf CX0 P w K mg base d_5.N d_5.x d_5.scope f cdv A outer s H E0).nox prog.cs cl ww d_5.body fn_plain_calendar.body :=
  ss_cons (s_asg (x_call (n := 1) (C 4 d_4 rfl) rfl (xs_cn (x_nm (i := 0) rfl (.inl rfl)) (xs_nl))) (pg_tp rfl (pgs_cn (pg_nm (i := 1) d_5_S.nd rfl (.inr rfl) (.inl rfl)) (pgs_cn (pg_nm (i := 2) d_5_S.nd rfl (.inl rfl) (.inl rfl)) (pgs_nl) rfl) rfl) rfl rfl)) (ss_cons (s_ret (x_tup (xs_cn (x_call (n := 3) (C 2 d_2 rfl) rfl (xs_cn (x_nm (i := 0) rfl (.inl rfl)) (xs_cn (x_int) (xs_cn (x_nm (i := 1) rfl (.inr (.inl rfl))) (xs_nl))))) (xs_cn (x_nm (i := 1) rfl (.inr (.inl rfl))) (xs_cn (x_nm (i := 2) rfl (.inl rfl)) (xs_cn (x_biT (o := .tuple) (cb_tuple) rfl g_tuple rfl (xs_cn (x_al (xa_lc (own := [("t", 3)]) rfl d_5_S.nd (blkOk_by (by rfl)) (by decide) (xi_sq (x_call (n := 3) (C 2 d_2 rfl) rfl (xs_cn (x_nm (i := 0) rfl (.inl rfl)) (xs_cn (x_nm (i := 1) rfl (.inr (.inl rfl))) (xs_cn (x_bop (o := .add) (x_nm (i := 1) rfl (.inr (.inl rfl))) (x_nm (i := 2) rfl (.inl rfl))) (xs_nl)))))) (fun _ _ _ _ _ => pg_nm (i := 3) d_5_S.nd rfl (.inl rfl) (.inr rfl)) (fun _ _ _ _ _ => xc_no) (fun _ _ _ _ _ => x_bop (o := .sub) (x_nm (i := 3) rfl (.inl rfl)) (x_nm (i := 1) rfl (.inr (.inl rfl)))))) (xs_nl))) (xs_nl))))))) (ss_nil))
include g_max in
include g_range in
theorem b_6 (h70 : (A.deeper (envOfC d_6.x d_6.scope s.heap.objs.size f cdv)).units + 70 < cLine) (hgd : (A.deeper (envOfC d_6.x d_6.scope s.heap.objs.size f cdv)).guards = some []) (C : ∀ (j : Nat) (e : Df), ds[j]? = some e → CalF P w K mg base (A.deeper (envOfC d_6.x d_6.scope s.heap.objs.size f cdv)) cl j e.x e.ps.length) :
    JSs (cxOf CX0 P w K mg base d_6.N d_6.x d_6.scope f cdv A outer s H E0).nox prog.cs cl ww d_6.body fn_first_unlike.body :=
  ss_cons (s_asg (x_tup (xs_cn (x_call (n := 1) (C 3 d_3 rfl) rfl (xs_cn (x_nm (i := 0) rfl (.inl rfl)) (xs_nl))) (xs_cn (x_call (n := 1) (C 3 d_3 rfl) rfl (xs_cn (x_nm (i := 1) rfl (.inl rfl)) (xs_nl))) (xs_nl)))) (pg_tp rfl (pgs_cn (pg_tp rfl (pgs_cn (pg_nm (i := 2) d_6_S.nd rfl (.inl rfl) (.inl rfl)) (pgs_cn (pg_nm (i := 3) d_6_S.nd rfl (.inl rfl) (.inl rfl)) (pgs_nl) rfl) rfl) rfl rfl) (pgs_cn (pg_tp rfl (pgs_cn (pg_nm (i := 4) d_6_S.nd rfl (.inl rfl) (.inl rfl)) (pgs_cn (pg_nm (i := 5) d_6_S.nd rfl (.inl rfl) (.inl rfl)) (pgs_nl) rfl) rfl) rfl rfl) (pgs_nl) rfl) rfl) rfl rfl)) (ss_cons (s_for PassesOwn.never rfl (xi_rg1 g_range rfl (x_bop (o := .add) (x_biB (o := .max2) (cb_max2 rfl) rfl g_max rfl (xs_cn (x_nm (i := 2) rfl (.inl rfl)) (xs_cn (x_nm (i := 4) rfl (.inl rfl)) (xs_nl)))) (x_call (n := 2) (C 0 d_0 rfl) rfl (xs_cn (x_nm (i := 3) rfl (.inl rfl)) (xs_cn (x_nm (i := 5) rfl (.inl rfl)) (xs_nl)))))) (pg_nm (i := 6) d_6_S.nd rfl (.inl rfl) (.inl rfl)) (ss_cons (s_if (t_cmp (o := .ne) (lt65 h70) (x_call (n := 2) (C 1 d_1 rfl) rfl (xs_cn (x_nm (i := 0) rfl (.inl rfl)) (xs_cn (x_nm (i := 6) rfl (.inl rfl)) (xs_nl)))) (x_call (n := 2) (C 1 d_1 rfl) rfl (xs_cn (x_nm (i := 1) rfl (.inl rfl)) (xs_cn (x_nm (i := 6) rfl (.inl rfl)) (xs_nl))))) (ss_cons (s_ret (x_nm (i := 6) rfl (.inl rfl))) (ss_nil)) (ss_nil)) (ss_nil))) (ss_cons (s_ret (x_non)) (ss_nil)))
theorem b_7 (h70 : (A.deeper (envOfC d_7.x d_7.scope s.heap.objs.size f cdv)).units + 70 < cLine) (hgd : (A.deeper (envOfC d_7.x d_7.scope s.heap.objs.size f cdv)).guards = some []) (C : ∀ (j : Nat) (e : Df), ds[j]? = some e → CalF P w K mg base (A.deeper (envOfC d_7.x d_7.scope s.heap.objs.size f cdv)) cl j e.x e.ps.length) :
    JSs (cxOf CX0 P w K mg base d_7.N d_7.x d_7.scope f cdv A outer s H E0).nox prog.cs cl ww d_7.body fn_is_endless.body :=
  ss_cons (s_ret (x_cmp (o := .ne) (lt65 h70) (x_ix (lt1 h70) (x_call (n := 1) (C 5 d_5 rfl) rfl (xs_cn (x_nm (i := 0) rfl (.inl rfl)) (xs_nl))) (x_int) (by intro _ _; rfl)) (x_tup (xs_nl)))) (ss_nil)
theorem b_8 (h70 : (A.deeper (envOfC d_8.x d_8.scope s.heap.objs.size f cdv)).units + 70 < cLine) (hgd : (A.deeper (envOfC d_8.x d_8.scope s.heap.objs.size f cdv)).guards = some []) (C : ∀ (j : Nat) (e : Df), ds[j]? = some e → CalF P w K mg base (A.deeper (envOfC d_8.x d_8.scope s.heap.objs.size f cdv)) cl j e.x e.ps.length) :
    JSs (cxOf CX0 P w K mg base d_8.N d_8.x d_8.scope f cdv A outer s H E0).nox prog.cs cl ww d_8.body fn_calendar_of.body :=
  ss_cons (s_asg (x_nm (i := 0) rfl (.inl rfl)) (pg_tp rfl (pgs_cn (pg_nm (i := 1) d_8_S.nd rfl (.inl rfl) (.inl rfl)) (pgs_cn (pg_nm (i := 2) d_8_S.nd rfl (.inl rfl) (.inl rfl)) (pgs_cn (pg_nm (i := 3) d_8_S.nd rfl (.inl rfl) (.inl rfl)) (pgs_cn (pg_nm (i := 4) d_8_S.nd rfl (.inl rfl) (.inl rfl)) (pgs_nl) rfl) rfl) rfl) rfl) rfl rfl)) (ss_cons (s_set (i := 5) d_8_S.nd rfl (.inl rfl) (x_tup (xs_cn (x_str) (xs_cn (x_nm (i := 1) rfl (.inl rfl)) (xs_nl))))) (ss_cons (s_for PassesOwn.never rfl (xi_sq (x_nm (i := 4) rfl (.inl rfl))) (pg_nm (i := 6) d_8_S.nd rfl (.inl rfl) (.inl rfl)) (ss_cons (s_set (i := 5) d_8_S.nd rfl (.inl rfl) (x_tup (xs_cn (x_str) (xs_cn (x_nm (i := 5) rfl (.inl rfl)) (xs_cn (x_tup (xs_cn (x_str) (xs_cn (x_nm (i := 3) rfl (.inl rfl)) (xs_cn (x_bop (o := .add) (x_nm (i := 2) rfl (.inl rfl)) (x_nm (i := 6) rfl (.inl rfl))) (xs_cn (x_non) (xs_nl)))))) (xs_nl)))))) (ss_nil))) (ss_cons (s_ret (x_nm (i := 5) rfl (.inl rfl))) (ss_nil))))
include g_abs in
include g_int in
theorem b_9 (h70 : (A.deeper (envOfC d_9.x d_9.scope s.heap.objs.size f cdv)).units + 70 < cLine) (hgd : (A.deeper (envOfC d_9.x d_9.scope s.heap.objs.size f cdv)).guards = some []) (C : ∀ (j : Nat) (e : Df), ds[j]? = some e → CalF P w K mg base (A.deeper (envOfC d_9.x d_9.scope s.heap.objs.size f cdv)) cl j e.x e.ps.length) :
    JSs (cxOf CX0 P w K mg base d_9.N d_9.x d_9.scope f cdv A outer s H E0).nox prog.cs cl ww d_9.body fn_law_open_cells.body :=
  ss_cons (s_set (i := 1) d_9_S.nd rfl (.inl rfl) (x_int)) (ss_cons (s_for PassesOwn.never rfl (xi_sq (x_nm (i := 0) rfl (.inl rfl))) (pg_nm (i := 2) d_9_S.nd rfl (.inl rfl) (.inl rfl)) (ss_cons (s_set (i := 1) d_9_S.nd rfl (.inl rfl) (x_bop (o := .mod) (x_biT (o := .int) (cb_int) rfl g_int rfl (xs_cn (x_bop (o := .add) (x_bop (o := .add) (x_bop (o := .mul) (x_nm (i := 1) rfl (.inl rfl)) (x_int)) (x_bop (o := .mul) (x_nm (i := 2) rfl (.inl rfl)) (x_int))) (x_int)) (xs_nl))) (x_int))) (ss_nil))) (ss_cons (s_lcD (s_lcT (own := [("_law_cell", 2)]) rfl d_9_S.nd rfl rfl (by rfl) (blkOk_by (by rfl)) (by decide) (xi_sq (x_nm (i := 0) rfl (.inl rfl))) (fun _ _ _ _ _ => pg_nm (i := 2) d_9_S.nd rfl (.inl rfl) (.inr rfl)) (fun _ _ _ _ _ => xc_no) (fun _ _ _ _ _ => x_biB (o := .abs) (cb_abs) rfl g_abs rfl (xs_cn (x_nm (i := 2) rfl (.inl rfl)) (xs_nl))))) (ss_cons (s_ret (x_st (xa_dic (xd_cons (x_str) (x_st (xa_rv (x_nm (i := 3) rfl (.inl rfl)))) (xd_cons (x_str) (x_int) (xd_cons (x_str) (x_nm (i := 1) rfl (.inl rfl)) (xd_cons (x_str) (x_int) (xd_nil)))))))) (ss_nil))))
include g_int in
include g_len in
theorem b_10 (h70 : (A.deeper (envOfC d_10.x d_10.scope s.heap.objs.size f cdv)).units + 70 < cLine) (hgd : (A.deeper (envOfC d_10.x d_10.scope s.heap.objs.size f cdv)).guards = some []) (C : ∀ (j : Nat) (e : Df), ds[j]? = some e → CalF P w K mg base (A.deeper (envOfC d_10.x d_10.scope s.heap.objs.size f cdv)) cl j e.x e.ps.length) :
    JSs (cxOf CX0 P w K mg base d_10.N d_10.x d_10.scope f cdv A outer s H E0).nox prog.cs cl ww d_10.body fn_law_pick.body :=
  ss_cons (s_if (t_cmp (o := .lt) (lt65 h70) (x_nm (i := 1) rfl (.inl rfl)) (x_int)) (ss_cons (s_ret (x_int)) (ss_nil)) (ss_nil)) (ss_cons (s_set (i := 2) d_10_S.nd rfl (.inl rfl) (x_ix (lt1 h70) (x_nm (i := 0) rfl (.inl rfl)) (x_str) (by intro _ _; rfl))) (ss_cons (s_whl PassesOwn.never (L2.PW.pt (t_and (t_cmp (o := .lt) (lt65 h70) (x_ix (lt1 h70) (x_nm (i := 0) rfl (.inl rfl)) (x_str) (by intro _ _; rfl)) (x_int)) (t_and1 (t_cmp (o := .gt) (lt65 h70) (x_biB (o := .len) (cb_len) rfl g_len rfl (xs_cn (x_nm (i := 2) rfl (.inl rfl)) (xs_nl))) (x_int))))) (ss_cons (s_setx (lt1 h70) (x_pop0 (x_nm (i := 2) rfl (.inl rfl))) (x_nm (i := 0) rfl (.inl rfl)) (x_str)) (ss_nil))) (ss_cons (s_set (i := 3) d_10_S.nd rfl (.inl rfl) (x_ix (lt1 h70) (x_nm (i := 0) rfl (.inl rfl)) (x_str) (by intro _ _; rfl))) (ss_cons (s_if (t_cmp (o := .gt) (lt65 h70) (x_nm (i := 3) rfl (.inl rfl)) (x_int)) (ss_cons (s_setx (lt1 h70) (x_bop (o := .fdiv) (x_nm (i := 3) rfl (.inl rfl)) (x_nm (i := 1) rfl (.inl rfl))) (x_nm (i := 0) rfl (.inl rfl)) (x_str)) (ss_cons (s_ret (x_bop (o := .mod) (x_biT (o := .int) (cb_int) rfl g_int rfl (xs_cn (x_nm (i := 3) rfl (.inl rfl)) (xs_nl))) (x_nm (i := 1) rfl (.inl rfl)))) (ss_nil))) (ss_nil)) (ss_cons (s_setx (lt1 h70) (x_bop (o := .add) (x_ix (lt1 h70) (x_nm (i := 0) rfl (.inl rfl)) (x_str) (by intro _ _; rfl)) (x_int)) (x_nm (i := 0) rfl (.inl rfl)) (x_str)) (ss_cons (s_set (i := 4) d_10_S.nd rfl (.inl rfl) (x_ix (lt1 h70) (x_nm (i := 0) rfl (.inl rfl)) (x_str) (by intro _ _; rfl))) (ss_cons (s_set (i := 5) d_10_S.nd rfl (.inl rfl) (x_bop (o := .mod) (x_biT (o := .int) (cb_int) rfl g_int rfl (xs_cn (x_bop (o := .add) (x_ix (lt1 h70) (x_nm (i := 0) rfl (.inl rfl)) (x_str) (by intro _ _; rfl)) (x_bop (o := .mul) (x_nm (i := 4) rfl (.inl rfl)) (x_int))) (xs_nl))) (x_int))) (ss_cons (s_set (i := 5) d_10_S.nd rfl (.inl rfl) (x_bop (o := .mod) (x_biT (o := .int) (cb_int) rfl g_int rfl (xs_cn (x_bop (o := .add) (x_bop (o := .mul) (x_nm (i := 5) rfl (.inl rfl)) (x_nm (i := 5) rfl (.inl rfl))) (x_bop (o := .mul) (x_nm (i := 4) rfl (.inl rfl)) (x_int))) (xs_nl))) (x_int))) (ss_cons (s_ret (x_bop (o := .mod) (x_biT (o := .int) (cb_int) rfl g_int rfl (xs_cn (x_bop (o := .fdiv) (x_nm (i := 5) rfl (.inl rfl)) (x_int)) (xs_nl))) (x_nm (i := 1) rfl (.inl rfl)))) (ss_nil))))))))))
include g_range in
include g_set in
include g_sorted in
include g_tuple in
theorem b_11 (h70 : (A.deeper (envOfC d_11.x d_11.scope s.heap.objs.size f cdv)).units + 70 < cLine) (hgd : (A.deeper (envOfC d_11.x d_11.scope s.heap.objs.size f cdv)).guards = some []) (C : ∀ (j : Nat) (e : Df), ds[j]? = some e → CalF P w K mg base (A.deeper (envOfC d_11.x d_11.scope s.heap.objs.size f cdv)) cl j e.x e.ps.length) :
    JSs (cxOf CX0 P w K mg base d_11.N d_11.x d_11.scope f cdv A outer s H E0).nox prog.cs cl ww d_11.body fn_law_draw_wide_calendar.body :=
  ss_cons (s_set (i := 2) d_11_S.nd rfl (.inl rfl) (x_call (n := 2) (C 10 d_10 rfl) rfl (xs_cn (x_nm (i := 0) rfl (.inr (.inl rfl))) (xs_cn (x_ite (t_cmp (o := .gt) (lt65 h70) (x_nm (i := 1) rfl (.inl rfl)) (x_int)) (x_int) (x_int)) (xs_nl))))) (ss_cons (s_if (t_cmp (o := .lt) (lt65 h70) (x_nm (i := 2) rfl (.inl rfl)) (x_int)) (ss_cons (s_set (i := 3) d_11_S.nd rfl (.inl rfl) (x_ix (lt1 h70) (x_al (xa_lst (xs_cn (x_non) (xs_cn (x_non) (xs_cn (x_call (n := 2) (C 10 d_10 rfl) rfl (xs_cn (x_nm (i := 0) rfl (.inr (.inl rfl))) (xs_cn (x_int) (xs_nl)))) (xs_nl)))))) (x_call (n := 2) (C 10 d_10 rfl) rfl (xs_cn (x_nm (i := 0) rfl (.inr (.inl rfl))) (xs_cn (x_int) (xs_nl)))) (by intro _ _; rfl))) (ss_cons (s_set (i := 4) d_11_S.nd rfl (.inl rfl) (x_ix (lt1 h70) (x_al (xa_lst (xs_cn (x_int) (xs_cn (x_int) (xs_cn (x_int) (xs_cn (x_int) (xs_cn (x_int) (xs_cn (x_int) (xs_cn (x_int) (xs_cn (x_int) (xs_cn (x_int) (xs_cn (x_int) (xs_cn (x_int) (xs_cn (x_int) (xs_cn (x_int) (xs_nl)))))))))))))))) (x_call (n := 2) (C 10 d_10 rfl) rfl (xs_cn (x_nm (i := 0) rfl (.inr (.inl rfl))) (xs_cn (x_int) (xs_nl)))) (by intro _ _; rfl))) (ss_cons (s_ret (x_tup (xs_cn (x_str) (xs_cn (x_nm (i := 4) rfl (.inl rfl)) (xs_cn (x_call (n := 2) (C 10 d_10 rfl) rfl (xs_cn (x_nm (i := 0) rfl (.inr (.inl rfl))) (xs_cn (x_int) (xs_nl)))) (xs_cn (x_nm (i := 3) rfl (.inl rfl)) (xs_nl))))))) (ss_nil)))) (ss_nil)) (ss_cons (s_if (t_cmp (o := .eq) (lt65 h70) (x_nm (i := 2) rfl (.inl rfl)) (x_int)) (ss_cons (s_ret (x_tup (xs_cn (x_str) (xs_cn (x_biT (o := .tuple) (cb_tuple) rfl g_tuple rfl (xs_cn (x_al (xa_sset h70 g_sorted g_set rfl rfl (x_al (xa_lc (own := [("_law_turn", 6)]) rfl d_11_S.nd (blkOk_by (by rfl)) (by decide) (xi_rg1 g_range rfl (x_call (n := 2) (C 10 d_10 rfl) rfl (xs_cn (x_nm (i := 0) rfl (.inr (.inl rfl))) (xs_cn (x_int) (xs_nl))))) (fun _ _ _ _ _ => pg_nm (i := 6) d_11_S.nd rfl (.inl rfl) (.inr rfl)) (fun _ _ _ _ _ => xc_no) (fun _ _ _ _ _ => x_call (n := 2) (C 10 d_10 rfl) rfl (xs_cn (x_nm (i := 0) rfl (.inr (.inl rfl))) (xs_cn (x_int) (xs_nl)))))))) (xs_nl))) (xs_nl))))) (ss_nil)) (ss_nil)) (ss_cons (s_set (i := 5) d_11_S.nd rfl (.inl rfl) (x_call (n := 2) (C 11 d_11 rfl) rfl (xs_cn (x_nm (i := 0) rfl (.inr (.inl rfl))) (xs_cn (x_bop (o := .sub) (x_nm (i := 1) rfl (.inl rfl)) (x_int)) (xs_nl))))) (ss_cons (s_if (t_cmp (o := .eq) (lt65 h70) (x_nm (i := 2) rfl (.inl rfl)) (x_int)) (ss_cons (s_ret (x_tup (xs_cn (x_str) (xs_cn (x_nm (i := 5) rfl (.inl rfl)) (xs_cn (x_call (n := 2) (C 10 d_10 rfl) rfl (xs_cn (x_nm (i := 0) rfl (.inr (.inl rfl))) (xs_cn (x_int) (xs_nl)))) (xs_nl)))))) (ss_nil)) (ss_nil)) (ss_cons (s_ret (x_tup (xs_cn (x_ix (lt1 h70) (x_al (xa_lst (xs_cn (x_str) (xs_cn (x_str) (xs_cn (x_str) (xs_nl)))))) (x_bop (o := .sub) (x_nm (i := 2) rfl (.inl rfl)) (x_int)) (by intro _ _; rfl)) (xs_cn (x_nm (i := 5) rfl (.inl rfl)) (xs_cn (x_call (n := 2) (C 11 d_11 rfl) rfl (xs_cn (x_nm (i := 0) rfl (.inr (.inl rfl))) (xs_cn (x_bop (o := .sub) (x_nm (i := 1) rfl (.inl rfl)) (x_int)) (xs_nl)))) (xs_nl)))))) (ss_nil))))))
include g_int in
theorem b_12 (h70 : (A.deeper (envOfC d_12.x d_12.scope s.heap.objs.size f cdv)).units + 70 < cLine) (hgd : (A.deeper (envOfC d_12.x d_12.scope s.heap.objs.size f cdv)).guards = some []) (C : ∀ (j : Nat) (e : Df), ds[j]? = some e → CalF P w K mg base (A.deeper (envOfC d_12.x d_12.scope s.heap.objs.size f cdv)) cl j e.x e.ps.length) :
    JSs (cxOf CX0 P w K mg base d_12.N d_12.x d_12.scope f cdv A outer s H E0).nox prog.cs cl ww d_12.body fn_law_has.body :=
  ss_cons (s_set (i := 2) d_12_S.nd rfl (.inl rfl) (x_ix (lt1 h70) (x_nm (i := 0) rfl (.inl rfl)) (x_int) (by intro _ _; rfl))) (ss_cons (s_if (t_cmp (o := .eq) (lt65 h70) (x_nm (i := 2) rfl (.inl rfl)) (x_str)) (ss_cons (s_asg (x_sl (x_nm (i := 0) rfl (.inl rfl)) (xp_so (x_int)) (xp_no)) (pg_tp rfl (pgs_cn (pg_nm (i := 3) d_12_S.nd rfl (.inl rfl) (.inl rfl)) (pgs_cn (pg_nm (i := 4) d_12_S.nd rfl (.inl rfl) (.inl rfl)) (pgs_cn (pg_nm (i := 5) d_12_S.nd rfl (.inl rfl) (.inl rfl)) (pgs_nl) rfl) rfl) rfl) rfl rfl)) (ss_cons (s_ret (x_and (x_cmp (o := .ge) (lt65 h70) (x_nm (i := 1) rfl (.inl rfl)) (x_nm (i := 4) rfl (.inl rfl))) (x_and (x_cmp (o := .eq) (lt65 h70) (x_bop (o := .mod) (x_biT (o := .int) (cb_int) rfl g_int rfl (xs_cn (x_bop (o := .sub) (x_nm (i := 1) rfl (.inl rfl)) (x_nm (i := 4) rfl (.inl rfl))) (xs_nl))) (x_nm (i := 3) rfl (.inl rfl))) (x_int)) (x_one (x_or (x_cmp (o := .is) (lt65 h70) (x_nm (i := 5) rfl (.inl rfl)) (x_non)) (x_one (x_cmp (o := .le) (lt65 h70) (x_nm (i := 1) rfl (.inl rfl)) (x_nm (i := 5) rfl (.inl rfl))))))))) (ss_nil))) (ss_nil)) (ss_cons (s_if (t_cmp (o := .eq) (lt65 h70) (x_nm (i := 2) rfl (.inl rfl)) (x_str)) (ss_cons (s_ret (x_cmp (o := .in_) (lt65 h70) (x_nm (i := 1) rfl (.inl rfl)) (x_ix (lt1 h70) (x_nm (i := 0) rfl (.inl rfl)) (x_int) (by intro _ _; rfl)))) (ss_nil)) (ss_nil)) (ss_cons (s_set (i := 6) d_12_S.nd rfl (.inl rfl) (x_call (n := 2) (C 12 d_12 rfl) rfl (xs_cn (x_ix (lt1 h70) (x_nm (i := 0) rfl (.inl rfl)) (x_int) (by intro _ _; rfl)) (xs_cn (x_ite (t_cmp (o := .eq) (lt65 h70) (x_nm (i := 2) rfl (.inl rfl)) (x_str)) (x_bop (o := .sub) (x_nm (i := 1) rfl (.inl rfl)) (x_ix (lt1 h70) (x_nm (i := 0) rfl (.inl rfl)) (x_int) (by intro _ _; rfl))) (x_nm (i := 1) rfl (.inl rfl))) (xs_nl))))) (ss_cons (s_if (t_cmp (o := .eq) (lt65 h70) (x_nm (i := 2) rfl (.inl rfl)) (x_str)) (ss_cons (s_ret (x_nm (i := 6) rfl (.inl rfl))) (ss_nil)) (ss_nil)) (ss_cons (s_set (i := 7) d_12_S.nd rfl (.inl rfl) (x_call (n := 2) (C 12 d_12 rfl) rfl (xs_cn (x_ix (lt1 h70) (x_nm (i := 0) rfl (.inl rfl)) (x_int) (by intro _ _; rfl)) (xs_cn (x_nm (i := 1) rfl (.inl rfl)) (xs_nl))))) (ss_cons (s_ret (x_ite (t_cmp (o := .eq) (lt65 h70) (x_nm (i := 2) rfl (.inl rfl)) (x_str)) (x_or (x_nm (i := 6) rfl (.inl rfl)) (x_one (x_nm (i := 7) rfl (.inl rfl)))) (x_ite (t_cmp (o := .eq) (lt65 h70) (x_nm (i := 2) rfl (.inl rfl)) (x_str)) (x_and (x_nm (i := 6) rfl (.inl rfl)) (x_one (x_nm (i := 7) rfl (.inl rfl)))) (x_and (x_nm (i := 6) rfl (.inl rfl)) (x_one (x_not (x_nm (i := 7) rfl (.inl rfl)))))))) (ss_nil)))))))
include g_max in
theorem b_13 (h70 : (A.deeper (envOfC d_13.x d_13.scope s.heap.objs.size f cdv)).units + 70 < cLine) (hgd : (A.deeper (envOfC d_13.x d_13.scope s.heap.objs.size f cdv)).guards = some []) (C : ∀ (j : Nat) (e : Df), ds[j]? = some e → CalF P w K mg base (A.deeper (envOfC d_13.x d_13.scope s.heap.objs.size f cdv)) cl j e.x e.ps.length) :
    JSs (cxOf CX0 P w K mg base d_13.N d_13.x d_13.scope f cdv A outer s H E0).nox prog.cs cl ww d_13.body fn_law_tail.body :=
  ss_cons (s_if (t_cmp (o := .eq) (lt65 h70) (x_ix (lt1 h70) (x_nm (i := 0) rfl (.inl rfl)) (x_int) (by intro _ _; rfl)) (x_str)) (ss_cons (s_ret (x_ite (t_cmp (o := .is) (lt65 h70) (x_ix (lt1 h70) (x_nm (i := 0) rfl (.inl rfl)) (x_int) (by intro _ _; rfl)) (x_non)) (x_ix (lt1 h70) (x_nm (i := 0) rfl (.inl rfl)) (x_int) (by intro _ _; rfl)) (x_bop (o := .add) (x_ix (lt1 h70) (x_nm (i := 0) rfl (.inl rfl)) (x_int) (by intro _ _; rfl)) (x_int)))) (ss_nil)) (ss_nil)) (ss_cons (s_if (t_cmp (o := .eq) (lt65 h70) (x_ix (lt1 h70) (x_nm (i := 0) rfl (.inl rfl)) (x_int) (by intro _ _; rfl)) (x_str)) (ss_cons (s_ret (x_bop (o := .add) (x_biB (o := .max1) (cb_max1 rfl (lt65 h70)) rfl g_max rfl (xs_cn (x_bop (o := .add) (x_tup (xs_cn (x_bop (o := .sub) (x_int) (x_int)) (xs_nl))) (x_ix (lt1 h70) (x_nm (i := 0) rfl (.inl rfl)) (x_int) (by intro _ _; rfl))) (xs_nl))) (x_int))) (ss_nil)) (ss_nil)) (ss_cons (s_if (t_cmp (o := .eq) (lt65 h70) (x_ix (lt1 h70) (x_nm (i := 0) rfl (.inl rfl)) (x_int) (by intro _ _; rfl)) (x_str)) (ss_cons (s_ret (x_bop (o := .add) (x_call (n := 1) (C 13 d_13 rfl) rfl (xs_cn (x_ix (lt1 h70) (x_nm (i := 0) rfl (.inl rfl)) (x_int) (by intro _ _; rfl)) (xs_nl))) (x_ix (lt1 h70) (x_nm (i := 0) rfl (.inl rfl)) (x_int) (by intro _ _; rfl)))) (ss_nil)) (ss_nil)) (ss_cons (s_ret (x_biB (o := .max2) (cb_max2 rfl) rfl g_max rfl (xs_cn (x_call (n := 1) (C 13 d_13 rfl) rfl (xs_cn (x_ix (lt1 h70) (x_nm (i := 0) rfl (.inl rfl)) (x_int) (by intro _ _; rfl)) (xs_nl))) (xs_cn (x_call (n := 1) (C 13 d_13 rfl) rfl (xs_cn (x_ix (lt1 h70) (x_nm (i := 0) rfl (.inl rfl)) (x_int) (by intro _ _; rfl)) (xs_nl))) (xs_nl))))) (ss_nil))))
include g_int in
include g_range in
include g_tuple in
theorem b_14 (h70 : (A.deeper (envOfC d_14.x d_14.scope s.heap.objs.size f cdv)).units + 70 < cLine) (hgd : (A.deeper (envOfC d_14.x d_14.scope s.heap.objs.size f cdv)).guards = some []) (C : ∀ (j : Nat) (e : Df), ds[j]? = some e → CalF P w K mg base (A.deeper (envOfC d_14.x d_14.scope s.heap.objs.size f cdv)) cl j e.x e.ps.length) :
    JSs (cxOf CX0 P w K mg base d_14.N d_14.x d_14.scope f cdv A outer s H E0).nox prog.cs cl ww d_14.body fn_law_plain.body :=
  ss_cons (s_set (i := 1) d_14_S.nd rfl (.inr rfl) (x_call (n := 1) (C 13 d_13 rfl) rfl (xs_cn (x_nm (i := 0) rfl (.inr (.inl rfl))) (xs_nl)))) (ss_cons (s_set (i := 2) d_14_S.nd rfl (.inr rfl) (x_al (xa_lc (own := [("_law_time", 7)]) rfl d_14_S.nd (blkOk_by (by rfl)) (by decide) (xi_rg1 g_range rfl (x_bop (o := .add) (x_nm (i := 1) rfl (.inr (.inl rfl))) (x_int))) (fun _ _ _ _ _ => pg_nm (i := 7) d_14_S.nd rfl (.inl rfl) (.inr rfl)) (fun _ _ _ _ _ => xc_no) (fun _ _ _ _ _ => x_call (n := 2) (C 12 d_12 rfl) rfl (xs_cn (x_nm (i := 0) rfl (.inr (.inl rfl))) (xs_cn (x_nm (i := 7) rfl (.inl rfl)) (xs_nl))))))) (ss_cons (s_set (i := 3) d_14_S.nd rfl (.inr rfl) (x_sl (x_nm (i := 2) rfl (.inr (.inl rfl))) (xp_so (x_nm (i := 1) rfl (.inr (.inl rfl)))) (xp_so (x_bop (o := .add) (x_nm (i := 1) rfl (.inr (.inl rfl))) (x_int))))) (ss_cons (s_set (i := 4) d_14_S.nd rfl (.inr rfl) (x_ix (lt1 h70) (x_al (xa_lc (own := [("_law_q", 4)]) rfl d_14_S.nd (blkOk_by (by rfl)) (by decide) (xi_rg2 g_range rfl (x_int) (x_int)) (fun _ _ _ _ _ => pg_nm (i := 4) d_14_S.nd rfl (.inl rfl) (.inr rfl)) (fun _ _ _ _ _ => xc_so (L2.PW.pt (t_and (t_cmp (o := .eq) (lt65 h70) (x_bop (o := .mod) (x_biT (o := .int) (cb_int) rfl g_int rfl (xs_cn (x_int) (xs_nl))) (x_nm (i := 4) rfl (.inl rfl))) (x_int)) (t_and1 (t_cmp (o := .eq) (lt65 h70) (x_nm (i := 3) rfl (.inr (.inl rfl))) (x_sl (x_nm (i := 2) rfl (.inr (.inl rfl))) (xp_so (x_bop (o := .add) (x_nm (i := 1) rfl (.inr (.inl rfl))) (x_nm (i := 4) rfl (.inl rfl)))) (xp_so (x_bop (o := .add) (x_bop (o := .add) (x_nm (i := 1) rfl (.inr (.inl rfl))) (x_nm (i := 4) rfl (.inl rfl))) (x_int))))))))) (fun _ _ _ _ _ => x_nm (i := 4) rfl (.inl rfl)))) (x_int) (by intro _ _; rfl))) (ss_cons (s_set (i := 5) d_14_S.nd rfl (.inr rfl) (x_ix (lt1 h70) (x_al (xa_lc (own := [("_law_k", 8)]) rfl d_14_S.nd (blkOk_by (by rfl)) (by decide) (xi_rg1 g_range rfl (x_bop (o := .add) (x_nm (i := 1) rfl (.inr (.inl rfl))) (x_int))) (fun _ _ _ _ _ => pg_nm (i := 8) d_14_S.nd rfl (.inl rfl) (.inr rfl)) (fun _ _ _ _ _ => xc_so (t_cmp (o := .eq) (lt65 h70) (x_sl (x_nm (i := 2) rfl (.inr (.inl rfl))) (xp_so (x_nm (i := 8) rfl (.inl rfl))) (xp_so (x_nm (i := 1) rfl (.inr (.inl rfl))))) (x_sl (x_nm (i := 2) rfl (.inr (.inl rfl))) (xp_so (x_bop (o := .add) (x_nm (i := 8) rfl (.inl rfl)) (x_nm (i := 4) rfl (.inr (.inl rfl))))) (xp_so (x_bop (o := .add) (x_nm (i := 1) rfl (.inr (.inl rfl))) (x_nm (i := 4) rfl (.inr (.inl rfl)))))))) (fun _ _ _ _ _ => x_nm (i := 8) rfl (.inl rfl)))) (x_int) (by intro _ _; rfl))) (ss_cons (s_set (i := 6) d_14_S.nd rfl (.inl rfl) (x_biT (o := .tuple) (cb_tuple) rfl g_tuple rfl (xs_cn (x_al (xa_lc (own := [("_law_k", 8)]) rfl d_14_S.nd (blkOk_by (by rfl)) (by decide) (xi_rg1 g_range rfl (x_nm (i := 4) rfl (.inr (.inl rfl)))) (fun _ _ _ _ _ => pg_nm (i := 8) d_14_S.nd rfl (.inl rfl) (.inr rfl)) (fun _ _ _ _ _ => xc_so (t_ix (x_ix (lt1 h70) (x_nm (i := 2) rfl (.inr (.inl rfl))) (x_bop (o := .add) (x_nm (i := 5) rfl (.inr (.inl rfl))) (x_nm (i := 8) rfl (.inl rfl))) (by intro _ _; rfl)))) (fun _ _ _ _ _ => x_nm (i := 8) rfl (.inl rfl)))) (xs_nl)))) (ss_cons (s_ret (x_tup (xs_cn (x_biT (o := .tuple) (cb_tuple) rfl g_tuple rfl (xs_cn (x_al (xa_lc (own := [("_law_k", 8)]) rfl d_14_S.nd (blkOk_by (by rfl)) (by decide) (xi_rg1 g_range rfl (x_nm (i := 5) rfl (.inr (.inl rfl)))) (fun _ _ _ _ _ => pg_nm (i := 8) d_14_S.nd rfl (.inl rfl) (.inr rfl)) (fun _ _ _ _ _ => xc_so (t_ix (x_ix (lt1 h70) (x_nm (i := 2) rfl (.inr (.inl rfl))) (x_nm (i := 8) rfl (.inl rfl)) (by intro _ _; rfl)))) (fun _ _ _ _ _ => x_nm (i := 8) rfl (.inl rfl)))) (xs_nl))) (xs_cn (x_nm (i := 5) rfl (.inr (.inl rfl))) (xs_cn (x_nm (i := 4) rfl (.inr (.inl rfl))) (xs_cn (x_nm (i := 6) rfl (.inl rfl)) (xs_nl))))))) (ss_nil)))))))
theorem b_15 (h70 : (A.deeper (envOfC d_15.x d_15.scope s.heap.objs.size f cdv)).units + 70 < cLine) (hgd : (A.deeper (envOfC d_15.x d_15.scope s.heap.objs.size f cdv)).guards = some []) (C : ∀ (j : Nat) (e : Df), ds[j]? = some e → CalF P w K mg base (A.deeper (envOfC d_15.x d_15.scope s.heap.objs.size f cdv)) cl j e.x e.ps.length) :
    JSs (cxOf CX0 P w K mg base d_15.N d_15.x d_15.scope f cdv A outer s H E0).nox prog.cs cl ww d_15.body fn_law_otherwise.body :=
  ss_cons (s_set (i := 4) d_15_S.nd rfl (.inl rfl) (x_call (n := 2) (C 10 d_10 rfl) rfl (xs_cn (x_nm (i := 0) rfl (.inl rfl)) (xs_cn (x_int) (xs_nl))))) (ss_cons (s_set (i := 5) d_15_S.nd rfl (.inl rfl) (x_bop (o := .add) (x_int) (x_call (n := 2) (C 10 d_10 rfl) rfl (xs_cn (x_nm (i := 0) rfl (.inl rfl)) (xs_cn (x_int) (xs_nl)))))) (ss_cons (s_if (t_cmp (o := .eq) (lt65 h70) (x_nm (i := 4) rfl (.inl rfl)) (x_int)) (ss_cons (s_ret (x_tup (xs_cn (x_tup (xs_cn (x_str) (xs_cn (x_nm (i := 1) rfl (.inl rfl)) (xs_cn (x_nm (i := 2) rfl (.inl rfl)) (xs_nl))))) (xs_cn (x_tup (xs_cn (x_str) (xs_cn (x_nm (i := 2) rfl (.inl rfl)) (xs_cn (x_nm (i := 1) rfl (.inl rfl)) (xs_nl))))) (xs_nl))))) (ss_nil)) (ss_nil)) (ss_cons (s_if (t_cmp (o := .eq) (lt65 h70) (x_nm (i := 4) rfl (.inl rfl)) (x_int)) (ss_cons (s_ret (x_tup (xs_cn (x_tup (xs_cn (x_str) (xs_cn (x_nm (i := 1) rfl (.inl rfl)) (xs_cn (x_tup (xs_cn (x_str) (xs_cn (x_nm (i := 2) rfl (.inl rfl)) (xs_cn (x_nm (i := 3) rfl (.inl rfl)) (xs_nl))))) (xs_nl))))) (xs_cn (x_tup (xs_cn (x_str) (xs_cn (x_tup (xs_cn (x_str) (xs_cn (x_nm (i := 1) rfl (.inl rfl)) (xs_cn (x_nm (i := 2) rfl (.inl rfl)) (xs_nl))))) (xs_cn (x_tup (xs_cn (x_str) (xs_cn (x_nm (i := 1) rfl (.inl rfl)) (xs_cn (x_nm (i := 3) rfl (.inl rfl)) (xs_nl))))) (xs_nl))))) (xs_nl))))) (ss_nil)) (ss_nil)) (ss_cons (s_if (t_cmp (o := .eq) (lt65 h70) (x_nm (i := 4) rfl (.inl rfl)) (x_int)) (ss_cons (s_ret (x_tup (xs_cn (x_tup (xs_cn (x_str) (xs_cn (x_nm (i := 1) rfl (.inl rfl)) (xs_cn (x_tup (xs_cn (x_str) (xs_cn (x_nm (i := 2) rfl (.inl rfl)) (xs_cn (x_nm (i := 3) rfl (.inl rfl)) (xs_nl))))) (xs_nl))))) (xs_cn (x_tup (xs_cn (x_str) (xs_cn (x_tup (xs_cn (x_str) (xs_cn (x_nm (i := 1) rfl (.inl rfl)) (xs_cn (x_nm (i := 2) rfl (.inl rfl)) (xs_nl))))) (xs_cn (x_nm (i := 3) rfl (.inl rfl)) (xs_nl))))) (xs_nl))))) (ss_nil)) (ss_nil)) (ss_cons (s_if (t_cmp (o := .eq) (lt65 h70) (x_nm (i := 4) rfl (.inl rfl)) (x_int)) (ss_cons (s_ret (x_tup (xs_cn (x_tup (xs_cn (x_str) (xs_cn (x_nm (i := 1) rfl (.inl rfl)) (xs_cn (x_tup (xs_cn (x_str) (xs_cn (x_nm (i := 1) rfl (.inl rfl)) (xs_cn (x_nm (i := 2) rfl (.inl rfl)) (xs_nl))))) (xs_nl))))) (xs_cn (x_tup (xs_cn (x_str) (xs_cn (x_nm (i := 1) rfl (.inl rfl)) (xs_cn (x_nm (i := 2) rfl (.inl rfl)) (xs_nl))))) (xs_nl))))) (ss_nil)) (ss_nil)) (ss_cons (s_if (t_cmp (o := .eq) (lt65 h70) (x_nm (i := 4) rfl (.inl rfl)) (x_int)) (ss_cons (s_ret (x_tup (xs_cn (x_tup (xs_cn (x_str) (xs_cn (x_tup (xs_cn (x_str) (xs_cn (x_nm (i := 1) rfl (.inl rfl)) (xs_cn (x_nm (i := 2) rfl (.inl rfl)) (xs_nl))))) (xs_cn (x_nm (i := 5) rfl (.inl rfl)) (xs_nl))))) (xs_cn (x_tup (xs_cn (x_str) (xs_cn (x_tup (xs_cn (x_str) (xs_cn (x_nm (i := 1) rfl (.inl rfl)) (xs_cn (x_nm (i := 5) rfl (.inl rfl)) (xs_nl))))) (xs_cn (x_tup (xs_cn (x_str) (xs_cn (x_nm (i := 2) rfl (.inl rfl)) (xs_cn (x_nm (i := 5) rfl (.inl rfl)) (xs_nl))))) (xs_nl))))) (xs_nl))))) (ss_nil)) (ss_nil)) (ss_cons (s_if (t_cmp (o := .eq) (lt65 h70) (x_nm (i := 4) rfl (.inl rfl)) (x_int)) (ss_cons (s_ret (x_tup (xs_cn (x_tup (xs_cn (x_str) (xs_cn (x_tup (xs_cn (x_str) (xs_cn (x_nm (i := 1) rfl (.inl rfl)) (xs_cn (x_nm (i := 5) rfl (.inl rfl)) (xs_nl))))) (xs_cn (x_int) (xs_nl))))) (xs_cn (x_tup (xs_cn (x_str) (xs_cn (x_nm (i := 1) rfl (.inl rfl)) (xs_cn (x_bop (o := .add) (x_nm (i := 5) rfl (.inl rfl)) (x_int)) (xs_nl))))) (xs_nl))))) (ss_nil)) (ss_nil)) (ss_cons (s_if (t_cmp (o := .eq) (lt65 h70) (x_nm (i := 4) rfl (.inl rfl)) (x_int)) (ss_cons (s_ret (x_tup (xs_cn (x_tup (xs_cn (x_str) (xs_cn (x_tup (xs_cn (x_str) (xs_cn (x_nm (i := 1) rfl (.inl rfl)) (xs_cn (x_nm (i := 2) rfl (.inl rfl)) (xs_nl))))) (xs_cn (x_tup (xs_cn (x_str) (xs_cn (x_nm (i := 1) rfl (.inl rfl)) (xs_cn (x_nm (i := 2) rfl (.inl rfl)) (xs_nl))))) (xs_nl))))) (xs_cn (x_nm (i := 1) rfl (.inl rfl)) (xs_nl))))) (ss_nil)) (ss_nil)) (ss_cons (s_if (t_cmp (o := .eq) (lt65 h70) (x_nm (i := 4) rfl (.inl rfl)) (x_int)) (ss_cons (s_par (i := 6) (j := 7) rfl d_15_S.nd rfl rfl (by decide) rfl rfl (xs_cn (x_bop (o := .add) (x_int) (x_call (n := 2) (C 10 d_10 rfl) rfl (xs_cn (x_nm (i := 0) rfl (.inl rfl)) (xs_cn (x_int) (xs_nl))))) (xs_cn (x_call (n := 2) (C 10 d_10 rfl) rfl (xs_cn (x_nm (i := 0) rfl (.inl rfl)) (xs_cn (x_int) (xs_nl)))) (xs_nl))) (by rfl)) (ss_cons (s_ret (x_tup (xs_cn (x_tup (xs_cn (x_str) (xs_cn (x_nm (i := 6) rfl (.inl rfl)) (xs_cn (x_nm (i := 7) rfl (.inl rfl)) (xs_cn (x_non) (xs_nl)))))) (xs_cn (x_tup (xs_cn (x_str) (xs_cn (x_tup (xs_cn (x_str) (xs_cn (x_bop (o := .mul) (x_int) (x_nm (i := 6) rfl (.inl rfl))) (xs_cn (x_nm (i := 7) rfl (.inl rfl)) (xs_cn (x_non) (xs_nl)))))) (xs_cn (x_tup (xs_cn (x_str) (xs_cn (x_bop (o := .mul) (x_int) (x_nm (i := 6) rfl (.inl rfl))) (xs_cn (x_bop (o := .add) (x_nm (i := 7) rfl (.inl rfl)) (x_nm (i := 6) rfl (.inl rfl))) (xs_cn (x_non) (xs_nl)))))) (xs_nl))))) (xs_nl))))) (ss_nil))) (ss_nil)) (ss_cons (s_ret (x_tup (xs_cn (x_tup (xs_cn (x_str) (xs_cn (x_nm (i := 1) rfl (.inl rfl)) (xs_cn (x_tup (xs_cn (x_str) (xs_cn (x_nm (i := 1) rfl (.inl rfl)) (xs_cn (x_nm (i := 2) rfl (.inl rfl)) (xs_nl))))) (xs_nl))))) (xs_cn (x_tup (xs_cn (x_str) (xs_cn (x_nm (i := 1) rfl (.inl rfl)) (xs_cn (x_tup (xs_cn (x_str) (xs_cn (x_nm (i := 1) rfl (.inl rfl)) (xs_cn (x_nm (i := 2) rfl (.inl rfl)) (xs_nl))))) (xs_nl))))) (xs_nl))))) (ss_nil)))))))))))
include g_len in
include g_range in
theorem b_16 (h70 : (A.deeper (envOfC d_16.x d_16.scope s.heap.objs.size f cdv)).units + 70 < cLine) (hgd : (A.deeper (envOfC d_16.x d_16.scope s.heap.objs.size f cdv)).guards = some []) (C : ∀ (j : Nat) (e : Df), ds[j]? = some e → CalF P w K mg base (A.deeper (envOfC d_16.x d_16.scope s.heap.objs.size f cdv)) cl j e.x e.ps.length) :
    JSs (cxOf CX0 P w K mg base d_16.N d_16.x d_16.scope f cdv A outer s H E0).nox prog.cs cl ww d_16.body fn_law.body :=
  ss_cons (s_set (i := 1) d_16_S.nd rfl (.inr rfl) (x_call (n := 1) (C 9 d_9 rfl) rfl (xs_cn (x_nm (i := 0) rfl (.inl rfl)) (xs_nl)))) (ss_cons (s_for PassesOwn.never rfl (xi_rg1 g_range rfl (x_int)) (pg_nm (i := 2) d_16_S.nd rfl (.inl rfl) (.inl rfl)) (ss_cons (s_lcD (s_lcT (own := [("_law_turn", 17)]) rfl d_16_S.nd rfl rfl (by rfl) (blkOk_by (by rfl)) (by decide) (xi_rg1 g_range rfl (x_int)) (fun _ _ _ _ _ => pg_nm (i := 17) d_16_S.nd rfl (.inl rfl) (.inr rfl)) (fun _ _ _ _ _ => xc_no) (fun _ _ _ _ _ => x_call (n := 2) (C 11 d_11 rfl) rfl (xs_cn (x_nm (i := 1) rfl (.inr (.inl rfl))) (xs_cn (x_int) (xs_nl)))))) (ss_cons (s_asg (x_call (n := 4) (C 15 d_15 rfl) rfl (xs_cn (x_nm (i := 1) rfl (.inr (.inl rfl))) (xs_cn (x_ix (lt1 h70) (x_nm (i := 3) rfl (.inl rfl)) (x_int) (by intro _ _; rfl)) (xs_cn (x_ix (lt1 h70) (x_nm (i := 3) rfl (.inl rfl)) (x_int) (by intro _ _; rfl)) (xs_cn (x_ix (lt1 h70) (x_nm (i := 3) rfl (.inl rfl)) (x_int) (by intro _ _; rfl)) (xs_nl)))))) (pg_tp rfl (pgs_cn (pg_nm (i := 4) d_16_S.nd rfl (.inl rfl) (.inl rfl)) (pgs_cn (pg_nm (i := 5) d_16_S.nd rfl (.inl rfl) (.inl rfl)) (pgs_nl) rfl) rfl) rfl rfl)) (ss_cons (s_if (L2.PW.pt (t_or (t_cmp (o := .ne) (lt65 h70) (x_call (n := 1) (C 5 d_5 rfl) rfl (xs_cn (x_nm (i := 4) rfl (.inl rfl)) (xs_nl))) (x_call (n := 1) (C 14 d_14 rfl) rfl (xs_cn (x_nm (i := 4) rfl (.inl rfl)) (xs_nl)))) (t_or1 (t_cmp (o := .ne) (lt65 h70) (x_call (n := 1) (C 5 d_5 rfl) rfl (xs_cn (x_nm (i := 5) rfl (.inl rfl)) (xs_nl))) (x_call (n := 1) (C 5 d_5 rfl) rfl (xs_cn (x_nm (i := 4) rfl (.inl rfl)) (xs_nl))))))) (ss_cons (s_ret (x_bl)) (ss_nil)) (ss_nil)) (ss_cons (s_if (t_cmp (o := .isn) (lt65 h70) (x_call (n := 2) (C 6 d_6 rfl) rfl (xs_cn (x_nm (i := 4) rfl (.inl rfl)) (xs_cn (x_nm (i := 5) rfl (.inl rfl)) (xs_nl)))) (x_non)) (ss_cons (s_ret (x_bl)) (ss_nil)) (ss_nil)) (ss_cons (s_asg (x_call (n := 1) (C 14 d_14 rfl) rfl (xs_cn (x_nm (i := 4) rfl (.inl rfl)) (xs_nl))) (pg_tp rfl (pgs_cn (pg_nm (i := 6) d_16_S.nd rfl (.inl rfl) (.inl rfl)) (pgs_cn (pg_nm (i := 7) d_16_S.nd rfl (.inl rfl) (.inl rfl)) (pgs_cn (pg_nm (i := 8) d_16_S.nd rfl (.inl rfl) (.inl rfl)) (pgs_cn (pg_nm (i := 9) d_16_S.nd rfl (.inl rfl) (.inl rfl)) (pgs_nl) rfl) rfl) rfl) rfl) rfl rfl)) (ss_cons (s_set (i := 10) d_16_S.nd rfl (.inl rfl) (x_and (x_cmp (o := .le) (lt65 h70) (x_biB (o := .len) (cb_len) rfl g_len rfl (xs_cn (x_nm (i := 6) rfl (.inl rfl)) (xs_nl))) (x_int)) (x_one (x_cmp (o := .le) (lt65 h70) (x_bop (o := .mul) (x_biB (o := .len) (cb_len) rfl g_len rfl (xs_cn (x_nm (i := 9) rfl (.inl rfl)) (xs_nl))) (x_nm (i := 8) rfl (.inl rfl))) (x_int))))) (ss_cons (s_if (L2.PW.pt (t_and (t_nm (x_nm (i := 10) rfl (.inl rfl))) (t_and1 (t_cmp (o := .isn) (lt65 h70) (x_call (n := 2) (C 6 d_6 rfl) rfl (xs_cn (x_call (n := 1) (C 8 d_8 rfl) rfl (xs_cn (x_tup (xs_cn (x_nm (i := 6) rfl (.inl rfl)) (xs_cn (x_nm (i := 7) rfl (.inl rfl)) (xs_cn (x_nm (i := 8) rfl (.inl rfl)) (xs_cn (x_nm (i := 9) rfl (.inl rfl)) (xs_nl)))))) (xs_nl))) (xs_cn (x_nm (i := 5) rfl (.inl rfl)) (xs_nl)))) (x_non))))) (ss_cons (s_ret (x_bl)) (ss_nil)) (ss_nil)) (ss_cons (s_set (i := 11) d_16_S.nd rfl (.inl rfl) (x_al (xa_lst (xs_cn (x_tup (xs_cn (x_ix (lt1 h70) (x_nm (i := 3) rfl (.inl rfl)) (x_int) (by intro _ _; rfl)) (xs_cn (x_ix (lt1 h70) (x_nm (i := 3) rfl (.inl rfl)) (x_int) (by intro _ _; rfl)) (xs_nl)))) (xs_cn (x_tup (xs_cn (x_nm (i := 4) rfl (.inl rfl)) (xs_cn (x_ix (lt1 h70) (x_nm (i := 3) rfl (.inl rfl)) (x_int) (by intro _ _; rfl)) (xs_nl)))) (xs_cn (x_tup (xs_cn (x_ix (lt1 h70) (x_nm (i := 3) rfl (.inl rfl)) (x_int) (by intro _ _; rfl)) (xs_cn (x_tup (xs_cn (x_str) (xs_cn (x_ix (lt1 h70) (x_nm (i := 3) rfl (.inl rfl)) (x_int) (by intro _ _; rfl)) (xs_cn (x_tup (xs_cn (x_str) (xs_cn (x_tup (xs_cn (x_int) (xs_nl))) (xs_nl)))) (xs_nl))))) (xs_nl)))) (xs_nl))))))) (ss_cons (s_for PassesOwn.never rfl (xi_sq (x_nm (i := 11) rfl (.inl rfl))) (pg_tp rfl (pgs_cn (pg_nm (i := 12) d_16_S.nd rfl (.inl rfl) (.inl rfl)) (pgs_cn (pg_nm (i := 13) d_16_S.nd rfl (.inl rfl) (.inl rfl)) (pgs_nl) rfl) rfl) rfl rfl) (ss_cons (s_par (i := 14) (j := 15) rfl d_16_S.nd rfl rfl (by decide) rfl rfl (xs_cn (x_call (n := 1) (C 14 d_14 rfl) rfl (xs_cn (x_nm (i := 12) rfl (.inl rfl)) (xs_nl))) (xs_cn (x_call (n := 1) (C 14 d_14 rfl) rfl (xs_cn (x_nm (i := 13) rfl (.inl rfl)) (xs_nl))) (xs_nl))) (by rfl)) (ss_cons (s_set (i := 16) d_16_S.nd rfl (.inl rfl) (x_call (n := 2) (C 6 d_6 rfl) rfl (xs_cn (x_nm (i := 12) rfl (.inl rfl)) (xs_cn (x_nm (i := 13) rfl (.inl rfl)) (xs_nl))))) (ss_cons (s_if (L2.PW.pt (t_or (t_cmp (o := .ne) (lt65 h70) (x_call (n := 1) (C 5 d_5 rfl) rfl (xs_cn (x_nm (i := 12) rfl (.inl rfl)) (xs_nl))) (x_nm (i := 14) rfl (.inl rfl))) (t_or (t_cmp (o := .ne) (lt65 h70) (x_call (n := 1) (C 5 d_5 rfl) rfl (xs_cn (x_nm (i := 13) rfl (.inl rfl)) (xs_nl))) (x_nm (i := 15) rfl (.inl rfl))) (t_or1 (t_cmp (o := .ne) (lt65 h70) (x_cmp (o := .is) (lt65 h70) (x_nm (i := 16) rfl (.inl rfl)) (x_non)) (x_cmp (o := .eq) (lt65 h70) (x_nm (i := 14) rfl (.inl rfl)) (x_nm (i := 15) rfl (.inl rfl)))))))) (ss_cons (s_ret (x_bl)) (ss_nil)) (ss_nil)) (ss_cons (s_if (L2.PW.pt (t_and (t_cmp (o := .isn) (lt65 h70) (x_nm (i := 16) rfl (.inl rfl)) (x_non)) (t_and1 (t_cmp (o := .eq) (lt65 h70) (x_call (n := 2) (C 1 d_1 rfl) rfl (xs_cn (x_nm (i := 12) rfl (.inl rfl)) (xs_cn (x_nm (i := 16) rfl (.inl rfl)) (xs_nl)))) (x_call (n := 2) (C 1 d_1 rfl) rfl (xs_cn (x_nm (i := 13) rfl (.inl rfl)) (xs_cn (x_nm (i := 16) rfl (.inl rfl)) (xs_nl)))))))) (ss_cons (s_ret (x_bl)) (ss_nil)) (ss_nil)) (ss_cons (s_if (L2.PW.pt (t_and (t_cmp (o := .isn) (lt65 h70) (x_nm (i := 16) rfl (.inl rfl)) (x_non)) (t_and1 (t_cmp (o := .eq) (lt65 h70) (x_call (n := 2) (C 12 d_12 rfl) rfl (xs_cn (x_nm (i := 12) rfl (.inl rfl)) (xs_cn (x_nm (i := 16) rfl (.inl rfl)) (xs_nl)))) (x_call (n := 2) (C 12 d_12 rfl) rfl (xs_cn (x_nm (i := 13) rfl (.inl rfl)) (xs_cn (x_nm (i := 16) rfl (.inl rfl)) (xs_nl)))))))) (ss_cons (s_ret (x_bl)) (ss_nil)) (ss_nil)) (ss_cons (s_if (L2.PW.pt (t_and (t_cmp (o := .isn) (lt65 h70) (x_nm (i := 16) rfl (.inl rfl)) (x_non)) (t_and1 (t_cmp (o := .ne) (lt65 h70) (x_call (n := 3) (C 2 d_2 rfl) rfl (xs_cn (x_nm (i := 12) rfl (.inl rfl)) (xs_cn (x_int) (xs_cn (x_nm (i := 16) rfl (.inl rfl)) (xs_nl))))) (x_call (n := 3) (C 2 d_2 rfl) rfl (xs_cn (x_nm (i := 13) rfl (.inl rfl)) (xs_cn (x_int) (xs_cn (x_nm (i := 16) rfl (.inl rfl)) (xs_nl))))))))) (ss_cons (s_ret (x_bl)) (ss_nil)) (ss_nil)) (ss_cons (s_if (L2.PW.pt (t_or (t_cmp (o := .ne) (lt65 h70) (x_call (n := 1) (C 7 d_7 rfl) rfl (xs_cn (x_nm (i := 12) rfl (.inl rfl)) (xs_nl))) (x_cmp (o := .ne) (lt65 h70) (x_ix (lt1 h70) (x_nm (i := 14) rfl (.inl rfl)) (x_int) (by intro _ _; rfl)) (x_tup (xs_nl)))) (t_or1 (t_cmp (o := .ne) (lt65 h70) (x_call (n := 1) (C 4 d_4 rfl) rfl (xs_cn (x_nm (i := 12) rfl (.inl rfl)) (xs_nl))) (x_sl (x_nm (i := 14) rfl (.inl rfl)) (xp_so (x_int)) (xp_so (x_int))))))) (ss_cons (s_ret (x_bl)) (ss_nil)) (ss_nil)) (ss_nil))))))))) (ss_nil))))))))))) (ss_cons (s_ret (x_bl)) (ss_nil)))
include g_abs in
include g_int in
include g_len in
include g_max in
include g_min in
include g_range in
include g_set in
include g_sorted in
include g_tuple in
theorem lv (h0 : ∀ (i : Nat) d, ds[i]? = some d → d.Is K mg) : ∀ k, Lv ds prog P w K mg base ww k := by
  refine lv_all h0 fun k i d hd => ?_
  match i, hd with
  | 0, hd =>
    cases hd
    exact ⟨d_0_S, fn_least_multiple, rfl, rfl, rfl, fun f cdv A outer s H hr C => b_0  (u70 hr) hr.gd C⟩
  | 1, hd =>
    cases hd
    exact ⟨d_1_S, fn_has_time, rfl, rfl, rfl, fun f cdv A outer s H hr C => b_1  (u70 hr) hr.gd C⟩
  | 2, hd =>
    cases hd
    exact ⟨d_2_S, fn_times_in, rfl, rfl, rfl, fun f cdv A outer s H hr C => b_2 g_range g_tuple (u70 hr) hr.gd C⟩
  | 3, hd =>
    cases hd
    exact ⟨d_3_S, fn_tail_of, rfl, rfl, rfl, fun f cdv A outer s H hr C => b_3 g_max (u70 hr) hr.gd C⟩
  | 4, hd =>
    cases hd
    exact ⟨d_4_S, fn_repeats, rfl, rfl, rfl, fun f cdv A outer s H hr C => b_4 g_min g_range (u70 hr) hr.gd C⟩
  | 5, hd =>
    cases hd
    exact ⟨d_5_S, fn_plain_calendar, rfl, rfl, rfl, fun f cdv A outer s H hr C => b_5 g_tuple (u70 hr) hr.gd C⟩
  | 6, hd =>
    cases hd
    exact ⟨d_6_S, fn_first_unlike, rfl, rfl, rfl, fun f cdv A outer s H hr C => b_6 g_max g_range (u70 hr) hr.gd C⟩
  | 7, hd =>
    cases hd
    exact ⟨d_7_S, fn_is_endless, rfl, rfl, rfl, fun f cdv A outer s H hr C => b_7  (u70 hr) hr.gd C⟩
  | 8, hd =>
    cases hd
    exact ⟨d_8_S, fn_calendar_of, rfl, rfl, rfl, fun f cdv A outer s H hr C => b_8  (u70 hr) hr.gd C⟩
  | 9, hd =>
    cases hd
    exact ⟨d_9_S, fn_law_open_cells, rfl, rfl, rfl, fun f cdv A outer s H hr C => b_9 g_abs g_int (u70 hr) hr.gd C⟩
  | 10, hd =>
    cases hd
    exact ⟨d_10_S, fn_law_pick, rfl, rfl, rfl, fun f cdv A outer s H hr C => b_10 g_int g_len (u70 hr) hr.gd C⟩
  | 11, hd =>
    cases hd
    exact ⟨d_11_S, fn_law_draw_wide_calendar, rfl, rfl, rfl, fun f cdv A outer s H hr C => b_11 g_range g_set g_sorted g_tuple (u70 hr) hr.gd C⟩
  | 12, hd =>
    cases hd
    exact ⟨d_12_S, fn_law_has, rfl, rfl, rfl, fun f cdv A outer s H hr C => b_12 g_int (u70 hr) hr.gd C⟩
  | 13, hd =>
    cases hd
    exact ⟨d_13_S, fn_law_tail, rfl, rfl, rfl, fun f cdv A outer s H hr C => b_13 g_max (u70 hr) hr.gd C⟩
  | 14, hd =>
    cases hd
    exact ⟨d_14_S, fn_law_plain, rfl, rfl, rfl, fun f cdv A outer s H hr C => b_14 g_int g_range g_tuple (u70 hr) hr.gd C⟩
  | 15, hd =>
    cases hd
    exact ⟨d_15_S, fn_law_otherwise, rfl, rfl, rfl, fun f cdv A outer s H hr C => b_15  (u70 hr) hr.gd C⟩
  | 16, hd =>
    cases hd
    exact ⟨d_16_S, fn_law, rfl, rfl, rfl, fun f cdv A outer s H hr C => b_16 g_len g_range (u70 hr) hr.gd C⟩
  | n + 17, hd => cases hd
end
def h_0 : He.DefD := ⟨("least_multiple", none), "least_multiple", "least_multiple", defArgs t_0, defBody t_0, defScope t_0, [], []⟩
def h_1 : He.DefD := ⟨("has_time", none), "has_time", "has_time", defArgs t_1, defBody t_1, defScope t_1, [], []⟩
def h_2 : He.DefD := ⟨("times_in", none), "times_in", "times_in", defArgs t_2, defBody t_2, defScope t_2, [], []⟩
def h_3 : He.DefD := ⟨("tail_of", none), "tail_of", "tail_of", defArgs t_3, defBody t_3, defScope t_3, [], []⟩
def h_4 : He.DefD := ⟨("repeats", none), "repeats", "repeats", defArgs t_4, defBody t_4, defScope t_4, [], []⟩
def h_5 : He.DefD := ⟨("plain_calendar", none), "plain_calendar", "plain_calendar", defArgs t_5, defBody t_5, defScope t_5, [], []⟩
def h_6 : He.DefD := ⟨("first_unlike", none), "first_unlike", "first_unlike", defArgs t_6, defBody t_6, defScope t_6, [], []⟩
def h_7 : He.DefD := ⟨("is_endless", none), "is_endless", "is_endless", defArgs t_7, defBody t_7, defScope t_7, [], []⟩
def h_8 : He.DefD := ⟨("calendar_of", none), "calendar_of", "calendar_of", defArgs t_8, defBody t_8, defScope t_8, [], []⟩
def h_9 : He.DefD := ⟨("_law_open_cells", none), "_law_open_cells", "_law_open_cells", defArgs t_9, defBody t_9, defScope t_9, [], []⟩
def h_10 : He.DefD := ⟨("_law_pick", none), "_law_pick", "_law_pick", defArgs t_10, defBody t_10, defScope t_10, [], []⟩
def h_11 : He.DefD := ⟨("_law_draw_wide_calendar", none), "_law_draw_wide_calendar", "_law_draw_wide_calendar", defArgs t_11, defBody t_11, defScope t_11, [], []⟩
def h_12 : He.DefD := ⟨("_law_has", none), "_law_has", "_law_has", defArgs t_12, defBody t_12, defScope t_12, [], []⟩
def h_13 : He.DefD := ⟨("_law_tail", none), "_law_tail", "_law_tail", defArgs t_13, defBody t_13, defScope t_13, [], []⟩
def h_14 : He.DefD := ⟨("_law_plain", none), "_law_plain", "_law_plain", defArgs t_14, defBody t_14, defScope t_14, [], []⟩
def h_15 : He.DefD := ⟨("_law_otherwise", none), "_law_otherwise", "_law_otherwise", defArgs t_15, defBody t_15, defScope t_15, [], []⟩
def h_16 : He.DefD := ⟨("law", none), "law", "law", defArgs t_16, defBody t_16, defScope t_16, [], []⟩
def hfn : List He.DefD := [h_0, h_1, h_2, h_3, h_4, h_5, h_6, h_7, h_8, h_9, h_10, h_11, h_12, h_13, h_14, h_15, h_16]
def hfa : List He.Fa := [.glo "least_multiple", .glo "has_time", .glo "times_in", .glo "tail_of", .glo "repeats", .glo "plain_calendar", .glo "first_unlike", .glo "is_endless", .glo "calendar_of", .glo "_law_open_cells", .glo "_law_pick", .glo "_law_draw_wide_calendar", .glo "_law_has", .glo "_law_tail", .glo "_law_plain", .glo "_law_otherwise", .glo "law", .free "abs", .free "int", .free "len", .free "max", .free "min", .free "range", .free "set", .free "sorted", .free "tuple"]
abbrev R : PySem.W.OpenRow := PySem.W.OpenLaw.row PySem.Challenge.rw_effectonce_k52_whole_calendars_alike
abbrev hk : PySem.W.Hook := He.hookD 4 hfa hfn
def ob (s : PySem.W.SharedT) : He.AlD := He.obsDG 4 hfa hfn (HandSHeadRun.getT s)
theorem ob_eq (s : PySem.W.SharedT) : ob s = hk.obs s.abs := He.obsDG_eq (HandSHeadRun.getT_eq s)
theorem run (w : World) : HandSHeadRun.RunEq R (PySem.W.view R.prog [18]) hk ob 4000 ["least_multiple", "has_time", "times_in", "tail_of", "repeats", "plain_calendar", "first_unlike", "is_endless", "calendar_of", "_law_open_cells", "_law_pick", "_law_draw_wide_calendar", "_law_has", "_law_tail", "_law_plain", "_law_otherwise"] w := by
  intro os
  kernel_rfl
section
variable {w : World} {K : PySem.W.Frag} {h : Heap} {mg : Str → Option Value}
theorem isd (X : K.In h) (G : h.Ns mainGlobals mg) (c : He.SaysD hfa hfn K) : ∀ (i : Nat) d, ds[i]? = some d → d.Is K mg := by
  intro i d hd
  match i, hd with
  | 0, hd =>
    cases hd
    obtain ⟨fd, F⟩ := c.def_ 0 (d := h_0) rfl
    exact ⟨_, fd, F, He.glo_ok X G (c.fact 0 (f := .glo "least_multiple") rfl), FunD.bindsN F fun _ _ _ _ _ _ us hl => match us, hl with | [_, _], _ => rfl⟩
  | 1, hd =>
    cases hd
    obtain ⟨fd, F⟩ := c.def_ 1 (d := h_1) rfl
    exact ⟨_, fd, F, He.glo_ok X G (c.fact 1 (f := .glo "has_time") rfl), FunD.bindsN F fun _ _ _ _ _ _ us hl => match us, hl with | [_, _], _ => rfl⟩
  | 2, hd =>
    cases hd
    obtain ⟨fd, F⟩ := c.def_ 2 (d := h_2) rfl
    exact ⟨_, fd, F, He.glo_ok X G (c.fact 2 (f := .glo "times_in") rfl), FunD.bindsN F fun _ _ _ _ _ _ us hl => match us, hl with | [_, _, _], _ => rfl⟩
  | 3, hd =>
    cases hd
    obtain ⟨fd, F⟩ := c.def_ 3 (d := h_3) rfl
    exact ⟨_, fd, F, He.glo_ok X G (c.fact 3 (f := .glo "tail_of") rfl), FunD.bindsN F fun _ _ _ _ _ _ us hl => match us, hl with | [_], _ => rfl⟩
  | 4, hd =>
    cases hd
    obtain ⟨fd, F⟩ := c.def_ 4 (d := h_4) rfl
    exact ⟨_, fd, F, He.glo_ok X G (c.fact 4 (f := .glo "repeats") rfl), FunD.bindsN F fun _ _ _ _ _ _ us hl => match us, hl with | [_], _ => rfl⟩
  | 5, hd =>
    cases hd
    obtain ⟨fd, F⟩ := c.def_ 5 (d := h_5) rfl
    exact ⟨_, fd, F, He.glo_ok X G (c.fact 5 (f := .glo "plain_calendar") rfl), FunD.bindsN F fun _ _ _ _ _ _ us hl => match us, hl with | [_], _ => rfl⟩
  | 6, hd =>
    cases hd
    obtain ⟨fd, F⟩ := c.def_ 6 (d := h_6) rfl
    exact ⟨_, fd, F, He.glo_ok X G (c.fact 6 (f := .glo "first_unlike") rfl), FunD.bindsN F fun _ _ _ _ _ _ us hl => match us, hl with | [_, _], _ => rfl⟩
  | 7, hd =>
    cases hd
    obtain ⟨fd, F⟩ := c.def_ 7 (d := h_7) rfl
    exact ⟨_, fd, F, He.glo_ok X G (c.fact 7 (f := .glo "is_endless") rfl), FunD.bindsN F fun _ _ _ _ _ _ us hl => match us, hl with | [_], _ => rfl⟩
  | 8, hd =>
    cases hd
    obtain ⟨fd, F⟩ := c.def_ 8 (d := h_8) rfl
    exact ⟨_, fd, F, He.glo_ok X G (c.fact 8 (f := .glo "calendar_of") rfl), FunD.bindsN F fun _ _ _ _ _ _ us hl => match us, hl with | [_], _ => rfl⟩
  | 9, hd =>
    cases hd
    obtain ⟨fd, F⟩ := c.def_ 9 (d := h_9) rfl
    exact ⟨_, fd, F, He.glo_ok X G (c.fact 9 (f := .glo "_law_open_cells") rfl), FunD.bindsN F fun _ _ _ _ _ _ us hl => match us, hl with | [_], _ => rfl⟩
  | 10, hd =>
    cases hd
    obtain ⟨fd, F⟩ := c.def_ 10 (d := h_10) rfl
    exact ⟨_, fd, F, He.glo_ok X G (c.fact 10 (f := .glo "_law_pick") rfl), FunD.bindsN F fun _ _ _ _ _ _ us hl => match us, hl with | [_, _], _ => rfl⟩
  | 11, hd =>
    cases hd
    obtain ⟨fd, F⟩ := c.def_ 11 (d := h_11) rfl
    exact ⟨_, fd, F, He.glo_ok X G (c.fact 11 (f := .glo "_law_draw_wide_calendar") rfl), FunD.bindsN F fun _ _ _ _ _ _ us hl => match us, hl with | [_, _], _ => rfl⟩
  | 12, hd =>
    cases hd
    obtain ⟨fd, F⟩ := c.def_ 12 (d := h_12) rfl
    exact ⟨_, fd, F, He.glo_ok X G (c.fact 12 (f := .glo "_law_has") rfl), FunD.bindsN F fun _ _ _ _ _ _ us hl => match us, hl with | [_, _], _ => rfl⟩
  | 13, hd =>
    cases hd
    obtain ⟨fd, F⟩ := c.def_ 13 (d := h_13) rfl
    exact ⟨_, fd, F, He.glo_ok X G (c.fact 13 (f := .glo "_law_tail") rfl), FunD.bindsN F fun _ _ _ _ _ _ us hl => match us, hl with | [_], _ => rfl⟩
  | 14, hd =>
    cases hd
    obtain ⟨fd, F⟩ := c.def_ 14 (d := h_14) rfl
    exact ⟨_, fd, F, He.glo_ok X G (c.fact 14 (f := .glo "_law_plain") rfl), FunD.bindsN F fun _ _ _ _ _ _ us hl => match us, hl with | [_], _ => rfl⟩
  | 15, hd =>
    cases hd
    obtain ⟨fd, F⟩ := c.def_ 15 (d := h_15) rfl
    exact ⟨_, fd, F, He.glo_ok X G (c.fact 15 (f := .glo "_law_otherwise") rfl), FunD.bindsN F fun _ _ _ _ _ _ us hl => match us, hl with | [_, _, _, _], _ => rfl⟩
  | 16, hd =>
    cases hd
    obtain ⟨fd, F⟩ := c.def_ 16 (d := h_16) rfl
    exact ⟨_, fd, F, He.glo_ok X G (c.fact 16 (f := .glo "law") rfl), FunD.bindsN F fun _ _ _ _ _ _ us hl => match us, hl with | [_], _ => rfl⟩
  | n + 17, hd => cases hd
theorem fin {fa : Addr} (main : ∀ ns : List Int, ns.length ≤ 63 → (∀ z ∈ ns, Builtin.Int.intBits z ≤ 1048576) → ∃ ww st', evCall prog ww 60 16 [.k (ns.map .int)] [] = some (.d (.bool true), st'))
    (X : K.In h) (G : h.Ns mainGlobals mg) (hfa' : mg "law" = some (.ref fa)) (c : He.SaysD hfa hfn K) : ∃ (K : PySem.W.Frag) (fd : FuncData) (sp : Pm), K.In h ∧ (∀ (s : Shared) (u : Value), BindsTo s fd ⟨[u], []⟩ [("_law_script", u)]) ∧
        (∀ (H : Hp) (a : Addr) (ns : List Int), ns.length ≤ 63 → (∀ z ∈ ns, Builtin.Int.intBits z ≤ 1048576) → Only H → SqL K H a (ns.map V.int) → sp [.ref a] H (fun v _ => v = .bl true)) ∧
        ∀ base : Heap, K.In base → base.Ns mainGlobals mg → FnG R.prog w K mg base 60 fa fd ["_law_script"] sp := by
  obtain ⟨fd, F⟩ := c.def_ 16 (d := h_16) rfl
  have e := hfa'.symm.trans (He.glo_ok X G (c.fact 16 (f := .glo "law") rfl))
  cases e
  have b := FunD.bindsA (ps := ["_law_script"]) F fun _ _ _ _ _ _ us hl => match us, hl with | [_], _ => rfl
  refine ⟨K, fd, spL K prog 60 16, X, fun s v => b s [v] rfl, fun H a ns hl hb _ hS => start_sp hS (main ns hl hb), fun base _ _ => ?_⟩
  exact law_fnG (ds := ds) (d := d_16) rfl rfl F (He.glo_ok X G (c.fact 16 (f := .glo "law") rfl)) fun ww => lv (He.free_ok X G (c.fact 17 (f := .free "abs") rfl)) (He.free_ok X G (c.fact 18 (f := .free "int") rfl)) (He.free_ok X G (c.fact 19 (f := .free "len") rfl)) (He.free_ok X G (c.fact 20 (f := .free "max") rfl)) (He.free_ok X G (c.fact 21 (f := .free "min") rfl)) (He.free_ok X G (c.fact 22 (f := .free "range") rfl)) (He.free_ok X G (c.fact 23 (f := .free "set") rfl)) (He.free_ok X G (c.fact 24 (f := .free "sorted") rfl)) (He.free_ok X G (c.fact 25 (f := .free "tuple") rfl)) (isd X G c) 60
end
end K52

namespace K52
open PySem EV L2

theorem asg_d {i : Nat} {d : D} {env : Lo} : asgT (.nm i) (.d d) env = some (env.set i (.v (.d d))) := of_eq_true (eq_self _)
theorem asg_l {i n : Nat} {env : Lo} : asgT (.nm i) (.l n) env = some (env.set i (.v (.l n))) := of_eq_true (eq_self _)
theorem asgs_nil {env : Lo} : asgTs [] [] env = some env := of_eq_true (eq_self _)
theorem asgs_cons {t : T} {ts : List T} {x : X} {xs : List X} {env : Lo} : asgTs (t :: ts) (x :: xs) env = obd (asgT t x env) fun e => asgTs ts xs e := by
  rw [asgTs]
  cases asgT t x env <;> rfl
theorem asg_t {ts : List T} {ds : List D} {env : Lo} : asgT (.tup ts) (.d (.tuple ds)) env = asgTs ts (ds.map .d) env := of_eq_true (eq_self _)
theorem mapNm {i : Nat} {r : List Nat} : (i :: r).map T.nm = T.nm i :: r.map T.nm := of_eq_true (eq_self _)

inductive Cal where
  | every (p s : Int) (e : Option Int)
  | list (ts : List Int)
  | moved (c : Cal) (n : Int)
  | both (a b : Cal)
  | common (a b : Cal)
  | without (a b : Cal)
def optD : Option Int → D
  | none => .none
  | some i => .int i
def Cal.d : Cal → D
  | .every p s e => .tuple [.str "every", .int p, .int s, optD e]
  | .list ts => .tuple [.str "list", .tuple (ts.map .int)]
  | .moved c n => .tuple [.str "moved", c.d, .int n]
  | .both a b => .tuple [.str "both", a.d, b.d]
  | .common a b => .tuple [.str "common", a.d, b.d]
  | .without a b => .tuple [.str "without", a.d, b.d]
def leO (t : Int) : Option Int → Bool
  | none => true
  | some i => decide (t ≤ i)
def Cal.has : Cal → Int → Bool
  | .every p s e, t => decide (s ≤ t) && (decide ((t - s).fmod p = 0) && leO t e)
  | .list ts, t => decide (t ∈ ts)
  | .moved c n, t => c.has (t - n)
  | .both a b, t => a.has t || b.has t
  | .common a b, t => a.has t && b.has t
  | .without a b, t => a.has t && !b.has t
def Cal.ok : Cal → Prop
  | .every p _ _ => p ≠ 0
  | .list ts => ts.length ≤ 64
  | .moved c _ => c.ok
  | .both a b => a.ok ∧ b.ok
  | .common a b => a.ok ∧ b.ok
  | .without a b => a.ok ∧ b.ok
def Cal.ht : Cal → Nat
  | .every .. => 0
  | .list _ => 0
  | .moved c _ => c.ht + 1
  | .both a b => max a.ht b.ht + 1
  | .common a b => max a.ht b.ht + 1
  | .without a b => max a.ht b.ht + 1

theorem C_in {e : Lo} {s : Sto} {t : Int} {ts : List Int} : cmpX e s .in_ (.d (.int t)) (.d (.tuple (ts.map .int))) = some (decide (t ∈ ts)) := by
  have h : PyData.canLayAll0 (ts.map .int) = true := by
    induction ts with
    | nil => rfl
    | cons a r ih => simp [PyData.canLayAll0, PyData.canLay0, ih]
  have h2 : SeqAt.shaped (.int t) = true := by simp [SeqAt.shaped, PyData.canLay0, PyData.depth]
  show inD (.int t) (.tuple (ts.map .int)) = _
  simp only [inD, h, h2, Bool.and_self, if_true]
  congr 1
  clear h h2
  induction ts with
  | nil => simp
  | cons a r ih =>
    simp only [List.map_cons, List.any_cons, ih, PyData.eqv]
    by_cases q : a = t
    · simp [q]
    · have : ¬ t = a := fun z => q z.symm
      simp [q, this]
theorem C_isO {e : Lo} {s : Sto} {o : Option Int} : cmpX e s .is (.d (optD o)) (.d .none) = some o.isNone := by cases o <;> rfl

theorem has_spec (w : Nat) (st : Sto) : ∀ (c : Cal) (k : Nat) (t : Int), c.ok → c.ht < k → evCall prog w k i_has_time [.d c.d, .d (.int t)] st = some (.d (.bool (c.has t)), st)
  | _, 0, _, _, h => absurd h (Nat.not_lt_zero _)
  | .every p s e, k + 1, t, hp, h => by
    have hp' : p ≠ 0 := hp
    rw [call_eq (fn := fn_has_time) rfl rfl]
    cases e with
    | none => simp only [fn_has_time, Cal.d, Cal.has, optD, leO, E_nm, E_ct, E_gl, E_tup, E_bop, E_neg, E_not, E_and, E_or, E_cmp, E_chn, E_ite, E_ix, E_sl, E_call, E_bi, E_me, E_al, E_st, T_and, T_or, T_not, T_nm, T_cmp, T_chn, T_ix, T_call, T_bi,
 Es_nil, Es_cons, P_none, P_some, A_lst, A_ba, A_rv, A_dic, D_nil, D_cons, A_lc, C_none, C_some, I_sq, I_rg, I_zp, S_asg, S_par, S_ret, S_ifs, S_ex, S_for, S_retn, S_brk, S_cnt, S_pas, S_setx, Ss_nil, Ss_cons,
 bnd_some, obd_some, cnd_some, ifT_some, bnd_cond, ifT_cond, seq_nx, seq_rt, seq_bk, seq_ct, seq_cond, res_nx, res_rt, res_cond, slot_v, slot_own, cAnd, cOr, cAndT, cOrT, fixR_d, fixR_l,
 B_add, B_sub, C_lt, C_le, C_gt, C_ge, C_eqI, C_neI, C_eqS, C_neS, C_eqB, C_neB, C_isNN, C_isIN, C_isTN, C_isnNN, C_isnIN, R_b, R_i, X_t, X_l, at0, at1, at2, at3, tup1, tup2, tup3, tup4,
 biInt, biAbs, biMin2, biLenL, biLenT, biTupL, str_inj, asg_d, asg_l, asgs_nil, asgs_cons, mapNm,
 gz, gs, sz, ss, mc, mn, ac, an, rc, rz, om, Nat.sub_self, Nat.reduceSub, Nat.reduceAdd, reduceCtorEq, String.reduceEq, decide_true, decide_false, cond_true, cond_false, Bool.not_true, Bool.not_false, Bool.true_and, Bool.false_and, Bool.and_true, Bool.and_false, Bool.or_true, Bool.or_false, Bool.true_or, Bool.false_or, Bool.not_not, B_mod hp']
    | some i => simp only [fn_has_time, Cal.d, Cal.has, optD, leO, E_nm, E_ct, E_gl, E_tup, E_bop, E_neg, E_not, E_and, E_or, E_cmp, E_chn, E_ite, E_ix, E_sl, E_call, E_bi, E_me, E_al, E_st, T_and, T_or, T_not, T_nm, T_cmp, T_chn, T_ix, T_call, T_bi,
 Es_nil, Es_cons, P_none, P_some, A_lst, A_ba, A_rv, A_dic, D_nil, D_cons, A_lc, C_none, C_some, I_sq, I_rg, I_zp, S_asg, S_par, S_ret, S_ifs, S_ex, S_for, S_retn, S_brk, S_cnt, S_pas, S_setx, Ss_nil, Ss_cons,
 bnd_some, obd_some, cnd_some, ifT_some, bnd_cond, ifT_cond, seq_nx, seq_rt, seq_bk, seq_ct, seq_cond, res_nx, res_rt, res_cond, slot_v, slot_own, cAnd, cOr, cAndT, cOrT, fixR_d, fixR_l,
 B_add, B_sub, C_lt, C_le, C_gt, C_ge, C_eqI, C_neI, C_eqS, C_neS, C_eqB, C_neB, C_isNN, C_isIN, C_isTN, C_isnNN, C_isnIN, R_b, R_i, X_t, X_l, at0, at1, at2, at3, tup1, tup2, tup3, tup4,
 biInt, biAbs, biMin2, biLenL, biLenT, biTupL, str_inj, asg_d, asg_l, asgs_nil, asgs_cons, mapNm,
 gz, gs, sz, ss, mc, mn, ac, an, rc, rz, om, Nat.sub_self, Nat.reduceSub, Nat.reduceAdd, reduceCtorEq, String.reduceEq, decide_true, decide_false, cond_true, cond_false, Bool.not_true, Bool.not_false, Bool.true_and, Bool.false_and, Bool.and_true, Bool.and_false, Bool.or_true, Bool.or_false, Bool.true_or, Bool.false_or, Bool.not_not, B_mod hp']
  | .list ts, k + 1, t, hp, h => by
    rw [call_eq (fn := fn_has_time) rfl rfl]
    simp only [fn_has_time, Cal.d, Cal.has, E_nm, E_ct, E_gl, E_tup, E_bop, E_neg, E_not, E_and, E_or, E_cmp, E_chn, E_ite, E_ix, E_sl, E_call, E_bi, E_me, E_al, E_st, T_and, T_or, T_not, T_nm, T_cmp, T_chn, T_ix, T_call, T_bi,
 Es_nil, Es_cons, P_none, P_some, A_lst, A_ba, A_rv, A_dic, D_nil, D_cons, A_lc, C_none, C_some, I_sq, I_rg, I_zp, S_asg, S_par, S_ret, S_ifs, S_ex, S_for, S_retn, S_brk, S_cnt, S_pas, S_setx, Ss_nil, Ss_cons,
 bnd_some, obd_some, cnd_some, ifT_some, bnd_cond, ifT_cond, seq_nx, seq_rt, seq_bk, seq_ct, seq_cond, res_nx, res_rt, res_cond, slot_v, slot_own, cAnd, cOr, cAndT, cOrT, fixR_d, fixR_l,
 B_add, B_sub, C_lt, C_le, C_gt, C_ge, C_eqI, C_neI, C_eqS, C_neS, C_eqB, C_neB, C_isNN, C_isIN, C_isTN, C_isnNN, C_isnIN, R_b, R_i, X_t, X_l, at0, at1, at2, at3, tup1, tup2, tup3, tup4,
 biInt, biAbs, biMin2, biLenL, biLenT, biTupL, str_inj, asg_d, asg_l, asgs_nil, asgs_cons, mapNm,
 gz, gs, sz, ss, mc, mn, ac, an, rc, rz, om, Nat.sub_self, Nat.reduceSub, Nat.reduceAdd, reduceCtorEq, String.reduceEq, decide_true, decide_false, cond_true, cond_false, Bool.not_true, Bool.not_false, Bool.true_and, Bool.false_and, Bool.and_true, Bool.and_false, Bool.or_true, Bool.or_false, Bool.true_or, Bool.false_or, Bool.not_not, C_in]
  | .moved c n, k + 1, t, hp, h => by
    have h' : c.ht < k := by simp only [Cal.ht] at h; omega
    rw [call_eq (fn := fn_has_time) rfl rfl]
    simp only [fn_has_time, Cal.d, Cal.has, E_nm, E_ct, E_gl, E_tup, E_bop, E_neg, E_not, E_and, E_or, E_cmp, E_chn, E_ite, E_ix, E_sl, E_call, E_bi, E_me, E_al, E_st, T_and, T_or, T_not, T_nm, T_cmp, T_chn, T_ix, T_call, T_bi,
 Es_nil, Es_cons, P_none, P_some, A_lst, A_ba, A_rv, A_dic, D_nil, D_cons, A_lc, C_none, C_some, I_sq, I_rg, I_zp, S_asg, S_par, S_ret, S_ifs, S_ex, S_for, S_retn, S_brk, S_cnt, S_pas, S_setx, Ss_nil, Ss_cons,
 bnd_some, obd_some, cnd_some, ifT_some, bnd_cond, ifT_cond, seq_nx, seq_rt, seq_bk, seq_ct, seq_cond, res_nx, res_rt, res_cond, slot_v, slot_own, cAnd, cOr, cAndT, cOrT, fixR_d, fixR_l,
 B_add, B_sub, C_lt, C_le, C_gt, C_ge, C_eqI, C_neI, C_eqS, C_neS, C_eqB, C_neB, C_isNN, C_isIN, C_isTN, C_isnNN, C_isnIN, R_b, R_i, X_t, X_l, at0, at1, at2, at3, tup1, tup2, tup3, tup4,
 biInt, biAbs, biMin2, biLenL, biLenT, biTupL, str_inj, asg_d, asg_l, asgs_nil, asgs_cons, mapNm,
 gz, gs, sz, ss, mc, mn, ac, an, rc, rz, om, Nat.sub_self, Nat.reduceSub, Nat.reduceAdd, reduceCtorEq, String.reduceEq, decide_true, decide_false, cond_true, cond_false, Bool.not_true, Bool.not_false, Bool.true_and, Bool.false_and, Bool.and_true, Bool.and_false, Bool.or_true, Bool.or_false, Bool.true_or, Bool.false_or, Bool.not_not, callX_of (cl := evCall prog w k) (f := i_has_time) rfl (has_spec w st c k (t - n) hp h')]
  | .both a b, k + 1, t, hp, h => by
    have h1 : a.ht < k := by simp only [Cal.ht] at h; omega
    have h2 : b.ht < k := by simp only [Cal.ht] at h; omega
    rw [call_eq (fn := fn_has_time) rfl rfl]
    simp only [fn_has_time, Cal.d, Cal.has, E_nm, E_ct, E_gl, E_tup, E_bop, E_neg, E_not, E_and, E_or, E_cmp, E_chn, E_ite, E_ix, E_sl, E_call, E_bi, E_me, E_al, E_st, T_and, T_or, T_not, T_nm, T_cmp, T_chn, T_ix, T_call, T_bi,
 Es_nil, Es_cons, P_none, P_some, A_lst, A_ba, A_rv, A_dic, D_nil, D_cons, A_lc, C_none, C_some, I_sq, I_rg, I_zp, S_asg, S_par, S_ret, S_ifs, S_ex, S_for, S_retn, S_brk, S_cnt, S_pas, S_setx, Ss_nil, Ss_cons,
 bnd_some, obd_some, cnd_some, ifT_some, bnd_cond, ifT_cond, seq_nx, seq_rt, seq_bk, seq_ct, seq_cond, res_nx, res_rt, res_cond, slot_v, slot_own, cAnd, cOr, cAndT, cOrT, fixR_d, fixR_l,
 B_add, B_sub, C_lt, C_le, C_gt, C_ge, C_eqI, C_neI, C_eqS, C_neS, C_eqB, C_neB, C_isNN, C_isIN, C_isTN, C_isnNN, C_isnIN, R_b, R_i, X_t, X_l, at0, at1, at2, at3, tup1, tup2, tup3, tup4,
 biInt, biAbs, biMin2, biLenL, biLenT, biTupL, str_inj, asg_d, asg_l, asgs_nil, asgs_cons, mapNm,
 gz, gs, sz, ss, mc, mn, ac, an, rc, rz, om, Nat.sub_self, Nat.reduceSub, Nat.reduceAdd, reduceCtorEq, String.reduceEq, decide_true, decide_false, cond_true, cond_false, Bool.not_true, Bool.not_false, Bool.true_and, Bool.false_and, Bool.and_true, Bool.and_false, Bool.or_true, Bool.or_false, Bool.true_or, Bool.false_or, Bool.not_not, callX_of (cl := evCall prog w k) (f := i_has_time) rfl (has_spec w st a k t hp.1 h1), callX_of (cl := evCall prog w k) (f := i_has_time) rfl (has_spec w st b k t hp.2 h2)]
  | .common a b, k + 1, t, hp, h => by
    have h1 : a.ht < k := by simp only [Cal.ht] at h; omega
    have h2 : b.ht < k := by simp only [Cal.ht] at h; omega
    rw [call_eq (fn := fn_has_time) rfl rfl]
    simp only [fn_has_time, Cal.d, Cal.has, E_nm, E_ct, E_gl, E_tup, E_bop, E_neg, E_not, E_and, E_or, E_cmp, E_chn, E_ite, E_ix, E_sl, E_call, E_bi, E_me, E_al, E_st, T_and, T_or, T_not, T_nm, T_cmp, T_chn, T_ix, T_call, T_bi,
 Es_nil, Es_cons, P_none, P_some, A_lst, A_ba, A_rv, A_dic, D_nil, D_cons, A_lc, C_none, C_some, I_sq, I_rg, I_zp, S_asg, S_par, S_ret, S_ifs, S_ex, S_for, S_retn, S_brk, S_cnt, S_pas, S_setx, Ss_nil, Ss_cons,
 bnd_some, obd_some, cnd_some, ifT_some, bnd_cond, ifT_cond, seq_nx, seq_rt, seq_bk, seq_ct, seq_cond, res_nx, res_rt, res_cond, slot_v, slot_own, cAnd, cOr, cAndT, cOrT, fixR_d, fixR_l,
 B_add, B_sub, C_lt, C_le, C_gt, C_ge, C_eqI, C_neI, C_eqS, C_neS, C_eqB, C_neB, C_isNN, C_isIN, C_isTN, C_isnNN, C_isnIN, R_b, R_i, X_t, X_l, at0, at1, at2, at3, tup1, tup2, tup3, tup4,
 biInt, biAbs, biMin2, biLenL, biLenT, biTupL, str_inj, asg_d, asg_l, asgs_nil, asgs_cons, mapNm,
 gz, gs, sz, ss, mc, mn, ac, an, rc, rz, om, Nat.sub_self, Nat.reduceSub, Nat.reduceAdd, reduceCtorEq, String.reduceEq, decide_true, decide_false, cond_true, cond_false, Bool.not_true, Bool.not_false, Bool.true_and, Bool.false_and, Bool.and_true, Bool.and_false, Bool.or_true, Bool.or_false, Bool.true_or, Bool.false_or, Bool.not_not, callX_of (cl := evCall prog w k) (f := i_has_time) rfl (has_spec w st a k t hp.1 h1), callX_of (cl := evCall prog w k) (f := i_has_time) rfl (has_spec w st b k t hp.2 h2)]
  | .without a b, k + 1, t, hp, h => by
    have h1 : a.ht < k := by simp only [Cal.ht] at h; omega
    have h2 : b.ht < k := by simp only [Cal.ht] at h; omega
    rw [call_eq (fn := fn_has_time) rfl rfl]
    simp only [fn_has_time, Cal.d, Cal.has, E_nm, E_ct, E_gl, E_tup, E_bop, E_neg, E_not, E_and, E_or, E_cmp, E_chn, E_ite, E_ix, E_sl, E_call, E_bi, E_me, E_al, E_st, T_and, T_or, T_not, T_nm, T_cmp, T_chn, T_ix, T_call, T_bi,
 Es_nil, Es_cons, P_none, P_some, A_lst, A_ba, A_rv, A_dic, D_nil, D_cons, A_lc, C_none, C_some, I_sq, I_rg, I_zp, S_asg, S_par, S_ret, S_ifs, S_ex, S_for, S_retn, S_brk, S_cnt, S_pas, S_setx, Ss_nil, Ss_cons,
 bnd_some, obd_some, cnd_some, ifT_some, bnd_cond, ifT_cond, seq_nx, seq_rt, seq_bk, seq_ct, seq_cond, res_nx, res_rt, res_cond, slot_v, slot_own, cAnd, cOr, cAndT, cOrT, fixR_d, fixR_l,
 B_add, B_sub, C_lt, C_le, C_gt, C_ge, C_eqI, C_neI, C_eqS, C_neS, C_eqB, C_neB, C_isNN, C_isIN, C_isTN, C_isnNN, C_isnIN, R_b, R_i, X_t, X_l, at0, at1, at2, at3, tup1, tup2, tup3, tup4,
 biInt, biAbs, biMin2, biLenL, biLenT, biTupL, str_inj, asg_d, asg_l, asgs_nil, asgs_cons, mapNm,
 gz, gs, sz, ss, mc, mn, ac, an, rc, rz, om, Nat.sub_self, Nat.reduceSub, Nat.reduceAdd, reduceCtorEq, String.reduceEq, decide_true, decide_false, cond_true, cond_false, Bool.not_true, Bool.not_false, Bool.true_and, Bool.false_and, Bool.and_true, Bool.and_false, Bool.or_true, Bool.or_false, Bool.true_or, Bool.false_or, Bool.not_not, callX_of (cl := evCall prog w k) (f := i_has_time) rfl (has_spec w st a k t hp.1 h1), callX_of (cl := evCall prog w k) (f := i_has_time) rfl (has_spec w st b k t hp.2 h2)]
end K52

namespace K52
open PySem EV L2

theorem sl_from1 {e : Lo} {s : Sto} {a : D} {r : List D} : slX e s (.d (.tuple (a :: r))) (some 1) none = some (.tuple r) := by
  simp [slX, cutD, HT.sIx]
theorem lhas_spec (w : Nat) (st : Sto) : ∀ (c : Cal) (k : Nat) (t : Int), c.ok → c.ht < k → evCall prog w k i_law_has [.d c.d, .d (.int t)] st = some (.d (.bool (c.has t)), st)
  | _, 0, _, _, h => absurd h (Nat.not_lt_zero _)
  | .every p s e, k + 1, t, hp, h => by
    have hp' : p ≠ 0 := hp
    rw [call_eq (fn := fn_law_has) rfl rfl]
    cases e with
    | none => simp only [fn_law_has, Cal.d, Cal.has, optD, leO, E_nm, E_ct, E_gl, E_tup, E_bop, E_neg, E_not, E_and, E_or, E_cmp, E_chn, E_ite, E_ix, E_sl, E_call, E_bi, E_me, E_al, E_st, T_and, T_or, T_not, T_nm, T_cmp, T_chn, T_ix, T_call, T_bi,
 Es_nil, Es_cons, P_none, P_some, A_lst, A_ba, A_rv, A_dic, D_nil, D_cons, A_lc, C_none, C_some, I_sq, I_rg, I_zp, S_asg, S_par, S_ret, S_ifs, S_ex, S_for, S_retn, S_brk, S_cnt, S_pas, S_setx, Ss_nil, Ss_cons,
 bnd_some, obd_some, cnd_some, ifT_some, bnd_cond, ifT_cond, seq_nx, seq_rt, seq_bk, seq_ct, seq_cond, res_nx, res_rt, res_cond, slot_v, slot_own, cAnd, cOr, cAndT, cOrT, fixR_d, fixR_l,
 B_add, B_sub, C_lt, C_le, C_gt, C_ge, C_eqI, C_neI, C_eqS, C_neS, C_eqB, C_neB, C_isNN, C_isIN, C_isTN, C_isnNN, C_isnIN, R_b, R_i, X_t, X_l, at0, at1, at2, at3, tup1, tup2, tup3, tup4,
 biInt, biAbs, biMin2, biLenL, biLenT, biTupL, str_inj, asg_d, asg_l, asgs_nil, asgs_cons, mapNm,
 gz, gs, sz, ss, mc, mn, ac, an, rc, rz, om, Nat.sub_self, Nat.reduceSub, Nat.reduceAdd, reduceCtorEq, String.reduceEq, decide_true, decide_false, cond_true, cond_false, Bool.not_true, Bool.not_false, Bool.true_and, Bool.false_and, Bool.and_true, Bool.and_false, Bool.or_true, Bool.or_false, Bool.true_or, Bool.false_or, Bool.not_not, B_mod hp', sl_from1, asg_t]
    | some i => simp only [fn_law_has, Cal.d, Cal.has, optD, leO, E_nm, E_ct, E_gl, E_tup, E_bop, E_neg, E_not, E_and, E_or, E_cmp, E_chn, E_ite, E_ix, E_sl, E_call, E_bi, E_me, E_al, E_st, T_and, T_or, T_not, T_nm, T_cmp, T_chn, T_ix, T_call, T_bi,
 Es_nil, Es_cons, P_none, P_some, A_lst, A_ba, A_rv, A_dic, D_nil, D_cons, A_lc, C_none, C_some, I_sq, I_rg, I_zp, S_asg, S_par, S_ret, S_ifs, S_ex, S_for, S_retn, S_brk, S_cnt, S_pas, S_setx, Ss_nil, Ss_cons,
 bnd_some, obd_some, cnd_some, ifT_some, bnd_cond, ifT_cond, seq_nx, seq_rt, seq_bk, seq_ct, seq_cond, res_nx, res_rt, res_cond, slot_v, slot_own, cAnd, cOr, cAndT, cOrT, fixR_d, fixR_l,
 B_add, B_sub, C_lt, C_le, C_gt, C_ge, C_eqI, C_neI, C_eqS, C_neS, C_eqB, C_neB, C_isNN, C_isIN, C_isTN, C_isnNN, C_isnIN, R_b, R_i, X_t, X_l, at0, at1, at2, at3, tup1, tup2, tup3, tup4,
 biInt, biAbs, biMin2, biLenL, biLenT, biTupL, str_inj, asg_d, asg_l, asgs_nil, asgs_cons, mapNm,
 gz, gs, sz, ss, mc, mn, ac, an, rc, rz, om, Nat.sub_self, Nat.reduceSub, Nat.reduceAdd, reduceCtorEq, String.reduceEq, decide_true, decide_false, cond_true, cond_false, Bool.not_true, Bool.not_false, Bool.true_and, Bool.false_and, Bool.and_true, Bool.and_false, Bool.or_true, Bool.or_false, Bool.true_or, Bool.false_or, Bool.not_not, B_mod hp', sl_from1, asg_t]
  | .list ts, k + 1, t, hp, h => by
    rw [call_eq (fn := fn_law_has) rfl rfl]
    simp only [fn_law_has, Cal.d, Cal.has, E_nm, E_ct, E_gl, E_tup, E_bop, E_neg, E_not, E_and, E_or, E_cmp, E_chn, E_ite, E_ix, E_sl, E_call, E_bi, E_me, E_al, E_st, T_and, T_or, T_not, T_nm, T_cmp, T_chn, T_ix, T_call, T_bi,
 Es_nil, Es_cons, P_none, P_some, A_lst, A_ba, A_rv, A_dic, D_nil, D_cons, A_lc, C_none, C_some, I_sq, I_rg, I_zp, S_asg, S_par, S_ret, S_ifs, S_ex, S_for, S_retn, S_brk, S_cnt, S_pas, S_setx, Ss_nil, Ss_cons,
 bnd_some, obd_some, cnd_some, ifT_some, bnd_cond, ifT_cond, seq_nx, seq_rt, seq_bk, seq_ct, seq_cond, res_nx, res_rt, res_cond, slot_v, slot_own, cAnd, cOr, cAndT, cOrT, fixR_d, fixR_l,
 B_add, B_sub, C_lt, C_le, C_gt, C_ge, C_eqI, C_neI, C_eqS, C_neS, C_eqB, C_neB, C_isNN, C_isIN, C_isTN, C_isnNN, C_isnIN, R_b, R_i, X_t, X_l, at0, at1, at2, at3, tup1, tup2, tup3, tup4,
 biInt, biAbs, biMin2, biLenL, biLenT, biTupL, str_inj, asg_d, asg_l, asgs_nil, asgs_cons, mapNm,
 gz, gs, sz, ss, mc, mn, ac, an, rc, rz, om, Nat.sub_self, Nat.reduceSub, Nat.reduceAdd, reduceCtorEq, String.reduceEq, decide_true, decide_false, cond_true, cond_false, Bool.not_true, Bool.not_false, Bool.true_and, Bool.false_and, Bool.and_true, Bool.and_false, Bool.or_true, Bool.or_false, Bool.true_or, Bool.false_or, Bool.not_not, C_in]
  | .moved c n, k + 1, t, hp, h => by
    have h' : c.ht < k := by simp only [Cal.ht] at h; omega
    rw [call_eq (fn := fn_law_has) rfl rfl]
    simp only [fn_law_has, Cal.d, Cal.has, E_nm, E_ct, E_gl, E_tup, E_bop, E_neg, E_not, E_and, E_or, E_cmp, E_chn, E_ite, E_ix, E_sl, E_call, E_bi, E_me, E_al, E_st, T_and, T_or, T_not, T_nm, T_cmp, T_chn, T_ix, T_call, T_bi,
 Es_nil, Es_cons, P_none, P_some, A_lst, A_ba, A_rv, A_dic, D_nil, D_cons, A_lc, C_none, C_some, I_sq, I_rg, I_zp, S_asg, S_par, S_ret, S_ifs, S_ex, S_for, S_retn, S_brk, S_cnt, S_pas, S_setx, Ss_nil, Ss_cons,
 bnd_some, obd_some, cnd_some, ifT_some, bnd_cond, ifT_cond, seq_nx, seq_rt, seq_bk, seq_ct, seq_cond, res_nx, res_rt, res_cond, slot_v, slot_own, cAnd, cOr, cAndT, cOrT, fixR_d, fixR_l,
 B_add, B_sub, C_lt, C_le, C_gt, C_ge, C_eqI, C_neI, C_eqS, C_neS, C_eqB, C_neB, C_isNN, C_isIN, C_isTN, C_isnNN, C_isnIN, R_b, R_i, X_t, X_l, at0, at1, at2, at3, tup1, tup2, tup3, tup4,
 biInt, biAbs, biMin2, biLenL, biLenT, biTupL, str_inj, asg_d, asg_l, asgs_nil, asgs_cons, mapNm,
 gz, gs, sz, ss, mc, mn, ac, an, rc, rz, om, Nat.sub_self, Nat.reduceSub, Nat.reduceAdd, reduceCtorEq, String.reduceEq, decide_true, decide_false, cond_true, cond_false, Bool.not_true, Bool.not_false, Bool.true_and, Bool.false_and, Bool.and_true, Bool.and_false, Bool.or_true, Bool.or_false, Bool.true_or, Bool.false_or, Bool.not_not, callX_of (cl := evCall prog w k) (f := i_law_has) rfl (lhas_spec w st c k (t - n) hp h')]
  | .both a b, k + 1, t, hp, h => by
    have h1 : a.ht < k := by simp only [Cal.ht] at h; omega
    have h2 : b.ht < k := by simp only [Cal.ht] at h; omega
    rw [call_eq (fn := fn_law_has) rfl rfl]
    simp only [fn_law_has, Cal.d, Cal.has, E_nm, E_ct, E_gl, E_tup, E_bop, E_neg, E_not, E_and, E_or, E_cmp, E_chn, E_ite, E_ix, E_sl, E_call, E_bi, E_me, E_al, E_st, T_and, T_or, T_not, T_nm, T_cmp, T_chn, T_ix, T_call, T_bi,
 Es_nil, Es_cons, P_none, P_some, A_lst, A_ba, A_rv, A_dic, D_nil, D_cons, A_lc, C_none, C_some, I_sq, I_rg, I_zp, S_asg, S_par, S_ret, S_ifs, S_ex, S_for, S_retn, S_brk, S_cnt, S_pas, S_setx, Ss_nil, Ss_cons,
 bnd_some, obd_some, cnd_some, ifT_some, bnd_cond, ifT_cond, seq_nx, seq_rt, seq_bk, seq_ct, seq_cond, res_nx, res_rt, res_cond, slot_v, slot_own, cAnd, cOr, cAndT, cOrT, fixR_d, fixR_l,
 B_add, B_sub, C_lt, C_le, C_gt, C_ge, C_eqI, C_neI, C_eqS, C_neS, C_eqB, C_neB, C_isNN, C_isIN, C_isTN, C_isnNN, C_isnIN, R_b, R_i, X_t, X_l, at0, at1, at2, at3, tup1, tup2, tup3, tup4,
 biInt, biAbs, biMin2, biLenL, biLenT, biTupL, str_inj, asg_d, asg_l, asgs_nil, asgs_cons, mapNm,
 gz, gs, sz, ss, mc, mn, ac, an, rc, rz, om, Nat.sub_self, Nat.reduceSub, Nat.reduceAdd, reduceCtorEq, String.reduceEq, decide_true, decide_false, cond_true, cond_false, Bool.not_true, Bool.not_false, Bool.true_and, Bool.false_and, Bool.and_true, Bool.and_false, Bool.or_true, Bool.or_false, Bool.true_or, Bool.false_or, Bool.not_not, callX_of (cl := evCall prog w k) (f := i_law_has) rfl (lhas_spec w st a k t hp.1 h1), callX_of (cl := evCall prog w k) (f := i_law_has) rfl (lhas_spec w st b k t hp.2 h2)]
  | .common a b, k + 1, t, hp, h => by
    have h1 : a.ht < k := by simp only [Cal.ht] at h; omega
    have h2 : b.ht < k := by simp only [Cal.ht] at h; omega
    rw [call_eq (fn := fn_law_has) rfl rfl]
    simp only [fn_law_has, Cal.d, Cal.has, E_nm, E_ct, E_gl, E_tup, E_bop, E_neg, E_not, E_and, E_or, E_cmp, E_chn, E_ite, E_ix, E_sl, E_call, E_bi, E_me, E_al, E_st, T_and, T_or, T_not, T_nm, T_cmp, T_chn, T_ix, T_call, T_bi,
 Es_nil, Es_cons, P_none, P_some, A_lst, A_ba, A_rv, A_dic, D_nil, D_cons, A_lc, C_none, C_some, I_sq, I_rg, I_zp, S_asg, S_par, S_ret, S_ifs, S_ex, S_for, S_retn, S_brk, S_cnt, S_pas, S_setx, Ss_nil, Ss_cons,
 bnd_some, obd_some, cnd_some, ifT_some, bnd_cond, ifT_cond, seq_nx, seq_rt, seq_bk, seq_ct, seq_cond, res_nx, res_rt, res_cond, slot_v, slot_own, cAnd, cOr, cAndT, cOrT, fixR_d, fixR_l,
 B_add, B_sub, C_lt, C_le, C_gt, C_ge, C_eqI, C_neI, C_eqS, C_neS, C_eqB, C_neB, C_isNN, C_isIN, C_isTN, C_isnNN, C_isnIN, R_b, R_i, X_t, X_l, at0, at1, at2, at3, tup1, tup2, tup3, tup4,
 biInt, biAbs, biMin2, biLenL, biLenT, biTupL, str_inj, asg_d, asg_l, asgs_nil, asgs_cons, mapNm,
 gz, gs, sz, ss, mc, mn, ac, an, rc, rz, om, Nat.sub_self, Nat.reduceSub, Nat.reduceAdd, reduceCtorEq, String.reduceEq, decide_true, decide_false, cond_true, cond_false, Bool.not_true, Bool.not_false, Bool.true_and, Bool.false_and, Bool.and_true, Bool.and_false, Bool.or_true, Bool.or_false, Bool.true_or, Bool.false_or, Bool.not_not, callX_of (cl := evCall prog w k) (f := i_law_has) rfl (lhas_spec w st a k t hp.1 h1), callX_of (cl := evCall prog w k) (f := i_law_has) rfl (lhas_spec w st b k t hp.2 h2)]
  | .without a b, k + 1, t, hp, h => by
    have h1 : a.ht < k := by simp only [Cal.ht] at h; omega
    have h2 : b.ht < k := by simp only [Cal.ht] at h; omega
    rw [call_eq (fn := fn_law_has) rfl rfl]
    simp only [fn_law_has, Cal.d, Cal.has, E_nm, E_ct, E_gl, E_tup, E_bop, E_neg, E_not, E_and, E_or, E_cmp, E_chn, E_ite, E_ix, E_sl, E_call, E_bi, E_me, E_al, E_st, T_and, T_or, T_not, T_nm, T_cmp, T_chn, T_ix, T_call, T_bi,
 Es_nil, Es_cons, P_none, P_some, A_lst, A_ba, A_rv, A_dic, D_nil, D_cons, A_lc, C_none, C_some, I_sq, I_rg, I_zp, S_asg, S_par, S_ret, S_ifs, S_ex, S_for, S_retn, S_brk, S_cnt, S_pas, S_setx, Ss_nil, Ss_cons,
 bnd_some, obd_some, cnd_some, ifT_some, bnd_cond, ifT_cond, seq_nx, seq_rt, seq_bk, seq_ct, seq_cond, res_nx, res_rt, res_cond, slot_v, slot_own, cAnd, cOr, cAndT, cOrT, fixR_d, fixR_l,
 B_add, B_sub, C_lt, C_le, C_gt, C_ge, C_eqI, C_neI, C_eqS, C_neS, C_eqB, C_neB, C_isNN, C_isIN, C_isTN, C_isnNN, C_isnIN, R_b, R_i, X_t, X_l, at0, at1, at2, at3, tup1, tup2, tup3, tup4,
 biInt, biAbs, biMin2, biLenL, biLenT, biTupL, str_inj, asg_d, asg_l, asgs_nil, asgs_cons, mapNm,
 gz, gs, sz, ss, mc, mn, ac, an, rc, rz, om, Nat.sub_self, Nat.reduceSub, Nat.reduceAdd, reduceCtorEq, String.reduceEq, decide_true, decide_false, cond_true, cond_false, Bool.not_true, Bool.not_false, Bool.true_and, Bool.false_and, Bool.and_true, Bool.and_false, Bool.or_true, Bool.or_false, Bool.true_or, Bool.false_or, Bool.not_not, callX_of (cl := evCall prog w k) (f := i_law_has) rfl (lhas_spec w st a k t hp.1 h1), callX_of (cl := evCall prog w k) (f := i_law_has) rfl (lhas_spec w st b k t hp.2 h2)]

/-- the times from lo to before hi -/
def Cal.ts (c : Cal) (lo hi : Int) : List Int := (rgI lo (hi - lo).toNat).filter c.has
def ok62 (i : Int) : Prop := -(2 ^ 62) ≤ i ∧ i < 2 ^ 62
theorem in62_ok {i : Int} (h : ok62 i) : in62 i = true := by
  simp [in62]
  exact h
theorem times_spec (w : Nat) (st : Sto) {c : Cal} {k : Nat} {lo hi : Int} (hc : c.ok) (hk : c.ht + 1 < k) (h1 : ok62 lo) (h2 : ok62 hi) (h3 : (hi - lo).toNat ≤ 2 ^ 20) :
    evCall prog w k i_times_in [.d c.d, .d (.int lo), .d (.int hi)] st = some (.d (.tuple ((c.ts lo hi).map .int)), st) := by
  obtain ⟨k, rfl⟩ : ∃ j, k = j + 1 := ⟨k - 1, by omega⟩
  rw [call_eq (fn := fn_times_in) rfl rfl]
  have hit : evIt prog.cs (evCall prog w k) (.rg [.nm 1, .nm 2]) [.v (.d c.d), .v (.d (.int lo)), .v (.d (.int hi)), .no] st = some ((rgI lo (hi - lo).toNat).map fun t => .d (.int t), [.v (.d c.d), .v (.d (.int lo)), .v (.d (.int hi)), .no], st) := by
    simp only [E_nm, E_ct, E_gl, E_tup, E_bop, E_neg, E_not, E_and, E_or, E_cmp, E_chn, E_ite, E_ix, E_sl, E_call, E_bi, E_me, E_al, E_st, T_and, T_or, T_not, T_nm, T_cmp, T_chn, T_ix, T_call, T_bi,
 Es_nil, Es_cons, P_none, P_some, A_lst, A_ba, A_rv, A_dic, D_nil, D_cons, A_lc, C_none, C_some, I_sq, I_rg, I_zp, S_asg, S_par, S_ret, S_ifs, S_ex, S_for, S_retn, S_brk, S_cnt, S_pas, S_setx, Ss_nil, Ss_cons,
 bnd_some, obd_some, cnd_some, ifT_some, bnd_cond, ifT_cond, seq_nx, seq_rt, seq_bk, seq_ct, seq_cond, res_nx, res_rt, res_cond, slot_v, slot_own, cAnd, cOr, cAndT, cOrT, fixR_d, fixR_l,
 B_add, B_sub, C_lt, C_le, C_gt, C_ge, C_eqI, C_neI, C_eqS, C_neS, C_eqB, C_neB, C_isNN, C_isIN, C_isTN, C_isnNN, C_isnIN, R_b, R_i, X_t, X_l, at0, at1, at2, at3, tup1, tup2, tup3, tup4,
 biInt, biAbs, biMin2, biLenL, biLenT, biTupL, str_inj, asg_d, asg_l, asgs_nil, asgs_cons, mapNm,
 gz, gs, sz, ss, mc, mn, ac, an, rc, rz, om, Nat.sub_self, Nat.reduceSub, Nat.reduceAdd, reduceCtorEq, String.reduceEq, decide_true, decide_false, cond_true, cond_false, Bool.not_true, Bool.not_false, Bool.true_and, Bool.false_and, Bool.and_true, Bool.and_false, Bool.or_true, Bool.or_false, Bool.true_or, Bool.false_or, Bool.not_not, rg2 (in62_ok h1) (in62_ok h2)]
  have h := lc_ints (x := .nm 3) (c := some (.call i_has_time [.nm 0, .nm 3])) (i := 3) (p := c.has) (g := fun t => .int t) hit (by show 3 < 4; decide) rfl (by rw [len_rgI]; exact Nat.le_trans h3 (by decide))
    (fun n _ => by simp only [E_nm, E_ct, E_gl, E_tup, E_bop, E_neg, E_not, E_and, E_or, E_cmp, E_chn, E_ite, E_ix, E_sl, E_call, E_bi, E_me, E_al, E_st, T_and, T_or, T_not, T_nm, T_cmp, T_chn, T_ix, T_call, T_bi,
 Es_nil, Es_cons, P_none, P_some, A_lst, A_ba, A_rv, A_dic, D_nil, D_cons, A_lc, C_none, C_some, I_sq, I_rg, I_zp, S_asg, S_par, S_ret, S_ifs, S_ex, S_for, S_retn, S_brk, S_cnt, S_pas, S_setx, Ss_nil, Ss_cons,
 bnd_some, obd_some, cnd_some, ifT_some, bnd_cond, ifT_cond, seq_nx, seq_rt, seq_bk, seq_ct, seq_cond, res_nx, res_rt, res_cond, slot_v, slot_own, cAnd, cOr, cAndT, cOrT, fixR_d, fixR_l,
 B_add, B_sub, C_lt, C_le, C_gt, C_ge, C_eqI, C_neI, C_eqS, C_neS, C_eqB, C_neB, C_isNN, C_isIN, C_isTN, C_isnNN, C_isnIN, R_b, R_i, X_t, X_l, at0, at1, at2, at3, tup1, tup2, tup3, tup4,
 biInt, biAbs, biMin2, biLenL, biLenT, biTupL, str_inj, asg_d, asg_l, asgs_nil, asgs_cons, mapNm,
 gz, gs, sz, ss, mc, mn, ac, an, rc, rz, om, Nat.sub_self, Nat.reduceSub, Nat.reduceAdd, reduceCtorEq, String.reduceEq, decide_true, decide_false, cond_true, cond_false, Bool.not_true, Bool.not_false, Bool.true_and, Bool.false_and, Bool.and_true, Bool.and_false, Bool.or_true, Bool.or_false, Bool.true_or, Bool.false_or, Bool.not_not, callX_of (cl := evCall prog w k) (f := i_has_time) rfl (has_spec w st c k n hc (by omega))])
    (fun n _ _ => by simp only [E_nm, E_ct, E_gl, E_tup, E_bop, E_neg, E_not, E_and, E_or, E_cmp, E_chn, E_ite, E_ix, E_sl, E_call, E_bi, E_me, E_al, E_st, T_and, T_or, T_not, T_nm, T_cmp, T_chn, T_ix, T_call, T_bi,
 Es_nil, Es_cons, P_none, P_some, A_lst, A_ba, A_rv, A_dic, D_nil, D_cons, A_lc, C_none, C_some, I_sq, I_rg, I_zp, S_asg, S_par, S_ret, S_ifs, S_ex, S_for, S_retn, S_brk, S_cnt, S_pas, S_setx, Ss_nil, Ss_cons,
 bnd_some, obd_some, cnd_some, ifT_some, bnd_cond, ifT_cond, seq_nx, seq_rt, seq_bk, seq_ct, seq_cond, res_nx, res_rt, res_cond, slot_v, slot_own, cAnd, cOr, cAndT, cOrT, fixR_d, fixR_l,
 B_add, B_sub, C_lt, C_le, C_gt, C_ge, C_eqI, C_neI, C_eqS, C_neS, C_eqB, C_neB, C_isNN, C_isIN, C_isTN, C_isnNN, C_isnIN, R_b, R_i, X_t, X_l, at0, at1, at2, at3, tup1, tup2, tup3, tup4,
 biInt, biAbs, biMin2, biLenL, biLenT, biTupL, str_inj, asg_d, asg_l, asgs_nil, asgs_cons, mapNm,
 gz, gs, sz, ss, mc, mn, ac, an, rc, rz, om, Nat.sub_self, Nat.reduceSub, Nat.reduceAdd, reduceCtorEq, String.reduceEq, decide_true, decide_false, cond_true, cond_false, Bool.not_true, Bool.not_false, Bool.true_and, Bool.false_and, Bool.and_true, Bool.and_false, Bool.or_true, Bool.or_false, Bool.true_or, Bool.false_or, Bool.not_not])
  simp only [fn_times_in, E_nm, E_ct, E_gl, E_tup, E_bop, E_neg, E_not, E_and, E_or, E_cmp, E_chn, E_ite, E_ix, E_sl, E_call, E_bi, E_me, E_al, E_st, T_and, T_or, T_not, T_nm, T_cmp, T_chn, T_ix, T_call, T_bi,
 Es_nil, Es_cons, P_none, P_some, A_lst, A_ba, A_rv, A_dic, D_nil, D_cons, A_lc, C_none, C_some, I_sq, I_rg, I_zp, S_asg, S_par, S_ret, S_ifs, S_ex, S_for, S_retn, S_brk, S_cnt, S_pas, S_setx, Ss_nil, Ss_cons,
 bnd_some, obd_some, cnd_some, ifT_some, bnd_cond, ifT_cond, seq_nx, seq_rt, seq_bk, seq_ct, seq_cond, res_nx, res_rt, res_cond, slot_v, slot_own, cAnd, cOr, cAndT, cOrT, fixR_d, fixR_l,
 B_add, B_sub, C_lt, C_le, C_gt, C_ge, C_eqI, C_neI, C_eqS, C_neS, C_eqB, C_neB, C_isNN, C_isIN, C_isTN, C_isnNN, C_isnIN, R_b, R_i, X_t, X_l, at0, at1, at2, at3, tup1, tup2, tup3, tup4,
 biInt, biAbs, biMin2, biLenL, biLenT, biTupL, str_inj, asg_d, asg_l, asgs_nil, asgs_cons, mapNm,
 gz, gs, sz, ss, mc, mn, ac, an, rc, rz, om, Nat.sub_self, Nat.reduceSub, Nat.reduceAdd, reduceCtorEq, String.reduceEq, decide_true, decide_false, cond_true, cond_false, Bool.not_true, Bool.not_false, Bool.true_and, Bool.false_and, Bool.and_true, Bool.and_false, Bool.or_true, Bool.or_false, Bool.true_or, Bool.false_or, Bool.not_not] at h ⊢
  rw [h]
  simp only [E_nm, E_ct, E_gl, E_tup, E_bop, E_neg, E_not, E_and, E_or, E_cmp, E_chn, E_ite, E_ix, E_sl, E_call, E_bi, E_me, E_al, E_st, T_and, T_or, T_not, T_nm, T_cmp, T_chn, T_ix, T_call, T_bi,
 Es_nil, Es_cons, P_none, P_some, A_lst, A_ba, A_rv, A_dic, D_nil, D_cons, A_lc, C_none, C_some, I_sq, I_rg, I_zp, S_asg, S_par, S_ret, S_ifs, S_ex, S_for, S_retn, S_brk, S_cnt, S_pas, S_setx, Ss_nil, Ss_cons,
 bnd_some, obd_some, cnd_some, ifT_some, bnd_cond, ifT_cond, seq_nx, seq_rt, seq_bk, seq_ct, seq_cond, res_nx, res_rt, res_cond, slot_v, slot_own, cAnd, cOr, cAndT, cOrT, fixR_d, fixR_l,
 B_add, B_sub, C_lt, C_le, C_gt, C_ge, C_eqI, C_neI, C_eqS, C_neS, C_eqB, C_neB, C_isNN, C_isIN, C_isTN, C_isnNN, C_isnIN, R_b, R_i, X_t, X_l, at0, at1, at2, at3, tup1, tup2, tup3, tup4,
 biInt, biAbs, biMin2, biLenL, biLenT, biTupL, str_inj, asg_d, asg_l, asgs_nil, asgs_cons, mapNm,
 gz, gs, sz, ss, mc, mn, ac, an, rc, rz, om, Nat.sub_self, Nat.reduceSub, Nat.reduceAdd, reduceCtorEq, String.reduceEq, decide_true, decide_false, cond_true, cond_false, Bool.not_true, Bool.not_false, Bool.true_and, Bool.false_and, Bool.and_true, Bool.and_false, Bool.or_true, Bool.or_false, Bool.true_or, Bool.false_or, Bool.not_not, frO_map]
  rfl
/-! ### the least multiple -/
theorem small_of {i : Int} (h1 : 0 ≤ i) (h2 : i < 18446744073709551616) : small i = true := by simp [small, h2]; omega
theorem divOk_of {i : Int} (h1 : 0 < i) (h2 : i < 1073741824) : divOk i = true := by simp [divOk]; omega
theorem nmod {a b : Nat} : (a : Int).fmod (b : Int) = ((a % b : Nat) : Int) := by
  rw [Int.fmod_eq_emod_of_nonneg _ (Int.natCast_nonneg b)]
  rfl
theorem ndiv {a b : Nat} : (a : Int).fdiv (b : Int) = ((a / b : Nat) : Int) := by
  rw [Int.fdiv_eq_ediv_of_nonneg _ (Int.natCast_nonneg b)]
  rfl
theorem lm_core {w : Nat} (st : Sto) {k a b g : Nat} (gd : Nat.gcd a b = g) (g0 : 0 < g) (g1 : g < 1073741824) (ha2 : a < 1048576) (hw : b < w) :
    evCall prog w (k + 1) i_least_multiple [.d (.int a), .d (.int b)] st = some (.d (.int (a * b / g : Nat)), st) := by
  rw [call_eq (fn := fn_least_multiple) rfl rfl]
  let P : Nat → Lo → Sto → Prop := fun n e s => s = st ∧ ∃ x : Nat, e = [.v (.d (.int a)), .v (.d (.int b)), .v (.d (.int x)), .v (.d (.int n))] ∧ Nat.gcd x n = g
  let Q : Lo → Sto → Prop := fun e s => s = st ∧ e = [.v (.d (.int a)), .v (.d (.int b)), .v (.d (.int g)), .v (.d (.int (0 : Nat)))]
  obtain ⟨e', s', h, rfl, rfl⟩ := wh_inv (c := evT prog.cs (evCall prog w k) (.cmp .ne (.nm 3) (.ct (.int 0)))) (b := evSs prog.cs (evCall prog w k) w [.par [2, 3] [.nm 3, .bop .mod (.nm 2) (.nm 3)]]) P Q (fun n e s h => by
    obtain ⟨rfl, x, rfl, hg⟩ := h
    by_cases hn : n = 0
    · subst hn
      left
      refine ⟨[.v (.d (.int a)), .v (.d (.int b)), .v (.d (.int x)), .v (.d (.int (0 : Nat)))], s, ?_, rfl, ?_⟩
      · simp only [E_nm, E_ct, E_gl, E_tup, E_bop, E_neg, E_not, E_and, E_or, E_cmp, E_chn, E_ite, E_ix, E_sl, E_call, E_bi, E_me, E_al, E_st, T_and, T_or, T_not, T_nm, T_cmp, T_chn, T_ix, T_call, T_bi,
 Es_nil, Es_cons, P_none, P_some, A_lst, A_ba, A_rv, A_dic, D_nil, D_cons, A_lc, C_none, C_some, I_sq, I_rg, I_zp, S_asg, S_par, S_ret, S_ifs, S_ex, S_for, S_retn, S_brk, S_cnt, S_pas, S_setx, Ss_nil, Ss_cons,
 bnd_some, obd_some, cnd_some, ifT_some, bnd_cond, ifT_cond, seq_nx, seq_rt, seq_bk, seq_ct, seq_cond, res_nx, res_rt, res_cond, slot_v, slot_own, cAnd, cOr, cAndT, cOrT, fixR_d, fixR_l,
 B_add, B_sub, C_lt, C_le, C_gt, C_ge, C_eqI, C_neI, C_eqS, C_neS, C_eqB, C_neB, C_isNN, C_isIN, C_isTN, C_isnNN, C_isnIN, R_b, R_i, X_t, X_l, at0, at1, at2, at3, tup1, tup2, tup3, tup4,
 biInt, biAbs, biMin2, biLenL, biLenT, biTupL, str_inj, asg_d, asg_l, asgs_nil, asgs_cons, mapNm,
 gz, gs, sz, ss, mc, mn, ac, an, rc, rz, om, Nat.sub_self, Nat.reduceSub, Nat.reduceAdd, reduceCtorEq, String.reduceEq, decide_true, decide_false, cond_true, cond_false, Bool.not_true, Bool.not_false, Bool.true_and, Bool.false_and, Bool.and_true, Bool.and_false, Bool.or_true, Bool.or_false, Bool.true_or, Bool.false_or, Bool.not_not, Int.natCast_zero]
      · rw [← hg, Nat.gcd_zero_right]
    · right
      have hz : (n : Int) ≠ 0 := by omega
      refine ⟨[.v (.d (.int a)), .v (.d (.int b)), .v (.d (.int x)), .v (.d (.int n))], s, [.v (.d (.int a)), .v (.d (.int b)), .v (.d (.int n)), .v (.d (.int (x % n : Nat)))], s, x % n, ?_, ?_, Nat.mod_lt _ (by omega), rfl, n, rfl, ?_⟩
      · simp only [E_nm, E_ct, E_gl, E_tup, E_bop, E_neg, E_not, E_and, E_or, E_cmp, E_chn, E_ite, E_ix, E_sl, E_call, E_bi, E_me, E_al, E_st, T_and, T_or, T_not, T_nm, T_cmp, T_chn, T_ix, T_call, T_bi,
 Es_nil, Es_cons, P_none, P_some, A_lst, A_ba, A_rv, A_dic, D_nil, D_cons, A_lc, C_none, C_some, I_sq, I_rg, I_zp, S_asg, S_par, S_ret, S_ifs, S_ex, S_for, S_retn, S_brk, S_cnt, S_pas, S_setx, Ss_nil, Ss_cons,
 bnd_some, obd_some, cnd_some, ifT_some, bnd_cond, ifT_cond, seq_nx, seq_rt, seq_bk, seq_ct, seq_cond, res_nx, res_rt, res_cond, slot_v, slot_own, cAnd, cOr, cAndT, cOrT, fixR_d, fixR_l,
 B_add, B_sub, C_lt, C_le, C_gt, C_ge, C_eqI, C_neI, C_eqS, C_neS, C_eqB, C_neB, C_isNN, C_isIN, C_isTN, C_isnNN, C_isnIN, R_b, R_i, X_t, X_l, at0, at1, at2, at3, tup1, tup2, tup3, tup4,
 biInt, biAbs, biMin2, biLenL, biLenT, biTupL, str_inj, asg_d, asg_l, asgs_nil, asgs_cons, mapNm,
 gz, gs, sz, ss, mc, mn, ac, an, rc, rz, om, Nat.sub_self, Nat.reduceSub, Nat.reduceAdd, reduceCtorEq, String.reduceEq, decide_true, decide_false, cond_true, cond_false, Bool.not_true, Bool.not_false, Bool.true_and, Bool.false_and, Bool.and_true, Bool.and_false, Bool.or_true, Bool.or_false, Bool.true_or, Bool.false_or, Bool.not_not, hz]
      · simp only [E_nm, E_ct, E_gl, E_tup, E_bop, E_neg, E_not, E_and, E_or, E_cmp, E_chn, E_ite, E_ix, E_sl, E_call, E_bi, E_me, E_al, E_st, T_and, T_or, T_not, T_nm, T_cmp, T_chn, T_ix, T_call, T_bi,
 Es_nil, Es_cons, P_none, P_some, A_lst, A_ba, A_rv, A_dic, D_nil, D_cons, A_lc, C_none, C_some, I_sq, I_rg, I_zp, S_asg, S_par, S_ret, S_ifs, S_ex, S_for, S_retn, S_brk, S_cnt, S_pas, S_setx, Ss_nil, Ss_cons,
 bnd_some, obd_some, cnd_some, ifT_some, bnd_cond, ifT_cond, seq_nx, seq_rt, seq_bk, seq_ct, seq_cond, res_nx, res_rt, res_cond, slot_v, slot_own, cAnd, cOr, cAndT, cOrT, fixR_d, fixR_l,
 B_add, B_sub, C_lt, C_le, C_gt, C_ge, C_eqI, C_neI, C_eqS, C_neS, C_eqB, C_neB, C_isNN, C_isIN, C_isTN, C_isnNN, C_isnIN, R_b, R_i, X_t, X_l, at0, at1, at2, at3, tup1, tup2, tup3, tup4,
 biInt, biAbs, biMin2, biLenL, biLenT, biTupL, str_inj, asg_d, asg_l, asgs_nil, asgs_cons, mapNm,
 gz, gs, sz, ss, mc, mn, ac, an, rc, rz, om, Nat.sub_self, Nat.reduceSub, Nat.reduceAdd, reduceCtorEq, String.reduceEq, decide_true, decide_false, cond_true, cond_false, Bool.not_true, Bool.not_false, Bool.true_and, Bool.false_and, Bool.and_true, Bool.and_false, Bool.or_true, Bool.or_false, Bool.true_or, Bool.false_or, Bool.not_not, B_mod hz, nmod]
      · rw [← hg, Nat.gcd_comm n, ← Nat.gcd_rec, Nat.gcd_comm]) w b [.v (.d (.int a)), .v (.d (.int b)), .v (.d (.int a)), .v (.d (.int b))] st ⟨rfl, a, rfl, gd⟩ hw
  have e1 : (a : Int) * (b : Int) = ((a * b : Nat) : Int) := by push_cast; rfl
  simp only [fn_least_multiple, E_nm, E_ct, E_gl, E_tup, E_bop, E_neg, E_not, E_and, E_or, E_cmp, E_chn, E_ite, E_ix, E_sl, E_call, E_bi, E_me, E_al, E_st, T_and, T_or, T_not, T_nm, T_cmp, T_chn, T_ix, T_call, T_bi,
 Es_nil, Es_cons, P_none, P_some, A_lst, A_ba, A_rv, A_dic, D_nil, D_cons, A_lc, C_none, C_some, I_sq, I_rg, I_zp, S_asg, S_par, S_ret, S_ifs, S_ex, S_for, S_retn, S_brk, S_cnt, S_pas, S_setx, Ss_nil, Ss_cons,
 bnd_some, obd_some, cnd_some, ifT_some, bnd_cond, ifT_cond, seq_nx, seq_rt, seq_bk, seq_ct, seq_cond, res_nx, res_rt, res_cond, slot_v, slot_own, cAnd, cOr, cAndT, cOrT, fixR_d, fixR_l,
 B_add, B_sub, C_lt, C_le, C_gt, C_ge, C_eqI, C_neI, C_eqS, C_neS, C_eqB, C_neB, C_isNN, C_isIN, C_isTN, C_isnNN, C_isnIN, R_b, R_i, X_t, X_l, at0, at1, at2, at3, tup1, tup2, tup3, tup4,
 biInt, biAbs, biMin2, biLenL, biLenT, biTupL, str_inj, asg_d, asg_l, asgs_nil, asgs_cons, mapNm,
 gz, gs, sz, ss, mc, mn, ac, an, rc, rz, om, Nat.sub_self, Nat.reduceSub, Nat.reduceAdd, reduceCtorEq, String.reduceEq, decide_true, decide_false, cond_true, cond_false, Bool.not_true, Bool.not_false, Bool.true_and, Bool.false_and, Bool.and_true, Bool.and_false, Bool.or_true, Bool.or_false, Bool.true_or, Bool.false_or, Bool.not_not, S_whl]
  rw [h]
  simp only [E_nm, E_ct, E_gl, E_tup, E_bop, E_neg, E_not, E_and, E_or, E_cmp, E_chn, E_ite, E_ix, E_sl, E_call, E_bi, E_me, E_al, E_st, T_and, T_or, T_not, T_nm, T_cmp, T_chn, T_ix, T_call, T_bi,
 Es_nil, Es_cons, P_none, P_some, A_lst, A_ba, A_rv, A_dic, D_nil, D_cons, A_lc, C_none, C_some, I_sq, I_rg, I_zp, S_asg, S_par, S_ret, S_ifs, S_ex, S_for, S_retn, S_brk, S_cnt, S_pas, S_setx, Ss_nil, Ss_cons,
 bnd_some, obd_some, cnd_some, ifT_some, bnd_cond, ifT_cond, seq_nx, seq_rt, seq_bk, seq_ct, seq_cond, res_nx, res_rt, res_cond, slot_v, slot_own, cAnd, cOr, cAndT, cOrT, fixR_d, fixR_l,
 B_add, B_sub, C_lt, C_le, C_gt, C_ge, C_eqI, C_neI, C_eqS, C_neS, C_eqB, C_neB, C_isNN, C_isIN, C_isTN, C_isnNN, C_isnIN, R_b, R_i, X_t, X_l, at0, at1, at2, at3, tup1, tup2, tup3, tup4,
 biInt, biAbs, biMin2, biLenL, biLenT, biTupL, str_inj, asg_d, asg_l, asgs_nil, asgs_cons, mapNm,
 gz, gs, sz, ss, mc, mn, ac, an, rc, rz, om, Nat.sub_self, Nat.reduceSub, Nat.reduceAdd, reduceCtorEq, String.reduceEq, decide_true, decide_false, cond_true, cond_false, Bool.not_true, Bool.not_false, Bool.true_and, Bool.false_and, Bool.and_true, Bool.and_false, Bool.or_true, Bool.or_false, Bool.true_or, Bool.false_or, Bool.not_not, B_mul1 (small_of (Int.natCast_nonneg a) (by omega)), B_fdiv (divOk_of (i := (g : Int)) (by omega) (by omega)), e1, ndiv]
theorem lm_spec {w : Nat} (st : Sto) {k a b : Nat} (ha : 0 < a) (ha2 : a < 1048576) (hw : b < w) (hk : 0 < k) :
    evCall prog w k i_least_multiple [.d (.int a), .d (.int b)] st = some (.d (.int (Nat.lcm a b : Nat)), st) := by
  obtain ⟨k, rfl⟩ : ∃ j, k = j + 1 := ⟨k - 1, by omega⟩
  rw [lm_core st rfl (Nat.gcd_pos_of_pos_left _ ha) (Nat.lt_of_le_of_lt (Nat.gcd_le_left _ ha) (by omega)) ha2 hw]
  rw [Nat.lcm]
end K52

namespace K52
open PySem EV L2

def mx (i j : Int) : Int := if j > i then j else i
theorem mx_le {i j : Int} : i ≤ mx i j ∧ j ≤ mx i j := by unfold mx; split <;> omega
theorem mx_lt {i j k : Int} (h1 : i < k) (h2 : j < k) : mx i j < k := by unfold mx; split <;> omega
def maxF (a : Int) (ts : List Int) : Int := ts.foldl (fun a y => if a < y then y else a) a
def Cal.tl : Cal → Int
  | .every _ s none => s
  | .every _ _ (some e) => e + 1
  | .list ts => maxF (-1) ts + 1
  | .moved c n => c.tl + n
  | .both a b => mx a.tl b.tl
  | .common a b => mx a.tl b.tl
  | .without a b => mx a.tl b.tl
def Cal.pd : Cal → Nat
  | .every p _ none => p.toNat
  | .every _ _ (some _) => 1
  | .list _ => 1
  | .moved c _ => c.pd
  | .both a b => Nat.lcm a.pd b.pd
  | .common a b => Nat.lcm a.pd b.pd
  | .without a b => Nat.lcm a.pd b.pd
def Cal.wf : Cal → Prop
  | .every p s e => (∃ n : Nat, p = n ∧ 0 < n ∧ n ∣ 420) ∧ 0 ≤ s ∧ s < 2000 ∧ ∀ i, e = some i → 0 ≤ i ∧ i < 2000
  | .list ts => ts.length ≤ 64 ∧ ∀ t ∈ ts, 0 ≤ t ∧ t < 2000
  | .moved c n => c.wf ∧ 0 ≤ n ∧ n < 2000
  | .both a b => a.wf ∧ b.wf
  | .common a b => a.wf ∧ b.wf
  | .without a b => a.wf ∧ b.wf
theorem Cal.wf.ok : ∀ {c : Cal}, c.wf → c.ok
  | .every p s e, h => by
    obtain ⟨⟨n, rfl, h1, _⟩, _⟩ := h
    show (n : Int) ≠ 0
    omega
  | .list ts, h => h.1
  | .moved c n, h => Cal.wf.ok (c := c) h.1
  | .both a b, h => ⟨Cal.wf.ok h.1, Cal.wf.ok h.2⟩
  | .common a b, h => ⟨Cal.wf.ok h.1, Cal.wf.ok h.2⟩
  | .without a b, h => ⟨Cal.wf.ok h.1, Cal.wf.ok h.2⟩
theorem Cal.wf.pd : ∀ {c : Cal}, c.wf → 0 < c.pd ∧ c.pd ∣ 420
  | .every p s none, h => by
    obtain ⟨⟨n, rfl, h1, h2⟩, _⟩ := h
    simpa [Cal.pd] using ⟨h1, h2⟩
  | .every p s (some e), h => ⟨Nat.one_pos, Nat.one_dvd _⟩
  | .list ts, h => ⟨Nat.one_pos, Nat.one_dvd _⟩
  | .moved c n, h => Cal.wf.pd (c := c) h.1
  | .both a b, h => ⟨Nat.lcm_pos (Cal.wf.pd h.1).1 (Cal.wf.pd h.2).1, Nat.lcm_dvd (Cal.wf.pd h.1).2 (Cal.wf.pd h.2).2⟩
  | .common a b, h => ⟨Nat.lcm_pos (Cal.wf.pd h.1).1 (Cal.wf.pd h.2).1, Nat.lcm_dvd (Cal.wf.pd h.1).2 (Cal.wf.pd h.2).2⟩
  | .without a b, h => ⟨Nat.lcm_pos (Cal.wf.pd h.1).1 (Cal.wf.pd h.2).1, Nat.lcm_dvd (Cal.wf.pd h.1).2 (Cal.wf.pd h.2).2⟩
theorem Cal.wf.pd420 {c : Cal} (h : c.wf) : c.pd ≤ 420 := Nat.le_of_dvd (by decide) h.pd.2
theorem maxF_le : ∀ {ts : List Int} {a : Int}, a ≤ maxF a ts ∧ ∀ t ∈ ts, t ≤ maxF a ts
  | [], a => ⟨Int.le_refl _, fun t h => by cases h⟩
  | y :: ts, a => by
    unfold maxF
    rw [List.foldl_cons]
    have ih := maxF_le (ts := ts) (a := if a < y then y else a)
    unfold maxF at ih
    split at ih <;> rename_i hy
    · simp only [hy, if_true]
      refine ⟨by omega, fun t h => ?_⟩
      rcases List.mem_cons.mp h with rfl | h
      · exact ih.1
      · exact ih.2 t h
    · simp only [hy, if_false]
      refine ⟨ih.1, fun t h => ?_⟩
      rcases List.mem_cons.mp h with rfl | h
      · omega
      · exact ih.2 t h
theorem maxF_lt {k : Int} : ∀ {ts : List Int} {a : Int}, a < k → (∀ t ∈ ts, t < k) → maxF a ts < k
  | [], a, h, _ => h
  | y :: ts, a, h, h2 => by
    unfold maxF
    rw [List.foldl_cons]
    exact maxF_lt (ts := ts) (by split; exact h2 y List.mem_cons_self; exact h) fun t ht => h2 t (List.mem_cons_of_mem _ ht)
theorem Cal.wf.tl : ∀ {c : Cal}, c.wf → 0 ≤ c.tl ∧ c.tl < 2002 + 2000 * c.ht
  | .every p s none, h => by
    obtain ⟨_, h1, h2, _⟩ := h
    simp only [Cal.tl, Cal.ht]
    omega
  | .every p s (some e), h => by
    obtain ⟨_, h1, h2, h3⟩ := h
    have := h3 e rfl
    simp only [Cal.tl, Cal.ht]
    omega
  | .list ts, h => by
    have h1 := (maxF_le (ts := ts) (a := -1)).1
    have h2 := maxF_lt (k := 2000) (ts := ts) (a := -1) (by decide) fun t ht => (h.2 t ht).2
    simp only [Cal.tl, Cal.ht]
    omega
  | .moved c n, h => by
    have h1 := Cal.wf.tl (c := c) h.1
    have h2 := h.2
    simp only [Cal.tl, Cal.ht]
    push_cast
    omega
  | .both a b, h => by
    have h1 := Cal.wf.tl h.1
    have h2 := Cal.wf.tl h.2
    have h3 := mx_le (i := a.tl) (j := b.tl)
    simp only [Cal.tl, Cal.ht]
    refine ⟨by omega, mx_lt ?_ ?_⟩ <;> (push_cast; omega)
  | .common a b, h => by
    have h1 := Cal.wf.tl h.1
    have h2 := Cal.wf.tl h.2
    have h3 := mx_le (i := a.tl) (j := b.tl)
    simp only [Cal.tl, Cal.ht]
    refine ⟨by omega, mx_lt ?_ ?_⟩ <;> (push_cast; omega)
  | .without a b, h => by
    have h1 := Cal.wf.tl h.1
    have h2 := Cal.wf.tl h.2
    have h3 := mx_le (i := a.tl) (j := b.tl)
    simp only [Cal.tl, Cal.ht]
    refine ⟨by omega, mx_lt ?_ ?_⟩ <;> (push_cast; omega)
/-- behind its tail a calendar repeats -/
def Per (f : Int → Bool) (n : Int) (q : Nat) : Prop := ∀ t, n ≤ t → f (t + q) = f t
theorem Per.mono {f : Int → Bool} {n m : Int} {q : Nat} (h : Per f n q) (hm : n ≤ m) : Per f m q := fun t ht => h t (Int.le_trans hm ht)
theorem Per.mul {f : Int → Bool} {n : Int} {q : Nat} (h : Per f n q) : ∀ k : Nat, Per f n (q * k)
  | 0 => fun t _ => by simp
  | k + 1 => fun t ht => by
    have e : t + ((q * (k + 1) : Nat) : Int) = (t + ((q * k : Nat) : Int)) + q := by push_cast; rw [Int.mul_add]; omega
    have hp : n ≤ t + ((q * k : Nat) : Int) := by omega
    rw [e, h _ hp, Per.mul h k t ht]
theorem Per.dvd {f : Int → Bool} {n : Int} {q p : Nat} (h : Per f n q) (d : q ∣ p) : Per f n p := by
  obtain ⟨k, rfl⟩ := d
  exact h.mul k
theorem Cal.per : ∀ {c : Cal}, c.wf → Per c.has c.tl c.pd
  | .every p s none, h => by
    obtain ⟨⟨n, rfl, h1, h2⟩, _⟩ := h
    intro t ht
    have ht' : s ≤ t := ht
    have key : ∀ u, Cal.has (.every n s none) u = (decide (s ≤ u) && (decide ((u - s).fmod n = 0) && true)) := fun u => rfl
    have e0 : (Cal.every n s none).pd = n := by simp [Cal.pd]
    have e : t + (n : Int) - s = (t - s) + n := by omega
    have e2 : ((t - s) + (n : Int)).fmod n = (t - s).fmod n := by
      rw [Int.fmod_eq_emod_of_nonneg _ (Int.natCast_nonneg n), Int.fmod_eq_emod_of_nonneg _ (Int.natCast_nonneg n), Int.add_emod_right]
    have a1 : decide (s ≤ t + (n : Int)) = true := by simp; omega
    have a2 : decide (s ≤ t) = true := by simp; omega
    rw [e0, key, key, a1, a2]
    simp only [e, e2]
  | .every p s (some e), h => by
    intro t ht
    have ht' : e + 1 ≤ t := ht
    have key : ∀ u, Cal.has (.every p s (some e)) u = (decide (s ≤ u) && (decide ((u - s).fmod p = 0) && decide (u ≤ e))) := fun u => rfl
    have e0 : (Cal.every p s (some e)).pd = 1 := rfl
    have a1 : decide (t + ((1 : Nat) : Int) ≤ e) = false := by simp; omega
    have a2 : decide (t ≤ e) = false := by simp; omega
    rw [e0, key, key, a1, a2]
    simp
  | .list ts, h => by
    intro t ht
    have ht' : maxF (-1) ts + 1 ≤ t := ht
    have key : ∀ u, Cal.has (.list ts) u = decide (u ∈ ts) := fun u => rfl
    have e0 : (Cal.list ts).pd = 1 := rfl
    have h2 := (maxF_le (ts := ts) (a := -1)).2
    have a1 : decide (t + ((1 : Nat) : Int) ∈ ts) = false := by
      simp only [decide_eq_false_iff_not]
      intro z
      have := h2 _ z
      omega
    have a2 : decide (t ∈ ts) = false := by
      simp only [decide_eq_false_iff_not]
      intro z
      have := h2 _ z
      omega
    rw [e0, key, key, a1, a2]
  | .moved c n, h => by
    intro t ht
    simp only [Cal.tl] at ht
    simp only [Cal.has, Cal.pd]
    have e : t + (c.pd : Int) - n = (t - n) + c.pd := by omega
    rw [e]
    exact Cal.per (c := c) h.1 _ (by omega)
  | .both a b, h => by
    intro t ht
    have h3 := mx_le (i := a.tl) (j := b.tl)
    simp only [Cal.tl] at ht
    simp only [Cal.has, Cal.pd]
    rw [(Cal.per h.1).dvd (Nat.dvd_lcm_left _ _) t (by omega), (Cal.per h.2).dvd (Nat.dvd_lcm_right _ _) t (by omega)]
  | .common a b, h => by
    intro t ht
    have h3 := mx_le (i := a.tl) (j := b.tl)
    simp only [Cal.tl] at ht
    simp only [Cal.has, Cal.pd]
    rw [(Cal.per h.1).dvd (Nat.dvd_lcm_left _ _) t (by omega), (Cal.per h.2).dvd (Nat.dvd_lcm_right _ _) t (by omega)]
  | .without a b, h => by
    intro t ht
    have h3 := mx_le (i := a.tl) (j := b.tl)
    simp only [Cal.tl] at ht
    simp only [Cal.has, Cal.pd]
    rw [(Cal.per h.1).dvd (Nat.dvd_lcm_left _ _) t (by omega), (Cal.per h.2).dvd (Nat.dvd_lcm_right _ _) t (by omega)]

/-! ### tails -/
theorem intsD_of : ∀ {ts : List Int}, intsD (ts.map .int) = some ts
  | [] => rfl
  | t :: ts => by simp [intsD, intsD_of]
theorem bi_maxT {e : Lo} {s : Sto} {a : Int} {ts : List Int} : biX e s .max1 [.d (.tuple (.int a :: ts.map .int))] = some (.int (maxF a ts)) := by
  have h : intsD (.int a :: ts.map .int) = some (a :: ts) := by simp [intsD, intsD_of]
  simp only [biX, oneX, toD, bi1, itemsD, h, maxI]
  rfl
theorem cat1 {e : Lo} {s : Sto} {a : D} {ts : List Int} (h : ts.length ≤ 64) : bopX .add e s (.d (.tuple [a])) (.d (.tuple (ts.map .int))) = some (.d (.tuple (a :: ts.map .int))) := by
  rw [B_catT (by simp only [List.length_cons, List.length_nil, List.length_map]; have : (65 : Nat) ≤ sizeLine := by decide
                 omega)]
  rfl
theorem biMax {e : Lo} {s : Sto} {i j : Int} : biX e s .max2 [.d (.int i), .d (.int j)] = some (.int (mx i j)) := of_eq_true (eq_self _)
theorem tail_spec {w : Nat} (st : Sto) (hw : 420 < w) : ∀ (c : Cal) (k : Nat), c.wf → c.ht + 1 < k → evCall prog w k i_tail_of [.d c.d] st = some (.d (.tuple [.int c.tl, .int c.pd]), st)
  | _, 0, _, h => absurd h (Nat.not_lt_zero _)
  | .every p s e, k + 1, hp, h => by
    rw [call_eq (fn := fn_tail_of) rfl rfl]
    cases e with
    | none =>
      obtain ⟨⟨n, rfl, _⟩, _⟩ := hp
      simp only [fn_tail_of, Cal.d, Cal.tl, Cal.pd, optD, E_nm, E_ct, E_gl, E_tup, E_bop, E_neg, E_not, E_and, E_or, E_cmp, E_chn, E_ite, E_ix, E_sl, E_call, E_bi, E_me, E_al, E_st, T_and, T_or, T_not, T_nm, T_cmp, T_chn, T_ix, T_call, T_bi,
 Es_nil, Es_cons, P_none, P_some, A_lst, A_ba, A_rv, A_dic, D_nil, D_cons, A_lc, C_none, C_some, I_sq, I_rg, I_zp, S_asg, S_par, S_ret, S_ifs, S_ex, S_for, S_retn, S_brk, S_cnt, S_pas, S_setx, Ss_nil, Ss_cons,
 bnd_some, obd_some, cnd_some, ifT_some, bnd_cond, ifT_cond, seq_nx, seq_rt, seq_bk, seq_ct, seq_cond, res_nx, res_rt, res_cond, slot_v, slot_own, cAnd, cOr, cAndT, cOrT, fixR_d, fixR_l,
 B_add, B_sub, C_lt, C_le, C_gt, C_ge, C_eqI, C_neI, C_eqS, C_neS, C_eqB, C_neB, C_isNN, C_isIN, C_isTN, C_isnNN, C_isnIN, R_b, R_i, X_t, X_l, at0, at1, at2, at3, tup1, tup2, tup3, tup4,
 biInt, biAbs, biMin2, biLenL, biLenT, biTupL, str_inj, asg_d, asg_l, asgs_nil, asgs_cons, mapNm,
 gz, gs, sz, ss, mc, mn, ac, an, rc, rz, om, Nat.sub_self, Nat.reduceSub, Nat.reduceAdd, reduceCtorEq, String.reduceEq, decide_true, decide_false, cond_true, cond_false, Bool.not_true, Bool.not_false, Bool.true_and, Bool.false_and, Bool.and_true, Bool.and_false, Bool.or_true, Bool.or_false, Bool.true_or, Bool.false_or, Bool.not_not, Int.toNat_natCast]
    | some i =>
      simp only [fn_tail_of, Cal.d, Cal.tl, Cal.pd, optD, E_nm, E_ct, E_gl, E_tup, E_bop, E_neg, E_not, E_and, E_or, E_cmp, E_chn, E_ite, E_ix, E_sl, E_call, E_bi, E_me, E_al, E_st, T_and, T_or, T_not, T_nm, T_cmp, T_chn, T_ix, T_call, T_bi,
 Es_nil, Es_cons, P_none, P_some, A_lst, A_ba, A_rv, A_dic, D_nil, D_cons, A_lc, C_none, C_some, I_sq, I_rg, I_zp, S_asg, S_par, S_ret, S_ifs, S_ex, S_for, S_retn, S_brk, S_cnt, S_pas, S_setx, Ss_nil, Ss_cons,
 bnd_some, obd_some, cnd_some, ifT_some, bnd_cond, ifT_cond, seq_nx, seq_rt, seq_bk, seq_ct, seq_cond, res_nx, res_rt, res_cond, slot_v, slot_own, cAnd, cOr, cAndT, cOrT, fixR_d, fixR_l,
 B_add, B_sub, C_lt, C_le, C_gt, C_ge, C_eqI, C_neI, C_eqS, C_neS, C_eqB, C_neB, C_isNN, C_isIN, C_isTN, C_isnNN, C_isnIN, R_b, R_i, X_t, X_l, at0, at1, at2, at3, tup1, tup2, tup3, tup4,
 biInt, biAbs, biMin2, biLenL, biLenT, biTupL, str_inj, asg_d, asg_l, asgs_nil, asgs_cons, mapNm,
 gz, gs, sz, ss, mc, mn, ac, an, rc, rz, om, Nat.sub_self, Nat.reduceSub, Nat.reduceAdd, reduceCtorEq, String.reduceEq, decide_true, decide_false, cond_true, cond_false, Bool.not_true, Bool.not_false, Bool.true_and, Bool.false_and, Bool.and_true, Bool.and_false, Bool.or_true, Bool.or_false, Bool.true_or, Bool.false_or, Bool.not_not]
      rfl
  | .list ts, k + 1, hp, h => by
    rw [call_eq (fn := fn_tail_of) rfl rfl]
    simp only [fn_tail_of, Cal.d, Cal.tl, Cal.pd, E_nm, E_ct, E_gl, E_tup, E_bop, E_neg, E_not, E_and, E_or, E_cmp, E_chn, E_ite, E_ix, E_sl, E_call, E_bi, E_me, E_al, E_st, T_and, T_or, T_not, T_nm, T_cmp, T_chn, T_ix, T_call, T_bi,
 Es_nil, Es_cons, P_none, P_some, A_lst, A_ba, A_rv, A_dic, D_nil, D_cons, A_lc, C_none, C_some, I_sq, I_rg, I_zp, S_asg, S_par, S_ret, S_ifs, S_ex, S_for, S_retn, S_brk, S_cnt, S_pas, S_setx, Ss_nil, Ss_cons,
 bnd_some, obd_some, cnd_some, ifT_some, bnd_cond, ifT_cond, seq_nx, seq_rt, seq_bk, seq_ct, seq_cond, res_nx, res_rt, res_cond, slot_v, slot_own, cAnd, cOr, cAndT, cOrT, fixR_d, fixR_l,
 B_add, B_sub, C_lt, C_le, C_gt, C_ge, C_eqI, C_neI, C_eqS, C_neS, C_eqB, C_neB, C_isNN, C_isIN, C_isTN, C_isnNN, C_isnIN, R_b, R_i, X_t, X_l, at0, at1, at2, at3, tup1, tup2, tup3, tup4,
 biInt, biAbs, biMin2, biLenL, biLenT, biTupL, str_inj, asg_d, asg_l, asgs_nil, asgs_cons, mapNm,
 gz, gs, sz, ss, mc, mn, ac, an, rc, rz, om, Nat.sub_self, Nat.reduceSub, Nat.reduceAdd, reduceCtorEq, String.reduceEq, decide_true, decide_false, cond_true, cond_false, Bool.not_true, Bool.not_false, Bool.true_and, Bool.false_and, Bool.and_true, Bool.and_false, Bool.or_true, Bool.or_false, Bool.true_or, Bool.false_or, Bool.not_not, cat1 hp.1, bi_maxT]
    rfl
  | .moved c n, k + 1, hp, h => by
    rw [call_eq (fn := fn_tail_of) rfl rfl]
    simp only [fn_tail_of, Cal.d, Cal.tl, Cal.pd, E_nm, E_ct, E_gl, E_tup, E_bop, E_neg, E_not, E_and, E_or, E_cmp, E_chn, E_ite, E_ix, E_sl, E_call, E_bi, E_me, E_al, E_st, T_and, T_or, T_not, T_nm, T_cmp, T_chn, T_ix, T_call, T_bi,
 Es_nil, Es_cons, P_none, P_some, A_lst, A_ba, A_rv, A_dic, D_nil, D_cons, A_lc, C_none, C_some, I_sq, I_rg, I_zp, S_asg, S_par, S_ret, S_ifs, S_ex, S_for, S_retn, S_brk, S_cnt, S_pas, S_setx, Ss_nil, Ss_cons,
 bnd_some, obd_some, cnd_some, ifT_some, bnd_cond, ifT_cond, seq_nx, seq_rt, seq_bk, seq_ct, seq_cond, res_nx, res_rt, res_cond, slot_v, slot_own, cAnd, cOr, cAndT, cOrT, fixR_d, fixR_l,
 B_add, B_sub, C_lt, C_le, C_gt, C_ge, C_eqI, C_neI, C_eqS, C_neS, C_eqB, C_neB, C_isNN, C_isIN, C_isTN, C_isnNN, C_isnIN, R_b, R_i, X_t, X_l, at0, at1, at2, at3, tup1, tup2, tup3, tup4,
 biInt, biAbs, biMin2, biLenL, biLenT, biTupL, str_inj, asg_d, asg_l, asgs_nil, asgs_cons, mapNm,
 gz, gs, sz, ss, mc, mn, ac, an, rc, rz, om, Nat.sub_self, Nat.reduceSub, Nat.reduceAdd, reduceCtorEq, String.reduceEq, decide_true, decide_false, cond_true, cond_false, Bool.not_true, Bool.not_false, Bool.true_and, Bool.false_and, Bool.and_true, Bool.and_false, Bool.or_true, Bool.or_false, Bool.true_or, Bool.false_or, Bool.not_not, callX_of (cl := evCall prog w k) (f := i_tail_of) rfl (tail_spec st hw c k hp.1 (by simp only [Cal.ht] at h; omega)), asg_t]
  | .both a b, k + 1, hp, h => by
    have h1 := fun e => callX_of (cl := evCall prog w k) (f := i_tail_of) (xs := [.d a.d]) (e := e) rfl (tail_spec st hw a k hp.1 (by simp only [Cal.ht] at h; omega))
    have h2 := fun e => callX_of (cl := evCall prog w k) (f := i_tail_of) (xs := [.d b.d]) (e := e) rfl (tail_spec st hw b k hp.2 (by simp only [Cal.ht] at h; omega))
    have h3 := fun e => callX_of (cl := evCall prog w k) (f := i_least_multiple) (xs := [.d (.int a.pd), .d (.int b.pd)]) (e := e) rfl (lm_spec (w := w) st (k := k) hp.1.pd.1 (Nat.lt_of_le_of_lt hp.1.pd420 (by decide)) (Nat.lt_of_le_of_lt hp.2.pd420 hw) (by omega))
    rw [call_eq (fn := fn_tail_of) rfl rfl]
    simp only [fn_tail_of, Cal.d, Cal.tl, Cal.pd, biMax, E_nm, E_ct, E_gl, E_tup, E_bop, E_neg, E_not, E_and, E_or, E_cmp, E_chn, E_ite, E_ix, E_sl, E_call, E_bi, E_me, E_al, E_st, T_and, T_or, T_not, T_nm, T_cmp, T_chn, T_ix, T_call, T_bi,
 Es_nil, Es_cons, P_none, P_some, A_lst, A_ba, A_rv, A_dic, D_nil, D_cons, A_lc, C_none, C_some, I_sq, I_rg, I_zp, S_asg, S_par, S_ret, S_ifs, S_ex, S_for, S_retn, S_brk, S_cnt, S_pas, S_setx, Ss_nil, Ss_cons,
 bnd_some, obd_some, cnd_some, ifT_some, bnd_cond, ifT_cond, seq_nx, seq_rt, seq_bk, seq_ct, seq_cond, res_nx, res_rt, res_cond, slot_v, slot_own, cAnd, cOr, cAndT, cOrT, fixR_d, fixR_l,
 B_add, B_sub, C_lt, C_le, C_gt, C_ge, C_eqI, C_neI, C_eqS, C_neS, C_eqB, C_neB, C_isNN, C_isIN, C_isTN, C_isnNN, C_isnIN, R_b, R_i, X_t, X_l, at0, at1, at2, at3, tup1, tup2, tup3, tup4,
 biInt, biAbs, biMin2, biLenL, biLenT, biTupL, str_inj, asg_d, asg_l, asgs_nil, asgs_cons, mapNm,
 gz, gs, sz, ss, mc, mn, ac, an, rc, rz, om, Nat.sub_self, Nat.reduceSub, Nat.reduceAdd, reduceCtorEq, String.reduceEq, decide_true, decide_false, cond_true, cond_false, Bool.not_true, Bool.not_false, Bool.true_and, Bool.false_and, Bool.and_true, Bool.and_false, Bool.or_true, Bool.or_false, Bool.true_or, Bool.false_or, Bool.not_not, h1, h2, h3, asg_t]
  | .common a b, k + 1, hp, h => by
    have h1 := fun e => callX_of (cl := evCall prog w k) (f := i_tail_of) (xs := [.d a.d]) (e := e) rfl (tail_spec st hw a k hp.1 (by simp only [Cal.ht] at h; omega))
    have h2 := fun e => callX_of (cl := evCall prog w k) (f := i_tail_of) (xs := [.d b.d]) (e := e) rfl (tail_spec st hw b k hp.2 (by simp only [Cal.ht] at h; omega))
    have h3 := fun e => callX_of (cl := evCall prog w k) (f := i_least_multiple) (xs := [.d (.int a.pd), .d (.int b.pd)]) (e := e) rfl (lm_spec (w := w) st (k := k) hp.1.pd.1 (Nat.lt_of_le_of_lt hp.1.pd420 (by decide)) (Nat.lt_of_le_of_lt hp.2.pd420 hw) (by omega))
    rw [call_eq (fn := fn_tail_of) rfl rfl]
    simp only [fn_tail_of, Cal.d, Cal.tl, Cal.pd, biMax, E_nm, E_ct, E_gl, E_tup, E_bop, E_neg, E_not, E_and, E_or, E_cmp, E_chn, E_ite, E_ix, E_sl, E_call, E_bi, E_me, E_al, E_st, T_and, T_or, T_not, T_nm, T_cmp, T_chn, T_ix, T_call, T_bi,
 Es_nil, Es_cons, P_none, P_some, A_lst, A_ba, A_rv, A_dic, D_nil, D_cons, A_lc, C_none, C_some, I_sq, I_rg, I_zp, S_asg, S_par, S_ret, S_ifs, S_ex, S_for, S_retn, S_brk, S_cnt, S_pas, S_setx, Ss_nil, Ss_cons,
 bnd_some, obd_some, cnd_some, ifT_some, bnd_cond, ifT_cond, seq_nx, seq_rt, seq_bk, seq_ct, seq_cond, res_nx, res_rt, res_cond, slot_v, slot_own, cAnd, cOr, cAndT, cOrT, fixR_d, fixR_l,
 B_add, B_sub, C_lt, C_le, C_gt, C_ge, C_eqI, C_neI, C_eqS, C_neS, C_eqB, C_neB, C_isNN, C_isIN, C_isTN, C_isnNN, C_isnIN, R_b, R_i, X_t, X_l, at0, at1, at2, at3, tup1, tup2, tup3, tup4,
 biInt, biAbs, biMin2, biLenL, biLenT, biTupL, str_inj, asg_d, asg_l, asgs_nil, asgs_cons, mapNm,
 gz, gs, sz, ss, mc, mn, ac, an, rc, rz, om, Nat.sub_self, Nat.reduceSub, Nat.reduceAdd, reduceCtorEq, String.reduceEq, decide_true, decide_false, cond_true, cond_false, Bool.not_true, Bool.not_false, Bool.true_and, Bool.false_and, Bool.and_true, Bool.and_false, Bool.or_true, Bool.or_false, Bool.true_or, Bool.false_or, Bool.not_not, h1, h2, h3, asg_t]
  | .without a b, k + 1, hp, h => by
    have h1 := fun e => callX_of (cl := evCall prog w k) (f := i_tail_of) (xs := [.d a.d]) (e := e) rfl (tail_spec st hw a k hp.1 (by simp only [Cal.ht] at h; omega))
    have h2 := fun e => callX_of (cl := evCall prog w k) (f := i_tail_of) (xs := [.d b.d]) (e := e) rfl (tail_spec st hw b k hp.2 (by simp only [Cal.ht] at h; omega))
    have h3 := fun e => callX_of (cl := evCall prog w k) (f := i_least_multiple) (xs := [.d (.int a.pd), .d (.int b.pd)]) (e := e) rfl (lm_spec (w := w) st (k := k) hp.1.pd.1 (Nat.lt_of_le_of_lt hp.1.pd420 (by decide)) (Nat.lt_of_le_of_lt hp.2.pd420 hw) (by omega))
    rw [call_eq (fn := fn_tail_of) rfl rfl]
    simp only [fn_tail_of, Cal.d, Cal.tl, Cal.pd, biMax, E_nm, E_ct, E_gl, E_tup, E_bop, E_neg, E_not, E_and, E_or, E_cmp, E_chn, E_ite, E_ix, E_sl, E_call, E_bi, E_me, E_al, E_st, T_and, T_or, T_not, T_nm, T_cmp, T_chn, T_ix, T_call, T_bi,
 Es_nil, Es_cons, P_none, P_some, A_lst, A_ba, A_rv, A_dic, D_nil, D_cons, A_lc, C_none, C_some, I_sq, I_rg, I_zp, S_asg, S_par, S_ret, S_ifs, S_ex, S_for, S_retn, S_brk, S_cnt, S_pas, S_setx, Ss_nil, Ss_cons,
 bnd_some, obd_some, cnd_some, ifT_some, bnd_cond, ifT_cond, seq_nx, seq_rt, seq_bk, seq_ct, seq_cond, res_nx, res_rt, res_cond, slot_v, slot_own, cAnd, cOr, cAndT, cOrT, fixR_d, fixR_l,
 B_add, B_sub, C_lt, C_le, C_gt, C_ge, C_eqI, C_neI, C_eqS, C_neS, C_eqB, C_neB, C_isNN, C_isIN, C_isTN, C_isnNN, C_isnIN, R_b, R_i, X_t, X_l, at0, at1, at2, at3, tup1, tup2, tup3, tup4,
 biInt, biAbs, biMin2, biLenL, biLenT, biTupL, str_inj, asg_d, asg_l, asgs_nil, asgs_cons, mapNm,
 gz, gs, sz, ss, mc, mn, ac, an, rc, rz, om, Nat.sub_self, Nat.reduceSub, Nat.reduceAdd, reduceCtorEq, String.reduceEq, decide_true, decide_false, cond_true, cond_false, Bool.not_true, Bool.not_false, Bool.true_and, Bool.false_and, Bool.and_true, Bool.and_false, Bool.or_true, Bool.or_false, Bool.true_or, Bool.false_or, Bool.not_not, h1, h2, h3, asg_t]
theorem ltail_spec {w : Nat} (st : Sto) : ∀ (c : Cal) (k : Nat), c.wf → c.ht < k → evCall prog w k i_law_tail [.d c.d] st = some (.d (.int c.tl), st)
  | _, 0, _, h => absurd h (Nat.not_lt_zero _)
  | .every p s e, k + 1, hp, h => by
    rw [call_eq (fn := fn_law_tail) rfl rfl]
    cases e with
    | none => simp only [fn_law_tail, Cal.d, Cal.tl, Cal.pd, optD, E_nm, E_ct, E_gl, E_tup, E_bop, E_neg, E_not, E_and, E_or, E_cmp, E_chn, E_ite, E_ix, E_sl, E_call, E_bi, E_me, E_al, E_st, T_and, T_or, T_not, T_nm, T_cmp, T_chn, T_ix, T_call, T_bi,
 Es_nil, Es_cons, P_none, P_some, A_lst, A_ba, A_rv, A_dic, D_nil, D_cons, A_lc, C_none, C_some, I_sq, I_rg, I_zp, S_asg, S_par, S_ret, S_ifs, S_ex, S_for, S_retn, S_brk, S_cnt, S_pas, S_setx, Ss_nil, Ss_cons,
 bnd_some, obd_some, cnd_some, ifT_some, bnd_cond, ifT_cond, seq_nx, seq_rt, seq_bk, seq_ct, seq_cond, res_nx, res_rt, res_cond, slot_v, slot_own, cAnd, cOr, cAndT, cOrT, fixR_d, fixR_l,
 B_add, B_sub, C_lt, C_le, C_gt, C_ge, C_eqI, C_neI, C_eqS, C_neS, C_eqB, C_neB, C_isNN, C_isIN, C_isTN, C_isnNN, C_isnIN, R_b, R_i, X_t, X_l, at0, at1, at2, at3, tup1, tup2, tup3, tup4,
 biInt, biAbs, biMin2, biLenL, biLenT, biTupL, str_inj, asg_d, asg_l, asgs_nil, asgs_cons, mapNm,
 gz, gs, sz, ss, mc, mn, ac, an, rc, rz, om, Nat.sub_self, Nat.reduceSub, Nat.reduceAdd, reduceCtorEq, String.reduceEq, decide_true, decide_false, cond_true, cond_false, Bool.not_true, Bool.not_false, Bool.true_and, Bool.false_and, Bool.and_true, Bool.and_false, Bool.or_true, Bool.or_false, Bool.true_or, Bool.false_or, Bool.not_not]
    | some i => simp only [fn_law_tail, Cal.d, Cal.tl, Cal.pd, optD, E_nm, E_ct, E_gl, E_tup, E_bop, E_neg, E_not, E_and, E_or, E_cmp, E_chn, E_ite, E_ix, E_sl, E_call, E_bi, E_me, E_al, E_st, T_and, T_or, T_not, T_nm, T_cmp, T_chn, T_ix, T_call, T_bi,
 Es_nil, Es_cons, P_none, P_some, A_lst, A_ba, A_rv, A_dic, D_nil, D_cons, A_lc, C_none, C_some, I_sq, I_rg, I_zp, S_asg, S_par, S_ret, S_ifs, S_ex, S_for, S_retn, S_brk, S_cnt, S_pas, S_setx, Ss_nil, Ss_cons,
 bnd_some, obd_some, cnd_some, ifT_some, bnd_cond, ifT_cond, seq_nx, seq_rt, seq_bk, seq_ct, seq_cond, res_nx, res_rt, res_cond, slot_v, slot_own, cAnd, cOr, cAndT, cOrT, fixR_d, fixR_l,
 B_add, B_sub, C_lt, C_le, C_gt, C_ge, C_eqI, C_neI, C_eqS, C_neS, C_eqB, C_neB, C_isNN, C_isIN, C_isTN, C_isnNN, C_isnIN, R_b, R_i, X_t, X_l, at0, at1, at2, at3, tup1, tup2, tup3, tup4,
 biInt, biAbs, biMin2, biLenL, biLenT, biTupL, str_inj, asg_d, asg_l, asgs_nil, asgs_cons, mapNm,
 gz, gs, sz, ss, mc, mn, ac, an, rc, rz, om, Nat.sub_self, Nat.reduceSub, Nat.reduceAdd, reduceCtorEq, String.reduceEq, decide_true, decide_false, cond_true, cond_false, Bool.not_true, Bool.not_false, Bool.true_and, Bool.false_and, Bool.and_true, Bool.and_false, Bool.or_true, Bool.or_false, Bool.true_or, Bool.false_or, Bool.not_not]
  | .list ts, k + 1, hp, h => by
    have e1 : (0 - 1 : Int) = -1 := rfl
    rw [call_eq (fn := fn_law_tail) rfl rfl]
    simp only [fn_law_tail, Cal.d, Cal.tl, Cal.pd, E_nm, E_ct, E_gl, E_tup, E_bop, E_neg, E_not, E_and, E_or, E_cmp, E_chn, E_ite, E_ix, E_sl, E_call, E_bi, E_me, E_al, E_st, T_and, T_or, T_not, T_nm, T_cmp, T_chn, T_ix, T_call, T_bi,
 Es_nil, Es_cons, P_none, P_some, A_lst, A_ba, A_rv, A_dic, D_nil, D_cons, A_lc, C_none, C_some, I_sq, I_rg, I_zp, S_asg, S_par, S_ret, S_ifs, S_ex, S_for, S_retn, S_brk, S_cnt, S_pas, S_setx, Ss_nil, Ss_cons,
 bnd_some, obd_some, cnd_some, ifT_some, bnd_cond, ifT_cond, seq_nx, seq_rt, seq_bk, seq_ct, seq_cond, res_nx, res_rt, res_cond, slot_v, slot_own, cAnd, cOr, cAndT, cOrT, fixR_d, fixR_l,
 B_add, B_sub, C_lt, C_le, C_gt, C_ge, C_eqI, C_neI, C_eqS, C_neS, C_eqB, C_neB, C_isNN, C_isIN, C_isTN, C_isnNN, C_isnIN, R_b, R_i, X_t, X_l, at0, at1, at2, at3, tup1, tup2, tup3, tup4,
 biInt, biAbs, biMin2, biLenL, biLenT, biTupL, str_inj, asg_d, asg_l, asgs_nil, asgs_cons, mapNm,
 gz, gs, sz, ss, mc, mn, ac, an, rc, rz, om, Nat.sub_self, Nat.reduceSub, Nat.reduceAdd, reduceCtorEq, String.reduceEq, decide_true, decide_false, cond_true, cond_false, Bool.not_true, Bool.not_false, Bool.true_and, Bool.false_and, Bool.and_true, Bool.and_false, Bool.or_true, Bool.or_false, Bool.true_or, Bool.false_or, Bool.not_not, cat1 hp.1, bi_maxT, e1]
  | .moved c n, k + 1, hp, h => by
    rw [call_eq (fn := fn_law_tail) rfl rfl]
    simp only [fn_law_tail, Cal.d, Cal.tl, Cal.pd, E_nm, E_ct, E_gl, E_tup, E_bop, E_neg, E_not, E_and, E_or, E_cmp, E_chn, E_ite, E_ix, E_sl, E_call, E_bi, E_me, E_al, E_st, T_and, T_or, T_not, T_nm, T_cmp, T_chn, T_ix, T_call, T_bi,
 Es_nil, Es_cons, P_none, P_some, A_lst, A_ba, A_rv, A_dic, D_nil, D_cons, A_lc, C_none, C_some, I_sq, I_rg, I_zp, S_asg, S_par, S_ret, S_ifs, S_ex, S_for, S_retn, S_brk, S_cnt, S_pas, S_setx, Ss_nil, Ss_cons,
 bnd_some, obd_some, cnd_some, ifT_some, bnd_cond, ifT_cond, seq_nx, seq_rt, seq_bk, seq_ct, seq_cond, res_nx, res_rt, res_cond, slot_v, slot_own, cAnd, cOr, cAndT, cOrT, fixR_d, fixR_l,
 B_add, B_sub, C_lt, C_le, C_gt, C_ge, C_eqI, C_neI, C_eqS, C_neS, C_eqB, C_neB, C_isNN, C_isIN, C_isTN, C_isnNN, C_isnIN, R_b, R_i, X_t, X_l, at0, at1, at2, at3, tup1, tup2, tup3, tup4,
 biInt, biAbs, biMin2, biLenL, biLenT, biTupL, str_inj, asg_d, asg_l, asgs_nil, asgs_cons, mapNm,
 gz, gs, sz, ss, mc, mn, ac, an, rc, rz, om, Nat.sub_self, Nat.reduceSub, Nat.reduceAdd, reduceCtorEq, String.reduceEq, decide_true, decide_false, cond_true, cond_false, Bool.not_true, Bool.not_false, Bool.true_and, Bool.false_and, Bool.and_true, Bool.and_false, Bool.or_true, Bool.or_false, Bool.true_or, Bool.false_or, Bool.not_not, callX_of (cl := evCall prog w k) (f := i_law_tail) rfl (ltail_spec st c k hp.1 (by simp only [Cal.ht] at h; omega)), asg_t]
  | .both a b, k + 1, hp, h => by
    have h1 := fun e => callX_of (cl := evCall prog w k) (f := i_law_tail) (xs := [.d a.d]) (e := e) rfl (ltail_spec st a k hp.1 (by simp only [Cal.ht] at h; omega))
    have h2 := fun e => callX_of (cl := evCall prog w k) (f := i_law_tail) (xs := [.d b.d]) (e := e) rfl (ltail_spec st b k hp.2 (by simp only [Cal.ht] at h; omega))
    rw [call_eq (fn := fn_law_tail) rfl rfl]
    simp only [fn_law_tail, Cal.d, Cal.tl, biMax, E_nm, E_ct, E_gl, E_tup, E_bop, E_neg, E_not, E_and, E_or, E_cmp, E_chn, E_ite, E_ix, E_sl, E_call, E_bi, E_me, E_al, E_st, T_and, T_or, T_not, T_nm, T_cmp, T_chn, T_ix, T_call, T_bi,
 Es_nil, Es_cons, P_none, P_some, A_lst, A_ba, A_rv, A_dic, D_nil, D_cons, A_lc, C_none, C_some, I_sq, I_rg, I_zp, S_asg, S_par, S_ret, S_ifs, S_ex, S_for, S_retn, S_brk, S_cnt, S_pas, S_setx, Ss_nil, Ss_cons,
 bnd_some, obd_some, cnd_some, ifT_some, bnd_cond, ifT_cond, seq_nx, seq_rt, seq_bk, seq_ct, seq_cond, res_nx, res_rt, res_cond, slot_v, slot_own, cAnd, cOr, cAndT, cOrT, fixR_d, fixR_l,
 B_add, B_sub, C_lt, C_le, C_gt, C_ge, C_eqI, C_neI, C_eqS, C_neS, C_eqB, C_neB, C_isNN, C_isIN, C_isTN, C_isnNN, C_isnIN, R_b, R_i, X_t, X_l, at0, at1, at2, at3, tup1, tup2, tup3, tup4,
 biInt, biAbs, biMin2, biLenL, biLenT, biTupL, str_inj, asg_d, asg_l, asgs_nil, asgs_cons, mapNm,
 gz, gs, sz, ss, mc, mn, ac, an, rc, rz, om, Nat.sub_self, Nat.reduceSub, Nat.reduceAdd, reduceCtorEq, String.reduceEq, decide_true, decide_false, cond_true, cond_false, Bool.not_true, Bool.not_false, Bool.true_and, Bool.false_and, Bool.and_true, Bool.and_false, Bool.or_true, Bool.or_false, Bool.true_or, Bool.false_or, Bool.not_not, h1, h2]
  | .common a b, k + 1, hp, h => by
    have h1 := fun e => callX_of (cl := evCall prog w k) (f := i_law_tail) (xs := [.d a.d]) (e := e) rfl (ltail_spec st a k hp.1 (by simp only [Cal.ht] at h; omega))
    have h2 := fun e => callX_of (cl := evCall prog w k) (f := i_law_tail) (xs := [.d b.d]) (e := e) rfl (ltail_spec st b k hp.2 (by simp only [Cal.ht] at h; omega))
    rw [call_eq (fn := fn_law_tail) rfl rfl]
    simp only [fn_law_tail, Cal.d, Cal.tl, biMax, E_nm, E_ct, E_gl, E_tup, E_bop, E_neg, E_not, E_and, E_or, E_cmp, E_chn, E_ite, E_ix, E_sl, E_call, E_bi, E_me, E_al, E_st, T_and, T_or, T_not, T_nm, T_cmp, T_chn, T_ix, T_call, T_bi,
 Es_nil, Es_cons, P_none, P_some, A_lst, A_ba, A_rv, A_dic, D_nil, D_cons, A_lc, C_none, C_some, I_sq, I_rg, I_zp, S_asg, S_par, S_ret, S_ifs, S_ex, S_for, S_retn, S_brk, S_cnt, S_pas, S_setx, Ss_nil, Ss_cons,
 bnd_some, obd_some, cnd_some, ifT_some, bnd_cond, ifT_cond, seq_nx, seq_rt, seq_bk, seq_ct, seq_cond, res_nx, res_rt, res_cond, slot_v, slot_own, cAnd, cOr, cAndT, cOrT, fixR_d, fixR_l,
 B_add, B_sub, C_lt, C_le, C_gt, C_ge, C_eqI, C_neI, C_eqS, C_neS, C_eqB, C_neB, C_isNN, C_isIN, C_isTN, C_isnNN, C_isnIN, R_b, R_i, X_t, X_l, at0, at1, at2, at3, tup1, tup2, tup3, tup4,
 biInt, biAbs, biMin2, biLenL, biLenT, biTupL, str_inj, asg_d, asg_l, asgs_nil, asgs_cons, mapNm,
 gz, gs, sz, ss, mc, mn, ac, an, rc, rz, om, Nat.sub_self, Nat.reduceSub, Nat.reduceAdd, reduceCtorEq, String.reduceEq, decide_true, decide_false, cond_true, cond_false, Bool.not_true, Bool.not_false, Bool.true_and, Bool.false_and, Bool.and_true, Bool.and_false, Bool.or_true, Bool.or_false, Bool.true_or, Bool.false_or, Bool.not_not, h1, h2]
  | .without a b, k + 1, hp, h => by
    have h1 := fun e => callX_of (cl := evCall prog w k) (f := i_law_tail) (xs := [.d a.d]) (e := e) rfl (ltail_spec st a k hp.1 (by simp only [Cal.ht] at h; omega))
    have h2 := fun e => callX_of (cl := evCall prog w k) (f := i_law_tail) (xs := [.d b.d]) (e := e) rfl (ltail_spec st b k hp.2 (by simp only [Cal.ht] at h; omega))
    rw [call_eq (fn := fn_law_tail) rfl rfl]
    simp only [fn_law_tail, Cal.d, Cal.tl, biMax, E_nm, E_ct, E_gl, E_tup, E_bop, E_neg, E_not, E_and, E_or, E_cmp, E_chn, E_ite, E_ix, E_sl, E_call, E_bi, E_me, E_al, E_st, T_and, T_or, T_not, T_nm, T_cmp, T_chn, T_ix, T_call, T_bi,
 Es_nil, Es_cons, P_none, P_some, A_lst, A_ba, A_rv, A_dic, D_nil, D_cons, A_lc, C_none, C_some, I_sq, I_rg, I_zp, S_asg, S_par, S_ret, S_ifs, S_ex, S_for, S_retn, S_brk, S_cnt, S_pas, S_setx, Ss_nil, Ss_cons,
 bnd_some, obd_some, cnd_some, ifT_some, bnd_cond, ifT_cond, seq_nx, seq_rt, seq_bk, seq_ct, seq_cond, res_nx, res_rt, res_cond, slot_v, slot_own, cAnd, cOr, cAndT, cOrT, fixR_d, fixR_l,
 B_add, B_sub, C_lt, C_le, C_gt, C_ge, C_eqI, C_neI, C_eqS, C_neS, C_eqB, C_neB, C_isNN, C_isIN, C_isTN, C_isnNN, C_isnIN, R_b, R_i, X_t, X_l, at0, at1, at2, at3, tup1, tup2, tup3, tup4,
 biInt, biAbs, biMin2, biLenL, biLenT, biTupL, str_inj, asg_d, asg_l, asgs_nil, asgs_cons, mapNm,
 gz, gs, sz, ss, mc, mn, ac, an, rc, rz, om, Nat.sub_self, Nat.reduceSub, Nat.reduceAdd, reduceCtorEq, String.reduceEq, decide_true, decide_false, cond_true, cond_false, Bool.not_true, Bool.not_false, Bool.true_and, Bool.false_and, Bool.and_true, Bool.and_false, Bool.or_true, Bool.or_false, Bool.true_or, Bool.false_or, Bool.not_not, h1, h2]
end K52

namespace K52
open PySem EV L2

/-! ### find in a range -/
theorem find_rgI {p : Int → Bool} : ∀ {n : Nat} {lo : Int}, (∃ u, (rgI lo n).find? p = some u ∧ p u = true ∧ lo ≤ u ∧ u < lo + n ∧ ∀ v, lo ≤ v → v < u → p v = false) ∨
    ((rgI lo n).find? p = none ∧ ∀ v, lo ≤ v → v < lo + n → p v = false)
  | 0, lo => .inr ⟨rfl, fun v h1 h2 => by omega⟩
  | n + 1, lo => by
    rw [rgI, List.find?_cons]
    cases hp : p lo with
    | true => exact .inl ⟨lo, rfl, hp, Int.le_refl _, by push_cast; omega, fun v h1 h2 => by omega⟩
    | false =>
      rcases find_rgI (p := p) (n := n) (lo := lo + 1) with ⟨u, h1, h2, h3, h4, h5⟩ | ⟨h1, h2⟩
      · refine .inl ⟨u, h1, h2, by omega, by push_cast; omega, fun v h6 h7 => ?_⟩
        by_cases e : v = lo
        · rw [e]; exact hp
        · exact h5 v (by omega) h7
      · refine .inr ⟨h1, fun v h6 h7 => ?_⟩
        by_cases e : v = lo
        · rw [e]; exact hp
        · exact h2 v (by omega) (by push_cast at h7; omega)
def optX : Option Int → X
  | none => .d .none
  | some i => .d (.int i)
/-- the next time -/
def Cal.nx (c : Cal) (t : Int) : Option Int := (rgI t (mx t c.tl + c.pd - t).toNat).find? c.has
theorem ok62_of {i : Int} (h1 : 0 ≤ i) (h2 : i < 1000000000) : ok62 i := by
  unfold ok62
  constructor <;> omega
theorem per_all {f : Int → Bool} {n : Int} {q : Nat} (hq : 0 < q) (h : Per f n q) {m : Int} (hm : n ≤ m) (hf : ∀ v, m ≤ v → v < m + q → f v = false) : ∀ v, m ≤ v → f v = false := by
  intro v hv
  have e : v = m + ((v - m) % q) + ((q * ((v - m) / q).toNat : Nat) : Int) := by
    have h1 := Int.emod_add_mul_ediv (v - m) q
    have h2 : 0 ≤ (v - m) / (q : Int) := Int.ediv_nonneg (by omega) (by omega)
    push_cast
    rw [Int.toNat_of_nonneg h2]
    omega
  have h3 : 0 ≤ (v - m) % (q : Int) := Int.emod_nonneg _ (by omega)
  have h4 : (v - m) % (q : Int) < q := Int.emod_lt_of_pos _ (by omega)
  rw [e, h.mul _ _ (by omega)]
  exact hf _ (by omega) (by omega)
/-- what the next time is -/
theorem Cal.nx_is {c : Cal} (hc : c.wf) (t : Int) : (∃ u, c.nx t = some u ∧ c.has u = true ∧ t ≤ u ∧ u < mx t c.tl + c.pd ∧ ∀ v, t ≤ v → v < u → c.has v = false) ∨ (c.nx t = none ∧ ∀ v, t ≤ v → c.has v = false) := by
  have hm := mx_le (i := t) (j := c.tl)
  have hp := hc.pd.1
  unfold Cal.nx
  rcases find_rgI (p := c.has) (n := (mx t c.tl + c.pd - t).toNat) (lo := t) with ⟨u, h1, h2, h3, h4, h5⟩ | ⟨h1, h2⟩
  · exact .inl ⟨u, h1, h2, h3, by omega, h5⟩
  · refine .inr ⟨h1, fun v hv => ?_⟩
    by_cases hl : v < mx t c.tl + c.pd
    · exact h2 v hv (by omega)
    · exact per_all hp ((Cal.per hc).mono hm.2) (Int.le_refl _) (fun u h3 h4 => h2 u (by omega) (by omega)) v (by omega)

/-! ### lists of Booleans -/
theorem eqv_bools : ∀ {bs cs : List Bool}, PyData.eqvAll (bs.map .bool) (cs.map .bool) = decide (bs = cs)
  | [], [] => by simp [PyData.eqvAll]
  | [], c :: cs => by simp [PyData.eqvAll]
  | b :: bs, [] => by simp [PyData.eqvAll]
  | b :: bs, c :: cs => by
    simp only [List.map_cons, PyData.eqvAll, eqv_bools, PyData.eqv]
    by_cases h1 : b = c <;> by_cases h2 : bs = cs <;> simp [h1, h2]
theorem shaped_bools {bs : List Bool} : SeqAt.shaped (.list (bs.map .bool)) = true := by
  have h1 : PyData.canLayAll0 (bs.map .bool) = true := by
    induction bs with
    | nil => rfl
    | cons b bs ih => simp [PyData.canLayAll0, PyData.canLay0, ih]
  have h2 : PyData.depthAll (bs.map .bool) ≤ 1 := by
    clear h1
    induction bs with
    | nil => simp [PyData.depthAll]
    | cons b bs ih =>
      simp only [List.map_cons, PyData.depthAll, PyData.depth]
      omega
  simp only [SeqAt.shaped, PyData.canLay0, PyData.depth, h1, Bool.true_and]
  exact decide_eq_true (by omega)
theorem C_eqBs {e : Lo} {s : Sto} {bs cs : List Bool} : cmpX e s .eq (.d (.list (bs.map .bool))) (.d (.list (cs.map .bool))) = some (decide (bs = cs)) := by
  rw [C_eqD shaped_bools shaped_bools, PyData.eqv, eqv_bools]
/-- what is told of a stretch -/
def Cal.told (c : Cal) (lo : Int) (n : Nat) : List Bool := (rgI lo n).map c.has
end K52

namespace K52
open PySem EV L2

theorem drop_rgI : ∀ {k n : Nat} {lo : Int}, (rgI lo n).drop k = rgI (lo + k) (n - k)
  | 0, n, lo => by simp
  | k + 1, 0, lo => by simp [rgI]
  | k + 1, n + 1, lo => by
    rw [rgI, List.drop_succ_cons, drop_rgI]
    have e1 : lo + 1 + (k : Int) = lo + ((k + 1 : Nat) : Int) := by push_cast; omega
    have e2 : n + 1 - (k + 1) = n - k := by omega
    rw [e1, e2]
theorem take_rgI : ∀ {k n : Nat} {lo : Int}, k ≤ n → (rgI lo n).take k = rgI lo k
  | 0, n, lo, _ => by simp [rgI]
  | k + 1, 0, lo, h => by omega
  | k + 1, n + 1, lo, h => by rw [rgI, List.take_succ_cons, take_rgI (by omega), rgI]
theorem sIx_of {n d : Nat} {i : Int} (h0 : 0 ≤ i) (h1 : i ≤ n) : HT.sIx n d (some i) = i.toNat := by
  obtain ⟨j, rfl⟩ := Int.eq_ofNat_of_zero_le h0
  rw [HT.sIx_nat, Int.toNat_natCast]
  omega
theorem Cal.told_len {c : Cal} {lo : Int} {n : Nat} : (c.told lo n).length = n := by simp [Cal.told, len_rgI]
theorem sl_told {e : Lo} {s : Sto} {c : Cal} {N : Nat} {a b : Int} (h0 : 0 ≤ a) (h1 : a ≤ b) (h2 : b ≤ N) : slX e s (.d (.list ((c.told 0 N).map .bool))) (some a) (some b) = some (.list ((c.told a (b - a).toNat).map .bool)) := by
  show some (PyData.list (cutD ((c.told 0 N).map .bool) (some a) (some b))) = _
  have hl : ((c.told 0 N).map PyData.bool).length = N := by rw [List.length_map, Cal.told_len]
  unfold cutD
  rw [hl, sIx_of h0 (by omega), sIx_of (by omega) h2, ← List.map_drop, ← List.map_take]
  unfold Cal.told
  rw [← List.map_drop, ← List.map_take, drop_rgI]
  have e : b.toNat - a.toNat = (b - a).toNat := by omega
  rw [e, take_rgI (by omega)]
  have e2 : (0 : Int) + (a.toNat : Int) = a := by omega
  rw [e2]
theorem sl_take {e : Lo} {s : Sto} {c : Cal} {lo : Int} {N : Nat} {b : Int} (h1 : 0 ≤ b) (h2 : b ≤ N) : slX e s (.d (.list ((c.told lo N).map .bool))) none (some b) = some (.list (((c.told lo N).take b.toNat).map .bool)) := by
  show some (PyData.list (cutD ((c.told lo N).map .bool) none (some b))) = _
  have hl : ((c.told lo N).map PyData.bool).length = N := by rw [List.length_map, Cal.told_len]
  unfold cutD
  rw [hl, HT.sIx_none, sIx_of h1 h2, List.drop_zero, Nat.sub_zero, ← List.map_take]
theorem B_rep {e : Lo} {s : Sto} {bs : List Bool} {k : Int} (h0 : 0 ≤ k) (h1 : k < 1000000) (h2 : bs.length * k.toNat ≤ 16777216) :
    bopX .mul e s (.d (.list (bs.map .bool))) (.d (.int k)) = some (.d (.list ((List.replicate k.toNat bs).flatten.map .bool))) := by
  have h3 : in63 k = true := by
    simp only [in63, Bool.and_eq_true, decide_eq_true_eq]
    constructor <;> omega
  have h4 : (bs.map PyData.bool).length * k.toNat ≤ sizeLine := by
    rw [List.length_map]
    exact Nat.le_trans h2 (by decide)
  have h5 : (List.replicate k.toNat (bs.map PyData.bool)).flatten = (List.replicate k.toNat bs).flatten.map .bool := by
    rw [List.map_flatten, List.map_replicate]
  simp only [bopX, toD, bopD, h3, h4, decide_true, Bool.and_self, if_true, h5]
theorem flat_get {α : Type} {xs : List α} : ∀ {m i : Nat}, i < m * xs.length → ((List.replicate m xs).flatten)[i]? = xs[i % xs.length]?
  | 0, i, h => by omega
  | m + 1, i, h => by
    rw [List.replicate_succ, List.flatten_cons]
    by_cases hi : i < xs.length
    · rw [List.getElem?_append_left hi, Nat.mod_eq_of_lt hi]
    · have hx : 0 < xs.length := by
        rcases Nat.eq_zero_or_pos xs.length with z | z
        · rw [z] at h
          omega
        · exact z
      have h' : i - xs.length < m * xs.length := by
        rw [Nat.succ_mul] at h
        omega
      rw [List.getElem?_append_right (by omega), flat_get h', ← Nat.mod_eq_sub_mod (by omega)]
theorem told_get {c : Cal} {lo : Int} {n i : Nat} (h : i < n) : (c.told lo n)[i]? = some (c.has (lo + i)) := by
  unfold Cal.told
  rw [List.getElem?_map, rgI_get h]
  rfl
/-- a window that is its own beginning again and again -/
theorem rep_iff {c : Cal} {n : Int} {w q : Nat} (hw : 0 < w) (hq : 0 < q) (hp : Per c.has n w) (hd : q ∣ w) : c.told n w = (List.replicate (w / q) ((c.told n w).take q)).flatten ↔ Per c.has n q := by
  have hqw : q ≤ w := Nat.le_of_dvd hw hd
  have hl : ((c.told n w).take q).length = q := by rw [List.length_take, Cal.told_len]; omega
  have hm : w / q * q = w := Nat.div_mul_cancel hd
  have get : ∀ i, i < w → ((List.replicate (w / q) ((c.told n w).take q)).flatten)[i]? = some (c.has (n + ((i % q : Nat) : Int))) := fun i hi => by
    have h1 : i % q < q := Nat.mod_lt _ hq
    rw [flat_get (by rw [hl, hm]; exact hi), hl, List.getElem?_take_of_lt h1, told_get (by omega)]
  constructor
  · intro h
    have h1 : ∀ i, i < w → c.has (n + i) = c.has (n + ((i % q : Nat) : Int)) := fun i hi => by
      have h2 := get i hi
      rw [← h, told_get hi] at h2
      exact Option.some.inj h2
    have h2 : ∀ j : Nat, c.has (n + j) = c.has (n + ((j % q : Nat) : Int)) := fun j => by
      have e : (n + (j : Int)) = (n + ((j % w : Nat) : Int)) + ((w * (j / w) : Nat) : Int) := by
        have := Nat.mod_add_div j w
        omega
      rw [e, hp.mul _ _ (by omega), h1 _ (Nat.mod_lt _ hw), Nat.mod_mod_of_dvd _ hd]
    intro t ht
    have e1 : t + (q : Int) = n + (((t - n).toNat + q : Nat) : Int) := by push_cast; omega
    have e2 : t = n + (((t - n).toNat : Nat) : Int) := by omega
    rw [e1, h2, Nat.add_mod_right, ← h2, ← e2]
  · intro h
    apply List.ext_getElem?
    intro i
    by_cases hi : i < w
    · rw [get i hi, told_get hi]
      congr 1
      have e : (n + (i : Int)) = (n + ((i % q : Nat) : Int)) + ((q * (i / q) : Nat) : Int) := by
        have := Nat.mod_add_div i q
        omega
      rw [e, h.mul _ _ (by omega)]
    · rw [List.getElem?_eq_none (by rw [Cal.told_len]; omega), List.getElem?_eq_none]
      rw [List.length_flatten, List.map_replicate, List.sum_replicate_nat, hl, hm]
      omega
/-- a window that is the same a bit later -/
theorem win_iff {c : Cal} {n m : Int} {k : Nat} : c.told n k = c.told m k ↔ ∀ i : Nat, i < k → c.has (n + i) = c.has (m + i) := by
  constructor
  · intro h i hi
    have h1 := told_get (c := c) (lo := n) hi
    rw [h, told_get hi] at h1
    exact (Option.some.inj h1).symm
  · intro h
    apply List.ext_getElem?
    intro i
    by_cases hi : i < k
    · rw [told_get hi, told_get hi, h i hi]
    · rw [List.getElem?_eq_none (by rw [Cal.told_len]; omega), List.getElem?_eq_none (by rw [Cal.told_len]; omega)]
theorem win_per {c : Cal} {n : Int} {w q : Nat} (hw : 0 < w) (hp : Per c.has n w) : c.told n w = c.told (n + q) w ↔ Per c.has n q := by
  rw [win_iff]
  constructor
  · intro h t ht
    have e : t = (n + (((t - n).toNat % w : Nat) : Int)) + ((w * ((t - n).toNat / w) : Nat) : Int) := by
      have := Nat.mod_add_div (t - n).toNat w
      omega
    have e2 : t + (q : Int) = (n + q + (((t - n).toNat % w : Nat) : Int)) + ((w * ((t - n).toNat / w) : Nat) : Int) := by omega
    have h1 := h _ (Nat.mod_lt (t - n).toNat hw)
    rw [e2, hp.mul _ _ (by omega), ← h1]
    have h2 := hp.mul ((t - n).toNat / w) (n + (((t - n).toNat % w : Nat) : Int)) (by omega)
    rw [← e] at h2
    exact h2.symm
  · intro h i hi
    have e : n + (q : Int) + (i : Int) = n + i + q := by omega
    rw [e, h _ (by omega)]
/-- periods: the least that divides one divides each -/
theorem Per.sub {f : Int → Bool} {n : Int} {p q : Nat} (h : Per f n p) (k : Per f n q) (hl : q ≤ p) : Per f n (p - q) := fun t ht => by
  have e : t + (p : Int) = (t + ((p - q : Nat) : Int)) + q := by omega
  have h1 := h t ht
  rw [e, k _ (by omega)] at h1
  exact h1
theorem Per.gcd {f : Int → Bool} {n : Int} : ∀ (m p q : Nat), p + q ≤ m → Per f n p → Per f n q → Per f n (Nat.gcd p q)
  | 0, p, q, hm, h, k => by
    have h1 : p = 0 := by omega
    have h2 : q = 0 := by omega
    subst h1 h2
    exact h
  | m + 1, p, q, hm, h, k => by
    by_cases hp : p = 0
    · subst hp
      rwa [Nat.gcd_zero_left]
    · by_cases hq : q = 0
      · subst hq
        rwa [Nat.gcd_zero_right]
      · by_cases hl : q ≤ p
        · have := Per.gcd m (p - q) q (by omega) (h.sub k hl) k
          rwa [Nat.gcd_sub_self_left hl] at this
        · have := Per.gcd m p (q - p) (by omega) h (k.sub h (by omega))
          rwa [Nat.gcd_sub_self_right (by omega)] at this
def IsQ (f : Int → Bool) (n : Int) (w q : Nat) : Prop := 0 < q ∧ q ∣ w ∧ Per f n q ∧ ∀ r, 0 < r → r ∣ w → Per f n r → q ≤ r
theorem IsQ.uniq {f : Int → Bool} {n : Int} {w v q r : Nat} (hw : 0 < w) (hwv : w ∣ v) (h : IsQ f n w q) (k : IsQ f n v r) : q = r := by
  obtain ⟨h1, h2, h3, h4⟩ := h
  obtain ⟨k1, k2, k3, k4⟩ := k
  have a1 : r ≤ q := k4 q h1 (Nat.dvd_trans h2 hwv) h3
  have g : Per f n (Nat.gcd r q) := Per.gcd _ r q (Nat.le_refl _) k3 h3
  have a2 : q ≤ Nat.gcd r q := h4 _ (Nat.gcd_pos_of_pos_right _ h1) (Nat.dvd_trans (Nat.gcd_dvd_right _ _) h2) g
  have a3 : Nat.gcd r q ≤ r := Nat.gcd_le_left _ k1
  omega
/-- how far down it repeats -/
def down (f : Int → Bool) (q : Nat) : Nat → Nat
  | 0 => 0
  | m + 1 => if f m == f (m + q) then down f q m else m + 1
theorem down_spec {f : Int → Bool} {q : Nat} : ∀ n : Nat, down f q n ≤ n ∧ (∀ t : Nat, down f q n ≤ t → t < n → f t = f (t + q)) ∧ (∀ d : Nat, down f q n = d + 1 → f d ≠ f (d + q))
  | 0 => ⟨Nat.le_refl _, fun t h1 h2 => by omega, fun d h => by cases h⟩
  | m + 1 => by
    obtain ⟨h1, h2, h3⟩ := down_spec (f := f) (q := q) m
    unfold down
    split
    · rename_i h
      refine ⟨by omega, fun t h4 h5 => ?_, h3⟩
      by_cases e : t = m
      · subst e
        exact eq_of_beq h
      · exact h2 t h4 (by omega)
    · rename_i h
      refine ⟨Nat.le_refl _, fun t h4 h5 => by omega, fun d e z => h ?_⟩
      have : d = m := by omega
      subst this
      exact beq_of_eq z
end K52

namespace K52
open PySem EV L2

theorem filter_find {p : Int → Bool} : ∀ {n : Nat} {lo u : Int}, (rgI lo n).find? p = some u → ∃ r, (rgI lo n).filter p = u :: r ∧ ∀ y ∈ r, u ≤ y
  | 0, lo, u, h => by cases h
  | n + 1, lo, u, h => by
    rw [rgI, List.find?_cons] at h
    rw [rgI, List.filter_cons]
    cases hp : p lo with
    | true =>
      rw [hp] at h
      cases h
      refine ⟨(rgI (lo + 1) n).filter p, by simp, fun y hy => ?_⟩
      have := mem_rgI.mp (List.mem_filter.mp hy).1
      omega
    | false =>
      rw [hp] at h
      simpa using filter_find (p := p) h
theorem min_find {e : Lo} {s : Sto} {p : Int → Bool} {n : Nat} {lo u : Int} (h : (rgI lo n).find? p = some u) : biX e s .min1 [.d (.list (((rgI lo n).filter p).map .int))] = some (.int u) := by
  obtain ⟨r, h1, h2⟩ := filter_find h
  rw [h1]
  have h3 : intsD ((u :: r).map .int) = some (u :: r) := intsD_of
  have h4 : r.foldl (fun a y => if y < a then y else a) u = u := by
    clear h1 h3 h
    induction r with
    | nil => rfl
    | cons y r ih =>
      rw [List.foldl_cons]
      have h5 : ¬ y < u := by have := h2 y List.mem_cons_self; omega
      rw [if_neg h5]
      exact ih fun z hz => h2 z (List.mem_cons_of_mem _ hz)
  simp only [biX, oneX, toD, bi1, itemsD, h3, minI, h4]
  rfl
theorem at_find {p : Int → Bool} {n : Nat} {lo u : Int} (h : (rgI lo n).find? p = some u) : atI (((rgI lo n).filter p).map PyData.int) 0 = some (.int u) := by
  obtain ⟨r, h1, h2⟩ := filter_find h
  rw [h1]
  exact at0
theorem told_map {c : Cal} {lo : Int} {n : Nat} : ((rgI lo n).filter fun _ => true).map (fun t => PyData.bool (c.has t)) = (c.told lo n).map .bool := by
  unfold Cal.told
  rw [List.filter_eq_self.mpr (fun _ _ => rfl), List.map_map]
  rfl
/-- the program's test of a period -/
def pr (c : Cal) (q : Int) : Bool := decide ((c.pd : Int).fmod q = 0) && decide (c.told c.tl c.pd = (List.replicate ((c.pd : Int).fdiv q).toNat ((c.told c.tl c.pd).take q.toNat)).flatten)
theorem pr_iff {c : Cal} (hc : c.wf) {q : Nat} (hq : 0 < q) : pr c q = true ↔ q ∣ c.pd ∧ Per c.has c.tl q := by
  unfold pr
  rw [Bool.and_eq_true, decide_eq_true_eq, decide_eq_true_eq, nmod, ndiv, Int.toNat_natCast, Int.toNat_natCast]
  have e : (((c.pd % q : Nat) : Int) = 0) ↔ q ∣ c.pd := by
    rw [Nat.dvd_iff_mod_eq_zero]
    omega
  rw [e]
  constructor
  · rintro ⟨h1, h2⟩
    exact ⟨h1, (rep_iff hc.pd.1 hq (Cal.per hc) h1).mp h2⟩
  · rintro ⟨h1, h2⟩
    exact ⟨h1, (rep_iff hc.pd.1 hq (Cal.per hc) h1).mpr h2⟩
theorem find_isQ {f : Int → Bool} {n : Int} {w m : Nat} {p : Int → Bool} (hm : w ≤ m) (hw : 0 < w) (hw2 : Per f n w) (hp : ∀ q : Nat, 0 < q → q ≤ m → (p q = true ↔ q ∣ w ∧ Per f n q)) : ∃ q : Nat, (rgI 1 m).find? p = some (q : Int) ∧ IsQ f n w q ∧ q ≤ m := by
  rcases find_rgI (p := p) (n := m) (lo := 1) with ⟨u, h1, h2, h3, h4, h5⟩ | ⟨h1, h2⟩
  · obtain ⟨q, rfl⟩ := Int.eq_ofNat_of_zero_le (show 0 ≤ u by omega)
    have hq : 0 < q := by omega
    obtain ⟨a1, a2⟩ := (hp q hq (by omega)).mp h2
    refine ⟨q, h1, ⟨hq, a1, a2, fun r r1 r2 r3 => ?_⟩, by omega⟩
    have hr : r ≤ w := Nat.le_of_dvd hw r2
    rcases Nat.lt_or_ge r q with z | z
    · have := h5 r (by omega) (by omega)
      rw [(hp r r1 (by omega)).mpr ⟨r2, r3⟩] at this
      cases this
    · exact z
  · have := h2 (w : Int) (by omega) (by omega)
    rw [(hp w hw hm).mpr ⟨Nat.dvd_refl _, hw2⟩] at this
    cases this
theorem rep_spec {w : Nat} (st : Sto) (hw : 300000 < w) {c : Cal} {k : Nat} (hc : c.wf) (hk : c.ht + 3 < k) (hh : c.ht ≤ 100) :
    ∃ q : Nat, IsQ c.has c.tl c.pd q ∧ q ≤ 420 ∧ evCall prog w k i_repeats [.d c.d] st = some (.d (.tuple [.int (down c.has q c.tl.toNat : Nat), .int q]), st) := by
  obtain ⟨k, rfl⟩ : ∃ j, k = j + 1 := ⟨k - 1, by omega⟩
  have htl := hc.tl
  have hpd := hc.pd420
  have hp0 := hc.pd.1
  obtain ⟨q, hf, hq, hqm⟩ := find_isQ (p := pr c) (Nat.le_refl _) hp0 (Cal.per hc) fun q h _ => pr_iff hc h
  refine ⟨q, hq, by omega, ?_⟩
  have h1 := fun e => callX_of (cl := evCall prog w k) (f := i_tail_of) (xs := [.d c.d]) (e := e) rfl (tail_spec st (by omega) c k hc (by omega))
  have h2 := fun e n => callX_of (cl := evCall prog w k) (f := i_has_time) (xs := [.d c.d, .d (.int n)]) (e := e) rfl (has_spec w st c k n hc.ok (by omega))
  have o1 := in62_ok (ok62_of htl.1 (by omega))
  have o2 := in62_ok (ok62_of (i := c.tl + c.pd) (by omega) (by omega))
  have o3 := in62_ok (ok62_of (i := 1) (by omega) (by omega))
  have o4 := in62_ok (ok62_of (i := (c.pd : Int) + 1) (by omega) (by omega))
  have e1 : (c.tl + (c.pd : Int) - c.tl).toNat = c.pd := by omega
  have e2 : ((c.pd : Int) + 1 - 1).toNat = c.pd := by omega
  have t1 := lc_ints (cs := prog.cs) (cl := evCall prog w k) (st := st) (env := [.v (.d c.d), .v (.d (.int c.tl)), .v (.d (.int c.pd)), .no, .no, .no]) (x := .call i_has_time [.nm 0, .nm 5]) (c := none) (i := 5) (it := .rg [.nm 1, .bop .add (.nm 1) (.nm 2)])
    (p := fun _ => true) (g := fun t => .bool (c.has t)) (ns := rgI c.tl c.pd) (by simp only [E_nm, E_ct, E_gl, E_tup, E_bop, E_neg, E_not, E_and, E_or, E_cmp, E_chn, E_ite, E_ix, E_sl, E_call, E_bi, E_me, E_al, E_st, T_and, T_or, T_not, T_nm, T_cmp, T_chn, T_ix, T_call, T_bi,
 Es_nil, Es_cons, P_none, P_some, A_lst, A_ba, A_rv, A_dic, D_nil, D_cons, C_none, C_some, I_sq, I_rg, I_zp, S_asg, S_par, S_ret, S_ifs, S_ex, S_for, S_retn, S_brk, S_cnt, S_pas, S_setx, Ss_nil, Ss_cons,
 bnd_some, obd_some, cnd_some, ifT_some, bnd_cond, ifT_cond, seq_nx, seq_rt, seq_bk, seq_ct, seq_cond, res_nx, res_rt, res_cond, slot_v, slot_own, cAnd, cOr, cAndT, cOrT, fixR_d, fixR_l,
 B_add, B_sub, C_lt, C_le, C_gt, C_ge, C_eqI, C_neI, C_eqS, C_neS, C_eqB, C_neB, C_isNN, C_isIN, C_isTN, C_isnNN, C_isnIN, R_b, R_i, X_t, X_l, at0, at1, at2, at3, tup1, tup2, tup3, tup4,
 biInt, biAbs, biMin2, biLenL, biLenT, biTupL, str_inj, asg_d, asg_l, asgs_nil, asgs_cons, mapNm,
 gz, gs, sz, ss, mc, mn, ac, an, rc, rz, om, Nat.sub_self, Nat.reduceSub, Nat.reduceAdd, reduceCtorEq, String.reduceEq, decide_true, decide_false, cond_true, cond_false, Bool.not_true, Bool.not_false, Bool.true_and, Bool.false_and, Bool.and_true, Bool.and_false, Bool.or_true, Bool.or_false, Bool.true_or, Bool.false_or, Bool.not_not, rg2 o1 o2, e1]) (by show 5 < 6; decide) rfl (by rw [len_rgI]; exact Nat.le_trans hpd (by decide))
    (fun n _ => by simp only [E_nm, E_ct, E_gl, E_tup, E_bop, E_neg, E_not, E_and, E_or, E_cmp, E_chn, E_ite, E_ix, E_sl, E_call, E_bi, E_me, E_al, E_st, T_and, T_or, T_not, T_nm, T_cmp, T_chn, T_ix, T_call, T_bi,
 Es_nil, Es_cons, P_none, P_some, A_lst, A_ba, A_rv, A_dic, D_nil, D_cons, C_none, C_some, I_sq, I_rg, I_zp, S_asg, S_par, S_ret, S_ifs, S_ex, S_for, S_retn, S_brk, S_cnt, S_pas, S_setx, Ss_nil, Ss_cons,
 bnd_some, obd_some, cnd_some, ifT_some, bnd_cond, ifT_cond, seq_nx, seq_rt, seq_bk, seq_ct, seq_cond, res_nx, res_rt, res_cond, slot_v, slot_own, cAnd, cOr, cAndT, cOrT, fixR_d, fixR_l,
 B_add, B_sub, C_lt, C_le, C_gt, C_ge, C_eqI, C_neI, C_eqS, C_neS, C_eqB, C_neB, C_isNN, C_isIN, C_isTN, C_isnNN, C_isnIN, R_b, R_i, X_t, X_l, at0, at1, at2, at3, tup1, tup2, tup3, tup4,
 biInt, biAbs, biMin2, biLenL, biLenT, biTupL, str_inj, asg_d, asg_l, asgs_nil, asgs_cons, mapNm,
 gz, gs, sz, ss, mc, mn, ac, an, rc, rz, om, Nat.sub_self, Nat.reduceSub, Nat.reduceAdd, reduceCtorEq, String.reduceEq, decide_true, decide_false, cond_true, cond_false, Bool.not_true, Bool.not_false, Bool.true_and, Bool.false_and, Bool.and_true, Bool.and_false, Bool.or_true, Bool.or_false, Bool.true_or, Bool.false_or, Bool.not_not]) (fun n _ _ => by simp only [E_nm, E_ct, E_gl, E_tup, E_bop, E_neg, E_not, E_and, E_or, E_cmp, E_chn, E_ite, E_ix, E_sl, E_call, E_bi, E_me, E_al, E_st, T_and, T_or, T_not, T_nm, T_cmp, T_chn, T_ix, T_call, T_bi,
 Es_nil, Es_cons, P_none, P_some, A_lst, A_ba, A_rv, A_dic, D_nil, D_cons, C_none, C_some, I_sq, I_rg, I_zp, S_asg, S_par, S_ret, S_ifs, S_ex, S_for, S_retn, S_brk, S_cnt, S_pas, S_setx, Ss_nil, Ss_cons,
 bnd_some, obd_some, cnd_some, ifT_some, bnd_cond, ifT_cond, seq_nx, seq_rt, seq_bk, seq_ct, seq_cond, res_nx, res_rt, res_cond, slot_v, slot_own, cAnd, cOr, cAndT, cOrT, fixR_d, fixR_l,
 B_add, B_sub, C_lt, C_le, C_gt, C_ge, C_eqI, C_neI, C_eqS, C_neS, C_eqB, C_neB, C_isNN, C_isIN, C_isTN, C_isnNN, C_isnIN, R_b, R_i, X_t, X_l, at0, at1, at2, at3, tup1, tup2, tup3, tup4,
 biInt, biAbs, biMin2, biLenL, biLenT, biTupL, str_inj, asg_d, asg_l, asgs_nil, asgs_cons, mapNm,
 gz, gs, sz, ss, mc, mn, ac, an, rc, rz, om, Nat.sub_self, Nat.reduceSub, Nat.reduceAdd, reduceCtorEq, String.reduceEq, decide_true, decide_false, cond_true, cond_false, Bool.not_true, Bool.not_false, Bool.true_and, Bool.false_and, Bool.and_true, Bool.and_false, Bool.or_true, Bool.or_false, Bool.true_or, Bool.false_or, Bool.not_not, h2])
  rw [told_map] at t1
  have t2 := lc_ints (cs := prog.cs) (cl := evCall prog w k) (st := st) (env := [.v (.d c.d), .v (.d (.int c.tl)), .v (.d (.int c.pd)), .v (.d (.list ((c.told c.tl c.pd).map .bool))), .no, .no]) (x := .nm 4)
    (c := some (.and (.cmp .eq (.bop .mod (.nm 2) (.nm 4)) (.ct (.int 0))) (.cmp .eq (.nm 3) (.bop .mul (.sl (.nm 3) none (some (.nm 4))) (.bop .fdiv (.nm 2) (.nm 4)))))) (i := 4) (it := .rg [.ct (.int 1), .bop .add (.nm 2) (.ct (.int 1))])
    (p := pr c) (g := fun n => .int n) (ns := rgI 1 c.pd) (by simp only [E_nm, E_ct, E_gl, E_tup, E_bop, E_neg, E_not, E_and, E_or, E_cmp, E_chn, E_ite, E_ix, E_sl, E_call, E_bi, E_me, E_al, E_st, T_and, T_or, T_not, T_nm, T_cmp, T_chn, T_ix, T_call, T_bi,
 Es_nil, Es_cons, P_none, P_some, A_lst, A_ba, A_rv, A_dic, D_nil, D_cons, C_none, C_some, I_sq, I_rg, I_zp, S_asg, S_par, S_ret, S_ifs, S_ex, S_for, S_retn, S_brk, S_cnt, S_pas, S_setx, Ss_nil, Ss_cons,
 bnd_some, obd_some, cnd_some, ifT_some, bnd_cond, ifT_cond, seq_nx, seq_rt, seq_bk, seq_ct, seq_cond, res_nx, res_rt, res_cond, slot_v, slot_own, cAnd, cOr, cAndT, cOrT, fixR_d, fixR_l,
 B_add, B_sub, C_lt, C_le, C_gt, C_ge, C_eqI, C_neI, C_eqS, C_neS, C_eqB, C_neB, C_isNN, C_isIN, C_isTN, C_isnNN, C_isnIN, R_b, R_i, X_t, X_l, at0, at1, at2, at3, tup1, tup2, tup3, tup4,
 biInt, biAbs, biMin2, biLenL, biLenT, biTupL, str_inj, asg_d, asg_l, asgs_nil, asgs_cons, mapNm,
 gz, gs, sz, ss, mc, mn, ac, an, rc, rz, om, Nat.sub_self, Nat.reduceSub, Nat.reduceAdd, reduceCtorEq, String.reduceEq, decide_true, decide_false, cond_true, cond_false, Bool.not_true, Bool.not_false, Bool.true_and, Bool.false_and, Bool.and_true, Bool.and_false, Bool.or_true, Bool.or_false, Bool.true_or, Bool.false_or, Bool.not_not, rg2 o3 o4, e2]) (by show 4 < 6; decide) rfl (by rw [len_rgI]; exact Nat.le_trans hpd (by decide))
    (fun n hn => by
      obtain ⟨n1, n2⟩ := mem_rgI.mp hn
      obtain ⟨m, rfl⟩ := Int.eq_ofNat_of_zero_le (show 0 ≤ n by omega)
      have b1 := fun e s i => B_mod (e := e) (s := s) (i := i) (j := (m : Int)) (by omega)
      have b2 := fun e s i => B_fdiv (e := e) (s := s) (i := i) (j := (m : Int)) (divOk_of (by omega) (by omega))
      have b3 := fun e s => sl_take (e := e) (s := s) (c := c) (lo := c.tl) (N := c.pd) (b := (m : Int)) (by omega) (by omega)
      obtain ⟨r, hr⟩ : ∃ r, c.pd / m = r := ⟨_, rfl⟩
      have b4 : ((c.pd : Int).fdiv m) = (r : Int) := by rw [ndiv, hr]
      have b5 : r ≤ c.pd := by rw [← hr]; exact Nat.div_le_self _ _
      have b6 : ((c.told c.tl c.pd).take (m : Int).toNat).length * (r : Int).toNat ≤ 16777216 := by
        rw [List.length_take, Cal.told_len, Int.toNat_natCast, Int.toNat_natCast]
        have : min m c.pd * r ≤ 420 * 420 := Nat.mul_le_mul (by omega) (by omega)
        omega
      have b7 := fun e s => B_rep (e := e) (s := s) (bs := (c.told c.tl c.pd).take (m : Int).toNat) (k := (r : Int)) (Int.natCast_nonneg r) (by omega) b6
      simp only [E_nm, E_ct, E_gl, E_tup, E_bop, E_neg, E_not, E_and, E_or, E_cmp, E_chn, E_ite, E_ix, E_sl, E_call, E_bi, E_me, E_al, E_st, T_and, T_or, T_not, T_nm, T_cmp, T_chn, T_ix, T_call, T_bi,
 Es_nil, Es_cons, P_none, P_some, A_lst, A_ba, A_rv, A_dic, D_nil, D_cons, C_none, C_some, I_sq, I_rg, I_zp, S_asg, S_par, S_ret, S_ifs, S_ex, S_for, S_retn, S_brk, S_cnt, S_pas, S_setx, Ss_nil, Ss_cons,
 bnd_some, obd_some, cnd_some, ifT_some, bnd_cond, ifT_cond, seq_nx, seq_rt, seq_bk, seq_ct, seq_cond, res_nx, res_rt, res_cond, slot_v, slot_own, cAnd, cOr, cAndT, cOrT, fixR_d, fixR_l,
 B_add, B_sub, C_lt, C_le, C_gt, C_ge, C_eqI, C_neI, C_eqS, C_neS, C_eqB, C_neB, C_isNN, C_isIN, C_isTN, C_isnNN, C_isnIN, R_b, R_i, X_t, X_l, at0, at1, at2, at3, tup1, tup2, tup3, tup4,
 biInt, biAbs, biMin2, biLenL, biLenT, biTupL, str_inj, asg_d, asg_l, asgs_nil, asgs_cons, mapNm,
 gz, gs, sz, ss, mc, mn, ac, an, rc, rz, om, Nat.sub_self, Nat.reduceSub, Nat.reduceAdd, reduceCtorEq, String.reduceEq, decide_true, decide_false, cond_true, cond_false, Bool.not_true, Bool.not_false, Bool.true_and, Bool.false_and, Bool.and_true, Bool.and_false, Bool.or_true, Bool.or_false, Bool.true_or, Bool.false_or, Bool.not_not, b1, b2, b3, b4, b7, C_eqBs, pr])
    (fun n _ _ => by simp only [E_nm, E_ct, E_gl, E_tup, E_bop, E_neg, E_not, E_and, E_or, E_cmp, E_chn, E_ite, E_ix, E_sl, E_call, E_bi, E_me, E_al, E_st, T_and, T_or, T_not, T_nm, T_cmp, T_chn, T_ix, T_call, T_bi,
 Es_nil, Es_cons, P_none, P_some, A_lst, A_ba, A_rv, A_dic, D_nil, D_cons, C_none, C_some, I_sq, I_rg, I_zp, S_asg, S_par, S_ret, S_ifs, S_ex, S_for, S_retn, S_brk, S_cnt, S_pas, S_setx, Ss_nil, Ss_cons,
 bnd_some, obd_some, cnd_some, ifT_some, bnd_cond, ifT_cond, seq_nx, seq_rt, seq_bk, seq_ct, seq_cond, res_nx, res_rt, res_cond, slot_v, slot_own, cAnd, cOr, cAndT, cOrT, fixR_d, fixR_l,
 B_add, B_sub, C_lt, C_le, C_gt, C_ge, C_eqI, C_neI, C_eqS, C_neS, C_eqB, C_neB, C_isNN, C_isIN, C_isTN, C_isnNN, C_isnIN, R_b, R_i, X_t, X_l, at0, at1, at2, at3, tup1, tup2, tup3, tup4,
 biInt, biAbs, biMin2, biLenL, biLenT, biTupL, str_inj, asg_d, asg_l, asgs_nil, asgs_cons, mapNm,
 gz, gs, sz, ss, mc, mn, ac, an, rc, rz, om, Nat.sub_self, Nat.reduceSub, Nat.reduceAdd, reduceCtorEq, String.reduceEq, decide_true, decide_false, cond_true, cond_false, Bool.not_true, Bool.not_false, Bool.true_and, Bool.false_and, Bool.and_true, Bool.and_false, Bool.or_true, Bool.or_false, Bool.true_or, Bool.false_or, Bool.not_not])
  let P : Nat → Lo → Sto → Prop := fun n e s => s = st ∧ e = [.v (.d c.d), .v (.d (.int n)), .v (.d (.int c.pd)), .v (.d (.list ((c.told c.tl c.pd).map .bool))), .v (.d (.int q)), .no] ∧ down c.has q n = down c.has q c.tl.toNat
  let Q : Lo → Sto → Prop := fun e s => s = st ∧ e = [.v (.d c.d), .v (.d (.int (down c.has q c.tl.toNat : Nat))), .v (.d (.int c.pd)), .v (.d (.list ((c.told c.tl c.pd).map .bool))), .v (.d (.int q)), .no]
  obtain ⟨e', s', hl, rfl, rfl⟩ := wh_inv (c := evT prog.cs (evCall prog w k) (.and (.cmp .gt (.nm 1) (.ct (.int 0))) (.cmp .eq (.call i_has_time [.nm 0, .bop .sub (.nm 1) (.ct (.int 1))]) (.call i_has_time [.nm 0, .bop .add (.bop .sub (.nm 1) (.ct (.int 1))) (.nm 4)]))))
    (b := evSs prog.cs (evCall prog w k) w [.aug 1 .sub (.ct (.int 1))]) P Q (fun n e s h => by
    obtain ⟨rfl, rfl, hd⟩ := h
    cases n with
    | zero =>
      left
      refine ⟨_, s, ?_, rfl, rfl⟩
      rw [← hd]
      have z : decide ((0 : Int) < ((0 : Nat) : Int)) = false := rfl
      simp only [E_nm, E_ct, E_gl, E_tup, E_bop, E_neg, E_not, E_and, E_or, E_cmp, E_chn, E_ite, E_ix, E_sl, E_call, E_bi, E_me, E_al, E_st, T_and, T_or, T_not, T_nm, T_cmp, T_chn, T_ix, T_call, T_bi,
 Es_nil, Es_cons, P_none, P_some, A_lst, A_ba, A_rv, A_dic, D_nil, D_cons, C_none, C_some, I_sq, I_rg, I_zp, S_asg, S_par, S_ret, S_ifs, S_ex, S_for, S_retn, S_brk, S_cnt, S_pas, S_setx, Ss_nil, Ss_cons,
 bnd_some, obd_some, cnd_some, ifT_some, bnd_cond, ifT_cond, seq_nx, seq_rt, seq_bk, seq_ct, seq_cond, res_nx, res_rt, res_cond, slot_v, slot_own, cAnd, cOr, cAndT, cOrT, fixR_d, fixR_l,
 B_add, B_sub, C_lt, C_le, C_gt, C_ge, C_eqI, C_neI, C_eqS, C_neS, C_eqB, C_neB, C_isNN, C_isIN, C_isTN, C_isnNN, C_isnIN, R_b, R_i, X_t, X_l, at0, at1, at2, at3, tup1, tup2, tup3, tup4,
 biInt, biAbs, biMin2, biLenL, biLenT, biTupL, str_inj, asg_d, asg_l, asgs_nil, asgs_cons, mapNm,
 gz, gs, sz, ss, mc, mn, ac, an, rc, rz, om, Nat.sub_self, Nat.reduceSub, Nat.reduceAdd, reduceCtorEq, String.reduceEq, decide_true, decide_false, cond_true, cond_false, Bool.not_true, Bool.not_false, Bool.true_and, Bool.false_and, Bool.and_true, Bool.and_false, Bool.or_true, Bool.or_false, Bool.true_or, Bool.false_or, Bool.not_not, z, down]
    | succ m =>
      have z : decide ((0 : Int) < ((m + 1 : Nat) : Int)) = true := decide_eq_true (by omega)
      have z1 : ((m + 1 : Nat) : Int) - 1 = m := by omega
      cases hb : c.has m == c.has (m + q) with
      | false =>
        left
        refine ⟨_, s, ?_, rfl, rfl⟩
        rw [← hd]
        simp only [E_nm, E_ct, E_gl, E_tup, E_bop, E_neg, E_not, E_and, E_or, E_cmp, E_chn, E_ite, E_ix, E_sl, E_call, E_bi, E_me, E_al, E_st, T_and, T_or, T_not, T_nm, T_cmp, T_chn, T_ix, T_call, T_bi,
 Es_nil, Es_cons, P_none, P_some, A_lst, A_ba, A_rv, A_dic, D_nil, D_cons, C_none, C_some, I_sq, I_rg, I_zp, S_asg, S_par, S_ret, S_ifs, S_ex, S_for, S_retn, S_brk, S_cnt, S_pas, S_setx, Ss_nil, Ss_cons,
 bnd_some, obd_some, cnd_some, ifT_some, bnd_cond, ifT_cond, seq_nx, seq_rt, seq_bk, seq_ct, seq_cond, res_nx, res_rt, res_cond, slot_v, slot_own, cAnd, cOr, cAndT, cOrT, fixR_d, fixR_l,
 B_add, B_sub, C_lt, C_le, C_gt, C_ge, C_eqI, C_neI, C_eqS, C_neS, C_eqB, C_neB, C_isNN, C_isIN, C_isTN, C_isnNN, C_isnIN, R_b, R_i, X_t, X_l, at0, at1, at2, at3, tup1, tup2, tup3, tup4,
 biInt, biAbs, biMin2, biLenL, biLenT, biTupL, str_inj, asg_d, asg_l, asgs_nil, asgs_cons, mapNm,
 gz, gs, sz, ss, mc, mn, ac, an, rc, rz, om, Nat.sub_self, Nat.reduceSub, Nat.reduceAdd, reduceCtorEq, String.reduceEq, decide_true, decide_false, cond_true, cond_false, Bool.not_true, Bool.not_false, Bool.true_and, Bool.false_and, Bool.and_true, Bool.and_false, Bool.or_true, Bool.or_false, Bool.true_or, Bool.false_or, Bool.not_not, z, z1, h2, hb, down, Bool.false_eq_true, if_false]
      | true =>
        right
        refine ⟨[.v (.d c.d), .v (.d (.int (m + 1 : Nat))), .v (.d (.int c.pd)), .v (.d (.list ((c.told c.tl c.pd).map .bool))), .v (.d (.int q)), .no], s, [.v (.d c.d), .v (.d (.int m)), .v (.d (.int c.pd)), .v (.d (.list ((c.told c.tl c.pd).map .bool))), .v (.d (.int q)), .no], s, m, ?_, ?_, Nat.lt_succ_self m, rfl, rfl, ?_⟩
        · simp only [E_nm, E_ct, E_gl, E_tup, E_bop, E_neg, E_not, E_and, E_or, E_cmp, E_chn, E_ite, E_ix, E_sl, E_call, E_bi, E_me, E_al, E_st, T_and, T_or, T_not, T_nm, T_cmp, T_chn, T_ix, T_call, T_bi,
 Es_nil, Es_cons, P_none, P_some, A_lst, A_ba, A_rv, A_dic, D_nil, D_cons, C_none, C_some, I_sq, I_rg, I_zp, S_asg, S_par, S_ret, S_ifs, S_ex, S_for, S_retn, S_brk, S_cnt, S_pas, S_setx, Ss_nil, Ss_cons,
 bnd_some, obd_some, cnd_some, ifT_some, bnd_cond, ifT_cond, seq_nx, seq_rt, seq_bk, seq_ct, seq_cond, res_nx, res_rt, res_cond, slot_v, slot_own, cAnd, cOr, cAndT, cOrT, fixR_d, fixR_l,
 B_add, B_sub, C_lt, C_le, C_gt, C_ge, C_eqI, C_neI, C_eqS, C_neS, C_eqB, C_neB, C_isNN, C_isIN, C_isTN, C_isnNN, C_isnIN, R_b, R_i, X_t, X_l, at0, at1, at2, at3, tup1, tup2, tup3, tup4,
 biInt, biAbs, biMin2, biLenL, biLenT, biTupL, str_inj, asg_d, asg_l, asgs_nil, asgs_cons, mapNm,
 gz, gs, sz, ss, mc, mn, ac, an, rc, rz, om, Nat.sub_self, Nat.reduceSub, Nat.reduceAdd, reduceCtorEq, String.reduceEq, decide_true, decide_false, cond_true, cond_false, Bool.not_true, Bool.not_false, Bool.true_and, Bool.false_and, Bool.and_true, Bool.and_false, Bool.or_true, Bool.or_false, Bool.true_or, Bool.false_or, Bool.not_not, z, z1, h2, hb]
        · rw [Ss_cons, S_aug (a := ((m + 1 : Nat) : Int)) (b := 1) rfl E_ct]
          simp only [augX, E_nm, E_ct, E_gl, E_tup, E_bop, E_neg, E_not, E_and, E_or, E_cmp, E_chn, E_ite, E_ix, E_sl, E_call, E_bi, E_me, E_al, E_st, T_and, T_or, T_not, T_nm, T_cmp, T_chn, T_ix, T_call, T_bi,
 Es_nil, Es_cons, P_none, P_some, A_lst, A_ba, A_rv, A_dic, D_nil, D_cons, C_none, C_some, I_sq, I_rg, I_zp, S_asg, S_par, S_ret, S_ifs, S_ex, S_for, S_retn, S_brk, S_cnt, S_pas, S_setx, Ss_nil, Ss_cons,
 bnd_some, obd_some, cnd_some, ifT_some, bnd_cond, ifT_cond, seq_nx, seq_rt, seq_bk, seq_ct, seq_cond, res_nx, res_rt, res_cond, slot_v, slot_own, cAnd, cOr, cAndT, cOrT, fixR_d, fixR_l,
 B_add, B_sub, C_lt, C_le, C_gt, C_ge, C_eqI, C_neI, C_eqS, C_neS, C_eqB, C_neB, C_isNN, C_isIN, C_isTN, C_isnNN, C_isnIN, R_b, R_i, X_t, X_l, at0, at1, at2, at3, tup1, tup2, tup3, tup4,
 biInt, biAbs, biMin2, biLenL, biLenT, biTupL, str_inj, asg_d, asg_l, asgs_nil, asgs_cons, mapNm,
 gz, gs, sz, ss, mc, mn, ac, an, rc, rz, om, Nat.sub_self, Nat.reduceSub, Nat.reduceAdd, reduceCtorEq, String.reduceEq, decide_true, decide_false, cond_true, cond_false, Bool.not_true, Bool.not_false, Bool.true_and, Bool.false_and, Bool.and_true, Bool.and_false, Bool.or_true, Bool.or_false, Bool.true_or, Bool.false_or, Bool.not_not, z1]
        · rw [← hd]
          simp only [down, hb, if_true]) w c.tl.toNat [.v (.d c.d), .v (.d (.int c.tl.toNat)), .v (.d (.int c.pd)), .v (.d (.list ((c.told c.tl c.pd).map .bool))), .v (.d (.int q)), .no] st ⟨rfl, rfl, rfl⟩ (by omega)
  rw [Int.toNat_of_nonneg htl.1] at hl
  rw [call_eq (fn := fn_repeats) rfl rfl]
  simp only [fn_repeats, E_nm, E_ct, E_gl, E_tup, E_bop, E_neg, E_not, E_and, E_or, E_cmp, E_chn, E_ite, E_ix, E_sl, E_call, E_bi, E_me, E_al, E_st, T_and, T_or, T_not, T_nm, T_cmp, T_chn, T_ix, T_call, T_bi,
 Es_nil, Es_cons, P_none, P_some, A_lst, A_ba, A_rv, A_dic, D_nil, D_cons, C_none, C_some, I_sq, I_rg, I_zp, S_asg, S_par, S_ret, S_ifs, S_ex, S_for, S_retn, S_brk, S_cnt, S_pas, S_setx, Ss_nil, Ss_cons,
 bnd_some, obd_some, cnd_some, ifT_some, bnd_cond, ifT_cond, seq_nx, seq_rt, seq_bk, seq_ct, seq_cond, res_nx, res_rt, res_cond, slot_v, slot_own, cAnd, cOr, cAndT, cOrT, fixR_d, fixR_l,
 B_add, B_sub, C_lt, C_le, C_gt, C_ge, C_eqI, C_neI, C_eqS, C_neS, C_eqB, C_neB, C_isNN, C_isIN, C_isTN, C_isnNN, C_isnIN, R_b, R_i, X_t, X_l, at0, at1, at2, at3, tup1, tup2, tup3, tup4,
 biInt, biAbs, biMin2, biLenL, biLenT, biTupL, str_inj, asg_d, asg_l, asgs_nil, asgs_cons, mapNm,
 gz, gs, sz, ss, mc, mn, ac, an, rc, rz, om, Nat.sub_self, Nat.reduceSub, Nat.reduceAdd, reduceCtorEq, String.reduceEq, decide_true, decide_false, cond_true, cond_false, Bool.not_true, Bool.not_false, Bool.true_and, Bool.false_and, Bool.and_true, Bool.and_false, Bool.or_true, Bool.or_false, Bool.true_or, Bool.false_or, Bool.not_not, h1, asg_t, t1, frO_map, t2, min_find hf, S_whl, hl]
theorem map_shift {f : Int → Bool} {d : Int} : ∀ {n : Nat} {lo : Int}, ((rgI (d + lo) n).filter f).map (· - d) = (rgI lo n).filter fun k => f (d + k)
  | 0, lo => rfl
  | n + 1, lo => by
    have e : d + lo + 1 = d + (lo + 1) := by omega
    rw [rgI, rgI, List.filter_cons, List.filter_cons, e]
    cases f (d + lo) with
    | true =>
      simp only [if_true, List.map_cons, map_shift]
      congr 1
      omega
    | false => simp only [Bool.false_eq_true, if_false, map_shift]
/-- the plain form -/
def plainD (c : Cal) (q : Nat) : D := .tuple [.tuple ((c.ts 0 (down c.has q c.tl.toNat : Nat)).map .int), .int (down c.has q c.tl.toNat : Nat), .int q, .tuple (((rgI 0 q).filter fun k => c.has ((down c.has q c.tl.toNat : Nat) + k)).map .int)]
theorem plain_spec {w : Nat} (st : Sto) (hw : 300000 < w) {c : Cal} {k : Nat} (hc : c.wf) (hk : c.ht + 4 < k) (hh : c.ht ≤ 100) :
    ∃ q : Nat, IsQ c.has c.tl c.pd q ∧ q ≤ 420 ∧ evCall prog w k i_plain_calendar [.d c.d] st = some (.d (plainD c q), st) := by
  obtain ⟨k, rfl⟩ : ∃ j, k = j + 1 := ⟨k - 1, by omega⟩
  have htl := hc.tl
  obtain ⟨q, hq, hqm, h1⟩ := rep_spec st hw (k := k) hc (by omega) hh
  refine ⟨q, hq, hqm, ?_⟩
  have hd := (down_spec (f := c.has) (q := q) c.tl.toNat).1
  unfold plainD
  generalize down c.has q c.tl.toNat = d at hd h1
  have h1' := fun e => callX_of (cl := evCall prog w k) (f := i_repeats) (xs := [.d c.d]) (e := e) rfl h1
  have h2 := fun e => callX_of (cl := evCall prog w k) (f := i_times_in) (xs := [.d c.d, .d (.int 0), .d (.int d)]) (e := e) rfl (times_spec w st (k := k) hc.ok (by omega) (ok62_of (i := 0) (by omega) (by omega)) (ok62_of (i := (d : Int)) (by omega) (by omega)) (by omega))
  have h3 := fun e => callX_of (cl := evCall prog w k) (f := i_times_in) (xs := [.d c.d, .d (.int d), .d (.int (d + q))]) (e := e) rfl (times_spec w st (k := k) (lo := (d : Int)) (hi := (d : Int) + q) hc.ok (by omega) (ok62_of (by omega) (by omega)) (ok62_of (by omega) (by omega)) (by omega))
  have it : itX (.d (.tuple ((c.ts d (d + q)).map .int))) = some ((c.ts d (d + q)).map fun t => .d (.int t)) := by
    simp only [itX, List.map_map]
    rfl
  have hlen : (c.ts d (d + q)).length ≤ sizeLine := by
    unfold Cal.ts
    refine Nat.le_trans (List.length_filter_le _ _) ?_
    rw [len_rgI]
    exact Nat.le_trans (m := 420) (by omega) (by decide)
  have t1 := lc_ints (cs := prog.cs) (cl := evCall prog w k) (st := st) (env := [.v (.d c.d), .v (.d (.int d)), .v (.d (.int q)), .no]) (x := .bop .sub (.nm 3) (.nm 1)) (c := none) (i := 3) (it := .sq (.call i_times_in [.nm 0, .nm 1, .bop .add (.nm 1) (.nm 2)]))
    (p := fun _ => true) (g := fun t => .int (t - d)) (ns := c.ts d (d + q)) (by simp only [E_nm, E_ct, E_gl, E_tup, E_bop, E_neg, E_not, E_and, E_or, E_cmp, E_chn, E_ite, E_ix, E_sl, E_call, E_bi, E_me, E_al, E_st, T_and, T_or, T_not, T_nm, T_cmp, T_chn, T_ix, T_call, T_bi,
 Es_nil, Es_cons, P_none, P_some, A_lst, A_ba, A_rv, A_dic, D_nil, D_cons, C_none, C_some, I_sq, I_rg, I_zp, S_asg, S_par, S_ret, S_ifs, S_ex, S_for, S_retn, S_brk, S_cnt, S_pas, S_setx, Ss_nil, Ss_cons,
 bnd_some, obd_some, cnd_some, ifT_some, bnd_cond, ifT_cond, seq_nx, seq_rt, seq_bk, seq_ct, seq_cond, res_nx, res_rt, res_cond, slot_v, slot_own, cAnd, cOr, cAndT, cOrT, fixR_d, fixR_l,
 B_add, B_sub, C_lt, C_le, C_gt, C_ge, C_eqI, C_neI, C_eqS, C_neS, C_eqB, C_neB, C_isNN, C_isIN, C_isTN, C_isnNN, C_isnIN, R_b, R_i, X_t, X_l, at0, at1, at2, at3, tup1, tup2, tup3, tup4,
 biInt, biAbs, biMin2, biLenL, biLenT, biTupL, str_inj, asg_d, asg_l, asgs_nil, asgs_cons, mapNm,
 gz, gs, sz, ss, mc, mn, ac, an, rc, rz, om, Nat.sub_self, Nat.reduceSub, Nat.reduceAdd, reduceCtorEq, String.reduceEq, decide_true, decide_false, cond_true, cond_false, Bool.not_true, Bool.not_false, Bool.true_and, Bool.false_and, Bool.and_true, Bool.and_false, Bool.or_true, Bool.or_false, Bool.true_or, Bool.false_or, Bool.not_not, h3, it]) (by show 3 < 4; decide) rfl hlen
    (fun n _ => by simp only [E_nm, E_ct, E_gl, E_tup, E_bop, E_neg, E_not, E_and, E_or, E_cmp, E_chn, E_ite, E_ix, E_sl, E_call, E_bi, E_me, E_al, E_st, T_and, T_or, T_not, T_nm, T_cmp, T_chn, T_ix, T_call, T_bi,
 Es_nil, Es_cons, P_none, P_some, A_lst, A_ba, A_rv, A_dic, D_nil, D_cons, C_none, C_some, I_sq, I_rg, I_zp, S_asg, S_par, S_ret, S_ifs, S_ex, S_for, S_retn, S_brk, S_cnt, S_pas, S_setx, Ss_nil, Ss_cons,
 bnd_some, obd_some, cnd_some, ifT_some, bnd_cond, ifT_cond, seq_nx, seq_rt, seq_bk, seq_ct, seq_cond, res_nx, res_rt, res_cond, slot_v, slot_own, cAnd, cOr, cAndT, cOrT, fixR_d, fixR_l,
 B_add, B_sub, C_lt, C_le, C_gt, C_ge, C_eqI, C_neI, C_eqS, C_neS, C_eqB, C_neB, C_isNN, C_isIN, C_isTN, C_isnNN, C_isnIN, R_b, R_i, X_t, X_l, at0, at1, at2, at3, tup1, tup2, tup3, tup4,
 biInt, biAbs, biMin2, biLenL, biLenT, biTupL, str_inj, asg_d, asg_l, asgs_nil, asgs_cons, mapNm,
 gz, gs, sz, ss, mc, mn, ac, an, rc, rz, om, Nat.sub_self, Nat.reduceSub, Nat.reduceAdd, reduceCtorEq, String.reduceEq, decide_true, decide_false, cond_true, cond_false, Bool.not_true, Bool.not_false, Bool.true_and, Bool.false_and, Bool.and_true, Bool.and_false, Bool.or_true, Bool.or_false, Bool.true_or, Bool.false_or, Bool.not_not]) (fun n _ _ => by simp only [E_nm, E_ct, E_gl, E_tup, E_bop, E_neg, E_not, E_and, E_or, E_cmp, E_chn, E_ite, E_ix, E_sl, E_call, E_bi, E_me, E_al, E_st, T_and, T_or, T_not, T_nm, T_cmp, T_chn, T_ix, T_call, T_bi,
 Es_nil, Es_cons, P_none, P_some, A_lst, A_ba, A_rv, A_dic, D_nil, D_cons, C_none, C_some, I_sq, I_rg, I_zp, S_asg, S_par, S_ret, S_ifs, S_ex, S_for, S_retn, S_brk, S_cnt, S_pas, S_setx, Ss_nil, Ss_cons,
 bnd_some, obd_some, cnd_some, ifT_some, bnd_cond, ifT_cond, seq_nx, seq_rt, seq_bk, seq_ct, seq_cond, res_nx, res_rt, res_cond, slot_v, slot_own, cAnd, cOr, cAndT, cOrT, fixR_d, fixR_l,
 B_add, B_sub, C_lt, C_le, C_gt, C_ge, C_eqI, C_neI, C_eqS, C_neS, C_eqB, C_neB, C_isNN, C_isIN, C_isTN, C_isnNN, C_isnIN, R_b, R_i, X_t, X_l, at0, at1, at2, at3, tup1, tup2, tup3, tup4,
 biInt, biAbs, biMin2, biLenL, biLenT, biTupL, str_inj, asg_d, asg_l, asgs_nil, asgs_cons, mapNm,
 gz, gs, sz, ss, mc, mn, ac, an, rc, rz, om, Nat.sub_self, Nat.reduceSub, Nat.reduceAdd, reduceCtorEq, String.reduceEq, decide_true, decide_false, cond_true, cond_false, Bool.not_true, Bool.not_false, Bool.true_and, Bool.false_and, Bool.and_true, Bool.and_false, Bool.or_true, Bool.or_false, Bool.true_or, Bool.false_or, Bool.not_not])
  have em : ((c.ts d (d + q)).filter fun _ => true).map (fun t => PyData.int (t - d)) = (((rgI 0 q).filter fun k => c.has (d + k)).map .int) := by
    rw [List.filter_eq_self.mpr (fun _ _ => rfl), ← map_shift (f := c.has) (d := (d : Int)) (n := q) (lo := 0), List.map_map]
    unfold Cal.ts
    have e1 : ((d : Int) + q - d).toNat = q := by omega
    have e2 : (d : Int) + 0 = d := by omega
    rw [e1, e2]
    rfl
  rw [em] at t1
  rw [call_eq (fn := fn_plain_calendar) rfl rfl]
  simp only [fn_plain_calendar, E_nm, E_ct, E_gl, E_tup, E_bop, E_neg, E_not, E_and, E_or, E_cmp, E_chn, E_ite, E_ix, E_sl, E_call, E_bi, E_me, E_al, E_st, T_and, T_or, T_not, T_nm, T_cmp, T_chn, T_ix, T_call, T_bi,
 Es_nil, Es_cons, P_none, P_some, A_lst, A_ba, A_rv, A_dic, D_nil, D_cons, C_none, C_some, I_sq, I_rg, I_zp, S_asg, S_par, S_ret, S_ifs, S_ex, S_for, S_retn, S_brk, S_cnt, S_pas, S_setx, Ss_nil, Ss_cons,
 bnd_some, obd_some, cnd_some, ifT_some, bnd_cond, ifT_cond, seq_nx, seq_rt, seq_bk, seq_ct, seq_cond, res_nx, res_rt, res_cond, slot_v, slot_own, cAnd, cOr, cAndT, cOrT, fixR_d, fixR_l,
 B_add, B_sub, C_lt, C_le, C_gt, C_ge, C_eqI, C_neI, C_eqS, C_neS, C_eqB, C_neB, C_isNN, C_isIN, C_isTN, C_isnNN, C_isnIN, R_b, R_i, X_t, X_l, at0, at1, at2, at3, tup1, tup2, tup3, tup4,
 biInt, biAbs, biMin2, biLenL, biLenT, biTupL, str_inj, asg_d, asg_l, asgs_nil, asgs_cons, mapNm,
 gz, gs, sz, ss, mc, mn, ac, an, rc, rz, om, Nat.sub_self, Nat.reduceSub, Nat.reduceAdd, reduceCtorEq, String.reduceEq, decide_true, decide_false, cond_true, cond_false, Bool.not_true, Bool.not_false, Bool.true_and, Bool.false_and, Bool.and_true, Bool.and_false, Bool.or_true, Bool.or_false, Bool.true_or, Bool.false_or, Bool.not_not, h1', asg_t, h2, t1, frO_map]
end K52

namespace K52
open PySem EV L2

theorem find_first {p : Int → Bool} {n : Nat} {lo u : Int} (h0 : lo ≤ u) (h1 : u < lo + n) (h2 : p u = true) (h3 : ∀ v, lo ≤ v → v < u → p v = false) : (rgI lo n).find? p = some u := by
  rcases find_rgI (p := p) (n := n) (lo := lo) with ⟨x, a1, a2, a3, a4, a5⟩ | ⟨a1, a2⟩
  · have : x = u := by
      rcases Int.lt_trichotomy x u with z | z | z
      · rw [h3 x a3 z] at a2
        cases a2
      · exact z
      · have := a5 u h0 z
        rw [h2] at this
        cases this
    rw [a1, this]
  · rw [a2 u h0 h1] at h2
    cases h2
theorem at_told {c : Cal} {N : Nat} {i : Int} (h0 : 0 ≤ i) (h1 : i < N) : atI ((c.told 0 N).map PyData.bool) i = some (.bool (c.has i)) := by
  obtain ⟨j, rfl⟩ := Int.eq_ofNat_of_zero_le h0
  rw [atN, List.getElem?_map, told_get (by omega)]
  simp
/-- the law's test of a period -/
def pl (c : Cal) (q : Int) : Bool := decide ((420 : Int).fmod q = 0) && decide (c.told c.tl 420 = c.told (c.tl + q) 420)
theorem pl_iff {c : Cal} (hc : c.wf) {q : Nat} (hq : 0 < q) : pl c q = true ↔ q ∣ 420 ∧ Per c.has c.tl q := by
  unfold pl
  rw [Bool.and_eq_true, decide_eq_true_eq, decide_eq_true_eq]
  have e0 : (420 : Int) = ((420 : Nat) : Int) := rfl
  rw [e0, nmod]
  have e : (((420 % q : Nat) : Int) = 0) ↔ q ∣ 420 := by
    rw [Nat.dvd_iff_mod_eq_zero]
    omega
  rw [e, win_per (by decide) ((Cal.per hc).dvd hc.pd.2)]
/-- the law's test of where it begins -/
def pb (c : Cal) (q : Nat) (k : Int) : Bool := decide (c.told k (c.tl - k).toNat = c.told (k + q) (c.tl - k).toNat)
theorem pb_find {c : Cal} (hc : c.wf) (q : Nat) : (rgI 0 (c.tl + 1).toNat).find? (pb c q) = some (down c.has q c.tl.toNat : Nat) := by
  have htl := hc.tl
  obtain ⟨h1, h2, h3⟩ := down_spec (f := c.has) (q := q) c.tl.toNat
  refine find_first (by omega) (by omega) ?_ fun v v0 v1 => ?_
  · unfold pb
    rw [decide_eq_true_eq, win_iff]
    intro i hi
    have := h2 (down c.has q c.tl.toNat + i) (by omega) (by omega)
    have e : ((down c.has q c.tl.toNat : Nat) : Int) + (q : Int) + (i : Int) = ((down c.has q c.tl.toNat + i : Nat) : Int) + q := by push_cast; omega
    have e2 : ((down c.has q c.tl.toNat : Nat) : Int) + (i : Int) = ((down c.has q c.tl.toNat + i : Nat) : Int) := by push_cast; rfl
    rw [e, e2]
    exact this
  · unfold pb
    rw [decide_eq_false_iff_not, win_iff]
    intro h
    obtain ⟨d, hd⟩ : ∃ d, down c.has q c.tl.toNat = d + 1 := ⟨down c.has q c.tl.toNat - 1, by omega⟩
    have := h (d - v.toNat) (by omega)
    have e : v + ((d - v.toNat : Nat) : Int) = d := by omega
    have e2 : v + (q : Int) + ((d - v.toNat : Nat) : Int) = d + q := by omega
    rw [e, e2] at this
    exact h3 d hd this
theorem lp_spec {w : Nat} (st : Sto) {c : Cal} {k : Nat} (hc : c.wf) (hk : c.ht + 2 < k) (hh : c.ht ≤ 100) :
    ∃ q : Nat, IsQ c.has c.tl 420 q ∧ q ≤ 420 ∧ evCall prog w k i_law_plain [.d c.d] st = some (.d (plainD c q), st) := by
  obtain ⟨k, rfl⟩ : ∃ j, k = j + 1 := ⟨k - 1, by omega⟩
  have htl := hc.tl
  obtain ⟨q, hf, hq, hqm⟩ := find_isQ (f := c.has) (n := c.tl) (w := 420) (m := 420) (p := pl c) (Nat.le_refl _) (by decide) ((Cal.per hc).dvd hc.pd.2) fun q h _ => pl_iff hc h
  refine ⟨q, hq, hqm, ?_⟩
  have hb := pb_find hc q
  have hd := (down_spec (f := c.has) (q := q) c.tl.toNat).1
  unfold plainD
  generalize down c.has q c.tl.toNat = d at hd hb
  obtain ⟨N, hN⟩ : ∃ N, (c.tl + 840).toNat = N := ⟨_, rfl⟩
  have h1 := fun e => callX_of (cl := evCall prog w k) (f := i_law_tail) (xs := [.d c.d]) (e := e) rfl (ltail_spec (w := w) st c k hc (by omega))
  have h2 := fun e n => callX_of (cl := evCall prog w k) (f := i_law_has) (xs := [.d c.d, .d (.int n)]) (e := e) rfl (lhas_spec w st c k n hc.ok (by omega))
  have o1 := in62_ok (ok62_of (i := c.tl + 840) (by omega) (by omega))
  have o2 := in62_ok (ok62_of (i := 1) (by omega) (by omega))
  have o3 := in62_ok (ok62_of (i := 421) (by omega) (by omega))
  have o4 := in62_ok (ok62_of (i := c.tl + 1) (by omega) (by omega))
  have o5 := in62_ok (ok62_of (i := (q : Int)) (by omega) (by omega))
  have o6 := in62_ok (ok62_of (i := (d : Int)) (by omega) (by omega))
  have i1 : biX = biX := rfl
  have e421 : ((421 : Int) - 1).toNat = 420 := rfl
  have eq' : (q : Int).toNat = q := Int.toNat_natCast q
  have ed' : (d : Int).toNat = d := Int.toNat_natCast d
  have t1 := lc_ints (cs := prog.cs) (cl := evCall prog w k) (st := st) (env := [.v (.d c.d), .v (.d (.int c.tl)), .no, .no, .no, .no, .no, .no, .no]) (x := .call i_law_has [.nm 0, .nm 7]) (c := none) (i := 7) (it := .rg [.bop .add (.nm 1) (.ct (.int 840))])
    (p := fun _ => true) (g := fun t => .bool (c.has t)) (ns := rgI 0 N) (by simp only [E_nm, E_ct, E_gl, E_tup, E_bop, E_neg, E_not, E_and, E_or, E_cmp, E_chn, E_ite, E_ix, E_sl, E_call, E_bi, E_me, E_al, E_st, T_and, T_or, T_not, T_nm, T_cmp, T_chn, T_ix, T_call, T_bi,
 Es_nil, Es_cons, P_none, P_some, A_lst, A_ba, A_rv, A_dic, D_nil, D_cons, C_none, C_some, I_sq, I_rg, I_zp, S_asg, S_par, S_ret, S_ifs, S_ex, S_for, S_retn, S_brk, S_cnt, S_pas, S_setx, Ss_nil, Ss_cons,
 bnd_some, obd_some, cnd_some, ifT_some, bnd_cond, ifT_cond, seq_nx, seq_rt, seq_bk, seq_ct, seq_cond, res_nx, res_rt, res_cond, slot_v, slot_own, cAnd, cOr, cAndT, cOrT, fixR_d, fixR_l,
 B_add, B_sub, C_lt, C_le, C_gt, C_ge, C_eqI, C_neI, C_eqS, C_neS, C_eqB, C_neB, C_isNN, C_isIN, C_isTN, C_isnNN, C_isnIN, R_b, R_i, X_t, X_l, at0, at1, at2, at3, tup1, tup2, tup3, tup4,
 biInt, biAbs, biMin2, biLenL, biLenT, biTupL, str_inj, asg_d, asg_l, asgs_nil, asgs_cons, mapNm,
 gz, gs, sz, ss, mc, mn, ac, an, rc, rz, om, Nat.sub_self, Nat.reduceSub, Nat.reduceAdd, reduceCtorEq, String.reduceEq, decide_true, decide_false, cond_true, cond_false, Bool.not_true, Bool.not_false, Bool.true_and, Bool.false_and, Bool.and_true, Bool.and_false, Bool.or_true, Bool.or_false, Bool.true_or, Bool.false_or, Bool.not_not, rg1 o1, hN]) (by show 7 < 9; decide) rfl (by rw [len_rgI]; exact Nat.le_trans (m := 300000) (by omega) (by decide))
    (fun n _ => by simp only [E_nm, E_ct, E_gl, E_tup, E_bop, E_neg, E_not, E_and, E_or, E_cmp, E_chn, E_ite, E_ix, E_sl, E_call, E_bi, E_me, E_al, E_st, T_and, T_or, T_not, T_nm, T_cmp, T_chn, T_ix, T_call, T_bi,
 Es_nil, Es_cons, P_none, P_some, A_lst, A_ba, A_rv, A_dic, D_nil, D_cons, C_none, C_some, I_sq, I_rg, I_zp, S_asg, S_par, S_ret, S_ifs, S_ex, S_for, S_retn, S_brk, S_cnt, S_pas, S_setx, Ss_nil, Ss_cons,
 bnd_some, obd_some, cnd_some, ifT_some, bnd_cond, ifT_cond, seq_nx, seq_rt, seq_bk, seq_ct, seq_cond, res_nx, res_rt, res_cond, slot_v, slot_own, cAnd, cOr, cAndT, cOrT, fixR_d, fixR_l,
 B_add, B_sub, C_lt, C_le, C_gt, C_ge, C_eqI, C_neI, C_eqS, C_neS, C_eqB, C_neB, C_isNN, C_isIN, C_isTN, C_isnNN, C_isnIN, R_b, R_i, X_t, X_l, at0, at1, at2, at3, tup1, tup2, tup3, tup4,
 biInt, biAbs, biMin2, biLenL, biLenT, biTupL, str_inj, asg_d, asg_l, asgs_nil, asgs_cons, mapNm,
 gz, gs, sz, ss, mc, mn, ac, an, rc, rz, om, Nat.sub_self, Nat.reduceSub, Nat.reduceAdd, reduceCtorEq, String.reduceEq, decide_true, decide_false, cond_true, cond_false, Bool.not_true, Bool.not_false, Bool.true_and, Bool.false_and, Bool.and_true, Bool.and_false, Bool.or_true, Bool.or_false, Bool.true_or, Bool.false_or, Bool.not_not]) (fun n _ _ => by simp only [E_nm, E_ct, E_gl, E_tup, E_bop, E_neg, E_not, E_and, E_or, E_cmp, E_chn, E_ite, E_ix, E_sl, E_call, E_bi, E_me, E_al, E_st, T_and, T_or, T_not, T_nm, T_cmp, T_chn, T_ix, T_call, T_bi,
 Es_nil, Es_cons, P_none, P_some, A_lst, A_ba, A_rv, A_dic, D_nil, D_cons, C_none, C_some, I_sq, I_rg, I_zp, S_asg, S_par, S_ret, S_ifs, S_ex, S_for, S_retn, S_brk, S_cnt, S_pas, S_setx, Ss_nil, Ss_cons,
 bnd_some, obd_some, cnd_some, ifT_some, bnd_cond, ifT_cond, seq_nx, seq_rt, seq_bk, seq_ct, seq_cond, res_nx, res_rt, res_cond, slot_v, slot_own, cAnd, cOr, cAndT, cOrT, fixR_d, fixR_l,
 B_add, B_sub, C_lt, C_le, C_gt, C_ge, C_eqI, C_neI, C_eqS, C_neS, C_eqB, C_neB, C_isNN, C_isIN, C_isTN, C_isnNN, C_isnIN, R_b, R_i, X_t, X_l, at0, at1, at2, at3, tup1, tup2, tup3, tup4,
 biInt, biAbs, biMin2, biLenL, biLenT, biTupL, str_inj, asg_d, asg_l, asgs_nil, asgs_cons, mapNm,
 gz, gs, sz, ss, mc, mn, ac, an, rc, rz, om, Nat.sub_self, Nat.reduceSub, Nat.reduceAdd, reduceCtorEq, String.reduceEq, decide_true, decide_false, cond_true, cond_false, Bool.not_true, Bool.not_false, Bool.true_and, Bool.false_and, Bool.and_true, Bool.and_false, Bool.or_true, Bool.or_false, Bool.true_or, Bool.false_or, Bool.not_not, h2])
  rw [told_map] at t1
  have w1 := fun e s => sl_told (e := e) (s := s) (c := c) (N := N) (a := c.tl) (b := c.tl + 420) htl.1 (by omega) (by omega)
  have ew : (c.tl + 420 - c.tl).toNat = 420 := by omega
  rw [ew] at w1
  have t2 := lc_ints (cs := prog.cs) (cl := evCall prog w k) (st := st) (env := [.v (.d c.d), .v (.d (.int c.tl)), .v (.d (.list ((c.told 0 N).map .bool))), .v (.d (.list ((c.told c.tl 420).map .bool))), .no, .no, .no, .no, .no]) (x := .nm 4)
    (c := some (.and (.cmp .eq (.bop .mod (.bi .int [.ct (.int 420)]) (.nm 4)) (.ct (.int 0))) (.cmp .eq (.nm 3) (.sl (.nm 2) (some (.bop .add (.nm 1) (.nm 4))) (some (.bop .add (.bop .add (.nm 1) (.nm 4)) (.ct (.int 420)))))))) (i := 4) (it := .rg [.ct (.int 1), .ct (.int 421)])
    (p := pl c) (g := fun n => .int n) (ns := rgI 1 420) (by simp only [E_nm, E_ct, E_gl, E_tup, E_bop, E_neg, E_not, E_and, E_or, E_cmp, E_chn, E_ite, E_ix, E_sl, E_call, E_bi, E_me, E_al, E_st, T_and, T_or, T_not, T_nm, T_cmp, T_chn, T_ix, T_call, T_bi,
 Es_nil, Es_cons, P_none, P_some, A_lst, A_ba, A_rv, A_dic, D_nil, D_cons, C_none, C_some, I_sq, I_rg, I_zp, S_asg, S_par, S_ret, S_ifs, S_ex, S_for, S_retn, S_brk, S_cnt, S_pas, S_setx, Ss_nil, Ss_cons,
 bnd_some, obd_some, cnd_some, ifT_some, bnd_cond, ifT_cond, seq_nx, seq_rt, seq_bk, seq_ct, seq_cond, res_nx, res_rt, res_cond, slot_v, slot_own, cAnd, cOr, cAndT, cOrT, fixR_d, fixR_l,
 B_add, B_sub, C_lt, C_le, C_gt, C_ge, C_eqI, C_neI, C_eqS, C_neS, C_eqB, C_neB, C_isNN, C_isIN, C_isTN, C_isnNN, C_isnIN, R_b, R_i, X_t, X_l, at0, at1, at2, at3, tup1, tup2, tup3, tup4,
 biInt, biAbs, biMin2, biLenL, biLenT, biTupL, str_inj, asg_d, asg_l, asgs_nil, asgs_cons, mapNm,
 gz, gs, sz, ss, mc, mn, ac, an, rc, rz, om, Nat.sub_self, Nat.reduceSub, Nat.reduceAdd, reduceCtorEq, String.reduceEq, decide_true, decide_false, cond_true, cond_false, Bool.not_true, Bool.not_false, Bool.true_and, Bool.false_and, Bool.and_true, Bool.and_false, Bool.or_true, Bool.or_false, Bool.true_or, Bool.false_or, Bool.not_not, rg2 o2 o3, e421]) (by show 4 < 9; decide) rfl (by rw [len_rgI]; decide)
    (fun n hn => by
      obtain ⟨n1, n2⟩ := mem_rgI.mp hn
      have b1 := fun e s i => B_mod (e := e) (s := s) (i := i) (j := n) (by omega)
      have b2 := fun e s => sl_told (e := e) (s := s) (c := c) (N := N) (a := c.tl + n) (b := c.tl + n + 420) (by omega) (by omega) (by omega)
      have b3 : (c.tl + n + 420 - (c.tl + n)).toNat = 420 := by omega
      simp only [E_nm, E_ct, E_gl, E_tup, E_bop, E_neg, E_not, E_and, E_or, E_cmp, E_chn, E_ite, E_ix, E_sl, E_call, E_bi, E_me, E_al, E_st, T_and, T_or, T_not, T_nm, T_cmp, T_chn, T_ix, T_call, T_bi,
 Es_nil, Es_cons, P_none, P_some, A_lst, A_ba, A_rv, A_dic, D_nil, D_cons, C_none, C_some, I_sq, I_rg, I_zp, S_asg, S_par, S_ret, S_ifs, S_ex, S_for, S_retn, S_brk, S_cnt, S_pas, S_setx, Ss_nil, Ss_cons,
 bnd_some, obd_some, cnd_some, ifT_some, bnd_cond, ifT_cond, seq_nx, seq_rt, seq_bk, seq_ct, seq_cond, res_nx, res_rt, res_cond, slot_v, slot_own, cAnd, cOr, cAndT, cOrT, fixR_d, fixR_l,
 B_add, B_sub, C_lt, C_le, C_gt, C_ge, C_eqI, C_neI, C_eqS, C_neS, C_eqB, C_neB, C_isNN, C_isIN, C_isTN, C_isnNN, C_isnIN, R_b, R_i, X_t, X_l, at0, at1, at2, at3, tup1, tup2, tup3, tup4,
 biInt, biAbs, biMin2, biLenL, biLenT, biTupL, str_inj, asg_d, asg_l, asgs_nil, asgs_cons, mapNm,
 gz, gs, sz, ss, mc, mn, ac, an, rc, rz, om, Nat.sub_self, Nat.reduceSub, Nat.reduceAdd, reduceCtorEq, String.reduceEq, decide_true, decide_false, cond_true, cond_false, Bool.not_true, Bool.not_false, Bool.true_and, Bool.false_and, Bool.and_true, Bool.and_false, Bool.or_true, Bool.or_false, Bool.true_or, Bool.false_or, Bool.not_not, b1, b2, b3, C_eqBs, pl])
    (fun n _ _ => by simp only [E_nm, E_ct, E_gl, E_tup, E_bop, E_neg, E_not, E_and, E_or, E_cmp, E_chn, E_ite, E_ix, E_sl, E_call, E_bi, E_me, E_al, E_st, T_and, T_or, T_not, T_nm, T_cmp, T_chn, T_ix, T_call, T_bi,
 Es_nil, Es_cons, P_none, P_some, A_lst, A_ba, A_rv, A_dic, D_nil, D_cons, C_none, C_some, I_sq, I_rg, I_zp, S_asg, S_par, S_ret, S_ifs, S_ex, S_for, S_retn, S_brk, S_cnt, S_pas, S_setx, Ss_nil, Ss_cons,
 bnd_some, obd_some, cnd_some, ifT_some, bnd_cond, ifT_cond, seq_nx, seq_rt, seq_bk, seq_ct, seq_cond, res_nx, res_rt, res_cond, slot_v, slot_own, cAnd, cOr, cAndT, cOrT, fixR_d, fixR_l,
 B_add, B_sub, C_lt, C_le, C_gt, C_ge, C_eqI, C_neI, C_eqS, C_neS, C_eqB, C_neB, C_isNN, C_isIN, C_isTN, C_isnNN, C_isnIN, R_b, R_i, X_t, X_l, at0, at1, at2, at3, tup1, tup2, tup3, tup4,
 biInt, biAbs, biMin2, biLenL, biLenT, biTupL, str_inj, asg_d, asg_l, asgs_nil, asgs_cons, mapNm,
 gz, gs, sz, ss, mc, mn, ac, an, rc, rz, om, Nat.sub_self, Nat.reduceSub, Nat.reduceAdd, reduceCtorEq, String.reduceEq, decide_true, decide_false, cond_true, cond_false, Bool.not_true, Bool.not_false, Bool.true_and, Bool.false_and, Bool.and_true, Bool.and_false, Bool.or_true, Bool.or_false, Bool.true_or, Bool.false_or, Bool.not_not])
  have t3 := lc_ints (cs := prog.cs) (cl := evCall prog w k) (st := st) (env := [.v (.d c.d), .v (.d (.int c.tl)), .v (.d (.list ((c.told 0 N).map .bool))), .v (.d (.list ((c.told c.tl 420).map .bool))), .v (.d (.int q)), .no, .no, .no, .no]) (x := .nm 8)
    (c := some (.cmp .eq (.sl (.nm 2) (some (.nm 8)) (some (.nm 1))) (.sl (.nm 2) (some (.bop .add (.nm 8) (.nm 4))) (some (.bop .add (.nm 1) (.nm 4)))))) (i := 8) (it := .rg [.bop .add (.nm 1) (.ct (.int 1))])
    (p := pb c q) (g := fun n => .int n) (ns := rgI 0 (c.tl + 1).toNat) (by simp only [E_nm, E_ct, E_gl, E_tup, E_bop, E_neg, E_not, E_and, E_or, E_cmp, E_chn, E_ite, E_ix, E_sl, E_call, E_bi, E_me, E_al, E_st, T_and, T_or, T_not, T_nm, T_cmp, T_chn, T_ix, T_call, T_bi,
 Es_nil, Es_cons, P_none, P_some, A_lst, A_ba, A_rv, A_dic, D_nil, D_cons, C_none, C_some, I_sq, I_rg, I_zp, S_asg, S_par, S_ret, S_ifs, S_ex, S_for, S_retn, S_brk, S_cnt, S_pas, S_setx, Ss_nil, Ss_cons,
 bnd_some, obd_some, cnd_some, ifT_some, bnd_cond, ifT_cond, seq_nx, seq_rt, seq_bk, seq_ct, seq_cond, res_nx, res_rt, res_cond, slot_v, slot_own, cAnd, cOr, cAndT, cOrT, fixR_d, fixR_l,
 B_add, B_sub, C_lt, C_le, C_gt, C_ge, C_eqI, C_neI, C_eqS, C_neS, C_eqB, C_neB, C_isNN, C_isIN, C_isTN, C_isnNN, C_isnIN, R_b, R_i, X_t, X_l, at0, at1, at2, at3, tup1, tup2, tup3, tup4,
 biInt, biAbs, biMin2, biLenL, biLenT, biTupL, str_inj, asg_d, asg_l, asgs_nil, asgs_cons, mapNm,
 gz, gs, sz, ss, mc, mn, ac, an, rc, rz, om, Nat.sub_self, Nat.reduceSub, Nat.reduceAdd, reduceCtorEq, String.reduceEq, decide_true, decide_false, cond_true, cond_false, Bool.not_true, Bool.not_false, Bool.true_and, Bool.false_and, Bool.and_true, Bool.and_false, Bool.or_true, Bool.or_false, Bool.true_or, Bool.false_or, Bool.not_not, rg1 o4]) (by show 8 < 9; decide) rfl (by rw [len_rgI]; exact Nat.le_trans (m := 300000) (by omega) (by decide))
    (fun n hn => by
      obtain ⟨n1, n2⟩ := mem_rgI.mp hn
      have b1 := fun e s => sl_told (e := e) (s := s) (c := c) (N := N) (a := n) (b := c.tl) (by omega) (by omega) (by omega)
      have b2 := fun e s => sl_told (e := e) (s := s) (c := c) (N := N) (a := n + q) (b := c.tl + q) (by omega) (by omega) (by omega)
      have b3 : (c.tl + q - (n + q)).toNat = (c.tl - n).toNat := by omega
      simp only [E_nm, E_ct, E_gl, E_tup, E_bop, E_neg, E_not, E_and, E_or, E_cmp, E_chn, E_ite, E_ix, E_sl, E_call, E_bi, E_me, E_al, E_st, T_and, T_or, T_not, T_nm, T_cmp, T_chn, T_ix, T_call, T_bi,
 Es_nil, Es_cons, P_none, P_some, A_lst, A_ba, A_rv, A_dic, D_nil, D_cons, C_none, C_some, I_sq, I_rg, I_zp, S_asg, S_par, S_ret, S_ifs, S_ex, S_for, S_retn, S_brk, S_cnt, S_pas, S_setx, Ss_nil, Ss_cons,
 bnd_some, obd_some, cnd_some, ifT_some, bnd_cond, ifT_cond, seq_nx, seq_rt, seq_bk, seq_ct, seq_cond, res_nx, res_rt, res_cond, slot_v, slot_own, cAnd, cOr, cAndT, cOrT, fixR_d, fixR_l,
 B_add, B_sub, C_lt, C_le, C_gt, C_ge, C_eqI, C_neI, C_eqS, C_neS, C_eqB, C_neB, C_isNN, C_isIN, C_isTN, C_isnNN, C_isnIN, R_b, R_i, X_t, X_l, at0, at1, at2, at3, tup1, tup2, tup3, tup4,
 biInt, biAbs, biMin2, biLenL, biLenT, biTupL, str_inj, asg_d, asg_l, asgs_nil, asgs_cons, mapNm,
 gz, gs, sz, ss, mc, mn, ac, an, rc, rz, om, Nat.sub_self, Nat.reduceSub, Nat.reduceAdd, reduceCtorEq, String.reduceEq, decide_true, decide_false, cond_true, cond_false, Bool.not_true, Bool.not_false, Bool.true_and, Bool.false_and, Bool.and_true, Bool.and_false, Bool.or_true, Bool.or_false, Bool.true_or, Bool.false_or, Bool.not_not, b1, b2, b3, C_eqBs, pb])
    (fun n _ _ => by simp only [E_nm, E_ct, E_gl, E_tup, E_bop, E_neg, E_not, E_and, E_or, E_cmp, E_chn, E_ite, E_ix, E_sl, E_call, E_bi, E_me, E_al, E_st, T_and, T_or, T_not, T_nm, T_cmp, T_chn, T_ix, T_call, T_bi,
 Es_nil, Es_cons, P_none, P_some, A_lst, A_ba, A_rv, A_dic, D_nil, D_cons, C_none, C_some, I_sq, I_rg, I_zp, S_asg, S_par, S_ret, S_ifs, S_ex, S_for, S_retn, S_brk, S_cnt, S_pas, S_setx, Ss_nil, Ss_cons,
 bnd_some, obd_some, cnd_some, ifT_some, bnd_cond, ifT_cond, seq_nx, seq_rt, seq_bk, seq_ct, seq_cond, res_nx, res_rt, res_cond, slot_v, slot_own, cAnd, cOr, cAndT, cOrT, fixR_d, fixR_l,
 B_add, B_sub, C_lt, C_le, C_gt, C_ge, C_eqI, C_neI, C_eqS, C_neS, C_eqB, C_neB, C_isNN, C_isIN, C_isTN, C_isnNN, C_isnIN, R_b, R_i, X_t, X_l, at0, at1, at2, at3, tup1, tup2, tup3, tup4,
 biInt, biAbs, biMin2, biLenL, biLenT, biTupL, str_inj, asg_d, asg_l, asgs_nil, asgs_cons, mapNm,
 gz, gs, sz, ss, mc, mn, ac, an, rc, rz, om, Nat.sub_self, Nat.reduceSub, Nat.reduceAdd, reduceCtorEq, String.reduceEq, decide_true, decide_false, cond_true, cond_false, Bool.not_true, Bool.not_false, Bool.true_and, Bool.false_and, Bool.and_true, Bool.and_false, Bool.or_true, Bool.or_false, Bool.true_or, Bool.false_or, Bool.not_not])
  have t4 := lc_ints (cs := prog.cs) (cl := evCall prog w k) (st := st) (env := [.v (.d c.d), .v (.d (.int c.tl)), .v (.d (.list ((c.told 0 N).map .bool))), .v (.d (.list ((c.told c.tl 420).map .bool))), .v (.d (.int q)), .v (.d (.int d)), .no, .no, .no]) (x := .nm 8)
    (c := some (.ix (.nm 2) (.bop .add (.nm 5) (.nm 8)))) (i := 8) (it := .rg [.nm 4])
    (p := fun k => c.has (d + k)) (g := fun n => .int n) (ns := rgI 0 q) (by simp only [E_nm, E_ct, E_gl, E_tup, E_bop, E_neg, E_not, E_and, E_or, E_cmp, E_chn, E_ite, E_ix, E_sl, E_call, E_bi, E_me, E_al, E_st, T_and, T_or, T_not, T_nm, T_cmp, T_chn, T_ix, T_call, T_bi,
 Es_nil, Es_cons, P_none, P_some, A_lst, A_ba, A_rv, A_dic, D_nil, D_cons, C_none, C_some, I_sq, I_rg, I_zp, S_asg, S_par, S_ret, S_ifs, S_ex, S_for, S_retn, S_brk, S_cnt, S_pas, S_setx, Ss_nil, Ss_cons,
 bnd_some, obd_some, cnd_some, ifT_some, bnd_cond, ifT_cond, seq_nx, seq_rt, seq_bk, seq_ct, seq_cond, res_nx, res_rt, res_cond, slot_v, slot_own, cAnd, cOr, cAndT, cOrT, fixR_d, fixR_l,
 B_add, B_sub, C_lt, C_le, C_gt, C_ge, C_eqI, C_neI, C_eqS, C_neS, C_eqB, C_neB, C_isNN, C_isIN, C_isTN, C_isnNN, C_isnIN, R_b, R_i, X_t, X_l, at0, at1, at2, at3, tup1, tup2, tup3, tup4,
 biInt, biAbs, biMin2, biLenL, biLenT, biTupL, str_inj, asg_d, asg_l, asgs_nil, asgs_cons, mapNm,
 gz, gs, sz, ss, mc, mn, ac, an, rc, rz, om, Nat.sub_self, Nat.reduceSub, Nat.reduceAdd, reduceCtorEq, String.reduceEq, decide_true, decide_false, cond_true, cond_false, Bool.not_true, Bool.not_false, Bool.true_and, Bool.false_and, Bool.and_true, Bool.and_false, Bool.or_true, Bool.or_false, Bool.true_or, Bool.false_or, Bool.not_not, rg1 o5, eq']) (by show 8 < 9; decide) rfl (by rw [len_rgI]; exact Nat.le_trans hqm (by decide))
    (fun n hn => by
      obtain ⟨n1, n2⟩ := mem_rgI.mp hn
      have b1 := at_told (c := c) (N := N) (i := d + n) (by omega) (by omega)
      simp only [E_nm, E_ct, E_gl, E_tup, E_bop, E_neg, E_not, E_and, E_or, E_cmp, E_chn, E_ite, E_ix, E_sl, E_call, E_bi, E_me, E_al, E_st, T_and, T_or, T_not, T_nm, T_cmp, T_chn, T_ix, T_call, T_bi,
 Es_nil, Es_cons, P_none, P_some, A_lst, A_ba, A_rv, A_dic, D_nil, D_cons, C_none, C_some, I_sq, I_rg, I_zp, S_asg, S_par, S_ret, S_ifs, S_ex, S_for, S_retn, S_brk, S_cnt, S_pas, S_setx, Ss_nil, Ss_cons,
 bnd_some, obd_some, cnd_some, ifT_some, bnd_cond, ifT_cond, seq_nx, seq_rt, seq_bk, seq_ct, seq_cond, res_nx, res_rt, res_cond, slot_v, slot_own, cAnd, cOr, cAndT, cOrT, fixR_d, fixR_l,
 B_add, B_sub, C_lt, C_le, C_gt, C_ge, C_eqI, C_neI, C_eqS, C_neS, C_eqB, C_neB, C_isNN, C_isIN, C_isTN, C_isnNN, C_isnIN, R_b, R_i, X_t, X_l, at0, at1, at2, at3, tup1, tup2, tup3, tup4,
 biInt, biAbs, biMin2, biLenL, biLenT, biTupL, str_inj, asg_d, asg_l, asgs_nil, asgs_cons, mapNm,
 gz, gs, sz, ss, mc, mn, ac, an, rc, rz, om, Nat.sub_self, Nat.reduceSub, Nat.reduceAdd, reduceCtorEq, String.reduceEq, decide_true, decide_false, cond_true, cond_false, Bool.not_true, Bool.not_false, Bool.true_and, Bool.false_and, Bool.and_true, Bool.and_false, Bool.or_true, Bool.or_false, Bool.true_or, Bool.false_or, Bool.not_not, b1])
    (fun n _ _ => by simp only [E_nm, E_ct, E_gl, E_tup, E_bop, E_neg, E_not, E_and, E_or, E_cmp, E_chn, E_ite, E_ix, E_sl, E_call, E_bi, E_me, E_al, E_st, T_and, T_or, T_not, T_nm, T_cmp, T_chn, T_ix, T_call, T_bi,
 Es_nil, Es_cons, P_none, P_some, A_lst, A_ba, A_rv, A_dic, D_nil, D_cons, C_none, C_some, I_sq, I_rg, I_zp, S_asg, S_par, S_ret, S_ifs, S_ex, S_for, S_retn, S_brk, S_cnt, S_pas, S_setx, Ss_nil, Ss_cons,
 bnd_some, obd_some, cnd_some, ifT_some, bnd_cond, ifT_cond, seq_nx, seq_rt, seq_bk, seq_ct, seq_cond, res_nx, res_rt, res_cond, slot_v, slot_own, cAnd, cOr, cAndT, cOrT, fixR_d, fixR_l,
 B_add, B_sub, C_lt, C_le, C_gt, C_ge, C_eqI, C_neI, C_eqS, C_neS, C_eqB, C_neB, C_isNN, C_isIN, C_isTN, C_isnNN, C_isnIN, R_b, R_i, X_t, X_l, at0, at1, at2, at3, tup1, tup2, tup3, tup4,
 biInt, biAbs, biMin2, biLenL, biLenT, biTupL, str_inj, asg_d, asg_l, asgs_nil, asgs_cons, mapNm,
 gz, gs, sz, ss, mc, mn, ac, an, rc, rz, om, Nat.sub_self, Nat.reduceSub, Nat.reduceAdd, reduceCtorEq, String.reduceEq, decide_true, decide_false, cond_true, cond_false, Bool.not_true, Bool.not_false, Bool.true_and, Bool.false_and, Bool.and_true, Bool.and_false, Bool.or_true, Bool.or_false, Bool.true_or, Bool.false_or, Bool.not_not])
  obtain ⟨rs, hrs⟩ : ∃ rs : D, PyData.tuple (((rgI 0 q).filter fun k => c.has (d + k)).map .int) = rs := ⟨_, rfl⟩
  have t5 := lc_ints (cs := prog.cs) (cl := evCall prog w k) (st := st) (env := [.v (.d c.d), .v (.d (.int c.tl)), .v (.d (.list ((c.told 0 N).map .bool))), .v (.d (.list ((c.told c.tl 420).map .bool))), .v (.d (.int q)), .v (.d (.int d)), .v (.d rs), .no, .no]) (x := .nm 8)
    (c := some (.ix (.nm 2) (.nm 8))) (i := 8) (it := .rg [.nm 5])
    (p := c.has) (g := fun n => .int n) (ns := rgI 0 d) (by simp only [E_nm, E_ct, E_gl, E_tup, E_bop, E_neg, E_not, E_and, E_or, E_cmp, E_chn, E_ite, E_ix, E_sl, E_call, E_bi, E_me, E_al, E_st, T_and, T_or, T_not, T_nm, T_cmp, T_chn, T_ix, T_call, T_bi,
 Es_nil, Es_cons, P_none, P_some, A_lst, A_ba, A_rv, A_dic, D_nil, D_cons, C_none, C_some, I_sq, I_rg, I_zp, S_asg, S_par, S_ret, S_ifs, S_ex, S_for, S_retn, S_brk, S_cnt, S_pas, S_setx, Ss_nil, Ss_cons,
 bnd_some, obd_some, cnd_some, ifT_some, bnd_cond, ifT_cond, seq_nx, seq_rt, seq_bk, seq_ct, seq_cond, res_nx, res_rt, res_cond, slot_v, slot_own, cAnd, cOr, cAndT, cOrT, fixR_d, fixR_l,
 B_add, B_sub, C_lt, C_le, C_gt, C_ge, C_eqI, C_neI, C_eqS, C_neS, C_eqB, C_neB, C_isNN, C_isIN, C_isTN, C_isnNN, C_isnIN, R_b, R_i, X_t, X_l, at0, at1, at2, at3, tup1, tup2, tup3, tup4,
 biInt, biAbs, biMin2, biLenL, biLenT, biTupL, str_inj, asg_d, asg_l, asgs_nil, asgs_cons, mapNm,
 gz, gs, sz, ss, mc, mn, ac, an, rc, rz, om, Nat.sub_self, Nat.reduceSub, Nat.reduceAdd, reduceCtorEq, String.reduceEq, decide_true, decide_false, cond_true, cond_false, Bool.not_true, Bool.not_false, Bool.true_and, Bool.false_and, Bool.and_true, Bool.and_false, Bool.or_true, Bool.or_false, Bool.true_or, Bool.false_or, Bool.not_not, rg1 o6, ed']) (by show 8 < 9; decide) rfl (by rw [len_rgI]; exact Nat.le_trans (m := 300000) (by omega) (by decide))
    (fun n hn => by
      obtain ⟨n1, n2⟩ := mem_rgI.mp hn
      have b1 := at_told (c := c) (N := N) (i := n) (by omega) (by omega)
      simp only [E_nm, E_ct, E_gl, E_tup, E_bop, E_neg, E_not, E_and, E_or, E_cmp, E_chn, E_ite, E_ix, E_sl, E_call, E_bi, E_me, E_al, E_st, T_and, T_or, T_not, T_nm, T_cmp, T_chn, T_ix, T_call, T_bi,
 Es_nil, Es_cons, P_none, P_some, A_lst, A_ba, A_rv, A_dic, D_nil, D_cons, C_none, C_some, I_sq, I_rg, I_zp, S_asg, S_par, S_ret, S_ifs, S_ex, S_for, S_retn, S_brk, S_cnt, S_pas, S_setx, Ss_nil, Ss_cons,
 bnd_some, obd_some, cnd_some, ifT_some, bnd_cond, ifT_cond, seq_nx, seq_rt, seq_bk, seq_ct, seq_cond, res_nx, res_rt, res_cond, slot_v, slot_own, cAnd, cOr, cAndT, cOrT, fixR_d, fixR_l,
 B_add, B_sub, C_lt, C_le, C_gt, C_ge, C_eqI, C_neI, C_eqS, C_neS, C_eqB, C_neB, C_isNN, C_isIN, C_isTN, C_isnNN, C_isnIN, R_b, R_i, X_t, X_l, at0, at1, at2, at3, tup1, tup2, tup3, tup4,
 biInt, biAbs, biMin2, biLenL, biLenT, biTupL, str_inj, asg_d, asg_l, asgs_nil, asgs_cons, mapNm,
 gz, gs, sz, ss, mc, mn, ac, an, rc, rz, om, Nat.sub_self, Nat.reduceSub, Nat.reduceAdd, reduceCtorEq, String.reduceEq, decide_true, decide_false, cond_true, cond_false, Bool.not_true, Bool.not_false, Bool.true_and, Bool.false_and, Bool.and_true, Bool.and_false, Bool.or_true, Bool.or_false, Bool.true_or, Bool.false_or, Bool.not_not, b1])
    (fun n _ _ => by simp only [E_nm, E_ct, E_gl, E_tup, E_bop, E_neg, E_not, E_and, E_or, E_cmp, E_chn, E_ite, E_ix, E_sl, E_call, E_bi, E_me, E_al, E_st, T_and, T_or, T_not, T_nm, T_cmp, T_chn, T_ix, T_call, T_bi,
 Es_nil, Es_cons, P_none, P_some, A_lst, A_ba, A_rv, A_dic, D_nil, D_cons, C_none, C_some, I_sq, I_rg, I_zp, S_asg, S_par, S_ret, S_ifs, S_ex, S_for, S_retn, S_brk, S_cnt, S_pas, S_setx, Ss_nil, Ss_cons,
 bnd_some, obd_some, cnd_some, ifT_some, bnd_cond, ifT_cond, seq_nx, seq_rt, seq_bk, seq_ct, seq_cond, res_nx, res_rt, res_cond, slot_v, slot_own, cAnd, cOr, cAndT, cOrT, fixR_d, fixR_l,
 B_add, B_sub, C_lt, C_le, C_gt, C_ge, C_eqI, C_neI, C_eqS, C_neS, C_eqB, C_neB, C_isNN, C_isIN, C_isTN, C_isnNN, C_isnIN, R_b, R_i, X_t, X_l, at0, at1, at2, at3, tup1, tup2, tup3, tup4,
 biInt, biAbs, biMin2, biLenL, biLenT, biTupL, str_inj, asg_d, asg_l, asgs_nil, asgs_cons, mapNm,
 gz, gs, sz, ss, mc, mn, ac, an, rc, rz, om, Nat.sub_self, Nat.reduceSub, Nat.reduceAdd, reduceCtorEq, String.reduceEq, decide_true, decide_false, cond_true, cond_false, Bool.not_true, Bool.not_false, Bool.true_and, Bool.false_and, Bool.and_true, Bool.and_false, Bool.or_true, Bool.or_false, Bool.true_or, Bool.false_or, Bool.not_not])
  have hts : c.ts 0 (d : Int) = (rgI 0 d).filter c.has := by
    unfold Cal.ts
    have : ((d : Int) - 0).toNat = d := by omega
    rw [this]
  rw [call_eq (fn := fn_law_plain) rfl rfl]
  simp only [fn_law_plain, E_nm, E_ct, E_gl, E_tup, E_bop, E_neg, E_not, E_and, E_or, E_cmp, E_chn, E_ite, E_ix, E_sl, E_call, E_bi, E_me, E_al, E_st, T_and, T_or, T_not, T_nm, T_cmp, T_chn, T_ix, T_call, T_bi,
 Es_nil, Es_cons, P_none, P_some, A_lst, A_ba, A_rv, A_dic, D_nil, D_cons, C_none, C_some, I_sq, I_rg, I_zp, S_asg, S_par, S_ret, S_ifs, S_ex, S_for, S_retn, S_brk, S_cnt, S_pas, S_setx, Ss_nil, Ss_cons,
 bnd_some, obd_some, cnd_some, ifT_some, bnd_cond, ifT_cond, seq_nx, seq_rt, seq_bk, seq_ct, seq_cond, res_nx, res_rt, res_cond, slot_v, slot_own, cAnd, cOr, cAndT, cOrT, fixR_d, fixR_l,
 B_add, B_sub, C_lt, C_le, C_gt, C_ge, C_eqI, C_neI, C_eqS, C_neS, C_eqB, C_neB, C_isNN, C_isIN, C_isTN, C_isnNN, C_isnIN, R_b, R_i, X_t, X_l, at0, at1, at2, at3, tup1, tup2, tup3, tup4,
 biInt, biAbs, biMin2, biLenL, biLenT, biTupL, str_inj, asg_d, asg_l, asgs_nil, asgs_cons, mapNm,
 gz, gs, sz, ss, mc, mn, ac, an, rc, rz, om, Nat.sub_self, Nat.reduceSub, Nat.reduceAdd, reduceCtorEq, String.reduceEq, decide_true, decide_false, cond_true, cond_false, Bool.not_true, Bool.not_false, Bool.true_and, Bool.false_and, Bool.and_true, Bool.and_false, Bool.or_true, Bool.or_false, Bool.true_or, Bool.false_or, Bool.not_not, h1, t1, frO_map, w1, t2, at_find hf, t3, at_find hb, t4, hrs, t5, hts]
/-- both plain forms are the same -/
theorem plain_same {c : Cal} (hc : c.wf) {q r : Nat} (h : IsQ c.has c.tl c.pd q) (k : IsQ c.has c.tl 420 r) : plainD c q = plainD c r := by
  rw [IsQ.uniq hc.pd.1 hc.pd.2 h k]
end K52

namespace K52
open PySem EV L2

/-! ### the source of drawn numbers -/
def srcK (l m t : Int) : List (Key × X) := [(.inr "cells", .l 0), (.inr "left", .d (.int l)), (.inr "mixed", .d (.int m)), (.inr "turn", .d (.int t))]
def mkS (cells : List Int) (l m t : Int) (rest : Sto) : Sto := .lst (cells.map fun i => .d (.int i)) :: .dic (srcK l m t) :: rest
def Src (rest st : Sto) : Prop := ∃ cells l m t, st = mkS cells l m t rest ∧ (∀ z ∈ cells, 0 ≤ z) ∧ cells.length ≤ 63 ∧ 0 ≤ l
theorem lk_cells {l m t : Int} : lk (.inr (Str.ofString "cells")) (srcK l m t) = some (.l 0) := by simp [srcK, lk]
theorem lk_left {l m t : Int} : lk (.inr (Str.ofString "left")) (srcK l m t) = some (.d (.int l)) := by simp [srcK, lk, str_inj]
theorem lk_mixed {l m t : Int} : lk (.inr (Str.ofString "mixed")) (srcK l m t) = some (.d (.int m)) := by simp [srcK, lk, str_inj]
theorem lk_turn {l m t : Int} : lk (.inr (Str.ofString "turn")) (srcK l m t) = some (.d (.int t)) := by simp [srcK, lk, str_inj]
theorem pt_left {l m t v : Int} : pt (.inr (Str.ofString "left")) (.d (.int v)) (srcK l m t) = srcK v m t := by simp [srcK, pt, str_inj]
theorem pt_turn {l m t v : Int} : pt (.inr (Str.ofString "turn")) (.d (.int v)) (srcK l m t) = srcK l m v := by simp [srcK, pt, str_inj]
section
variable {e : Lo} {cells : List Int} {l m t : Int} {rest : Sto}
theorem ix_src {k : Str} : ixX e (mkS cells l m t rest) (.l 1) (.d (.str k)) = lk (.inr k) (srcK l m t) := X_dic rfl
theorem len_src : biX e (mkS cells l m t rest) .len [.l 0] = some (.int cells.length) := by
  rw [lenSto (xs := cells.map fun i => .d (.int i)) rfl, List.length_map]
theorem set_src {k : Str} {v : X} (h : v.isO = false) : setX e (mkS cells l m t rest) (.l 1) (.d (.str k)) v = some (e, .lst (cells.map fun i => .d (.int i)) :: .dic (pt (.inr k) v (srcK l m t)) :: rest) := by
  have h1 : (4 : Nat) < sizeLine := by decide
  simp [setX, h, mutX, obX, mkS, keyD, putX, srcK, h1]
theorem pop_src {z : Int} : meX e (mkS (cells ++ [z]) l m t rest) .pop0 (.l 0) [] = some (.d (.int z), e, mkS cells l m t rest) := by
  simp [meX, mutX, obX, mkS, putX]
theorem ob_src : isL (obX e (mkS cells l m t rest) (.l 0)) = true := rfl
end
theorem fm_nn {a b : Int} (hb : 0 < b) : 0 ≤ a.fmod b ∧ a.fmod b < b := by
  rw [Int.fmod_eq_emod_of_nonneg _ (by omega)]
  exact ⟨Int.emod_nonneg _ (by omega), Int.emod_lt_of_pos _ hb⟩
theorem fd_nn {a b : Int} (ha : 0 ≤ a) (hb : 0 < b) : 0 ≤ a.fdiv b := by
  rw [Int.fdiv_eq_ediv_of_nonneg _ (by omega)]
  exact Int.ediv_nonneg ha (by omega)
theorem pick_spec {w : Nat} {rest st : Sto} {k : Nat} {most : Int} (hs : Src rest st) (hw : 64 < w) (hk : 0 < k) (hm : most < 1000000) :
    ∃ (r : Int) (st' : Sto), evCall prog w k i_law_pick [.l 1, .d (.int most)] st = some (.d (.int r), st') ∧ Src rest st' ∧ 0 ≤ r ∧ (r < most ∨ (most < 2 ∧ r = 0)) := by
  obtain ⟨k, rfl⟩ : ∃ j, k = j + 1 := ⟨k - 1, by omega⟩
  obtain ⟨cells, l, m, t, rfl, hc, hl, hl0⟩ := hs
  by_cases h2 : most < 2
  · refine ⟨0, _, ?_, ⟨cells, l, m, t, rfl, hc, hl, hl0⟩, Int.le_refl 0, .inr ⟨h2, rfl⟩⟩
    rw [call_eq (fn := fn_law_pick) rfl rfl]
    simp only [fn_law_pick, E_nm, E_ct, E_gl, E_tup, E_bop, E_neg, E_not, E_and, E_or, E_cmp, E_chn, E_ite, E_ix, E_sl, E_call, E_bi, E_me, E_al, E_st, T_and, T_or, T_not, T_nm, T_cmp, T_chn, T_ix, T_call, T_bi,
 Es_nil, Es_cons, P_none, P_some, A_lst, A_ba, A_rv, A_dic, D_nil, D_cons, C_none, C_some, I_sq, I_rg, I_zp, S_asg, S_par, S_ret, S_ifs, S_ex, S_for, S_retn, S_brk, S_cnt, S_pas, S_setx, Ss_nil, Ss_cons,
 bnd_some, obd_some, cnd_some, ifT_some, bnd_cond, ifT_cond, seq_nx, seq_rt, seq_bk, seq_ct, seq_cond, res_nx, res_rt, res_cond, slot_v, slot_own, cAnd, cOr, cAndT, cOrT, fixR_d, fixR_l,
 B_add, B_sub, C_lt, C_le, C_gt, C_ge, C_eqI, C_neI, C_eqS, C_neS, C_eqB, C_neB, C_isNN, C_isIN, C_isTN, C_isnNN, C_isnIN, R_b, R_i, X_t, X_l, at0, at1, at2, at3, tup1, tup2, tup3, tup4,
 biInt, biAbs, biMin2, biLenL, biLenT, biTupL, str_inj, asg_d, asg_l, asgs_nil, asgs_cons, mapNm,
 gz, gs, sz, ss, mc, mn, ac, an, rc, rz, om, Nat.sub_self, Nat.reduceSub, Nat.reduceAdd, reduceCtorEq, String.reduceEq, decide_true, decide_false, cond_true, cond_false, Bool.not_true, Bool.not_false, Bool.true_and, Bool.false_and, Bool.and_true, Bool.and_false, Bool.or_true, Bool.or_false, Bool.true_or, Bool.false_or, Bool.not_not, h2]
  · have hz : most ≠ 0 := by omega
    have hdv : divOk most = true := divOk_of (by omega) (by omega)
    let P : Nat → Lo → Sto → Prop := fun n e s => e = [.v (.l 1), .v (.d (.int most)), .v (.l 0), .no, .no, .no] ∧ ∃ cells l, cells.length = n ∧ s = mkS cells l m t rest ∧ (∀ z ∈ cells, 0 ≤ z) ∧ cells.length ≤ 63 ∧ 0 ≤ l
    let Q : Lo → Sto → Prop := fun e s => e = [.v (.l 1), .v (.d (.int most)), .v (.l 0), .no, .no, .no] ∧ ∃ cells l, s = mkS cells l m t rest ∧ (∀ z ∈ cells, 0 ≤ z) ∧ cells.length ≤ 63 ∧ 0 ≤ l
    obtain ⟨e', s', hwl, rfl, cells', l', rfl, hc', hl', hl0'⟩ := wh_inv (c := evT prog.cs (evCall prog w k) (.and (.cmp .lt (.ix (.nm 0) (.ct (.str "left"))) (.ct (.int 2))) (.cmp .gt (.bi .len [.nm 2]) (.ct (.int 0)))))
      (b := evSs prog.cs (evCall prog w k) w [.setx (.nm 0) (.ct (.str "left")) (.me .pop0 (.nm 2) [])]) P Q (fun n e s h => by
      obtain ⟨rfl, cells, l, rfl, rfl, hc, hl, hl0⟩ := h
      by_cases a1 : l < 2
      · rcases List.eq_nil_or_concat cells with rfl | ⟨L, z, rfl⟩
        · left
          have z1 : decide ((0 : Int) < (([] : List Int).length : Int)) = false := rfl
          refine ⟨[.v (.l 1), .v (.d (.int most)), .v (.l 0), .no, .no, .no], mkS [] l m t rest, ?_, rfl, [], l, rfl, hc, hl, hl0⟩
          simp only [E_nm, E_ct, E_gl, E_tup, E_bop, E_neg, E_not, E_and, E_or, E_cmp, E_chn, E_ite, E_ix, E_sl, E_call, E_bi, E_me, E_al, E_st, T_and, T_or, T_not, T_nm, T_cmp, T_chn, T_ix, T_call, T_bi,
 Es_nil, Es_cons, P_none, P_some, A_lst, A_ba, A_rv, A_dic, D_nil, D_cons, C_none, C_some, I_sq, I_rg, I_zp, S_asg, S_par, S_ret, S_ifs, S_ex, S_for, S_retn, S_brk, S_cnt, S_pas, S_setx, Ss_nil, Ss_cons,
 bnd_some, obd_some, cnd_some, ifT_some, bnd_cond, ifT_cond, seq_nx, seq_rt, seq_bk, seq_ct, seq_cond, res_nx, res_rt, res_cond, slot_v, slot_own, cAnd, cOr, cAndT, cOrT, fixR_d, fixR_l,
 B_add, B_sub, C_lt, C_le, C_gt, C_ge, C_eqI, C_neI, C_eqS, C_neS, C_eqB, C_neB, C_isNN, C_isIN, C_isTN, C_isnNN, C_isnIN, R_b, R_i, X_t, X_l, at0, at1, at2, at3, tup1, tup2, tup3, tup4,
 biInt, biAbs, biMin2, biLenL, biLenT, biTupL, str_inj, asg_d, asg_l, asgs_nil, asgs_cons, mapNm,
 gz, gs, sz, ss, mc, mn, ac, an, rc, rz, om, Nat.sub_self, Nat.reduceSub, Nat.reduceAdd, reduceCtorEq, String.reduceEq, decide_true, decide_false, cond_true, cond_false, Bool.not_true, Bool.not_false, Bool.true_and, Bool.false_and, Bool.and_true, Bool.and_false, Bool.or_true, Bool.or_false, Bool.true_or, Bool.false_or, Bool.not_not, ix_src, lk_left, len_src, a1, z1]
        · right
          rw [List.concat_eq_append] at *
          have z1 : decide ((0 : Int) < ((L ++ [z]).length : Int)) = true := decide_eq_true (by simp)
          refine ⟨[.v (.l 1), .v (.d (.int most)), .v (.l 0), .no, .no, .no], mkS (L ++ [z]) l m t rest, [.v (.l 1), .v (.d (.int most)), .v (.l 0), .no, .no, .no], mkS L z m t rest, L.length, ?_, ?_, by simp, rfl, L, z, rfl, rfl, fun y hy => hc y (by simp [hy]), by simp at hl; omega, hc z (by simp)⟩
          · simp only [E_nm, E_ct, E_gl, E_tup, E_bop, E_neg, E_not, E_and, E_or, E_cmp, E_chn, E_ite, E_ix, E_sl, E_call, E_bi, E_me, E_al, E_st, T_and, T_or, T_not, T_nm, T_cmp, T_chn, T_ix, T_call, T_bi,
 Es_nil, Es_cons, P_none, P_some, A_lst, A_ba, A_rv, A_dic, D_nil, D_cons, C_none, C_some, I_sq, I_rg, I_zp, S_asg, S_par, S_ret, S_ifs, S_ex, S_for, S_retn, S_brk, S_cnt, S_pas, S_setx, Ss_nil, Ss_cons,
 bnd_some, obd_some, cnd_some, ifT_some, bnd_cond, ifT_cond, seq_nx, seq_rt, seq_bk, seq_ct, seq_cond, res_nx, res_rt, res_cond, slot_v, slot_own, cAnd, cOr, cAndT, cOrT, fixR_d, fixR_l,
 B_add, B_sub, C_lt, C_le, C_gt, C_ge, C_eqI, C_neI, C_eqS, C_neS, C_eqB, C_neB, C_isNN, C_isIN, C_isTN, C_isnNN, C_isnIN, R_b, R_i, X_t, X_l, at0, at1, at2, at3, tup1, tup2, tup3, tup4,
 biInt, biAbs, biMin2, biLenL, biLenT, biTupL, str_inj, asg_d, asg_l, asgs_nil, asgs_cons, mapNm,
 gz, gs, sz, ss, mc, mn, ac, an, rc, rz, om, Nat.sub_self, Nat.reduceSub, Nat.reduceAdd, reduceCtorEq, String.reduceEq, decide_true, decide_false, cond_true, cond_false, Bool.not_true, Bool.not_false, Bool.true_and, Bool.false_and, Bool.and_true, Bool.and_false, Bool.or_true, Bool.or_false, Bool.true_or, Bool.false_or, Bool.not_not, ix_src, lk_left, len_src, a1, z1]
          · simp only [E_nm, E_ct, E_gl, E_tup, E_bop, E_neg, E_not, E_and, E_or, E_cmp, E_chn, E_ite, E_ix, E_sl, E_call, E_bi, E_me, E_al, E_st, T_and, T_or, T_not, T_nm, T_cmp, T_chn, T_ix, T_call, T_bi,
 Es_nil, Es_cons, P_none, P_some, A_lst, A_ba, A_rv, A_dic, D_nil, D_cons, C_none, C_some, I_sq, I_rg, I_zp, S_asg, S_par, S_ret, S_ifs, S_ex, S_for, S_retn, S_brk, S_cnt, S_pas, S_setx, Ss_nil, Ss_cons,
 bnd_some, obd_some, cnd_some, ifT_some, bnd_cond, ifT_cond, seq_nx, seq_rt, seq_bk, seq_ct, seq_cond, res_nx, res_rt, res_cond, slot_v, slot_own, cAnd, cOr, cAndT, cOrT, fixR_d, fixR_l,
 B_add, B_sub, C_lt, C_le, C_gt, C_ge, C_eqI, C_neI, C_eqS, C_neS, C_eqB, C_neB, C_isNN, C_isIN, C_isTN, C_isnNN, C_isnIN, R_b, R_i, X_t, X_l, at0, at1, at2, at3, tup1, tup2, tup3, tup4,
 biInt, biAbs, biMin2, biLenL, biLenT, biTupL, str_inj, asg_d, asg_l, asgs_nil, asgs_cons, mapNm,
 gz, gs, sz, ss, mc, mn, ac, an, rc, rz, om, Nat.sub_self, Nat.reduceSub, Nat.reduceAdd, reduceCtorEq, String.reduceEq, decide_true, decide_false, cond_true, cond_false, Bool.not_true, Bool.not_false, Bool.true_and, Bool.false_and, Bool.and_true, Bool.and_false, Bool.or_true, Bool.or_false, Bool.true_or, Bool.false_or, Bool.not_not, ob_src, pop_src, set_src (show X.isO (.d (.int z)) = false from rfl), pt_left]
            rfl
      · left
        refine ⟨[.v (.l 1), .v (.d (.int most)), .v (.l 0), .no, .no, .no], mkS cells l m t rest, ?_, rfl, cells, l, rfl, hc, hl, hl0⟩
        simp only [E_nm, E_ct, E_gl, E_tup, E_bop, E_neg, E_not, E_and, E_or, E_cmp, E_chn, E_ite, E_ix, E_sl, E_call, E_bi, E_me, E_al, E_st, T_and, T_or, T_not, T_nm, T_cmp, T_chn, T_ix, T_call, T_bi,
 Es_nil, Es_cons, P_none, P_some, A_lst, A_ba, A_rv, A_dic, D_nil, D_cons, C_none, C_some, I_sq, I_rg, I_zp, S_asg, S_par, S_ret, S_ifs, S_ex, S_for, S_retn, S_brk, S_cnt, S_pas, S_setx, Ss_nil, Ss_cons,
 bnd_some, obd_some, cnd_some, ifT_some, bnd_cond, ifT_cond, seq_nx, seq_rt, seq_bk, seq_ct, seq_cond, res_nx, res_rt, res_cond, slot_v, slot_own, cAnd, cOr, cAndT, cOrT, fixR_d, fixR_l,
 B_add, B_sub, C_lt, C_le, C_gt, C_ge, C_eqI, C_neI, C_eqS, C_neS, C_eqB, C_neB, C_isNN, C_isIN, C_isTN, C_isnNN, C_isnIN, R_b, R_i, X_t, X_l, at0, at1, at2, at3, tup1, tup2, tup3, tup4,
 biInt, biAbs, biMin2, biLenL, biLenT, biTupL, str_inj, asg_d, asg_l, asgs_nil, asgs_cons, mapNm,
 gz, gs, sz, ss, mc, mn, ac, an, rc, rz, om, Nat.sub_self, Nat.reduceSub, Nat.reduceAdd, reduceCtorEq, String.reduceEq, decide_true, decide_false, cond_true, cond_false, Bool.not_true, Bool.not_false, Bool.true_and, Bool.false_and, Bool.and_true, Bool.and_false, Bool.or_true, Bool.or_false, Bool.true_or, Bool.false_or, Bool.not_not, ix_src, lk_left, len_src, a1]) w cells.length [.v (.l 1), .v (.d (.int most)), .v (.l 0), .no, .no, .no] (mkS cells l m t rest) ⟨rfl, cells, l, rfl, rfl, hc, hl, hl0⟩ (by omega)
    by_cases h3 : 1 < l'
    · refine ⟨l'.fmod most, mkS cells' (l'.fdiv most) m t rest, ?_, ⟨cells', _, m, t, rfl, hc', hl', fd_nn (by omega) (by omega)⟩, (fm_nn (by omega)).1, .inl (fm_nn (by omega)).2⟩
      rw [call_eq (fn := fn_law_pick) rfl rfl]
      simp only [fn_law_pick, E_nm, E_ct, E_gl, E_tup, E_bop, E_neg, E_not, E_and, E_or, E_cmp, E_chn, E_ite, E_ix, E_sl, E_call, E_bi, E_me, E_al, E_st, T_and, T_or, T_not, T_nm, T_cmp, T_chn, T_ix, T_call, T_bi,
 Es_nil, Es_cons, P_none, P_some, A_lst, A_ba, A_rv, A_dic, D_nil, D_cons, C_none, C_some, I_sq, I_rg, I_zp, S_asg, S_par, S_ret, S_ifs, S_ex, S_for, S_retn, S_brk, S_cnt, S_pas, S_setx, Ss_nil, Ss_cons,
 bnd_some, obd_some, cnd_some, ifT_some, bnd_cond, ifT_cond, seq_nx, seq_rt, seq_bk, seq_ct, seq_cond, res_nx, res_rt, res_cond, slot_v, slot_own, cAnd, cOr, cAndT, cOrT, fixR_d, fixR_l,
 B_add, B_sub, C_lt, C_le, C_gt, C_ge, C_eqI, C_neI, C_eqS, C_neS, C_eqB, C_neB, C_isNN, C_isIN, C_isTN, C_isnNN, C_isnIN, R_b, R_i, X_t, X_l, at0, at1, at2, at3, tup1, tup2, tup3, tup4,
 biInt, biAbs, biMin2, biLenL, biLenT, biTupL, str_inj, asg_d, asg_l, asgs_nil, asgs_cons, mapNm,
 gz, gs, sz, ss, mc, mn, ac, an, rc, rz, om, Nat.sub_self, Nat.reduceSub, Nat.reduceAdd, reduceCtorEq, String.reduceEq, decide_true, decide_false, cond_true, cond_false, Bool.not_true, Bool.not_false, Bool.true_and, Bool.false_and, Bool.and_true, Bool.and_false, Bool.or_true, Bool.or_false, Bool.true_or, Bool.false_or, Bool.not_not, h2, ix_src, lk_cells, S_whl, hwl, lk_left, h3, B_fdiv hdv, B_mod hz, set_src (show X.isO (.d (.int (l'.fdiv most))) = false from rfl), pt_left]
      rfl
    · refine ⟨((((m + (t + 1) * 104729).fmod 998244353 * (m + (t + 1) * 104729).fmod 998244353 + (t + 1) * 17).fmod 2147483647).fdiv 16).fmod most, mkS cells' l' m (t + 1) rest, ?_, ⟨cells', l', m, t + 1, rfl, hc', hl', hl0'⟩, (fm_nn (by omega)).1, .inl (fm_nn (by omega)).2⟩
      have s1 : small 104729 = true := by decide
      have s2 : small 17 = true := by decide
      obtain ⟨u, hu⟩ : ∃ u, (m + (t + 1) * 104729).fmod 998244353 = u := ⟨_, rfl⟩
      have hub := fm_nn (a := m + (t + 1) * 104729) (b := 998244353) (by decide)
      rw [hu] at hub ⊢
      have s3 : small u = true := small_of hub.1 (by omega)
      have b1 := fun e s i => B_mod (e := e) (s := s) (i := i) (j := 998244353) (by decide)
      have b2 := fun e s i => B_mod (e := e) (s := s) (i := i) (j := 2147483647) (by decide)
      have b3 := fun e s i => B_fdiv (e := e) (s := s) (i := i) (j := 16) (divOk_of (by decide) (by decide))
      have m1 := fun e s i => B_mul2 (e := e) (s := s) (i := i) s1
      have m2 := fun e s i => B_mul2 (e := e) (s := s) (i := i) s2
      have m3 := fun e s j => B_mul1 (e := e) (s := s) (j := j) s3
      have fold : ∀ {v : Int}, (Ob.lst (cells'.map fun i => X.d (.int i)) :: Ob.dic (srcK l' m v) :: rest : Sto) = mkS cells' l' m v rest := rfl
      rw [call_eq (fn := fn_law_pick) rfl rfl]
      simp only [fn_law_pick, E_nm, E_ct, E_gl, E_tup, E_bop, E_neg, E_not, E_and, E_or, E_cmp, E_chn, E_ite, E_ix, E_sl, E_call, E_bi, E_me, E_al, E_st, T_and, T_or, T_not, T_nm, T_cmp, T_chn, T_ix, T_call, T_bi,
 Es_nil, Es_cons, P_none, P_some, A_lst, A_ba, A_rv, A_dic, D_nil, D_cons, C_none, C_some, I_sq, I_rg, I_zp, S_asg, S_par, S_ret, S_ifs, S_ex, S_for, S_retn, S_brk, S_cnt, S_pas, S_setx, Ss_nil, Ss_cons,
 bnd_some, obd_some, cnd_some, ifT_some, bnd_cond, ifT_cond, seq_nx, seq_rt, seq_bk, seq_ct, seq_cond, res_nx, res_rt, res_cond, slot_v, slot_own, cAnd, cOr, cAndT, cOrT, fixR_d, fixR_l,
 B_add, B_sub, C_lt, C_le, C_gt, C_ge, C_eqI, C_neI, C_eqS, C_neS, C_eqB, C_neB, C_isNN, C_isIN, C_isTN, C_isnNN, C_isnIN, R_b, R_i, X_t, X_l, at0, at1, at2, at3, tup1, tup2, tup3, tup4,
 biInt, biAbs, biMin2, biLenL, biLenT, biTupL, str_inj, asg_d, asg_l, asgs_nil, asgs_cons, mapNm,
 gz, gs, sz, ss, mc, mn, ac, an, rc, rz, om, Nat.sub_self, Nat.reduceSub, Nat.reduceAdd, reduceCtorEq, String.reduceEq, decide_true, decide_false, cond_true, cond_false, Bool.not_true, Bool.not_false, Bool.true_and, Bool.false_and, Bool.and_true, Bool.and_false, Bool.or_true, Bool.or_false, Bool.true_or, Bool.false_or, Bool.not_not, h2, ix_src, lk_cells, S_whl, hwl, lk_left, h3, lk_turn, lk_mixed, set_src (show X.isO (.d (.int (t + 1))) = false from rfl), pt_turn, fold, m1, b1, hu, m3, m2, b2, b3, B_mod hz]
end K52

namespace K52
open PySem EV L2

theorem lst1 {e : Lo} {s : Sto} {a : D} : (if [X.d a].any X.isO = true then none else if [X.d a].length ≤ sizeLine then some (Ob.lst [X.d a], e, s) else none) = some (Ob.lst [X.d a], e, s) := by
  rw [if_neg (by simp [X.isO]), if_pos (by show 1 ≤ sizeLine; decide)]
theorem lst3 {e : Lo} {s : Sto} {a b c : D} : (if [X.d a, X.d b, X.d c].any X.isO = true then none else if [X.d a, X.d b, X.d c].length ≤ sizeLine then some (Ob.lst [X.d a, X.d b, X.d c], e, s) else none) = some (Ob.lst [X.d a, X.d b, X.d c], e, s) := by
  rw [if_neg (by simp [X.isO]), if_pos (by show 3 ≤ sizeLine; decide)]
theorem fr1 {a : D} : frO (.lst [X.d a]) = some (.list [a]) := of_eq_true (eq_self _)
theorem fr3 {a b c : D} : frO (.lst [X.d a, X.d b, X.d c]) = some (.list [a, b, c]) := of_eq_true (eq_self _)
theorem lcGo_inv {f : Ev X} {cs : List D} {cl : Nat → List X → Sto → Option (X × Sto)} {i : Nat} {env : Lo} (I : Sto → Prop) (R : Int → Prop) (hf : ∀ x st, I st → ∃ z st', f (env.set i (.v x)) st = some (.d (.int z), env.set i (.v x), st') ∧ R z ∧ I st') :
    ∀ (xs : List X) (e0 : Slot) (st : Sto), (∀ x ∈ xs, x.isO = false) → I st → ∃ (zs : List Int) (y : Slot) (st' : Sto), lcGo f (evC cs cl none) (.nm i) [i] xs (env.set i e0) st = some (zs.map (fun z => .d (.int z)), env.set i y, st') ∧ (∀ z ∈ zs, R z) ∧ I st' ∧ zs.length = xs.length
  | [], e0, st, _, h => ⟨[], e0, st, rfl, (fun z hz => by cases hz), h, rfl⟩
  | x :: r, e0, st, ho, h => by
    obtain ⟨z, st1, h1, h2, h3⟩ := hf x st h
    obtain ⟨zs, y, st2, h4, h5, h6, h7⟩ := lcGo_inv I R hf r (.v x) st1 (fun x hx => ho x (List.mem_cons_of_mem _ hx)) h3
    refine ⟨z :: zs, y, st2, ?_, fun y hy => ?_, h6, by simp [h7]⟩
    · rw [lcGo]
      have ha : asgT (.nm i) x (wipeL (env.set i e0) [i]) = some (env.set i (.v x)) := by
        simp only [asgT, ho x List.mem_cons_self, wipeL, List.set_set]
        rfl
      rw [ha]
      simp only
      rw [C_none]
      simp only
      rw [h1]
      simp only [X.isO, Bool.false_eq_true, if_false]
      rw [h4]
      rfl
    · rcases List.mem_cons.mp hy with rfl | hy
      · exact h2
      · exact h5 y hy
/-- a comprehension that draws -/
theorem lc_draw {cs : List D} {cl : Nat → List X → Sto → Option (X × Sto)} {x : E} {i : Nat} {it : EV.It} {env : Lo} {st st1 : Sto} {ns : List Int} (I : Sto → Prop) (R : Int → Prop) (hit : evIt cs cl it env st = some (ns.map fun t => .d (.int t), env, st1)) (hi : i < env.length) (hno : noOwn env [i] = true) (hl : ns.length ≤ sizeLine) (h1 : I st1)
    (hf : ∀ y st, I st → ∃ z st', evE cs cl x (env.set i (.v y)) st = some (.d (.int z), env.set i (.v y), st') ∧ R z ∧ I st') :
    ∃ (zs : List Int) (st' : Sto), evA cs cl (.lc x (.nm i) it none [i]) env st = some (.lst ((zs.map PyData.int).map .d), env, st') ∧ (∀ z ∈ zs, R z) ∧ I st' ∧ zs.length = ns.length := by
  obtain ⟨zs, y, st', h2, h3, h4, h5⟩ := lcGo_inv (cs := cs) (cl := cl) (i := i) (env := env) I R hf (ns.map fun t => .d (.int t)) env[i] st1 (fun x hx => by
    obtain ⟨n, _, rfl⟩ := List.mem_map.mp hx
    rfl) h1
  refine ⟨zs, st', ?_, h3, h4, by simpa using h5⟩
  have hl' : (ns.map fun t => X.d (.int t)).length ≤ sizeLine := by simpa using hl
  rw [A_lc, hit]
  simp only [bnd_some, hno, hl', decide_true, Bool.and_self, if_true]
  rw [set_self hi] at h2
  rw [h2]
  simp only [bnd_some, restL, List.getElem?_eq_getElem hi, List.set_set, set_self hi, List.map_map]
  rfl
theorem ba_sset {e : Lo} {s : Sto} {zs : List Int} (h : zs.length < 64) : baX e s .sset (.d (.list (zs.map .int))) = some (.lst (((ssetI zs).map PyData.int).map .d)) := by
  have h1 : intsD (zs.map .int) = some zs := intsD_of
  simp only [baX, toD, listD, h1, h, if_true, List.map_map]
  rfl
theorem insI_len {x : Int} : ∀ {l : List Int}, (insI x l).length ≤ l.length + 1
  | [] => by simp [insI]
  | y :: r => by
    unfold insI
    split
    · simp
    · split
      · simp
      · have := insI_len (x := x) (l := r)
        simp
        omega
theorem ssetI_len : ∀ {l : List Int}, (ssetI l).length ≤ l.length
  | [] => by simp [ssetI]
  | x :: r => by
    have h1 := ssetI_len (l := r)
    have h2 := insI_len (x := x) (l := ssetI r)
    simp only [ssetI, List.length_cons]
    omega
def steps : List Nat := [1, 2, 3, 4, 5, 6, 7, 10, 12, 14, 30, 35, 60]
def stepsD : List D := [.int 1, .int 2, .int 3, .int 4, .int 5, .int 6, .int 7, .int 10, .int 12, .int 14, .int 30, .int 35, .int 60]
theorem at_step {r : Int} (h0 : 0 ≤ r) (h1 : r < 13) : ∃ n : Nat, atI stepsD r = some (.int n) ∧ 0 < n ∧ n ∣ 420 := by
  obtain ⟨j, rfl⟩ := Int.eq_ofNat_of_zero_le h0
  have hj : j < steps.length := by show j < 13; omega
  have e : stepsD = steps.map fun n => .int (n : Nat) := rfl
  refine ⟨steps[j], ?_, ?_⟩
  · rw [atN, e, List.getElem?_map, List.getElem?_eq_getElem hj]
    rfl
  · have : ∀ n ∈ steps, 0 < n ∧ n ∣ 420 := by decide
    exact this _ (List.getElem_mem hj)
theorem at_end {r z : Int} (h0 : 0 ≤ r) (h1 : r < 3) : ∃ o : Option Int, atI [PyData.none, PyData.none, PyData.int z] r = some (optD o) ∧ ∀ i, o = some i → i = z := by
  rcases (show r = 0 ∨ r = 1 ∨ r = 2 by omega) with rfl | rfl | rfl
  · exact ⟨none, at0, fun i h => by cases h⟩
  · exact ⟨none, at1, fun i h => by cases h⟩
  · exact ⟨some z, at2, fun i h => by cases h; rfl⟩
theorem lst13 {e : Lo} {s : Sto} : (if [X.d (.int 1), X.d (.int 2), X.d (.int 3), X.d (.int 4), X.d (.int 5), X.d (.int 6), X.d (.int 7), X.d (.int 10), X.d (.int 12), X.d (.int 14), X.d (.int 30), X.d (.int 35), X.d (.int 60)].any X.isO = true then none else if [X.d (.int 1), X.d (.int 2), X.d (.int 3), X.d (.int 4), X.d (.int 5), X.d (.int 6), X.d (.int 7), X.d (.int 10), X.d (.int 12), X.d (.int 14), X.d (.int 30), X.d (.int 35), X.d (.int 60)].length ≤ sizeLine then some (Ob.lst [X.d (.int 1), X.d (.int 2), X.d (.int 3), X.d (.int 4), X.d (.int 5), X.d (.int 6), X.d (.int 7), X.d (.int 10), X.d (.int 12), X.d (.int 14), X.d (.int 30), X.d (.int 35), X.d (.int 60)], e, s) else none) = some (Ob.lst (stepsD.map .d), e, s) := by
  rw [if_neg (by simp [X.isO]), if_pos (by show 13 ≤ sizeLine; decide)]
  rfl
/-- drawn ones stay small -/
def Cal.sm : Cal → Prop
  | .every _ s e => s < 100 ∧ ∀ i, e = some i → i < 100
  | .list ts => ∀ t ∈ ts, t < 100
  | .moved c n => c.sm ∧ n < 100
  | .both a b => a.sm ∧ b.sm
  | .common a b => a.sm ∧ b.sm
  | .without a b => a.sm ∧ b.sm
theorem Cal.sm.tl : ∀ {c : Cal}, c.sm → c.tl < 102 + 100 * c.ht
  | .every p s none, h => by
    have := h.1
    simp only [Cal.tl, Cal.ht]
    omega
  | .every p s (some e), h => by
    have := h.2 e rfl
    simp only [Cal.tl, Cal.ht]
    omega
  | .list ts, h => by
    have h2 := maxF_lt (k := 100) (ts := ts) (a := -1) (by decide) h
    simp only [Cal.tl, Cal.ht]
    omega
  | .moved c n, h => by
    have h1 := Cal.sm.tl (c := c) h.1
    have h2 := h.2
    simp only [Cal.tl, Cal.ht]
    push_cast
    omega
  | .both a b, h => by
    have h1 := Cal.sm.tl h.1
    have h2 := Cal.sm.tl h.2
    simp only [Cal.tl, Cal.ht]
    exact mx_lt (by push_cast; omega) (by push_cast; omega)
  | .common a b, h => by
    have h1 := Cal.sm.tl h.1
    have h2 := Cal.sm.tl h.2
    simp only [Cal.tl, Cal.ht]
    exact mx_lt (by push_cast; omega) (by push_cast; omega)
  | .without a b, h => by
    have h1 := Cal.sm.tl h.1
    have h2 := Cal.sm.tl h.2
    simp only [Cal.tl, Cal.ht]
    exact mx_lt (by push_cast; omega) (by push_cast; omega)
theorem draw_spec {w : Nat} {rest : Sto} (hw : 64 < w) : ∀ (d : Nat) {st : Sto} {k : Nat}, Src rest st → d + 1 < k →
    ∃ (c : Cal) (st' : Sto), evCall prog w k i_law_draw_wide_calendar [.l 1, .d (.int d)] st = some (.d c.d, st') ∧ (c.wf ∧ c.sm) ∧ c.ht ≤ d ∧ Src rest st' := by
  intro d
  induction d with
  | zero =>
    intro st k hs hk
    obtain ⟨k, rfl⟩ : ∃ j, k = j + 1 := ⟨k - 1, by omega⟩
    obtain ⟨r, st1, p1, S1, r0, r1⟩ := pick_spec (most := 3) hs hw (k := k) (by omega) (by decide)
    have c1 := fun e => callX_of (cl := evCall prog w k) (f := i_law_pick) (xs := [.l 1, .d (.int 3)]) (e := e) rfl p1
    have z0 : decide ((0 : Int) < ((0 : Nat) : Int)) = false := rfl
    by_cases h2 : r < 2
    · obtain ⟨r2, st2, p2, S2, r20, r21⟩ := pick_spec (most := 30) S1 hw (k := k) (by omega) (by decide)
      obtain ⟨r3, st3, p3, S3, r30, r31⟩ := pick_spec (most := 3) S2 hw (k := k) (by omega) (by decide)
      obtain ⟨r4, st4, p4, S4, r40, r41⟩ := pick_spec (most := 13) S3 hw (k := k) (by omega) (by decide)
      obtain ⟨r5, st5, p5, S5, r50, r51⟩ := pick_spec (most := 9) S4 hw (k := k) (by omega) (by decide)
      have c2 := fun e => callX_of (cl := evCall prog w k) (f := i_law_pick) (xs := [.l 1, .d (.int 30)]) (e := e) rfl p2
      have c3 := fun e => callX_of (cl := evCall prog w k) (f := i_law_pick) (xs := [.l 1, .d (.int 3)]) (e := e) rfl p3
      have c4 := fun e => callX_of (cl := evCall prog w k) (f := i_law_pick) (xs := [.l 1, .d (.int 13)]) (e := e) rfl p4
      have c5 := fun e => callX_of (cl := evCall prog w k) (f := i_law_pick) (xs := [.l 1, .d (.int 9)]) (e := e) rfl p5
      obtain ⟨o, ho, hoi⟩ := at_end (r := r3) (z := r2) r30 (by omega)
      obtain ⟨n, hn, hn0, hn1⟩ := at_step r40 (by omega)
      refine ⟨.every n r5 o, st5, ?_, ⟨⟨⟨n, rfl, hn0, hn1⟩, r50, by omega, fun i hi => by have := hoi i hi; omega⟩, by omega, fun i hi => by have := hoi i hi; omega⟩, Nat.zero_le _, S5⟩
      rw [call_eq (fn := fn_law_draw_wide_calendar) rfl rfl]
      simp only [fn_law_draw_wide_calendar, lst13, frO_map, E_nm, E_ct, E_gl, E_tup, E_bop, E_neg, E_not, E_and, E_or, E_cmp, E_chn, E_ite, E_ix, E_sl, E_call, E_bi, E_me, E_al, E_st, T_and, T_or, T_not, T_nm, T_cmp, T_chn, T_ix, T_call, T_bi,
 Es_nil, Es_cons, P_none, P_some, A_lst, A_ba, A_rv, A_dic, D_nil, D_cons, C_none, C_some, I_sq, I_rg, I_zp, S_asg, S_par, S_ret, S_ifs, S_ex, S_for, S_retn, S_brk, S_cnt, S_pas, S_setx, Ss_nil, Ss_cons,
 bnd_some, obd_some, cnd_some, ifT_some, bnd_cond, ifT_cond, seq_nx, seq_rt, seq_bk, seq_ct, seq_cond, res_nx, res_rt, res_cond, slot_v, slot_own, cAnd, cOr, cAndT, cOrT, fixR_d, fixR_l,
 B_add, B_sub, C_lt, C_le, C_gt, C_ge, C_eqI, C_neI, C_eqS, C_neS, C_eqB, C_neB, C_isNN, C_isIN, C_isTN, C_isnNN, C_isnIN, R_b, R_i, X_t, X_l, at0, at1, at2, at3, tup1, tup2, tup3, tup4,
 biInt, biAbs, biMin2, biLenL, biLenT, biTupL, str_inj, asg_d, asg_l, asgs_nil, asgs_cons, mapNm,
 gz, gs, sz, ss, mc, mn, ac, an, rc, rz, om, Nat.sub_self, Nat.reduceSub, Nat.reduceAdd, reduceCtorEq, String.reduceEq, decide_true, decide_false, cond_true, cond_false, Bool.not_true, Bool.not_false, Bool.true_and, Bool.false_and, Bool.and_true, Bool.and_false, Bool.or_true, Bool.or_false, Bool.true_or, Bool.false_or, Bool.not_not, z0, c1, h2, lst3, fr3, c2, c3, ho, c4, hn, c5, Cal.d]
    · obtain ⟨r2, st2, p2, S2, r20, r21⟩ := pick_spec (most := 5) S1 hw (k := k) (by omega) (by decide)
      have c2 := fun e => callX_of (cl := evCall prog w k) (f := i_law_pick) (xs := [.l 1, .d (.int 5)]) (e := e) rfl p2
      have hr : r = 2 := by omega
      subst hr
      obtain ⟨zs, st3, t1, t2, S3, t4⟩ := lc_draw (cs := prog.cs) (cl := evCall prog w k) (st := st1) (st1 := st2) (env := [.v (.l 1), .v (.d (.int (0 : Nat))), .v (.d (.int 2)), .no, .no, .no, .no]) (x := .call i_law_pick [.nm 0, .ct (.int 30)]) (i := 6) (it := .rg [.call i_law_pick [.nm 0, .ct (.int 5)]]) (ns := rgI 0 r2.toNat)
        (Src rest) (fun z => 0 ≤ z ∧ z < 30) (by simp only [E_nm, E_ct, E_gl, E_tup, E_bop, E_neg, E_not, E_and, E_or, E_cmp, E_chn, E_ite, E_ix, E_sl, E_call, E_bi, E_me, E_al, E_st, T_and, T_or, T_not, T_nm, T_cmp, T_chn, T_ix, T_call, T_bi,
 Es_nil, Es_cons, P_none, P_some, A_lst, A_ba, A_rv, A_dic, D_nil, D_cons, C_none, C_some, I_sq, I_rg, I_zp, S_asg, S_par, S_ret, S_ifs, S_ex, S_for, S_retn, S_brk, S_cnt, S_pas, S_setx, Ss_nil, Ss_cons,
 bnd_some, obd_some, cnd_some, ifT_some, bnd_cond, ifT_cond, seq_nx, seq_rt, seq_bk, seq_ct, seq_cond, res_nx, res_rt, res_cond, slot_v, slot_own, cAnd, cOr, cAndT, cOrT, fixR_d, fixR_l,
 B_add, B_sub, C_lt, C_le, C_gt, C_ge, C_eqI, C_neI, C_eqS, C_neS, C_eqB, C_neB, C_isNN, C_isIN, C_isTN, C_isnNN, C_isnIN, R_b, R_i, X_t, X_l, at0, at1, at2, at3, tup1, tup2, tup3, tup4,
 biInt, biAbs, biMin2, biLenL, biLenT, biTupL, str_inj, asg_d, asg_l, asgs_nil, asgs_cons, mapNm,
 gz, gs, sz, ss, mc, mn, ac, an, rc, rz, om, Nat.sub_self, Nat.reduceSub, Nat.reduceAdd, reduceCtorEq, String.reduceEq, decide_true, decide_false, cond_true, cond_false, Bool.not_true, Bool.not_false, Bool.true_and, Bool.false_and, Bool.and_true, Bool.and_false, Bool.or_true, Bool.or_false, Bool.true_or, Bool.false_or, Bool.not_not, c2, rg1 (in62_ok (ok62_of r20 (by omega)))]) (by show 6 < 7; decide) rfl (by rw [len_rgI]; exact Nat.le_trans (m := 5) (by omega) (by decide)) S2
        (fun y st hst => by
          obtain ⟨z, st', p3, S3, z0, z1⟩ := pick_spec (most := 30) hst hw (k := k) (by omega) (by decide)
          have c3 := fun e => callX_of (cl := evCall prog w k) (f := i_law_pick) (xs := [.l 1, .d (.int 30)]) (e := e) rfl p3
          refine ⟨z, st', ?_, ⟨z0, by omega⟩, S3⟩
          simp only [E_nm, E_ct, E_gl, E_tup, E_bop, E_neg, E_not, E_and, E_or, E_cmp, E_chn, E_ite, E_ix, E_sl, E_call, E_bi, E_me, E_al, E_st, T_and, T_or, T_not, T_nm, T_cmp, T_chn, T_ix, T_call, T_bi,
 Es_nil, Es_cons, P_none, P_some, A_lst, A_ba, A_rv, A_dic, D_nil, D_cons, C_none, C_some, I_sq, I_rg, I_zp, S_asg, S_par, S_ret, S_ifs, S_ex, S_for, S_retn, S_brk, S_cnt, S_pas, S_setx, Ss_nil, Ss_cons,
 bnd_some, obd_some, cnd_some, ifT_some, bnd_cond, ifT_cond, seq_nx, seq_rt, seq_bk, seq_ct, seq_cond, res_nx, res_rt, res_cond, slot_v, slot_own, cAnd, cOr, cAndT, cOrT, fixR_d, fixR_l,
 B_add, B_sub, C_lt, C_le, C_gt, C_ge, C_eqI, C_neI, C_eqS, C_neS, C_eqB, C_neB, C_isNN, C_isIN, C_isTN, C_isnNN, C_isnIN, R_b, R_i, X_t, X_l, at0, at1, at2, at3, tup1, tup2, tup3, tup4,
 biInt, biAbs, biMin2, biLenL, biLenT, biTupL, str_inj, asg_d, asg_l, asgs_nil, asgs_cons, mapNm,
 gz, gs, sz, ss, mc, mn, ac, an, rc, rz, om, Nat.sub_self, Nat.reduceSub, Nat.reduceAdd, reduceCtorEq, String.reduceEq, decide_true, decide_false, cond_true, cond_false, Bool.not_true, Bool.not_false, Bool.true_and, Bool.false_and, Bool.and_true, Bool.and_false, Bool.or_true, Bool.or_false, Bool.true_or, Bool.false_or, Bool.not_not, c3])
      rw [len_rgI] at t4
      refine ⟨.list (ssetI zs), st3, ?_, ⟨⟨?_, fun t ht => ?_⟩, fun t ht => ?_⟩, Nat.zero_le _, S3⟩
      · rw [call_eq (fn := fn_law_draw_wide_calendar) rfl rfl]
        simp only [fn_law_draw_wide_calendar, E_nm, E_ct, E_gl, E_tup, E_bop, E_neg, E_not, E_and, E_or, E_cmp, E_chn, E_ite, E_ix, E_sl, E_call, E_bi, E_me, E_al, E_st, T_and, T_or, T_not, T_nm, T_cmp, T_chn, T_ix, T_call, T_bi,
 Es_nil, Es_cons, P_none, P_some, A_lst, A_ba, A_rv, A_dic, D_nil, D_cons, C_none, C_some, I_sq, I_rg, I_zp, S_asg, S_par, S_ret, S_ifs, S_ex, S_for, S_retn, S_brk, S_cnt, S_pas, S_setx, Ss_nil, Ss_cons,
 bnd_some, obd_some, cnd_some, ifT_some, bnd_cond, ifT_cond, seq_nx, seq_rt, seq_bk, seq_ct, seq_cond, res_nx, res_rt, res_cond, slot_v, slot_own, cAnd, cOr, cAndT, cOrT, fixR_d, fixR_l,
 B_add, B_sub, C_lt, C_le, C_gt, C_ge, C_eqI, C_neI, C_eqS, C_neS, C_eqB, C_neB, C_isNN, C_isIN, C_isTN, C_isnNN, C_isnIN, R_b, R_i, X_t, X_l, at0, at1, at2, at3, tup1, tup2, tup3, tup4,
 biInt, biAbs, biMin2, biLenL, biLenT, biTupL, str_inj, asg_d, asg_l, asgs_nil, asgs_cons, mapNm,
 gz, gs, sz, ss, mc, mn, ac, an, rc, rz, om, Nat.sub_self, Nat.reduceSub, Nat.reduceAdd, reduceCtorEq, String.reduceEq, decide_true, decide_false, cond_true, cond_false, Bool.not_true, Bool.not_false, Bool.true_and, Bool.false_and, Bool.and_true, Bool.and_false, Bool.or_true, Bool.or_false, Bool.true_or, Bool.false_or, Bool.not_not, z0, c1, h2, t1, frO_map, ba_sset (zs := zs) (by omega), Cal.d]
      · have := ssetI_len (l := zs)
        omega
      · have := t2 t (ssetI_mem.mp ht)
        omega
      · have := t2 t (ssetI_mem.mp ht)
        omega
  | succ d ih =>
    intro st k hs hk
    obtain ⟨k, rfl⟩ : ∃ j, k = j + 1 := ⟨k - 1, by omega⟩
    obtain ⟨r, st1, p1, S1, r0, r1⟩ := pick_spec (most := 7) hs hw (k := k) (by omega) (by decide)
    have c1 := fun e => callX_of (cl := evCall prog w k) (f := i_law_pick) (xs := [.l 1, .d (.int 7)]) (e := e) rfl p1
    have z0 : decide ((0 : Int) < ((d + 1 : Nat) : Int)) = true := decide_eq_true (by omega)
    have zd : ((d + 1 : Nat) : Int) - 1 = d := by omega
    by_cases h2 : r < 2
    · obtain ⟨r2, st2, p2, S2, r20, r21⟩ := pick_spec (most := 30) S1 hw (k := k) (by omega) (by decide)
      obtain ⟨r3, st3, p3, S3, r30, r31⟩ := pick_spec (most := 3) S2 hw (k := k) (by omega) (by decide)
      obtain ⟨r4, st4, p4, S4, r40, r41⟩ := pick_spec (most := 13) S3 hw (k := k) (by omega) (by decide)
      obtain ⟨r5, st5, p5, S5, r50, r51⟩ := pick_spec (most := 9) S4 hw (k := k) (by omega) (by decide)
      have c2 := fun e => callX_of (cl := evCall prog w k) (f := i_law_pick) (xs := [.l 1, .d (.int 30)]) (e := e) rfl p2
      have c3 := fun e => callX_of (cl := evCall prog w k) (f := i_law_pick) (xs := [.l 1, .d (.int 3)]) (e := e) rfl p3
      have c4 := fun e => callX_of (cl := evCall prog w k) (f := i_law_pick) (xs := [.l 1, .d (.int 13)]) (e := e) rfl p4
      have c5 := fun e => callX_of (cl := evCall prog w k) (f := i_law_pick) (xs := [.l 1, .d (.int 9)]) (e := e) rfl p5
      obtain ⟨o, ho, hoi⟩ := at_end (r := r3) (z := r2) r30 (by omega)
      obtain ⟨n, hn, hn0, hn1⟩ := at_step r40 (by omega)
      refine ⟨.every n r5 o, st5, ?_, ⟨⟨⟨n, rfl, hn0, hn1⟩, r50, by omega, fun i hi => by have := hoi i hi; omega⟩, by omega, fun i hi => by have := hoi i hi; omega⟩, Nat.zero_le _, S5⟩
      rw [call_eq (fn := fn_law_draw_wide_calendar) rfl rfl]
      simp only [fn_law_draw_wide_calendar, lst13, frO_map, E_nm, E_ct, E_gl, E_tup, E_bop, E_neg, E_not, E_and, E_or, E_cmp, E_chn, E_ite, E_ix, E_sl, E_call, E_bi, E_me, E_al, E_st, T_and, T_or, T_not, T_nm, T_cmp, T_chn, T_ix, T_call, T_bi,
 Es_nil, Es_cons, P_none, P_some, A_lst, A_ba, A_rv, A_dic, D_nil, D_cons, C_none, C_some, I_sq, I_rg, I_zp, S_asg, S_par, S_ret, S_ifs, S_ex, S_for, S_retn, S_brk, S_cnt, S_pas, S_setx, Ss_nil, Ss_cons,
 bnd_some, obd_some, cnd_some, ifT_some, bnd_cond, ifT_cond, seq_nx, seq_rt, seq_bk, seq_ct, seq_cond, res_nx, res_rt, res_cond, slot_v, slot_own, cAnd, cOr, cAndT, cOrT, fixR_d, fixR_l,
 B_add, B_sub, C_lt, C_le, C_gt, C_ge, C_eqI, C_neI, C_eqS, C_neS, C_eqB, C_neB, C_isNN, C_isIN, C_isTN, C_isnNN, C_isnIN, R_b, R_i, X_t, X_l, at0, at1, at2, at3, tup1, tup2, tup3, tup4,
 biInt, biAbs, biMin2, biLenL, biLenT, biTupL, str_inj, asg_d, asg_l, asgs_nil, asgs_cons, mapNm,
 gz, gs, sz, ss, mc, mn, ac, an, rc, rz, om, Nat.sub_self, Nat.reduceSub, Nat.reduceAdd, reduceCtorEq, String.reduceEq, decide_true, decide_false, cond_true, cond_false, Bool.not_true, Bool.not_false, Bool.true_and, Bool.false_and, Bool.and_true, Bool.and_false, Bool.or_true, Bool.or_false, Bool.true_or, Bool.false_or, Bool.not_not, z0, c1, h2, lst3, fr3, c2, c3, ho, c4, hn, c5, Cal.d]
    · by_cases h3 : r = 2
      · obtain ⟨r2, st2, p2, S2, r20, r21⟩ := pick_spec (most := 5) S1 hw (k := k) (by omega) (by decide)
        have c2 := fun e => callX_of (cl := evCall prog w k) (f := i_law_pick) (xs := [.l 1, .d (.int 5)]) (e := e) rfl p2
        subst h3
        obtain ⟨zs, st3, t1, t2, S3, t4⟩ := lc_draw (cs := prog.cs) (cl := evCall prog w k) (st := st1) (st1 := st2) (env := [.v (.l 1), .v (.d (.int (d + 1 : Nat))), .v (.d (.int 2)), .no, .no, .no, .no]) (x := .call i_law_pick [.nm 0, .ct (.int 30)]) (i := 6) (it := .rg [.call i_law_pick [.nm 0, .ct (.int 5)]]) (ns := rgI 0 r2.toNat)
          (Src rest) (fun z => 0 ≤ z ∧ z < 30) (by simp only [E_nm, E_ct, E_gl, E_tup, E_bop, E_neg, E_not, E_and, E_or, E_cmp, E_chn, E_ite, E_ix, E_sl, E_call, E_bi, E_me, E_al, E_st, T_and, T_or, T_not, T_nm, T_cmp, T_chn, T_ix, T_call, T_bi,
 Es_nil, Es_cons, P_none, P_some, A_lst, A_ba, A_rv, A_dic, D_nil, D_cons, C_none, C_some, I_sq, I_rg, I_zp, S_asg, S_par, S_ret, S_ifs, S_ex, S_for, S_retn, S_brk, S_cnt, S_pas, S_setx, Ss_nil, Ss_cons,
 bnd_some, obd_some, cnd_some, ifT_some, bnd_cond, ifT_cond, seq_nx, seq_rt, seq_bk, seq_ct, seq_cond, res_nx, res_rt, res_cond, slot_v, slot_own, cAnd, cOr, cAndT, cOrT, fixR_d, fixR_l,
 B_add, B_sub, C_lt, C_le, C_gt, C_ge, C_eqI, C_neI, C_eqS, C_neS, C_eqB, C_neB, C_isNN, C_isIN, C_isTN, C_isnNN, C_isnIN, R_b, R_i, X_t, X_l, at0, at1, at2, at3, tup1, tup2, tup3, tup4,
 biInt, biAbs, biMin2, biLenL, biLenT, biTupL, str_inj, asg_d, asg_l, asgs_nil, asgs_cons, mapNm,
 gz, gs, sz, ss, mc, mn, ac, an, rc, rz, om, Nat.sub_self, Nat.reduceSub, Nat.reduceAdd, reduceCtorEq, String.reduceEq, decide_true, decide_false, cond_true, cond_false, Bool.not_true, Bool.not_false, Bool.true_and, Bool.false_and, Bool.and_true, Bool.and_false, Bool.or_true, Bool.or_false, Bool.true_or, Bool.false_or, Bool.not_not, c2, rg1 (in62_ok (ok62_of r20 (by omega)))]) (by show 6 < 7; decide) rfl (by rw [len_rgI]; exact Nat.le_trans (m := 5) (by omega) (by decide)) S2
          (fun y st hst => by
            obtain ⟨z, st', p3, S3, z0, z1⟩ := pick_spec (most := 30) hst hw (k := k) (by omega) (by decide)
            have c3 := fun e => callX_of (cl := evCall prog w k) (f := i_law_pick) (xs := [.l 1, .d (.int 30)]) (e := e) rfl p3
            refine ⟨z, st', ?_, ⟨z0, by omega⟩, S3⟩
            simp only [E_nm, E_ct, E_gl, E_tup, E_bop, E_neg, E_not, E_and, E_or, E_cmp, E_chn, E_ite, E_ix, E_sl, E_call, E_bi, E_me, E_al, E_st, T_and, T_or, T_not, T_nm, T_cmp, T_chn, T_ix, T_call, T_bi,
 Es_nil, Es_cons, P_none, P_some, A_lst, A_ba, A_rv, A_dic, D_nil, D_cons, C_none, C_some, I_sq, I_rg, I_zp, S_asg, S_par, S_ret, S_ifs, S_ex, S_for, S_retn, S_brk, S_cnt, S_pas, S_setx, Ss_nil, Ss_cons,
 bnd_some, obd_some, cnd_some, ifT_some, bnd_cond, ifT_cond, seq_nx, seq_rt, seq_bk, seq_ct, seq_cond, res_nx, res_rt, res_cond, slot_v, slot_own, cAnd, cOr, cAndT, cOrT, fixR_d, fixR_l,
 B_add, B_sub, C_lt, C_le, C_gt, C_ge, C_eqI, C_neI, C_eqS, C_neS, C_eqB, C_neB, C_isNN, C_isIN, C_isTN, C_isnNN, C_isnIN, R_b, R_i, X_t, X_l, at0, at1, at2, at3, tup1, tup2, tup3, tup4,
 biInt, biAbs, biMin2, biLenL, biLenT, biTupL, str_inj, asg_d, asg_l, asgs_nil, asgs_cons, mapNm,
 gz, gs, sz, ss, mc, mn, ac, an, rc, rz, om, Nat.sub_self, Nat.reduceSub, Nat.reduceAdd, reduceCtorEq, String.reduceEq, decide_true, decide_false, cond_true, cond_false, Bool.not_true, Bool.not_false, Bool.true_and, Bool.false_and, Bool.and_true, Bool.and_false, Bool.or_true, Bool.or_false, Bool.true_or, Bool.false_or, Bool.not_not, c3])
        rw [len_rgI] at t4
        refine ⟨.list (ssetI zs), st3, ?_, ⟨⟨?_, fun t ht => ?_⟩, fun t ht => ?_⟩, Nat.zero_le _, S3⟩
        · rw [call_eq (fn := fn_law_draw_wide_calendar) rfl rfl]
          simp only [fn_law_draw_wide_calendar, E_nm, E_ct, E_gl, E_tup, E_bop, E_neg, E_not, E_and, E_or, E_cmp, E_chn, E_ite, E_ix, E_sl, E_call, E_bi, E_me, E_al, E_st, T_and, T_or, T_not, T_nm, T_cmp, T_chn, T_ix, T_call, T_bi,
 Es_nil, Es_cons, P_none, P_some, A_lst, A_ba, A_rv, A_dic, D_nil, D_cons, C_none, C_some, I_sq, I_rg, I_zp, S_asg, S_par, S_ret, S_ifs, S_ex, S_for, S_retn, S_brk, S_cnt, S_pas, S_setx, Ss_nil, Ss_cons,
 bnd_some, obd_some, cnd_some, ifT_some, bnd_cond, ifT_cond, seq_nx, seq_rt, seq_bk, seq_ct, seq_cond, res_nx, res_rt, res_cond, slot_v, slot_own, cAnd, cOr, cAndT, cOrT, fixR_d, fixR_l,
 B_add, B_sub, C_lt, C_le, C_gt, C_ge, C_eqI, C_neI, C_eqS, C_neS, C_eqB, C_neB, C_isNN, C_isIN, C_isTN, C_isnNN, C_isnIN, R_b, R_i, X_t, X_l, at0, at1, at2, at3, tup1, tup2, tup3, tup4,
 biInt, biAbs, biMin2, biLenL, biLenT, biTupL, str_inj, asg_d, asg_l, asgs_nil, asgs_cons, mapNm,
 gz, gs, sz, ss, mc, mn, ac, an, rc, rz, om, Nat.sub_self, Nat.reduceSub, Nat.reduceAdd, reduceCtorEq, String.reduceEq, decide_true, decide_false, cond_true, cond_false, Bool.not_true, Bool.not_false, Bool.true_and, Bool.false_and, Bool.and_true, Bool.and_false, Bool.or_true, Bool.or_false, Bool.true_or, Bool.false_or, Bool.not_not, z0, c1, h2, t1, frO_map, ba_sset (zs := zs) (by omega), Cal.d]
        · have := ssetI_len (l := zs)
          omega
        · have := t2 t (ssetI_mem.mp ht)
          omega
        · have := t2 t (ssetI_mem.mp ht)
          omega
      · obtain ⟨a, st2, p2, wa, ha, S2⟩ := ih (k := k) S1 (by omega)
        have c2 := fun e => callX_of (cl := evCall prog w k) (f := i_law_draw_wide_calendar) (xs := [.l 1, .d (.int d)]) (e := e) rfl p2
        by_cases h4 : r = 3
        · obtain ⟨r3, st3, p3, S3, r30, r31⟩ := pick_spec (most := 8) S2 hw (k := k) (by omega) (by decide)
          have c3 := fun e => callX_of (cl := evCall prog w k) (f := i_law_pick) (xs := [.l 1, .d (.int 8)]) (e := e) rfl p3
          subst h4
          refine ⟨.moved a r3, st3, ?_, ⟨⟨wa.1, r30, by omega⟩, wa.2, by omega⟩, by simp only [Cal.ht]; omega, S3⟩
          rw [call_eq (fn := fn_law_draw_wide_calendar) rfl rfl]
          simp only [fn_law_draw_wide_calendar, E_nm, E_ct, E_gl, E_tup, E_bop, E_neg, E_not, E_and, E_or, E_cmp, E_chn, E_ite, E_ix, E_sl, E_call, E_bi, E_me, E_al, E_st, T_and, T_or, T_not, T_nm, T_cmp, T_chn, T_ix, T_call, T_bi,
 Es_nil, Es_cons, P_none, P_some, A_lst, A_ba, A_rv, A_dic, D_nil, D_cons, C_none, C_some, I_sq, I_rg, I_zp, S_asg, S_par, S_ret, S_ifs, S_ex, S_for, S_retn, S_brk, S_cnt, S_pas, S_setx, Ss_nil, Ss_cons,
 bnd_some, obd_some, cnd_some, ifT_some, bnd_cond, ifT_cond, seq_nx, seq_rt, seq_bk, seq_ct, seq_cond, res_nx, res_rt, res_cond, slot_v, slot_own, cAnd, cOr, cAndT, cOrT, fixR_d, fixR_l,
 B_add, B_sub, C_lt, C_le, C_gt, C_ge, C_eqI, C_neI, C_eqS, C_neS, C_eqB, C_neB, C_isNN, C_isIN, C_isTN, C_isnNN, C_isnIN, R_b, R_i, X_t, X_l, at0, at1, at2, at3, tup1, tup2, tup3, tup4,
 biInt, biAbs, biMin2, biLenL, biLenT, biTupL, str_inj, asg_d, asg_l, asgs_nil, asgs_cons, mapNm,
 gz, gs, sz, ss, mc, mn, ac, an, rc, rz, om, Nat.sub_self, Nat.reduceSub, Nat.reduceAdd, reduceCtorEq, String.reduceEq, decide_true, decide_false, cond_true, cond_false, Bool.not_true, Bool.not_false, Bool.true_and, Bool.false_and, Bool.and_true, Bool.and_false, Bool.or_true, Bool.or_false, Bool.true_or, Bool.false_or, Bool.not_not, z0, c1, h2, h3, zd, c2, c3, Cal.d]
        · obtain ⟨b, st3, p3, wb, hb, S3⟩ := ih (k := k) S2 (by omega)
          have c3 := fun e => callX_of (cl := evCall prog w k) (f := i_law_draw_wide_calendar) (xs := [.l 1, .d (.int d)]) (e := e) rfl p3
          have x4 : (4 : Int) - 4 = 0 := rfl
          have x5 : (5 : Int) - 4 = 1 := rfl
          have x6 : (6 : Int) - 4 = 2 := rfl
          rcases (show r = 4 ∨ r = 5 ∨ r = 6 by omega) with rfl | rfl | rfl
          · refine ⟨.both a b, st3, ?_, ⟨⟨wa.1, wb.1⟩, wa.2, wb.2⟩, by simp only [Cal.ht]; omega, S3⟩
            rw [call_eq (fn := fn_law_draw_wide_calendar) rfl rfl]
            simp only [fn_law_draw_wide_calendar, E_nm, E_ct, E_gl, E_tup, E_bop, E_neg, E_not, E_and, E_or, E_cmp, E_chn, E_ite, E_ix, E_sl, E_call, E_bi, E_me, E_al, E_st, T_and, T_or, T_not, T_nm, T_cmp, T_chn, T_ix, T_call, T_bi,
 Es_nil, Es_cons, P_none, P_some, A_lst, A_ba, A_rv, A_dic, D_nil, D_cons, C_none, C_some, I_sq, I_rg, I_zp, S_asg, S_par, S_ret, S_ifs, S_ex, S_for, S_retn, S_brk, S_cnt, S_pas, S_setx, Ss_nil, Ss_cons,
 bnd_some, obd_some, cnd_some, ifT_some, bnd_cond, ifT_cond, seq_nx, seq_rt, seq_bk, seq_ct, seq_cond, res_nx, res_rt, res_cond, slot_v, slot_own, cAnd, cOr, cAndT, cOrT, fixR_d, fixR_l,
 B_add, B_sub, C_lt, C_le, C_gt, C_ge, C_eqI, C_neI, C_eqS, C_neS, C_eqB, C_neB, C_isNN, C_isIN, C_isTN, C_isnNN, C_isnIN, R_b, R_i, X_t, X_l, at0, at1, at2, at3, tup1, tup2, tup3, tup4,
 biInt, biAbs, biMin2, biLenL, biLenT, biTupL, str_inj, asg_d, asg_l, asgs_nil, asgs_cons, mapNm,
 gz, gs, sz, ss, mc, mn, ac, an, rc, rz, om, Nat.sub_self, Nat.reduceSub, Nat.reduceAdd, reduceCtorEq, String.reduceEq, decide_true, decide_false, cond_true, cond_false, Bool.not_true, Bool.not_false, Bool.true_and, Bool.false_and, Bool.and_true, Bool.and_false, Bool.or_true, Bool.or_false, Bool.true_or, Bool.false_or, Bool.not_not, z0, c1, h2, h3, h4, zd, c2, c3, Cal.d, lst3, fr3, x4]
          · refine ⟨.common a b, st3, ?_, ⟨⟨wa.1, wb.1⟩, wa.2, wb.2⟩, by simp only [Cal.ht]; omega, S3⟩
            rw [call_eq (fn := fn_law_draw_wide_calendar) rfl rfl]
            simp only [fn_law_draw_wide_calendar, E_nm, E_ct, E_gl, E_tup, E_bop, E_neg, E_not, E_and, E_or, E_cmp, E_chn, E_ite, E_ix, E_sl, E_call, E_bi, E_me, E_al, E_st, T_and, T_or, T_not, T_nm, T_cmp, T_chn, T_ix, T_call, T_bi,
 Es_nil, Es_cons, P_none, P_some, A_lst, A_ba, A_rv, A_dic, D_nil, D_cons, C_none, C_some, I_sq, I_rg, I_zp, S_asg, S_par, S_ret, S_ifs, S_ex, S_for, S_retn, S_brk, S_cnt, S_pas, S_setx, Ss_nil, Ss_cons,
 bnd_some, obd_some, cnd_some, ifT_some, bnd_cond, ifT_cond, seq_nx, seq_rt, seq_bk, seq_ct, seq_cond, res_nx, res_rt, res_cond, slot_v, slot_own, cAnd, cOr, cAndT, cOrT, fixR_d, fixR_l,
 B_add, B_sub, C_lt, C_le, C_gt, C_ge, C_eqI, C_neI, C_eqS, C_neS, C_eqB, C_neB, C_isNN, C_isIN, C_isTN, C_isnNN, C_isnIN, R_b, R_i, X_t, X_l, at0, at1, at2, at3, tup1, tup2, tup3, tup4,
 biInt, biAbs, biMin2, biLenL, biLenT, biTupL, str_inj, asg_d, asg_l, asgs_nil, asgs_cons, mapNm,
 gz, gs, sz, ss, mc, mn, ac, an, rc, rz, om, Nat.sub_self, Nat.reduceSub, Nat.reduceAdd, reduceCtorEq, String.reduceEq, decide_true, decide_false, cond_true, cond_false, Bool.not_true, Bool.not_false, Bool.true_and, Bool.false_and, Bool.and_true, Bool.and_false, Bool.or_true, Bool.or_false, Bool.true_or, Bool.false_or, Bool.not_not, z0, c1, h2, h3, h4, zd, c2, c3, Cal.d, lst3, fr3, x5]
          · refine ⟨.without a b, st3, ?_, ⟨⟨wa.1, wb.1⟩, wa.2, wb.2⟩, by simp only [Cal.ht]; omega, S3⟩
            rw [call_eq (fn := fn_law_draw_wide_calendar) rfl rfl]
            simp only [fn_law_draw_wide_calendar, E_nm, E_ct, E_gl, E_tup, E_bop, E_neg, E_not, E_and, E_or, E_cmp, E_chn, E_ite, E_ix, E_sl, E_call, E_bi, E_me, E_al, E_st, T_and, T_or, T_not, T_nm, T_cmp, T_chn, T_ix, T_call, T_bi,
 Es_nil, Es_cons, P_none, P_some, A_lst, A_ba, A_rv, A_dic, D_nil, D_cons, C_none, C_some, I_sq, I_rg, I_zp, S_asg, S_par, S_ret, S_ifs, S_ex, S_for, S_retn, S_brk, S_cnt, S_pas, S_setx, Ss_nil, Ss_cons,
 bnd_some, obd_some, cnd_some, ifT_some, bnd_cond, ifT_cond, seq_nx, seq_rt, seq_bk, seq_ct, seq_cond, res_nx, res_rt, res_cond, slot_v, slot_own, cAnd, cOr, cAndT, cOrT, fixR_d, fixR_l,
 B_add, B_sub, C_lt, C_le, C_gt, C_ge, C_eqI, C_neI, C_eqS, C_neS, C_eqB, C_neB, C_isNN, C_isIN, C_isTN, C_isnNN, C_isnIN, R_b, R_i, X_t, X_l, at0, at1, at2, at3, tup1, tup2, tup3, tup4,
 biInt, biAbs, biMin2, biLenL, biLenT, biTupL, str_inj, asg_d, asg_l, asgs_nil, asgs_cons, mapNm,
 gz, gs, sz, ss, mc, mn, ac, an, rc, rz, om, Nat.sub_self, Nat.reduceSub, Nat.reduceAdd, reduceCtorEq, String.reduceEq, decide_true, decide_false, cond_true, cond_false, Bool.not_true, Bool.not_false, Bool.true_and, Bool.false_and, Bool.and_true, Bool.and_false, Bool.or_true, Bool.or_false, Bool.true_or, Bool.false_or, Bool.not_not, z0, c1, h2, h3, h4, zd, c2, c3, Cal.d, lst3, fr3, x6]
end K52

namespace K52
open PySem EV L2

def sv : Option X → Slot
  | none => .no
  | some x => .v x
theorem sv_v {x : X} : sv (some x) = .v x := rfl
theorem sv_no : sv none = .no := rfl
theorem merge4 {a b c d : X} : mergeX [] [(.inr (Str.ofString "cells"), a), (.inr (Str.ofString "left"), b), (.inr (Str.ofString "mixed"), c), (.inr (Str.ofString "turn"), d)] = [(.inr (Str.ofString "cells"), a), (.inr (Str.ofString "left"), b), (.inr (Str.ofString "mixed"), c), (.inr (Str.ofString "turn"), d)] := by
  simp [mergeX, pt, str_inj]
theorem key_s {k : Str} : keyX (.d (.str k)) = some (.inr k) := rfl
theorem it_k {ns : List Int} : itX (.k (ns.map .int)) = some (ns.map fun t => .d (.int t)) := by
  simp only [itX, List.map_map]
  rfl
theorem open_spec {w k : Nat} (hk : 0 < k) {ns : List Int} (hl : ns.length ≤ 63) : ∃ st', evCall prog w k i_law_open_cells [.k (ns.map .int)] [] = some (.l 1, st') ∧ Src [] st' := by
  obtain ⟨k, rfl⟩ : ∃ j, k = j + 1 := ⟨k - 1, by omega⟩
  have s1 : small 69069 = true := by decide
  have s2 : small 31 = true := by decide
  have m1 := fun e s i => B_mul2 (e := e) (s := s) (i := i) s1
  have m2 := fun e s i => B_mul2 (e := e) (s := s) (i := i) s2
  have b1 := fun e s i => B_mod (e := e) (s := s) (i := i) (j := 2147483629) (by decide)
  let P : List X → Lo → Sto → Prop := fun r e s => s = [] ∧ (∃ ms : List Int, r = ms.map fun t => .d (.int t)) ∧ ∃ (z : Int) (y : Option X), e = [.v (.k (ns.map .int)), .v (.d (.int z)), sv y, .no]
  obtain ⟨e', s', hf, hq⟩ := for_inv (b := evSs prog.cs (evCall prog w k) w [.asg (.nm 1) (.bop .mod (.bi .int [.bop .add (.bop .add (.bop .mul (.nm 1) (.ct (.int 69069))) (.bop .mul (.nm 2) (.ct (.int 31)))) (.ct (.int 5))]) (.ct (.int 2147483629)))]) (t := .nm 2) P (fun _ _ => False) (fun x r e s h => by
    obtain ⟨rfl, ⟨ms, hm⟩, z, y, rfl⟩ := h
    cases ms with
    | nil => cases hm
    | cons m ms =>
      simp only [List.map_cons, List.cons.injEq] at hm
      obtain ⟨rfl, rfl⟩ := hm
      refine ⟨[.v (.k (ns.map .int)), .v (.d (.int z)), .v (.d (.int m)), .no], [.v (.k (ns.map .int)), .v (.d (.int ((z * 69069 + m * 31 + 5).fmod 2147483629))), .v (.d (.int m)), .no], [], rfl, .inl ⟨?_, rfl, ⟨ms, rfl⟩, _, some (.d (.int m)), rfl⟩⟩
      simp only [E_nm, E_ct, E_gl, E_tup, E_bop, E_neg, E_not, E_and, E_or, E_cmp, E_chn, E_ite, E_ix, E_sl, E_call, E_bi, E_me, E_al, E_st, T_and, T_or, T_not, T_nm, T_cmp, T_chn, T_ix, T_call, T_bi,
 Es_nil, Es_cons, P_none, P_some, A_lst, A_ba, A_rv, A_dic, D_nil, D_cons, C_none, C_some, I_sq, I_rg, I_zp, S_asg, S_par, S_ret, S_ifs, S_ex, S_for, S_retn, S_brk, S_cnt, S_pas, S_setx, Ss_nil, Ss_cons,
 bnd_some, obd_some, cnd_some, ifT_some, bnd_cond, ifT_cond, seq_nx, seq_rt, seq_bk, seq_ct, seq_cond, res_nx, res_rt, res_cond, slot_v, slot_own, cAnd, cOr, cAndT, cOrT, fixR_d, fixR_l,
 B_add, B_sub, C_lt, C_le, C_gt, C_ge, C_eqI, C_neI, C_eqS, C_neS, C_eqB, C_neB, C_isNN, C_isIN, C_isTN, C_isnNN, C_isnIN, R_b, R_i, X_t, X_l, at0, at1, at2, at3, tup1, tup2, tup3, tup4,
 biInt, biAbs, biMin2, biLenL, biLenT, biTupL, str_inj, asg_d, asg_l, asgs_nil, asgs_cons, mapNm,
 gz, gs, sz, ss, mc, mn, ac, an, rc, rz, om, Nat.sub_self, Nat.reduceSub, Nat.reduceAdd, reduceCtorEq, String.reduceEq, decide_true, decide_false, cond_true, cond_false, Bool.not_true, Bool.not_false, Bool.true_and, Bool.false_and, Bool.and_true, Bool.and_false, Bool.or_true, Bool.or_false, Bool.true_or, Bool.false_or, Bool.not_not, m1, m2, b1]) (ns.map fun t => .d (.int t)) [.v (.k (ns.map .int)), .v (.d (.int 11)), .no, .no] [] ⟨rfl, ⟨ns, rfl⟩, 11, none, rfl⟩
  rcases hq with ⟨rfl, _, z, y, rfl⟩ | hq
  · have hy : noOwn [.v (.k (ns.map .int)), .v (.d (.int z)), sv y, .no] [2] = true := by
      cases y <;> rfl
    have t1 := lc_ints (cs := prog.cs) (cl := evCall prog w k) (st := []) (env := [.v (.k (ns.map .int)), .v (.d (.int z)), sv y, .no]) (x := .bi .abs [.nm 2]) (c := none) (i := 2) (it := .sq (.nm 0))
      (p := fun _ => true) (g := fun i => .int (if i < 0 then -i else i)) (ns := ns) (by simp only [E_nm, E_ct, E_gl, E_tup, E_bop, E_neg, E_not, E_and, E_or, E_cmp, E_chn, E_ite, E_ix, E_sl, E_call, E_bi, E_me, E_al, E_st, T_and, T_or, T_not, T_nm, T_cmp, T_chn, T_ix, T_call, T_bi,
 Es_nil, Es_cons, P_none, P_some, A_lst, A_ba, A_rv, A_dic, D_nil, D_cons, C_none, C_some, I_sq, I_rg, I_zp, S_asg, S_par, S_ret, S_ifs, S_ex, S_for, S_retn, S_brk, S_cnt, S_pas, S_setx, Ss_nil, Ss_cons,
 bnd_some, obd_some, cnd_some, ifT_some, bnd_cond, ifT_cond, seq_nx, seq_rt, seq_bk, seq_ct, seq_cond, res_nx, res_rt, res_cond, slot_v, slot_own, cAnd, cOr, cAndT, cOrT, fixR_d, fixR_l,
 B_add, B_sub, C_lt, C_le, C_gt, C_ge, C_eqI, C_neI, C_eqS, C_neS, C_eqB, C_neB, C_isNN, C_isIN, C_isTN, C_isnNN, C_isnIN, R_b, R_i, X_t, X_l, at0, at1, at2, at3, tup1, tup2, tup3, tup4,
 biInt, biAbs, biMin2, biLenL, biLenT, biTupL, str_inj, asg_d, asg_l, asgs_nil, asgs_cons, mapNm,
 gz, gs, sz, ss, mc, mn, ac, an, rc, rz, om, Nat.sub_self, Nat.reduceSub, Nat.reduceAdd, reduceCtorEq, String.reduceEq, decide_true, decide_false, cond_true, cond_false, Bool.not_true, Bool.not_false, Bool.true_and, Bool.false_and, Bool.and_true, Bool.and_false, Bool.or_true, Bool.or_false, Bool.true_or, Bool.false_or, Bool.not_not, it_k]) (by show 2 < 4; decide) hy (Nat.le_trans hl (by decide))
      (fun n _ => by simp only [E_nm, E_ct, E_gl, E_tup, E_bop, E_neg, E_not, E_and, E_or, E_cmp, E_chn, E_ite, E_ix, E_sl, E_call, E_bi, E_me, E_al, E_st, T_and, T_or, T_not, T_nm, T_cmp, T_chn, T_ix, T_call, T_bi,
 Es_nil, Es_cons, P_none, P_some, A_lst, A_ba, A_rv, A_dic, D_nil, D_cons, C_none, C_some, I_sq, I_rg, I_zp, S_asg, S_par, S_ret, S_ifs, S_ex, S_for, S_retn, S_brk, S_cnt, S_pas, S_setx, Ss_nil, Ss_cons,
 bnd_some, obd_some, cnd_some, ifT_some, bnd_cond, ifT_cond, seq_nx, seq_rt, seq_bk, seq_ct, seq_cond, res_nx, res_rt, res_cond, slot_v, slot_own, cAnd, cOr, cAndT, cOrT, fixR_d, fixR_l,
 B_add, B_sub, C_lt, C_le, C_gt, C_ge, C_eqI, C_neI, C_eqS, C_neS, C_eqB, C_neB, C_isNN, C_isIN, C_isTN, C_isnNN, C_isnIN, R_b, R_i, X_t, X_l, at0, at1, at2, at3, tup1, tup2, tup3, tup4,
 biInt, biAbs, biMin2, biLenL, biLenT, biTupL, str_inj, asg_d, asg_l, asgs_nil, asgs_cons, mapNm,
 gz, gs, sz, ss, mc, mn, ac, an, rc, rz, om, Nat.sub_self, Nat.reduceSub, Nat.reduceAdd, reduceCtorEq, String.reduceEq, decide_true, decide_false, cond_true, cond_false, Bool.not_true, Bool.not_false, Bool.true_and, Bool.false_and, Bool.and_true, Bool.and_false, Bool.or_true, Bool.or_false, Bool.true_or, Bool.false_or, Bool.not_not]) (fun n _ _ => by simp only [E_nm, E_ct, E_gl, E_tup, E_bop, E_neg, E_not, E_and, E_or, E_cmp, E_chn, E_ite, E_ix, E_sl, E_call, E_bi, E_me, E_al, E_st, T_and, T_or, T_not, T_nm, T_cmp, T_chn, T_ix, T_call, T_bi,
 Es_nil, Es_cons, P_none, P_some, A_lst, A_ba, A_rv, A_dic, D_nil, D_cons, C_none, C_some, I_sq, I_rg, I_zp, S_asg, S_par, S_ret, S_ifs, S_ex, S_for, S_retn, S_brk, S_cnt, S_pas, S_setx, Ss_nil, Ss_cons,
 bnd_some, obd_some, cnd_some, ifT_some, bnd_cond, ifT_cond, seq_nx, seq_rt, seq_bk, seq_ct, seq_cond, res_nx, res_rt, res_cond, slot_v, slot_own, cAnd, cOr, cAndT, cOrT, fixR_d, fixR_l,
 B_add, B_sub, C_lt, C_le, C_gt, C_ge, C_eqI, C_neI, C_eqS, C_neS, C_eqB, C_neB, C_isNN, C_isIN, C_isTN, C_isnNN, C_isnIN, R_b, R_i, X_t, X_l, at0, at1, at2, at3, tup1, tup2, tup3, tup4,
 biInt, biAbs, biMin2, biLenL, biLenT, biTupL, str_inj, asg_d, asg_l, asgs_nil, asgs_cons, mapNm,
 gz, gs, sz, ss, mc, mn, ac, an, rc, rz, om, Nat.sub_self, Nat.reduceSub, Nat.reduceAdd, reduceCtorEq, String.reduceEq, decide_true, decide_false, cond_true, cond_false, Bool.not_true, Bool.not_false, Bool.true_and, Bool.false_and, Bool.and_true, Bool.and_false, Bool.or_true, Bool.or_false, Bool.true_or, Bool.false_or, Bool.not_not])
    have em : (ns.filter fun _ => true).map (fun i => PyData.int (if i < 0 then -i else i)) = (ns.map fun i => if i < 0 then -i else i).map .int := by
      rw [List.filter_eq_self.mpr (fun _ _ => rfl), List.map_map]
      rfl
    rw [em] at t1
    refine ⟨mkS (ns.map fun i => if i < 0 then -i else i).reverse 1 z 0 [], ?_, _, 1, z, 0, rfl, fun y hy => ?_, by simpa using hl, by decide⟩
    · rw [call_eq (fn := fn_law_open_cells) rfl rfl]
      have h15 : ∀ {a b c d : Key × X}, [a, b, c, d].length ≤ 15 := fun {a b c d} => by show 4 ≤ 15; decide
      simp only [fn_law_open_cells, E_nm, E_ct, E_gl, E_tup, E_bop, E_neg, E_not, E_and, E_or, E_cmp, E_chn, E_ite, E_ix, E_sl, E_call, E_bi, E_me, E_al, E_st, T_and, T_or, T_not, T_nm, T_cmp, T_chn, T_ix, T_call, T_bi,
 Es_nil, Es_cons, P_none, P_some, A_lst, A_ba, A_rv, A_dic, D_nil, D_cons, C_none, C_some, I_sq, I_rg, I_zp, S_asg, S_par, S_ret, S_ifs, S_ex, S_for, S_retn, S_brk, S_cnt, S_pas, S_setx, Ss_nil, Ss_cons,
 bnd_some, obd_some, cnd_some, ifT_some, bnd_cond, ifT_cond, seq_nx, seq_rt, seq_bk, seq_ct, seq_cond, res_nx, res_rt, res_cond, slot_v, slot_own, cAnd, cOr, cAndT, cOrT, fixR_d, fixR_l,
 B_add, B_sub, C_lt, C_le, C_gt, C_ge, C_eqI, C_neI, C_eqS, C_neS, C_eqB, C_neB, C_isNN, C_isIN, C_isTN, C_isnNN, C_isnIN, R_b, R_i, X_t, X_l, at0, at1, at2, at3, tup1, tup2, tup3, tup4,
 biInt, biAbs, biMin2, biLenL, biLenT, biTupL, str_inj, asg_d, asg_l, asgs_nil, asgs_cons, mapNm,
 gz, gs, sz, ss, mc, mn, ac, an, rc, rz, om, Nat.sub_self, Nat.reduceSub, Nat.reduceAdd, reduceCtorEq, String.reduceEq, decide_true, decide_false, cond_true, cond_false, Bool.not_true, Bool.not_false, Bool.true_and, Bool.false_and, Bool.and_true, Bool.and_false, Bool.or_true, Bool.or_false, Bool.true_or, Bool.false_or, Bool.not_not, it_k]
      rw [hf]
      simp only [E_nm, E_ct, E_gl, E_tup, E_bop, E_neg, E_not, E_and, E_or, E_cmp, E_chn, E_ite, E_ix, E_sl, E_call, E_bi, E_me, E_al, E_st, T_and, T_or, T_not, T_nm, T_cmp, T_chn, T_ix, T_call, T_bi,
 Es_nil, Es_cons, P_none, P_some, A_lst, A_ba, A_rv, A_dic, D_nil, D_cons, C_none, C_some, I_sq, I_rg, I_zp, S_asg, S_par, S_ret, S_ifs, S_ex, S_for, S_retn, S_brk, S_cnt, S_pas, S_setx, Ss_nil, Ss_cons,
 bnd_some, obd_some, cnd_some, ifT_some, bnd_cond, ifT_cond, seq_nx, seq_rt, seq_bk, seq_ct, seq_cond, res_nx, res_rt, res_cond, slot_v, slot_own, cAnd, cOr, cAndT, cOrT, fixR_d, fixR_l,
 B_add, B_sub, C_lt, C_le, C_gt, C_ge, C_eqI, C_neI, C_eqS, C_neS, C_eqB, C_neB, C_isNN, C_isIN, C_isTN, C_isnNN, C_isnIN, R_b, R_i, X_t, X_l, at0, at1, at2, at3, tup1, tup2, tup3, tup4,
 biInt, biAbs, biMin2, biLenL, biLenT, biTupL, str_inj, asg_d, asg_l, asgs_nil, asgs_cons, mapNm,
 gz, gs, sz, ss, mc, mn, ac, an, rc, rz, om, Nat.sub_self, Nat.reduceSub, Nat.reduceAdd, reduceCtorEq, String.reduceEq, decide_true, decide_false, cond_true, cond_false, Bool.not_true, Bool.not_false, Bool.true_and, Bool.false_and, Bool.and_true, Bool.and_false, Bool.or_true, Bool.or_false, Bool.true_or, Bool.false_or, Bool.not_not, t1, frO_map, obX, key_s, X.isO, Bool.false_eq_true, if_false, merge4, h15, if_true]
      simp only [mkS, srcK, List.map_reverse, List.map_map]
      rfl
    · simp only [List.mem_reverse, List.mem_map] at hy
      obtain ⟨i, _, rfl⟩ := hy
      split <;> omega
  · exact hq.elim
end K52

namespace K52
open PySem EV L2

theorem mem_ts {c : Cal} {a b t : Int} : t ∈ c.ts a b ↔ (a ≤ t ∧ t < b) ∧ c.has t = true := by
  unfold Cal.ts
  rw [List.mem_filter, mem_rgI]
  constructor
  · rintro ⟨h1, h2⟩
    exact ⟨⟨h1.1, by omega⟩, h2⟩
  · rintro ⟨h1, h2⟩
    exact ⟨⟨h1.1, by omega⟩, h2⟩
theorem per_down {c : Cal} {q : Nat} (hc : c.wf) (hp : Per c.has c.tl q) : Per c.has (down c.has q c.tl.toNat : Nat) q := by
  intro t ht
  obtain ⟨h1, h2, _⟩ := down_spec (f := c.has) (q := q) c.tl.toNat
  have htl := hc.tl
  by_cases hl : c.tl ≤ t
  · exact hp t hl
  · have := h2 t.toNat (by omega) (by omega)
    rw [Int.toNat_of_nonneg (by omega)] at this
    exact this.symm
/-- the two numbers of the plain form belong to the times alone -/
def Canon (f : Int → Bool) (d q : Nat) : Prop := 0 < q ∧ Per f d q ∧ (∀ n r : Nat, 0 < r → Per f n r → q ≤ r) ∧ ∀ n : Nat, Per f n q → d ≤ n
theorem canon_of {c : Cal} (hc : c.wf) {q : Nat} (hq : IsQ c.has c.tl c.pd q) : Canon c.has (down c.has q c.tl.toNat) q := by
  obtain ⟨q0, q1, q2, q3⟩ := hq
  have htl := hc.tl
  have hpd := hc.pd
  refine ⟨q0, per_down hc q2, fun n r r0 hr => ?_, fun n hn => ?_⟩
  · have g1 : Per c.has (max c.tl n) (Nat.gcd r q) := Per.gcd _ r q (Nat.le_refl _) (hr.mono (by omega)) (q2.mono (by omega))
    have g2 : Per c.has c.tl (Nat.gcd r q) := fun t ht => by
      have k0 : (n : Int) ≤ ((c.pd * n : Nat) : Int) := by
        have : 1 * n ≤ c.pd * n := Nat.mul_le_mul_right n hpd.1
        omega
      have a1 := (Cal.per hc).mul n (t + (Nat.gcd r q : Nat)) (by omega)
      have a2 := (Cal.per hc).mul n t (by omega)
      have a3 := g1 (t + ((c.pd * n : Nat) : Int)) (by omega)
      have e : t + ((Nat.gcd r q : Nat) : Int) + ((c.pd * n : Nat) : Int) = t + ((c.pd * n : Nat) : Int) + ((Nat.gcd r q : Nat) : Int) := by omega
      rw [e, a3, a2] at a1
      exact a1.symm
    have := q3 _ (Nat.gcd_pos_of_pos_right _ q0) (Nat.dvd_trans (Nat.gcd_dvd_right _ _) q1) g2
    have := Nat.gcd_le_left q r0
    omega
  · obtain ⟨_, _, h3⟩ := down_spec (f := c.has) (q := q) c.tl.toNat
    rcases Nat.lt_or_ge n (down c.has q c.tl.toNat) with z | z
    · obtain ⟨m, hm⟩ : ∃ m, down c.has q c.tl.toNat = m + 1 := ⟨down c.has q c.tl.toNat - 1, by omega⟩
      exact absurd (hn m (by omega)).symm (h3 m hm)
    · exact z
theorem Per.ext {f g : Int → Bool} {n q : Nat} (h : ∀ t, 0 ≤ t → f t = g t) (p : Per f n q) : Per g n q := fun t ht => by
  rw [← h _ (by omega), ← h _ (by omega)]
  exact p t ht
theorem canon_uniq {f g : Int → Bool} {d q e r : Nat} (h : ∀ t, 0 ≤ t → f t = g t) (a : Canon f d q) (b : Canon g e r) : d = e ∧ q = r := by
  obtain ⟨a0, a1, a2, a3⟩ := a
  obtain ⟨b0, b1, b2, b3⟩ := b
  have h' : ∀ t, 0 ≤ t → g t = f t := fun t ht => (h t ht).symm
  have e1 : q = r := Nat.le_antisymm (a2 e r b0 (Per.ext h' b1)) (b2 d q a0 (Per.ext h a1))
  subst e1
  exact ⟨Nat.le_antisymm (a3 e (Per.ext h' b1)) (b3 d (Per.ext h a1)), rfl⟩
theorem filter_ext {f g : Int → Bool} {l : List Int} (h : ∀ t ∈ l, f t = g t) : l.filter f = l.filter g := List.filter_congr h
/-- early times, rests -/
def early (c : Cal) (q : Nat) : List Int := c.ts 0 (down c.has q c.tl.toNat : Nat)
def rests (c : Cal) (q : Nat) : List Int := (rgI 0 q).filter fun k => c.has ((down c.has q c.tl.toNat : Nat) + k)
theorem plain_eq {c : Cal} {q : Nat} : plainD c q = .tuple [.tuple ((early c q).map .int), .int (down c.has q c.tl.toNat : Nat), .int q, .tuple ((rests c q).map .int)] := rfl
def PT (c : Cal) (q : Nat) : List Int × Nat × Nat × List Int := (early c q, down c.has q c.tl.toNat, q, rests c q)
theorem plain_ext {c b : Cal} (hc : c.wf) (hb : b.wf) {q r : Nat} (hq : IsQ c.has c.tl c.pd q) (hr : IsQ b.has b.tl b.pd r) (h : ∀ t, 0 ≤ t → c.has t = b.has t) : PT c q = PT b r := by
  obtain ⟨e1, e2⟩ := canon_uniq h (canon_of hc hq) (canon_of hb hr)
  unfold PT early rests Cal.ts
  rw [e1]
  subst e2
  have a1 : (rgI 0 (((down b.has q b.tl.toNat : Nat) : Int) - 0).toNat).filter c.has = (rgI 0 (((down b.has q b.tl.toNat : Nat) : Int) - 0).toNat).filter b.has := filter_ext fun t ht => h t (mem_rgI.mp ht).1
  have a2 : ((rgI 0 q).filter fun k => c.has ((down b.has q b.tl.toNat : Nat) + k)) = (rgI 0 q).filter fun k => b.has ((down b.has q b.tl.toNat : Nat) + k) := filter_ext fun t ht => h _ (by have := (mem_rgI.mp ht).1; omega)
  rw [a1, a2]
/-- a calendar's times by its plain form -/
theorem has_plain {c : Cal} (hc : c.wf) {q : Nat} (hq : IsQ c.has c.tl c.pd q) {t : Int} (h0 : 0 ≤ t) : c.has t = if t < (down c.has q c.tl.toNat : Nat) then decide (t ∈ early c q) else decide ((t - (down c.has q c.tl.toNat : Nat)).fmod q ∈ rests c q) := by
  have hp := per_down hc hq.2.2.1
  have q0 := hq.1
  unfold early rests
  generalize down c.has q c.tl.toNat = d at hp
  by_cases hl : t < (d : Int)
  · rw [if_pos hl]
    cases h : c.has t with
    | true => exact (decide_eq_true (mem_ts.mpr ⟨⟨h0, hl⟩, h⟩)).symm
    | false =>
      refine (decide_eq_false fun z => ?_).symm
      rw [(mem_ts.mp z).2] at h
      cases h
  · rw [if_neg hl]
    have hm := fm_nn (a := t - d) (b := (q : Int)) (by omega)
    have e : c.has (d + (t - d).fmod q) = c.has t := by
      have e1 : t = d + (t - d).fmod q + ((q * ((t - d) / q).toNat : Nat) : Int) := by
        rw [Int.fmod_eq_emod_of_nonneg _ (by omega)]
        have h3 := Int.emod_add_mul_ediv (t - d) q
        have h2 : 0 ≤ (t - d) / (q : Int) := Int.ediv_nonneg (by omega) (by omega)
        push_cast
        rw [Int.toNat_of_nonneg h2]
        omega
      have := hp.mul ((t - d) / q).toNat (d + (t - d).fmod q) (by omega)
      rw [← e1] at this
      exact this.symm
    cases h : c.has t with
    | true =>
      refine (decide_eq_true (List.mem_filter.mpr ⟨mem_rgI.mpr ⟨hm.1, by omega⟩, ?_⟩)).symm
      rw [e]
      exact h
    | false =>
      refine (decide_eq_false fun z => ?_).symm
      have := (List.mem_filter.mp z).2
      rw [e, h] at this
      cases this
theorem has_ext {c b : Cal} (hc : c.wf) (hb : b.wf) {q r : Nat} (hq : IsQ c.has c.tl c.pd q) (hr : IsQ b.has b.tl b.pd r) (h : PT c q = PT b r) : ∀ t, 0 ≤ t → c.has t = b.has t := fun t ht => by
  unfold PT at h
  simp only [Prod.mk.injEq] at h
  obtain ⟨e1, e2, e3, e4⟩ := h
  rw [has_plain hc hq ht, has_plain hb hr ht, e1, e2, e4, e3]
/-! ### plain forms compared -/
theorem eqv_ints : ∀ {bs cs : List Int}, PyData.eqvAll (bs.map .int) (cs.map .int) = decide (bs = cs)
  | [], [] => by simp [PyData.eqvAll]
  | [], c :: cs => by simp [PyData.eqvAll]
  | b :: bs, [] => by simp [PyData.eqvAll]
  | b :: bs, c :: cs => by
    simp only [List.map_cons, PyData.eqvAll, eqv_ints, PyData.eqv]
    by_cases h1 : b = c <;> by_cases h2 : bs = cs <;> simp [h1, h2]
theorem eqv_plain {c b : Cal} {q r : Nat} : PyData.eqv (plainD c q) (plainD b r) = decide (PT c q = PT b r) := by
  rw [plain_eq, plain_eq]
  simp only [PyData.eqv, PyData.eqvAll, eqv_ints, Bool.and_true]
  unfold PT
  have e1 : (((down c.has q c.tl.toNat : Nat) : Int) == ((down b.has r b.tl.toNat : Nat) : Int)) = decide (down c.has q c.tl.toNat = down b.has r b.tl.toNat) := by
    rw [Bool.eq_iff_iff]
    simp
    omega
  have e2 : ((q : Int) == (r : Int)) = decide (q = r) := by
    rw [Bool.eq_iff_iff]
    simp
    omega
  rw [e1, e2]
  simp only [Prod.mk.injEq, Bool.decide_and]
theorem lay_ints : ∀ {ts : List Int}, PyData.canLayAll0 (ts.map .int) = true
  | [] => rfl
  | t :: ts => by simp [PyData.canLayAll0, PyData.canLay0, lay_ints]
theorem dep_ints : ∀ {ts : List Int}, PyData.depthAll (ts.map .int) = 0
  | [] => rfl
  | t :: ts => by simp [PyData.depthAll, PyData.depth, dep_ints]
theorem shapedT {ts : List Int} : SeqAt.shaped (.tuple (ts.map .int)) = true := by
  simp only [SeqAt.shaped, PyData.canLay0, PyData.depth, lay_ints, dep_ints, Bool.true_and]
  decide
theorem shapedP {c : Cal} {q : Nat} : SeqAt.shaped (plainD c q) = true := by
  unfold plainD
  simp only [SeqAt.shaped, PyData.canLay0, PyData.canLayAll0, PyData.depth, PyData.depthAll, lay_ints, dep_ints, Bool.true_and]
  decide
theorem C_eqP {e : Lo} {s : Sto} {c b : Cal} {q r : Nat} : cmpX e s .eq (.d (plainD c q)) (.d (plainD b r)) = some (decide (PT c q = PT b r)) := by
  rw [C_eqD shapedP shapedP, eqv_plain]
theorem C_neP {e : Lo} {s : Sto} {c b : Cal} {q r : Nat} : cmpX e s .ne (.d (plainD c q)) (.d (plainD b r)) = some (!decide (PT c q = PT b r)) := by
  rw [C_neD shapedP shapedP, eqv_plain]
theorem C_neT {e : Lo} {s : Sto} {as bs : List Int} : cmpX e s .ne (.d (.tuple (as.map .int))) (.d (.tuple (bs.map .int))) = some (!decide (as = bs)) := by
  rw [C_neD shapedT shapedT, PyData.eqv, eqv_ints]
end K52

namespace K52
open PySem EV L2

theorem biMaxI {e : Lo} {s : Sto} {i j : Int} : biX e s .max2 [.d (.int i), .d (.int j)] = some (.int (mx i j)) := of_eq_true (eq_self _)
theorem ok62_of' {i : Int} (h1 : 0 ≤ i) (h2 : i < 1000000000) : ok62 i := ok62_of h1 h2
/-- the first time at which two calendars differ -/
def unl (c b : Cal) : Option Int := (rgI 0 (mx c.tl b.tl + (Nat.lcm c.pd b.pd : Nat)).toNat).find? fun t => !(c.has t == b.has t)
theorem lcm420 {c b : Cal} (hc : c.wf) (hb : b.wf) : 0 < Nat.lcm c.pd b.pd ∧ Nat.lcm c.pd b.pd ≤ 420 :=
  ⟨Nat.lcm_pos hc.pd.1 hb.pd.1, Nat.le_of_dvd (by decide) (Nat.lcm_dvd hc.pd.2 hb.pd.2)⟩
theorem unl_spec {w : Nat} (st : Sto) (hw : 420 < w) {c b : Cal} {k : Nat} (hc : c.wf) (hb : b.wf) (hk : c.ht + 2 < k) (hk2 : b.ht + 2 < k) (h1 : c.ht ≤ 100) (h2 : b.ht ≤ 100) :
    evCall prog w k i_first_unlike [.d c.d, .d b.d] st = some (.d (optD (unl c b)), st) := by
  obtain ⟨k, rfl⟩ : ∃ j, k = j + 1 := ⟨k - 1, by omega⟩
  have t1 := hc.tl
  have t2 := hb.tl
  have l := lcm420 hc hb
  have hm := mx_lt (i := c.tl) (j := b.tl) (k := 300000) (by omega) (by omega)
  have hm2 := (mx_le (i := c.tl) (j := b.tl)).1
  have c1 := fun e => callX_of (cl := evCall prog w k) (f := i_tail_of) (xs := [.d c.d]) (e := e) rfl (tail_spec st hw c k hc (by omega))
  have c2 := fun e => callX_of (cl := evCall prog w k) (f := i_tail_of) (xs := [.d b.d]) (e := e) rfl (tail_spec st hw b k hb (by omega))
  have c3 := fun e => callX_of (cl := evCall prog w k) (f := i_least_multiple) (xs := [.d (.int c.pd), .d (.int b.pd)]) (e := e) rfl (lm_spec (w := w) st (k := k) hc.pd.1 (Nat.lt_of_le_of_lt hc.pd420 (by decide)) (Nat.lt_of_le_of_lt hb.pd420 hw) (by omega))
  have o1 := in62_ok (ok62_of (i := mx c.tl b.tl + (Nat.lcm c.pd b.pd : Nat)) (by omega) (by omega))
  rw [call_eq (fn := fn_first_unlike) rfl rfl]
  unfold unl
  generalize Nat.lcm c.pd b.pd = lc at c3 o1
  obtain ⟨y, hf⟩ := for_find (b := evSs prog.cs (evCall prog w k) w [.ifs (.cmp .ne (.call i_has_time [.nm 0, .nm 6]) (.call i_has_time [.nm 1, .nm 6])) [.ret (.nm 6)] []]) (st := st) (i := 6) (env := [.v (.d c.d), .v (.d b.d), .v (.d (.int c.tl)), .v (.d (.int c.pd)), .v (.d (.int b.tl)), .v (.d (.int b.pd)), .no]) (p := fun t => !(c.has t == b.has t)) (r := fun n => .d (.int n)) (ns := rgI 0 (mx c.tl b.tl + (lc : Nat)).toNat) (e0 := .no) fun n hn => by
    have d1 := fun e => callX_of (cl := evCall prog w k) (f := i_has_time) (xs := [.d c.d, .d (.int n)]) (e := e) rfl (has_spec w st c k n hc.ok (by omega))
    have d2 := fun e => callX_of (cl := evCall prog w k) (f := i_has_time) (xs := [.d b.d, .d (.int n)]) (e := e) rfl (has_spec w st b k n hb.ok (by omega))
    simp only [E_nm, E_ct, E_gl, E_tup, E_bop, E_neg, E_not, E_and, E_or, E_cmp, E_chn, E_ite, E_ix, E_sl, E_call, E_bi, E_me, E_al, E_st, T_and, T_or, T_not, T_nm, T_cmp, T_chn, T_ix, T_call, T_bi,
 Es_nil, Es_cons, P_none, P_some, A_lst, A_ba, A_rv, A_dic, D_nil, D_cons, A_lc, C_none, C_some, I_sq, I_rg, I_zp, S_asg, S_par, S_ret, S_ifs, S_ex, S_for, S_retn, S_brk, S_cnt, S_pas, S_setx, Ss_nil, Ss_cons,
 bnd_some, obd_some, cnd_some, ifT_some, bnd_cond, ifT_cond, seq_nx, seq_rt, seq_bk, seq_ct, seq_cond, res_nx, res_rt, res_cond, slot_v, slot_own, cAnd, cOr, cAndT, cOrT, fixR_d, fixR_l,
 B_add, B_sub, C_lt, C_le, C_gt, C_ge, C_eqI, C_neI, C_eqS, C_neS, C_eqB, C_neB, C_isNN, C_isIN, C_isTN, C_isnNN, C_isnIN, R_b, R_i, X_t, X_l, at0, at1, at2, at3, tup1, tup2, tup3, tup4,
 biInt, biAbs, biMin2, biLenL, biLenT, biTupL, str_inj, asg_d, asg_l, asgs_nil, asgs_cons, mapNm,
 gz, gs, sz, ss, mc, mn, ac, an, rc, rz, om, Nat.sub_self, Nat.reduceSub, Nat.reduceAdd, reduceCtorEq, String.reduceEq, decide_true, decide_false, cond_true, cond_false, Bool.not_true, Bool.not_false, Bool.true_and, Bool.false_and, Bool.and_true, Bool.and_false, Bool.or_true, Bool.or_false, Bool.true_or, Bool.false_or, Bool.not_not, d1, d2]
  simp only [ss, sz] at hf
  simp only [fn_first_unlike, E_nm, E_ct, E_gl, E_tup, E_bop, E_neg, E_not, E_and, E_or, E_cmp, E_chn, E_ite, E_ix, E_sl, E_call, E_bi, E_me, E_al, E_st, T_and, T_or, T_not, T_nm, T_cmp, T_chn, T_ix, T_call, T_bi,
 Es_nil, Es_cons, P_none, P_some, A_lst, A_ba, A_rv, A_dic, D_nil, D_cons, A_lc, C_none, C_some, I_sq, I_rg, I_zp, S_asg, S_par, S_ret, S_ifs, S_ex, S_for, S_retn, S_brk, S_cnt, S_pas, S_setx, Ss_nil, Ss_cons,
 bnd_some, obd_some, cnd_some, ifT_some, bnd_cond, ifT_cond, seq_nx, seq_rt, seq_bk, seq_ct, seq_cond, res_nx, res_rt, res_cond, slot_v, slot_own, cAnd, cOr, cAndT, cOrT, fixR_d, fixR_l,
 B_add, B_sub, C_lt, C_le, C_gt, C_ge, C_eqI, C_neI, C_eqS, C_neS, C_eqB, C_neB, C_isNN, C_isIN, C_isTN, C_isnNN, C_isnIN, R_b, R_i, X_t, X_l, at0, at1, at2, at3, tup1, tup2, tup3, tup4,
 biInt, biAbs, biMin2, biLenL, biLenT, biTupL, str_inj, asg_d, asg_l, asgs_nil, asgs_cons, mapNm,
 gz, gs, sz, ss, mc, mn, ac, an, rc, rz, om, Nat.sub_self, Nat.reduceSub, Nat.reduceAdd, reduceCtorEq, String.reduceEq, decide_true, decide_false, cond_true, cond_false, Bool.not_true, Bool.not_false, Bool.true_and, Bool.false_and, Bool.and_true, Bool.and_false, Bool.or_true, Bool.or_false, Bool.true_or, Bool.false_or, Bool.not_not, c1, c2, c3, asg_t, biMaxI, rg1 o1]
  rw [hf]
  cases (rgI 0 (mx c.tl b.tl + (lc : Nat)).toNat).find? fun t => !(c.has t == b.has t) with
  | none => simp only [E_nm, E_ct, E_gl, E_tup, E_bop, E_neg, E_not, E_and, E_or, E_cmp, E_chn, E_ite, E_ix, E_sl, E_call, E_bi, E_me, E_al, E_st, T_and, T_or, T_not, T_nm, T_cmp, T_chn, T_ix, T_call, T_bi,
 Es_nil, Es_cons, P_none, P_some, A_lst, A_ba, A_rv, A_dic, D_nil, D_cons, A_lc, C_none, C_some, I_sq, I_rg, I_zp, S_asg, S_par, S_ret, S_ifs, S_ex, S_for, S_retn, S_brk, S_cnt, S_pas, S_setx, Ss_nil, Ss_cons,
 bnd_some, obd_some, cnd_some, ifT_some, bnd_cond, ifT_cond, seq_nx, seq_rt, seq_bk, seq_ct, seq_cond, res_nx, res_rt, res_cond, slot_v, slot_own, cAnd, cOr, cAndT, cOrT, fixR_d, fixR_l,
 B_add, B_sub, C_lt, C_le, C_gt, C_ge, C_eqI, C_neI, C_eqS, C_neS, C_eqB, C_neB, C_isNN, C_isIN, C_isTN, C_isnNN, C_isnIN, R_b, R_i, X_t, X_l, at0, at1, at2, at3, tup1, tup2, tup3, tup4,
 biInt, biAbs, biMin2, biLenL, biLenT, biTupL, str_inj, asg_d, asg_l, asgs_nil, asgs_cons, mapNm,
 gz, gs, sz, ss, mc, mn, ac, an, rc, rz, om, Nat.sub_self, Nat.reduceSub, Nat.reduceAdd, reduceCtorEq, String.reduceEq, decide_true, decide_false, cond_true, cond_false, Bool.not_true, Bool.not_false, Bool.true_and, Bool.false_and, Bool.and_true, Bool.and_false, Bool.or_true, Bool.or_false, Bool.true_or, Bool.false_or, Bool.not_not, optD]
  | some u => simp only [E_nm, E_ct, E_gl, E_tup, E_bop, E_neg, E_not, E_and, E_or, E_cmp, E_chn, E_ite, E_ix, E_sl, E_call, E_bi, E_me, E_al, E_st, T_and, T_or, T_not, T_nm, T_cmp, T_chn, T_ix, T_call, T_bi,
 Es_nil, Es_cons, P_none, P_some, A_lst, A_ba, A_rv, A_dic, D_nil, D_cons, A_lc, C_none, C_some, I_sq, I_rg, I_zp, S_asg, S_par, S_ret, S_ifs, S_ex, S_for, S_retn, S_brk, S_cnt, S_pas, S_setx, Ss_nil, Ss_cons,
 bnd_some, obd_some, cnd_some, ifT_some, bnd_cond, ifT_cond, seq_nx, seq_rt, seq_bk, seq_ct, seq_cond, res_nx, res_rt, res_cond, slot_v, slot_own, cAnd, cOr, cAndT, cOrT, fixR_d, fixR_l,
 B_add, B_sub, C_lt, C_le, C_gt, C_ge, C_eqI, C_neI, C_eqS, C_neS, C_eqB, C_neB, C_isNN, C_isIN, C_isTN, C_isnNN, C_isnIN, R_b, R_i, X_t, X_l, at0, at1, at2, at3, tup1, tup2, tup3, tup4,
 biInt, biAbs, biMin2, biLenL, biLenT, biTupL, str_inj, asg_d, asg_l, asgs_nil, asgs_cons, mapNm,
 gz, gs, sz, ss, mc, mn, ac, an, rc, rz, om, Nat.sub_self, Nat.reduceSub, Nat.reduceAdd, reduceCtorEq, String.reduceEq, decide_true, decide_false, cond_true, cond_false, Bool.not_true, Bool.not_false, Bool.true_and, Bool.false_and, Bool.and_true, Bool.and_false, Bool.or_true, Bool.or_false, Bool.true_or, Bool.false_or, Bool.not_not, optD]
theorem unl_is {c b : Cal} (hc : c.wf) (hb : b.wf) : (∃ u, unl c b = some u ∧ 0 ≤ u ∧ u < mx c.tl b.tl + (Nat.lcm c.pd b.pd : Nat) ∧ c.has u ≠ b.has u ∧ ∀ v, 0 ≤ v → v < u → c.has v = b.has v) ∨ (unl c b = none ∧ ∀ v, 0 ≤ v → c.has v = b.has v) := by
  have t1 := hc.tl
  have t2 := hb.tl
  have l := lcm420 hc hb
  have hm := mx_le (i := c.tl) (j := b.tl)
  have p1 := (Cal.per hc).dvd (Nat.dvd_lcm_left c.pd b.pd)
  have p2 := (Cal.per hb).dvd (Nat.dvd_lcm_right c.pd b.pd)
  unfold unl
  generalize Nat.lcm c.pd b.pd = lc at *
  rcases find_rgI (p := fun t => !(c.has t == b.has t)) (n := (mx c.tl b.tl + (lc : Nat)).toNat) (lo := 0) with ⟨u, a1, a2, a3, a4, a5⟩ | ⟨a1, a2⟩
  · refine .inl ⟨u, a1, a3, by omega, fun z => ?_, fun v v0 v1 => ?_⟩
    · rw [z] at a2
      simp at a2
    · have := a5 v v0 v1
      simpa using this
  · refine .inr ⟨a1, fun v hv => ?_⟩
    have small : ∀ v, 0 ≤ v → v < mx c.tl b.tl + (lc : Nat) → c.has v = b.has v := fun v v0 v1 => by
      have := a2 v v0 (by omega)
      simpa using this
    have pd : Per (fun t => !(c.has t == b.has t)) (mx c.tl b.tl) lc := fun t ht => by
      show (!(c.has (t + lc) == b.has (t + lc))) = (!(c.has t == b.has t))
      rw [p1 t (by omega), p2 t (by omega)]
    by_cases hl : v < mx c.tl b.tl
    · exact small v hv (by omega)
    · have := per_all l.1 pd (Int.le_refl _) (fun u h3 h4 => by
        have := small u (by omega) (by omega)
        simp [this]) v (by omega)
      simpa using this
theorem unl_none {c b : Cal} (hc : c.wf) (hb : b.wf) : unl c b = none ↔ ∀ v, 0 ≤ v → c.has v = b.has v := by
  rcases unl_is hc hb with ⟨u, a1, a2, a3, a4, a5⟩ | ⟨a1, a2⟩
  · rw [a1]
    constructor
    · intro h
      cases h
    · intro h
      exact absurd (h u a2) a4
  · rw [a1]
    exact ⟨fun _ => a2, fun _ => rfl⟩
theorem tup0 : tupX [] = some (.tuple []) := by simp [tupX, allD]
theorem nilT : ([] : List D) = ([] : List Int).map .int := rfl
theorem C_neNilT {e : Lo} {s : Sto} {L : List Int} : cmpX e s .ne (.d (.tuple (L.map .int))) (.d (.tuple [])) = some (!decide (L = [])) := by
  rw [nilT, C_neT]
theorem endless_spec {w : Nat} (st : Sto) (hw : 300000 < w) {c : Cal} {k : Nat} (hc : c.wf) (hk : c.ht + 5 < k) (hh : c.ht ≤ 100) {q : Nat} (hq : IsQ c.has c.tl c.pd q) :
    evCall prog w k i_is_endless [.d c.d] st = some (.d (.bool (!decide (rests c q = []))), st) := by
  obtain ⟨k, rfl⟩ : ∃ j, k = j + 1 := ⟨k - 1, by omega⟩
  obtain ⟨r, hr, _, h1⟩ := plain_spec st hw (k := k) hc (by omega) hh
  have e : q = r := IsQ.uniq hc.pd.1 (Nat.dvd_refl _) hq hr
  subst e
  have c1 := fun e => callX_of (cl := evCall prog w k) (f := i_plain_calendar) (xs := [.d c.d]) (e := e) rfl h1
  rw [plain_eq] at c1
  rw [call_eq (fn := fn_is_endless) rfl rfl]
  simp only [fn_is_endless, E_nm, E_ct, E_gl, E_tup, E_bop, E_neg, E_not, E_and, E_or, E_cmp, E_chn, E_ite, E_ix, E_sl, E_call, E_bi, E_me, E_al, E_st, T_and, T_or, T_not, T_nm, T_cmp, T_chn, T_ix, T_call, T_bi,
 Es_nil, Es_cons, P_none, P_some, A_lst, A_ba, A_rv, A_dic, D_nil, D_cons, A_lc, C_none, C_some, I_sq, I_rg, I_zp, S_asg, S_par, S_ret, S_ifs, S_ex, S_for, S_retn, S_brk, S_cnt, S_pas, S_setx, Ss_nil, Ss_cons,
 bnd_some, obd_some, cnd_some, ifT_some, bnd_cond, ifT_cond, seq_nx, seq_rt, seq_bk, seq_ct, seq_cond, res_nx, res_rt, res_cond, slot_v, slot_own, cAnd, cOr, cAndT, cOrT, fixR_d, fixR_l,
 B_add, B_sub, C_lt, C_le, C_gt, C_ge, C_eqI, C_neI, C_eqS, C_neS, C_eqB, C_neB, C_isNN, C_isIN, C_isTN, C_isnNN, C_isnIN, R_b, R_i, X_t, X_l, at0, at1, at2, at3, tup1, tup2, tup3, tup4,
 biInt, biAbs, biMin2, biLenL, biLenT, biTupL, str_inj, asg_d, asg_l, asgs_nil, asgs_cons, mapNm,
 gz, gs, sz, ss, mc, mn, ac, an, rc, rz, om, Nat.sub_self, Nat.reduceSub, Nat.reduceAdd, reduceCtorEq, String.reduceEq, decide_true, decide_false, cond_true, cond_false, Bool.not_true, Bool.not_false, Bool.true_and, Bool.false_and, Bool.and_true, Bool.and_false, Bool.or_true, Bool.or_false, Bool.true_or, Bool.false_or, Bool.not_not, c1, tup0, C_neNilT]
/-! ### a calendar of a plain form -/
def calF (q d : Nat) (acc : Cal) (r : Int) : Cal := .both acc (.every q (d + r) none)
def calOf (c : Cal) (q : Nat) : Cal := (rests c q).foldl (calF q (down c.has q c.tl.toNat)) (.list (early c q))
theorem itT {ts : List Int} : itX (.d (.tuple (ts.map .int))) = some (ts.map fun t => .d (.int t)) := by
  simp only [itX, List.map_map]
  rfl
theorem calof_spec {w k : Nat} (st : Sto) (hk : 0 < k) {c : Cal} {q : Nat} : evCall prog w k i_calendar_of [.d (plainD c q)] st = some (.d (calOf c q).d, st) := by
  obtain ⟨k, rfl⟩ : ∃ j, k = j + 1 := ⟨k - 1, by omega⟩
  rw [plain_eq]
  unfold calOf
  generalize down c.has q c.tl.toNat = d
  generalize early c q = es
  generalize rests c q = rs
  let T : D := .tuple [.tuple (es.map .int), .int d, .int q, .tuple (rs.map .int)]
  let P : List X → Lo → Sto → Prop := fun r e s => s = st ∧ ∃ (ms : List Int) (acc : Cal) (y : Option X), r = (ms.map fun t => .d (.int t)) ∧ ms.foldl (calF q d) acc = rs.foldl (calF q d) (.list es) ∧
    e = [.v (.d T), .v (.d (.tuple (es.map .int))), .v (.d (.int d)), .v (.d (.int q)), .v (.d (.tuple (rs.map .int))), .v (.d acc.d), sv y]
  obtain ⟨e', s', hf, hq⟩ := for_inv (b := evSs prog.cs (evCall prog w k) w [.asg (.nm 5) (.tup [.ct (.str "both"), .nm 5, .tup [.ct (.str "every"), .nm 3, .bop .add (.nm 2) (.nm 6), .ct .none]])]) (t := .nm 6) P (fun _ _ => False) (fun x r e s hp => by
    obtain ⟨rfl, ms, acc, y, hm, ha, rfl⟩ := hp
    cases ms with
    | nil => cases hm
    | cons m ms =>
      simp only [List.map_cons, List.cons.injEq] at hm
      obtain ⟨rfl, rfl⟩ := hm
      refine ⟨_, [.v (.d T), .v (.d (.tuple (es.map .int))), .v (.d (.int d)), .v (.d (.int q)), .v (.d (.tuple (rs.map .int))), .v (.d (calF q d acc m).d), .v (.d (.int m))], s, rfl, .inl ⟨?_, rfl, ms, calF q d acc m, some (.d (.int m)), rfl, ha, rfl⟩⟩
      simp only [E_nm, E_ct, E_gl, E_tup, E_bop, E_neg, E_not, E_and, E_or, E_cmp, E_chn, E_ite, E_ix, E_sl, E_call, E_bi, E_me, E_al, E_st, T_and, T_or, T_not, T_nm, T_cmp, T_chn, T_ix, T_call, T_bi,
 Es_nil, Es_cons, P_none, P_some, A_lst, A_ba, A_rv, A_dic, D_nil, D_cons, A_lc, C_none, C_some, I_sq, I_rg, I_zp, S_asg, S_par, S_ret, S_ifs, S_ex, S_for, S_retn, S_brk, S_cnt, S_pas, S_setx, Ss_nil, Ss_cons,
 bnd_some, obd_some, cnd_some, ifT_some, bnd_cond, ifT_cond, seq_nx, seq_rt, seq_bk, seq_ct, seq_cond, res_nx, res_rt, res_cond, slot_v, slot_own, cAnd, cOr, cAndT, cOrT, fixR_d, fixR_l,
 B_add, B_sub, C_lt, C_le, C_gt, C_ge, C_eqI, C_neI, C_eqS, C_neS, C_eqB, C_neB, C_isNN, C_isIN, C_isTN, C_isnNN, C_isnIN, R_b, R_i, X_t, X_l, at0, at1, at2, at3, tup1, tup2, tup3, tup4,
 biInt, biAbs, biMin2, biLenL, biLenT, biTupL, str_inj, asg_d, asg_l, asgs_nil, asgs_cons, mapNm,
 gz, gs, sz, ss, mc, mn, ac, an, rc, rz, om, Nat.sub_self, Nat.reduceSub, Nat.reduceAdd, reduceCtorEq, String.reduceEq, decide_true, decide_false, cond_true, cond_false, Bool.not_true, Bool.not_false, Bool.true_and, Bool.false_and, Bool.and_true, Bool.and_false, Bool.or_true, Bool.or_false, Bool.true_or, Bool.false_or, Bool.not_not, calF, Cal.d, optD]) (rs.map fun t => .d (.int t)) [.v (.d T), .v (.d (.tuple (es.map .int))), .v (.d (.int d)), .v (.d (.int q)), .v (.d (.tuple (rs.map .int))), .v (.d (Cal.list es).d), .no] st ⟨rfl, rs, .list es, none, rfl, rfl, rfl⟩
  rcases hq with ⟨rfl, ms, acc, y, hm, ha, rfl⟩ | hq
  · have hms : ms = [] := by
      cases ms with
      | nil => rfl
      | cons m ms => cases hm
    subst hms
    have ha' : acc = rs.foldl (calF q d) (.list es) := ha
    rw [call_eq (fn := fn_calendar_of) rfl rfl]
    simp only [Cal.d] at hf
    simp only [fn_calendar_of, E_nm, E_ct, E_gl, E_tup, E_bop, E_neg, E_not, E_and, E_or, E_cmp, E_chn, E_ite, E_ix, E_sl, E_call, E_bi, E_me, E_al, E_st, T_and, T_or, T_not, T_nm, T_cmp, T_chn, T_ix, T_call, T_bi,
 Es_nil, Es_cons, P_none, P_some, A_lst, A_ba, A_rv, A_dic, D_nil, D_cons, A_lc, C_none, C_some, I_sq, I_rg, I_zp, S_asg, S_par, S_ret, S_ifs, S_ex, S_for, S_retn, S_brk, S_cnt, S_pas, S_setx, Ss_nil, Ss_cons,
 bnd_some, obd_some, cnd_some, ifT_some, bnd_cond, ifT_cond, seq_nx, seq_rt, seq_bk, seq_ct, seq_cond, res_nx, res_rt, res_cond, slot_v, slot_own, cAnd, cOr, cAndT, cOrT, fixR_d, fixR_l,
 B_add, B_sub, C_lt, C_le, C_gt, C_ge, C_eqI, C_neI, C_eqS, C_neS, C_eqB, C_neB, C_isNN, C_isIN, C_isTN, C_isnNN, C_isnIN, R_b, R_i, X_t, X_l, at0, at1, at2, at3, tup1, tup2, tup3, tup4,
 biInt, biAbs, biMin2, biLenL, biLenT, biTupL, str_inj, asg_d, asg_l, asgs_nil, asgs_cons, mapNm,
 gz, gs, sz, ss, mc, mn, ac, an, rc, rz, om, Nat.sub_self, Nat.reduceSub, Nat.reduceAdd, reduceCtorEq, String.reduceEq, decide_true, decide_false, cond_true, cond_false, Bool.not_true, Bool.not_false, Bool.true_and, Bool.false_and, Bool.and_true, Bool.and_false, Bool.or_true, Bool.or_false, Bool.true_or, Bool.false_or, Bool.not_not, asg_t, itT]
    rw [hf]
    simp only [E_nm, E_ct, E_gl, E_tup, E_bop, E_neg, E_not, E_and, E_or, E_cmp, E_chn, E_ite, E_ix, E_sl, E_call, E_bi, E_me, E_al, E_st, T_and, T_or, T_not, T_nm, T_cmp, T_chn, T_ix, T_call, T_bi,
 Es_nil, Es_cons, P_none, P_some, A_lst, A_ba, A_rv, A_dic, D_nil, D_cons, A_lc, C_none, C_some, I_sq, I_rg, I_zp, S_asg, S_par, S_ret, S_ifs, S_ex, S_for, S_retn, S_brk, S_cnt, S_pas, S_setx, Ss_nil, Ss_cons,
 bnd_some, obd_some, cnd_some, ifT_some, bnd_cond, ifT_cond, seq_nx, seq_rt, seq_bk, seq_ct, seq_cond, res_nx, res_rt, res_cond, slot_v, slot_own, cAnd, cOr, cAndT, cOrT, fixR_d, fixR_l,
 B_add, B_sub, C_lt, C_le, C_gt, C_ge, C_eqI, C_neI, C_eqS, C_neS, C_eqB, C_neB, C_isNN, C_isIN, C_isTN, C_isnNN, C_isnIN, R_b, R_i, X_t, X_l, at0, at1, at2, at3, tup1, tup2, tup3, tup4,
 biInt, biAbs, biMin2, biLenL, biLenT, biTupL, str_inj, asg_d, asg_l, asgs_nil, asgs_cons, mapNm,
 gz, gs, sz, ss, mc, mn, ac, an, rc, rz, om, Nat.sub_self, Nat.reduceSub, Nat.reduceAdd, reduceCtorEq, String.reduceEq, decide_true, decide_false, cond_true, cond_false, Bool.not_true, Bool.not_false, Bool.true_and, Bool.false_and, Bool.and_true, Bool.and_false, Bool.or_true, Bool.or_false, Bool.true_or, Bool.false_or, Bool.not_not, ha']
  · exact hq.elim
theorem calF_wf {q d : Nat} (hq : q ∣ 420) (q0 : 0 < q) : ∀ {rs : List Int} {acc : Cal}, acc.wf → (∀ r ∈ rs, 0 ≤ (d : Int) + r ∧ (d : Int) + r < 2000) → (rs.foldl (calF q d) acc).wf ∧ (rs.foldl (calF q d) acc).ht ≤ acc.ht + rs.length
  | [], acc, h, _ => ⟨h, Nat.le_refl _⟩
  | r :: rs, acc, h, hr => by
    have h1 := hr r List.mem_cons_self
    have := calF_wf hq q0 (rs := rs) (acc := calF q d acc r) ⟨h, ⟨q, rfl, q0, hq⟩, h1.1, h1.2, fun i hi => by cases hi⟩ fun x hx => hr x (List.mem_cons_of_mem _ hx)
    rw [List.foldl_cons]
    refine ⟨this.1, Nat.le_trans this.2 ?_⟩
    simp only [calF, Cal.ht, List.length_cons]
    omega
theorem calF_has {q d : Nat} {t : Int} : ∀ {rs : List Int} {acc : Cal}, (rs.foldl (calF q d) acc).has t = (acc.has t || rs.any fun r => decide ((d : Int) + r ≤ t) && decide ((t - (d + r)).fmod q = 0))
  | [], acc => by simp
  | r :: rs, acc => by
    rw [List.foldl_cons, calF_has, List.any_cons]
    simp only [calF, Cal.has, leO, Bool.and_true, Bool.or_assoc]
end K52

namespace K52
open PySem EV L2

theorem mod_is {x r : Int} {q : Nat} (h0 : 0 ≤ r) (h1 : r < q) : (r ≤ x ∧ (x - r).fmod q = 0) ↔ (0 ≤ x ∧ x.fmod q = r) := by
  rw [Int.fmod_eq_emod_of_nonneg _ (by omega), Int.fmod_eq_emod_of_nonneg _ (by omega)]
  constructor
  · rintro ⟨a1, a2⟩
    refine ⟨by omega, ?_⟩
    obtain ⟨m, hm⟩ := Int.dvd_of_emod_eq_zero a2
    have e : x = r + (q : Int) * m := by omega
    rw [e, Int.add_mul_emod_self_left, Int.emod_eq_of_lt h0 h1]
  · rintro ⟨a1, a2⟩
    have h3 := Int.emod_add_mul_ediv x q
    have h4 : 0 ≤ x / (q : Int) := Int.ediv_nonneg a1 (by omega)
    have h5 : 0 ≤ (q : Int) * (x / (q : Int)) := Int.mul_nonneg (by omega) h4
    refine ⟨by omega, ?_⟩
    have e : x - r = 0 + (q : Int) * (x / (q : Int)) := by omega
    rw [e, Int.add_mul_emod_self_left, Int.zero_emod]
theorem calof_has {c : Cal} (hc : c.wf) {q : Nat} (hq : IsQ c.has c.tl c.pd q) {t : Int} (h0 : 0 ≤ t) : (calOf c q).has t = c.has t := by
  have q0 := hq.1
  rw [has_plain hc hq h0]
  unfold calOf
  rw [calF_has]
  have hr : ∀ r ∈ rests c q, 0 ≤ r ∧ r < q := fun r h => by
    have := mem_rgI.mp (List.mem_filter.mp h).1
    omega
  have he : ∀ r ∈ early c q, r < (down c.has q c.tl.toNat : Nat) := fun r h => by
    have := (mem_ts.mp h).1
    omega
  generalize early c q = es at he
  generalize rests c q = rs at hr
  generalize down c.has q c.tl.toNat = d at he
  by_cases hl : t < (d : Int)
  · rw [if_pos hl]
    have : (rs.any fun r => decide ((d : Int) + r ≤ t) && decide ((t - (d + r)).fmod q = 0)) = false := by
      rw [List.any_eq_false]
      intro r hm
      have := (hr r hm).1
      have e : decide ((d : Int) + r ≤ t) = false := decide_eq_false (by omega)
      simp [e]
    rw [this]
    simp only [Cal.has, Bool.or_false]
  · rw [if_neg hl]
    have e1 : (Cal.list es).has t = false := decide_eq_false fun z => hl (he t z)
    rw [e1, Bool.false_or, Bool.eq_iff_iff, List.any_eq_true, decide_eq_true_eq]
    constructor
    · rintro ⟨r, hm, h⟩
      simp only [Bool.and_eq_true, decide_eq_true_eq] at h
      have e : t - ((d : Int) + r) = t - d - r := by omega
      rw [e] at h
      have := ((mod_is (x := t - d) (hr r hm).1 (hr r hm).2).mp ⟨by omega, h.2⟩).2
      rw [this]
      exact hm
    · intro hm
      refine ⟨_, hm, ?_⟩
      have := (mod_is (x := t - d) (hr _ hm).1 (hr _ hm).2).mpr ⟨by omega, rfl⟩
      simp only [Bool.and_eq_true, decide_eq_true_eq]
      have e : t - ((d : Int) + (t - d).fmod q) = t - d - (t - d).fmod q := by omega
      rw [e]
      exact ⟨by omega, this.2⟩
theorem calof_wf {c : Cal} (hc : c.wf) (hs : c.tl < 1000) {q : Nat} (hq : IsQ c.has c.tl c.pd q) (hqm : q ≤ 420) (hl : (early c q).length ≤ 60) (hr : (rests c q).length * q ≤ 600) : (calOf c q).wf ∧ (calOf c q).ht ≤ 24 := by
  have hd := (down_spec (f := c.has) (q := q) c.tl.toNat).1
  have htl := hc.tl
  have hrq : (rests c q).length ≤ q := by
    unfold rests
    refine Nat.le_trans (List.length_filter_le _ _) ?_
    rw [len_rgI]
    exact Nat.le_refl _
  have h24 : (rests c q).length ≤ 24 := by
    rcases Nat.lt_or_ge 24 (rests c q).length with z | z
    · have h1 : 25 * 25 ≤ (rests c q).length * q := Nat.mul_le_mul z (by omega)
      omega
    · exact z
  have a := calF_wf (q := q) (d := down c.has q c.tl.toNat) (Nat.dvd_trans hq.2.1 hc.pd.2) hq.1 (rs := rests c q) (acc := .list (early c q)) ⟨by omega, fun t ht => by
    have := (mem_ts.mp ht).1
    omega⟩ fun r hm => by
    have := mem_rgI.mp (List.mem_filter.mp hm).1
    omega
  refine ⟨a.1, Nat.le_trans a.2 ?_⟩
  simp only [Cal.ht]
  omega
/-! ### the pairs of the law -/
theorem two_is {k s t : Int} (h : k = 1 ∨ k = 2 ∨ k = 3) : (decide (s ≤ t) && decide ((t - s).fmod k = 0)) = ((decide (s ≤ t) && decide ((t - s).fmod (2 * k) = 0)) || (decide (s + k ≤ t) && decide ((t - (s + k)).fmod (2 * k) = 0))) := by
  rw [Bool.eq_iff_iff]
  simp only [Bool.and_eq_true, Bool.or_eq_true, decide_eq_true_eq]
  rcases h with rfl | rfl | rfl
  · rw [Int.fmod_eq_emod_of_nonneg _ (by decide), Int.fmod_eq_emod_of_nonneg _ (by decide), Int.fmod_eq_emod_of_nonneg _ (by decide)]
    omega
  · rw [Int.fmod_eq_emod_of_nonneg _ (by decide), Int.fmod_eq_emod_of_nonneg _ (by decide), Int.fmod_eq_emod_of_nonneg _ (by decide)]
    omega
  · rw [Int.fmod_eq_emod_of_nonneg _ (by decide), Int.fmod_eq_emod_of_nonneg _ (by decide), Int.fmod_eq_emod_of_nonneg _ (by decide)]
    omega
def Good (c : Cal) : Prop := (c.wf ∧ c.sm) ∧ c.ht ≤ 5
theorem other_spec {w : Nat} {rest st : Sto} {k : Nat} (hw : 64 < w) (hs : Src rest st) (hk : 2 < k) {x y z : Cal} (hx : (x.wf ∧ x.sm) ∧ x.ht ≤ 1) (hy : (y.wf ∧ y.sm) ∧ y.ht ≤ 1) (hz : (z.wf ∧ z.sm) ∧ z.ht ≤ 1) :
    ∃ (a b : Cal) (st' : Sto), evCall prog w k i_law_otherwise [.l 1, .d x.d, .d y.d, .d z.d] st = some (.d (.tuple [a.d, b.d]), st') ∧ Good a ∧ Good b ∧ (∀ t, a.has t = b.has t) ∧ Src rest st' := by
  obtain ⟨k, rfl⟩ : ∃ j, k = j + 1 := ⟨k - 1, by omega⟩
  obtain ⟨⟨wx, sx⟩, hx⟩ := hx
  obtain ⟨⟨wy, sy⟩, hy⟩ := hy
  obtain ⟨⟨wz, sz'⟩, hz⟩ := hz
  obtain ⟨r, st1, p1, S1, r0, r1⟩ := pick_spec (most := 9) hs hw (k := k) (by omega) (by decide)
  obtain ⟨m, st2, p2, S2, m0, m1⟩ := pick_spec (most := 4) S1 hw (k := k) (by omega) (by decide)
  have c1 := fun e => callX_of (cl := evCall prog w k) (f := i_law_pick) (xs := [.l 1, .d (.int 9)]) (e := e) rfl p1
  have c2 := fun e => callX_of (cl := evCall prog w k) (f := i_law_pick) (xs := [.l 1, .d (.int 4)]) (e := e) rfl p2
  rw [call_eq (fn := fn_law_otherwise) rfl rfl]
  rcases (show r = 0 ∨ r = 1 ∨ r = 2 ∨ r = 3 ∨ r = 4 ∨ r = 5 ∨ r = 6 ∨ r = 7 ∨ r = 8 by omega) with rfl | rfl | rfl | rfl | rfl | rfl | rfl | rfl | rfl
  · refine ⟨.both x y, .both y x, st2, ?_, ⟨⟨⟨wx, wy⟩, sx, sy⟩, by simp only [Cal.ht]; omega⟩, ⟨⟨⟨wy, wx⟩, sy, sx⟩, by simp only [Cal.ht]; omega⟩, fun t => by simp only [Cal.has, Bool.or_comm], S2⟩
    simp only [fn_law_otherwise, E_nm, E_ct, E_gl, E_tup, E_bop, E_neg, E_not, E_and, E_or, E_cmp, E_chn, E_ite, E_ix, E_sl, E_call, E_bi, E_me, E_al, E_st, T_and, T_or, T_not, T_nm, T_cmp, T_chn, T_ix, T_call, T_bi,
 Es_nil, Es_cons, P_none, P_some, A_lst, A_ba, A_rv, A_dic, D_nil, D_cons, C_none, C_some, I_sq, I_rg, I_zp, S_asg, S_par, S_ret, S_ifs, S_ex, S_for, S_retn, S_brk, S_cnt, S_pas, S_setx, Ss_nil, Ss_cons,
 bnd_some, obd_some, cnd_some, ifT_some, bnd_cond, ifT_cond, seq_nx, seq_rt, seq_bk, seq_ct, seq_cond, res_nx, res_rt, res_cond, slot_v, slot_own, cAnd, cOr, cAndT, cOrT, fixR_d, fixR_l,
 B_add, B_sub, C_lt, C_le, C_gt, C_ge, C_eqI, C_neI, C_eqS, C_neS, C_eqB, C_neB, C_isNN, C_isIN, C_isTN, C_isnNN, C_isnIN, R_b, R_i, X_t, X_l, at0, at1, at2, at3, tup1, tup2, tup3, tup4,
 biInt, biAbs, biMin2, biLenL, biLenT, biTupL, str_inj, asg_d, asg_l, asgs_nil, asgs_cons, mapNm,
 gz, gs, sz, ss, mc, mn, ac, an, rc, rz, om, Nat.sub_self, Nat.reduceSub, Nat.reduceAdd, reduceCtorEq, String.reduceEq, decide_true, decide_false, cond_true, cond_false, Bool.not_true, Bool.not_false, Bool.true_and, Bool.false_and, Bool.and_true, Bool.and_false, Bool.or_true, Bool.or_false, Bool.true_or, Bool.false_or, Bool.not_not, c1, c2, Cal.d, Int.reduceEq]
  · refine ⟨.common x (.both y z), .both (.common x y) (.common x z), st2, ?_, ⟨⟨⟨wx, wy, wz⟩, sx, sy, sz'⟩, by simp only [Cal.ht]; omega⟩, ⟨⟨⟨⟨wx, wy⟩, wx, wz⟩, ⟨sx, sy⟩, sx, sz'⟩, by simp only [Cal.ht]; omega⟩, fun t => by simp only [Cal.has, Bool.and_or_distrib_left], S2⟩
    simp only [fn_law_otherwise, E_nm, E_ct, E_gl, E_tup, E_bop, E_neg, E_not, E_and, E_or, E_cmp, E_chn, E_ite, E_ix, E_sl, E_call, E_bi, E_me, E_al, E_st, T_and, T_or, T_not, T_nm, T_cmp, T_chn, T_ix, T_call, T_bi,
 Es_nil, Es_cons, P_none, P_some, A_lst, A_ba, A_rv, A_dic, D_nil, D_cons, C_none, C_some, I_sq, I_rg, I_zp, S_asg, S_par, S_ret, S_ifs, S_ex, S_for, S_retn, S_brk, S_cnt, S_pas, S_setx, Ss_nil, Ss_cons,
 bnd_some, obd_some, cnd_some, ifT_some, bnd_cond, ifT_cond, seq_nx, seq_rt, seq_bk, seq_ct, seq_cond, res_nx, res_rt, res_cond, slot_v, slot_own, cAnd, cOr, cAndT, cOrT, fixR_d, fixR_l,
 B_add, B_sub, C_lt, C_le, C_gt, C_ge, C_eqI, C_neI, C_eqS, C_neS, C_eqB, C_neB, C_isNN, C_isIN, C_isTN, C_isnNN, C_isnIN, R_b, R_i, X_t, X_l, at0, at1, at2, at3, tup1, tup2, tup3, tup4,
 biInt, biAbs, biMin2, biLenL, biLenT, biTupL, str_inj, asg_d, asg_l, asgs_nil, asgs_cons, mapNm,
 gz, gs, sz, ss, mc, mn, ac, an, rc, rz, om, Nat.sub_self, Nat.reduceSub, Nat.reduceAdd, reduceCtorEq, String.reduceEq, decide_true, decide_false, cond_true, cond_false, Bool.not_true, Bool.not_false, Bool.true_and, Bool.false_and, Bool.and_true, Bool.and_false, Bool.or_true, Bool.or_false, Bool.true_or, Bool.false_or, Bool.not_not, c1, c2, Cal.d, Int.reduceEq]
  · refine ⟨.without x (.both y z), .without (.without x y) z, st2, ?_, ⟨⟨⟨wx, wy, wz⟩, sx, sy, sz'⟩, by simp only [Cal.ht]; omega⟩, ⟨⟨⟨⟨wx, wy⟩, wz⟩, ⟨sx, sy⟩, sz'⟩, by simp only [Cal.ht]; omega⟩, fun t => by simp only [Cal.has]; cases x.has t <;> cases y.has t <;> cases z.has t <;> rfl, S2⟩
    simp only [fn_law_otherwise, E_nm, E_ct, E_gl, E_tup, E_bop, E_neg, E_not, E_and, E_or, E_cmp, E_chn, E_ite, E_ix, E_sl, E_call, E_bi, E_me, E_al, E_st, T_and, T_or, T_not, T_nm, T_cmp, T_chn, T_ix, T_call, T_bi,
 Es_nil, Es_cons, P_none, P_some, A_lst, A_ba, A_rv, A_dic, D_nil, D_cons, C_none, C_some, I_sq, I_rg, I_zp, S_asg, S_par, S_ret, S_ifs, S_ex, S_for, S_retn, S_brk, S_cnt, S_pas, S_setx, Ss_nil, Ss_cons,
 bnd_some, obd_some, cnd_some, ifT_some, bnd_cond, ifT_cond, seq_nx, seq_rt, seq_bk, seq_ct, seq_cond, res_nx, res_rt, res_cond, slot_v, slot_own, cAnd, cOr, cAndT, cOrT, fixR_d, fixR_l,
 B_add, B_sub, C_lt, C_le, C_gt, C_ge, C_eqI, C_neI, C_eqS, C_neS, C_eqB, C_neB, C_isNN, C_isIN, C_isTN, C_isnNN, C_isnIN, R_b, R_i, X_t, X_l, at0, at1, at2, at3, tup1, tup2, tup3, tup4,
 biInt, biAbs, biMin2, biLenL, biLenT, biTupL, str_inj, asg_d, asg_l, asgs_nil, asgs_cons, mapNm,
 gz, gs, sz, ss, mc, mn, ac, an, rc, rz, om, Nat.sub_self, Nat.reduceSub, Nat.reduceAdd, reduceCtorEq, String.reduceEq, decide_true, decide_false, cond_true, cond_false, Bool.not_true, Bool.not_false, Bool.true_and, Bool.false_and, Bool.and_true, Bool.and_false, Bool.or_true, Bool.or_false, Bool.true_or, Bool.false_or, Bool.not_not, c1, c2, Cal.d, Int.reduceEq]
  · refine ⟨.without x (.without x y), .common x y, st2, ?_, ⟨⟨⟨wx, wx, wy⟩, sx, sx, sy⟩, by simp only [Cal.ht]; omega⟩, ⟨⟨⟨wx, wy⟩, sx, sy⟩, by simp only [Cal.ht]; omega⟩, fun t => by simp only [Cal.has]; cases x.has t <;> cases y.has t <;> rfl, S2⟩
    simp only [fn_law_otherwise, E_nm, E_ct, E_gl, E_tup, E_bop, E_neg, E_not, E_and, E_or, E_cmp, E_chn, E_ite, E_ix, E_sl, E_call, E_bi, E_me, E_al, E_st, T_and, T_or, T_not, T_nm, T_cmp, T_chn, T_ix, T_call, T_bi,
 Es_nil, Es_cons, P_none, P_some, A_lst, A_ba, A_rv, A_dic, D_nil, D_cons, C_none, C_some, I_sq, I_rg, I_zp, S_asg, S_par, S_ret, S_ifs, S_ex, S_for, S_retn, S_brk, S_cnt, S_pas, S_setx, Ss_nil, Ss_cons,
 bnd_some, obd_some, cnd_some, ifT_some, bnd_cond, ifT_cond, seq_nx, seq_rt, seq_bk, seq_ct, seq_cond, res_nx, res_rt, res_cond, slot_v, slot_own, cAnd, cOr, cAndT, cOrT, fixR_d, fixR_l,
 B_add, B_sub, C_lt, C_le, C_gt, C_ge, C_eqI, C_neI, C_eqS, C_neS, C_eqB, C_neB, C_isNN, C_isIN, C_isTN, C_isnNN, C_isnIN, R_b, R_i, X_t, X_l, at0, at1, at2, at3, tup1, tup2, tup3, tup4,
 biInt, biAbs, biMin2, biLenL, biLenT, biTupL, str_inj, asg_d, asg_l, asgs_nil, asgs_cons, mapNm,
 gz, gs, sz, ss, mc, mn, ac, an, rc, rz, om, Nat.sub_self, Nat.reduceSub, Nat.reduceAdd, reduceCtorEq, String.reduceEq, decide_true, decide_false, cond_true, cond_false, Bool.not_true, Bool.not_false, Bool.true_and, Bool.false_and, Bool.and_true, Bool.and_false, Bool.or_true, Bool.or_false, Bool.true_or, Bool.false_or, Bool.not_not, c1, c2, Cal.d, Int.reduceEq]
  · refine ⟨.moved (.both x y) (1 + m), .both (.moved x (1 + m)) (.moved y (1 + m)), st2, ?_, ⟨⟨⟨⟨wx, wy⟩, by omega, by omega⟩, ⟨sx, sy⟩, by omega⟩, by simp only [Cal.ht]; omega⟩, ⟨⟨⟨⟨wx, by omega, by omega⟩, wy, by omega, by omega⟩, ⟨sx, by omega⟩, sy, by omega⟩, by simp only [Cal.ht]; omega⟩, fun t => by simp only [Cal.has], S2⟩
    simp only [fn_law_otherwise, E_nm, E_ct, E_gl, E_tup, E_bop, E_neg, E_not, E_and, E_or, E_cmp, E_chn, E_ite, E_ix, E_sl, E_call, E_bi, E_me, E_al, E_st, T_and, T_or, T_not, T_nm, T_cmp, T_chn, T_ix, T_call, T_bi,
 Es_nil, Es_cons, P_none, P_some, A_lst, A_ba, A_rv, A_dic, D_nil, D_cons, C_none, C_some, I_sq, I_rg, I_zp, S_asg, S_par, S_ret, S_ifs, S_ex, S_for, S_retn, S_brk, S_cnt, S_pas, S_setx, Ss_nil, Ss_cons,
 bnd_some, obd_some, cnd_some, ifT_some, bnd_cond, ifT_cond, seq_nx, seq_rt, seq_bk, seq_ct, seq_cond, res_nx, res_rt, res_cond, slot_v, slot_own, cAnd, cOr, cAndT, cOrT, fixR_d, fixR_l,
 B_add, B_sub, C_lt, C_le, C_gt, C_ge, C_eqI, C_neI, C_eqS, C_neS, C_eqB, C_neB, C_isNN, C_isIN, C_isTN, C_isnNN, C_isnIN, R_b, R_i, X_t, X_l, at0, at1, at2, at3, tup1, tup2, tup3, tup4,
 biInt, biAbs, biMin2, biLenL, biLenT, biTupL, str_inj, asg_d, asg_l, asgs_nil, asgs_cons, mapNm,
 gz, gs, sz, ss, mc, mn, ac, an, rc, rz, om, Nat.sub_self, Nat.reduceSub, Nat.reduceAdd, reduceCtorEq, String.reduceEq, decide_true, decide_false, cond_true, cond_false, Bool.not_true, Bool.not_false, Bool.true_and, Bool.false_and, Bool.and_true, Bool.and_false, Bool.or_true, Bool.or_false, Bool.true_or, Bool.false_or, Bool.not_not, c1, c2, Cal.d, Int.reduceEq]
  · refine ⟨.moved (.moved x (1 + m)) 2, .moved x (1 + m + 2), st2, ?_, ⟨⟨⟨⟨wx, by omega, by omega⟩, by omega, by omega⟩, ⟨sx, by omega⟩, by omega⟩, by simp only [Cal.ht]; omega⟩, ⟨⟨⟨wx, by omega, by omega⟩, sx, by omega⟩, by simp only [Cal.ht]; omega⟩, fun t => by simp only [Cal.has]; congr 1; omega, S2⟩
    simp only [fn_law_otherwise, E_nm, E_ct, E_gl, E_tup, E_bop, E_neg, E_not, E_and, E_or, E_cmp, E_chn, E_ite, E_ix, E_sl, E_call, E_bi, E_me, E_al, E_st, T_and, T_or, T_not, T_nm, T_cmp, T_chn, T_ix, T_call, T_bi,
 Es_nil, Es_cons, P_none, P_some, A_lst, A_ba, A_rv, A_dic, D_nil, D_cons, C_none, C_some, I_sq, I_rg, I_zp, S_asg, S_par, S_ret, S_ifs, S_ex, S_for, S_retn, S_brk, S_cnt, S_pas, S_setx, Ss_nil, Ss_cons,
 bnd_some, obd_some, cnd_some, ifT_some, bnd_cond, ifT_cond, seq_nx, seq_rt, seq_bk, seq_ct, seq_cond, res_nx, res_rt, res_cond, slot_v, slot_own, cAnd, cOr, cAndT, cOrT, fixR_d, fixR_l,
 B_add, B_sub, C_lt, C_le, C_gt, C_ge, C_eqI, C_neI, C_eqS, C_neS, C_eqB, C_neB, C_isNN, C_isIN, C_isTN, C_isnNN, C_isnIN, R_b, R_i, X_t, X_l, at0, at1, at2, at3, tup1, tup2, tup3, tup4,
 biInt, biAbs, biMin2, biLenL, biLenT, biTupL, str_inj, asg_d, asg_l, asgs_nil, asgs_cons, mapNm,
 gz, gs, sz, ss, mc, mn, ac, an, rc, rz, om, Nat.sub_self, Nat.reduceSub, Nat.reduceAdd, reduceCtorEq, String.reduceEq, decide_true, decide_false, cond_true, cond_false, Bool.not_true, Bool.not_false, Bool.true_and, Bool.false_and, Bool.and_true, Bool.and_false, Bool.or_true, Bool.or_false, Bool.true_or, Bool.false_or, Bool.not_not, c1, c2, Cal.d, Int.reduceEq]
  · refine ⟨.both (.common x y) (.without x y), x, st2, ?_, ⟨⟨⟨⟨wx, wy⟩, wx, wy⟩, ⟨sx, sy⟩, sx, sy⟩, by simp only [Cal.ht]; omega⟩, ⟨⟨wx, sx⟩, by omega⟩, fun t => by simp only [Cal.has]; cases x.has t <;> cases y.has t <;> rfl, S2⟩
    simp only [fn_law_otherwise, E_nm, E_ct, E_gl, E_tup, E_bop, E_neg, E_not, E_and, E_or, E_cmp, E_chn, E_ite, E_ix, E_sl, E_call, E_bi, E_me, E_al, E_st, T_and, T_or, T_not, T_nm, T_cmp, T_chn, T_ix, T_call, T_bi,
 Es_nil, Es_cons, P_none, P_some, A_lst, A_ba, A_rv, A_dic, D_nil, D_cons, C_none, C_some, I_sq, I_rg, I_zp, S_asg, S_par, S_ret, S_ifs, S_ex, S_for, S_retn, S_brk, S_cnt, S_pas, S_setx, Ss_nil, Ss_cons,
 bnd_some, obd_some, cnd_some, ifT_some, bnd_cond, ifT_cond, seq_nx, seq_rt, seq_bk, seq_ct, seq_cond, res_nx, res_rt, res_cond, slot_v, slot_own, cAnd, cOr, cAndT, cOrT, fixR_d, fixR_l,
 B_add, B_sub, C_lt, C_le, C_gt, C_ge, C_eqI, C_neI, C_eqS, C_neS, C_eqB, C_neB, C_isNN, C_isIN, C_isTN, C_isnNN, C_isnIN, R_b, R_i, X_t, X_l, at0, at1, at2, at3, tup1, tup2, tup3, tup4,
 biInt, biAbs, biMin2, biLenL, biLenT, biTupL, str_inj, asg_d, asg_l, asgs_nil, asgs_cons, mapNm,
 gz, gs, sz, ss, mc, mn, ac, an, rc, rz, om, Nat.sub_self, Nat.reduceSub, Nat.reduceAdd, reduceCtorEq, String.reduceEq, decide_true, decide_false, cond_true, cond_false, Bool.not_true, Bool.not_false, Bool.true_and, Bool.false_and, Bool.and_true, Bool.and_false, Bool.or_true, Bool.or_false, Bool.true_or, Bool.false_or, Bool.not_not, c1, c2, Cal.d, Int.reduceEq]
  · obtain ⟨n, st3, p3, S3, n0, n1⟩ := pick_spec (most := 3) S2 hw (k := k) (by omega) (by decide)
    obtain ⟨s, st4, p4, S4, s0, s1⟩ := pick_spec (most := 6) S3 hw (k := k) (by omega) (by decide)
    have c3 := fun e => callX_of (cl := evCall prog w k) (f := i_law_pick) (xs := [.l 1, .d (.int 3)]) (e := e) rfl p3
    have c4 := fun e => callX_of (cl := evCall prog w k) (f := i_law_pick) (xs := [.l 1, .d (.int 6)]) (e := e) rfl p4
    have k3 : 1 + n = 1 ∨ 1 + n = 2 ∨ 1 + n = 3 := by omega
    have s2 : small 2 = true := by decide
    have b1 := fun e s j => B_mul1 (e := e) (s := s) (j := j) s2
    obtain ⟨kk, hkk⟩ : ∃ kk, 1 + n = kk := ⟨_, rfl⟩
    rw [hkk] at k3
    refine ⟨.every kk s none, .both (.every (2 * kk) s none) (.every (2 * kk) (s + kk) none), st4, ?_, ⟨⟨⟨?_, by omega, by omega, fun i hi => by cases hi⟩, by omega, fun i hi => by cases hi⟩, by simp only [Cal.ht]; omega⟩,
      ⟨⟨⟨⟨?_, by omega, by omega, fun i hi => by cases hi⟩, ?_, by omega, by omega, fun i hi => by cases hi⟩, ⟨by omega, fun i hi => by cases hi⟩, by omega, fun i hi => by cases hi⟩, by simp only [Cal.ht]; omega⟩, fun t => ?_, S4⟩
    · simp only [fn_law_otherwise, E_nm, E_ct, E_gl, E_tup, E_bop, E_neg, E_not, E_and, E_or, E_cmp, E_chn, E_ite, E_ix, E_sl, E_call, E_bi, E_me, E_al, E_st, T_and, T_or, T_not, T_nm, T_cmp, T_chn, T_ix, T_call, T_bi,
 Es_nil, Es_cons, P_none, P_some, A_lst, A_ba, A_rv, A_dic, D_nil, D_cons, C_none, C_some, I_sq, I_rg, I_zp, S_asg, S_par, S_ret, S_ifs, S_ex, S_for, S_retn, S_brk, S_cnt, S_pas, S_setx, Ss_nil, Ss_cons,
 bnd_some, obd_some, cnd_some, ifT_some, bnd_cond, ifT_cond, seq_nx, seq_rt, seq_bk, seq_ct, seq_cond, res_nx, res_rt, res_cond, slot_v, slot_own, cAnd, cOr, cAndT, cOrT, fixR_d, fixR_l,
 B_add, B_sub, C_lt, C_le, C_gt, C_ge, C_eqI, C_neI, C_eqS, C_neS, C_eqB, C_neB, C_isNN, C_isIN, C_isTN, C_isnNN, C_isnIN, R_b, R_i, X_t, X_l, at0, at1, at2, at3, tup1, tup2, tup3, tup4,
 biInt, biAbs, biMin2, biLenL, biLenT, biTupL, str_inj, asg_d, asg_l, asgs_nil, asgs_cons, mapNm,
 gz, gs, sz, ss, mc, mn, ac, an, rc, rz, om, Nat.sub_self, Nat.reduceSub, Nat.reduceAdd, reduceCtorEq, String.reduceEq, decide_true, decide_false, cond_true, cond_false, Bool.not_true, Bool.not_false, Bool.true_and, Bool.false_and, Bool.and_true, Bool.and_false, Bool.or_true, Bool.or_false, Bool.true_or, Bool.false_or, Bool.not_not, c1, c2, c3, c4, hkk, b1, Cal.d, optD, Int.reduceEq]
    · rcases k3 with rfl | rfl | rfl
      · exact ⟨1, rfl, by decide, by decide⟩
      · exact ⟨2, rfl, by decide, by decide⟩
      · exact ⟨3, rfl, by decide, by decide⟩
    · rcases k3 with rfl | rfl | rfl
      · exact ⟨2, rfl, by decide, by decide⟩
      · exact ⟨4, rfl, by decide, by decide⟩
      · exact ⟨6, rfl, by decide, by decide⟩
    · rcases k3 with rfl | rfl | rfl
      · exact ⟨2, rfl, by decide, by decide⟩
      · exact ⟨4, rfl, by decide, by decide⟩
      · exact ⟨6, rfl, by decide, by decide⟩
    · simp only [Cal.has, leO, Bool.and_true]
      exact two_is k3
  · refine ⟨.both x (.common x y), .common x (.both x y), st2, ?_, ⟨⟨⟨wx, wx, wy⟩, sx, sx, sy⟩, by simp only [Cal.ht]; omega⟩, ⟨⟨⟨wx, wx, wy⟩, sx, sx, sy⟩, by simp only [Cal.ht]; omega⟩, fun t => by simp only [Cal.has]; cases x.has t <;> cases y.has t <;> rfl, S2⟩
    simp only [fn_law_otherwise, E_nm, E_ct, E_gl, E_tup, E_bop, E_neg, E_not, E_and, E_or, E_cmp, E_chn, E_ite, E_ix, E_sl, E_call, E_bi, E_me, E_al, E_st, T_and, T_or, T_not, T_nm, T_cmp, T_chn, T_ix, T_call, T_bi,
 Es_nil, Es_cons, P_none, P_some, A_lst, A_ba, A_rv, A_dic, D_nil, D_cons, C_none, C_some, I_sq, I_rg, I_zp, S_asg, S_par, S_ret, S_ifs, S_ex, S_for, S_retn, S_brk, S_cnt, S_pas, S_setx, Ss_nil, Ss_cons,
 bnd_some, obd_some, cnd_some, ifT_some, bnd_cond, ifT_cond, seq_nx, seq_rt, seq_bk, seq_ct, seq_cond, res_nx, res_rt, res_cond, slot_v, slot_own, cAnd, cOr, cAndT, cOrT, fixR_d, fixR_l,
 B_add, B_sub, C_lt, C_le, C_gt, C_ge, C_eqI, C_neI, C_eqS, C_neS, C_eqB, C_neB, C_isNN, C_isIN, C_isTN, C_isnNN, C_isnIN, R_b, R_i, X_t, X_l, at0, at1, at2, at3, tup1, tup2, tup3, tup4,
 biInt, biAbs, biMin2, biLenL, biLenT, biTupL, str_inj, asg_d, asg_l, asgs_nil, asgs_cons, mapNm,
 gz, gs, sz, ss, mc, mn, ac, an, rc, rz, om, Nat.sub_self, Nat.reduceSub, Nat.reduceAdd, reduceCtorEq, String.reduceEq, decide_true, decide_false, cond_true, cond_false, Bool.not_true, Bool.not_false, Bool.true_and, Bool.false_and, Bool.and_true, Bool.and_false, Bool.or_true, Bool.or_false, Bool.true_or, Bool.false_or, Bool.not_not, c1, c2, Cal.d, Int.reduceEq]
end K52

namespace K52
open PySem EV L2

theorem lcGo_invD {f : Ev X} {cs : List D} {cl : Nat → List X → Sto → Option (X × Sto)} {i : Nat} {env : Lo} (I : Sto → Prop) (R : Cal → Prop) (hf : ∀ x st, I st → ∃ c st', f (env.set i (.v x)) st = some (.d (Cal.d c), env.set i (.v x), st') ∧ R c ∧ I st') :
    ∀ (xs : List X) (e0 : Slot) (st : Sto), (∀ x ∈ xs, x.isO = false) → I st → ∃ (zs : List Cal) (y : Slot) (st' : Sto), lcGo f (evC cs cl none) (.nm i) [i] xs (env.set i e0) st = some (zs.map (fun z => .d z.d), env.set i y, st') ∧ (∀ z ∈ zs, R z) ∧ I st' ∧ zs.length = xs.length
  | [], e0, st, _, h => ⟨[], e0, st, rfl, (fun z hz => by cases hz), h, rfl⟩
  | x :: r, e0, st, ho, h => by
    obtain ⟨z, st1, h1, h2, h3⟩ := hf x st h
    obtain ⟨zs, y, st2, h4, h5, h6, h7⟩ := lcGo_invD I R hf r (.v x) st1 (fun x hx => ho x (List.mem_cons_of_mem _ hx)) h3
    refine ⟨z :: zs, y, st2, ?_, fun y hy => ?_, h6, by simp [h7]⟩
    · rw [lcGo]
      have ha : asgT (.nm i) x (wipeL (env.set i e0) [i]) = some (env.set i (.v x)) := by
        simp only [asgT, ho x List.mem_cons_self, wipeL, List.set_set]
        rfl
      rw [ha]
      simp only
      rw [C_none]
      simp only
      rw [h1]
      simp only [X.isO, Bool.false_eq_true, if_false]
      rw [h4]
      rfl
    · rcases List.mem_cons.mp hy with rfl | hy
      · exact h2
      · exact h5 y hy
theorem lc_drawC {cs : List D} {cl : Nat → List X → Sto → Option (X × Sto)} {x : E} {i : Nat} {it : EV.It} {env : Lo} {st st1 : Sto} {ns : List Int} (I : Sto → Prop) (R : Cal → Prop) (hit : evIt cs cl it env st = some (ns.map fun t => .d (.int t), env, st1)) (hi : i < env.length) (hno : noOwn env [i] = true) (hl : ns.length ≤ sizeLine) (h1 : I st1)
    (hf : ∀ y st, I st → ∃ c st', evE cs cl x (env.set i (.v y)) st = some (.d (Cal.d c), env.set i (.v y), st') ∧ R c ∧ I st') :
    ∃ (zs : List Cal) (st' : Sto), evA cs cl (.lc x (.nm i) it none [i]) env st = some (.lst ((zs.map Cal.d).map .d), env, st') ∧ (∀ z ∈ zs, R z) ∧ I st' ∧ zs.length = ns.length := by
  obtain ⟨zs, y, st', h2, h3, h4, h5⟩ := lcGo_invD (cs := cs) (cl := cl) (i := i) (env := env) I R hf (ns.map fun t => .d (.int t)) env[i] st1 (fun x hx => by
    obtain ⟨n, _, rfl⟩ := List.mem_map.mp hx
    rfl) h1
  refine ⟨zs, st', ?_, h3, h4, by simpa using h5⟩
  have hl' : (ns.map fun t => X.d (.int t)).length ≤ sizeLine := by simpa using hl
  rw [A_lc, hit]
  simp only [bnd_some, hno, hl', decide_true, Bool.and_self, if_true]
  rw [set_self hi] at h2
  rw [h2]
  simp only [bnd_some, restL, List.getElem?_eq_getElem hi, List.set_set, set_self hi, List.map_map]
  rfl
theorem sl13 {e : Lo} {s : Sto} {a b c d : D} : slX e s (.d (.tuple [a, b, c, d])) (some 1) (some 3) = some (.tuple [b, c]) := by
  simp [slX, cutD, HT.sIx]
theorem C_neII {e : Lo} {s : Sto} {a b : Int} : cmpX e s .ne (.d (.tuple [.int a, .int b])) (.d (.tuple [.int a, .int b])) = some false := by
  have := C_neT (e := e) (s := s) (as := [a, b]) (bs := [a, b])
  simpa using this
def BODYP : List S := [.par [14, 15] [.call i_law_plain [.nm 12], .call i_law_plain [.nm 13]],
    .asg (.nm 16) (.call i_first_unlike [.nm 12, .nm 13]),
    .ifs (.or (.cmp .ne (.call i_plain_calendar [.nm 12]) (.nm 14)) (.or (.cmp .ne (.call i_plain_calendar [.nm 13]) (.nm 15)) (.cmp .ne (.cmp .is (.nm 16) (.ct .none)) (.cmp .eq (.nm 14) (.nm 15))))) [.ret (.ct (.bool false))] [],
    .ifs (.and (.cmp .isn (.nm 16) (.ct .none)) (.cmp .eq (.call i_has_time [.nm 12, .nm 16]) (.call i_has_time [.nm 13, .nm 16]))) [.ret (.ct (.bool false))] [],
    .ifs (.and (.cmp .isn (.nm 16) (.ct .none)) (.cmp .eq (.call i_law_has [.nm 12, .nm 16]) (.call i_law_has [.nm 13, .nm 16]))) [.ret (.ct (.bool false))] [],
    .ifs (.and (.cmp .isn (.nm 16) (.ct .none)) (.cmp .ne (.call i_times_in [.nm 12, .ct (.int 0), .nm 16]) (.call i_times_in [.nm 13, .ct (.int 0), .nm 16]))) [.ret (.ct (.bool false))] [],
    .ifs (.or (.cmp .ne (.call i_is_endless [.nm 12]) (.cmp .ne (.ix (.nm 14) (.ct (.int 3))) (.tup []))) (.cmp .ne (.call i_repeats [.nm 12]) (.sl (.nm 14) (some (.ct (.int 1))) (some (.ct (.int 3)))))) [.ret (.ct (.bool false))] []]
section
variable {w k : Nat} {st : Sto} {rest : Sto} {o : Nat → Option X} {A : Slot} {sl : Nat → Slot}
theorem stepP (hw : 300000 < w) (hk : 40 < k) {a b : Cal} (ha : a.wf) (hb : b.wf) (h1 : a.ht ≤ 30) (h2 : b.ht ≤ 30) :
    ∃ y14 y15 y16 : X, evSs prog.cs (evCall prog w k) w BODYP [sl 0, sl 1, sl 2, sl 3, sl 4, sl 5, sl 6, sl 7, sl 8, sl 9, sl 10, sl 11, .v (.d a.d), .v (.d b.d), sl 14, sl 15, sl 16, sl 17] st = some (.nx, [sl 0, sl 1, sl 2, sl 3, sl 4, sl 5, sl 6, sl 7, sl 8, sl 9, sl 10, sl 11, .v (.d a.d), .v (.d b.d), .v y14, .v y15, .v y16, sl 17], st) := by
  have ta := ha.tl
  have tb := hb.tl
  obtain ⟨q, hq, hqm, p1⟩ := plain_spec st hw (k := k) ha (by omega) (by omega)
  obtain ⟨r, hr, hrm, p2⟩ := plain_spec st hw (k := k) hb (by omega) (by omega)
  obtain ⟨q', hq', _, p3⟩ := lp_spec (w := w) st (k := k) ha (by omega) (by omega)
  obtain ⟨r', hr', _, p4⟩ := lp_spec (w := w) st (k := k) hb (by omega) (by omega)
  rw [← plain_same ha hq hq'] at p3
  rw [← plain_same hb hr hr'] at p4
  obtain ⟨q2, hq2, _, p5⟩ := rep_spec st hw (k := k) ha (by omega) (by omega)
  rw [← IsQ.uniq ha.pd.1 (Nat.dvd_refl _) hq hq2] at p5
  have c1 := fun e => callX_of (cl := evCall prog w k) (f := i_plain_calendar) (xs := [.d a.d]) (e := e) rfl p1
  have c2 := fun e => callX_of (cl := evCall prog w k) (f := i_plain_calendar) (xs := [.d b.d]) (e := e) rfl p2
  have c3 := fun e => callX_of (cl := evCall prog w k) (f := i_law_plain) (xs := [.d a.d]) (e := e) rfl p3
  have c4 := fun e => callX_of (cl := evCall prog w k) (f := i_law_plain) (xs := [.d b.d]) (e := e) rfl p4
  have c5 := fun e => callX_of (cl := evCall prog w k) (f := i_repeats) (xs := [.d a.d]) (e := e) rfl p5
  have c6 := fun e => callX_of (cl := evCall prog w k) (f := i_is_endless) (xs := [.d a.d]) (e := e) rfl (endless_spec st hw (k := k) ha (by omega) (by omega) hq)
  have c7 := fun e => callX_of (cl := evCall prog w k) (f := i_first_unlike) (xs := [.d a.d, .d b.d]) (e := e) rfl (unl_spec st (by omega : 420 < w) (k := k) ha hb (by omega) (by omega) (by omega) (by omega))
  have ix3 : ∀ e s, ixX e s (.d (plainD a q)) (.d (.int 3)) = some (.d (.tuple ((rests a q).map .int))) := fun e s => by
    rw [plain_eq, X_t, at3]
    rfl
  have s13 : ∀ e s, slX e s (.d (plainD a q)) (some 1) (some 3) = some (.tuple [.int (down a.has q a.tl.toNat : Nat), .int q]) := fun e s => by
    rw [plain_eq, sl13]
  rcases unl_is ha hb with ⟨u, a1, a2, a3, a4, a5⟩ | ⟨a1, a2⟩
  · have hne : decide (PT a q = PT b r) = false := decide_eq_false fun z => a4 (has_ext ha hb hq hr z u a2)
    have hne2 : (a.has u == b.has u) = false := by
      cases h : a.has u == b.has u with
      | false => rfl
      | true => exact absurd (eq_of_beq h) a4
    have l := lcm420 ha hb
    have hm := mx_lt (i := a.tl) (j := b.tl) (k := 300000) (by omega) (by omega)
    have c8 := fun e => callX_of (cl := evCall prog w k) (f := i_has_time) (xs := [.d a.d, .d (.int u)]) (e := e) rfl (has_spec w st a k u ha.ok (by omega))
    have c9 := fun e => callX_of (cl := evCall prog w k) (f := i_has_time) (xs := [.d b.d, .d (.int u)]) (e := e) rfl (has_spec w st b k u hb.ok (by omega))
    have d8 := fun e => callX_of (cl := evCall prog w k) (f := i_law_has) (xs := [.d a.d, .d (.int u)]) (e := e) rfl (lhas_spec w st a k u ha.ok (by omega))
    have d9 := fun e => callX_of (cl := evCall prog w k) (f := i_law_has) (xs := [.d b.d, .d (.int u)]) (e := e) rfl (lhas_spec w st b k u hb.ok (by omega))
    have e8 := fun e => callX_of (cl := evCall prog w k) (f := i_times_in) (xs := [.d a.d, .d (.int 0), .d (.int u)]) (e := e) rfl (times_spec w st (k := k) (lo := 0) (hi := u) ha.ok (by omega) (ok62_of (by decide) (by decide)) (ok62_of a2 (by omega)) (by omega))
    have e9 := fun e => callX_of (cl := evCall prog w k) (f := i_times_in) (xs := [.d b.d, .d (.int 0), .d (.int u)]) (e := e) rfl (times_spec w st (k := k) (lo := 0) (hi := u) hb.ok (by omega) (ok62_of (by decide) (by decide)) (ok62_of a2 (by omega)) (by omega))
    have ets : decide (a.ts 0 u = b.ts 0 u) = true := decide_eq_true (filter_ext fun t ht => by
      have := mem_rgI.mp ht
      exact a5 t (by omega) (by omega))
    have bff : (false == false) = true := rfl
    rw [a1] at c7
    refine ⟨.d (plainD a q), .d (plainD b r), .d (.int u), ?_⟩
    simp only [BODYP, E_nm, E_ct, E_gl, E_tup, E_bop, E_neg, E_not, E_and, E_or, E_cmp, E_chn, E_ite, E_ix, E_sl, E_call, E_bi, E_me, E_al, E_st, T_and, T_or, T_not, T_nm, T_cmp, T_chn, T_ix, T_call, T_bi,
 Es_nil, Es_cons, P_none, P_some, A_lst, A_ba, A_rv, A_dic, D_nil, D_cons, C_none, C_some, I_sq, I_rg, I_zp, S_asg, S_par, S_ret, S_ifs, S_ex, S_for, S_retn, S_brk, S_cnt, S_pas, S_setx, Ss_nil, Ss_cons,
 bnd_some, obd_some, cnd_some, ifT_some, bnd_cond, ifT_cond, seq_nx, seq_rt, seq_bk, seq_ct, seq_cond, res_nx, res_rt, res_cond, slot_v, slot_own, cAnd, cOr, cAndT, cOrT, fixR_d, fixR_l,
 B_add, B_sub, C_lt, C_le, C_gt, C_ge, C_eqI, C_neI, C_eqS, C_neS, C_eqB, C_neB, C_isNN, C_isIN, C_isTN, C_isnNN, C_isnIN, R_b, R_i, X_t, X_l, at0, at1, at2, at3, tup1, tup2, tup3, tup4,
 biInt, biAbs, biMin2, biLenL, biLenT, biTupL, str_inj, asg_d, asg_l, asgs_nil, asgs_cons, mapNm,
 gz, gs, sz, ss, mc, mn, ac, an, rc, rz, om, Nat.sub_self, Nat.reduceSub, Nat.reduceAdd, reduceCtorEq, String.reduceEq, decide_true, decide_false, cond_true, cond_false, Bool.not_true, Bool.not_false, Bool.true_and, Bool.false_and, Bool.and_true, Bool.and_false, Bool.or_true, Bool.or_false, Bool.true_or, Bool.false_or, Bool.not_not, c1, c2, c3, c4, c7, optD, C_neP, C_eqP, eq_self, hne, bff, c8, c9, hne2, d8, d9, e8, e9, C_neT, ets, c6, ix3, tup0, C_neNilT, beq_self_eq_true, c5, s13, C_neII]
  · have heq : decide (PT a q = PT b r) = true := decide_eq_true (plain_ext ha hb hq hr a2)
    have btt : (true == true) = true := rfl
    rw [a1] at c7
    refine ⟨.d (plainD a q), .d (plainD b r), .d .none, ?_⟩
    simp only [BODYP, E_nm, E_ct, E_gl, E_tup, E_bop, E_neg, E_not, E_and, E_or, E_cmp, E_chn, E_ite, E_ix, E_sl, E_call, E_bi, E_me, E_al, E_st, T_and, T_or, T_not, T_nm, T_cmp, T_chn, T_ix, T_call, T_bi,
 Es_nil, Es_cons, P_none, P_some, A_lst, A_ba, A_rv, A_dic, D_nil, D_cons, C_none, C_some, I_sq, I_rg, I_zp, S_asg, S_par, S_ret, S_ifs, S_ex, S_for, S_retn, S_brk, S_cnt, S_pas, S_setx, Ss_nil, Ss_cons,
 bnd_some, obd_some, cnd_some, ifT_some, bnd_cond, ifT_cond, seq_nx, seq_rt, seq_bk, seq_ct, seq_cond, res_nx, res_rt, res_cond, slot_v, slot_own, cAnd, cOr, cAndT, cOrT, fixR_d, fixR_l,
 B_add, B_sub, C_lt, C_le, C_gt, C_ge, C_eqI, C_neI, C_eqS, C_neS, C_eqB, C_neB, C_isNN, C_isIN, C_isTN, C_isnNN, C_isnIN, R_b, R_i, X_t, X_l, at0, at1, at2, at3, tup1, tup2, tup3, tup4,
 biInt, biAbs, biMin2, biLenL, biLenT, biTupL, str_inj, asg_d, asg_l, asgs_nil, asgs_cons, mapNm,
 gz, gs, sz, ss, mc, mn, ac, an, rc, rz, om, Nat.sub_self, Nat.reduceSub, Nat.reduceAdd, reduceCtorEq, String.reduceEq, decide_true, decide_false, cond_true, cond_false, Bool.not_true, Bool.not_false, Bool.true_and, Bool.false_and, Bool.and_true, Bool.and_false, Bool.or_true, Bool.or_false, Bool.true_or, Bool.false_or, Bool.not_not, c1, c2, c3, c4, c7, optD, C_neP, C_eqP, eq_self, heq, btt, c6, ix3, tup0, C_neNilT, beq_self_eq_true, c5, s13, C_neII]
end
end K52

namespace K52
open PySem EV L2

theorem own_sv {e : Lo} {i : Nat} {y : Option X} (h : e[i]? = some (sv y)) : noOwn e [i] = true := by
  unfold noOwn
  cases y <;> simp [h, sv]
def BODY : List S := [.asg (.nm 3) (.al (.lc (.call i_law_draw_wide_calendar [.nm 1, .ct (.int 1)]) (.nm 17) (.rg [.ct (.int 3)]) none [17])),
    .asg (.tup [.nm 4, .nm 5]) (.call i_law_otherwise [.nm 1, .ix (.nm 3) (.ct (.int 0)), .ix (.nm 3) (.ct (.int 1)), .ix (.nm 3) (.ct (.int 2))]),
    .ifs (.or (.cmp .ne (.call i_plain_calendar [.nm 4]) (.call i_law_plain [.nm 4])) (.cmp .ne (.call i_plain_calendar [.nm 5]) (.call i_plain_calendar [.nm 4]))) [.ret (.ct (.bool false))] [],
    .ifs (.cmp .isn (.call i_first_unlike [.nm 4, .nm 5]) (.ct .none)) [.ret (.ct (.bool false))] [],
    .asg (.tup [.nm 6, .nm 7, .nm 8, .nm 9]) (.call i_law_plain [.nm 4]),
    .asg (.nm 10) (.and (.cmp .le (.bi .len [.nm 6]) (.ct (.int 60))) (.cmp .le (.bop .mul (.bi .len [.nm 9]) (.nm 8)) (.ct (.int 600)))),
    .ifs (.and (.nm 10) (.cmp .isn (.call i_first_unlike [.call i_calendar_of [.tup [.nm 6, .nm 7, .nm 8, .nm 9]], .nm 5]) (.ct .none))) [.ret (.ct (.bool false))] [],
    .asg (.nm 11) (.al (.lst [.tup [.ix (.nm 3) (.ct (.int 0)), .ix (.nm 3) (.ct (.int 1))], .tup [.nm 4, .ix (.nm 3) (.ct (.int 2))], .tup [.ix (.nm 3) (.ct (.int 1)), .tup [.ct (.str "without"), .ix (.nm 3) (.ct (.int 1)), .tup [.ct (.str "list"), .tup [.ct (.int 11)]]]]])),
    .for (.tup [.nm 12, .nm 13]) (.sq (.nm 11)) BODYP]
theorem law_body : fn_law.body = [.asg (.nm 1) (.call i_law_open_cells [.nm 0]), .for (.nm 2) (.rg [.ct (.int 2)]) BODY, .ret (.ct (.bool true))] := rfl
theorem itL {ds : List D} : itX (.d (.list ds)) = some (ds.map .d) := of_eq_true (eq_self _)
section
variable {w k : Nat} {st : Sto} {rest : Sto} {o : Nat → Option X} {A : Slot} {sl : Nat → Slot}
theorem turnP (hw : 300000 < w) (hk : 40 < k) {a b : Cal} {r : List X} {p q t u v : Slot} (ha : a.wf) (hb : b.wf) (h1 : a.ht ≤ 30) (h2 : b.ht ≤ 30) :
    ∃ y14 y15 y16 : X, forGo (evSs prog.cs (evCall prog w k) w BODYP) (.tup [.nm 12, .nm 13]) (.d (.tuple [a.d, b.d]) :: r) [sl 0, sl 1, sl 2, sl 3, sl 4, sl 5, sl 6, sl 7, sl 8, sl 9, sl 10, sl 11, p, q, t, u, v, sl 17] st =
      forGo (evSs prog.cs (evCall prog w k) w BODYP) (.tup [.nm 12, .nm 13]) r [sl 0, sl 1, sl 2, sl 3, sl 4, sl 5, sl 6, sl 7, sl 8, sl 9, sl 10, sl 11, .v (.d a.d), .v (.d b.d), .v y14, .v y15, .v y16, sl 17] st := by
  obtain ⟨y14, y15, y16, h⟩ := stepP (w := w) (k := k) (st := st) (a := a) (b := b) (sl := fun i => match i with | 14 => t | 15 => u | 16 => v | i => sl i) hw hk ha hb h1 h2
  have h' : evSs prog.cs (evCall prog w k) w BODYP [sl 0, sl 1, sl 2, sl 3, sl 4, sl 5, sl 6, sl 7, sl 8, sl 9, sl 10, sl 11, .v (.d a.d), .v (.d b.d), t, u, v, sl 17] st = some (.nx, [sl 0, sl 1, sl 2, sl 3, sl 4, sl 5, sl 6, sl 7, sl 8, sl 9, sl 10, sl 11, .v (.d a.d), .v (.d b.d), .v y14, .v y15, .v y16, sl 17], st) := h
  refine ⟨y14, y15, y16, ?_⟩
  rw [forGo]
  simp only [E_nm, E_ct, E_gl, E_tup, E_bop, E_neg, E_not, E_and, E_or, E_cmp, E_chn, E_ite, E_ix, E_sl, E_call, E_bi, E_me, E_al, E_st, T_and, T_or, T_not, T_nm, T_cmp, T_chn, T_ix, T_call, T_bi,
 Es_nil, Es_cons, P_none, P_some, A_lst, A_ba, A_rv, A_dic, D_nil, D_cons, C_none, C_some, I_sq, I_rg, I_zp, S_asg, S_par, S_ret, S_ifs, S_ex, S_for, S_retn, S_brk, S_cnt, S_pas, S_setx, Ss_nil, Ss_cons,
 bnd_some, obd_some, cnd_some, ifT_some, bnd_cond, ifT_cond, seq_nx, seq_rt, seq_bk, seq_ct, seq_cond, res_nx, res_rt, res_cond, slot_v, slot_own, cAnd, cOr, cAndT, cOrT, fixR_d, fixR_l,
 B_add, B_sub, C_lt, C_le, C_gt, C_ge, C_eqI, C_neI, C_eqS, C_neS, C_eqB, C_neB, C_isNN, C_isIN, C_isTN, C_isnNN, C_isnIN, R_b, R_i, X_t, X_l, at0, at1, at2, at3, tup1, tup2, tup3, tup4,
 biInt, biAbs, biMin2, biLenL, biLenT, biTupL, str_inj, asg_d, asg_l, asgs_nil, asgs_cons, mapNm,
 gz, gs, sz, ss, mc, mn, ac, an, rc, rz, om, Nat.sub_self, Nat.reduceSub, Nat.reduceAdd, reduceCtorEq, String.reduceEq, decide_true, decide_false, cond_true, cond_false, Bool.not_true, Bool.not_false, Bool.true_and, Bool.false_and, Bool.and_true, Bool.and_false, Bool.or_true, Bool.or_false, Bool.true_or, Bool.false_or, Bool.not_not, asg_t]
  rw [h']
theorem loopP (hw : 300000 < w) (hk : 40 < k) {a b c d e f : Cal} (ha : a.wf) (hb : b.wf) (hc : c.wf) (hd : d.wf) (he : e.wf) (hf : f.wf) (h1 : a.ht ≤ 30) (h2 : b.ht ≤ 30) (h3 : c.ht ≤ 30) (h4 : d.ht ≤ 30) (h5 : e.ht ≤ 30) (h6 : f.ht ≤ 30) :
    ∃ y14 y15 y16 : X, forGo (evSs prog.cs (evCall prog w k) w BODYP) (.tup [.nm 12, .nm 13]) [.d (.tuple [a.d, b.d]), .d (.tuple [c.d, d.d]), .d (.tuple [e.d, f.d])] [sl 0, sl 1, sl 2, sl 3, sl 4, sl 5, sl 6, sl 7, sl 8, sl 9, sl 10, sl 11, sl 12, sl 13, sl 14, sl 15, sl 16, sl 17] st =
      some (.nx, [sl 0, sl 1, sl 2, sl 3, sl 4, sl 5, sl 6, sl 7, sl 8, sl 9, sl 10, sl 11, .v (.d e.d), .v (.d f.d), .v y14, .v y15, .v y16, sl 17], st) := by
  obtain ⟨x1, x2, x3, g1⟩ := turnP (w := w) (k := k) (st := st) (sl := sl) (a := a) (b := b) (r := [.d (.tuple [c.d, d.d]), .d (.tuple [e.d, f.d])]) (p := sl 12) (q := sl 13) (t := sl 14) (u := sl 15) (v := sl 16) hw hk ha hb h1 h2
  obtain ⟨z1, z2, z3, g2⟩ := turnP (w := w) (k := k) (st := st) (sl := sl) (a := c) (b := d) (r := [.d (.tuple [e.d, f.d])]) (p := .v (.d a.d)) (q := .v (.d b.d)) (t := .v x1) (u := .v x2) (v := .v x3) hw hk hc hd h3 h4
  obtain ⟨u1, u2, u3, g3⟩ := turnP (w := w) (k := k) (st := st) (sl := sl) (a := e) (b := f) (r := []) (p := .v (.d c.d)) (q := .v (.d d.d)) (t := .v z1) (u := .v z2) (v := .v z3) hw hk he hf h5 h6
  exact ⟨u1, u2, u3, g1.trans (g2.trans (g3.trans rfl))⟩
theorem lap (hw : 300000 < w) (hk : 45 < k) (hs : Src rest st) : ∃ (o' : Nat → Option X) (st' : Sto), evSs prog.cs (evCall prog w k) w BODY [A, .v (.l 1), sv (o 2), sv (o 3), sv (o 4), sv (o 5), sv (o 6), sv (o 7), sv (o 8), sv (o 9), sv (o 10), sv (o 11), sv (o 12), sv (o 13), sv (o 14), sv (o 15), sv (o 16), sv (o 17)] st = some (.nx, [A, .v (.l 1), sv (o' 2), sv (o' 3), sv (o' 4), sv (o' 5), sv (o' 6), sv (o' 7), sv (o' 8), sv (o' 9), sv (o' 10), sv (o' 11), sv (o' 12), sv (o' 13), sv (o' 14), sv (o' 15), sv (o' 16), sv (o' 17)], st') ∧ Src rest st' := by
  have o3 := in62_ok (ok62_of (i := 3) (by omega) (by omega))
  obtain ⟨zs, st1, l1, z1, S1, z2⟩ := lc_drawC (cs := prog.cs) (cl := evCall prog w k) (st := st) (st1 := st) (env := [A, .v (.l 1), sv (o 2), sv (o 3), sv (o 4), sv (o 5), sv (o 6), sv (o 7), sv (o 8), sv (o 9), sv (o 10), sv (o 11), sv (o 12), sv (o 13), sv (o 14), sv (o 15), sv (o 16), sv (o 17)]) (x := .call i_law_draw_wide_calendar [.nm 1, .ct (.int 1)]) (i := 17) (it := .rg [.ct (.int 3)]) (ns := rgI 0 (3 : Int).toNat)
    (Src rest) (fun c => (c.wf ∧ c.sm) ∧ c.ht ≤ 1) (by simp only [E_nm, E_ct, E_gl, E_tup, E_bop, E_neg, E_not, E_and, E_or, E_cmp, E_chn, E_ite, E_ix, E_sl, E_call, E_bi, E_me, E_al, E_st, T_and, T_or, T_not, T_nm, T_cmp, T_chn, T_ix, T_call, T_bi,
 Es_nil, Es_cons, P_none, P_some, A_lst, A_ba, A_rv, A_dic, D_nil, D_cons, C_none, C_some, I_sq, I_rg, I_zp, S_asg, S_par, S_ret, S_ifs, S_ex, S_for, S_retn, S_brk, S_cnt, S_pas, S_setx, Ss_nil, Ss_cons,
 bnd_some, obd_some, cnd_some, ifT_some, bnd_cond, ifT_cond, seq_nx, seq_rt, seq_bk, seq_ct, seq_cond, res_nx, res_rt, res_cond, slot_v, slot_own, cAnd, cOr, cAndT, cOrT, fixR_d, fixR_l,
 B_add, B_sub, C_lt, C_le, C_gt, C_ge, C_eqI, C_neI, C_eqS, C_neS, C_eqB, C_neB, C_isNN, C_isIN, C_isTN, C_isnNN, C_isnIN, R_b, R_i, X_t, X_l, at0, at1, at2, at3, tup1, tup2, tup3, tup4,
 biInt, biAbs, biMin2, biLenL, biLenT, biTupL, str_inj, asg_d, asg_l, asgs_nil, asgs_cons, mapNm,
 gz, gs, sz, ss, mc, mn, ac, an, rc, rz, om, Nat.sub_self, Nat.reduceSub, Nat.reduceAdd, reduceCtorEq, String.reduceEq, decide_true, decide_false, cond_true, cond_false, Bool.not_true, Bool.not_false, Bool.true_and, Bool.false_and, Bool.and_true, Bool.and_false, Bool.or_true, Bool.or_false, Bool.true_or, Bool.false_or, Bool.not_not, rg1 o3]) (by show 17 < 18; decide) (own_sv (y := o 17) rfl) (by rw [len_rgI]; exact Nat.le_trans (m := 5) (by decide) (by decide)) hs
    (fun y st hst => by
      obtain ⟨c, st', p, h1, h2, S⟩ := draw_spec (w := w) (by omega) 1 hst (k := k) (by omega)
      have c1 := fun e => callX_of (cl := evCall prog w k) (f := i_law_draw_wide_calendar) (xs := [.l 1, .d (.int 1)]) (e := e) rfl p
      refine ⟨c, st', ?_, ⟨h1, h2⟩, S⟩
      simp only [E_nm, E_ct, E_gl, E_tup, E_bop, E_neg, E_not, E_and, E_or, E_cmp, E_chn, E_ite, E_ix, E_sl, E_call, E_bi, E_me, E_al, E_st, T_and, T_or, T_not, T_nm, T_cmp, T_chn, T_ix, T_call, T_bi,
 Es_nil, Es_cons, P_none, P_some, A_lst, A_ba, A_rv, A_dic, D_nil, D_cons, C_none, C_some, I_sq, I_rg, I_zp, S_asg, S_par, S_ret, S_ifs, S_ex, S_for, S_retn, S_brk, S_cnt, S_pas, S_setx, Ss_nil, Ss_cons,
 bnd_some, obd_some, cnd_some, ifT_some, bnd_cond, ifT_cond, seq_nx, seq_rt, seq_bk, seq_ct, seq_cond, res_nx, res_rt, res_cond, slot_v, slot_own, cAnd, cOr, cAndT, cOrT, fixR_d, fixR_l,
 B_add, B_sub, C_lt, C_le, C_gt, C_ge, C_eqI, C_neI, C_eqS, C_neS, C_eqB, C_neB, C_isNN, C_isIN, C_isTN, C_isnNN, C_isnIN, R_b, R_i, X_t, X_l, at0, at1, at2, at3, tup1, tup2, tup3, tup4,
 biInt, biAbs, biMin2, biLenL, biLenT, biTupL, str_inj, asg_d, asg_l, asgs_nil, asgs_cons, mapNm,
 gz, gs, sz, ss, mc, mn, ac, an, rc, rz, om, Nat.sub_self, Nat.reduceSub, Nat.reduceAdd, reduceCtorEq, String.reduceEq, decide_true, decide_false, cond_true, cond_false, Bool.not_true, Bool.not_false, Bool.true_and, Bool.false_and, Bool.and_true, Bool.and_false, Bool.or_true, Bool.or_false, Bool.true_or, Bool.false_or, Bool.not_not, c1])
  rw [len_rgI] at z2
  obtain ⟨x, y, z, rfl⟩ : ∃ x y z, zs = [x, y, z] := by
    match zs, z2 with
    | [x, y, z], _ => exact ⟨x, y, z, rfl⟩
  have hx := z1 x (by simp)
  have hy := z1 y (by simp)
  have hz := z1 z (by simp)
  obtain ⟨a, b, st2, p2, ga, gb, hab, S2⟩ := other_spec (w := w) (k := k) (by omega) S1 (by omega) hx hy hz
  have wa := ga.1.1
  have wb := gb.1.1
  have ha := ga.2
  have hb := gb.2
  obtain ⟨q, hq, hqm, p3⟩ := plain_spec st2 hw (k := k) wa (by omega) (by omega)
  obtain ⟨r, hr, hrm, p4⟩ := plain_spec st2 hw (k := k) wb (by omega) (by omega)
  obtain ⟨q', hq', _, p5⟩ := lp_spec (w := w) st2 (k := k) wa (by omega) (by omega)
  rw [← plain_same wa hq hq'] at p5
  have c2 := fun e => callX_of (cl := evCall prog w k) (f := i_law_otherwise) (xs := [.l 1, .d x.d, .d y.d, .d z.d]) (e := e) rfl p2
  have c3 := fun e => callX_of (cl := evCall prog w k) (f := i_plain_calendar) (xs := [.d a.d]) (e := e) rfl p3
  have c4 := fun e => callX_of (cl := evCall prog w k) (f := i_plain_calendar) (xs := [.d b.d]) (e := e) rfl p4
  have c5 := fun e => callX_of (cl := evCall prog w k) (f := i_law_plain) (xs := [.d a.d]) (e := e) rfl p5
  have hu : unl a b = none := (unl_none wa wb).mpr fun t _ => hab t
  have p6 := unl_spec st2 (by omega : 420 < w) (k := k) wa wb (by omega) (by omega) (by omega) (by omega)
  rw [hu] at p6
  have c6 := fun e => callX_of (cl := evCall prog w k) (f := i_first_unlike) (xs := [.d a.d, .d b.d]) (e := e) rfl p6
  have hpt : decide (PT a q = PT a q) = true := decide_eq_true rfl
  have hpt2 : decide (PT b r = PT a q) = true := decide_eq_true (plain_ext wb wa hr hq fun t _ => (hab t).symm)
  have htl : a.tl < 1000 := by
    have := ga.1.2.tl
    omega
  have hlen : (rests a q).length ≤ 420 := by
    unfold rests
    refine Nat.le_trans (List.length_filter_le _ _) ?_
    rw [len_rgI]
    exact hqm
  have b1 := fun e s j => B_mul1 (e := e) (s := s) (j := j) (small_of (i := ((rests a q).length : Int)) (by omega) (by omega))
  have c7 := fun e => callX_of (cl := evCall prog w k) (f := i_calendar_of) (xs := [.d (plainD a q)]) (e := e) rfl (calof_spec (w := w) (k := k) st2 (by omega) (c := a) (q := q))
  obtain ⟨sm, hsm⟩ : ∃ sm, (decide (((early a q).length : Int) ≤ 60) && decide (((rests a q).length : Int) * (q : Int) ≤ 600)) = sm := ⟨_, rfl⟩
  have c8 : sm = true → ∀ e, callX (evCall prog w k) i_first_unlike [.d (calOf a q).d, .d b.d] e st2 = some (.d .none, e, st2) := fun h e => by
    rw [h] at hsm
    simp only [Bool.and_eq_true, decide_eq_true_eq] at hsm
    have h2 : (rests a q).length * q ≤ 600 := by
      have := hsm.2
      have e1 : ((rests a q).length : Int) * (q : Int) = (((rests a q).length * q : Nat) : Int) := by push_cast; rfl
      omega
    obtain ⟨w1, w2⟩ := calof_wf wa htl hq hqm (by omega) h2
    have hn : unl (calOf a q) b = none := (unl_none w1 wb).mpr fun t ht => (calof_has wa hq ht).trans (hab t)
    have p8 := unl_spec st2 (by omega : 420 < w) (k := k) w1 wb (by omega) (by omega) (by omega) (by omega)
    rw [hn] at p8
    exact callX_of rfl p8
  have wl : (Cal.without y (.list [11])).wf := ⟨hy.1.1, by decide, fun t ht => by
    have : t = 11 := by simpa using ht
    omega⟩
  obtain ⟨y14, y15, y16, f1⟩ := loopP (w := w) (k := k) (st := st2) (a := x) (b := y) (c := a) (d := z) (e := y) (f := .without y (.list [11])) (sl := fun i => match i with | 0 => A | 1 => .v (.l 1) | 3 => .v (.d (.list [x.d, y.d, z.d])) | 4 => .v (.d a.d) | 5 => .v (.d b.d) | 6 => .v (.d (.tuple ((early a q).map .int))) | 7 => .v (.d (.int (down a.has q a.tl.toNat : Nat))) | 8 => .v (.d (.int q)) | 9 => .v (.d (.tuple ((rests a q).map .int))) | 10 => .v (.d (.bool sm)) | 11 => .v (.d (.list [.tuple [x.d, y.d], .tuple [a.d, z.d], .tuple [y.d, (Cal.without y (.list [11])).d]])) | i => sv (o i))
    hw (by omega) hx.1.1 hy.1.1 wa hz.1.1 hy.1.1 wl (by omega) (by omega) (by omega) (by omega) (by omega) (by simp only [Cal.ht]; omega)
  have f1' : forGo (evSs prog.cs (evCall prog w k) w BODYP) (.tup [.nm 12, .nm 13]) [.d (.tuple [x.d, y.d]), .d (.tuple [a.d, z.d]), .d (.tuple [y.d, (Cal.without y (.list [11])).d])] [A, .v (.l 1), sv (o 2), .v (.d (.list [x.d, y.d, z.d])), .v (.d a.d), .v (.d b.d), .v (.d (.tuple ((early a q).map .int))), .v (.d (.int (down a.has q a.tl.toNat : Nat))), .v (.d (.int q)), .v (.d (.tuple ((rests a q).map .int))), .v (.d (.bool sm)), .v (.d (.list [.tuple [x.d, y.d], .tuple [a.d, z.d], .tuple [y.d, (Cal.without y (.list [11])).d]])), sv (o 12), sv (o 13), sv (o 14), sv (o 15), sv (o 16), sv (o 17)] st2 =
      some (.nx, [A, .v (.l 1), sv (o 2), .v (.d (.list [x.d, y.d, z.d])), .v (.d a.d), .v (.d b.d), .v (.d (.tuple ((early a q).map .int))), .v (.d (.int (down a.has q a.tl.toNat : Nat))), .v (.d (.int q)), .v (.d (.tuple ((rests a q).map .int))), .v (.d (.bool sm)), .v (.d (.list [.tuple [x.d, y.d], .tuple [a.d, z.d], .tuple [y.d, (Cal.without y (.list [11])).d]])), .v (.d y.d), .v (.d (Cal.without y (.list [11])).d), .v y14, .v y15, .v y16, sv (o 17)], st2) := f1
  have dl : ∀ c : Cal, (Cal.without c (.list [11])).d = .tuple [.str "without", c.d, .tuple [.str "list", .tuple [.int 11]]] := fun c => rfl
  have tp4 : ∀ e, callX (evCall prog w k) i_calendar_of [.d (.tuple [.tuple ((early a q).map .int), .int (down a.has q a.tl.toNat : Nat), .int q, .tuple ((rests a q).map .int)])] e st2 = some (.d (calOf a q).d, e, st2) := c7
  have c5' : ∀ e, callX (evCall prog w k) i_law_plain [.d a.d] e st2 = some (.d (.tuple [.tuple ((early a q).map .int), .int (down a.has q a.tl.toNat : Nat), .int q, .tuple ((rests a q).map .int)]), e, st2) := c5
  have n1 : ∀ e s, cmpX e s .ne (.d (plainD a q)) (.d (.tuple [.tuple ((early a q).map .int), .int (down a.has q a.tl.toNat : Nat), .int q, .tuple ((rests a q).map .int)])) = some false := fun e s => by
    rw [← plain_eq, C_neP, hpt]
    rfl
  rw [dl] at f1'
  refine ⟨fun i => match i with | 3 => some (.d (.list [x.d, y.d, z.d])) | 4 => some (.d a.d) | 5 => some (.d b.d) | 6 => some (.d (.tuple ((early a q).map .int))) | 7 => some (.d (.int (down a.has q a.tl.toNat : Nat))) | 8 => some (.d (.int q)) | 9 => some (.d (.tuple ((rests a q).map .int))) | 10 => some (.d (.bool sm)) | 11 => some (.d (.list [.tuple [x.d, y.d], .tuple [a.d, z.d], .tuple [y.d, (Cal.without y (.list [11])).d]])) | 12 => some (.d y.d) | 13 => some (.d (Cal.without y (.list [11])).d) | 14 => some y14 | 15 => some y15 | 16 => some y16 | i => o i, st2, ?_, S2⟩
  cases sm with
  | false =>
    simp only [BODY, E_nm, E_ct, E_gl, E_tup, E_bop, E_neg, E_not, E_and, E_or, E_cmp, E_chn, E_ite, E_ix, E_sl, E_call, E_bi, E_me, E_al, E_st, T_and, T_or, T_not, T_nm, T_cmp, T_chn, T_ix, T_call, T_bi,
 Es_nil, Es_cons, P_none, P_some, A_lst, A_ba, A_rv, A_dic, D_nil, D_cons, C_none, C_some, I_sq, I_rg, I_zp, S_asg, S_par, S_ret, S_ifs, S_ex, S_for, S_retn, S_brk, S_cnt, S_pas, S_setx, Ss_nil, Ss_cons,
 bnd_some, obd_some, cnd_some, ifT_some, bnd_cond, ifT_cond, seq_nx, seq_rt, seq_bk, seq_ct, seq_cond, res_nx, res_rt, res_cond, slot_v, slot_own, cAnd, cOr, cAndT, cOrT, fixR_d, fixR_l,
 B_add, B_sub, C_lt, C_le, C_gt, C_ge, C_eqI, C_neI, C_eqS, C_neS, C_eqB, C_neB, C_isNN, C_isIN, C_isTN, C_isnNN, C_isnIN, R_b, R_i, X_t, X_l, at0, at1, at2, at3, tup1, tup2, tup3, tup4,
 biInt, biAbs, biMin2, biLenL, biLenT, biTupL, str_inj, asg_d, asg_l, asgs_nil, asgs_cons, mapNm,
 gz, gs, sz, ss, mc, mn, ac, an, rc, rz, om, Nat.sub_self, Nat.reduceSub, Nat.reduceAdd, reduceCtorEq, String.reduceEq, decide_true, decide_false, cond_true, cond_false, Bool.not_true, Bool.not_false, Bool.true_and, Bool.false_and, Bool.and_true, Bool.and_false, Bool.or_true, Bool.or_false, Bool.true_or, Bool.false_or, Bool.not_not, l1, fr3, c2, asg_t, c3, c5', n1, C_neP, hpt2, c4, c6, optD, List.length_map, b1, hsm, tp4, lst3, itL, f1', sv_v]
    rfl
  | true =>
    simp only [BODY, E_nm, E_ct, E_gl, E_tup, E_bop, E_neg, E_not, E_and, E_or, E_cmp, E_chn, E_ite, E_ix, E_sl, E_call, E_bi, E_me, E_al, E_st, T_and, T_or, T_not, T_nm, T_cmp, T_chn, T_ix, T_call, T_bi,
 Es_nil, Es_cons, P_none, P_some, A_lst, A_ba, A_rv, A_dic, D_nil, D_cons, C_none, C_some, I_sq, I_rg, I_zp, S_asg, S_par, S_ret, S_ifs, S_ex, S_for, S_retn, S_brk, S_cnt, S_pas, S_setx, Ss_nil, Ss_cons,
 bnd_some, obd_some, cnd_some, ifT_some, bnd_cond, ifT_cond, seq_nx, seq_rt, seq_bk, seq_ct, seq_cond, res_nx, res_rt, res_cond, slot_v, slot_own, cAnd, cOr, cAndT, cOrT, fixR_d, fixR_l,
 B_add, B_sub, C_lt, C_le, C_gt, C_ge, C_eqI, C_neI, C_eqS, C_neS, C_eqB, C_neB, C_isNN, C_isIN, C_isTN, C_isnNN, C_isnIN, R_b, R_i, X_t, X_l, at0, at1, at2, at3, tup1, tup2, tup3, tup4,
 biInt, biAbs, biMin2, biLenL, biLenT, biTupL, str_inj, asg_d, asg_l, asgs_nil, asgs_cons, mapNm,
 gz, gs, sz, ss, mc, mn, ac, an, rc, rz, om, Nat.sub_self, Nat.reduceSub, Nat.reduceAdd, reduceCtorEq, String.reduceEq, decide_true, decide_false, cond_true, cond_false, Bool.not_true, Bool.not_false, Bool.true_and, Bool.false_and, Bool.and_true, Bool.and_false, Bool.or_true, Bool.or_false, Bool.true_or, Bool.false_or, Bool.not_not, l1, fr3, c2, asg_t, c3, c5', n1, C_neP, hpt2, c4, c6, optD, List.length_map, b1, hsm, tp4, c8 rfl, lst3, itL, f1', sv_v]
    rfl
end
theorem main : ∀ ns : List Int, ns.length ≤ 63 → (∀ z ∈ ns, Builtin.Int.intBits z ≤ 1048576) → ∃ ww st', evCall prog ww 60 i_law [.k (ns.map .int)] [] = some (.d (.bool true), st') := by
  intro ns hl _
  obtain ⟨w, hw⟩ : ∃ w, 400000 = w := ⟨_, rfl⟩
  obtain ⟨st1, h1, S1⟩ := open_spec (w := w) (k := 59) (by decide) hl
  have c1 := fun e => callX_of (cl := evCall prog w 59) (f := i_law_open_cells) (xs := [.k (ns.map .int)]) (e := e) rfl h1
  have o1 := in62_ok (ok62_of (i := 2) (by omega) (by omega))
  let P : List X → Lo → Sto → Prop := fun r e s => Src [] s ∧ (∃ ms : List Int, r = ms.map fun t => .d (.int t)) ∧ ∃ o : Nat → Option X, e = [.v (.k (ns.map .int)), .v (.l 1), sv (o 2), sv (o 3), sv (o 4), sv (o 5), sv (o 6), sv (o 7), sv (o 8), sv (o 9), sv (o 10), sv (o 11), sv (o 12), sv (o 13), sv (o 14), sv (o 15), sv (o 16), sv (o 17)]
  obtain ⟨e', s', hf, hq⟩ := for_inv (b := evSs prog.cs (evCall prog w 59) w BODY) (t := .nm 2) P (fun _ _ => False) (fun x r e s hp => by
    obtain ⟨S0, ⟨ms, hm⟩, o, rfl⟩ := hp
    cases ms with
    | nil => cases hm
    | cons m ms =>
      simp only [List.map_cons, List.cons.injEq] at hm
      obtain ⟨rfl, rfl⟩ := hm
      obtain ⟨o', s1, h2, S2⟩ := lap (w := w) (k := 59) (st := s) (rest := []) (A := .v (.k (ns.map .int))) (o := fun i => if i = 2 then some (.d (.int m)) else o i) (by omega) (by omega) S0
      exact ⟨_, _, s1, rfl, .inl ⟨h2, S2, ⟨ms, rfl⟩, o', rfl⟩⟩) ((rgI 0 (2 : Int).toNat).map fun t => .d (.int t)) ([.v (.k (ns.map .int)), .v (.l 1)] ++ List.replicate 16 .no) st1 ⟨S1, ⟨_, rfl⟩, fun _ => none, rfl⟩
  refine ⟨w, s', ?_⟩
  rw [call_eq (fn := fn_law) rfl rfl, law_body]
  have e0 : [X.k (ns.map .int)].map Slot.v ++ List.replicate (fn_law.nl - fn_law.np) .no = [.v (.k (ns.map .int)), .no] ++ List.replicate 16 .no := rfl
  rw [e0]
  simp only [E_nm, E_ct, E_gl, E_tup, E_bop, E_neg, E_not, E_and, E_or, E_cmp, E_chn, E_ite, E_ix, E_sl, E_call, E_bi, E_me, E_al, E_st, T_and, T_or, T_not, T_nm, T_cmp, T_chn, T_ix, T_call, T_bi,
 Es_nil, Es_cons, P_none, P_some, A_lst, A_ba, A_rv, A_dic, D_nil, D_cons, C_none, C_some, I_sq, I_rg, I_zp, S_asg, S_par, S_ret, S_ifs, S_ex, S_for, S_retn, S_brk, S_cnt, S_pas, S_setx, Ss_nil, Ss_cons,
 bnd_some, obd_some, cnd_some, ifT_some, bnd_cond, ifT_cond, seq_nx, seq_rt, seq_bk, seq_ct, seq_cond, res_nx, res_rt, res_cond, slot_v, slot_own, cAnd, cOr, cAndT, cOrT, fixR_d, fixR_l,
 B_add, B_sub, C_lt, C_le, C_gt, C_ge, C_eqI, C_neI, C_eqS, C_neS, C_eqB, C_neB, C_isNN, C_isIN, C_isTN, C_isnNN, C_isnIN, R_b, R_i, X_t, X_l, at0, at1, at2, at3, tup1, tup2, tup3, tup4,
 biInt, biAbs, biMin2, biLenL, biLenT, biTupL, str_inj, asg_d, asg_l, asgs_nil, asgs_cons, mapNm,
 gz, gs, sz, ss, mc, mn, ac, an, rc, rz, om, Nat.sub_self, Nat.reduceSub, Nat.reduceAdd, reduceCtorEq, String.reduceEq, decide_true, decide_false, cond_true, cond_false, Bool.not_true, Bool.not_false, Bool.true_and, Bool.false_and, Bool.and_true, Bool.and_false, Bool.or_true, Bool.or_false, Bool.true_or, Bool.false_or, Bool.not_not, c1, rg1 o1] at hf ⊢
  rw [hf]
  simp only [E_nm, E_ct, E_gl, E_tup, E_bop, E_neg, E_not, E_and, E_or, E_cmp, E_chn, E_ite, E_ix, E_sl, E_call, E_bi, E_me, E_al, E_st, T_and, T_or, T_not, T_nm, T_cmp, T_chn, T_ix, T_call, T_bi,
 Es_nil, Es_cons, P_none, P_some, A_lst, A_ba, A_rv, A_dic, D_nil, D_cons, C_none, C_some, I_sq, I_rg, I_zp, S_asg, S_par, S_ret, S_ifs, S_ex, S_for, S_retn, S_brk, S_cnt, S_pas, S_setx, Ss_nil, Ss_cons,
 bnd_some, obd_some, cnd_some, ifT_some, bnd_cond, ifT_cond, seq_nx, seq_rt, seq_bk, seq_ct, seq_cond, res_nx, res_rt, res_cond, slot_v, slot_own, cAnd, cOr, cAndT, cOrT, fixR_d, fixR_l,
 B_add, B_sub, C_lt, C_le, C_gt, C_ge, C_eqI, C_neI, C_eqS, C_neS, C_eqB, C_neB, C_isNN, C_isIN, C_isTN, C_isnNN, C_isnIN, R_b, R_i, X_t, X_l, at0, at1, at2, at3, tup1, tup2, tup3, tup4,
 biInt, biAbs, biMin2, biLenL, biLenT, biTupL, str_inj, asg_d, asg_l, asgs_nil, asgs_cons, mapNm,
 gz, gs, sz, ss, mc, mn, ac, an, rc, rz, om, Nat.sub_self, Nat.reduceSub, Nat.reduceAdd, reduceCtorEq, String.reduceEq, decide_true, decide_false, cond_true, cond_false, Bool.not_true, Bool.not_false, Bool.true_and, Bool.false_and, Bool.and_true, Bool.and_false, Bool.or_true, Bool.or_false, Bool.true_or, Bool.false_or, Bool.not_not]
end K52

open PySem PySem.W PySem.Calls PyProof.Rows
theorem PySem.Challenge.cw_effectonce_k52_whole_calendars_alike_holds : PySem.Challenge.rw_effectonce_k52_whole_calendars_alike.Holds := by
  w_on; o_law
  refine HandSHeadRun.head_any (r := OpenLaw.row PySem.Challenge.rw_effectonce_k52_whole_calendars_alike) (q := view (OpenLaw.row PySem.Challenge.rw_effectonce_k52_whole_calendars_alike).prog [18]) (H := K52.hk) (ob := K52.ob) (M := 4000) (loose := ["least_multiple", "has_time", "times_in", "tail_of", "repeats", "plain_calendar", "first_unlike", "is_endless", "calendar_of", "_law_open_cells", "_law_pick", "_law_draw_wide_calendar", "_law_has", "_law_tail", "_law_plain", "_law_otherwise"]) (d := HandSHeadRun.topDef (OpenLaw.row PySem.Challenge.rw_effectonce_k52_whole_calendars_alike).prog 18) (kwd := []) K52.ob_eq
    (by kernel_rfl) (fun s => by kernel_rfl) K52.run (by kernel_rfl) (by kernel_rfl) (by kernel_rfl) (by rfl) (by first | assumption | decide +kernel) (by decide +kernel) ⟨rfl, rfl, rfl, rfl, rfl, by decide +kernel⟩ ?hw ?hc
  case hw => w_witness2
  case hc =>
    refine EV.walkG (l := PySem.Challenge.rw_effectonce_k52_whole_calendars_alike) (n := 63) (k := 60) (x := "_law_script") rfl (by decide) (by kernel_rfl) ⟨⟨rfl, by decide, by decide⟩, rfl⟩ ?F
    intro w mg fa h Y G hmg0
    obtain ⟨K, KX, c⟩ := Y
    have hmg : mg ("law" : PySem.Str) = some (.ref fa) := by
      have e : (HandSHeadRun.topDef (OpenLaw.row PySem.Challenge.rw_effectonce_k52_whole_calendars_alike).prog 18).name = ("law" : PySem.Str) := by kernel_rfl
      rw [← e]
      exact hmg0
    exact K52.fin K52.main KX G hmg c
