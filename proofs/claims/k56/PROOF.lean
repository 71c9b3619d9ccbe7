import PyProof.Rows.All
import Wide.All
import OpenK.AllK
import Wide.FinOn
import HandS.ForMost
import HandS.ForExc
import HandS.Lambda
import HandS.EndTab
import HandS.WordsExc
import HandS.TupAny
import HandS.TupMul
import HandS.TupLe
import HandS.Wide
import HandS.Style
import HandS.Deep
import HandS.Text
import HandS.SortInts
import HandS.RaiseMore
import HandS.NoneIn
import KE.KUnpack
import HandS.Zip
import KE.GoesNew
import KE.KRevSl
import HandS.SetFor
import HandS.Strs
import PyProof.FactsAll.tuple_2
import PyProof.FactsAll.str_5
import HandS.CallSlots
import HandS.IsInst
import HandS.EndBits
import HandS.Conv
import HandS.ExcInit
import KE.KExcInit
import HandS.SetBool
import KE.KTryMore
import HandS.ExcIs
import HandS.ExcField
import PyProof.ExcBaseAll.OverflowError
import PyProof.ExcBaseAll.LookupError
import PyProof.ExcBaseAll.ValueError
import PyProof.ReprLen
import HandS.Sort
import HandS.TupSets
import HandS.Keys
import HandS.SortOrd
import PyProof.Rows.IntBool
import PyProof.TwoTypesSub
import HandS.Defaults
import HandS.SetKeys
import KE.KDictZip
import KE.KDictDisplayH
import KE.KDictSum
import HandS.DictTup
import HandS.Iter
import HandS.Finally
import HandS.FStr
import HandS.Codes
import HandS.More
import HandS.WordsDict
import HandS.Small
import PyProof.Rows.DictDisp
import HandS.StrMore
import PyProof.FactsAll.str_7
import KE.KUnpackStar
import HandS.TryMany
import PySem.Challenge.RW_exitpages_k56_a_known_desk
set_option Elab.async false
set_option linter.all false
set_option maxRecDepth 100000
set_option maxHeartbeats 0
/-! part YX: calls made where no repr is under way -/
namespace M1
open PySem PySem.Spec L2 LamX
open PyProof.Rows (envOfC)
/-- room for k calls, and no repr under way -/
structure Room (k : Nat) (A : Around) : Prop where
  base : L2.Room k A
  gd : A.guards = some []
theorem Room.mono {j k : Nat} {A : Around} (r : Room k A) (h : j ≤ k) : Room j A := ⟨r.base.mono h, r.gd⟩
theorem Room.deeper {k : Nat} {A : Around} (r : Room (k + 1) A) (env : Env) : Room k (A.deeper env) := ⟨r.base.deeper env, r.gd⟩
theorem Room.hd {k : Nat} {A : Around} (r : Room k A) : A.handled = none := r.base.hd
theorem Room.un {k : Nat} {A : Around} (r : Room k A) : A.units + 16 * k + 200 < cLine := r.base.un
theorem Room.units {k : Nat} {A : Around} (r : Room k A) : A.units + 64 < cLine := r.base.units
/-- a def's promise, kept wherever no repr is under way -/
structure FnOk (P : Program) (w : World) (K : PySem.W.Frag) (mg : Str → Option Value) (base : Heap) (CX : CXT) (k : Nat) (f : Addr) (fd : FuncData) (ps : List Str) (sp : Sp) : Prop where
  len : ∀ vs H Q E, sp vs H Q E → vs.length = ps.length
  run : ∀ (A : Around) (outer : List Env) (s : Shared) (H : Hp) (args : Args) (us : List Value) (vs : List V) (Q : VK) (E : XK), Room k A → Env0 P w K mg base A outer s H →
    BindsTo s fd args (ps.zip us) → Vals vs us → sp vs H Q E → codeAny (model P w) A (.call (.ref f) args) (CR CX outer P w H s Q E) s
section
variable {P : Program} {w : World} {K : PySem.W.Frag} {mg : Str → Option Value} {base : Heap} {CX : CXT} {j k : Nat} {f : Addr} {fd : FuncData} {ps : List Str} {sp : Sp}
theorem FnOk.mono (F : FnOk P w K mg base CX j f fd ps sp) (h : j ≤ k) : FnOk P w K mg base CX k f fd ps sp := ⟨F.len, fun A o s H a us vs Q E hr => F.run A o s H a us vs Q E (hr.mono h)⟩
theorem FnOk.imp {sp' : Sp} (F : FnOk P w K mg base CX k f fd ps sp) (h : ∀ vs H Q E, sp' vs H Q E → sp vs H Q E) : FnOk P w K mg base CX k f fd ps sp' :=
  ⟨fun vs H Q E q => F.len vs H Q E (h vs H Q E q), fun A o s H a us vs Q E hr e b v q => F.run A o s H a us vs Q E hr e b v (h vs H Q E q)⟩
/-- a def of the text, by its body -/
theorem fn_ofG {name qual : Str} {params : Arguments} {body : List Stmt} {scope : Scope} {dV kV doc pm cdv ct oc : Value} {an od : Option Addr} {osl : Array (Option Value)} {N : List Str}
    (lk : K.lookup f = some ⟨oc, od, .func (PySem.W.fnOf name qual params body scope dV kV doc pm an cdv ct), osl⟩) (hcd : PySem.W.codeIn K cdv qual = true) (S : FnScope N ps scope) (len : ∀ vs H Q E, sp vs H Q E → vs.length = ps.length)
    (hbody : ∀ (A : Around) (outer : List Env) (s : Shared) (H : Hp) (vs : List V) (Q : VK) (E : XK), Room k (A.deeper (envOfC qual scope s.heap.objs.size f cdv)) → sp vs H Q E →
      ∃ t, PSs (cxOf CX P w K mg base N qual scope f cdv A outer s H E) body t ∧ t { nx := fun _ H' => Q .non H', rt := Q } (L2.start N vs) H) :
    FnOk P w K mg base CX (k + 1) f (PySem.W.fnOf name qual params body scope dV kV doc pm an cdv ct) ps sp :=
  ⟨len, fun A o s H a us vs Q E hr e b v q => LamX.run_ofS lk hcd S hr.base e b v (len vs H Q E q) fun _ => hbody A o s H vs Q E (hr.deeper _) q⟩
theorem okG {x qual : Str} {st : Stmt} {N : List Str} (F : Fun K x qual st f fd) (S : FnScope N ps (defScope st)) (len : ∀ vs H Q E, sp vs H Q E → vs.length = ps.length)
    (hbody : ∀ (cdv : Value) (A : Around) (outer : List Env) (s : Shared) (H : Hp) (vs : List V) (Q : VK) (E : XK), Room k (A.deeper (envOfC qual (defScope st) s.heap.objs.size f cdv)) → sp vs H Q E →
      ∃ t, PSs (cxOf (L2.CX P w) P w K mg base N qual (defScope st) f cdv A outer s H E) (defBody st) t ∧ t { nx := fun _ H' => Q .non H', rt := Q } (L2.start N vs) H) : FnOk P w K mg base (L2.CX P w) (k + 1) f fd ps sp := by
  obtain ⟨⟨oc, od, kV, doc, pm, an, cdv, ct, osl, rfl, lk, hcd⟩, hk⟩ := F
  exact fn_ofG lk hcd S len fun A o s H vs Q E hr q => hbody cdv A o s H vs Q E hr q
end
/-- a call by the def's name -/
theorem pe_callG {X : Cx} {CX : CXT} {k : Nat} {f : Addr} {fd : FuncData} {ps : List Str} {sp : Sp} {W : St → XK} {x : Str} {p pos : Pos} {e : Expr} {es : List Expr} {t : TA} (F : FnOk X.prog X.w X.K X.mg X.base CX k f fd ps sp) (hr : Room k X.A) (hg : Gl X x) (hm : X.mg x = some (.ref f))
    (hk : PySem.W.keepIn X.K (.ref f) = true) (hb : Binds X.K fd ps []) (hx : ∀ σ, PassesAt CX X σ (W σ)) (ha : PA X (e :: es) t) (hdb : (x == ("__debug__" : Str)) = false)
    (he : starEach (e :: es) X.env = (false, eval e X.env) :: starEach es X.env) (hpl : (backTo pos (starEach es X.env)).any (·.1) = false) : PE X (.Call (.Name x p) (e :: es) [] pos) (fun σ H Q => t σ H fun vs H1 => sp vs H1 Q (W σ)) := by
  refine ⟨fun pins s σ H Q I h => wpAny_Call_Name_kw (ld_glob I hg hm ?_ hdb)⟩
  refine PySem.W.callWith_K (h₀ := X.base) I.ok.mod.kin hk (thn (ha.run pos pins s σ H (fun vs H1 => sp vs H1 Q (W σ)) I h) fun us s1 z => ?_) he hpl
  obtain ⟨vs, H1, J, r, q⟩ := z
  refine ⟨J.kIn, ?_⟩
  have hl := F.len _ _ _ _ q
  have b := hb s1 us J.kIn (by rw [List.append_nil, ← r.length]; exact hl)
  rw [List.append_nil] at b
  refine wpAny_call (codeAny_mono (F.run X.A X.stack s1 H1 ⟨us, []⟩ us vs Q (W σ) hr J.env0 b r q) fun z s2 hz => ?_)
  match z, hz with
  | .error e, hz => exact hx σ pins H1 s1 e s2 J hz
  | .ok (.ret u), hz => exact J.after hz
  | .ok .next, hz => exact hz.elim
  | .ok .brk, hz => exact hz.elim
  | .ok .cont, hz => exact hz.elim
end M1

/-! part YW: the end of a law whose calls are made where no repr is under way -/
namespace M1
open PySem PySem.Spec L2 LamX
open PyProof.Rows (AllBare IntsAre)
/-- what stands at the law's call: the text's names, the script's list at sa, the code objects' tables -/
structure AtCall (K : PySem.W.Frag) (mg mb : Str → Option Value) (s : Shared) (tabs : List (Addr × Addr)) (sa : Addr) (us : List Value) (zs : List Int) : Prop where
  kin : K.In s.heap
  glob : s.heap.Ns mainGlobals mg
  blt : s.heap.Ns builtinsNs mb
  boot : ∀ x : Str, x ≠ "__name__" → mb x = bootBuiltins x
  lim : s.heap.NoLimit
  gens : s.gens = #[]
  tab : ∀ p ∈ tabs, s.heap.get? p.2 = some { cls := .none, data := .fields #[] }
  loose : ∀ p ∈ tabs, K.lookup p.2 = none
  head : ∀ p ∈ tabs, PySem.W.CodeHd s.heap p.1 p.2
  bmod : ∃ (bm : Addr) (ob : Obj), mg "__builtins__" = some (.ref bm) ∧ bm ≠ builtinsNs ∧ s.heap.get? bm = some ob ∧ ob.cls = .type "module" ∧ ob.dict = some builtinsNs ∧ ob.data = .plain
  list : s.heap.get? sa = some { cls := .type "list", data := .seq us.toArray }
  nums : IntsAre us zs
  size : zs.length ≤ sizeLine
/-- the abstract heap of the start: nothing but the script and the tables -/
structure Begin0 (P : Program) (w : World) (K : PySem.W.Frag) (s : Shared) (tabs : List (Addr × Addr)) (sa : Addr) (zs : List Int) (H : Hp) : Prop where
  tab : ∀ p ∈ tabs, H p.2 = some (.tbl #[])
  only : ∀ b, H b = none ∨ b ∈ tabs.map (·.2) ∨ ∃ o xs, H b = some (.frz o (.lst xs))
  seq : SqL K H sa (zs.map V.int)
  hok : HOk P w H s.heap
  dom : ∀ b, H b ≠ none → b = sa ∨ b ∈ tabs.map (·.2)
  own : H sa ≠ none → K.lookup sa = none
section
variable {P : Program} {w : World} {K : PySem.W.Frag} {mg mb : Str → Option Value} {s : Shared} {tabs : List (Addr × Addr)} {sa : Addr} {us : List Value} {zs : List Int} {H : Hp}
theorem AtCall.tabAt (a : AtCall K mg mb s tabs sa us zs) {b : Addr} (hb : b ∈ tabs.map (·.2)) : s.heap.get? b = some { cls := .none, data := .fields #[] } := by
  obtain ⟨p, hp, rfl⟩ := List.mem_map.mp hb
  exact a.tab p hp
theorem AtCall.apart (a : AtCall K mg mb s tabs sa us zs) : sa ∉ tabs.map (·.2) := fun z => by
  have e := a.list.symm.trans (a.tabAt z)
  have : Data.seq us.toArray _ = Data.fields #[] := congrArg Obj.data (Option.some.inj e)
  cases this
/-- an object that is neither a list nor a table is not tracked -/
theorem AtCall.free (a : AtCall K mg mb s tabs sa us zs) (h : Begin0 P w K s tabs sa zs H) {b : Addr} {o : Obj} (e : s.heap.get? b = some o) (n1 : ∀ vs n, o.data ≠ .seq vs n) (n2 : o.data ≠ .fields #[]) : H b = none := by
  refine Classical.byContradiction fun hn => ?_
  rcases h.dom b hn with rfl | hb
  · cases a.list.symm.trans e
    exact n1 _ _ rfl
  · cases (a.tabAt hb).symm.trans e
    exact n2 rfl
theorem AtCall.names (a : AtCall K mg mb s tabs sa us zs) (h : Begin0 P w K s tabs sa zs H) {b : Addr} {m : Str → Option Value} (n : s.heap.Ns b m) : (hidT s.heap H).Ns b m := by
  obtain ⟨o, es, ep, e, d, r⟩ := n
  exact ⟨o, es, ep, hidT_get e (a.free h e (fun vs k z => by rw [d] at z; cases z) fun z => by rw [d] at z; cases z), d, r⟩
theorem AtCall.kept (a : AtCall K mg mb s tabs sa us zs) (h : Begin0 P w K s tabs sa zs H) : K.In (hidT s.heap H) := fun b o e => by
  refine hidT_get (a.kin b o e) (Classical.byContradiction fun hn => ?_)
  rcases h.dom b hn with rfl | hb
  · cases (h.own hn).symm.trans e
  · obtain ⟨p, hp, rfl⟩ := List.mem_map.mp hb
    cases (a.loose p hp).symm.trans e
theorem AtCall.tabB (a : AtCall K mg mb s tabs sa us zs) (h : Begin0 P w K s tabs sa zs H) {p : Addr × Addr} (hp : p ∈ tabs) : TabB (hidT s.heap H) mg p.1 p.2 := by
  refine ⟨?_, ?_, fun z => ?_⟩
  · obtain ⟨o, ws, file, tf, flags, tg, inF, text, tt, e, r⟩ := a.head p hp
    refine ⟨o, ws, file, tf, flags, tg, inF, text, tt, hidT_get e (a.free h e (fun vs n z => ?_) fun z => ?_), r⟩
    · cases r.2.1.symm.trans z
    · have := r.2.1.symm.trans z
      cases this
      have := r.2.2.1
      simp at this
  · obtain ⟨bm, ob, b1, b2, b3, b4, b5, b6⟩ := a.bmod
    refine ⟨bm, ob, b1, b2, fun q => ?_, fun q => ?_, hidT_get b3 (a.free h b3 (fun vs n z => by cases b6.symm.trans z) fun z => by cases b6.symm.trans z), b4, b5, b6⟩
    · obtain ⟨o, es, ep, e, hd, _⟩ := a.glob
      rw [q] at b3
      cases e.symm.trans b3
      cases hd.symm.trans b6
    · rw [q] at b3
      cases (a.tab p hp).symm.trans b3
      cases b6
  · obtain ⟨o, es, ep, e, hd, _⟩ := a.glob
    rw [z] at e
    cases (a.tab p hp).symm.trans e
    cases hd
theorem AtCall.env (a : AtCall K mg mb s tabs sa us zs) (h : Begin0 P w K s tabs sa zs H) : Env0 P w K mg (hidT s.heap H) callerA [] s H where
  frames := rfl
  mod := ⟨a.kept h, a.names h a.glob, ⟨mb, a.names h a.blt, a.boot⟩, let ⟨mc, n, r⟩ := a.lim; ⟨mc, a.names h n, r⟩⟩
  bs := fun _ _ e => of_hidT e
  bsz := Nat.le_of_eq (hidT_size _ _)
  funs := trivial
  frf := fun b hb => absurd (show b ∈ ([] : List Addr) from hb) List.not_mem_nil
  hok := h.hok
  bare := .of_eq a.gens
/-- what a call leaves of the heap that was there -/
theorem AtCall.after (a : AtCall K mg mb s tabs sa us zs) (h : Begin0 P w K s tabs sa zs H) {s' : Shared} {H' : Hp} (un : Un (frs []) [] H H' s.heap s'.heap) (ok : HOk P w H' s'.heap) : OldK s.heap s'.heap := by
  have same : ∀ b o, b ∉ tabs.map (·.2) → s.heap.get? b = some o → s'.heap.get? b = some o := fun b o nb e => by
    rcases h.only b with q | q | ⟨ob, xs, q⟩
    · exact un.keep b o e q (fun z => absurd (show b ∈ ([] : List Addr) from z) List.not_mem_nil) List.not_mem_nil
    · exact absurd q nb
    · have e1 := (h.hok b _ q).1
      have e2 := (ok b _ (un.frzs b ob _ q)).1
      cases e1.symm.trans e
      exact e2
  have grew : ∀ p ∈ tabs, ∃ more : Array Value, s'.heap.get? p.2 = some { cls := .none, data := .fields more } := fun p hp => by
    obtain ⟨more, z⟩ := un.tbls p.2 #[] (h.tab p hp)
    exact ⟨_, ok p.2 _ z⟩
  refine ⟨fun b o e => ?_, fun b o e => ?_⟩
  · by_cases hb : b ∈ tabs.map (·.2)
    · obtain ⟨p, hp, rfl⟩ := List.mem_map.mp hb
      obtain ⟨more, hm⟩ := grew p hp
      cases (a.tab p hp).symm.trans e
      exact .inr (.inl ⟨((a.head p hp).tab (a.tab p hp)).isCodeTable, rfl, #[], more, rfl, by rw [Array.empty_append]; exact hm⟩)
    · exact .inl (same b o hb e)
  · by_cases hb : b ∈ tabs.map (·.2)
    · obtain ⟨p, hp, rfl⟩ := List.mem_map.mp hb
      obtain ⟨more, hm⟩ := grew p hp
      exact ⟨_, hm⟩
    · exact ⟨o, same b o hb e⟩
/-- there is such an abstract heap -/
theorem AtCall.begin (a : AtCall K mg mb s tabs sa us zs) : ∃ H, Begin0 P w K s tabs sa zs H := by
  have rv := vals_ints a.nums
  have sz : us.length ≤ sizeLine := by have := a.nums.length; have := a.size; omega
  have mem : ∀ p ∈ tabs, p.2 ∈ tabs.map (·.2) := fun p hp => List.mem_map.mpr ⟨p, hp, rfl⟩
  have na := a.apart
  cases hk : K.lookup sa with
  | some o =>
    cases a.list.symm.trans (a.kin sa o hk)
    refine ⟨fun b => if b ∈ tabs.map (·.2) then some (.tbl #[]) else none, fun p hp => if_pos (mem p hp), fun b => ?_, .inr ⟨_, us.toArray, _, hk, rfl, rfl, rfl, by rw [List.size_toArray]; exact sz, by simpa using rv⟩, fun b u z => ?_, fun b z => ?_, fun z => (z (if_neg na)).elim⟩
    · by_cases hb : b ∈ tabs.map (·.2)
      · exact .inr (.inl hb)
      · exact .inl (if_neg hb)
    · by_cases hb : b ∈ tabs.map (·.2)
      · cases (if_pos hb).symm.trans z
        exact a.tabAt hb
      · cases (if_neg hb).symm.trans z
    · by_cases hb : b ∈ tabs.map (·.2)
      · exact .inr hb
      · exact (z (if_neg hb)).elim
  | none =>
    refine ⟨fun b => if b = sa then some (.frz { cls := .type "list", data := .seq us.toArray } (.lst (zs.map V.int))) else if b ∈ tabs.map (·.2) then some (.tbl #[]) else none, fun p hp => (if_neg (show ¬ p.2 = sa from fun z => na (by rw [← z]; exact mem p hp))).trans (if_pos (mem p hp)), fun b => ?_,
      .inl (.inr ⟨_, if_pos rfl⟩), fun b u z => ?_, fun b z => ?_, fun _ => hk⟩
    · by_cases hb : b = sa
      · exact .inr (.inr ⟨_, _, if_pos hb⟩)
      · by_cases hb2 : b ∈ tabs.map (·.2)
        · exact .inr (.inl hb2)
        · exact .inl ((if_neg hb).trans (if_neg hb2))
    · by_cases hb : b = sa
      · cases (if_pos hb).symm.trans z
        subst hb
        exact ⟨a.list, by rw [List.length_map]; exact a.size, us, _, rv, a.list⟩
      · have z1 := (if_neg hb).symm.trans z
        by_cases hb2 : b ∈ tabs.map (·.2)
        · cases (if_pos hb2).symm.trans z1
          exact a.tabAt hb2
        · cases (if_neg hb2).symm.trans z1
    · by_cases hb : b = sa
      · exact .inl hb
      · by_cases hb2 : b ∈ tabs.map (·.2)
        · exact .inr hb2
        · exact (z ((if_neg hb).trans (if_neg hb2))).elim
theorem law_callG {CX : CXT} {k : Nat} {fa : Addr} {fd : FuncData} {x : Str} {sp : Sp} (a : AtCall K mg mb s tabs sa us zs) (hr : L2.Room k callerA)
    (F : ∀ base : Heap, K.In base → base.Ns mainGlobals mg → (∀ p ∈ tabs, TabB base mg p.1 p.2) → FnOk P w K mg base CX k fa fd [x] sp) (bind : ∀ (s : Shared) (u : Value), BindsTo s fd ⟨[u], []⟩ [(x, u)])
    (hsp : ∀ H : Hp, (∀ p ∈ tabs, H p.2 = some (.tbl #[])) → SqL K H sa (zs.map V.int) → sp [.ref sa] H (fun v _ => v = .bl true) fun _ _ _ => False) (calm : ∀ H e s', CX [] H s (fun _ _ _ => False) e s' → False) :
    codeAny (model P w) callerA (.call (.ref fa) ⟨[.ref sa], []⟩) (fun r s' => r = .ok (.ret (.bool true)) ∧ OldK s.heap s'.heap ∧ s'.os = s.os ∧ AllBare s'.gens) s := by
  obtain ⟨H, h⟩ := a.begin (P := P) (w := w)
  have run := (F _ (a.kept h) (a.names h a.glob) fun p hp => a.tabB h hp).run callerA [] s H ⟨[.ref sa], []⟩ [.ref sa] [.ref sa] (fun v _ => v = .bl true) (fun _ _ _ => False) ⟨hr, rfl⟩ (a.env h) (bind s _) (.cons rfl .nil) (hsp H h.tab h.seq)
  refine codeAny_mono run fun r s' z => ?_
  match r, z with
  | .error e, z => exact (calm H e s' z).elim
  | .ok .next, z => exact z.elim
  | .ok .brk, z => exact z.elim
  | .ok .cont, z => exact z.elim
  | .ok (.ret u), ⟨v, H', os, bare, un, ok, rv, q⟩ =>
    have q : v = .bl true := q
    subst q
    obtain rfl : u = Value.bool true := rv
    exact ⟨rfl, a.after h un ok, os, bare⟩
end
end M1

/-! part A: data, cells, the relation to the tracked heap, results -/
namespace M1
open PySem PySem.Spec L2

/-- an exception as data: its class by name, its fields -/
structure Exn where
  cls : Str
  args : List (Str × PyData)
/-- what an expression yields: data, or a mutable cell of the store, or a held exception -/
inductive Vl where
  | d (d : PyData)
  | c (n : Nat)
  | x (e : Exn)
  | s (ns : List Int)
  | p (ds : List PyData)
  | f
  | fd (kvs : List (Int × Int))
  | pd (kvs : List (Int × Int)) (w : Int)
inductive Cell where
  | dead
  | lst (xs : List PyData)
  | lstc (ns : List Nat)
  | di (kvs : List (Int × Int))
  | dc (kvs : List (Int × List PyData))
  | ts (ks : List (List Int))
  | ob (cls : Str) (fs : List (Str × Nat))
  | slot
  | ll (xss : List (List PyData))
  | dws (rows : List (List (Int × Int) × Int))
abbrev Sto := List Cell
abbrev Rho := List (Option Vl)
inductive Res (α : Type) where
  | stuck
  | ok (a : α) (st : Sto)
  | err (x : Exn) (st : Sto)
def Res.bind {α β : Type} (r : Res α) (k : α → Sto → Res β) : Res β :=
  match r with
  | .stuck => .stuck
  | .ok a st => k a st
  | .err x st => .err x st
@[simp] theorem Res.bind_ok {α β : Type} (a : α) (st : Sto) (k : α → Sto → Res β) : (Res.ok a st).bind k = k a st := rfl
@[simp] theorem Res.bind_err {α β : Type} (x : Exn) (st : Sto) (k : α → Sto → Res β) : (Res.err x st : Res α).bind k = .err x st := rfl
@[simp] theorem Res.bind_stuck {α β : Type} (k : α → Sto → Res β) : (Res.stuck : Res α).bind k = .stuck := rfl

/-! ### frozen part and addresses of cells -/
/-- an object that is no table and no code object -/
def Plain (o : HO) : Prop := (∀ ps, o ≠ .tbl ps) ∧ ∀ c q, o ≠ LamX.CodeO c q
theorem plain_lst (xs : List V) : Plain (.lst xs) := ⟨(fun _ z => by cases z), fun c q z => by have z : HO.lst xs = HO.ext _ := z; cases z⟩
structure Gh where
  F : Hp
  at_ : List (List Addr)
  /-- what stands aside: lists that are being built -/
  pv : Hp := fun _ => none
/-- the tables of code objects of the defs that make lambdas; the thunk that a def got: its address, its code object, what holds of what it caught -/
class LT where
  T : List (Addr × Str)
  fn : Addr := 0
  code : Addr := 0
  qual : Str := ""
  cap : Gh → Prop := fun _ => True
def Gh.le0 (g g' : Gh) : Prop := Same g.F g'.F ∧ ∀ (n : Nat) (p : Addr) (r : List Addr), g.at_[n]? = some (p :: r) → ∃ r', g'.at_[n]? = some (p :: r')
theorem Gh.le0.refl (g : Gh) : g.le0 g := ⟨Same.refl _, fun _ _ r h => ⟨r, h⟩⟩
theorem Gh.le0.trans {a b c : Gh} (h : a.le0 b) (k : b.le0 c) : a.le0 c := ⟨h.1.trans k.1, fun n p r e => by
  obtain ⟨r1, e1⟩ := h.2 n p r e
  exact k.2 n p r1 e1⟩
def Gh.le (g g' : Gh) : Prop := g.le0 g' ∧ g'.pv = g.pv
theorem Gh.le.refl (g : Gh) : g.le g := ⟨.refl g, rfl⟩
theorem Gh.le.trans {a b c : Gh} (h : a.le b) (k : b.le c) : a.le c := ⟨h.1.trans k.1, k.2.trans h.2⟩

/-- a tuple that nobody changes, with no dict of its own -/
def TupF (F : Hp) (a : Addr) (vs : List V) : Prop := ∃ o, F a = some (.frz o (.tup vs)) ∧ o.dict = none
theorem TupF.sqt {K : PySem.W.Frag} {F : Hp} {a : Addr} {vs : List V} (h : TupF F a vs) : SqT K F a vs := let ⟨o, h, _⟩ := h; .inl (.inr ⟨o, h⟩)
theorem TupF.mono {F F' : Hp} (s : Same F F') {a : Addr} {vs : List V} (h : TupF F a vs) : TupF F' a vs := let ⟨o, h, k⟩ := h; ⟨o, s _ _ h, k⟩
mutual
/-- a value that is this data: lists and tuples that nobody changes -/
inductive Dq (K : PySem.W.Frag) (F : Hp) : V → PyData → Prop
  | non : Dq K F .non .none
  | bl (b : Bool) : Dq K F (.bl b) (.bool b)
  | int (i : Int) : Dq K F (.int i) (.int i)
  | str (x : Str) : Dq K F (.str x) (.str x)
  | lst {a : Addr} {vs : List V} {ds : List PyData} : F a = some (.lst vs) → DqAll K F vs ds → Dq K F (.ref a) (.list ds)
  | tup {a : Addr} {vs : List V} {ds : List PyData} : TupF F a vs → DqAll K F vs ds → Dq K F (.ref a) (.tuple ds)
inductive DqAll (K : PySem.W.Frag) (F : Hp) : List V → List PyData → Prop
  | nil : DqAll K F [] []
  | cons {v : V} {vs : List V} {d : PyData} {ds : List PyData} : Dq K F v d → DqAll K F vs ds → DqAll K F (v :: vs) (d :: ds)
end
theorem sqt_mono {K : PySem.W.Frag} {H H' : Hp} (s : Same H H') {a : Addr} {xs : List V} (h1 : SqT K H a xs) : SqT K H' a xs := by
  rcases h1 with (h | ⟨o, h⟩) | h
  · exact .inl (.inl (s _ _ h))
  · exact .inl (.inr ⟨o, s _ _ h⟩)
  · exact .inr h
mutual
theorem dq_mono {K : PySem.W.Frag} {H H' : Hp} (s : Same H H') : ∀ {d : PyData} {v : V}, Dq K H v d → Dq K H' v d
  | .none, _, h => by cases h; exact .non
  | .bool _, _, h => by cases h; exact .bl _
  | .int _, _, h => by cases h; exact .int _
  | .str _, _, h => by cases h; exact .str _
  | .list ds, _, h => by cases h with | lst h1 h2 => exact .lst (s _ _ h1) (dqAll_mono s h2)
  | .tuple ds, _, h => by cases h with | tup h1 h2 => exact .tup (h1.mono s) (dqAll_mono s h2)
  | .dict _, _, h => by cases h
theorem dqAll_mono {K : PySem.W.Frag} {H H' : Hp} (s : Same H H') : ∀ {ds : List PyData} {vs : List V}, DqAll K H vs ds → DqAll K H' vs ds
  | [], _, h => by cases h; exact .nil
  | d :: ds, _, h => by cases h with | cons h1 h2 => exact .cons (dq_mono s h1) (dqAll_mono s h2)
end
mutual
theorem Dq.dp {K : PySem.W.Frag} {F : Hp} : ∀ {d : PyData} {v : V}, Dq K F v d → Dp K F v d
  | .none, _, h => by cases h; exact .non
  | .bool _, _, h => by cases h; exact .bl _
  | .int _, _, h => by cases h; exact .int _
  | .str _, _, h => by cases h; exact .str _
  | .list ds, _, h => by cases h with | lst h1 h2 => exact .lst (SqL.of h1) (DqAll.dp h2)
  | .tuple ds, _, h => by cases h with | tup h1 h2 => exact .tup h1.sqt (DqAll.dp h2)
  | .dict _, _, h => by cases h
theorem DqAll.dp {K : PySem.W.Frag} {F : Hp} : ∀ {ds : List PyData} {vs : List V}, DqAll K F vs ds → DpAll K F vs ds
  | [], _, h => by cases h; exact .nil
  | d :: ds, _, h => by cases h with | cons h1 h2 => exact .cons (Dq.dp h1) (DqAll.dp h2)
end

section
variable {K : PySem.W.Frag} {mg : Str → Option Value}
/-- an exception lies as told: the class, its own dict's address -/
def ExnR (mg : Str → Option Value) (K : PySem.W.Frag) (F : Hp) (cls : Value) (dd : Option Addr) (x : Exn) : Prop :=
  (∃ C, mg x.cls = some (.ref C) ∧ cls = .ref C) ∧
  match x.args with
  | [] => dd = none
  | [(f, d)] => ∃ a v, dd = some a ∧ F a = some (.xd [(f, v)]) ∧ Dq K F v d
  | _ => False
/-- the dict of lists: its entries -/
def dcK (rs : List Addr) (kvs : List (Int × List PyData)) : List (Key × V) := List.zipWith (fun r kv => (Sum.inl kv.1, V.ref r)) rs kvs
/-- a dict whose keys are tuples of ints, every value True -/
def tsO (p : Addr) (o : Obj) (rows : List (List Int × Addr)) : HO := .ext fun h => h.get? p = some o ∧ o.ExactDict ∧ ∃ es ep, o.data = .dict es ep ∧ ∀ (P : Program) (w : World), es.toList = rows.map fun r => entryOfKey (tupleKind (intKind P w)) (r.1, r.2, .bool true)
/-- a dict of ints -/
def dkO (kvs : List (Int × Int)) : HO := .dK (kvs.map fun kv => (Sum.inl kv.1, V.int kv.2))
/-- a tuple of a dict of ints that nobody changes and an int -/
def PdR (F : Hp) (v : V) (kvs : List (Int × Int)) (w : Int) : Prop := ∃ t a o, v = .ref t ∧ TupF F t [.ref a, .int w] ∧ F a = some (.frz o (dkO kvs))
theorem PdR.mono {F F' : Hp} (s : Same F F') {v : V} {kvs : List (Int × Int)} {w : Int} (h : PdR F v kvs w) : PdR F' v kvs w := by
  obtain ⟨t, a, o, e, ht, ha⟩ := h
  exact ⟨t, a, o, e, ht.mono s, s _ _ ha⟩
def CellR (K : PySem.W.Frag) (H : Hp) (g : Gh) (as : List Addr) : Cell → Prop
  | .dead => True
  | .lst xs => ∃ p vs, as = [p] ∧ H p = some (.lst vs) ∧ DqAll K g.F vs xs
  | .lstc ns => ∃ p qs, as = [p] ∧ H p = some (.lst (qs.map V.ref)) ∧ Paired (fun q m => ∃ r, g.at_[m]? = some (q :: r)) qs ns
  | .di kvs => ∃ p, as = [p] ∧ H p = some (.dK (kvs.map fun kv => (Sum.inl kv.1, V.int kv.2)))
  | .dc kvs => ∃ p rs, as = p :: rs ∧ as.Nodup ∧ (kvs.map (·.1)).Nodup ∧ H p = some (.dK (dcK rs kvs)) ∧ Paired (fun r (kv : Int × List PyData) => ∃ vs, H r = some (.lst vs) ∧ DqAll K g.F vs kv.2) rs kvs
  | .ts ks => ∃ p o bs, as = [p] ∧ (p == sysModules) = false ∧ ks.Nodup ∧ H p = some (tsO p o (ks.zip bs)) ∧ Paired (fun (k : List Int) b => TupF g.F b (k.map V.int)) ks bs
  | .ob cls fs => ∃ p dx C qs, as = [p, dx] ∧ PySem.W.nsIn K mainGlobals cls = some (some (.ref C)) ∧ H p = some (.ins C dx (List.zipWith (fun q (f : Str × Nat) => (f.1, V.ref q)) qs fs)) ∧ H dx = some (.own p) ∧ Paired (fun q (f : Str × Nat) => ∃ r, g.at_[f.2]? = some (q :: r)) qs fs
  | .slot => as = []
  | .ll xss => ∃ p rs, as = p :: rs ∧ as.Nodup ∧ H p = some (.lst (rs.map V.ref)) ∧ Paired (fun r (xs : List PyData) => ∃ vs, H r = some (.lst vs) ∧ DqAll K g.F vs xs) rs xss
  | .dws rows => ∃ p ts, as = [p] ∧ H p = some (.lst ts) ∧ Paired (fun v (row : List (Int × Int) × Int) => PdR g.F v row.1 row.2) ts rows
/-- the object of a held exception -/
def heldO (a : Addr) (cls : Value) (dd : Option Addr) : HO := .ext fun h => ∃ oe vs, h.get? a = some oe ∧ Zc cls dd oe ∧ oe.data = .fields vs
def HeldR (mg : Str → Option Value) (K : PySem.W.Frag) (F : Hp) (v : V) (x : Exn) : Prop :=
  ∃ a cls dd, v = .ref a ∧ ExnR mg K F cls dd x ∧ F a = some (heldO a cls dd)
variable [LT]
def ValR (mg : Str → Option Value) (K : PySem.W.Frag) (g : Gh) (v : V) : Vl → Prop
  | .d d => Dq K g.F v d
  | .c n => ∃ p r, g.at_[n]? = some (p :: r) ∧ v = .ref p
  | .x e => HeldR mg K g.F v e
  | .s ns => ∃ a, v = .ref a ∧ SqL K g.F a (ns.map V.int)
  | .p ds => ∃ a vs, v = .ref a ∧ SqT K g.F a vs ∧ DqAll K g.F vs ds
  | .f => v = .ref LT.fn ∧ g.F LT.code = some (LamX.CodeO LT.code LT.qual) ∧ ∀ g', g.le0 g' → LT.cap g'
  | .fd kvs => ∃ a o, v = .ref a ∧ g.F a = some (.frz o (dkO kvs))
  | .pd kvs w => PdR g.F v kvs w
structure Rel (K : PySem.W.Frag) (H : Hp) (g : Gh) (st : Sto) : Prop where
  sub : Same g.F H
  apart : ∀ (n : Nat) (as : List Addr) (c : Cell), g.at_[n]? = some as → (st : List Cell)[n]? = some c → c ≠ .dead → ∀ p ∈ as, g.F p = none
  there : ∀ as ∈ g.at_, ∀ p ∈ as, ∃ o, H p = some o ∧ ∀ ps, o ≠ .tbl ps
  nd : ∀ (n m : Nat) (as bs : List Addr) (c d : Cell), g.at_[n]? = some as → g.at_[m]? = some bs → (st : List Cell)[n]? = some c → (st : List Cell)[m]? = some d → c ≠ .dead → d ≠ .dead → n ≠ m → ∀ p ∈ as, p ∉ bs
  len : g.at_.length = st.length
  closed : ∀ (n : Nat) (ns : List Nat), (st : List Cell)[n]? = some (.lstc ns) → ∀ m ∈ ns, m < n
  closedO : ∀ (n : Nat) (cls : Str) (fs : List (Str × Nat)), (st : List Cell)[n]? = some (.ob cls fs) → ∀ f ∈ fs, f.2 < n
  cells : ∀ (n : Nat) (as : List Addr) (c : Cell), g.at_[n]? = some as → (st : List Cell)[n]? = some c → CellR K H g as c
  aside : ∀ p o, g.pv p = some o → H p = some o ∧ g.F p = none ∧ (∀ as ∈ g.at_, p ∉ as) ∧ Plain o
  tabs : LamX.Tabs LT.T H
  notbl : ∀ b ps, g.F b ≠ some (.tbl ps)
def RhoR (mg : Str → Option Value) (K : PySem.W.Frag) (g : Gh) (σ : St) (ρ : Rho) : Prop :=
  (ρ : List (Option Vl)).length = σ.length ∧ ∀ (i : Nat) (v : Vl), (ρ : List (Option Vl))[i]? = some (some v) → ∃ u, σ[i]? = some (some u) ∧ ValR mg K g u v
omit [LT] in
theorem ExnR.mono {F F' : Hp} (s : Same F F') {cls : Value} {dd : Option Addr} {x : Exn} (h : ExnR mg K F cls dd x) : ExnR mg K F' cls dd x := by
  obtain ⟨h1, h2⟩ := h
  refine ⟨h1, ?_⟩
  split at h2
  · exact h2
  · obtain ⟨a, v, e, hF, hd⟩ := h2
    exact ⟨a, v, e, s _ _ hF, dq_mono s hd⟩
  · exact h2
theorem ValR.mono {g g' : Gh} (l : g.le0 g') {v : V} : ∀ {x : Vl}, ValR mg K g v x → ValR mg K g' v x
  | .d _, h => dq_mono l.1 h
  | .c n, ⟨p, r, h, e⟩ => by
    obtain ⟨r', h'⟩ := l.2 n p r h
    exact ⟨p, r', h', e⟩
  | .s _, ⟨a, e, h⟩ => ⟨a, e, l.1.seq h⟩
  | .p _, ⟨a, vs, e, h, d⟩ => ⟨a, vs, e, sqt_mono l.1 h, dqAll_mono l.1 d⟩
  | .x _, ⟨a, cls, dd, e, h1, h2⟩ => ⟨a, cls, dd, e, h1.mono l.1, l.1 _ _ h2⟩
  | .f, ⟨e, h, c⟩ => ⟨e, l.1 _ _ h, fun g2 l2 => c g2 (l.trans l2)⟩
  | .fd _, ⟨a, o, e, h⟩ => ⟨a, o, e, l.1 _ _ h⟩
  | .pd _ _, h => PdR.mono l.1 h
theorem RhoR.mono {g g' : Gh} (l : g.le0 g') {σ : St} {ρ : Rho} (h : RhoR mg K g σ ρ) : RhoR mg K g' σ ρ := ⟨h.1, fun i v e => by
  obtain ⟨u, h1, h2⟩ := h.2 i v e
  exact ⟨u, h1, h2.mono l⟩⟩
omit [LT] in
theorem paired_imp {α β : Type} {F G : α → β → Prop} {l₁ : List α} {l₂ : List β} (h : Paired F l₁ l₂) (f : ∀ a b, a ∈ l₁ → F a b → G a b) : Paired G l₁ l₂ := by
  induction h with
  | nil => exact .nil
  | cons r t ih => exact .cons (f _ _ List.mem_cons_self r) (ih fun a b ha => f a b (List.mem_cons_of_mem _ ha))
omit [LT] in
theorem CellR.mono {H H' : Hp} {g g' : Gh} (l : g.le0 g') {as : List Addr} (k : ∀ p ∈ as, H' p = H p) : ∀ {c : Cell}, CellR K H g as c → CellR K H' g' as c
  | .dead, _ => trivial
  | .lst xs, ⟨p, vs, e, h, d⟩ => ⟨p, vs, e, (k p (by rw [e]; exact List.mem_cons_self)).trans h, dqAll_mono l.1 d⟩
  | .lstc ns, ⟨p, qs, e, h, d⟩ => ⟨p, qs, e, (k p (by rw [e]; exact List.mem_cons_self)).trans h, paired_imp d fun q m hq ⟨r, h⟩ => l.2 m q r h⟩
  | .di kvs, ⟨p, e, h⟩ => ⟨p, e, (k p (by rw [e]; exact List.mem_cons_self)).trans h⟩
  | .dc kvs, ⟨p, rs, e, n, nk, h, d⟩ => ⟨p, rs, e, n, nk, (k p (by rw [e]; exact List.mem_cons_self)).trans h, paired_imp d fun r m hr ⟨vs, h, d⟩ => ⟨vs, (k r (by rw [e]; exact List.mem_cons_of_mem _ hr)).trans h, dqAll_mono l.1 d⟩⟩
  | .ts ks, ⟨p, o, bs, e, hs, nk, h, d⟩ => ⟨p, o, bs, e, hs, nk, (k p (by rw [e]; exact List.mem_cons_self)).trans h, paired_imp d fun _ _ _ t => t.mono l.1⟩
  | .ob _ fs, ⟨p, dx, C, qs, e, hC, h, ho, d⟩ => ⟨p, dx, C, qs, e, hC, (k p (by rw [e]; exact List.mem_cons_self)).trans h, (k dx (by rw [e]; simp)).trans ho, paired_imp d fun q f _ ⟨r, h⟩ => l.2 f.2 q r h⟩
  | .slot, e => e
  | .ll _, ⟨p, rs, e, n, h, d⟩ => ⟨p, rs, e, n, (k p (by rw [e]; exact List.mem_cons_self)).trans h, paired_imp d fun r m hr ⟨vs, h, d⟩ => ⟨vs, (k r (by rw [e]; exact List.mem_cons_of_mem _ hr)).trans h, dqAll_mono l.1 d⟩⟩
  | .dws _, ⟨p, ts, e, h, d⟩ => ⟨p, ts, e, (k p (by rw [e]; exact List.mem_cons_self)).trans h, paired_imp d fun _ _ _ r => r.mono l.1⟩
end

end M1

/-! part T: new tuples, told with their own object (no dict of its own) -/
namespace M1
open PySem PySem.Spec L2
variable [LT]
section
variable {X : Cx}
/-- a new tuple at p -/
def NewT (H : Hp) (xs : List V) (Q : VK) : Prop := ∀ p o, H p = none → o.dict = none → Q (.ref p) (upd H p (.frz o (.tup xs)))
theorem newT_at {pins : List (Addr × Obj)} {σ : St} {H : Hp} {s : Shared} {Q : VK} {xs : List V} {its : List Value} {h' : Heap} {tk : Nat} (I : Inv X pins σ H s) (k : ∀ b u, s.heap.get? b = some u → h'.get? b = some u) (r : Vals xs its) (hz : xs.length ≤ sizeLine) (q : NewT H xs Q) :
    EP X pins σ Q (.ref h'.objs.size) { s with heap := h'.push { cls := .type "tuple", data := .seq its.toArray }, toks := tk } := by
  have I1 : Inv X pins σ H { s with heap := h', toks := tk } := I.kept (t' := tk) k
  have hp : H h'.objs.size = none := I1.hok.fresh (Nat.le_refl _)
  have hg : (h'.push { cls := .type "tuple", data := .seq its.toArray }).get? h'.objs.size = some { cls := .type "tuple", data := .seq its.toArray } := Heap.get?_push_size _ rfl
  refine ⟨.ref h'.objs.size, upd H h'.objs.size (.frz { cls := .type "tuple", data := .seq its.toArray } (.tup xs)), I1.laid (t' := tk) (fun b u e => Heap.get?_push_of_some _ e) (Nat.le_refl _) ?_, rfl, q _ _ hp rfl⟩
  exact ⟨hg, hz, its, r, ⟨_, hg, rfl, _, rfl⟩⟩
theorem newT_here {pins : List (Addr × Obj)} {σ : St} {H : Hp} {s : Shared} {Q : VK} {xs : List V} {its : List Value} (I : Inv X pins σ H s) (r : Vals xs its) (hz : xs.length ≤ sizeLine) (q : NewT H xs Q) :
    EP X pins σ Q (.ref s.heap.objs.size) { s with heap := s.heap.push { cls := .type "tuple", data := .seq its.toArray } } :=
  newT_at (h' := s.heap) (tk := s.toks) I (fun _ _ e => e) r hz q
def tTupZ (t : TA) : TE := fun σ H Q => t σ H fun xs H1 => xs.length ≤ sizeLine ∧ NewT H1 xs Q
theorem pe_tupZ {es : List Expr} {t : TA} {pos : Pos} {k : Nat} (h : PA X es t) : PE X (.Tuple es k pos) (tTupZ t) := by
  refine ⟨fun pins s σ H Q I hq => ?_⟩
  refine wpAny_Tuple_spliced (thn (h.run pos pins s σ H _ I hq) fun us s1 hh => ?_)
  obtain ⟨xs, H1, I1, r, z, q⟩ := hh
  exact ⟨by rw [← r.length]; exact z, newT_here I1 r z q⟩
def rTupZ (K : PySem.W.Frag) : List V → Hp → VK → Prop := fun xs H Q => ∃ p ys, xs = [.ref p] ∧ ((SqL K H p ys ∧ NewT H ys Q) ∨ (SqT K H p ys ∧ Q (.ref p) H))
theorem call_tupZ : CallR X (.type "tuple") (rTupZ X.K) := by
  intro pins s σ H xs us Q I r h
  obtain ⟨p, ys, rfl, h⟩ := h
  obtain ⟨u, rfl, rx⟩ := vals1 r
  cases rx
  rcases h with ⟨hq, q⟩ | ⟨hq, q⟩
  · obtain ⟨its, r', pl, hz⟩ := I.list hq
    have hlen := r'.length
    exact call_tuple_list pl.isList (fun h' kp => newT_at (tk := s.toks) I kp r' hz q) (by rw [List.size_toArray]; omega)
  · obtain ⟨its, r', pl, hz⟩ := I.tuple hq
    exact call_tuple_same pl ⟨.ref p, H, I, rfl, q⟩
def rCatZ (K : PySem.W.Frag) : R2 := fun x y H Q => ∃ a b xs ys, x = .ref a ∧ y = .ref b ∧ SqT K H a xs ∧ SqT K H b ys ∧ xs.length + ys.length ≤ sizeLine ∧
  (xs = [] → Q (.ref b) H) ∧ (ys = [] → Q (.ref a) H) ∧ (ys ≠ [] → NewT H (xs ++ ys) Q)
theorem op_catZ : OpR X (binaryOp .Add) (rCatZ X.K) := by
  intro pins s σ H x y v u Q I rx ry h
  obtain ⟨a, b, xs, ys, rfl, rfl, ha, hb, hz, q0, q1, q2⟩ := h
  cases rx
  cases ry
  obtain ⟨its, r1, p1, _⟩ := I.tuple ha
  obtain ⟨its2, r2, p2, _⟩ := I.tuple hb
  by_cases hx : its = []
  · subst hx
    exact cat_tup0 p1 p2 ⟨.ref b, H, I, rfl, q0 (r1.nil_iff.mp rfl)⟩
  · refine HT.cat_tup p1 p2 hx (fun z => ⟨.ref a, H, I, rfl, q1 (r2.nil_iff.mp z)⟩) (fun z => ?_) (by rw [← r1.length, ← r2.length]; exact hz)
    exact newT_here I (r1.append r2) (by rw [List.length_append]; exact hz) (q2 fun w => z (r2.nil_iff.mpr w))
def rSlZ (K : PySem.W.Frag) : V → Option Int → Option Int → Hp → VK → Prop := fun x lo hi H Q => ∃ a xs, x = .ref a ∧ SqT K H a xs ∧
  (HT.sIx xs.length 0 lo = 0 ∧ HT.sIx xs.length xs.length hi = xs.length → Q (.ref a) H) ∧ NewT H (cutV xs lo hi) Q
theorem sl_tupZ : SlR X (rSlZ X.K) := by
  intro pins s σ H x v vl vu lo hi sl Q I rx hs pl pu h
  obtain ⟨a, xs, rfl, hx, q1, q2⟩ := h
  cases rx
  obtain ⟨its, r, ht, hz⟩ := I.tuple hx
  have hlen : its.toArray.size = xs.length := by rw [List.size_toArray]; exact r.length.symm
  refine ⟨"tuple", _, PyProof.Rows.slot_tuple_getitem.lookup, ht.typeIs, ?_⟩
  by_cases hw : HT.sIx xs.length 0 lo = 0 ∧ HT.sIx xs.length xs.length hi = xs.length
  · exact getItem_tuple_whole ht hs pl pu (by rw [hlen]; exact hw) ⟨.ref a, H, I, rfl, q1 hw⟩
  · refine HT.getItem_tuple_cut ht hs pl pu (by rw [hlen]; exact hw) ?_ (by rw [hlen]; exact hz)
    rw [hlen]
    exact newT_here I ((r.drop (HT.sIx xs.length 0 lo)).take (HT.sIx xs.length xs.length hi - HT.sIx xs.length 0 lo)) (Nat.le_trans (cutV_length xs lo hi) hz) q2
end
end M1

/-! part B: posts, judgements of expressions, operators by values -/
namespace M1
open PySem PySem.Spec L2
variable [LT]

/-! ### what is to follow -/
section
variable {α β γ δ : Type}
def PostE (X : Cx) (W : WX) (σ : St) (g : Gh) (R : Gh → β → α → Prop) (Q : β → Hp → Prop) : Res α → Prop
  | .stuck => False
  | .ok v st => ∀ u H g', g.le g' → Rel X.K H g' st → R g' u v → Q u H
  | .err x st => ∀ cls dd H g', g.le g' → Rel X.K H g' st → ExnR X.mg X.K g'.F cls dd x → W cls dd σ H
theorem PostE.mono {X : Cx} {W : WX} {σ : St} {g g1 : Gh} {R : Gh → β → α → Prop} {Q : β → Hp → Prop} (l : g.le g1) : ∀ {r : Res α}, PostE X W σ g R Q r → PostE X W σ g1 R Q r
  | .stuck, h => h
  | .ok _ _, h => fun u H g' l' => h u H g' (l.trans l')
  | .err _ _, h => fun cls dd H g' l' => h cls dd H g' (l.trans l')
theorem PostE.bind {X : Cx} {W : WX} {σ : St} {g : Gh} {R : Gh → β → α → Prop} {R2 : Gh → γ → δ → Prop} {Q2 : γ → Hp → Prop} {k : α → Sto → Res δ} : ∀ {r : Res α}, PostE X W σ g R2 Q2 (r.bind k) →
    PostE X W σ g R (fun u H => ∃ v st g', g.le g' ∧ Rel X.K H g' st ∧ R g' u v ∧ PostE X W σ g' R2 Q2 (k v st)) r
  | .stuck, h => h
  | .ok v st, h => fun u H g' l r q => ⟨v, st, g', l, r, q, PostE.mono l h⟩
  | .err _ _, h => h
end

/-- the reading of a denotation -/
def tD (X : Cx) (W : WX) (m : Rho → Sto → Res Vl) : TE := fun σ H Q => ∃ g ρ st, Rel X.K H g st ∧ RhoR X.mg X.K g σ ρ ∧ PostE X W σ g (ValR X.mg X.K) Q (m ρ st)
def JE (X : Cx) (W : WX) (e : Expr) (m : Rho → Sto → Res Vl) : Prop := PE X e (tD X W m)
def tDT (X : Cx) (W : WX) (m : Rho → Sto → Res Bool) : TT := fun σ H Q => ∃ g ρ st, Rel X.K H g st ∧ RhoR X.mg X.K g σ ρ ∧ PostE X W σ g (fun _ (u : Bool) v => u = v) Q (m ρ st)
def JT (X : Cx) (W : WX) (e : Expr) (m : Rho → Sto → Res Bool) : Prop := PT X e (tDT X W m)
def ValsR (mg : Str → Option Value) (K : PySem.W.Frag) (g : Gh) : List V → List Vl → Prop
  | [], [] => True
  | u :: us, v :: vs => ValR mg K g u v ∧ ValsR mg K g us vs
  | _, _ => False
theorem ValsR.mono {mg : Str → Option Value} {K : PySem.W.Frag} {g g' : Gh} (l : g.le0 g') : ∀ {us : List V} {vs : List Vl}, ValsR mg K g us vs → ValsR mg K g' us vs
  | [], [], _ => trivial
  | _ :: _, _ :: _, h => ⟨ValR.mono l h.1, ValsR.mono l h.2⟩
  | [], _ :: _, h => h.elim
  | _ :: _, [], h => h.elim
def tDA (X : Cx) (W : WX) (m : Rho → Sto → Res (List Vl)) : TA := fun σ H Q => ∃ g ρ st, Rel X.K H g st ∧ RhoR X.mg X.K g σ ρ ∧ PostE X W σ g (ValsR X.mg X.K) Q (m ρ st)
def JA (X : Cx) (W : WX) (es : List Expr) (m : Rho → Sto → Res (List Vl)) : Prop := PA X es (tDA X W m)
theorem PE.imp {X : Cx} {e : Expr} {t t' : TE} (h : PE X e t) (i : ∀ σ H Q, t' σ H Q → t σ H Q) : PE X e t' := ⟨fun pins s σ H Q I q => h.run pins s σ H Q I (i σ H Q q)⟩
theorem PT.imp {X : Cx} {e : Expr} {t t' : TT} (h : PT X e t) (i : ∀ σ H Q, t' σ H Q → t σ H Q) : PT X e t' := ⟨fun pins s σ H Q I q => h.run pins s σ H Q I (i σ H Q q)⟩
theorem PW.imp {X : Cx} {e : Expr} {t t' : TT} (h : PW X e t) (i : ∀ σ H Q, t' σ H Q → t σ H Q) : PW X e t' := ⟨fun wh pins s σ H Q I q => h.run wh pins s σ H Q I (i σ H Q q)⟩
theorem PA.imp {X : Cx} {e : List Expr} {t t' : TA} (h : PA X e t) (i : ∀ σ H Q, t' σ H Q → t σ H Q) : PA X e t' := ⟨fun pos pins s σ H Q I q => h.run pos pins s σ H Q I (i σ H Q q)⟩

section
variable {X : Cx} {W : WX}
/-! ### names, constants -/
def varM (i : Nat) (ρ : Rho) (st : Sto) : Res Vl := match (ρ : List (Option Vl))[i]? with
  | some (some v) => .ok v st
  | _ => .stuck
theorem je_var {i : Nat} {x : Str} {pos : Pos} (hN : X.N[i]? = some x) (hv : Vis X.env.scope x) (hd : (x == ("__debug__" : Str)) = false) (hcd : (x == ("__classdict__" : Str)) = false) : JE X W (.Name x pos) (varM i) := by
  refine PE.imp (pe_var hN hv hd hcd) fun σ H Q ⟨g, ρ, st, R, E, q⟩ => ?_
  unfold varM at q
  split at q
  · rename_i v hv
    obtain ⟨u, h1, h2⟩ := E.2 i v hv
    exact ⟨u, h1, q u H g (Gh.le.refl g) R h2⟩
  · exact q.elim
def conM (d : PyData) (_ : Rho) (st : Sto) : Res Vl := .ok (.d d) st
theorem je_of_const {e : Expr} {v : V} {d : PyData} (h : PE X e (tC v)) (r : ∀ F, Dq X.K F v d) : JE X W e (conM d) :=
  PE.imp h fun σ H Q ⟨g, ρ, st, R, _, q⟩ => q v H g (Gh.le.refl g) R (r _)
theorem je_int {i j pos} : JE X W (.Constant (.int i) j pos) (conM (.int i)) := je_of_const pe_int fun _ => .int _
theorem je_bl {b j pos} : JE X W (.Constant (.bool b) j pos) (conM (.bool b)) := je_of_const pe_bl fun _ => .bl _
theorem je_non {j pos} : JE X W (.Constant .none j pos) (conM .none) := je_of_const pe_non fun _ => .non
theorem je_str {x j pos} : JE X W (.Constant (.str x) j pos) (conM (.str x)) := je_of_const pe_str fun _ => .str _

/-! ### two in a row -/
def bi (ma mb : Rho → Sto → Res Vl) (f : Vl → Vl → Sto → Res Vl) (ρ : Rho) (st : Sto) : Res Vl := (ma ρ st).bind fun v st => (mb ρ st).bind fun w st => f v w st
/-- an operation by values -/
def rV (X : Cx) (f : Vl → Vl → Sto → Res Vl) : R2 := fun x y H Q => ∃ g st v w, Rel X.K H g st ∧ ValR X.mg X.K g x v ∧ ValR X.mg X.K g y w ∧ PostE X (fun _ _ _ _ => False) [] g (ValR X.mg X.K) Q (f v w st)
theorem postE_noerr {α β : Type} {σ : St} {g : Gh} {R : Gh → β → α → Prop} {Q : β → Hp → Prop} {r : Res α} (hn : ∀ x st, r ≠ .err x st) (h : PostE X W σ g R Q r) : PostE X (fun _ _ _ _ => False) [] g R Q r := by
  cases r with
  | stuck => exact h
  | ok v st => exact h
  | err x st => exact absurd rfl (hn x st)
/-- the op never raises -/
def NoErr (f : Vl → Vl → Sto → Res Vl) : Prop := ∀ v w st x st', f v w st ≠ .err x st'
theorem bi_read {ma mb : Rho → Sto → Res Vl} {f : Vl → Vl → Sto → Res Vl} (hn : NoErr f) {σ : St} {H : Hp} {Q : VK} (h : tD X W (bi ma mb f) σ H Q) : tOp (rV X f) (tD X W ma) (tD X W mb) σ H Q := by
  obtain ⟨g, ρ, st, R, E, q⟩ := h
  refine ⟨g, ρ, st, R, E, ?_⟩
  have q1 := PostE.bind (R := ValR X.mg X.K) q
  revert q1
  cases ma ρ st with
  | stuck => exact id
  | err => exact id
  | ok v st1 =>
    intro q1 u H1 g1 l1 R1 r1
    obtain ⟨v', st', g', l', R', r', q'⟩ := q1 u H1 g1 l1 R1 r1
    refine ⟨g', ρ, st', R', E.mono l'.1, ?_⟩
    have q2 := PostE.bind (R := ValR X.mg X.K) q'
    revert q2
    cases mb ρ st' with
    | stuck => exact id
    | err => exact id
    | ok w st2 =>
      intro q2 u2 H2 g2 l2 R2 r2
      obtain ⟨w', st3, g3, l3, R3, r3, q3⟩ := q2 u2 H2 g2 l2 R2 r2
      exact ⟨g3, st3, v', w', R3, r'.mono l3.1, r3, postE_noerr (hn _ _ _) q3⟩
theorem je_bin {op : Operator} {a b : Expr} {pos : Pos} {ma mb : Rho → Sto → Res Vl} {f : Vl → Vl → Sto → Res Vl} (hn : NoErr f) (ho : OpR X (binaryOp op) (rV X f)) (ha : JE X W a ma) (hb : JE X W b mb) : JE X W (.BinOp a op b pos) (bi ma mb f) :=
  PE.imp (pe_op ho ha hb) fun _ _ _ h => bi_read hn h
theorem je_cmp {op : CmpOp} {a b : Expr} {pos : Pos} {ma mb : Rho → Sto → Res Vl} {f : Vl → Vl → Sto → Res Vl} (hn : NoErr f) (ho : OpR X (compareOp op) (rV X f)) (hm : behindInMarks op b = false) (ha : JE X W a ma) (hb : JE X W b mb) : JE X W (.Compare a [op] [b] pos) (bi ma mb f) :=
  PE.imp (pe_cmpR ho ha hb hm) fun _ _ _ h => bi_read hn h
theorem je_ix {a b : Expr} {pos : Pos} {ma mb : Rho → Sto → Res Vl} {f : Vl → Vl → Sto → Res Vl} (hn : NoErr f) (ho : IxR X (rV X f)) (hs : PlainIx b) (ha : JE X W a ma) (hb : JE X W b mb) : JE X W (.Subscript a b pos) (bi ma mb f) :=
  PE.imp (pe_ix ho ha hb hs) fun _ _ _ h => bi_read hn h
end
end M1

/-! part C: operators by data -/
namespace M1
open PySem PySem.Spec L2
variable [LT]

/-- the data that a value is now -/
def cellL : Option Cell → Option PyData
  | some (.lst xs) => some (.list xs)
  | _ => none
def rd (st : Sto) : Vl → Option PyData
  | .d d => some d
  | .c n => cellL (st : List Cell)[n]?
  | .x _ => none
  | .s _ => none
  | .p _ => none
  | .f => none
  | .fd _ => none
  | .pd _ _ => none
def DH (K : PySem.W.Frag) (H F : Hp) (u : V) : PyData → Prop
  | .list xs => ∃ p vs, u = .ref p ∧ H p = some (.lst vs) ∧ DqAll K F vs xs
  | d => Dq K F u d
section
variable {K : PySem.W.Frag} {mg : Str → Option Value} {H : Hp} {g : Gh} {st : Sto}
theorem Dq.dh (s : Same g.F H) {u : V} : ∀ {d : PyData}, Dq K g.F u d → DH K H g.F u d
  | .list _, h => by cases h with | lst h1 h2 => exact ⟨_, _, rfl, s _ _ h1, h2⟩
  | .none, h => h
  | .bool _, h => h
  | .int _, h => h
  | .str _, h => h
  | .tuple _, h => h
  | .dict _, h => h
theorem rd_dh (R : Rel K H g st) {u : V} {v : Vl} {d : PyData} (r : ValR mg K g u v) (e : rd st v = some d) : DH K H g.F u d := by
  cases v with
  | d d' => cases e; exact Dq.dh R.sub r
  | c n =>
    obtain ⟨p, rest, h1, rfl⟩ := r
    have e : cellL (st : List Cell)[n]? = some d := e
    cases hc : (st : List Cell)[n]? with
    | none => rw [hc] at e; cases e
    | some c =>
      rw [hc] at e
      cases c with
      | dead => cases e
      | lstc ns => cases e
      | di ns => cases e
      | dc ns => cases e
      | ts ns => cases e
      | ob _ _ => cases e
      | slot => cases e
      | ll _ => cases e
      | dws _ => cases e
      | lst xs =>
        cases e
        obtain ⟨p', vs, e1, h2, h3⟩ := R.cells n _ _ h1 hc
        cases e1
        exact ⟨p, vs, rfl, h2, h3⟩
  | x _ => cases e
  | s _ => cases e
  | p _ => cases e
  | f => cases e
  | fd _ => cases e
  | pd _ _ => cases e
theorem DH.dp (s : Same g.F H) {u : V} : ∀ {d : PyData}, DH K H g.F u d → Dp K H u d
  | .list _, ⟨p, vs, e, h1, h2⟩ => by subst e; exact .lst (SqL.of h1) (DqAll.dp (dqAll_mono s h2))
  | .none, h => Dq.dp (dq_mono s h)
  | .bool _, h => Dq.dp (dq_mono s h)
  | .int _, h => Dq.dp (dq_mono s h)
  | .str _, h => Dq.dp (dq_mono s h)
  | .tuple _, h => Dq.dp (dq_mono s h)
  | .dict _, h => Dq.dp (dq_mono s h)
theorem DH.int {F : Hp} {u : V} {i : Int} (h : DH K H F u (.int i)) : u = .int i := by cases h; rfl
theorem DH.bool {F : Hp} {u : V} {i : Bool} (h : DH K H F u (.bool i)) : u = .bl i := by cases h; rfl
theorem DH.str {F : Hp} {u : V} {i : Str} (h : DH K H F u (.str i)) : u = .str i := by cases h; rfl
theorem DH.none {F : Hp} {u : V} (h : DH K H F u .none) : u = .non := by cases h; rfl
theorem DH.tup {F : Hp} {u : V} {xs : List PyData} (h : DH K H F u (.tuple xs)) : ∃ p vs, u = .ref p ∧ TupF F p vs ∧ DqAll K F vs xs := by
  cases h with | tup h1 h2 => exact ⟨_, _, rfl, h1, h2⟩
theorem dqAll_len {F : Hp} : ∀ {xs : List PyData} {vs : List V}, DqAll K F vs xs → vs.length = xs.length
  | [], _, h => by cases h; rfl
  | _ :: _, _, h => by cases h with | cons h1 h2 => simp [dqAll_len h2]
theorem dqAll_append {F : Hp} : ∀ {xs ys : List PyData} {vs ws : List V}, DqAll K F vs xs → DqAll K F ws ys → DqAll K F (vs ++ ws) (xs ++ ys)
  | [], _, _, _, h, k => by cases h; exact k
  | _ :: _, _, _, _, h, k => by cases h with | cons h1 h2 => exact .cons h1 (dqAll_append h2 k)
theorem dqAll_drop {F : Hp} : ∀ (n : Nat) {xs : List PyData} {vs : List V}, DqAll K F vs xs → DqAll K F (vs.drop n) (xs.drop n)
  | 0, _, _, h => h
  | _ + 1, [], _, h => by cases h; exact .nil
  | n + 1, _ :: _, _, h => by cases h with | cons h1 h2 => exact dqAll_drop n h2
theorem dqAll_take {F : Hp} : ∀ (n : Nat) {xs : List PyData} {vs : List V}, DqAll K F vs xs → DqAll K F (vs.take n) (xs.take n)
  | 0, _, _, h => .nil
  | _ + 1, [], _, h => by cases h; exact .nil
  | n + 1, _ :: _, _, h => by cases h with | cons h1 h2 => exact .cons h1 (dqAll_take n h2)
theorem dqAll_get {F : Hp} : ∀ {xs : List PyData} {vs : List V} {i : Nat} {d : PyData}, DqAll K F vs xs → xs[i]? = some d → ∃ v, vs[i]? = some v ∧ Dq K F v d
  | [], _, _, _, h, e => by simp at e
  | _ :: _, _, 0, _, h, e => by cases h with | cons h1 h2 => simp at e; subst e; exact ⟨_, rfl, h1⟩
  | _ :: _, _, i + 1, _, h, e => by cases h with | cons h1 h2 => simpa using dqAll_get (i := i) h2 (by simpa using e)
theorem dqAll_set {F : Hp} {v : V} {d : PyData} (r : Dq K F v d) : ∀ {xs : List PyData} {vs : List V} (i : Nat), DqAll K F vs xs → DqAll K F (vs.set i v) (xs.set i d)
  | [], _, _, h => by cases h; exact .nil
  | _ :: _, _, 0, h => by cases h with | cons h1 h2 => exact .cons r h2
  | _ :: _, _, i + 1, h => by cases h with | cons h1 h2 => exact .cons h1 (dqAll_set r i h2)
theorem dqAll_rep {F : Hp} {xs : List PyData} {vs : List V} (h : DqAll K F vs xs) : ∀ n : Nat, DqAll K F (List.replicate n vs).flatten (List.replicate n xs).flatten
  | 0 => .nil
  | n + 1 => by
    rw [List.replicate_succ, List.replicate_succ, List.flatten_cons, List.flatten_cons]
    exact dqAll_append h (dqAll_rep h n)
theorem dqAll_ints {F : Hp} : ∀ {ns : List Int} {vs : List V}, DqAll K F vs (ns.map PyData.int) → vs = ns.map V.int
  | [], _, h => by cases h; rfl
  | _ :: _, _, h => by
    cases h with
    | cons h1 h2 => cases h1; rw [dqAll_ints h2]; rfl
theorem ints_dqAll {F : Hp} : ∀ (ns : List Int), DqAll K F (ns.map V.int) (ns.map PyData.int)
  | [] => .nil
  | _ :: ns => .cons (.int _) (ints_dqAll ns)

/-- a new object that nobody changes -/
def Gh.put (g : Gh) (p : Addr) (o : HO) : Gh := { g with F := upd g.F p o }
theorem Rel.fresh (R : Rel K H g st) {p : Addr} (hp : H p = Option.none) : g.F p = Option.none ∧ ∀ as ∈ g.at_, p ∉ as :=
  ⟨R.sub.free hp, fun as ha hm => by obtain ⟨_, e, _⟩ := R.there as ha p hm; rw [hp] at e; cases e⟩
theorem put_le (R : Rel K H g st) {p : Addr} (hp : H p = Option.none) (o : HO) : g.le (g.put p o) :=
  ⟨⟨fun b x e => (upd_ne (ne_of_none e (R.fresh hp).1)).trans e, fun _ _ r h => ⟨r, h⟩⟩, rfl⟩
theorem same_upd' {H : Hp} {p : Addr} {o : HO} (h : H p = Option.none) : Same H (upd H p o) := fun b x e => by rw [upd_ne (ne_of_none e h)]; exact e
theorem tabs_new {T : List (Addr × Str)} {H : Hp} {p : Addr} {o : HO} (t : LamX.Tabs T H) (hp : H p = Option.none) : LamX.Tabs T (upd H p o) := t.ext fun b x e => same_upd' hp b x e
/-- what is no table and no code object may change -/
theorem tabs_upd {T : List (Addr × Str)} {H : Hp} {p : Addr} {o o' : HO} (t : LamX.Tabs T H) (hp : H p = some o) (k : Plain o) : LamX.Tabs T (upd H p o') := fun x hx => by
  obtain ⟨ps, h1, h2, h3⟩ := t x hx
  have n : ∀ {b : Addr} {u : HO}, H b = some u → (∃ ps, u = .tbl ps) ∨ (∃ c q, u = LamX.CodeO c q) → b ≠ p := fun {b u} e h z => by
    rw [z, hp] at e
    cases e
    rcases h with ⟨ps, h⟩ | ⟨c, q, h⟩
    · exact k.1 _ h
    · exact k.2 _ _ h
  refine ⟨ps, (upd_ne (n h1 (.inl ⟨_, rfl⟩))).trans h1, h2, fun pos cv hc => ?_⟩
  obtain ⟨c, e, hh⟩ := h3 pos cv hc
  exact ⟨c, e, (upd_ne (n hh (.inr ⟨_, _, rfl⟩))).trans hh⟩
theorem tabs_lst {T : List (Addr × Str)} {H : Hp} {p : Addr} {o' : HO} (t : LamX.Tabs T H) (hp : ∃ o, H p = some o ∧ Plain o) : LamX.Tabs T (upd H p o') := let ⟨_, h, k⟩ := hp; tabs_upd t h k
theorem tabs_del {T : List (Addr × Str)} {H : Hp} {p : Addr} {o : HO} (t : LamX.Tabs T H) (hp : H p = some o) (k : Plain o) : LamX.Tabs T (fun b => if b = p then Option.none else H b) := fun x hx => by
  obtain ⟨ps, h1, h2, h3⟩ := t x hx
  have n : ∀ {b : Addr} {u : HO}, H b = some u → (∃ ps, u = .tbl ps) ∨ (∃ c q, u = LamX.CodeO c q) → b ≠ p := fun {b u} e h z => by
    rw [z, hp] at e
    cases e
    rcases h with ⟨ps, h⟩ | ⟨c, q, h⟩
    · exact k.1 _ h
    · exact k.2 _ _ h
  refine ⟨ps, (if_neg (n h1 (.inl ⟨_, rfl⟩))).trans h1, h2, fun pos cv hc => ?_⟩
  obtain ⟨c, e, hh⟩ := h3 pos cv hc
  exact ⟨c, e, (if_neg (n hh (.inr ⟨_, _, rfl⟩))).trans hh⟩
theorem plain_dK (kvs : List (Key × V)) : Plain (.dK kvs) := ⟨(fun _ z => by cases z), fun c q z => by have z : HO.dK kvs = HO.ext _ := z; cases z⟩
theorem paired_memL {α β : Type} {F : α → β → Prop} {l₁ : List α} {l₂ : List β} (h : Paired F l₁ l₂) {a : α} (m : a ∈ l₁) : ∃ b, F a b := by
  induction h with
  | nil => cases m
  | cons r t ih =>
    rcases List.mem_cons.mp m with e | e
    · exact ⟨_, e ▸ r⟩
    · exact ih e
theorem plain_ts (p : Addr) (o : Obj) (rows : List (List Int × Addr)) : Plain (tsO p o rows) := ⟨(fun ps z => by have z : HO.ext _ = HO.tbl ps := z; cases z), fun c q z => by
  have z : HO.ext _ = HO.ext _ := z
  injection z with z
  have hg : ∀ a, (⟨Array.replicate (c + 1) ⟨.none, none, .fields #[.none, .str q 0], #[]⟩, {}⟩ : Heap).get? a = if a < c + 1 then some ⟨.none, none, .fields #[.none, .str q 0], #[]⟩ else none := fun a => by
    unfold Heap.get?
    rw [Array.getElem?_replicate]
    by_cases ha : a < c + 1
    · rw [if_pos ha]
    · rw [if_neg ha]
  have hc : ∃ (oc : Obj) (vs : Array Value) (t : Tok), (⟨Array.replicate (c + 1) ⟨.none, none, .fields #[.none, .str q 0], #[]⟩, {}⟩ : Heap).get? c = some oc ∧ oc.data = .fields vs ∧ vs[1]? = some (.str q t) :=
    ⟨_, _, 0, (hg c).trans (if_pos (Nat.lt_succ_self c)), rfl, rfl⟩
  have hs : (⟨Array.replicate (c + 1) ⟨.none, none, .fields #[.none, .str q 0], #[]⟩, {}⟩ : Heap).get? p = some o ∧ o.ExactDict ∧ ∃ es ep, o.data = .dict es ep ∧ ∀ (P : Program) (w : World), es.toList = rows.map fun r => entryOfKey (tupleKind (intKind P w)) (r.1, r.2, .bool true) := by
    have e := congrFun z (⟨Array.replicate (c + 1) ⟨.none, none, .fields #[.none, .str q 0], #[]⟩, {}⟩ : Heap)
    have e := cast e.symm hc
    exact e
  obtain ⟨ho, _, es, ep, hd, _⟩ := hs
  rw [hg] at ho
  split at ho
  · cases ho
    cases hd
  · cases ho⟩
theorem cell_lst {K : PySem.W.Frag} {H : Hp} {g : Gh} {as : List Addr} {p : Addr} : ∀ {c : Cell}, CellR K H g as c → c ≠ .dead → p ∈ as → ∃ o, H p = some o ∧ Plain o
  | .dead, _, h, _ => absurd rfl h
  | .lst _, ⟨_, _, e, h, _⟩, _, hp => by rw [e, List.mem_singleton] at hp; rw [hp]; exact ⟨_, h, plain_lst _⟩
  | .lstc _, ⟨_, _, e, h, _⟩, _, hp => by rw [e, List.mem_singleton] at hp; rw [hp]; exact ⟨_, h, plain_lst _⟩
  | .dws _, ⟨_, _, e, h, _⟩, _, hp => by rw [e, List.mem_singleton] at hp; rw [hp]; exact ⟨_, h, plain_lst _⟩
  | .di _, ⟨_, e, h⟩, _, hp => by rw [e, List.mem_singleton] at hp; rw [hp]; exact ⟨_, h, plain_dK _⟩
  | .dc _, ⟨_, _, e, _, _, h, d⟩, _, hp => by
    rw [e] at hp
    rcases List.mem_cons.mp hp with z | z
    · rw [z]; exact ⟨_, h, plain_dK _⟩
    · obtain ⟨_, vs, h, _⟩ := paired_memL d z
      exact ⟨_, h, plain_lst _⟩
  | .ts _, ⟨_, _, _, e, _, _, h, _⟩, _, hp => by rw [e, List.mem_singleton] at hp; rw [hp]; exact ⟨_, h, plain_ts _ _ _⟩
  | .ob _ _, ⟨_, _, _, _, e, _, h, ho, _⟩, _, hp => by
    rw [e] at hp
    rcases List.mem_cons.mp hp with z | z
    · rw [z]; exact ⟨_, h, ⟨(fun _ z => by cases z), fun c q z => by have z : HO.ins _ _ _ = HO.ext _ := z; cases z⟩⟩
    · rw [List.mem_singleton] at z
      rw [z]; exact ⟨_, ho, ⟨(fun _ z => by cases z), fun c q z => by have z : HO.own _ = HO.ext _ := z; cases z⟩⟩
  | .slot, e, _, hp => by
    have e : _ = ([] : List Addr) := e
    rw [e] at hp
    cases hp
  | .ll _, ⟨_, _, e, _, h, d⟩, _, hp => by
    rw [e] at hp
    rcases List.mem_cons.mp hp with z | z
    · rw [z]; exact ⟨_, h, plain_lst _⟩
    · obtain ⟨_, vs, h, _⟩ := paired_memL d z
      exact ⟨_, h, plain_lst _⟩
theorem Rel.put (R : Rel K H g st) {p : Addr} (hp : H p = Option.none) (o : HO) (no : ∀ ps, o ≠ .tbl ps := by intro ps z; cases z) : Rel K (upd H p o) (g.put p o) st := by
  obtain ⟨f1, f2⟩ := R.fresh hp
  refine ⟨fun b x e => ?_, fun n as c h1 h2 h3 q hq => ?_, fun as ha q hq => ?_, R.nd, R.len, R.closed, R.closedO, fun n as c h1 h2 => ?_, fun q u hq => ?_, tabs_new R.tabs hp, fun b ps z => ?_⟩
  · by_cases hb : b = p
    · subst hb; exact upd_same.trans (upd_same.symm.trans e)
    · exact (upd_ne hb).trans (R.sub b x ((upd_ne hb).symm.trans e))
  · have hq' : q ≠ p := fun z => f2 as (List.mem_of_getElem? h1) (z ▸ hq)
    exact (upd_ne hq').trans (R.apart n as c h1 h2 h3 q hq)
  · have hq' : q ≠ p := fun z => f2 as ha (z ▸ hq)
    rw [upd_ne hq']
    exact R.there as ha q hq
  · exact CellR.mono (put_le R hp o).1 (fun q hq => upd_ne (fun z : q = p => f2 as (List.mem_of_getElem? h1) (z ▸ hq))) (R.cells n as c h1 h2)
  · obtain ⟨h1, h2, h3⟩ := R.aside q u hq
    have hqp : q ≠ p := fun z => by rw [z, hp] at h1; cases h1
    exact ⟨(upd_ne hqp).trans h1, (upd_ne hqp).trans h2, h3⟩
  · have z : upd g.F p o b = some (.tbl ps) := z
    by_cases hb : b = p
    · rw [hb, upd_same] at z
      exact no ps (Option.some.inj z)
    · exact R.notbl b ps ((upd_ne hb).symm.trans z)
end

def lift2 (f : PyData → PyData → Option PyData) (v w : Vl) (st : Sto) : Res Vl :=
  match rd st v, rd st w with
  | some a, some b => match f a b with
    | some d => .ok (.d d) st
    | none => .stuck
  | _, _ => .stuck
theorem lift2_noerr (f : PyData → PyData → Option PyData) : NoErr (lift2 f) := by
  intro v w st x st' h
  unfold lift2 at h
  split at h
  · split at h <;> cases h
  · cases h
section
variable {X : Cx}
theorem lift2_read {f : PyData → PyData → Option PyData} {x y : V} {H : Hp} {Q : VK} (h : rV X (lift2 f) x y H Q) :
    ∃ g st a b d, Rel X.K H g st ∧ DH X.K H g.F x a ∧ DH X.K H g.F y b ∧ f a b = some d ∧ ∀ u H' g', g.le g' → Rel X.K H' g' st → Dq X.K g'.F u d → Q u H' := by
  obtain ⟨g, st, v, w, R, r1, r2, q⟩ := h
  unfold lift2 at q
  split at q
  · rename_i a b ha hb
    split at q
    · rename_i d hd
      exact ⟨g, st, a, b, d, R, rd_dh R r1 ha, rd_dh R r2 hb, hd, q⟩
    · exact q.elim
  · exact q.elim
/-- the answer is a flat value -/
theorem ans {g : Gh} {st : Sto} {H : Hp} {Q : VK} {d : PyData} (R : Rel X.K H g st) (q : ∀ u H' g', g.le g' → Rel X.K H' g' st → Dq X.K g'.F u d → Q u H') (v : V) (hv : ∀ F, Dq X.K F v d) : Q v H :=
  q v H g (Gh.le.refl g) R (hv _)
theorem ansT {g : Gh} {st : Sto} {H : Hp} {Q : VK} {ds : List PyData} {vs : List V} (R : Rel X.K H g st) (q : ∀ u H' g', g.le g' → Rel X.K H' g' st → Dq X.K g'.F u (.tuple ds) → Q u H') (d : DqAll X.K g.F vs ds) : NewT H vs Q := fun p o hp ho =>
  q _ _ _ (put_le R hp _) (R.put hp _) (.tup ⟨o, upd_same, ho⟩ (dqAll_mono (put_le R hp _).1.1 d))
theorem ansL {g : Gh} {st : Sto} {H : Hp} {Q : VK} {ds : List PyData} {vs : List V} (R : Rel X.K H g st) (q : ∀ u H' g', g.le g' → Rel X.K H' g' st → Dq X.K g'.F u (.list ds) → Q u H') (d : DqAll X.K g.F vs ds) (p : Addr) (hp : H p = none) : Q (.ref p) (upd H p (.lst vs)) :=
  q _ _ _ (put_le R hp _) (R.put hp _) (.lst upd_same (dqAll_mono (put_le R hp _).1.1 d))
/-! ### arithmetic -/
def addD : PyData → PyData → Option PyData
  | .int i, .int j => some (.int (i + j))
  | .str a, .str b => if a.length + b.length ≤ sizeLine then some (.str (a ++ b)) else none
  | .tuple a, .tuple b => if a.length + b.length ≤ sizeLine then some (.tuple (a ++ b)) else none
  | .list a, .list b => if a.length + b.length ≤ sizeLine then some (.list (a ++ b)) else none
  | _, _ => none
theorem or_add : OpR X (binaryOp .Add) (rV X (lift2 addD)) := by
  intro pins s σ H x y v u Q I rx ry h
  obtain ⟨g, st, a, b, d, R, ha, hb, e, q⟩ := lift2_read h
  unfold addD at e
  split at e
  · cases e; obtain rfl := ha.int; obtain rfl := hb.int
    exact op_add pins s σ H _ _ v u Q I rx ry ⟨_, _, rfl, rfl, ans R q _ fun _ => .int _⟩
  · split at e
    · rename_i hz
      cases e; obtain rfl := ha.str; obtain rfl := hb.str
      exact op_add_str pins s σ H _ _ v u Q I rx ry ⟨_, _, rfl, rfl, hz, ans R q _ fun _ => .str _⟩
    · cases e
  · split at e
    · rename_i hz
      cases e
      obtain ⟨p, vs, rfl, h1, d1⟩ := ha.tup
      obtain ⟨p', ws, rfl, h1', d2⟩ := hb.tup
      refine op_catZ pins s σ H _ _ v u Q I rx ry ⟨_, _, vs, ws, rfl, rfl, sqt_mono R.sub h1.sqt, sqt_mono R.sub h1'.sqt, by rw [dqAll_len d1, dqAll_len d2]; exact hz, fun e => ?_, fun e => ?_, fun _ => ansT R q (dqAll_append d1 d2)⟩
      · subst e
        cases d1
        exact q _ _ _ (Gh.le.refl _) R (.tup h1' d2)
      · subst e
        cases d2
        rw [List.append_nil] at q
        exact q _ _ _ (Gh.le.refl _) R (.tup h1 d1)
    · cases e
  · split at e
    · rename_i hz
      cases e
      obtain ⟨p, vs, rfl, h1, d1⟩ := ha
      obtain ⟨p', ws, rfl, h1', d2⟩ := hb
      exact op_cat pins s σ H _ _ v u Q I rx ry ⟨_, _, vs, ws, rfl, rfl, h1, h1', by rw [dqAll_len d1, dqAll_len d2]; exact hz, fun p hp => ansL R q (dqAll_append d1 d2) p hp⟩
    · cases e
  · cases e
def subD : PyData → PyData → Option PyData
  | .int i, .int j => some (.int (i - j))
  | _, _ => none
theorem or_sub : OpR X (binaryOp .Sub) (rV X (lift2 subD)) := by
  intro pins s σ H x y v u Q I rx ry h
  obtain ⟨g, st, a, b, d, R, ha, hb, e, q⟩ := lift2_read h
  unfold subD at e
  split at e
  · cases e; obtain rfl := ha.int; obtain rfl := hb.int
    exact op_sub pins s σ H _ _ v u Q I rx ry ⟨_, _, rfl, rfl, ans R q _ fun _ => .int _⟩
  · cases e
/-- a product of numbers whose sizes are together below a hundred million bits -/
def mulI (i j : Int) : Option PyData := if i.natAbs.log2 + j.natAbs.log2 < 100000000 then some (.int (i * j)) else none
def modD : PyData → PyData → Option PyData
  | .int i, .int j => if 0 < j then some (.int (i % j)) else none
  | _, _ => none
theorem or_mod : OpR X (binaryOp .Mod) (rV X (lift2 modD)) := by
  intro pins s σ H x y v u Q I rx ry h
  obtain ⟨g, st, a, b, d, R, ha, hb, e, q⟩ := lift2_read h
  unfold modD at e
  split at e
  · split at e
    · rename_i hj
      cases e; obtain rfl := ha.int; obtain rfl := hb.int
      exact op_mod pins s σ H _ _ v u Q I rx ry ⟨_, _, rfl, rfl, hj, ans R q _ fun _ => .int _⟩
    · cases e
  · cases e
def divD : PyData → PyData → Option PyData
  | .int i, .int j => if 0 < j ∧ j.natAbs.log2 < 9000 then some (.int (i / j)) else none
  | _, _ => none
theorem or_div : OpR X (binaryOp .FloorDiv) (rV X (lift2 divD)) := by
  intro pins s σ H x y v u Q I rx ry h
  obtain ⟨g, st, a, b, d, R, ha, hb, e, q⟩ := lift2_read h
  unfold divD at e
  split at e
  · split at e
    · rename_i hj
      cases e; obtain rfl := ha.int; obtain rfl := hb.int
      exact op_fdivW pins s σ H _ _ v u Q I rx ry ⟨_, _, rfl, rfl, hj, ans R q _ fun _ => .int _⟩
    · cases e
  · cases e
def powD : PyData → PyData → Option PyData
  | .int i, .int j => if 0 ≤ j ∧ j ≤ 1000000 ∧ i.natAbs < 2 ^ 64 then some (.int (i ^ j.toNat)) else none
  | _, _ => none
theorem or_pow : OpR X (binaryOp .Pow) (rV X (lift2 powD)) := by
  intro pins s σ H x y v u Q I rx ry h
  obtain ⟨g, st, a, b, d, R, ha, hb, e, q⟩ := lift2_read h
  unfold powD at e
  split at e
  · split at e
    · rename_i hj
      cases e; obtain rfl := ha.int; obtain rfl := hb.int
      exact op_pow pins s σ H _ _ v u Q I rx ry ⟨_, _, rfl, rfl, hj, ans R q _ fun _ => .int _⟩
    · cases e
  · cases e
/-! ### comparisons -/
def eqD (a b : PyData) : Option PyData := if SeqAt.shaped a = true ∧ SeqAt.shaped b = true then some (.bool (PyData.eqv a b)) else match a, b with
  | .str x, .str y => some (.bool (decide (x = y)))
  | _, _ => none
def neD (a b : PyData) : Option PyData := if SeqAt.shaped a = true ∧ SeqAt.shaped b = true then some (.bool (!PyData.eqv a b)) else match a, b with
  | .str x, .str y => some (.bool (!decide (x = y)))
  | _, _ => none
theorem or_eq (hu : X.A.units + 64 < cLine) : OpR X (compareOp .Eq) (rV X (lift2 eqD)) := by
  intro pins s σ H x y v u Q I rx ry h
  obtain ⟨g, st, a, b, d, R, ha, hb, e, q⟩ := lift2_read h
  unfold eqD at e
  split at e
  · rename_i hs
    cases e
    exact op_eqD hu pins s σ H _ _ v u Q I rx ry ⟨a, b, ha.dp R.sub, hb.dp R.sub, hs.1, hs.2, ans R q _ fun _ => .bl _⟩
  · split at e
    · cases e
      obtain rfl := ha.str
      obtain rfl := hb.str
      refine op_eq pins s σ H _ _ v u Q I rx ry ⟨rfl, ?_⟩
      rename_i x y _
      have : decide (V.str x = V.str y) = decide (x = y) := by
        by_cases hxy : x = y
        · rw [hxy]; simp
        · rw [decide_eq_false hxy, decide_eq_false fun z => hxy (V.str.inj z)]
      rw [this]
      exact ans R q _ fun _ => .bl _
    · cases e
theorem or_ne (hu : X.A.units + 64 < cLine) : OpR X (compareOp .NotEq) (rV X (lift2 neD)) := by
  intro pins s σ H x y v u Q I rx ry h
  obtain ⟨g, st, a, b, d, R, ha, hb, e, q⟩ := lift2_read h
  unfold neD at e
  split at e
  · rename_i hs
    cases e
    exact op_neD hu pins s σ H _ _ v u Q I rx ry ⟨a, b, ha.dp R.sub, hb.dp R.sub, hs.1, hs.2, ans R q _ fun _ => .bl _⟩
  · split at e
    · cases e
      obtain rfl := ha.str
      obtain rfl := hb.str
      refine op_ne pins s σ H _ _ v u Q I rx ry ⟨rfl, ?_⟩
      rename_i x y _
      have : decide (V.str x = V.str y) = decide (x = y) := by
        by_cases hxy : x = y
        · rw [hxy]; simp
        · rw [decide_eq_false hxy, decide_eq_false fun z => hxy (V.str.inj z)]
      rw [this]
      exact ans R q _ fun _ => .bl _
    · cases e
def cmpD (p : Int → Int → Bool) : PyData → PyData → Option PyData
  | .int i, .int j => some (.bool (p i j))
  | _, _ => none
theorem or_int {op : CmpOp} {p : Int → Int → Bool} (ho : OpR X (compareOp op) (rI0 fun i j => .bl (p i j))) : OpR X (compareOp op) (rV X (lift2 (cmpD p))) := by
  intro pins s σ H x y v u Q I rx ry h
  obtain ⟨g, st, a, b, d, R, ha, hb, e, q⟩ := lift2_read h
  unfold cmpD at e
  split at e
  · cases e; obtain rfl := ha.int; obtain rfl := hb.int
    exact ho pins s σ H _ _ v u Q I rx ry ⟨_, _, rfl, rfl, ans R q _ fun _ => .bl _⟩
  · cases e
end
end M1

/-! part D: in, is, chains, subscripts, displays, conditions -/
namespace M1
open PySem PySem.Spec L2
variable [LT]
section
variable {X : Cx} {W : WX}
def flatD : PyData → Bool
  | .none => true
  | .bool _ => true
  | .int _ => true
  | .str _ => true
  | _ => false
theorem flat_dh {K : PySem.W.Frag} {H F : Hp} {u : V} : ∀ {d : PyData}, flatD d = true → DH K H F u d → Dq K F u d ∧ flatV u = true
  | .none, _, h => by cases h; exact ⟨.non, rfl⟩
  | .bool _, _, h => by cases h; exact ⟨.bl _, rfl⟩
  | .int _, _, h => by cases h; exact ⟨.int _, rfl⟩
  | .str _, _, h => by cases h; exact ⟨.str _, rfl⟩
  | .list _, e, _ => by cases e
  | .tuple _, e, _ => by cases e
  | .dict _, e, _ => by cases e
theorem flat_dq {K : PySem.W.Frag} {F : Hp} {u : V} {d : PyData} (e : flatD d = true) (h : Dq K F u d) : flatV u = true := by
  cases h <;> first | rfl | cases e
theorem eqV_eqv {K : PySem.W.Frag} {F : Hp} {u v : V} {a b : PyData} (ea : flatD a = true) (eb : flatD b = true) (ha : Dq K F u a) (hb : Dq K F v b) : eqV u v = PyData.eqv a b := by
  cases ha <;> cases hb <;> first | rfl | (cases ea; done) | (cases eb; done) | (simp [eqV, PyData.eqv])
theorem all_flat {K : PySem.W.Frag} {F : Hp} : ∀ {ds : List PyData} {vs : List V}, ds.all flatD = true → DqAll K F vs ds → vs.all flatV = true
  | [], _, _, h => by cases h; rfl
  | d :: ds, _, e, h => by
    cases h with
    | cons h1 h2 =>
      rw [List.all_cons, Bool.and_eq_true] at e
      rw [List.all_cons, flat_dq e.1 h1, all_flat e.2 h2]
      rfl
theorem inV_any {K : PySem.W.Frag} {F : Hp} {u : V} {d : PyData} (ed : flatD d = true) (hd : Dq K F u d) : ∀ {ds : List PyData} {vs : List V}, ds.all flatD = true → DqAll K F vs ds → inV u vs = ds.any fun z => PyData.eqv z d
  | [], _, _, h => by cases h; rfl
  | z :: ds, _, e, h => by
    cases h with
    | cons h1 h2 =>
      rw [List.all_cons, Bool.and_eq_true] at e
      have ih := inV_any ed hd e.2 h2
      unfold inV at ih ⊢
      rw [List.any_cons, List.any_cons, ih, eqV_eqv e.1 ed h1 hd]
def inL (d : PyData) (ds : List PyData) : Bool := ds.any fun z => PyData.eqv z d
/-- d in c: the answer, where the model's rule reaches -/
def inD (neg : Bool) (d c : PyData) : Option PyData :=
  match c with
  | .list ds => if SeqAt.shaped d = true ∧ SeqAt.shaped (.list ds) = true then some (.bool (if neg then !inL d ds else inL d ds)) else none
  | .tuple ds => if flatD d = true ∧ ds.all flatD = true then some (.bool (if neg then !inL d ds else inL d ds)) else none
  | .str y => match d with
    | .str x => some (.bool (if neg then !(!(Builtin.Str.occurrences y x 0 y.length 1).isEmpty) else !(Builtin.Str.occurrences y x 0 y.length 1).isEmpty))
    | _ => none
  | _ => none
theorem or_in (hu : X.A.units + 65 < cLine) : OpR X (compareOp .In) (rV X (lift2 (inD false))) := by
  intro pins s σ H x y v u Q I rx ry h
  obtain ⟨g, st, a, b, d, R, ha, hb, e, q⟩ := lift2_read h
  unfold inD at e
  split at e
  · split at e
    · rename_i hs
      cases e
      exact op_inD hu pins s σ H _ _ v u Q I rx ry ⟨a, _, ha.dp R.sub, DH.dp R.sub hb, hs.1, hs.2, ans R q _ fun _ => .bl _⟩
    · cases e
  · split at e
    · rename_i hs
      cases e
      obtain ⟨p, vs, rfl, h1, h2⟩ := hb.tup
      obtain ⟨h3, h4⟩ := flat_dh hs.1 ha
      refine op_in_seq pins s σ H _ _ v u Q I rx ry ⟨p, vs, rfl, .inr (sqt_mono R.sub h1.sqt), h4, all_flat hs.2 h2, ?_⟩
      rw [inV_any hs.1 h3 hs.2 h2]
      exact ans R q _ fun _ => .bl _
    · cases e
  · split at e
    · cases e; obtain rfl := ha.str; obtain rfl := hb.str
      exact op_in_str pins s σ H _ _ v u Q I rx ry ⟨_, _, rfl, rfl, ans R q _ fun _ => .bl _⟩
    · cases e
  · cases e
theorem or_notin (hu : X.A.units + 65 < cLine) : OpR X (compareOp .NotIn) (rV X (lift2 (inD true))) := by
  intro pins s σ H x y v u Q I rx ry h
  obtain ⟨g, st, a, b, d, R, ha, hb, e, q⟩ := lift2_read h
  unfold inD at e
  split at e
  · split at e
    · rename_i hs
      cases e
      exact op_notInD hu pins s σ H _ _ v u Q I rx ry ⟨a, _, ha.dp R.sub, DH.dp R.sub hb, hs.1, hs.2, ans R q _ fun _ => .bl _⟩
    · cases e
  · split at e
    · rename_i hs
      cases e
      obtain ⟨p, vs, rfl, h1, h2⟩ := hb.tup
      obtain ⟨h3, h4⟩ := flat_dh hs.1 ha
      refine op_notIn_seq pins s σ H _ _ v u Q I rx ry ⟨p, vs, rfl, .inr (sqt_mono R.sub h1.sqt), h4, all_flat hs.2 h2, ?_⟩
      rw [inV_any hs.1 h3 hs.2 h2]
      exact ans R q _ fun _ => .bl _
    · cases e
  · split at e
    · cases e; obtain rfl := ha.str; obtain rfl := hb.str
      exact op_notIn_str pins s σ H _ _ v u Q I rx ry ⟨_, _, rfl, rfl, ans R q _ fun _ => .bl _⟩
    · cases e
  · cases e

/-! ### is None -/
def isNv : Vl → Bool
  | .d .none => true
  | _ => false
theorem isNv_ok {K : PySem.W.Frag} {mg : Str → Option Value} {g : Gh} {u : V} : ∀ {v : Vl}, ValR mg K g u v → decide (u = V.non) = isNv v
  | .d .none, h => by cases h; rfl
  | .d (.bool _), h => by cases h; rfl
  | .d (.int _), h => by cases h; rfl
  | .d (.str _), h => by cases h; rfl
  | .d (.list _), h => by cases h; rfl
  | .d (.tuple _), h => by cases h; rfl
  | .d (.dict _), h => by cases h
  | .c _, ⟨_, _, _, e⟩ => by subst e; rfl
  | .x _, ⟨_, _, _, e, _⟩ => by subst e; rfl
  | .s _, ⟨_, e, _⟩ => by subst e; rfl
  | .p _, ⟨_, _, e, _⟩ => by subst e; rfl
  | .f, ⟨e, _⟩ => by subst e; rfl
  | .fd _, ⟨_, _, e, _⟩ => by subst e; rfl
  | .pd _ _, ⟨_, _, _, e, _⟩ => by subst e; rfl
def isM (neg : Bool) (v w : Vl) (st : Sto) : Res Vl := match w with
  | .d .none => .ok (.d (.bool (if neg then !isNv v else isNv v))) st
  | _ => .stuck
theorem isM_noerr (neg : Bool) : NoErr (isM neg) := by
  intro v w st x st' h
  unfold isM at h
  split at h <;> cases h
theorem or_is : OpR X (compareOp .Is) (rV X (isM false)) := by
  intro pins s σ H x y v u Q I rx ry h
  obtain ⟨g, st, a, b, R, ha, hb, q⟩ := h
  unfold isM at q
  split at q
  · cases hb
    refine op_isN pins s σ H _ _ v u Q I rx ry ⟨rfl, ?_⟩
    rw [isNv_ok ha]
    exact q _ _ _ (Gh.le.refl g) R (.bl _)
  · exact q.elim
theorem or_isnot : OpR X (compareOp .IsNot) (rV X (isM true)) := by
  intro pins s σ H x y v u Q I rx ry h
  obtain ⟨g, st, a, b, R, ha, hb, q⟩ := h
  unfold isM at q
  split at q
  · cases hb
    refine op_notN pins s σ H _ _ v u Q I rx ry ⟨rfl, ?_⟩
    rw [isNv_ok ha]
    exact q _ _ _ (Gh.le.refl g) R (.bl _)
  · exact q.elim

/-! ### a op b op c -/
def chainM (ma mb mc : Rho → Sto → Res Vl) (f f' : Vl → Vl → Sto → Res Vl) (ρ : Rho) (st : Sto) : Res Vl :=
  (ma ρ st).bind fun v st => (mb ρ st).bind fun w st => (f v w st).bind fun r st => match r with
    | .d (.bool true) => (mc ρ st).bind fun z st => f' w z st
    | .d (.bool false) => .ok (.d (.bool false)) st
    | _ => .stuck
/-- from a bind to the next step -/
theorem PostE.step {α β γ δ : Type} {σ : St} {g : Gh} {R : Gh → β → α → Prop} {R2 : Gh → γ → δ → Prop} {Q2 : γ → Hp → Prop} {k : α → Sto → Res δ} {Q : β → Hp → Prop} {r : Res α} (h : PostE X W σ g R2 Q2 (r.bind k))
    (f : ∀ u H v st g', g.le g' → Rel X.K H g' st → R g' u v → PostE X W σ g' R2 Q2 (k v st) → Q u H) : PostE X W σ g R Q r := by
  have q := PostE.bind (R := R) h
  cases r with
  | stuck => exact q
  | err x st => exact q
  | ok v st =>
    intro u H g' l r1 r2
    obtain ⟨v', st', g2, l2, r1', r2', q'⟩ := q u H g' l r1 r2
    exact f u H v' st' g2 l2 r1' r2' q'
theorem chain_read {ma mb mc : Rho → Sto → Res Vl} {f f' : Vl → Vl → Sto → Res Vl} (hn : NoErr f) (hn' : NoErr f') {σ : St} {H : Hp} {Q : VK} (h : tD X W (chainM ma mb mc f f') σ H Q) : tChain (rV X f) (rV X f') (tD X W ma) (tD X W mb) (tD X W mc) σ H Q := by
  obtain ⟨g, ρ, st, R, E, q⟩ := h
  refine ⟨g, ρ, st, R, E, PostE.step q fun x H1 v st1 g1 l1 R1 r1 q1 => ⟨g1, ρ, st1, R1, E.mono l1.1, PostE.step q1 fun y H2 w st2 g2 l2 R2 r2 q2 => ⟨g2, st2, v, w, R2, r1.mono l2.1, r2, ?_⟩⟩⟩
  have q3 := PostE.step (X := X) (W := W) (σ := σ) (R := ValR X.mg X.K) (Q := fun z H3 => ∃ k, z = .bl k ∧ (if k = true then tD X W mc σ H3 fun w' H4 => rV X f' y w' H4 Q else Q (.bl false) H3)) q2 fun z H3 r st3 g3 l3 R3 r3 q3 => ?_
  · exact postE_noerr (hn _ _ _) q3
  · split at q3
    · cases r3
      refine ⟨true, rfl, ?_⟩
      rw [if_pos rfl]
      refine ⟨g3, ρ, st3, R3, E.mono ((l1.trans l2).trans l3).1, PostE.step q3 fun w' H4 z' st4 g4 l4 R4 r4 q4 => ⟨g4, st4, w, z', R4, r2.mono (l3.trans l4).1, r4, postE_noerr (hn' _ _ _) q4⟩⟩
    · cases r3
      refine ⟨false, rfl, ?_⟩
      rw [if_neg Bool.false_ne_true]
      exact q3 _ _ _ (Gh.le.refl _) R3 (.bl _)
    · exact q3.elim

theorem je_chain {op op' : CmpOp} {a b c : Expr} {pos : Pos} {ma mb mc : Rho → Sto → Res Vl} {f f' : Vl → Vl → Sto → Res Vl} (hn : NoErr f) (hn' : NoErr f') (ho : OpR X (compareOp op) (rV X f)) (ho' : OpR X (compareOp op') (rV X f'))
    (hm : lastMarks [op, op'] [b, c] = false) (ha : JE X W a ma) (hb : JE X W b mb) (hc : JE X W c mc) : JE X W (.Compare a [op, op'] [b, c] pos) (chainM ma mb mc f f') :=
  PE.imp (pe_chain ho ho' ha hb hc hm) fun _ _ _ h => chain_read hn hn' h

/-! ### subscripts -/
def ixD : PyData → PyData → Option PyData
  | .list xs, .int i => atI xs i
  | .tuple xs, .int i => atI xs i
  | .str z, .int i => if z.length ≤ sizeLine then (atI z.cps.toList i).map fun c => .str ⟨#[c]⟩ else none
  | _, _ => none
/-- x[i]; the script too -/
def ixM (v w : Vl) (st : Sto) : Res Vl := match v, w with
  | .s ns, .d (.int i) => match atI ns i with
    | some n => .ok (.d (.int n)) st
    | none => .stuck
  | v, w => lift2 ixD v w st
theorem ixM_noerr : NoErr ixM := by
  intro v w st x st' h
  unfold ixM at h
  split at h
  · split at h <;> cases h
  · exact lift2_noerr _ _ _ _ _ _ h
theorem atI_dq {K : PySem.W.Frag} {F : Hp} {ds : List PyData} {vs : List V} {i : Int} {d : PyData} (h : DqAll K F vs ds) (e : atI ds i = some d) : ∃ v, atI vs i = some v ∧ Dq K F v d := by
  unfold atI at e ⊢
  rw [dqAll_len h]
  cases hj : ixN ds.length i with
  | none => rw [hj] at e; cases e
  | some j => rw [hj] at e; exact dqAll_get h e
theorem ixr : IxR X (rV X ixM) := by
  intro value slice pins s σ H x y v u Q I rx ry h hs0
  obtain ⟨g, st, a, b, R, ha, hb, q⟩ := h
  unfold ixM at q
  split at q
  · rename_i ns i
    split at q
    · rename_i n hn
      obtain ⟨p, rfl, hs⟩ := ha
      cases hb
      have e : atI (ns.map V.int) i = some (.int n) := by
        unfold atI at hn ⊢
        rw [List.length_map]
        cases hj : ixN ns.length i with
        | none => rw [hj] at hn; cases hn
        | some j =>
          rw [hj] at hn
          have hn : ns[j]? = some n := hn
          show (ns.map V.int)[j]? = _
          rw [List.getElem?_map, hn]
          rfl
      exact ix_list value slice pins s σ H _ _ v u Q I rx ry ⟨p, _, i, _, rfl, rfl, R.sub.seq hs, e, q _ _ _ (Gh.le.refl g) R (.int _)⟩ hs0
    · exact q.elim
  · obtain ⟨g, st, a, b, d, R, ha, hb, e, q⟩ := lift2_read ⟨g, st, _, _, R, ha, hb, q⟩
    unfold ixD at e
    split at e
    · obtain ⟨p, vs, rfl, h1, h2⟩ := ha
      obtain rfl := hb.int
      obtain ⟨v', e', hv⟩ := atI_dq h2 e
      exact ix_list value slice pins s σ H _ _ v u Q I rx ry ⟨p, vs, _, v', rfl, rfl, SqL.of h1, e', q _ _ _ (Gh.le.refl g) R hv⟩ hs0
    · obtain ⟨p, vs, rfl, h1, h2⟩ := ha.tup
      obtain rfl := hb.int
      obtain ⟨v', e', hv⟩ := atI_dq h2 e
      exact ix_tup value slice pins s σ H _ _ v u Q I rx ry ⟨p, vs, _, v', rfl, rfl, sqt_mono R.sub h1.sqt, e', q _ _ _ (Gh.le.refl g) R hv⟩ hs0
    · split at e
      · rename_i z i hz
        obtain rfl := ha.str
        obtain rfl := hb.int
        cases hc : atI z.cps.toList i with
        | none => rw [hc] at e; cases e
        | some c =>
          rw [hc] at e
          cases e
          exact ix_str value slice pins s σ H _ _ v u Q I rx ry ⟨z, i, c, rfl, rfl, hz, hc, ans R q _ fun _ => .str _⟩ hs0
      · cases e
    · cases e

/-! ### arguments, displays -/
def nilA (_ : Rho) (st : Sto) : Res (List Vl) := .ok [] st
def consA (m : Rho → Sto → Res Vl) (ms : Rho → Sto → Res (List Vl)) (ρ : Rho) (st : Sto) : Res (List Vl) := (m ρ st).bind fun v st => (ms ρ st).bind fun vs st => .ok (v :: vs) st
theorem ja_nil : JA X W [] nilA := PA.imp pa_nil fun σ H Q ⟨g, ρ, st, R, E, q⟩ => q [] H g (Gh.le.refl g) R trivial
theorem ja_cons {e : Expr} {es : List Expr} {m : Rho → Sto → Res Vl} {ms : Rho → Sto → Res (List Vl)} (hs : starEach (e :: es) X.env = (false, eval e X.env) :: starEach es X.env) (h : JE X W e m) (hr : JA X W es ms) : JA X W (e :: es) (consA m ms) :=
  PA.imp (pa_cons h hr hs) fun σ H Q ⟨g, ρ, st, R, E, q⟩ => ⟨g, ρ, st, R, E, PostE.step q fun x H1 v st1 g1 l1 R1 r1 q1 => ⟨g1, ρ, st1, R1, E.mono l1.1, PostE.step q1 fun xs H2 vs st2 g2 l2 R2 r2 q2 => q2 _ _ _ (Gh.le.refl _) R2 ⟨r1.mono l2.1, r2⟩⟩⟩
def datas : List Vl → Option (List PyData)
  | [] => some []
  | .d d :: r => (datas r).map (d :: ·)
  | _ :: _ => none
theorem datas_dq {mg : Str → Option Value} {K : PySem.W.Frag} {g : Gh} : ∀ {us : List V} {vs : List Vl} {ds : List PyData}, ValsR mg K g us vs → datas vs = some ds → DqAll K g.F us ds
  | [], [], _, _, e => by cases e; exact .nil
  | u :: us, .d d :: vs, ds, h, e => by
    unfold datas at e
    cases hd : datas vs with
    | none => rw [hd] at e; cases e
    | some r => rw [hd] at e; cases e; exact .cons h.1 (datas_dq h.2 hd)
  | _ :: _, .c _ :: _, _, _, e => by cases e
  | _ :: _, .x _ :: _, _, _, e => by cases e
  | _ :: _, .s _ :: _, _, _, e => by cases e
  | _ :: _, .p _ :: _, _, _, e => by cases e
  | _ :: _, .f :: _, _, _, e => by cases e
  | _ :: _, .fd _ :: _, _, _, e => by cases e
  | _ :: _, .pd _ _ :: _, _, _, e => by cases e
  | [], _ :: _, _, h, _ => h.elim
  | _ :: _, [], _, h, _ => h.elim
def tupM (ms : Rho → Sto → Res (List Vl)) (ρ : Rho) (st : Sto) : Res Vl := (ms ρ st).bind fun vs st => match datas vs with
  | some ds => if ds.length ≤ 1000 then .ok (.d (.tuple ds)) st else .stuck
  | none => .stuck
theorem line1000 {n : Nat} (h : n ≤ 1000) : n ≤ sizeLine := Nat.le_of_lt (small1000 h)
theorem je_tup {es : List Expr} {ms : Rho → Sto → Res (List Vl)} {k : Nat} {pos : Pos} (h : JA X W es ms) : JE X W (.Tuple es k pos) (tupM ms) :=
  PE.imp (pe_tupZ h) fun σ H Q ⟨g, ρ, st, R, E, q⟩ => ⟨g, ρ, st, R, E, PostE.step q fun xs H1 vs st1 g1 l1 R1 r1 q1 => by
    split at q1
    · rename_i ds hd
      split at q1
      · rename_i hz
        have hq := datas_dq r1 hd
        exact ⟨line1000 (by rw [dqAll_len hq]; exact hz), ansT R1 q1 hq⟩
      · exact q1.elim
    · exact q1.elim⟩

/-! ### an expression that makes a new list -/
def PostF (X : Cx) (W : WX) (σ : St) (g : Gh) (Q : VK) : Res (List PyData) → Prop
  | .stuck => False
  | .ok ds st => ∀ H g', g.le g' → Rel X.K H g' st → ∀ vs, DqAll X.K g'.F vs ds → ∀ p, H p = none → Q (.ref p) (upd H p (.lst vs))
  | .err x st => ∀ cls dd H g', g.le g' → Rel X.K H g' st → ExnR X.mg X.K g'.F cls dd x → W cls dd σ H
def tF (X : Cx) (W : WX) (m : Rho → Sto → Res (List PyData)) : TE := fun σ H Q => ∃ g ρ st, Rel X.K H g st ∧ RhoR X.mg X.K g σ ρ ∧ PostF X W σ g Q (m ρ st)
def JF (X : Cx) (W : WX) (e : Expr) (m : Rho → Sto → Res (List PyData)) : Prop := PE X e (tF X W m)
theorem PostF.mono {σ : St} {g g1 : Gh} {Q : VK} (l : g.le g1) : ∀ {r : Res (List PyData)}, PostF X W σ g Q r → PostF X W σ g1 Q r
  | .stuck, h => h
  | .ok _ _, h => fun H g' l' => h H g' (l.trans l')
  | .err _ _, h => fun cls dd H g' l' => h cls dd H g' (l.trans l')
theorem PostF.bind {α β : Type} {σ : St} {g : Gh} {R : Gh → β → α → Prop} {Q2 : VK} {k : α → Sto → Res (List PyData)} {Q : β → Hp → Prop} {r : Res α} (h : PostF X W σ g Q2 (r.bind k))
    (f : ∀ u H v st g', g.le g' → Rel X.K H g' st → R g' u v → PostF X W σ g' Q2 (k v st) → Q u H) : PostE X W σ g R Q r := by
  cases r with
  | stuck => exact h
  | err x st => exact h
  | ok v st => exact fun u H g' l r1 r2 => f u H v st g' l r1 r2 (PostF.mono l h)
/-- kept as it is from here on -/
def frzM (m : Rho → Sto → Res (List PyData)) (ρ : Rho) (st : Sto) : Res Vl := (m ρ st).bind fun ds st => .ok (.d (.list ds)) st
theorem JF.frz {e : Expr} {m : Rho → Sto → Res (List PyData)} (h : JF X W e m) : JE X W e (frzM m) := PE.imp h fun σ H Q ⟨g, ρ, st, R, E, q⟩ => ⟨g, ρ, st, R, E, by
  unfold frzM at q
  revert q
  cases m ρ st with
  | stuck => exact id
  | err x st => exact id
  | ok ds st => exact fun q H g' l R' vs d p hp => ansL R' (fun u H2 g2 l2 R2 d2 => q u H2 g2 (l.trans l2) R2 d2) d p hp⟩
/-- a new cell of the store -/
def newM (m : Rho → Sto → Res (List PyData)) (ρ : Rho) (st : Sto) : Res Vl := (m ρ st).bind fun ds st => .ok (.c st.length) (st ++ [.lst ds])
theorem Rel.cellO {K : PySem.W.Frag} {H : Hp} {g : Gh} {st : Sto} (R : Rel K H g st) {p : Addr} (hp : H p = none) {o : HO} (no : ∀ ps, o ≠ .tbl ps) {c : Cell} (hc : CellR K (upd H p o) g [p] c) (cl : ∀ ns, c = .lstc ns → ∀ m ∈ ns, m < st.length) (clO : ∀ (cls : Str) (fs : List (Str × Nat)), c = .ob cls fs → ∀ f ∈ fs, f.2 < st.length := by intro _ _ e; cases e) :
    Rel K (upd H p o) { g with at_ := g.at_ ++ [[p]] } (st ++ [c]) ∧ g.le { g with at_ := g.at_ ++ [[p]] } := by
  obtain ⟨f1, f2⟩ := R.fresh hp
  have l : g.le { g with at_ := g.at_ ++ [[p]] } := ⟨⟨Same.refl _, fun n q r h => ⟨r, (List.getElem?_append_left (List.getElem?_eq_some_iff.mp h).1).trans h⟩⟩, rfl⟩
  have hl := R.len
  -- an entry of the longer list
  have old : ∀ (n : Nat) (as : List Addr) (d : Cell), (g.at_ ++ [[p]])[n]? = some as → ((st : List Cell) ++ [c])[n]? = some d → (g.at_[n]? = some as ∧ (st : List Cell)[n]? = some d) ∨ (n = st.length ∧ as = [p] ∧ d = c) := fun n as d h1 h2 => by
    by_cases hn : n < g.at_.length
    · rw [List.getElem?_append_left hn] at h1
      rw [List.getElem?_append_left (by omega)] at h2
      exact .inl ⟨h1, h2⟩
    · rw [List.getElem?_append_right (by omega)] at h1 h2
      have hz : n - g.at_.length = 0 := by
        have := (List.getElem?_eq_some_iff.mp h1).1
        simp at this
        omega
      rw [hz] at h1
      rw [← hl, hz] at h2
      cases h1
      cases h2
      exact .inr ⟨by omega, rfl, rfl⟩
  refine ⟨⟨fun b x e => by rw [upd_ne (ne_of_none (R.sub b x e) hp)]; exact R.sub b x e, fun n as d h1 h2 h3 q hq => ?_, fun as ha q hq => ?_, fun n m as bs d e h1 h2 h3 h4 h5 h6 h7 q hq hq2 => ?_, by rw [List.length_append, List.length_append, hl]; rfl, fun n ns h m hm => ?_, fun n cls fs h f hf => ?_, fun n as d h1 h2 => ?_, fun q u hq => ?_, tabs_new R.tabs hp, R.notbl⟩, l⟩
  · rcases old n as d h1 h2 with ⟨h1, h2⟩ | ⟨_, e, _⟩
    · exact R.apart n as d h1 h2 h3 q hq
    · rw [e, List.mem_singleton] at hq
      rw [hq]
      exact f1
  · rcases List.mem_append.mp ha with h3 | h3
    · by_cases hqp : q = p
      · exact absurd (hqp ▸ hq) (f2 as h3)
      · rw [upd_ne hqp]; exact R.there as h3 q hq
    · rw [List.mem_singleton] at h3
      rw [h3, List.mem_singleton] at hq
      exact ⟨_, by rw [hq]; exact upd_same, no⟩
  · rcases old n as d h1 h3 with ⟨h1, h3⟩ | ⟨e1, e2, _⟩
    · rcases old m bs e h2 h4 with ⟨h2, h4⟩ | ⟨_, e3, _⟩
      · exact R.nd n m as bs d e h1 h2 h3 h4 h5 h6 h7 q hq hq2
      · rw [e3, List.mem_singleton] at hq2
        rw [hq2] at hq
        exact f2 as (List.mem_of_getElem? h1) hq
    · rw [e2, List.mem_singleton] at hq
      rcases old m bs e h2 h4 with ⟨h2, h4⟩ | ⟨e3, _, _⟩
      · rw [hq] at hq2
        exact f2 bs (List.mem_of_getElem? h2) hq2
      · exact h7 (e1.trans e3.symm)
  · by_cases hn : n < st.length
    · rw [List.getElem?_append_left hn] at h
      exact R.closed n ns h m hm
    · rw [List.getElem?_append_right (by omega)] at h
      have hz : n - st.length = 0 := by
        have := (List.getElem?_eq_some_iff.mp h).1
        simp at this
        omega
      rw [hz] at h
      cases h
      have := cl ns rfl m hm
      omega
  · by_cases hn : n < st.length
    · rw [List.getElem?_append_left hn] at h
      exact R.closedO n cls fs h f hf
    · rw [List.getElem?_append_right (by omega)] at h
      have hz : n - st.length = 0 := by
        have := (List.getElem?_eq_some_iff.mp h).1
        simp at this
        omega
      rw [hz] at h
      cases h
      have := clO cls fs rfl f hf
      omega
  · rcases old n as d h1 h2 with ⟨h1, h2⟩ | ⟨_, e, ed⟩
    · exact CellR.mono l.1 (fun q hq => upd_ne (fun z : q = p => f2 as (List.mem_of_getElem? h1) (z ▸ hq))) (R.cells n as d h1 h2)
    · subst e
      subst ed
      exact CellR.mono l.1 (fun _ _ => rfl) hc
  · obtain ⟨h1, h2, h3⟩ := R.aside q u hq
    have hqp : q ≠ p := fun z => by rw [z, hp] at h1; cases h1
    refine ⟨(upd_ne hqp).trans h1, h2, fun as ha => ?_, h3.2⟩
    rcases List.mem_append.mp ha with h4 | h4
    · exact h3.1 as h4
    · rw [List.mem_singleton] at h4
      rw [h4, List.mem_singleton]
      exact hqp
theorem Rel.cellC {K : PySem.W.Frag} {H : Hp} {g : Gh} {st : Sto} (R : Rel K H g st) {p : Addr} (hp : H p = none) {vs : List V} {c : Cell} (hc : CellR K (upd H p (.lst vs)) g [p] c) (cl : ∀ ns, c = .lstc ns → ∀ m ∈ ns, m < st.length) :
    Rel K (upd H p (.lst vs)) { g with at_ := g.at_ ++ [[p]] } (st ++ [c]) ∧ g.le { g with at_ := g.at_ ++ [[p]] } := R.cellO hp (fun ps z => by cases z) hc cl (fun cls fs e => by subst e; obtain ⟨_, _, _, _, e, _⟩ := hc; cases e)
theorem Rel.cell {K : PySem.W.Frag} {H : Hp} {g : Gh} {st : Sto} (R : Rel K H g st) {p : Addr} (hp : H p = none) {vs : List V} {ds : List PyData} (d : DqAll K g.F vs ds) :
    Rel K (upd H p (.lst vs)) { g with at_ := g.at_ ++ [[p]] } (st ++ [.lst ds]) ∧ g.le { g with at_ := g.at_ ++ [[p]] } :=
  R.cellC hp (c := .lst ds) ⟨p, vs, rfl, upd_same, d⟩ fun ns e => by cases e
theorem JF.new {e : Expr} {m : Rho → Sto → Res (List PyData)} (h : JF X W e m) : JE X W e (newM m) := PE.imp h fun σ H Q ⟨g, ρ, st, R, E, q⟩ => ⟨g, ρ, st, R, E, by
  unfold newM at q
  revert q
  cases m ρ st with
  | stuck => exact id
  | err x st => exact id
  | ok ds st =>
    exact fun q H g' l R' vs d p hp => by
      obtain ⟨R2, l2⟩ := R'.cell hp d
      refine q _ _ _ (l.trans l2) R2 ⟨p, [], ?_, rfl⟩
      show (g'.at_ ++ [[p]])[st.length]? = _
      rw [← R'.len, List.getElem?_append_right (Nat.le_refl _)]
      simp⟩
def lstM (ms : Rho → Sto → Res (List Vl)) (ρ : Rho) (st : Sto) : Res (List PyData) := (ms ρ st).bind fun vs st => match datas vs with
  | some ds => if ds.length ≤ 1000 then .ok ds st else .stuck
  | none => .stuck
theorem jf_lst {es : List Expr} {ms : Rho → Sto → Res (List Vl)} {pos : Pos} (h : JA X W es ms) : JF X W (.List es pos) (lstM ms) :=
  PE.imp (pe_lst h) fun σ H Q ⟨g, ρ, st, R, E, q⟩ => ⟨g, ρ, st, R, E, PostF.bind q fun xs H1 vs st1 g1 l1 R1 r1 q1 => by
    split at q1
    · rename_i ds hd
      split at q1
      · rename_i hz
        have hq := datas_dq r1 hd
        exact ⟨line1000 (by rw [dqAll_len hq]; exact hz), fun p hp => q1 H1 g1 (Gh.le.refl _) R1 xs hq p hp⟩
      · exact q1.elim
    · exact q1.elim⟩
end
end M1

/-! part E: tests, not, and, or, conditional expressions -/
namespace M1
open PySem PySem.Spec L2
variable [LT]
section
variable {X : Cx} {W : WX}
def asB : Vl → Sto → Res Bool
  | .d (.bool b), st => .ok b st
  | _, _ => .stuck
def toB (m : Rho → Sto → Res Vl) (ρ : Rho) (st : Sto) : Res Bool := (m ρ st).bind asB
theorem asB_bl {g g' : Gh} {H : Hp} {σ : St} {u : V} {v : Vl} {st : Sto} {Q : Bool → Hp → Prop} (R : Rel X.K H g st) (r : ValR X.mg X.K g u v) (q : PostE X W σ g (fun _ (u : Bool) v => u = v) Q (asB v st)) : ∃ k, u = .bl k ∧ Q k H := by
  unfold asB at q
  split at q
  · cases r
    exact ⟨_, rfl, q _ _ _ (Gh.le.refl g) R rfl⟩
  · exact q.elim
theorem jt_val {e : Expr} {m : Rho → Sto → Res Vl} (h : JE X W e m) (he : ∀ whole, isTrue e X.env whole = (do let v ← whole; standAt e.pos; holding [v] (truthy v))) : JT X W e (toB m) :=
  PT.imp (pt_val h he) fun σ H Q ⟨g, ρ, st, R, E, q⟩ => ⟨g, ρ, st, R, E, PostE.step q fun u H1 v st1 g1 l1 R1 r1 q1 => asB_bl (g' := g1) R1 r1 q1⟩
theorem jt_cmp {op : CmpOp} {a b : Expr} {pos : Pos} {ma mb : Rho → Sto → Res Vl} {f : Vl → Vl → Sto → Res Vl} (hn : NoErr f) (ho : OpR X (compareOp op) (rV X f)) (hm : behindInMarks op b = false) (ha : JE X W a ma) (hb : JE X W b mb) : JT X W (.Compare a [op] [b] pos) (toB (bi ma mb f)) := by
  refine PT.imp (pt_cmpR ho ha hb hm) fun σ H Q ⟨g, ρ, st, R, E, q⟩ => ?_
  refine bi_read (W := W) hn ⟨g, ρ, st, R, E, PostE.step q fun u H1 v st1 g1 l1 R1 r1 q1 => asB_bl (g' := g1) R1 r1 q1⟩
theorem jt_chain {op op' : CmpOp} {a b c : Expr} {pos : Pos} {ma mb mc : Rho → Sto → Res Vl} {f f' : Vl → Vl → Sto → Res Vl} (hn : NoErr f) (hn' : NoErr f') (ho : OpR X (compareOp op) (rV X f)) (ho' : OpR X (compareOp op') (rV X f'))
    (hm : lastMarks [op, op'] [b, c] = false) (ha : JE X W a ma) (hb : JE X W b mb) (hc : JE X W c mc) : JT X W (.Compare a [op, op'] [b, c] pos) (toB (chainM ma mb mc f f')) := by
  refine PT.imp (pt_chain ho ho' ha hb hc hm) fun σ H Q ⟨g, ρ, st, R, E, q⟩ => ?_
  have q : tD X W (chainM ma mb mc f f') σ H (fun x H1 => ∃ k, x = .bl k ∧ Q k H1) := ⟨g, ρ, st, R, E, PostE.step q fun u H1 v st1 g1 l1 R1 r1 q1 => asB_bl (g' := g1) R1 r1 q1⟩
  exact chain_read hn hn' q

/-! ### not -/
def notB (m : Rho → Sto → Res Bool) (ρ : Rho) (st : Sto) : Res Bool := (m ρ st).bind fun b st => .ok (!b) st
theorem jt_not {a : Expr} {pos : Pos} {m : Rho → Sto → Res Bool} (h : JT X W a m) : JT X W (.UnaryOp .Not a pos) (notB m) :=
  PT.imp (pt_not h) fun σ H Q ⟨g, ρ, st, R, E, q⟩ => ⟨g, ρ, st, R, E, PostE.step q fun u H1 v st1 g1 l1 R1 r1 q1 => by subst r1; exact q1 _ _ _ (Gh.le.refl _) R1 rfl⟩
/-! ### and, or -/
def andM (ma mb : Rho → Sto → Res Vl) (ρ : Rho) (st : Sto) : Res Vl := (toB ma ρ st).bind fun b st => if b = true then mb ρ st else .ok (.d (.bool false)) st
def orM (ma mb : Rho → Sto → Res Vl) (ρ : Rho) (st : Sto) : Res Vl := (toB ma ρ st).bind fun b st => if b = true then .ok (.d (.bool true)) st else mb ρ st
theorem je_one {op : BoolOp} {a : Expr} {pos : Pos} {m : Rho → Sto → Res Vl} (h : JE X W a m) : JE X W (.BoolOp op [a] pos) m := pe_one h
theorem je_and {a b : Expr} {rest : List Expr} {pos : Pos} {ma mb : Rho → Sto → Res Vl} (ha : JE X W a ma) (hb : JE X W (.BoolOp .And (b :: rest) pos) mb) : JE X W (.BoolOp .And (a :: b :: rest) pos) (andM ma mb) :=
  PE.imp (pe_and ha hb) fun σ H Q ⟨g, ρ, st, R, E, q⟩ => ⟨g, ρ, st, R, E, by
    unfold andM toB at q
    revert q
    cases ma ρ st with
    | stuck => exact id
    | err => exact id
    | ok v st1 =>
      intro q u H1 g1 l1 R1 r1
      rw [Res.bind_ok] at q
      unfold asB at q
      split at q
      · cases r1
        refine ⟨_, rfl, ?_⟩
        rename_i b
        cases b with
        | true => exact ⟨g1, ρ, _, R1, E.mono l1.1, PostE.mono l1 q⟩
        | false => exact q _ _ _ l1 R1 (.bl _)
      · exact q.elim⟩
theorem je_or {a b : Expr} {rest : List Expr} {pos : Pos} {ma mb : Rho → Sto → Res Vl} (ha : JE X W a ma) (hb : JE X W (.BoolOp .Or (b :: rest) pos) mb) : JE X W (.BoolOp .Or (a :: b :: rest) pos) (orM ma mb) :=
  PE.imp (pe_or ha hb) fun σ H Q ⟨g, ρ, st, R, E, q⟩ => ⟨g, ρ, st, R, E, by
    unfold orM toB at q
    revert q
    cases ma ρ st with
    | stuck => exact id
    | err => exact id
    | ok v st1 =>
      intro q u H1 g1 l1 R1 r1
      rw [Res.bind_ok] at q
      unfold asB at q
      split at q
      · cases r1
        refine ⟨_, rfl, ?_⟩
        rename_i b
        cases b with
        | true => exact q _ _ _ l1 R1 (.bl _)
        | false => exact ⟨g1, ρ, _, R1, E.mono l1.1, PostE.mono l1 q⟩
      · exact q.elim⟩
def andB (ma mb : Rho → Sto → Res Bool) (ρ : Rho) (st : Sto) : Res Bool := (ma ρ st).bind fun b st => if b = true then mb ρ st else .ok false st
def orB (ma mb : Rho → Sto → Res Bool) (ρ : Rho) (st : Sto) : Res Bool := (ma ρ st).bind fun b st => if b = true then .ok true st else mb ρ st
def JW (X : Cx) (W : WX) (e : Expr) (m : Rho → Sto → Res Bool) : Prop := PW X e (tDT X W m)
theorem jw_and1 {a : Expr} {pos : Pos} {m : Rho → Sto → Res Bool} (h : JT X W a m) : JW X W (.BoolOp .And [a] pos) m := pw_and1 h
theorem jw_or1 {a : Expr} {pos : Pos} {m : Rho → Sto → Res Bool} (h : JT X W a m) : JW X W (.BoolOp .Or [a] pos) m := pw_or1 h
theorem jw_and {a b : Expr} {rest : List Expr} {pos : Pos} {ma mb : Rho → Sto → Res Bool} (ha : JT X W a ma) (hb : JW X W (.BoolOp .And (b :: rest) pos) mb) : JW X W (.BoolOp .And (a :: b :: rest) pos) (andB ma mb) :=
  PW.imp (pw_and ha hb) fun σ H Q ⟨g, ρ, st, R, E, q⟩ => ⟨g, ρ, st, R, E, PostE.step q fun u H1 v st1 g1 l1 R1 r1 q1 => by
    subst r1
    cases u with
    | true => exact ⟨g1, ρ, st1, R1, E.mono l1.1, q1⟩
    | false => exact q1 _ _ _ (Gh.le.refl _) R1 rfl⟩
theorem jw_or {a b : Expr} {rest : List Expr} {pos : Pos} {ma mb : Rho → Sto → Res Bool} (ha : JT X W a ma) (hb : JW X W (.BoolOp .Or (b :: rest) pos) mb) : JW X W (.BoolOp .Or (a :: b :: rest) pos) (orB ma mb) :=
  PW.imp (pw_or ha hb) fun σ H Q ⟨g, ρ, st, R, E, q⟩ => ⟨g, ρ, st, R, E, PostE.step q fun u H1 v st1 g1 l1 R1 r1 q1 => by
    subst r1
    cases u with
    | true => exact q1 _ _ _ (Gh.le.refl _) R1 rfl
    | false => exact ⟨g1, ρ, st1, R1, E.mono l1.1, q1⟩⟩
/-! ### a if t else b -/
def iteM (t : Rho → Sto → Res Bool) (ma mb : Rho → Sto → Res Vl) (ρ : Rho) (st : Sto) : Res Vl := (t ρ st).bind fun b st => if b = true then ma ρ st else mb ρ st
theorem je_ite {c a b : Expr} {pos : Pos} {t : Rho → Sto → Res Bool} {ma mb : Rho → Sto → Res Vl} (hc : JT X W c t) (ha : JE X W a ma) (hb : JE X W b mb) : JE X W (.IfExp c a b pos) (iteM t ma mb) :=
  PE.imp (pe_ifExp hc ha hb) fun σ H Q ⟨g, ρ, st, R, E, q⟩ => ⟨g, ρ, st, R, E, PostE.step q fun u H1 v st1 g1 l1 R1 r1 q1 => by
    subst r1
    cases u with
    | true => exact ⟨g1, ρ, st1, R1, E.mono l1.1, q1⟩
    | false => exact ⟨g1, ρ, st1, R1, E.mono l1.1, q1⟩⟩
/-! ### -a -/
def negM (m : Rho → Sto → Res Vl) (ρ : Rho) (st : Sto) : Res Vl := (m ρ st).bind fun v st => match rd st v with
  | some (.int i) => .ok (.d (.int (-i))) st
  | _ => .stuck
theorem je_neg {a : Expr} {pos : Pos} {m : Rho → Sto → Res Vl} (h : JE X W a m) : JE X W (.UnaryOp .USub a pos) (negM m) :=
  PE.imp (pe_un un_neg h) fun σ H Q ⟨g, ρ, st, R, E, q⟩ => ⟨g, ρ, st, R, E, PostE.step q fun u H1 v st1 g1 l1 R1 r1 q1 => by
    split at q1
    · rename_i i hi
      obtain rfl := (rd_dh R1 r1 hi).int
      exact ⟨_, rfl, q1 _ _ _ (Gh.le.refl _) R1 (.int _)⟩
    · exact q1.elim⟩
end
end M1

/-! part F: calls of built-in functions and classes by values -/
namespace M1
open PySem PySem.Spec L2
variable [LT]
section
variable {X : Cx} {W : WX}
def rVs (X : Cx) (f : List Vl → Sto → Res Vl) : List V → Hp → VK → Prop := fun us H Q => ∃ g st vs, Rel X.K H g st ∧ ValsR X.mg X.K g us vs ∧ PostE X (fun _ _ _ _ => False) [] g (ValR X.mg X.K) Q (f vs st)
def rFs (X : Cx) (f : List Vl → Sto → Res (List PyData)) : List V → Hp → VK → Prop := fun us H Q => ∃ g st vs, Rel X.K H g st ∧ ValsR X.mg X.K g us vs ∧ PostF X (fun _ _ _ _ => False) [] g Q (f vs st)
def NoErrs {α : Type} (f : List Vl → Sto → Res α) : Prop := ∀ vs st x st', f vs st ≠ .err x st'
def appM {α : Type} (ms : Rho → Sto → Res (List Vl)) (f : List Vl → Sto → Res α) (ρ : Rho) (st : Sto) : Res α := (ms ρ st).bind fun vs st => f vs st
theorem postF_noerr {σ : St} {g : Gh} {Q : VK} {r : Res (List PyData)} (hn : ∀ x st, r ≠ .err x st) (h : PostF X W σ g Q r) : PostF X (fun _ _ _ _ => False) [] g Q r := by
  cases r with
  | stuck => exact h
  | ok v st => exact h
  | err x st => exact absurd rfl (hn x st)
theorem callB_read {ms : Rho → Sto → Res (List Vl)} {f : List Vl → Sto → Res Vl} (hn : NoErrs f) {σ : St} {H : Hp} {Q : VK} (h : tD X W (appM ms f) σ H Q) : tCB (rVs X f) (tDA X W ms) σ H Q := by
  obtain ⟨g, ρ, st, R, E, q⟩ := h
  exact ⟨g, ρ, st, R, E, PostE.step q fun us H1 vs st1 g1 l1 R1 r1 q1 => ⟨g1, st1, vs, R1, r1, postE_noerr (hn _ _) q1⟩⟩
theorem callF_read {ms : Rho → Sto → Res (List Vl)} {f : List Vl → Sto → Res (List PyData)} (hn : NoErrs f) {σ : St} {H : Hp} {Q : VK} (h : tF X W (appM ms f) σ H Q) : tCB (rFs X f) (tDA X W ms) σ H Q := by
  obtain ⟨g, ρ, st, R, E, q⟩ := h
  exact ⟨g, ρ, st, R, E, PostF.bind q fun us H1 vs st1 g1 l1 R1 r1 q1 => ⟨g1, st1, vs, R1, r1, postF_noerr (hn _ _) q1⟩⟩
theorem je_callB {x : Str} {id : String} {p pos : Pos} {e : Expr} {es : List Expr} {ms : Rho → Sto → Res (List Vl)} {f : List Vl → Sto → Res Vl} (hn : NoErrs f) (hc : CallR X (.builtin id) (rVs X f)) (hg : Gl X x) (hm : X.mg x = none) (hv : bootBuiltins x = some (.builtin id)) (ha : JA X W (e :: es) ms)
    (hx : x ≠ "__name__") (hdb : (x == ("__debug__" : Str)) = false) (he : starEach (e :: es) X.env = (false, eval e X.env) :: starEach es X.env) (hpl : (backTo pos (starEach es X.env)).any (·.1) = false) : JE X W (.Call (.Name x p) (e :: es) [] pos) (appM ms f) :=
  PE.imp (pe_callB hc hg hm hv ha hx hdb he hpl) fun _ _ _ h => callB_read hn h
theorem je_callTy {x : Str} {T : String} {p pos : Pos} {e : Expr} {es : List Expr} {ms : Rho → Sto → Res (List Vl)} {f : List Vl → Sto → Res Vl} (hn : NoErrs f) (hc : CallR X (.type T) (rVs X f)) (hg : Gl X x) (hm : X.mg x = none) (hv : bootBuiltins x = some (.type T)) (ha : JA X W (e :: es) ms)
    (hx : x ≠ "__name__") (hdb : (x == ("__debug__" : Str)) = false) (he : starEach (e :: es) X.env = (false, eval e X.env) :: starEach es X.env) (hpl : (backTo pos (starEach es X.env)).any (·.1) = false) : JE X W (.Call (.Name x p) (e :: es) [] pos) (appM ms f) :=
  PE.imp (pe_callTy hc hg hm hv ha hx hdb he hpl) fun _ _ _ h => callB_read hn h
theorem jf_callB {x : Str} {id : String} {p pos : Pos} {e : Expr} {es : List Expr} {ms : Rho → Sto → Res (List Vl)} {f : List Vl → Sto → Res (List PyData)} (hn : NoErrs f) (hc : CallR X (.builtin id) (rFs X f)) (hg : Gl X x) (hm : X.mg x = none) (hv : bootBuiltins x = some (.builtin id)) (ha : JA X W (e :: es) ms)
    (hx : x ≠ "__name__") (hdb : (x == ("__debug__" : Str)) = false) (he : starEach (e :: es) X.env = (false, eval e X.env) :: starEach es X.env) (hpl : (backTo pos (starEach es X.env)).any (·.1) = false) : JF X W (.Call (.Name x p) (e :: es) [] pos) (appM ms f) :=
  PE.imp (pe_callB hc hg hm hv ha hx hdb he hpl) fun _ _ _ h => callF_read hn h
theorem jf_callTy {x : Str} {T : String} {p pos : Pos} {e : Expr} {es : List Expr} {ms : Rho → Sto → Res (List Vl)} {f : List Vl → Sto → Res (List PyData)} (hn : NoErrs f) (hc : CallR X (.type T) (rFs X f)) (hg : Gl X x) (hm : X.mg x = none) (hv : bootBuiltins x = some (.type T)) (ha : JA X W (e :: es) ms)
    (hx : x ≠ "__name__") (hdb : (x == ("__debug__" : Str)) = false) (he : starEach (e :: es) X.env = (false, eval e X.env) :: starEach es X.env) (hpl : (backTo pos (starEach es X.env)).any (·.1) = false) : JF X W (.Call (.Name x p) (e :: es) [] pos) (appM ms f) :=
  PE.imp (pe_callTy hc hg hm hv ha hx hdb he hpl) fun _ _ _ h => callF_read hn h

/-! ### one argument, its data -/
def on1 (f : PyData → Option PyData) (vs : List Vl) (st : Sto) : Res Vl := match vs with
  | [v] => match rd st v with
    | some a => match f a with
      | some d => .ok (.d d) st
      | none => .stuck
    | none => .stuck
  | _ => .stuck
theorem on1_noerr (f : PyData → Option PyData) : NoErrs (on1 f) := by
  intro vs st x st' h
  unfold on1 at h
  (repeat' split at h) <;> cases h
theorem valsR1 {mg : Str → Option Value} {K : PySem.W.Frag} {g : Gh} {us : List V} {v : Vl} (h : ValsR mg K g us [v]) : ∃ u, us = [u] ∧ ValR mg K g u v := by
  cases us with
  | nil => exact h.elim
  | cons u r =>
    cases r with
    | nil => exact ⟨u, rfl, h.1⟩
    | cons _ _ => exact h.2.elim
theorem valsR2 {mg : Str → Option Value} {K : PySem.W.Frag} {g : Gh} {us : List V} {v w : Vl} (h : ValsR mg K g us [v, w]) : ∃ u t, us = [u, t] ∧ ValR mg K g u v ∧ ValR mg K g t w := by
  cases us with
  | nil => exact h.elim
  | cons u r =>
    obtain ⟨t, rfl, h2⟩ := valsR1 h.2
    exact ⟨u, t, rfl, h.1, h2⟩
theorem on1_read {f : PyData → Option PyData} {us : List V} {H : Hp} {Q : VK} (h : rVs X (on1 f) us H Q) :
    ∃ g st u a d, us = [u] ∧ Rel X.K H g st ∧ DH X.K H g.F u a ∧ f a = some d ∧ ∀ u H' g', g.le g' → Rel X.K H' g' st → Dq X.K g'.F u d → Q u H' := by
  obtain ⟨g, st, vs, R, r, q⟩ := h
  unfold on1 at q
  split at q
  · rename_i v
    obtain ⟨u, rfl, r1⟩ := valsR1 r
    split at q
    · rename_i a ha
      split at q
      · rename_i d hd
        exact ⟨g, st, u, a, d, rfl, R, rd_dh R r1 ha, hd, q⟩
      · exact q.elim
    · exact q.elim
  · exact q.elim
def on1F (f : PyData → Option (List PyData)) (vs : List Vl) (st : Sto) : Res (List PyData) := match vs with
  | [v] => match rd st v with
    | some a => match f a with
      | some d => .ok d st
      | none => .stuck
    | none => .stuck
  | _ => .stuck
theorem on1F_noerr (f : PyData → Option (List PyData)) : NoErrs (on1F f) := by
  intro vs st x st' h
  unfold on1F at h
  (repeat' split at h) <;> cases h
theorem on1F_read {f : PyData → Option (List PyData)} {us : List V} {H : Hp} {Q : VK} (h : rFs X (on1F f) us H Q) :
    ∃ g st u a ds, us = [u] ∧ Rel X.K H g st ∧ DH X.K H g.F u a ∧ f a = some ds ∧ ∀ vs, DqAll X.K g.F vs ds → ∀ p, H p = none → Q (.ref p) (upd H p (.lst vs)) := by
  obtain ⟨g, st, vs, R, r, q⟩ := h
  unfold on1F at q
  split at q
  · rename_i v
    obtain ⟨u, rfl, r1⟩ := valsR1 r
    split at q
    · rename_i a ha
      split at q
      · rename_i d hd
        exact ⟨g, st, u, a, d, rfl, R, rd_dh R r1 ha, hd, fun vs hv p hp => q H g (Gh.le.refl g) R vs hv p hp⟩
      · exact q.elim
    · exact q.elim
  · exact q.elim
/-! ### len -/
def lenD : PyData → Option PyData
  | .list xs => some (.int xs.length)
  | .tuple xs => some (.int xs.length)
  | .str z => if z.length ≤ sizeLine then some (.int z.length) else none
  | _ => none
def lenM (vs : List Vl) (st : Sto) : Res Vl := match vs with
  | [.s ns] => .ok (.d (.int ns.length)) st
  | [.c n] => match (st : List Cell)[n]? with
    | some (.lst xs) => .ok (.d (.int xs.length)) st
    | some (.lstc xs) => .ok (.d (.int xs.length)) st
    | _ => .stuck
  | vs => on1 lenD vs st
theorem lenM_noerr : NoErrs lenM := by
  intro vs st x st' h
  unfold lenM at h
  split at h
  · cases h
  · split at h <;> cases h
  · exact on1_noerr _ _ _ _ _ h
theorem paired_len {α β : Type} {F : α → β → Prop} {l₁ : List α} {l₂ : List β} (h : Paired F l₁ l₂) : l₁.length = l₂.length := h.length
theorem cr_len : CallR X (.builtin "len") (rVs X lenM) := by
  intro pins s σ H xs us Q I rs h
  obtain ⟨g, st, vs, R, r, q⟩ := h
  unfold lenM at q
  split at q
  · obtain ⟨u, rfl, a, rfl, hs⟩ := valsR1 r
    refine call_len_seq pins s σ H _ us Q I rs ⟨a, _, rfl, .inl (R.sub.seq hs), ?_⟩
    rw [List.length_map]
    exact q _ _ _ (Gh.le.refl g) R (.int _)
  · obtain ⟨u, rfl, p, rest, h1, rfl⟩ := valsR1 r
    split at q
    · rename_i xs hc
      obtain ⟨p', vs', e, h2, h3⟩ := R.cells _ _ _ h1 hc
      cases e
      refine call_len_seq pins s σ H _ us Q I rs ⟨p, _, rfl, .inl (SqL.of h2), ?_⟩
      rw [dqAll_len h3]
      exact q _ _ _ (Gh.le.refl g) R (.int _)
    · rename_i xs hc
      obtain ⟨p', qs, e, h2, h3⟩ := R.cells _ _ _ h1 hc
      cases e
      refine call_len_seq pins s σ H _ us Q I rs ⟨p, _, rfl, .inl (SqL.of h2), ?_⟩
      rw [List.length_map, paired_len h3]
      exact q _ _ _ (Gh.le.refl g) R (.int _)
    · exact q.elim
  · obtain ⟨g, st, u, a, d, rfl, R, hd, e, q⟩ := on1_read ⟨g, st, vs, R, r, q⟩
    unfold lenD at e
    split at e
    · cases e
      obtain ⟨p, ws, rfl, h1, h2⟩ := hd
      refine call_len_seq pins s σ H _ us Q I rs ⟨p, _, rfl, .inl (SqL.of h1), ?_⟩
      rw [dqAll_len h2]
      exact ans R q _ fun _ => .int _
    · cases e
      obtain ⟨p, ws, rfl, h1, h2⟩ := hd.tup
      refine call_len_seq pins s σ H _ us Q I rs ⟨p, _, rfl, .inr (sqt_mono R.sub h1.sqt), ?_⟩
      rw [dqAll_len h2]
      exact ans R q _ fun _ => .int _
    · split at e
      · rename_i hz
        cases e
        obtain rfl := hd.str
        exact call_len_str pins s σ H _ us Q I rs ⟨_, rfl, hz, ans R q _ fun _ => .int _⟩
      · cases e
    · cases e
/-! ### numbers -/
def absD : PyData → Option PyData
  | .int i => some (.int (if i < 0 then -i else i))
  | _ => none
theorem cr_abs : CallR X (.builtin "abs") (rVs X (on1 absD)) := by
  intro pins s σ H xs us Q I rs h
  obtain ⟨g, st, u, a, d, rfl, R, hd, e, q⟩ := on1_read h
  unfold absD at e
  split at e
  · cases e
    obtain rfl := hd.int
    exact call_abs pins s σ H _ us Q I rs ⟨_, rfl, ans R q _ fun _ => .int _⟩
  · cases e
def intD : PyData → Option PyData
  | .int i => some (.int i)
  | .bool b => some (.int (if b then 1 else 0))
  | .str a => if a.length ≤ 640 then (PySem.intText? a).map PyData.int else none
  | _ => none
theorem cr_int : CallR X (.type "int") (rVs X (on1 intD)) := by
  intro pins s σ H xs us Q I rs h
  obtain ⟨g, st, u, a, d, rfl, R, hd, e, q⟩ := on1_read h
  unfold intD at e
  split at e
  · cases e
    obtain rfl := hd.int
    exact call_int1 pins s σ H _ us Q I rs (.inl ⟨_, rfl, ans R q _ fun _ => .int _⟩)
  · cases e
    obtain rfl := hd.bool
    exact call_int1 pins s σ H _ us Q I rs (.inr ⟨_, rfl, ans R q _ fun _ => .int _⟩)
  · split at e
    · rename_i z hz
      obtain rfl := hd.str
      cases hn : PySem.intText? z with
      | none => rw [hn] at e; cases e
      | some n =>
        rw [hn] at e
        cases e
        exact call_int_str pins s σ H _ us Q I rs ⟨_, n, rfl, hn, hz, ans R q _ fun _ => .int _⟩
    · cases e
  · cases e
def strD : PyData → Option PyData
  | .int i => if i.natAbs.log2 < 1920 then some (.str (toString i)) else none
  | _ => none
theorem cr_str : CallR X (.type "str") (rVs X (on1 strD)) := by
  intro pins s σ H xs us Q I rs h
  obtain ⟨g, st, u, a, d, rfl, R, hd, e, q⟩ := on1_read h
  unfold strD at e
  split at e
  · split at e
    · rename_i hz
      cases e
      obtain rfl := hd.int
      exact call_str_int pins s σ H _ us Q I rs ⟨_, rfl, hz, ans R q _ fun _ => .str _⟩
    · cases e
  · cases e
def on2 (f : PyData → PyData → Option PyData) (vs : List Vl) (st : Sto) : Res Vl := match vs with
  | [v, w] => lift2 f v w st
  | _ => .stuck
theorem on2_noerr (f : PyData → PyData → Option PyData) : NoErrs (on2 f) := by
  intro vs st x st' h
  unfold on2 at h
  split at h
  · exact lift2_noerr _ _ _ _ _ _ h
  · cases h
theorem on2_read {f : PyData → PyData → Option PyData} {us : List V} {H : Hp} {Q : VK} (h : rVs X (on2 f) us H Q) :
    ∃ g st x y a b d, us = [x, y] ∧ Rel X.K H g st ∧ DH X.K H g.F x a ∧ DH X.K H g.F y b ∧ f a b = some d ∧ ∀ u H' g', g.le g' → Rel X.K H' g' st → Dq X.K g'.F u d → Q u H' := by
  obtain ⟨g, st, vs, R, r, q⟩ := h
  unfold on2 at q
  split at q
  · obtain ⟨x, y, rfl, r1, r2⟩ := valsR2 r
    obtain ⟨g, st, a, b, d, R, ha, hb, e, q⟩ := lift2_read (X := X) ⟨g, st, _, _, R, r1, r2, q⟩
    exact ⟨g, st, x, y, a, b, d, rfl, R, ha, hb, e, q⟩
  · exact q.elim
def maxD : PyData → PyData → Option PyData
  | .int i, .int j => some (.int (if j > i then j else i))
  | _, _ => none
def minD : PyData → PyData → Option PyData
  | .int i, .int j => some (.int (if j < i then j else i))
  | _, _ => none
theorem cr_max2 (hc : X.calm = true) : CallR X (.builtin "max") (rVs X (on2 maxD)) := by
  intro pins s σ H xs us Q I rs h
  obtain ⟨g, st, x, y, a, b, d, rfl, R, ha, hb, e, q⟩ := on2_read h
  unfold maxD at e
  split at e
  · cases e
    obtain rfl := ha.int
    obtain rfl := hb.int
    exact call_max2 hc pins s σ H _ us Q I rs ⟨_, _, rfl, ans R q _ fun _ => .int _⟩
  · cases e
theorem cr_min2 (hc : X.calm = true) : CallR X (.builtin "min") (rVs X (on2 minD)) := by
  intro pins s σ H xs us Q I rs h
  obtain ⟨g, st, x, y, a, b, d, rfl, R, ha, hb, e, q⟩ := on2_read h
  unfold minD at e
  split at e
  · cases e
    obtain rfl := ha.int
    obtain rfl := hb.int
    exact call_min2 hc pins s σ H _ us Q I rs ⟨_, _, rfl, ans R q _ fun _ => .int _⟩
  · cases e
/-! ### lists of ints, of bools -/
def intsOf : List PyData → Option (List Int)
  | [] => some []
  | .int i :: r => (intsOf r).map (i :: ·)
  | _ :: _ => none
def boolsOf : List PyData → Option (List Bool)
  | [] => some []
  | .bool i :: r => (boolsOf r).map (i :: ·)
  | _ :: _ => none
theorem intsOf_eq : ∀ {ds : List PyData} {ns : List Int}, intsOf ds = some ns → ds = ns.map PyData.int
  | [], _, e => by cases e; rfl
  | .int i :: r, ns, e => by
    unfold intsOf at e
    cases h : intsOf r with
    | none => rw [h] at e; cases e
    | some ms => rw [h] at e; cases e; rw [intsOf_eq h]; rfl
  | .none :: _, _, e => by cases e
  | .bool _ :: _, _, e => by cases e
  | .str _ :: _, _, e => by cases e
  | .list _ :: _, _, e => by cases e
  | .tuple _ :: _, _, e => by cases e
  | .dict _ :: _, _, e => by cases e
theorem boolsOf_eq : ∀ {ds : List PyData} {ns : List Bool}, boolsOf ds = some ns → ds = ns.map PyData.bool
  | [], _, e => by cases e; rfl
  | .bool i :: r, ns, e => by
    unfold boolsOf at e
    cases h : boolsOf r with
    | none => rw [h] at e; cases e
    | some ms => rw [h] at e; cases e; rw [boolsOf_eq h]; rfl
  | .none :: _, _, e => by cases e
  | .int _ :: _, _, e => by cases e
  | .str _ :: _, _, e => by cases e
  | .list _ :: _, _, e => by cases e
  | .tuple _ :: _, _, e => by cases e
  | .dict _ :: _, _, e => by cases e
omit [LT] in
@[simp] theorem intsOf_map : ∀ ns : List Int, intsOf (ns.map PyData.int) = some ns
  | [] => rfl
  | n :: ns => by rw [List.map_cons, intsOf, intsOf_map ns]; rfl
omit [LT] in
@[simp] theorem boolsOf_map : ∀ ns : List Bool, boolsOf (ns.map PyData.bool) = some ns
  | [] => rfl
  | n :: ns => by rw [List.map_cons, boolsOf, boolsOf_map ns]; rfl
theorem dqAll_bools {K : PySem.W.Frag} {F : Hp} : ∀ {ns : List Bool} {vs : List V}, DqAll K F vs (ns.map PyData.bool) → vs = ns.map V.bl
  | [], _, h => by cases h; rfl
  | _ :: _, _, h => by
    cases h with
    | cons h1 h2 => cases h1; rw [dqAll_bools h2]; rfl
def sumD : PyData → Option PyData
  | .list xs => (intsOf xs).map fun ns => .int ns.sum
  | _ => none
def allD : PyData → Option PyData
  | .list xs => (boolsOf xs).map fun ns => .bool (ns.all id)
  | _ => none
theorem crm_sum (hc : X.calm = true) : CallR X (.builtin "sum") (rVs X (on1 sumD)) := by
  intro pins s σ H xs us Q I rs h
  obtain ⟨g, st, u, a, d, rfl, R, hd, e, q⟩ := on1_read h
  unfold sumD at e
  split at e
  · rename_i ds
    cases hn : intsOf ds with
    | none => rw [hn] at e; cases e
    | some ns =>
      rw [hn] at e
      cases e
      obtain ⟨p, ws, rfl, h1, h2⟩ := hd
      rw [intsOf_eq hn] at h2
      obtain rfl := dqAll_ints h2
      exact cr_sum hc pins s σ H _ us Q I rs ⟨p, ns, rfl, SqL.of h1, ans R q _ fun _ => .int _⟩
  · cases e
theorem crm_all (hc : X.calm = true) : CallR X (.builtin "all") (rVs X (on1 allD)) := by
  intro pins s σ H xs us Q I rs h
  obtain ⟨g, st, u, a, d, rfl, R, hd, e, q⟩ := on1_read h
  unfold allD at e
  split at e
  · rename_i ds
    cases hn : boolsOf ds with
    | none => rw [hn] at e; cases e
    | some ns =>
      rw [hn] at e
      cases e
      obtain ⟨p, ws, rfl, h1, h2⟩ := hd
      rw [boolsOf_eq hn] at h2
      obtain rfl := dqAll_bools h2
      exact cr_all hc pins s σ H _ us Q I rs ⟨p, ns, rfl, SqL.of h1, ans R q _ fun _ => .bl _⟩
  · cases e
/-- the ints in ascending order -/
def ins (x : Int) : List Int → List Int
  | [] => [x]
  | y :: r => if x ≤ y then x :: y :: r else y :: ins x r
def isort : List Int → List Int
  | [] => []
  | x :: r => ins x (isort r)
theorem ins_perm (x : Int) : ∀ l, (ins x l).Perm (x :: l)
  | [] => .refl _
  | y :: r => by
    unfold ins
    split
    · exact .refl _
    · exact ((ins_perm x r).cons y).trans (.swap x y r)
theorem isort_perm : ∀ l, (isort l).Perm l
  | [] => .refl _
  | x :: r => (ins_perm x _).trans ((isort_perm r).cons x)
theorem ins_sorted (x : Int) : ∀ l : List Int, l.Pairwise (· ≤ ·) → (ins x l).Pairwise (· ≤ ·)
  | [], _ => by simp [ins]
  | y :: r, h => by
    unfold ins
    rw [List.pairwise_cons] at h
    split
    · rename_i hx
      refine List.pairwise_cons.mpr ⟨fun z hz => ?_, List.pairwise_cons.mpr h⟩
      rcases List.mem_cons.mp hz with e | hz
      · omega
      · have := h.1 z hz; omega
    · rename_i hx
      refine List.pairwise_cons.mpr ⟨fun z hz => ?_, ins_sorted x r h.2⟩
      rcases List.mem_cons.mp ((ins_perm x r).mem_iff.mp hz) with e | hz
      · omega
      · exact h.1 z hz
theorem isort_sorted : ∀ l, (isort l).Pairwise (· ≤ ·)
  | [] => .nil
  | x :: r => ins_sorted x _ (isort_sorted r)
theorem sorted_one {a b : List Int} (p : a.Perm b) (ha : a.Pairwise (· ≤ ·)) (hb : b.Pairwise (· ≤ ·)) : a = b :=
  List.Perm.eq_of_pairwise (fun x y _ _ h1 h2 => Int.le_antisymm h1 h2) ha hb p
def sortedD : PyData → Option (List PyData)
  | .list xs => (intsOf xs).map fun ns => (isort ns).map PyData.int
  | .tuple xs => none
  | _ => none
theorem crm_sorted : CallR X (.builtin "sorted") (rFs X (on1F sortedD)) := by
  intro pins s σ H xs us Q I rs h
  obtain ⟨g, st, u, a, d, rfl, R, hd, e, q⟩ := on1F_read h
  unfold sortedD at e
  split at e
  · rename_i ds
    cases hn : intsOf ds with
    | none => rw [hn] at e; cases e
    | some ns =>
      rw [hn] at e
      cases e
      obtain ⟨p, ws, rfl, h1, h2⟩ := hd
      rw [intsOf_eq hn] at h2
      obtain rfl := dqAll_ints h2
      refine cr_sortedI pins s σ H _ us Q I rs ⟨p, ns, rfl, SqL.of h1, fun ns' p' hp1 hp2 hp3 => ?_⟩
      obtain rfl := sorted_one (hp1.trans (isort_perm ns).symm) hp2 (isort_sorted ns)
      exact q _ (ints_dqAll _) p' hp3
  · cases e
  · cases e
/-! ### list, tuple -/
def listD : PyData → Option (List PyData)
  | .list xs => some xs
  | .tuple xs => some xs
  | _ => none
def tupleD : PyData → Option PyData
  | .list xs => some (.tuple xs)
  | .tuple xs => some (.tuple xs)
  | _ => none
theorem cr_list : CallR X (.type "list") (rFs X (on1F listD)) := by
  intro pins s σ H xs us Q I rs h
  obtain ⟨g, st, u, a, d, rfl, R, hd, e, q⟩ := on1F_read h
  unfold listD at e
  split at e
  · cases e
    obtain ⟨p, ws, rfl, h1, h2⟩ := hd
    exact call_list_of pins s σ H _ us Q I rs ⟨p, ws, rfl, .inl (SqL.of h1), fun l hl => q _ h2 l hl⟩
  · cases e
    obtain ⟨p, ws, rfl, h1, h2⟩ := hd.tup
    exact call_list_of pins s σ H _ us Q I rs ⟨p, ws, rfl, .inr (sqt_mono R.sub h1.sqt), fun l hl => q _ h2 l hl⟩
  · cases e
theorem cr_tuple : CallR X (.type "tuple") (rVs X (on1 tupleD)) := by
  intro pins s σ H xs us Q I rs h
  obtain ⟨g, st, u, a, d, rfl, R, hd, e, q⟩ := on1_read h
  unfold tupleD at e
  split at e
  · cases e
    obtain ⟨p, ws, rfl, h1, h2⟩ := hd
    exact call_tupZ pins s σ H _ us Q I rs ⟨p, ws, rfl, .inl ⟨SqL.of h1, ansT R q h2⟩⟩
  · cases e
    obtain ⟨p, ws, rfl, h1, h2⟩ := hd.tup
    exact call_tupZ pins s σ H _ us Q I rs ⟨p, ws, rfl, .inr ⟨sqt_mono R.sub h1.sqt, q _ _ _ (Gh.le.refl g) R (.tup h1 h2)⟩⟩
  · cases e
end
end M1

/-! part G: targets, statements -/
namespace M1
open PySem PySem.Spec L2
variable [LT]
/-- what a statement leads to -/
inductive RS where
  | stuck
  | nx (ρ : Rho) (st : Sto)
  | ret (v : Vl) (st : Sto)
  | bk (ρ : Rho) (st : Sto)
  | ct (ρ : Rho) (st : Sto)
  | err (x : Exn) (ρ : Rho) (st : Sto)
def PostS (X : Cx) (W : WX) (g : Gh) (D : Ends) : RS → Prop
  | .stuck => False
  | .nx ρ st => ∀ σ H g', g.le g' → Rel X.K H g' st → RhoR X.mg X.K g' σ ρ → D.nx σ H
  | .bk ρ st => ∀ σ H g', g.le g' → Rel X.K H g' st → RhoR X.mg X.K g' σ ρ → D.bk σ H
  | .ct ρ st => ∀ σ H g', g.le g' → Rel X.K H g' st → RhoR X.mg X.K g' σ ρ → D.ct σ H
  | .ret v st => ∀ u H g', g.le g' → Rel X.K H g' st → ValR X.mg X.K g' u v → D.rt u H
  | .err x ρ st => ∀ cls dd σ H g', g.le g' → Rel X.K H g' st → RhoR X.mg X.K g' σ ρ → ExnR X.mg X.K g'.F cls dd x → W cls dd σ H
section
variable {X : Cx} {W : WX}
theorem PostS.mono {g g1 : Gh} {D : Ends} (l : g.le g1) : ∀ {r : RS}, PostS X W g D r → PostS X W g1 D r
  | .stuck, h => h
  | .nx _ _, h => fun σ H g' l' => h σ H g' (l.trans l')
  | .bk _ _, h => fun σ H g' l' => h σ H g' (l.trans l')
  | .ct _ _, h => fun σ H g' l' => h σ H g' (l.trans l')
  | .ret _ _, h => fun u H g' l' => h u H g' (l.trans l')
  | .err _ _ _, h => fun cls dd σ H g' l' => h cls dd σ H g' (l.trans l')
/-- an expression's result inside a statement -/
def Res.then {α : Type} (r : Res α) (ρ : Rho) (k : α → Sto → RS) : RS := match r with
  | .stuck => .stuck
  | .ok v st => k v st
  | .err x st => .err x ρ st
omit [LT] in
@[simp] theorem Res.then_ok {α : Type} (a : α) (ρ : Rho) (st : Sto) (k : α → Sto → RS) : (Res.ok a st).then ρ k = k a st := rfl
omit [LT] in
@[simp] theorem Res.then_err {α : Type} (x : Exn) (ρ : Rho) (st : Sto) (k : α → Sto → RS) : (Res.err x st : Res α).then ρ k = .err x ρ st := rfl
omit [LT] in
@[simp] theorem Res.then_stuck {α : Type} (ρ : Rho) (k : α → Sto → RS) : (Res.stuck : Res α).then ρ k = .stuck := rfl
theorem PostS.then {α β : Type} {σ : St} {ρ : Rho} {g : Gh} {R : Gh → β → α → Prop} {D : Ends} {k : α → Sto → RS} {Q : β → Hp → Prop} {r : Res α} (E : RhoR X.mg X.K g σ ρ) (h : PostS X W g D (r.then ρ k))
    (f : ∀ u H v st g', g.le g' → Rel X.K H g' st → R g' u v → PostS X W g' D (k v st) → Q u H) : PostE X W σ g R Q r := by
  cases r with
  | stuck => exact h
  | err x st => exact fun cls dd H g' l R' e => h cls dd σ H g' l R' (E.mono l.1) e
  | ok v st => exact fun u H g' l r1 r2 => f u H v st g' l r1 r2 (PostS.mono l h)
def tDS (X : Cx) (W : WX) (m : Rho → Sto → RS) : TS := fun D σ H => ∃ g ρ st, Rel X.K H g st ∧ RhoR X.mg X.K g σ ρ ∧ PostS X W g D (m ρ st)
def JS (X : Cx) (W : WX) (s : Stmt) (m : Rho → Sto → RS) : Prop := PS X s (tDS X W m)
def JSs (X : Cx) (W : WX) (s : List Stmt) (m : Rho → Sto → RS) : Prop := PSs X s (tDS X W m)
theorem PS.imp {s : Stmt} {t t' : TS} (h : PS X s t) (i : ∀ D σ H, t' D σ H → t D σ H) : PS X s t' := ⟨fun pins s σ H D I q => h.run pins s σ H D I (i D σ H q)⟩
theorem PSs.imp {s : List Stmt} {t t' : TS} (h : PSs X s t) (i : ∀ D σ H, t' D σ H → t D σ H) : PSs X s t' := ⟨fun pins s σ H D I q => h.run pins s σ H D I (i D σ H q)⟩
/-! ### blocks -/
def skipS (ρ : Rho) (st : Sto) : RS := .nx ρ st
def seqS (m n : Rho → Sto → RS) (ρ : Rho) (st : Sto) : RS := match m ρ st with
  | .nx ρ st => n ρ st
  | r => r
theorem jss_nil : JSs X W [] skipS := PSs.imp pss_nil fun D σ H ⟨g, ρ, st, R, E, q⟩ => q σ H g (Gh.le.refl g) R E
theorem seq_read {m n : Rho → Sto → RS} {D : Ends} {σ : St} {H : Hp} (h : tDS X W (seqS m n) D σ H) : tDS X W m { D with nx := tDS X W n D } σ H := by
  obtain ⟨g, ρ, st, R, E, q⟩ := h
  refine ⟨g, ρ, st, R, E, ?_⟩
  unfold seqS at q
  revert q
  cases m ρ st with
  | nx ρ' st' => exact fun q σ' H' g' l R' E' => ⟨g', ρ', st', R', E', PostS.mono l q⟩
  | stuck => exact id
  | bk => exact id
  | ct => exact id
  | ret => exact id
  | err => exact id
theorem jss_cons {s : Stmt} {rest : List Stmt} {m n : Rho → Sto → RS} (h1 : JS X W s m) (h2 : JSs X W rest n) : JSs X W (s :: rest) (seqS m n) :=
  PSs.imp (pss_cons h1 h2) fun D σ H h => seq_read h
/-! ### the small ones -/
def exprS (m : Rho → Sto → Res Vl) (ρ : Rho) (st : Sto) : RS := (m ρ st).then ρ fun _ st => .nx ρ st
theorem js_expr {e : Expr} {pos : Pos} {m : Rho → Sto → Res Vl} (h : JE X W e m) (hs : swapsWith e none pos.line X.env = pure false) : JS X W (.Expr e pos) (exprS m) :=
  PS.imp (ps_expr h hs) fun D σ H ⟨g, ρ, st, R, E, q⟩ => ⟨g, ρ, st, R, E, PostS.then E q fun u H1 v st1 g1 l1 R1 r1 q1 => q1 σ H1 g1 (Gh.le.refl _) R1 (E.mono l1.1)⟩
def retS (m : Rho → Sto → Res Vl) (ρ : Rho) (st : Sto) : RS := (m ρ st).then ρ fun v st => .ret v st
theorem js_ret {e : Expr} {pos : Pos} {m : Rho → Sto → Res Vl} (h : JE X W e m) : JS X W (.Return (some e) pos) (retS m) :=
  PS.imp (ps_ret h) fun D σ H ⟨g, ρ, st, R, E, q⟩ => ⟨g, ρ, st, R, E, PostS.then E q fun u H1 v st1 g1 l1 R1 r1 q1 => q1 u H1 g1 (Gh.le.refl _) R1 r1⟩
def ifS (t : Rho → Sto → Res Bool) (a b : Rho → Sto → RS) (ρ : Rho) (st : Sto) : RS := (t ρ st).then ρ fun k st => if k = true then a ρ st else b ρ st
theorem js_if {c : Expr} {a b : List Stmt} {pos : Pos} {t : Rho → Sto → Res Bool} {ma mb : Rho → Sto → RS} (hc : JT X W c t) (ha : JSs X W a ma) (hb : JSs X W b mb) : JS X W (.If c a b pos) (ifS t ma mb) :=
  PS.imp (ps_if hc ha hb) fun D σ H ⟨g, ρ, st, R, E, q⟩ => ⟨g, ρ, st, R, E, PostS.then E q fun u H1 v st1 g1 l1 R1 r1 q1 => by
    subst r1
    cases u with
    | true => exact ⟨g1, ρ, st1, R1, E.mono l1.1, q1⟩
    | false => exact ⟨g1, ρ, st1, R1, E.mono l1.1, q1⟩⟩
/-- the statement that does nothing but forget that a list may change -/
def frzS (i : Nat) (ρ : Rho) (st : Sto) : RS := match (ρ : List (Option Vl))[i]? with
  | some (some (.c n)) => match (st : List Cell)[n]? with
    | some (.lst xs) => .nx (ρ.set i (some (.d (.list xs)))) (st.set n .dead)
    | _ => .stuck
  | _ => .stuck
theorem rho_set {mg : Str → Option Value} {K : PySem.W.Frag} {g : Gh} {σ : St} {ρ : Rho} {u : V} {v : Vl} (E : RhoR mg K g σ ρ) (r : ValR mg K g u v) (i : Nat) : RhoR mg K g (σ.set i (some u)) (ρ.set i (some v)) := by
  refine ⟨by rw [List.length_set, List.length_set]; exact E.1, fun j w e => ?_⟩
  by_cases hj : i = j
  · subst hj
    by_cases hi : i < ρ.length
    · rw [List.getElem?_set_self hi] at e
      cases e
      exact ⟨u, List.getElem?_set_self (by rw [← E.1]; exact hi), r⟩
    · rw [List.getElem?_eq_none (by rw [List.length_set]; omega)] at e
      cases e
  · rw [List.getElem?_set_ne hj] at e
    rw [List.getElem?_set_ne hj]
    exact E.2 j w e
theorem rho_setσ {mg : Str → Option Value} {K : PySem.W.Frag} {g : Gh} {σ : St} {ρ : Rho} {u : V} {v : Vl} (E : RhoR mg K g σ ρ) {i : Nat} (h : σ[i]? = some (some u)) (r : ValR mg K g u v) : RhoR mg K g σ (ρ.set i (some v)) := by
  have := rho_set E r i
  have e : σ.set i (some u) = σ := by
    apply List.ext_getElem?
    intro j
    by_cases hj : i = j
    · subst hj
      rw [List.getElem?_set_self (List.getElem?_eq_some_iff.mp h).1, h]
    · rw [List.getElem?_set_ne hj]
  rw [e] at this
  exact this
theorem frz_rel {K : PySem.W.Frag} {mg : Str → Option Value} {H : Hp} {g : Gh} {st : Sto} (R : Rel K H g st) {n : Nat} {p : Addr} {rest : List Addr} {xs : List PyData} (h1 : g.at_[n]? = some (p :: rest)) (h2 : (st : List Cell)[n]? = some (.lst xs)) :
    ∃ g', g.le g' ∧ Rel K H g' (st.set n .dead) ∧ Dq K g'.F (.ref p) (.list xs) := by
  obtain ⟨p', vs, e, hp, hd⟩ := R.cells n _ _ h1 h2
  cases e
  have live : (Cell.lst xs) ≠ .dead := fun z => by cases z
  have fp : g.F p = none := R.apart n _ _ h1 h2 live p List.mem_cons_self
  have l : g.le (g.put p (.lst vs)) := ⟨⟨same_upd' fp, fun _ _ r h => ⟨r, h⟩⟩, rfl⟩
  -- a live cell of the new store is another one
  have old : ∀ (m : Nat) (c : Cell), (st.set n .dead : List Cell)[m]? = some c → c ≠ .dead → n ≠ m ∧ (st : List Cell)[m]? = some c := fun m c h hc => by
    by_cases hm : n = m
    · subst hm
      rw [List.getElem?_set_self (List.getElem?_eq_some_iff.mp h2).1] at h
      cases h
      exact absurd rfl hc
    · rw [List.getElem?_set_ne hm] at h
      exact ⟨hm, h⟩
  refine ⟨g.put p (.lst vs), l, ⟨fun b x e => ?_, fun m as c h3 h4 h5 q hq => ?_, R.there, fun a b as bs c d e1 e2 e3 e4 e5 e6 => ?_, by rw [List.length_set]; exact R.len, fun m ns h => ?_, fun m cls fs h => R.closedO m cls fs (old m _ h fun z => by cases z).2, fun m as c h3 h4 => ?_, fun q u hq => ?_, R.tabs, fun b ps z => ?_⟩, .lst upd_same (dqAll_mono l.1.1 hd)⟩
  · by_cases hb : b = p
    · subst hb
      have e : upd g.F b (.lst vs) b = some x := e
      rw [upd_same] at e
      cases e
      exact hp
    · exact R.sub b x ((upd_ne hb).symm.trans e)
  · obtain ⟨hm, h4⟩ := old m c h4 h5
    have hqp : q ≠ p := fun z => R.nd n m _ _ _ _ h1 h3 h2 h4 live h5 hm p List.mem_cons_self (z ▸ hq)
    exact (upd_ne hqp).trans (R.apart m as c h3 h4 h5 q hq)
  · exact R.nd a b as bs c d e1 e2 (old a c e3 e5).2 (old b d e4 e6).2 e5 e6
  · exact R.closed m ns (old m _ h fun z => by cases z).2
  · by_cases hc : c = .dead
    · subst hc
      trivial
    · exact CellR.mono l.1 (fun _ _ => rfl) (R.cells m as c h3 (old m c h4 hc).2)
  · obtain ⟨h3, h4, h5⟩ := R.aside q u hq
    have hqp : q ≠ p := fun z => h5.1 _ (List.mem_of_getElem? h1) (z ▸ List.mem_cons_self)
    exact ⟨h3, (upd_ne hqp).trans h4, h5⟩
  · have z : upd g.F p (.lst vs) b = some (.tbl ps) := z
    by_cases hb : b = p
    · rw [hb, upd_same] at z
      cases z
    · exact R.notbl b ps ((upd_ne hb).symm.trans z)
theorem frzS_cases (i : Nat) (ρ : Rho) (st : Sto) : frzS i ρ st = .stuck ∨ ∃ (k : Nat) (xs : List PyData), (ρ : List (Option Vl))[i]? = some (some (.c k)) ∧ (st : List Cell)[k]? = some (.lst xs) ∧ frzS i ρ st = .nx (ρ.set i (some (.d (.list xs)))) (st.set k .dead) := by
  unfold frzS
  split
  · rename_i k hk
    split
    · rename_i xs hx
      exact .inr ⟨k, xs, hk, hx, rfl⟩
    · exact .inl rfl
  · exact .inl rfl
theorem jss_frz {sts : List Stmt} {i : Nat} {n : Rho → Sto → RS} (h : JSs X W sts n) : JSs X W sts (seqS (frzS i) n) :=
  PSs.imp h fun D σ H ⟨g, ρ, st, R, E, q⟩ => by
    unfold seqS at q
    rcases frzS_cases i ρ st with e | ⟨k, xs, hk, hx, e⟩
    · rw [e] at q
      exact q.elim
    · rw [e] at q
      obtain ⟨u, hu, p, rest, h1, rfl⟩ := E.2 i _ hk
      obtain ⟨g', l, R', d⟩ := frz_rel (mg := X.mg) R h1 hx
      exact ⟨g', _, _, R', rho_setσ (v := .d (.list xs)) (E.mono l.1) hu d, PostS.mono l q⟩
end
end M1

/-! part H: targets, assignments -/
namespace M1
open PySem PySem.Spec L2
variable [LT]
mutual
inductive Tg where
  | nm (i : Nat)
  | tp (ts : Tgs)
  | pr (i j : Nat)
inductive Tgs where
  | nil
  | cons (t : Tg) (r : Tgs)
end
mutual
def Tg.slots : Tg → List Nat
  | .nm i => [i]
  | .tp ts => ts.slots
  | .pr i j => [i, j]
def Tgs.slots : Tgs → List Nat
  | .nil => []
  | .cons t r => t.slots ++ r.slots
end
def Tgs.len : Tgs → Nat
  | .nil => 0
  | .cons _ r => r.len + 1
mutual
/-- the names after the store -/
def setT : Tg → Vl → Rho → Option Rho
  | .nm i, v, ρ => some (ρ.set i (some v))
  | .tp ts, .d (.tuple ds), ρ => setTs ts ds ρ
  | .tp ts, .d (.list ds), ρ => setTs ts ds ρ
  | .tp ts, .p ds, ρ => setTs ts ds ρ
  | .tp _, _, _ => none
  | .pr i j, .pd kvs w, ρ => some ((ρ.set i (some (.fd kvs))).set j (some (.d (.int w))))
  | .pr _ _, _, _ => none
def setTs : Tgs → List PyData → Rho → Option Rho
  | .nil, [], ρ => some ρ
  | .cons t r, d :: ds, ρ => (setT t (.d d) ρ).bind fun ρ => setTs r ds ρ
  | .nil, _ :: _, _ => none
  | .cons _ _, [], _ => none
end
section
variable {X : Cx} {W : WX}
def Keeps (sl : List Nat) (σ σ' : St) : Prop := ∀ vs : List Nat, (∀ i ∈ sl, i ∈ vs) → wipe σ' vs = wipe σ vs
theorem wipe_get (σ : St) (vs : List Nat) (j : Nat) : (wipe σ vs)[j]? = if j ∈ vs then (σ[j]?).map (fun _ => none) else σ[j]? := by
  induction vs with
  | nil => simp [wipe]
  | cons v vs ih =>
    unfold wipe
    by_cases hj : v = j
    · subst hj
      by_cases hl : v < σ.length
      · rw [List.getElem?_set_self (by rw [wipe_length]; exact hl), if_pos List.mem_cons_self, List.getElem?_eq_getElem hl]
        rfl
      · rw [List.getElem?_eq_none (by rw [List.length_set, wipe_length]; omega), if_pos List.mem_cons_self, List.getElem?_eq_none (by omega)]
        rfl
    · rw [List.getElem?_set_ne hj, ih]
      by_cases hm : j ∈ vs
      · rw [if_pos hm, if_pos (List.mem_cons_of_mem _ hm)]
      · rw [if_neg hm, if_neg (by rw [List.mem_cons]; exact fun z => z.elim (fun e => hj e.symm) hm)]
theorem keeps_set (σ : St) (i : Nat) (u : Option V) : Keeps [i] σ (σ.set i u) := fun vs h => by
  have hi := h i (List.mem_singleton.mpr rfl)
  apply List.ext_getElem?
  intro j
  rw [wipe_get, wipe_get]
  by_cases hj : i = j
  · subst hj
    rw [if_pos hi, if_pos hi]
    by_cases hl : i < σ.length
    · rw [List.getElem?_set_self hl, List.getElem?_eq_getElem hl]
      rfl
    · rw [List.getElem?_eq_none (by rw [List.length_set]; omega), List.getElem?_eq_none (by omega)]
  · rw [List.getElem?_set_ne hj]
theorem Keeps.trans {a b : List Nat} {σ σ' σ'' : St} (h : Keeps a σ σ') (k : Keeps b σ' σ'') : Keeps (a ++ b) σ σ'' := fun vs q =>
  (k vs fun i hi => q i (List.mem_append_right _ hi)).trans (h vs fun i hi => q i (List.mem_append_left _ hi))
def tGp (X : Cx) (t : Tg) : TG := fun v σ H Q => ∃ g ρ st w ρ', Rel X.K H g st ∧ RhoR X.mg X.K g σ ρ ∧ ValR X.mg X.K g v w ∧ setT t w ρ = some ρ' ∧ ∀ σ', RhoR X.mg X.K g σ' ρ' → Keeps t.slots σ σ' → Q σ' H
def tGps (X : Cx) (t : Tgs) : TGs := fun vs σ H Q => ∃ g ρ st ds ρ', Rel X.K H g st ∧ RhoR X.mg X.K g σ ρ ∧ DqAll X.K g.F vs ds ∧ setTs t ds ρ = some ρ' ∧ ∀ σ', RhoR X.mg X.K g σ' ρ' → Keeps t.slots σ σ' → Q σ' H
def JG (X : Cx) (e : Expr) (t : Tg) : Prop := PG X e (tGp X t)
def JGs (X : Cx) (es : List Expr) (t : Tgs) : Prop := PGs X es (tGps X t)
theorem PG.imp {e : Expr} {t t' : TG} (h : PG X e t) (i : ∀ v σ H Q, t' v σ H Q → t v σ H Q) : PG X e t' := ⟨fun pins s σ H v u Q I r q => h.run pins s σ H v u Q I r (i v σ H Q q)⟩
theorem PGs.imp {e : List Expr} {t t' : TGs} (h : PGs X e t) (i : ∀ v σ H Q, t' v σ H Q → t v σ H Q) : PGs X e t' := ⟨fun pins s σ H v u Q I r q => h.run pins s σ H v u Q I r (i v σ H Q q)⟩
theorem jg_name {i : Nat} {x : Str} {pos : Pos} (hN : X.N.Nodup) (hi : X.N[i]? = some x) (hx : Loc X.env.scope x) (hf : X.fn x = true ∨ X.env.scope.names.lookup x = some .local) : JG X (.Name x pos) (.nm i) :=
  PG.imp (pg_name hN hi hx hf) fun v σ H Q ⟨g, ρ, st, w, ρ', R, E, r, e, q⟩ => by
    cases e
    exact q _ (rho_set E r i) (keeps_set σ i _)
theorem jgs_nil : JGs X [] .nil := PGs.imp pgs_nil fun vs σ H Q ⟨g, ρ, st, ds, ρ', R, E, r, e, q⟩ => by
  cases ds with
  | nil => cases r; cases e; exact ⟨rfl, q _ E fun _ _ => rfl⟩
  | cons _ _ => cases e
theorem jgs_cons {e : Expr} {es : List Expr} {t : Tg} {u : Tgs} (h1 : JG X e t) (h2 : JGs X es u) (hs : (assignEach (e :: es) X.env).map (·.2) = assign e X.env :: (assignEach es X.env).map (·.2)) : JGs X (e :: es) (.cons t u) :=
  PGs.imp (pgs_cons h1 h2 hs) fun vs σ H Q ⟨g, ρ, st, ds, ρ', R, E, r, e, q⟩ => by
    cases ds with
    | nil => cases e
    | cons d ds =>
      cases r with
      | cons r1 r2 =>
        have e : (setT t (.d d) ρ).bind (fun ρ => setTs u ds ρ) = some ρ' := e
        cases h : setT t (.d d) ρ with
        | none => rw [h] at e; cases e
        | some ρ1 =>
          rw [h] at e
          exact ⟨_, _, rfl, g, ρ, st, .d d, ρ1, R, E, r1, h, fun σ1 E1 k1 => ⟨g, ρ1, st, ds, ρ', R, E1, r2, e, fun σ2 E2 k2 => q σ2 E2 (k1.trans k2)⟩⟩
theorem setTs_len : ∀ {t : Tgs} {ds : List PyData} {ρ ρ' : Rho}, setTs t ds ρ = some ρ' → ds.length = t.len
  | .nil, [], _, _, _ => rfl
  | .cons t r, d :: ds, ρ, ρ', e => by
    have e : (setT t (.d d) ρ).bind (fun ρ => setTs r ds ρ) = some ρ' := e
    cases h : setT t (.d d) ρ with
    | none => rw [h] at e; cases e
    | some ρ1 => rw [h] at e; rw [List.length_cons, setTs_len (t := r) e, Tgs.len]
  | .nil, _ :: _, _, _, e => by cases e
  | .cons _ _, [], _, _, e => by cases e
/-- a tuple or a list of so many -/
def gTupB (K : PySem.W.Frag) (n : Nat) (t : TGs) : TG := fun v σ H Q => ∃ a xs, v = .ref a ∧ (SqT K H a xs ∨ SqL K H a xs) ∧ xs.length = n ∧ t xs σ H Q
theorem pg_tupB {es : List Expr} {k : Nat} {pos : Pos} {t : TGs} {n : Nat} (hc : X.calm = true) (h : PGs X es t) (hn : (assignEach es X.env).length = n) (hst : (assignEach es X.env).findIdx? (·.1) = none) : PG X (.Tuple es k pos) (gTupB X.K n t) := by
  refine ⟨fun pins s σ H v u Q I r hw => ?_⟩
  obtain ⟨a, xs, e1, hq, hl, hw⟩ := hw
  subst e1
  rcases hq with hq | hq
  · exact (pg_tup hc h hn hst).run pins s σ H _ u Q I r ⟨a, xs, rfl, hq, hl, hw⟩
  · cases r
    obtain ⟨its, rv, ht, hz⟩ := I.list hq
    rw [PyProof.Rows.assign_Tuple]
    refine wpAny_bind (wpAny_standAt ?_)
    unfold unpack
    have hsz : (assignEach es X.env).length = its.toArray.size := by rw [hn, ← hl, rv.length, List.size_toArray]
    rw [hsz, hst]
    refine wpAny_bind (wpAny_holding (PySem.W.kun_itemsOf (I.ok.hd hc) ht.isList fun h' hx => ?_))
    have I1 : Inv X pins σ H { s with heap := h' } := I.kept (t' := s.toks) fun b o e => hx b o (Nat.ne_of_lt (Heap.lt_size e)) e
    exact h.run pins _ σ H xs _ Q I1 (by simpa using rv) hw
theorem jg_tup {es : List Expr} {k : Nat} {pos : Pos} {t : Tgs} (hc : X.calm = true) (h : JGs X es t) (hn : (assignEach es X.env).length = t.len) (hst : (assignEach es X.env).findIdx? (·.1) = none) : JG X (.Tuple es k pos) (.tp t) :=
  PG.imp (pg_tupB hc h hn hst) fun v σ H Q ⟨g, ρ, st, w, ρ', R, E, r, e, q⟩ => by
    cases w with
    | d d =>
      cases d with
      | tuple ds =>
        cases r with
        | tup h1 h2 => exact ⟨_, _, rfl, .inl (sqt_mono R.sub h1.sqt), by rw [dqAll_len h2]; exact setTs_len e, g, ρ, st, ds, ρ', R, E, h2, e, q⟩
      | list ds =>
        cases r with
        | lst h1 h2 => exact ⟨_, _, rfl, .inr (SqL.of (R.sub _ _ h1)), by rw [dqAll_len h2]; exact setTs_len e, g, ρ, st, ds, ρ', R, E, h2, e, q⟩
      | _ => cases e
    | p ds =>
      obtain ⟨a, vs, rfl, h1, h2⟩ := r
      exact ⟨_, _, rfl, .inl (sqt_mono R.sub h1), by rw [dqAll_len h2]; exact setTs_len e, g, ρ, st, ds, ρ', R, E, h2, e, q⟩
    | _ => cases e
/-! ### target = e -/
def asgS (m : Rho → Sto → Res Vl) (t : Tg) (ρ : Rho) (st : Sto) : RS := (m ρ st).then ρ fun v st => match setT t v ρ with
  | some ρ' => .nx ρ' st
  | none => .stuck
theorem js_asg {tg e : Expr} {pos : Pos} {m : Rho → Sto → Res Vl} {t : Tg} (he : JE X W e m) (hg : JG X tg t) (hs : swapsWithSole [tg] e pos.line X.env = pure false) (hw : swappedStores [tg] e X.env = pure none)
    (h1 : (assignEach [tg] X.env).map (·.2) = [assign tg X.env]) : JS X W (.Assign [tg] e pos) (asgS m t) :=
  PS.imp (ps_asg he hg hs hw h1) fun D σ H ⟨g, ρ, st, R, E, q⟩ => ⟨g, ρ, st, R, E, PostS.then E q fun u H1 v st1 g1 l1 R1 r1 q1 => by
    split at q1
    · rename_i ρ' h
      exact ⟨g1, ρ, st1, v, ρ', R1, E.mono l1.1, r1, h, fun σ' E' _ => q1 σ' H1 g1 (Gh.le.refl _) R1 E'⟩
    · exact q1.elim⟩
/-! ### a, b = e, f with both names the def's own -/
def parS (ms : Rho → Sto → Res (List Vl)) (is : List Nat) (ρ : Rho) (st : Sto) : RS := (ms ρ st).then ρ fun vs st => if vs.length = is.length then .nx ((is.zip vs).foldl (fun (ρ : Rho) p => ρ.set p.1 (some p.2)) ρ) st else .stuck
theorem js_par {i j : Nat} {x y : Str} {a b : Expr} {ms : Rho → Sto → Res (List Vl)} {px py pt pos : Pos} {kt k2 : Nat} {pt2 : Pos} (hc : X.calm = true) (hN : X.N.Nodup) (hi : X.N[i]? = some x) (hj : X.N[j]? = some y) (hij : i ≠ j)
    (hx : X.env.scope.names.lookup x = some .local) (hy : X.env.scope.names.lookup y = some .local) (ha : JA X W [a, b] ms)
    (hw : swappedStores [.Tuple [.Name x px, .Name y py] kt pt] (.Tuple [a, b] k2 pt2) X.env = pure (some [x, y]))
    (hs : swapsWithSole [.Tuple [.Name x px, .Name y py] kt pt] (.Tuple [a, b] k2 pt2) pos.line X.env = pure false) :
    JS X W (.Assign [.Tuple [.Name x px, .Name y py] kt pt] (.Tuple [a, b] k2 pt2) pos) (parS ms [i, j]) :=
  PS.imp (ps_par hc hN hi hj hij hx hy ha hw hs) fun D σ H ⟨g, ρ, st, R, E, q⟩ => ⟨g, ρ, st, R, E, PostS.then E q fun us H1 vs st1 g1 l1 R1 r1 q1 => by
    split at q1
    · rename_i hl
      match vs, hl with
      | [v, w], _ =>
        obtain ⟨u, t, rfl, ru, rt⟩ := valsR2 r1
        exact ⟨u, t, rfl, q1 _ H1 g1 (Gh.le.refl _) R1 (rho_set (rho_set (E.mono l1.1) ru i) rt j)⟩
    · exact q1.elim⟩
theorem valsR3 {mg : Str → Option Value} {K : PySem.W.Frag} {g : Gh} {us : List V} {v w z : Vl} (h : ValsR mg K g us [v, w, z]) : ∃ u t r, us = [u, t, r] ∧ ValR mg K g u v ∧ ValR mg K g t w ∧ ValR mg K g r z := by
  cases us with
  | nil => exact h.elim
  | cons u r =>
    obtain ⟨t, s, rfl, h2, h3⟩ := valsR2 h.2
    exact ⟨u, t, s, rfl, h.1, h2, h3⟩
/-! ### cells are written -/
theorem Rel.write {K : PySem.W.Frag} {H : Hp} {g : Gh} {st : Sto} (R : Rel K H g st) {n : Nat} {as : List Addr} {c c' : Cell} (h1 : g.at_[n]? = some as) (h2 : (st : List Cell)[n]? = some c) (hl : c ≠ .dead) {p : Addr} (hp : p ∈ as) {o : HO} (new : CellR K (upd H p o) g as c')
    (cl : ∀ ns, c' = .lstc ns → ∀ m ∈ ns, m < n) (no : ∀ ps, o ≠ .tbl ps := by intro ps z; cases z) (clO : ∀ (cls : Str) (fs : List (Str × Nat)), c' = .ob cls fs → ∀ f ∈ fs, f.2 < n := by intro _ _ e; cases e) : Rel K (upd H p o) g (st.set n c') := by
  have fp : g.F p = none := R.apart n _ _ h1 h2 hl p hp
  have hn := (List.getElem?_eq_some_iff.mp h2).1
  have old : ∀ (m : Nat) (d : Cell), (st.set n c' : List Cell)[m]? = some d → (n = m ∧ d = c') ∨ (n ≠ m ∧ (st : List Cell)[m]? = some d) := fun m d h => by
    by_cases hm : n = m
    · subst hm
      rw [List.getElem?_set_self hn] at h
      cases h
      exact .inl ⟨rfl, rfl⟩
    · rw [List.getElem?_set_ne hm] at h
      exact .inr ⟨hm, h⟩
  -- whatever is live now was live
  have was : ∀ (m : Nat) (d : Cell), (st.set n c' : List Cell)[m]? = some d → d ≠ .dead → ∃ d0, (st : List Cell)[m]? = some d0 ∧ d0 ≠ .dead := fun m d h hd => by
    rcases old m d h with ⟨rfl, rfl⟩ | ⟨_, h⟩
    · exact ⟨c, h2, hl⟩
    · exact ⟨d, h, hd⟩
  refine ⟨fun b x e => by rw [upd_ne (ne_of_none e fp)]; exact R.sub b x e, fun m as' c1 h3 h4 h5 q hq => ?_, fun as' ha q hq => ?_, fun a b as bs d e e1 e2 e3 e4 e5 e6 e7 => ?_, by rw [List.length_set]; exact R.len, fun m ns h k hk => ?_, fun m cls fs h f hf => ?_, fun m as' c1 h3 h4 => ?_, fun q u hq => ?_, tabs_lst R.tabs (cell_lst (R.cells n as c h1 h2) hl hp), R.notbl⟩
  · obtain ⟨d0, h6, h7⟩ := was m c1 h4 h5
    exact R.apart m as' d0 h3 h6 h7 q hq
  · by_cases hqp : q = p
    · exact ⟨o, by rw [hqp]; exact upd_same, no⟩
    · rw [upd_ne hqp]; exact R.there as' ha q hq
  · obtain ⟨d0, h6, h7⟩ := was a d e3 e5
    obtain ⟨f0, h8, h9⟩ := was b e e4 e6
    exact R.nd a b as bs d0 f0 e1 e2 h6 h8 h7 h9 e7
  · rcases old m _ h with ⟨rfl, e⟩ | ⟨_, h⟩
    · exact cl ns e.symm k hk
    · exact R.closed m ns h k hk
  · rcases old m _ h with ⟨rfl, e⟩ | ⟨_, h⟩
    · exact clO cls fs e.symm f hf
    · exact R.closedO m cls fs h f hf
  · rcases old m c1 h4 with ⟨rfl, rfl⟩ | ⟨hm, h4⟩
    · rw [h1] at h3
      cases h3
      exact new
    · by_cases hc : c1 = .dead
      · subst hc; trivial
      · have sep := R.nd n m as as' c c1 h1 h3 h2 h4 hl hc hm p hp
        exact CellR.mono (Gh.le0.refl _) (fun q hq => upd_ne (fun z : q = p => sep (z ▸ hq))) (R.cells m as' c1 h3 h4)
  · obtain ⟨e1, e2, e3⟩ := R.aside q u hq
    have hqp : q ≠ p := fun z => e3.1 as (List.mem_of_getElem? h1) (z ▸ hp)
    exact ⟨(upd_ne hqp).trans e1, e2, e3⟩
/-- the list in cell n is replaced -/
theorem Rel.setL {K : PySem.W.Frag} {H : Hp} {g : Gh} {st : Sto} (R : Rel K H g st) {n : Nat} {p : Addr} {rest : List Addr} {xs : List PyData} (h1 : g.at_[n]? = some (p :: rest)) (h2 : (st : List Cell)[n]? = some (.lst xs)) :
    ∃ vs, H p = some (.lst vs) ∧ DqAll K g.F vs xs ∧ ∀ ws ys, DqAll K g.F ws ys → Rel K (upd H p (.lst ws)) g (st.set n (.lst ys)) := by
  obtain ⟨p', vs, e, hp, hd⟩ := R.cells n _ _ h1 h2
  cases e
  exact ⟨vs, hp, hd, fun ws ys d => R.write h1 h2 (fun z => by cases z) List.mem_cons_self ⟨p, ws, rfl, upd_same, d⟩ (fun ns e => by cases e)⟩
end
end M1

/-! part I: what is walked, for, while, comprehensions -/
namespace M1
open PySem PySem.Spec L2
mutual
/-- the very same data -/
def sameD : PyData → PyData → Bool
  | .none, .none => true
  | .bool a, .bool b => a == b
  | .int a, .int b => a == b
  | .str a, .str b => decide (a = b)
  | .list a, .list b => sameDs a b
  | .tuple a, .tuple b => sameDs a b
  | _, _ => false
def sameDs : List PyData → List PyData → Bool
  | [], [] => true
  | a :: r, b :: t => sameD a b && sameDs r t
  | _, _ => false
end
mutual
theorem sameD_eq : ∀ {a b : PyData}, sameD a b = true → a = b
  | .none, .none, _ => rfl
  | .bool a, .bool b, h => by rw [sameD] at h; rw [eq_of_beq h]
  | .int a, .int b, h => by rw [sameD] at h; rw [eq_of_beq h]
  | .str a, .str b, h => by rw [sameD] at h; rw [of_decide_eq_true h]
  | .list a, .list b, h => by rw [sameD] at h; rw [sameDs_eq h]
  | .tuple a, .tuple b, h => by rw [sameD] at h; rw [sameDs_eq h]
  | .none, .bool _, h | .none, .int _, h | .none, .str _, h | .none, .list _, h | .none, .tuple _, h | .none, .dict _, h => by rw [sameD] at h <;> first | cases h | (intros; contradiction)
  | .bool _, .none, h | .bool _, .int _, h | .bool _, .str _, h | .bool _, .list _, h | .bool _, .tuple _, h | .bool _, .dict _, h => by rw [sameD] at h <;> first | cases h | (intros; contradiction)
  | .int _, .none, h | .int _, .bool _, h | .int _, .str _, h | .int _, .list _, h | .int _, .tuple _, h | .int _, .dict _, h => by rw [sameD] at h <;> first | cases h | (intros; contradiction)
  | .str _, .none, h | .str _, .bool _, h | .str _, .int _, h | .str _, .list _, h | .str _, .tuple _, h | .str _, .dict _, h => by rw [sameD] at h <;> first | cases h | (intros; contradiction)
  | .list _, .none, h | .list _, .bool _, h | .list _, .int _, h | .list _, .str _, h | .list _, .tuple _, h | .list _, .dict _, h => by rw [sameD] at h <;> first | cases h | (intros; contradiction)
  | .tuple _, .none, h | .tuple _, .bool _, h | .tuple _, .int _, h | .tuple _, .str _, h | .tuple _, .list _, h | .tuple _, .dict _, h => by rw [sameD] at h <;> first | cases h | (intros; contradiction)
  | .dict _, .none, h | .dict _, .bool _, h | .dict _, .int _, h | .dict _, .str _, h | .dict _, .list _, h | .dict _, .tuple _, h | .dict _, .dict _, h => by rw [sameD] at h <;> first | cases h | (intros; contradiction)
theorem sameDs_eq : ∀ {a b : List PyData}, sameDs a b = true → a = b
  | [], [], _ => rfl
  | a :: r, b :: t, h => by
    rw [sameDs, Bool.and_eq_true] at h
    rw [sameD_eq h.1, sameDs_eq h.2]
  | [], _ :: _, h => by simp [sameDs] at h
  | _ :: _, [], h => by simp [sameDs] at h
end
/-- a cell holds this -/
def sameC : Option Cell → Cell → Bool
  | some (.lst xs), .lst ys => sameDs xs ys
  | some (.lstc xs), .lstc ys => xs == ys
  | some (.ts xs), .ts ys => xs == ys
  | some (.dws xs), .dws ys => xs == ys
  | _, _ => false
theorem sameC_eq : ∀ {o : Option Cell} {c : Cell}, sameC o c = true → o = some c
  | some (.lst xs), .lst ys, h => by rw [sameC] at h; rw [sameDs_eq h]
  | some (.lstc xs), .lstc ys, h => by rw [sameC] at h; rw [eq_of_beq h]
  | some (.ts xs), .ts ys, h => by rw [sameC] at h; rw [eq_of_beq h]
  | some (.ts _), .dead, h => by simp [sameC] at h
  | some (.ts _), .lst _, h => by simp [sameC] at h
  | some (.ts _), .lstc _, h => by simp [sameC] at h
  | some (.ts _), .di _, h => by simp [sameC] at h
  | some (.ts _), .dc _, h => by simp [sameC] at h
  | some (.ts _), .ob _ _, h => by simp [sameC] at h
  | some (.lst _), .ts _, h => by simp [sameC] at h
  | some (.lst _), .ob _ _, h => by simp [sameC] at h
  | some (.lstc _), .ts _, h => by simp [sameC] at h
  | some (.lstc _), .ob _ _, h => by simp [sameC] at h
  | some (.ob _ _), _, h => by simp [sameC] at h
  | some .slot, _, h => by simp [sameC] at h
  | some (.ll _), _, h => by simp [sameC] at h
  | some (.dws xs), .dws ys, h => by rw [sameC] at h; rw [eq_of_beq h]
  | some (.dws _), .dead, h => by simp [sameC] at h
  | some (.dws _), .lst _, h => by simp [sameC] at h
  | some (.dws _), .lstc _, h => by simp [sameC] at h
  | some (.dws _), .di _, h => by simp [sameC] at h
  | some (.dws _), .dc _, h => by simp [sameC] at h
  | some (.dws _), .ts _, h => by simp [sameC] at h
  | some (.dws _), .ob _ _, h => by simp [sameC] at h
  | some (.dws _), .slot, h => by simp [sameC] at h
  | some (.dws _), .ll _, h => by simp [sameC] at h
  | some (.ts _), .dws _, h => by simp [sameC] at h
  | some (.lst _), .dws _, h => by simp [sameC] at h
  | some (.lstc _), .dws _, h => by simp [sameC] at h
  | some (.ts _), .slot, h => by simp [sameC] at h
  | some (.ts _), .ll _, h => by simp [sameC] at h
  | some (.lst _), .slot, h => by simp [sameC] at h
  | some (.lst _), .ll _, h => by simp [sameC] at h
  | some (.lstc _), .slot, h => by simp [sameC] at h
  | some (.lstc _), .ll _, h => by simp [sameC] at h
  | none, _, h => by simp [sameC] at h
  | some .dead, _, h => by simp [sameC] at h
  | some (.lst _), .dead, h => by simp [sameC] at h
  | some (.lst _), .lstc _, h => by simp [sameC] at h
  | some (.lstc _), .dead, h => by simp [sameC] at h
  | some (.lstc _), .lst _, h => by simp [sameC] at h
  | some (.lst _), .di _, h => by simp [sameC] at h
  | some (.lst _), .dc _, h => by simp [sameC] at h
  | some (.lstc _), .di _, h => by simp [sameC] at h
  | some (.lstc _), .dc _, h => by simp [sameC] at h
  | some (.di _), _, h => by simp [sameC] at h
  | some (.dc _), _, h => by simp [sameC] at h
variable [LT]
/-- what must not change while a thing is walked -/
abbrev Gd := Option (List (Nat × Cell))
def gdOk (gd : Gd) (st : Sto) : Bool := match gd with
  | none => true
  | some l => l.all fun q => sameC (st : List Cell)[q.1]? q.2
omit [LT] in
theorem gd_at {l : List (Nat × Cell)} {st : Sto} (h : gdOk (some l) st = true) {n : Nat} {c : Cell} (hm : (n, c) ∈ l) : (st : List Cell)[n]? = some c := sameC_eq (List.all_eq_true.mp h (n, c) hm)
omit [LT] in
@[simp] theorem gdOk_none (st : Sto) : gdOk none st = true := rfl
section
variable {X : Cx} {W : WX}
/-- the iterator J gives these items -/
def ItOk (X : Cx) (g : Gh) (J : It) (a : List Vl × Gd) : Prop :=
  ∀ (i : Nat) (H : Hp) (g' : Gh) (st : Sto), g.le0 g' → Rel X.K H g' st → gdOk a.2 st = true →
    (i < a.1.length → J.go i H ∧ ∀ x H', J.yld i H x H' → ∃ g'' w, g'.le g'' ∧ Rel X.K H' g'' st ∧ a.1[i]? = some w ∧ ValR X.mg X.K g'' x w) ∧ (i = a.1.length → J.stop i H)
def tDI (X : Cx) (W : WX) (mi : Rho → Sto → Res (List Vl × Gd)) : TI := fun σ H R => ∃ g ρ st, Rel X.K H g st ∧ RhoR X.mg X.K g σ ρ ∧ PostE X W σ g (ItOk X) R (mi ρ st)
def JI (X : Cx) (W : WX) (tg e : Expr) (mi : Rho → Sto → Res (List Vl × Gd)) : Prop := PI X tg e (tDI X W mi)
theorem PI.imp {tg e : Expr} {t t' : TI} (h : PI X tg e t) (i : ∀ σ H R, t' σ H R → t σ H R) : PI X tg e t' := ⟨fun pins s σ H R I q => h.run pins s σ H R I (i σ H R q)⟩

/-! ### for -/
def forL (gd : Gd) (t : Tg) (body : Rho → Sto → RS) : List Vl → Rho → Sto → RS
  | [], ρ, st => if gdOk gd st = true then .nx ρ st else .stuck
  | w :: ws, ρ, st => if gdOk gd st = true then match setT t w ρ with
      | some ρ1 => match body ρ1 st with
        | .nx ρ2 st2 => forL gd t body ws ρ2 st2
        | .ct ρ2 st2 => forL gd t body ws ρ2 st2
        | .bk ρ2 st2 => .nx ρ2 st2
        | .ret v st2 => .ret v st2
        | .err x ρ2 st2 => .err x ρ2 st2
        | .stuck => .stuck
      | none => .stuck
    else .stuck
def forS (mi : Rho → Sto → Res (List Vl × Gd)) (t : Tg) (body : Rho → Sto → RS) (ρ : Rho) (st : Sto) : RS := (mi ρ st).then ρ fun a st => forL a.2 t body a.1 ρ st
theorem drop_get {α : Type} {l : List α} {i : Nat} {w : α} {ws : List α} (h : l.drop i = w :: ws) : l[i]? = some w ∧ ws = l.drop (i + 1) ∧ i < l.length := by
  have hl : i < l.length := by
    refine Nat.lt_of_not_le fun z => ?_
    rw [List.drop_eq_nil_of_le z] at h
    cases h
  rw [List.drop_eq_getElem_cons hl] at h
  cases h
  exact ⟨List.getElem?_eq_getElem hl, rfl, hl⟩
theorem js_for {tg iter : Expr} {body : List Stmt} {pos : Pos} {mi : Rho → Sto → Res (List Vl × Gd)} {t : Tg} {mb : Rho → Sto → RS} (hp : PassesOwn (model X.prog X.w) X.A X.env X.xe) (hc : X.calm = true) (hi : JI X W tg iter mi) (hg : JG X tg t) (hb : JSs X W body mb) (hs : ∀ x, foldedSetIterable iter X.env x = pure x) :
    JS X W (.For tg iter body [] pos) (forS mi t mb) := by
  refine PS.imp (ps_for hp hc hi hg hb (hs := hs)) fun D σ H ⟨g, ρ, st, R, E, q⟩ => ⟨g, ρ, st, R, E, PostS.then E q fun J H1 a st1 g1 l1 R1 it q1 => ?_⟩
  obtain ⟨items, gd⟩ := a
  refine ⟨fun i m σ' H' => i + m = items.length ∧ ∃ g' ρ' st', g1.le0 g' ∧ Rel X.K H' g' st' ∧ RhoR X.mg X.K g' σ' ρ' ∧ PostS X W g' D (forL gd t mb (items.drop i) ρ' st'), ⟨items.length, by omega, g1, ρ, st1, .refl g1, R1, E.mono l1.1, q1⟩, ?_⟩
  rintro i m σ' H' ⟨him, g', ρ', st', l', R', E', q'⟩
  cases hd : items.drop i with
  | nil =>
    rw [hd] at q'
    unfold forL at q'
    have hl0 : items.length ≤ i := List.drop_eq_nil_iff.mp hd
    have hl : i = items.length := by omega
    split at q'
    · rename_i hgd
      exact .inl ⟨(it i H' g' st' l' R' hgd).2 hl, q' σ' H' g' (.refl g') R' E'⟩
    · exact q'.elim
  | cons w ws =>
    obtain ⟨hw, hws, hlt⟩ := drop_get hd
    rw [hd] at q'
    unfold forL at q'
    split at q'
    · rename_i hgd
      obtain ⟨hgo, hy⟩ := (it i H' g' st' l' R' hgd).1 hlt
      refine .inr ⟨hgo, fun σ2 H2 => i + 1 + (m - 1) = items.length ∧ ∃ g2 ρ2 st2, g1.le0 g2 ∧ Rel X.K H2 g2 st2 ∧ RhoR X.mg X.K g2 σ2 ρ2 ∧ PostS X W g2 D (forL gd t mb (items.drop (i + 1)) ρ2 st2), fun σ2 H2 n => ⟨m - 1, by omega, n⟩, fun x H2 hx => ?_⟩
      obtain ⟨g2, w', l2, R2, ew, rw'⟩ := hy x H2 hx
      rw [hw] at ew
      cases ew
      split at q'
      · rename_i ρ1 hs
        refine ⟨g2, ρ', st', w, ρ1, R2, E'.mono l2.1, rw', hs, fun σ3 E3 _ => ⟨g2, ρ1, st', R2, E3, ?_⟩⟩
        have fin : ∀ ρ2 st2, PostS X W g' D (forL gd t mb ws ρ2 st2) → ∀ σ4 H4 g4, g2.le g4 → Rel X.K H4 g4 st2 → RhoR X.mg X.K g4 σ4 ρ2 →
            i + 1 + (m - 1) = items.length ∧ ∃ g2 ρ2 st2, g1.le0 g2 ∧ Rel X.K H4 g2 st2 ∧ RhoR X.mg X.K g2 σ4 ρ2 ∧ PostS X W g2 D (forL gd t mb (items.drop (i + 1)) ρ2 st2) := fun ρ2 st2 q2 σ4 H4 g4 l4 R4 E4 =>
          ⟨by omega, g4, ρ2, st2, l'.trans (l2.1.trans l4.1), R4, E4, by rw [← hws]; exact PostS.mono (l2.trans l4) q2⟩
        revert q'
        cases mb ρ1 st' with
        | nx ρ2 st2 => exact fin ρ2 st2
        | ct ρ2 st2 => exact fin ρ2 st2
        | bk ρ2 st2 => exact fun q2 => PostS.mono (D := D) (r := .nx ρ2 st2) l2 q2
        | ret v st2 => exact fun q2 => PostS.mono (D := D) (r := .ret v st2) l2 q2
        | err x ρ2 st2 => exact fun q2 => PostS.mono (D := D) (r := .err x ρ2 st2) l2 q2
        | stuck => exact id
      · exact q'.elim
    · exact q'.elim

/-! ### while, at most so many turns -/
def whileL (t : Rho → Sto → Res Bool) (body : Rho → Sto → RS) : Nat → Rho → Sto → RS
  | 0, _, _ => .stuck
  | n + 1, ρ, st => (t ρ st).then ρ fun k st => if k = true then match body ρ st with
        | .nx ρ2 st2 => whileL t body n ρ2 st2
        | .ct ρ2 st2 => whileL t body n ρ2 st2
        | .bk ρ2 st2 => .nx ρ2 st2
        | .ret v st2 => .ret v st2
        | .err x ρ2 st2 => .err x ρ2 st2
        | .stuck => .stuck
      else .nx ρ st
theorem js_while {c : Expr} {body : List Stmt} {pos : Pos} {t : Rho → Sto → Res Bool} {mb : Rho → Sto → RS} (n : Nat) (hp : PassesOwn (model X.prog X.w) X.A X.env X.xe) (hc : JT X W c t) (hb : JSs X W body mb) : JS X W (.While c body [] pos) (whileL t mb n) := by
  refine PS.imp (ps_while hp hc hb) fun D σ H ⟨g, ρ, st, R, E, q⟩ => ?_
  refine ⟨fun m σ' H' => ∃ g' ρ' st', Rel X.K H' g' st' ∧ RhoR X.mg X.K g' σ' ρ' ∧ PostS X W g' D (whileL t mb m ρ' st'), ⟨n, g, ρ, st, R, E, q⟩, ?_⟩
  rintro m σ' H' ⟨g', ρ', st', R', E', q'⟩
  refine ⟨g', ρ', st', R', E', ?_⟩
  cases m with
  | zero => exact q'.elim
  | succ m =>
    unfold whileL at q'
    refine PostS.then E' q' fun k H2 k' st2 g2 l2 R2 e q2 => ?_
    subst e
    cases k with
    | true =>
      rw [if_pos rfl] at q2 ⊢
      refine ⟨fun σ3 H3 => ∃ g3 ρ3 st3, Rel X.K H3 g3 st3 ∧ RhoR X.mg X.K g3 σ3 ρ3 ∧ PostS X W g3 D (whileL t mb m ρ3 st3), fun σ3 H3 h => ⟨m, Nat.lt_succ_self m, h⟩, g2, ρ', st2, R2, E'.mono l2.1, ?_⟩
      revert q2
      cases mb ρ' st2 with
      | nx ρ3 st3 => exact fun q3 σ3 H3 g3 l3 R3 E3 => ⟨g3, ρ3, st3, R3, E3, PostS.mono l3 q3⟩
      | ct ρ3 st3 => exact fun q3 σ3 H3 g3 l3 R3 E3 => ⟨g3, ρ3, st3, R3, E3, PostS.mono l3 q3⟩
      | bk ρ3 st3 => exact id
      | ret v st3 => exact id
      | err x ρ3 st3 => exact id
      | stuck => exact id
    | false =>
      rw [if_neg Bool.false_ne_true] at q2 ⊢
      exact q2 σ' H2 g2 (.refl g2) R2 (E'.mono l2.1)

/-! ### comprehensions -/
def wipeR (ρ : Rho) : List Nat → Rho
  | [] => ρ
  | v :: vs => (wipeR ρ vs).set v none
theorem wipe_rho {mg : Str → Option Value} {K : PySem.W.Frag} {g : Gh} {σ : St} {ρ : Rho} (E : RhoR mg K g σ ρ) : ∀ vs : List Nat, RhoR mg K g (wipe σ vs) (wipeR ρ vs)
  | [] => E
  | v :: vs => by
    obtain ⟨h1, h2⟩ := wipe_rho E vs
    unfold wipe wipeR
    refine ⟨by rw [List.length_set, List.length_set]; exact h1, fun i w e => ?_⟩
    by_cases hi : v = i
    · subst hi
      by_cases hl : v < (wipeR ρ vs).length
      · rw [List.getElem?_set_self hl] at e; cases e
      · rw [List.getElem?_eq_none (by rw [List.length_set]; omega)] at e; cases e
    · rw [List.getElem?_set_ne hi] at e
      rw [List.getElem?_set_ne hi]
      exact h2 i w e
/-- an error inside is not followed -/
def quiet {α : Type} : Res α → Res α
  | .err _ _ => .stuck
  | r => r
def compL (gd : Gd) (t : Tg) (c : Rho → Sto → Res Bool) (el : Rho → Sto → Res Vl) (ρ : Rho) : List Vl → Sto → Res (List PyData)
  | [], st => if gdOk gd st = true then .ok [] st else .stuck
  | w :: ws, st => if gdOk gd st = true then match setT t w ρ with
      | some ρ1 => (quiet (c ρ1 st)).bind fun b st => if b = true then (quiet (el ρ1 st)).bind fun v st => match v with
            | .d d => (compL gd t c el ρ ws st).bind fun ds st => .ok (d :: ds) st
            | _ => .stuck
          else compL gd t c el ρ ws st
      | none => .stuck
    else .stuck
def compM (mi : Rho → Sto → Res (List Vl × Gd)) (t : Tg) (own : List Nat) (c : Rho → Sto → Res Bool) (el : Rho → Sto → Res Vl) (ρ : Rho) (st : Sto) : Res (List PyData) :=
  (mi ρ st).bind fun a st => if a.1.length < 1000000 then compL a.2 t c el (wipeR ρ own) a.1 st else .stuck
def tYesM (_ : Rho) (st : Sto) : Res Bool := .ok true st
def JTs (X : Cx) (W : WX) (ifs : List Expr) (m : Rho → Sto → Res Bool) : Prop := PTs X ifs (tDT X W m)
theorem PTs.imp {es : List Expr} {t t' : TT} (h : PTs X es t) (i : ∀ σ H Q, t' σ H Q → t σ H Q) : PTs X es t' := ⟨fun pins s σ H Q I q => h.run pins s σ H Q I (i σ H Q q)⟩
theorem jts_nil : JTs X W [] tYesM := PTs.imp pts_nil fun σ H Q ⟨g, ρ, st, R, E, q⟩ => q true H g (.refl g) R rfl
theorem jts_one {c : Expr} {m : Rho → Sto → Res Bool} (h : JT X W c m) : JTs X W [c] m := pts_one h
abbrev W0 : WX := fun _ _ _ _ => False
/-- the post of a quiet result, whatever the outer wish -/
theorem PostE.quiet {α β : Type} {σ : St} {g : Gh} {R : Gh → β → α → Prop} {Q : β → Hp → Prop} {r : Res α} (h : ∀ v st, r = .ok v st → ∀ u H g', g.le g' → Rel X.K H g' st → R g' u v → Q u H) (hs : ∃ v st, r = .ok v st) : PostE X W0 σ g R Q r := by
  obtain ⟨v, st, e⟩ := hs
  subst e
  exact h v st rfl
theorem quiet_ok {α : Type} {r : Res α} {v : α} {st : Sto} (h : quiet r = .ok v st) : r = .ok v st := by
  cases r with
  | ok a st' => exact h
  | err x st' => cases h
  | stuck => cases h
theorem wipe_idem {σ σ' : St} {vs : List Nat} {t : Tg} (k : Keeps t.slots (wipe σ vs) σ') (h : ∀ i ∈ t.slots, i ∈ vs) : wipe σ' vs = wipe σ vs := by
  rw [k vs h]
  apply List.ext_getElem?
  intro j
  rw [wipe_get, wipe_get]
  by_cases hj : j ∈ vs
  · rw [if_pos hj, if_pos hj]
    cases σ[j]? <;> rfl
  · rw [if_neg hj, if_neg hj]
/-- a list that is being built stands aside -/
theorem Rel.pvNew {K : PySem.W.Frag} {H : Hp} {g : Gh} {st : Sto} (R : Rel K H g st) {D : Addr} (hD : H D = none) (o : HO) (ho : Plain o := by exact plain_lst _) : Rel K (upd H D o) { g with pv := upd g.pv D o } st := by
  obtain ⟨f1, f2⟩ := R.fresh hD
  refine ⟨fun b x e => ?_, R.apart, fun as ha q hq => ?_, R.nd, R.len, R.closed, R.closedO, fun n as c h1 h2 => ?_, fun q u hq => ?_, tabs_new R.tabs hD, R.notbl⟩
  · rw [upd_ne (ne_of_none (R.sub b x e) hD)]; exact R.sub b x e
  · rw [upd_ne (fun z : q = D => f2 as ha (z ▸ hq))]; exact R.there as ha q hq
  · exact CellR.mono ⟨Same.refl _, fun _ _ r h => ⟨r, h⟩⟩ (fun q hq => upd_ne (fun z : q = D => f2 as (List.mem_of_getElem? h1) (z ▸ hq))) (R.cells n as c h1 h2)
  · by_cases hqD : q = D
    · subst hqD
      have hq : upd g.pv q o q = some u := hq
      rw [upd_same] at hq
      cases hq
      exact ⟨upd_same, f1, f2, ho⟩
    · have hq : upd g.pv D o q = some u := hq
      rw [upd_ne hqD] at hq
      obtain ⟨h1, h2, h3⟩ := R.aside q u hq
      exact ⟨(upd_ne hqD).trans h1, h2, h3⟩
theorem Rel.pvSet {K : PySem.W.Frag} {H : Hp} {g : Gh} {st : Sto} (R : Rel K H g st) {D : Addr} {o' : HO} (hD : g.pv D = some o') (o : HO) (pv : Hp) (hp : upd g.pv D o = pv) (ho : Plain o := by exact plain_lst _) : Rel K (upd H D o) { g with pv := pv } st := by
  subst hp
  obtain ⟨f0, f1, f2⟩ := R.aside D o' hD
  refine ⟨fun b x e => ?_, R.apart, fun as ha q hq => ?_, R.nd, R.len, R.closed, R.closedO, fun n as c h1 h2 => ?_, fun q u hq => ?_, tabs_upd R.tabs f0 f2.2, R.notbl⟩
  · rw [upd_ne (ne_of_none e f1)]; exact R.sub b x e
  · rw [upd_ne (fun z : q = D => f2.1 as ha (z ▸ hq))]; exact R.there as ha q hq
  · exact CellR.mono ⟨Same.refl _, fun _ _ r h => ⟨r, h⟩⟩ (fun q hq => upd_ne (fun z : q = D => f2.1 as (List.mem_of_getElem? h1) (z ▸ hq))) (R.cells n as c h1 h2)
  · by_cases hqD : q = D
    · subst hqD
      have hq : upd g.pv q o q = some u := hq
      rw [upd_same] at hq
      cases hq
      exact ⟨upd_same, f1, f2.1, ho⟩
    · have hq : upd g.pv D o q = some u := hq
      rw [upd_ne hqD] at hq
      obtain ⟨h1, h2, h3⟩ := R.aside q u hq
      exact ⟨(upd_ne hqD).trans h1, h2, h3⟩
/-- the list is ready: as if it had just been laid -/
theorem Rel.pvEnd {K : PySem.W.Frag} {H : Hp} {g : Gh} {st : Sto} (R : Rel K H g st) {D : Addr} {o : HO} {pv0 : Hp} (hp : g.pv = upd pv0 D o) (h0 : pv0 D = none) : ∃ H0, H0 D = none ∧ H = upd H0 D o ∧ Rel K H0 { g with pv := pv0 } st := by
  have hD : g.pv D = some o := by rw [hp, upd_same]
  obtain ⟨f0, f1, f2⟩ := R.aside D o hD
  have ne : ∀ {b : Addr}, b ≠ D → (fun b => if b = D then none else H b : Hp) b = H b := fun {b} h => if_neg h
  refine ⟨fun b => if b = D then none else H b, if_pos rfl, ?_, fun b x e => ?_, R.apart, fun as ha q hq => ?_, R.nd, R.len, R.closed, R.closedO, fun n as c h1 h2 => ?_, fun q u hq => ?_, tabs_del R.tabs f0 f2.2, R.notbl⟩
  · funext b
    by_cases hb : b = D
    · subst hb; rw [upd_same]; exact f0
    · rw [upd_ne hb, if_neg hb]
  · exact (if_neg (ne_of_none e f1)).trans (R.sub b x e)
  · show ∃ o, (if q = D then none else H q) = some o ∧ ∀ ps, o ≠ .tbl ps
    rw [if_neg (fun z : q = D => f2.1 as ha (z ▸ hq))]; exact R.there as ha q hq
  · exact CellR.mono ⟨Same.refl _, fun _ _ r h => ⟨r, h⟩⟩ (fun q hq => ne (fun z : q = D => f2.1 as (List.mem_of_getElem? h1) (z ▸ hq))) (R.cells n as c h1 h2)
  · have hq : pv0 q = some u := hq
    have hqD : q ≠ D := fun z => by rw [z, h0] at hq; cases hq
    obtain ⟨h1, h2, h3⟩ := R.aside q u (by rw [hp, upd_ne hqD]; exact hq)
    exact ⟨(ne hqD).trans h1, h2, h3⟩
/-- one turn of compL -/
theorem compL_cons {gd : Gd} {t : Tg} {c : Rho → Sto → Res Bool} {el : Rho → Sto → Res Vl} {ρ : Rho} {w : Vl} {ws : List Vl} {st st' : Sto} {ds : List PyData} (h : compL gd t c el ρ (w :: ws) st = .ok ds st') :
    gdOk gd st = true ∧ ∃ ρ1 b st1, setT t w ρ = some ρ1 ∧ c ρ1 st = .ok b st1 ∧
      ((b = false ∧ compL gd t c el ρ ws st1 = .ok ds st') ∨ (b = true ∧ ∃ d st2 ds', el ρ1 st1 = .ok (.d d) st2 ∧ compL gd t c el ρ ws st2 = .ok ds' st' ∧ ds = d :: ds')) := by
  unfold compL at h
  split at h
  · rename_i hg
    split at h
    · rename_i ρ1 hs
      refine ⟨hg, ρ1, ?_⟩
      cases hc : M1.quiet (c ρ1 st) with
      | stuck => rw [hc] at h; cases h
      | err => rw [hc] at h; cases h
      | ok b st1 =>
        rw [hc, Res.bind_ok] at h
        refine ⟨b, st1, hs, quiet_ok hc, ?_⟩
        cases b with
        | false =>
          rw [if_neg Bool.false_ne_true] at h
          exact .inl ⟨rfl, h⟩
        | true =>
          rw [if_pos rfl] at h
          cases he : M1.quiet (el ρ1 st1) with
          | stuck => rw [he] at h; cases h
          | err => rw [he] at h; cases h
          | ok v st2 =>
            rw [he, Res.bind_ok] at h
            cases v with
            | d d =>
              cases hr : compL gd t c el ρ ws st2 with
              | stuck => simp only [hr] at h; cases h
              | err => simp only [hr] at h; cases h
              | ok r st3 =>
                simp only [hr, Res.bind_ok] at h
                cases h
                exact .inr ⟨rfl, d, st2, r, quiet_ok he, hr, rfl⟩
            | c _ => cases h
            | x _ => cases h
            | s _ => cases h
            | p _ => cases h
            | f => cases h
            | fd _ => cases h
            | pd _ _ => cases h
    · cases h
  · cases h
theorem compL_noerr (gd : Gd) (t : Tg) (c : Rho → Sto → Res Bool) (el : Rho → Sto → Res Vl) (ρ : Rho) : ∀ (ws : List Vl) (st : Sto) (x : Exn) (st' : Sto), compL gd t c el ρ ws st ≠ .err x st'
  | [], st, x, st' => fun h => by unfold compL at h; split at h <;> cases h
  | w :: ws, st, x, st' => fun h => by
    unfold compL at h
    split at h
    · split at h
      · rename_i ρ1 hs
        cases hc : M1.quiet (c ρ1 st) with
        | stuck => rw [hc] at h; cases h
        | err => revert hc; cases c ρ1 st <;> intro hc <;> cases hc
        | ok b st1 =>
          rw [hc, Res.bind_ok] at h
          cases b with
          | false =>
            rw [if_neg Bool.false_ne_true] at h
            exact compL_noerr gd t c el ρ ws st1 x st' h
          | true =>
            rw [if_pos rfl] at h
            cases he : M1.quiet (el ρ1 st1) with
            | stuck => rw [he] at h; cases h
            | err => revert he; cases el ρ1 st1 <;> intro he <;> cases he
            | ok v st2 =>
              rw [he, Res.bind_ok] at h
              cases v with
              | d d =>
                cases hr : compL gd t c el ρ ws st2 with
                | stuck => simp only [hr] at h; cases h
                | err => exact compL_noerr gd t c el ρ ws st2 _ _ hr
                | ok r st3 => simp only [hr, Res.bind_ok] at h; cases h
              | c _ => cases h
              | x _ => cases h
              | s _ => cases h
              | p _ => cases h
              | f => cases h
              | fd _ => cases h
              | pd _ _ => cases h
      · cases h
    · cases h
theorem mil_line {n : Nat} (h : n < 1000000) : n < sizeLine := Nat.lt_trans h (by rw [sizeLine_eq]; decide)
theorem comp_read {mi : Rho → Sto → Res (List Vl × Gd)} {t : Tg} {own : List Nat} {c : Rho → Sto → Res Bool} {el : Rho → Sto → Res Vl} (ho : ∀ i ∈ t.slots, i ∈ own) {σ : St} {H : Hp} {Q : VK} (h : tF X W (compM mi t own c el) σ H Q) :
    tLc (tDI X W mi) (tGp X t) (tDT X W0 c) (tD X W0 el) own σ H Q := by
  obtain ⟨g, ρ, st, R, E, q⟩ := h
  refine ⟨g, ρ, st, R, E, PostF.bind q fun J H1 a st1 g1 l1 R1 it q1 => ?_⟩
  obtain ⟨items, gd⟩ := a
  split at q1
  · rename_i hlen
    have hlen : items.length < 1000000 := hlen
    cases hr : compL gd t c el (wipeR ρ own) items st1 with
    | stuck => rw [hr] at q1; exact q1.elim
    | err => exact absurd hr (compL_noerr _ _ _ _ _ _ _ _ _)
    | ok ds stE =>
      rw [hr] at q1
      intro D hD
      have hpv : g1.pv D = none := by
        cases hz : g1.pv D with
        | none => rfl
        | some u =>
          have := (R1.aside D u hz).1
          rw [hD] at this
          cases this
      refine ⟨fun i m H' => i + m = items.length ∧ ∃ g' st' acc accV rest, g1.le0 g' ∧ g'.pv = upd g1.pv D (.lst accV) ∧ Rel X.K H' g' st' ∧ DqAll X.K g'.F accV acc ∧ acc.length ≤ i ∧ compL gd t c el (wipeR ρ own) (items.drop i) st' = .ok rest stE ∧ acc ++ rest = ds,
        ⟨items.length, by omega, { g1 with pv := upd g1.pv D (.lst []) }, st1, [], [], ds, ⟨Same.refl _, fun _ _ r h => ⟨r, h⟩⟩, rfl, R1.pvNew hD _, .nil, Nat.le_refl _, hr, rfl⟩, ?_⟩
      rintro i m H' ⟨him, g', st', acc, accV, rest, l', hp', R', da, hal, hrest, hsum⟩
      cases hd : items.drop i with
      | nil =>
        rw [hd] at hrest
        unfold compL at hrest
        split at hrest
        · rename_i hgd
          cases hrest
          have hl0 : items.length ≤ i := List.drop_eq_nil_iff.mp hd
          have hl : i = items.length := by omega
          refine .inl ⟨(it i H' g' _ l' R' hgd).2 hl, ?_⟩
          obtain ⟨H0, h0, e0, R0⟩ := R'.pvEnd hp' hpv
          rw [e0]
          rw [List.append_nil] at hsum
          subst hsum
          exact q1 H0 { g' with pv := g1.pv } ⟨⟨l'.1, l'.2⟩, rfl⟩ R0 accV da D h0
        · cases hrest
      | cons w ws =>
        obtain ⟨hw, hws, hlt⟩ := drop_get hd
        rw [hd] at hrest
        obtain ⟨hgd, ρ1, b, st2, hs, hc, hb⟩ := compL_cons hrest
        obtain ⟨hgo, hy⟩ := (it i H' g' st' l' R' hgd).1 hlt
        refine .inr ⟨hgo, fun H2 => i + 1 + (m - 1) = items.length ∧ ∃ g' st' acc accV rest, g1.le0 g' ∧ g'.pv = upd g1.pv D (.lst accV) ∧ Rel X.K H2 g' st' ∧ DqAll X.K g'.F accV acc ∧ acc.length ≤ i + 1 ∧ compL gd t c el (wipeR ρ own) (items.drop (i + 1)) st' = .ok rest stE ∧ acc ++ rest = ds, fun H2 n => ⟨m - 1, by omega, n⟩, fun x H2 hx => ?_⟩
        obtain ⟨g2, w', l2, R2, ew, rw'⟩ := hy x H2 hx
        rw [hw] at ew
        cases ew
        have Ew : RhoR X.mg X.K g2 (wipe σ own) (wipeR ρ own) := wipe_rho (E.mono (l1.1.trans (l'.trans l2.1))) own
        refine ⟨g2, wipeR ρ own, st', w, ρ1, R2, Ew, rw', hs, fun σ3 E3 k3 => ⟨wipe_idem k3 ho, g2, ρ1, st', R2, E3, ?_⟩⟩
        rw [hc]
        intro u H3 g3 l3 R3 eu
        subst eu
        rcases hb with ⟨rfl, hrec⟩ | ⟨rfl, d, st4, ds', hel, hrec, hds⟩
        · rw [if_neg Bool.false_ne_true]
          refine ⟨by omega, g3, st2, acc, accV, rest, l'.trans (l2.1.trans l3.1), l3.2.trans (l2.2.trans hp'), R3, dqAll_mono (l2.1.trans l3.1).1 da, by omega, ?_, hsum⟩
          rw [← hws]
          exact hrec
        · rw [if_pos rfl]
          refine ⟨g3, ρ1, st2, R3, E3.mono l3.1, ?_⟩
          rw [hel]
          intro y H4 g4 l4 R4 ry
          have hpv4 : g4.pv = upd g1.pv D (.lst accV) := l4.2.trans (l3.2.trans (l2.2.trans hp'))
          have hpD : g4.pv D = some (.lst accV) := by rw [hpv4, upd_same]
          have da4 : DqAll X.K g4.F accV acc := dqAll_mono (l2.1.trans (l3.1.trans l4.1)).1 da
          refine ⟨accV, (R4.aside D _ hpD).1, mil_line (by rw [dqAll_len da4]; omega), by omega, { g4 with pv := upd g1.pv D (.lst (accV ++ [y])) }, st4, acc ++ [d], accV ++ [y], ds', l'.trans (l2.1.trans (l3.1.trans l4.1)), rfl, R4.pvSet hpD _ _ (by rw [hpv4, upd_upd]), dqAll_append da4 (.cons ry .nil), by rw [List.length_append, List.length_singleton]; omega, ?_, ?_⟩
          · rw [← hws]
            exact hrec
          · rw [List.append_assoc, List.singleton_append, ← hds]
            exact hsum
  · exact q1.elim
/-- [el for tg in iter if ..] -/
theorem jf_lc {elt tg iter : Expr} {ifs : List Expr} {scope : Scope} {own : List (Str × Nat)} {pos : Pos} {mi : Rho → Sto → Res (List Vl × Gd)} {t : Tg} {c : Rho → Sto → Res Bool} {el : Rho → Sto → Res Vl} (hc : X.calm = true) (hN : X.N.Nodup) (hi : JI X W tg iter mi) (ok : BlkOk X.N X.env.scope scope own)
    (hg : ∀ (s : Shared) (H : Hp) (C : Addr) (cl : List (Str × Addr)) (fp : List Addr), JG (X.blk s H scope (compEnvC scope cl C X.env) fp) tg t) (ht : ∀ (s : Shared) (H : Hp) (C : Addr) (cl : List (Str × Addr)) (fp : List Addr), JTs (X.blk s H scope (compEnvC scope cl C X.env) fp) W0 ifs c)
    (he : ∀ (s : Shared) (H : Hp) (C : Addr) (cl : List (Str × Addr)) (fp : List Addr), JE (X.blk s H scope (compEnvC scope cl C X.env) fp) W0 elt el) (hs : ∀ x, foldedSetIterable iter X.env x = pure x) (ho : ∀ i ∈ t.slots, i ∈ own.map (·.2)) :
    JF X W (.ListComp elt [⟨tg, iter, ifs, 0⟩] scope pos) (compM mi t (own.map (·.2)) c el) :=
  PE.imp (pe_lc (g := tGp X t) (tt := tDT X W0 c) (te := tD X W0 el) hc hN hi ok hg ht he hs) fun _ _ _ h => comp_read ho h
/-- y = [el for tg in iter if ..], y the def's own name, stored within the comprehension's frame -/
theorem js_lcF {i : Nat} {y : Str} {py : Pos} {elt tg iter : Expr} {ifs : List Expr} {scope : Scope} {own : List (Str × Nat)} {pos spos : Pos} {mi : Rho → Sto → Res (List Vl × Gd)} {t : Tg} {c : Rho → Sto → Res Bool} {el : Rho → Sto → Res Vl} (hc : X.calm = true) (hN : X.N.Nodup) (hy : X.N[i]? = some y) (hyl : X.env.scope.names.lookup y = some .local)
    (hsw : swapsWith (.ListComp elt [⟨tg, iter, ifs, 0⟩] scope pos) (some (.Name y py)) spos.line X.env = pure true) (hi : JI X W tg iter mi) (ok : BlkOk X.N X.env.scope scope own)
    (hg : ∀ (s : Shared) (H : Hp) (C : Addr) (cl : List (Str × Addr)) (fp : List Addr), JG (X.blk s H scope (compEnvC scope cl C X.env) fp) tg t) (ht : ∀ (s : Shared) (H : Hp) (C : Addr) (cl : List (Str × Addr)) (fp : List Addr), JTs (X.blk s H scope (compEnvC scope cl C X.env) fp) W0 ifs c)
    (he : ∀ (s : Shared) (H : Hp) (C : Addr) (cl : List (Str × Addr)) (fp : List Addr), JE (X.blk s H scope (compEnvC scope cl C X.env) fp) W0 elt el) (hs : ∀ x, foldedSetIterable iter X.env x = pure x) (ho : ∀ i ∈ t.slots, i ∈ own.map (·.2)) :
    JS X W (.Assign [.Name y py] (.ListComp elt [⟨tg, iter, ifs, 0⟩] scope pos) spos) (asgS (frzM (compM mi t (own.map (·.2)) c el)) (.nm i)) :=
  PS.imp (ps_setLc (g := tGp X t) (tt := tDT X W0 c) (te := tD X W0 el) hc hN hy hyl hsw hi ok hg ht he hs) fun D σ H ⟨g, ρ, st, R, E, q⟩ => comp_read ho ⟨g, ρ, st, R, E, by
    unfold asgS frzM at q
    revert q
    cases compM mi t (own.map (·.2)) c el ρ st with
    | stuck => exact id
    | err x st1 => exact fun q cls dd H g' l R' e => q cls dd σ H g' l R' (E.mono l.1) e
    | ok ds st1 =>
      intro q H1 g1 l1 R1 vs d p hp
      exact q _ _ _ (l1.trans (put_le R1 hp _)) (R1.put hp _) (rho_set (v := .d (.list ds)) (E.mono (l1.trans (put_le R1 hp _)).1) (.lst upd_same (dqAll_mono (put_le R1 hp _).1.1 d)) i)⟩
end
end M1

/-! part J: what is walked -/
namespace M1
open PySem PySem.Spec L2
variable [LT]
section
variable {X : Cx} {W : WX}
/-- a list (true) or a tuple (false) that is read -/
def SqB (b : Bool) (K : PySem.W.Frag) (H : Hp) (a : Addr) (xs : List V) : Prop := match b with
  | true => SqL K H a xs
  | false => SqT K H a xs
def IsSq (b : Bool) (h : Heap) (a : Addr) (items : Array Value) : Prop := match b with
  | true => h.IsList a items
  | false => h.IsTuple a items
def ItSq (b : Bool) (h : Heap) (it a : Addr) (i : Nat) : Prop := match b with
  | true => h.IsListIter it a i
  | false => h.IsTupleIter it a i
def itSqO (b : Bool) (a : Addr) : Obj := match b with
  | true => { cls := .type "list_iterator", data := .fields #[.ref a, .int 0 0] }
  | false => { cls := .type "tuple_iterator", data := .fields #[.ref a, .int 0 0] }
theorem sq_inv {pins : List (Addr × Obj)} {σ : St} {H : Hp} {s : Shared} (I : Inv X pins σ H s) : ∀ {b : Bool} {a : Addr} {xs : List V}, SqB b X.K H a xs → ∃ its : List Value, Vals xs its ∧ IsSq b s.heap a its.toArray ∧ a < s.heap.objs.size
  | true, a, xs, h => by
    obtain ⟨its, r, p, _⟩ := I.list (show SqL X.K H a xs from h)
    exact ⟨its, r, p.isList, p.lt⟩
  | false, a, xs, h => by
    obtain ⟨its, r, p, _⟩ := I.tuple (show SqT X.K H a xs from h)
    obtain ⟨o, ho, _⟩ := id p
    exact ⟨its, r, p, Heap.lt_size ho⟩
theorem sq_inj {pins : List (Addr × Obj)} {σ : St} {H : Hp} {s : Shared} (I : Inv X pins σ H s) : ∀ {b : Bool} {a : Addr} {xs ys : List V}, SqB b X.K H a xs → SqB b X.K H a ys → xs = ys
  | true, _, _, _, h, k => I.list_inj h k
  | false, _, _, _, h, k => I.tuple_inj h k
theorem sq_draws {prog : Program} {w : World} {A : Around} (hh : A.handled = none) (b : Bool) (it a : Addr) (hne : a ≠ it) (items : Array Value) :
    Draws prog w A it [it, a] items.size (fun i v => items[i]? = some v) (fun i h => ItSq b h it a i ∧ IsSq b h a items) := by
  cases b with
  | true => exact Draws.list hh it a hne items
  | false => exact Draws.tuple hh it a hne items
theorem sq_begins (b : Bool) (a : Addr) (items : Array Value) : Begins (.ref a) (itSqO b a) (fun h => IsSq b h a items) := by
  cases b with
  | true => exact begins_list a items
  | false => exact begins_tuple a items
theorem sq_it0 {h : Heap} {it a : Addr} : ∀ {b : Bool}, h.get? it = some (itSqO b a) → ItSq b h it a 0
  | true, e => ⟨_, e, rfl, rfl⟩
  | false, e => ⟨_, e, rfl, rfl⟩
theorem sq_itAt {h h' : Heap} {it a : Addr} {i : Nat} (k : ∀ o, h.get? it = some o → h'.get? it = some o) : ∀ {b : Bool}, ItSq b h it a i → ItSq b h' it a i
  | true, x => x.at k
  | false, x => x.at k
theorem sq_itO {h : Heap} {it a : Addr} {i : Nat} : ∀ {b : Bool}, ItSq b h it a i → ∃ o, h.get? it = some o ∧ ∀ v, o.data ≠ .cell v
  | true, ⟨o, ho, _, hd⟩ => ⟨o, ho, fun v q => by rw [hd] at q; cases q⟩
  | false, ⟨o, ho, _, hd⟩ => ⟨o, ho, fun v q => by rw [hd] at q; cases q⟩
/-! ### pairs: enumerate, zip -/
def Itp (S : Hp → List V → List V → Prop) : It :=
  ⟨fun i H => ∃ xs ys x y, S H xs ys ∧ xs[i]? = some x ∧ ys[i]? = some y,
   fun i H v H' => ∃ T x y, v = .ref T ∧ H T = none ∧ H' = upd H T (.tup [x, y]) ∧ ∀ xs ys, S H xs ys → xs[i]? = some x ∧ ys[i]? = some y,
   fun i H => ∃ xs ys, S H xs ys ∧ i = min xs.length ys.length⟩
theorem pair_item {pins : List (Addr × Obj)} {σ : St} {H : Hp} {s : Shared} {E : Value → Shared → Prop} (I : Inv X pins σ H s) {tg : Expr} {it : Addr} {fpG wr : List Addr} {n : Nat} {Y : Nat → Heap → Value → Heap → Prop} {St : Nat → Heap → Prop} {i : Nat} (G : GoesN X.prog X.w X.A tg it fpG wr n Y St)
    (hi : i < n) (st : St i s.heap) (hf : ∀ b ∈ wr, FpOk X pins H b) {x y : V} (hY : ∀ v h', Y i s.heap v h' → ∃ T u1 u2, v = .ref T ∧ s.heap.objs.size ≤ T ∧ RelV x u1 ∧ RelV y u2 ∧ h'.IsTuple T #[u1, u2]) :
    wpAny (model X.prog X.w) X.A (pyNext (.ref it)) (fun r s1 => ∃ u, r = some u ∧ wpAny (model X.prog X.w) X.A (letOwnedTupleGo tg (.ref it) u) (fun _ s2 => ∃ T, u = .ref T ∧ H T = none ∧ s.heap.objs.size ≤ T ∧ Inv X pins σ (upd H T (.tup [x, y])) s2 ∧ St (i + 1) s2.heap) E s1) E s := by
  refine G.goes i s (fun v s2 => ∃ T, v = .ref T ∧ H T = none ∧ s.heap.objs.size ≤ T ∧ Inv X pins σ (upd H T (.tup [x, y])) s2 ∧ St (i + 1) s2.heap) E hi st fun v h' tk hy st' k _ => ?_
  obtain ⟨T, u1, u2, e, hT, r1, r2, ht⟩ := hY v h' hy
  refine ⟨T, e, I.hok.fresh hT, hT, ?_, st'⟩
  refine I.turnedNew (ch := wr) (fun b o hb q => k b o hb q) hf hT ?_
  exact ⟨by show 2 ≤ sizeLine; decide, [u1, u2], .cons r1 (.cons r2 .nil), ht⟩
theorem pair_done {pins : List (Addr × Obj)} {σ : St} {H : Hp} {s : Shared} {E : Value → Shared → Prop} (I : Inv X pins σ H s) {tg : Expr} {it : Addr} {fpG wr : List Addr} {n : Nat} {Y : Nat → Heap → Value → Heap → Prop} {St : Nat → Heap → Prop} (G : GoesN X.prog X.w X.A tg it fpG wr n Y St)
    (st : St n s.heap) (hf : ∀ b ∈ wr, FpOk X pins H b) : wpAny (model X.prog X.w) X.A (pyNext (.ref it)) (fun r s1 => r = none ∧ Inv X pins σ H s1) E s :=
  G.stops s (Inv X pins σ H) E st fun h' tk k _ => I.turnedL (ch := wr) (fun b o hb q => k b o hb q) hf
abbrev SEn (b : Bool) (K : PySem.W.Frag) (a : Addr) : Hp → List V → List V → Prop := fun H xs ys => SqB b K H a ys ∧ xs = (List.range ys.length).map fun i => V.int (i : Nat)
theorem turn_enumB {P : Program} {w : World} {K : PySem.W.Frag} {elts : List Expr} {kk : Nat} {tpos : Pos} (b : Bool) (a e it : Addr) :
    Turn P w K (.Tuple elts kk tpos) (Itp (SEn b K a)) [e, it] e (fun i h => (∃ old, IsEnum h e it (0 + ((i : Nat) : Int)) old) ∧ ItSq b h it a i ∧ e ≠ it ∧ a ≠ it ∧ a ≠ e) where
  mem := by simp
  obj := fun i h st c hb => by
    obtain ⟨⟨old, he⟩, hi, _⟩ := st
    have e' : c = e ∨ c = it := by simpa using hb
    rcases e' with z | z
    · rw [z]; exact ⟨_, he, fun v q => nomatch q⟩
    · rw [z]; exact sq_itO hi
  keep := fun i h h' st k => let ⟨⟨old, he⟩, hi, hne⟩ := st; ⟨⟨old, k e (by simp) _ he⟩, sq_itAt (fun o q => k it (by simp) o q) hi, hne⟩
  item := by
    intro X hP hw hK hc i pins s σ H E I hf st hg
    subst hP hw hK
    obtain ⟨he, hit, hne, hai, hae⟩ := st
    obtain ⟨xs, ys, x, y, ⟨hq, ex⟩, hx, hy⟩ := hg
    obtain ⟨its, rv, p, _⟩ := sq_inv I hq
    obtain ⟨u, hu, ru⟩ := rv.get hy
    have hlt : i < its.length := (List.getElem?_eq_some_iff.mp hu).1
    have G := GoesN.enumFrom (elts := elts) (x1 := kk) (pos := tpos) 0 (sq_draws (prog := X.prog) (w := X.w) (A := X.A.in1) (I.ok.hd hc) b it a hai its.toArray) e hne (by simp [hne, hae.symm]) (by simp)
    refine thn (pair_item I (x := x) (y := y) G (by simpa using hlt) ⟨he, hit, p⟩ hf fun v h' hyy => ?_) fun r s1 ⟨u', hr, hw'⟩ => ⟨u', hr, thn hw' fun _ s2 ⟨T, eT, hT, hT2, I2, st2⟩ => ⟨.ref T, _, I2, by rw [eT]; rfl, ⟨T, x, y, rfl, hT, rfl, fun xs' ys' h' => ?_⟩, ⟨st2.1, st2.2.1, hne, hai, hae⟩, fun c hcm => ?_⟩⟩
    · obtain ⟨T, t, x', ev, hn, hx', ht⟩ := hyy
      have hx'' : its[i]? = some x' := by simpa using hx'
      rw [hu] at hx''
      cases hx''
      rw [ex, List.getElem?_map] at hx
      cases hr : (List.range ys.length)[i]? with
      | none => rw [hr] at hx; cases hx
      | some j =>
        rw [hr] at hx
        have ej := (List.getElem?_eq_some_iff.mp hr).2
        rw [List.getElem_range] at ej
        cases hx
        subst ej
        exact ⟨T, .int (0 + (i : Int)) t, u, ev, hn, ⟨t, by rw [Int.zero_add]⟩, ru, ht⟩
    · obtain ⟨h1, h2⟩ := h'
      have := sq_inj I h1 hq
      subst this
      rw [h2, ← ex]
      exact ⟨hx, hy⟩
    · have h1 : c < s.heap.objs.size := by
        have e' : c = e ∨ c = it := by simpa using hcm
        rcases e' with z | z
        · rw [z]; obtain ⟨old, q⟩ := he; exact Heap.lt_size q
        · rw [z]; obtain ⟨o, q, _⟩ := sq_itO hit; exact Heap.lt_size q
      rw [upd_ne (Nat.ne_of_lt (Nat.lt_of_lt_of_le h1 hT2))]
      exact (hf c hcm).1
  done := by
    intro X hP hw hK hc i pins s σ H E I hf st hg
    subst hP hw hK
    obtain ⟨he, hit, hne, hai, hae⟩ := st
    obtain ⟨xs, ys, ⟨hq, ex⟩, hn⟩ := hg
    obtain ⟨its, rv, p, _⟩ := sq_inv I hq
    have hl := rv.length
    have hi : i = its.toArray.size := by
      rw [hn, ex, List.length_map, List.length_range, Nat.min_self, List.size_toArray]
      exact hl
    have G := GoesN.enumFrom (elts := elts) (x1 := kk) (pos := tpos) 0 (sq_draws (prog := X.prog) (w := X.w) (A := X.A.in1) (I.ok.hd hc) b it a hai its.toArray) e hne (by simp [hne, hae.symm]) (by simp)
    refine pair_done I G ?_ hf
    rw [← hi]
    exact ⟨he, hit, p⟩
  self := fun A i s Q E st h => let ⟨⟨_, he⟩, _⟩ := st; wpAny_pyIter_enum he h
theorem meets_enum1 {v : Value} {o : Obj} {G : Heap → Prop} (B : Begins v o G) :
    Meets (Builtin.«enumerate.__new__» ⟨[.type "enumerate", v], []⟩) (fun _ R s => G s.heap ∧
      R (.ok (.ret (.ref (s.heap.push o).objs.size))) { s with heap := (s.heap.push o).push { cls := .type "enumerate", data := .fields #[.none, .bool false, .ref s.heap.objs.size, rawInt 0, .none, .none] } }) := by
  refine Meets.of_wp fun prog w A R s hh => ?_
  obtain ⟨hp, gn, dr, tk, os⟩ := s
  obtain ⟨hG, hR⟩ := hh
  have hsb := sub_enumerate
  have begin1 : ∀ {A1 : Around} {E : Value → Shared → Prop} {Q : Value → Shared → Prop}, Q (.ref hp.objs.size) ⟨hp.push o, gn, dr, tk, os⟩ → wpAny (model prog w) A1 (pyIter v) Q E ⟨hp, gn, dr, tk, os⟩ :=
    fun q => B.iter prog w _ _ ⟨hp, gn, dr, tk, os⟩ _ hG q
  wp_walk using begin1
  refine wpAny_stack_any fun fr => wpAny_pure ?_
  split
  · rename_i cl _ _ _ _ _
    cases (cl == Value.type "enumerate") <;> (wp_walk using begin1) <;> exact ⟨_, rfl, hR⟩
  · wp_walk using begin1
    exact ⟨_, rfl, hR⟩
theorem enum_one {prog : Program} {w : World} {A : Around} {E : Value → Shared → Prop} {s : Shared} {v : Value} {o : Obj} {G : Heap → Prop} {Q : Value → Shared → Prop} (B : Begins v o G) (hG : G s.heap)
    (hq : ∀ h', IsEnum h' (s.heap.objs.size + 1) s.heap.objs.size 0 .none → h'.get? s.heap.objs.size = some o → (∀ b o, s.heap.get? b = some o → h'.get? b = some o) → Q (.ref (s.heap.objs.size + 1)) { s with heap := h' }) :
    wpAny (model prog w) A (call (.type "enumerate") [v]) Q E s := by
  refine callType_new F.called_enumerate (by decide) (F.typeCall_enumerate_1 _) (F.newCall_enumerate_1 _) (fun ob => F.args_object_init_2 ob _) F.entry_enumerate_new (meets_enum1 B) ⟨hG, ?_⟩
  have hz : (s.heap.push o).objs.size = s.heap.objs.size + 1 := Heap.size_push ..
  have he : IsEnum ((s.heap.push o).push { cls := .type "enumerate", data := .fields #[.none, .bool false, .ref s.heap.objs.size, rawInt 0, .none, .none] }) (s.heap.objs.size + 1) s.heap.objs.size 0 .none := by
    have hg := Heap.get?_push_size (s.heap.push o) (o := { cls := .type "enumerate", data := .fields #[.none, .bool false, .ref s.heap.objs.size, rawInt 0, .none, .none] }) rfl
    rw [hz] at hg
    exact hg
  rw [hz]
  exact ⟨⟨_, he, rfl⟩, hq _ he (Heap.get?_push_of_some _ (Heap.get?_push_size _ B.free)) fun b ob x => Heap.get?_push_of_some _ (Heap.get?_push_of_some _ x)⟩
def iEnumB (K : PySem.W.Frag) (ta : TA) : TI := fun σ H R => ta σ H fun vs H1 => ∃ b a ys, vs = [.ref a] ∧ SqB b K H1 a ys ∧ R (Itp (SEn b K a)) H1
theorem pi_enumB {e : Expr} {ta : TA} {p pos tpos : Pos} {elts : List Expr} {kk : Nat} (hg : Gl X "enumerate") (hm : X.mg "enumerate" = none) (ha : PA X [e] ta) (hs : starEach [e] X.env = [(false, eval e X.env)]) :
    PI X (.Tuple elts kk tpos) (.Call (.Name "enumerate" p) [e] [] pos) (iEnumB X.K ta) := by
  refine ⟨fun pins s σ H R I h => ?_⟩
  refine PyProof.Rows.Call_ (ld_blt I hg hm PyProof.Rows.boot_enumerate (PyProof.Rows.callWith_type1 (thn (ha.run pos pins s σ H _ I h) fun us s1 ⟨vs, H1, I1, r1, q1⟩ => ?_) hs rfl))
  obtain ⟨b, a, xs, ex, hq, q⟩ := q1
  subst ex
  cases r1 with
  | cons r rr =>
    cases rr
    cases r
    obtain ⟨its, rv, p', hlt⟩ := sq_inv I1 hq
    refine enum_one (sq_begins b a its.toArray) p' fun h' he hit hk => wpAny_pyIter_enum he ?_
    have I2 : Inv X pins σ H1 { s1 with heap := h' } := I1.kept (t' := s1.toks) hk
    refine ⟨s1.heap.objs.size + 1, [s1.heap.objs.size + 1, s1.heap.objs.size], _, _, H1, rfl, I2, turn_enumB b a (s1.heap.objs.size + 1) s1.heap.objs.size, ⟨⟨.none, by simpa using he⟩, sq_it0 hit, Nat.succ_ne_self _, Nat.ne_of_lt hlt, Nat.ne_of_lt (Nat.lt_succ_of_lt hlt)⟩, fun c hb => ?_, q⟩
    have e' : c = s1.heap.objs.size + 1 ∨ c = s1.heap.objs.size := by simpa using hb
    have hle : s1.heap.objs.size ≤ c := by
      rcases e' with z | z
      · rw [z]; exact Nat.le_add_right _ _
      · rw [z]; exact Nat.le_refl _
    exact I1.fpOk hle (I1.hok.fresh hle)
end
end M1

/-! part K: zip; the sources as data -/
namespace M1
open PySem PySem.Spec L2
variable [LT]
section
variable {X : Cx} {W : WX}
abbrev SZp (b c : Bool) (K : PySem.W.Frag) (a a2 : Addr) : Hp → List V → List V → Prop := fun H xs ys => SqB b K H a xs ∧ SqB c K H a2 ys
structure ZSep (z TI TO i1 i2 a a2 : Addr) : Prop where
  sep : ZipSep2 z TI TO i1 i2 [i1, a] [i2, a2]
  n1 : a ≠ i1
  n2 : a2 ≠ i2
theorem turn_zipB {P : Program} {w : World} {K : PySem.W.Frag} {elts : List Expr} {kk : Nat} {tpos : Pos} (b c : Bool) {a a2 z TI TO i1 i2 : Addr} (D : ZSep z TI TO i1 i2 a a2) :
    Turn P w K (.Tuple elts kk tpos) (Itp (SZp b c K a a2)) [z, TI, TO, i1, i2] z
      (fun i h => IsZip h z TI TO .none ∧ IsTupOf2 h TI (.ref i1) (.ref i2) ∧ (∃ u1 u2, IsTupOf2 h TO u1 u2) ∧ ItSq b h i1 a i ∧ ItSq c h i2 a2 i) where
  mem := by simp
  obj := fun i h st e he => by
    obtain ⟨h1, h2, ⟨u1, u2, h3⟩, h4, h5⟩ := st
    simp only [List.mem_cons, List.not_mem_nil, or_false] at he
    rcases he with z | z | z | z | z
    · rw [z]; exact ⟨_, h1, fun v q => nomatch q⟩
    · rw [z]; exact ⟨_, h2, fun v q => nomatch q⟩
    · rw [z]; exact ⟨_, h3, fun v q => nomatch q⟩
    · rw [z]; exact sq_itO h4
    · rw [z]; exact sq_itO h5
  keep := fun i h h' st k => let ⟨h1, h2, ⟨u1, u2, h3⟩, h4, h5⟩ := st
    ⟨k z (by simp) _ h1, k TI (by simp) _ h2, ⟨u1, u2, k TO (by simp) _ h3⟩, sq_itAt (fun o q => k i1 (by simp) o q) h4, sq_itAt (fun o q => k i2 (by simp) o q) h5⟩
  item := by
    intro X hP hw hK hc i pins s σ H E I hf st hg
    subst hP hw hK
    obtain ⟨h1, h2, h3, h4, h5⟩ := st
    obtain ⟨xs, ys, x, y, ⟨hq1, hq2⟩, hx, hy⟩ := hg
    obtain ⟨its, rv, p, _⟩ := sq_inv I hq1
    obtain ⟨its2, rv2, p2, _⟩ := sq_inv I hq2
    obtain ⟨u, hu, ru⟩ := rv.get hx
    obtain ⟨t, ht, rt⟩ := rv2.get hy
    have l1 : i < its.length := (List.getElem?_eq_some_iff.mp hu).1
    have l2 : i < its2.length := (List.getElem?_eq_some_iff.mp ht).1
    have G := GoesN.zip2 (elts := elts) (x1 := kk) (pos := tpos) D.sep (sq_draws (prog := X.prog) (w := X.w) (A := X.A.in1) (I.ok.hd hc) b i1 a D.n1 its.toArray) (sq_draws (prog := X.prog) (w := X.w) (A := X.A.in1) (I.ok.hd hc) c i2 a2 D.n2 its2.toArray)
    have lt5 : ∀ e ∈ [z, TI, TO, i1, i2], e < s.heap.objs.size := fun e he => by
      obtain ⟨u1, u2, h3⟩ := h3
      simp only [List.mem_cons, List.not_mem_nil, or_false] at he
      rcases he with q | q | q | q | q
      · rw [q]; exact Heap.lt_size h1
      · rw [q]; exact Heap.lt_size h2
      · rw [q]; exact Heap.lt_size h3
      · rw [q]; obtain ⟨o, r, _⟩ := sq_itO h4; exact Heap.lt_size r
      · rw [q]; obtain ⟨o, r, _⟩ := sq_itO h5; exact Heap.lt_size r
    refine thn (pair_item I (x := x) (y := y) G (by rw [List.size_toArray, List.size_toArray]; omega) ⟨h1, h2, h3, ⟨h4, p⟩, ⟨h5, p2⟩⟩ (fun e he => hf e (by simp only [List.mem_cons, List.not_mem_nil, or_false] at he ⊢; rcases he with q | q | q | q <;> simp [q])) fun v h' hyy => ?_) fun r s1 ⟨u', hr, hw'⟩ => ⟨u', hr, thn hw' fun _ s2 ⟨T, eT, hT, hT2, I2, st2⟩ => ⟨.ref T, _, I2, by rw [eT]; rfl, ⟨T, x, y, rfl, hT, rfl, fun xs' ys' h' => ?_⟩, ⟨st2.1, st2.2.1, st2.2.2.1, st2.2.2.2.1.1, st2.2.2.2.2.1⟩, fun e he => ?_⟩⟩
    · obtain ⟨T, x', y', ev, hn, hx', hy', ht'⟩ := hyy
      have hx'' : its[i]? = some x' := by simpa using hx'
      have hy'' : its2[i]? = some y' := by simpa using hy'
      rw [hu] at hx''
      rw [ht] at hy''
      cases hx''
      cases hy''
      exact ⟨T, u, t, ev, hn, ru, rt, ht'⟩
    · obtain ⟨k1, k2⟩ := h'
      rw [sq_inj I k1 hq1, sq_inj I k2 hq2]
      exact ⟨hx, hy⟩
    · rw [upd_ne (Nat.ne_of_lt (Nat.lt_of_lt_of_le (lt5 e he) hT2))]
      exact (hf e he).1
  done := by
    intro X hP hw hK hc i pins s σ H E I hf st hg
    subst hP hw hK
    obtain ⟨h1, h2, h3, h4, h5⟩ := st
    obtain ⟨xs, ys, ⟨hq1, hq2⟩, hn⟩ := hg
    obtain ⟨its, rv, p, _⟩ := sq_inv I hq1
    obtain ⟨its2, rv2, p2, _⟩ := sq_inv I hq2
    have e1 := rv.length
    have e2 := rv2.length
    have G := GoesN.zip2 (elts := elts) (x1 := kk) (pos := tpos) D.sep (sq_draws (prog := X.prog) (w := X.w) (A := X.A.in1) (I.ok.hd hc) b i1 a D.n1 its.toArray) (sq_draws (prog := X.prog) (w := X.w) (A := X.A.in1) (I.ok.hd hc) c i2 a2 D.n2 its2.toArray)
    refine pair_done I G ?_ (fun e he => hf e (by simp only [List.mem_cons, List.not_mem_nil, or_false] at he ⊢; rcases he with q | q | q | q <;> simp [q]))
    have ei : min its.toArray.size its2.toArray.size = i := by
      rw [hn, List.size_toArray, List.size_toArray, e1, e2]
    rw [ei]
    exact ⟨h1, h2, h3, ⟨h4, p⟩, ⟨h5, p2⟩⟩
  self := fun A i s Q E st h => wpAny_pyIter_zip st.1 h
theorem zsep_new {N a a2 : Addr} (h1 : a < N) (h2 : a2 < N) : ZSep (N + 4) (N + 2) (N + 3) N (N + 1) a a2 :=
  ⟨zip_sep2 (fp1 := [a]) (fp2 := [a2]) (fun b hb => by rw [List.mem_singleton.mp hb]; exact h1) (fun b hb => by rw [List.mem_singleton.mp hb]; exact h2), Nat.ne_of_lt h1, Nat.ne_of_lt (Nat.lt_succ_of_lt h2)⟩
def iZipB (K : PySem.W.Frag) (ta : TA) : TI := fun σ H R => ta σ H fun vs H1 => ∃ b c a a2 xs ys, vs = [.ref a, .ref a2] ∧ SqB b K H1 a xs ∧ SqB c K H1 a2 ys ∧ R (Itp (SZp b c K a a2)) H1
theorem pi_zipB {e e2 : Expr} {ta : TA} {p pos tpos : Pos} {elts : List Expr} {kk : Nat} (hg : Gl X "zip") (hm : X.mg "zip" = none) (ha : PA X [e, e2] ta)
    (hs : starEach [e, e2] X.env = (false, eval e X.env) :: starEach [e2] X.env) (hpl : (backTo pos (starEach [e2] X.env)).any (·.1) = false) :
    PI X (.Tuple elts kk tpos) (.Call (.Name "zip" p) [e, e2] [] pos) (iZipB X.K ta) := by
  refine ⟨fun pins s σ H R I h => ?_⟩
  refine PyProof.Rows.Call_ (ld_blt I hg hm PyProof.Rows.boot_zip (PyProof.Rows.callWith_type1 (thn (ha.run pos pins s σ H _ I h) fun us s1 ⟨vs, H1, I1, r1, q1⟩ => ?_) hs hpl))
  obtain ⟨b, c, a, a2, xs, ys, ex, hqx, hqy, q⟩ := q1
  subst ex
  obtain ⟨u, t, rfl, ru, rt⟩ := vals2 r1
  cases ru
  cases rt
  obtain ⟨its, rv, p1, l1⟩ := sq_inv I1 hqx
  obtain ⟨its2, rv2, p2, l2⟩ := sq_inv I1 hqy
  refine zip_begins2 (sq_begins b a its.toArray) (sq_begins c a2 its2.toArray) p1 p2 fun h' hz hTI hTO h1 h2 hsz hk => wpAny_pyIter_zip hz ?_
  have I2 : Inv X pins σ H1 { s1 with heap := h' } := I1.kept (t' := s1.toks) hk
  refine ⟨s1.heap.objs.size + 4, [s1.heap.objs.size + 4, s1.heap.objs.size + 2, s1.heap.objs.size + 3, s1.heap.objs.size, s1.heap.objs.size + 1], _, _, H1, rfl, I2, turn_zipB b c (zsep_new l1 l2), ⟨hz, hTI, ⟨_, _, hTO⟩, sq_it0 h1, sq_it0 h2⟩, fun e he => ?_, q⟩
  have hle : s1.heap.objs.size ≤ e := by
    simp only [List.mem_cons, List.not_mem_nil, or_false] at he
    rcases he with z | z | z | z | z <;> rw [z] <;> first | exact Nat.le_add_right _ _ | exact Nat.le_refl _
  exact I1.fpOk hle (I1.hok.fresh hle)
/-! ### a sequence or a text, whatever it is -/
inductive Src (K : PySem.W.Frag) (H : Hp) : V → It → Prop where
  | lst {a : Addr} {xs : List V} : SqL K H a xs → Src K H (.ref a) (Itl K a)
  | tup {a : Addr} {xs : List V} : SqT K H a xs → Src K H (.ref a) (Itt K a)
  | str (x : Str) : Src K H (.str x) (Its x)
def iSrc (K : PySem.W.Frag) (te : TE) : TI := fun σ H R => te σ H fun x H1 => ∃ J, Src K H1 x J ∧ R J H1
theorem pi_src {tg e : Expr} {te : TE} (he : PE X e te) : PI X tg e (iSrc X.K te) := by
  refine ⟨fun pins s σ H R I h => ?_⟩
  refine thn (he.run pins s σ H _ I h) fun v s1 ⟨x, H1, I1, r1, J, hJ, q⟩ => ?_
  cases hJ with
  | lst hq =>
    cases r1
    obtain ⟨its, rv, p, hz⟩ := I1.list hq
    exact wpAny_pyIter_list p.isList (pi_one (tk := s1.toks) I1 _ (turn_list _ _) ⟨_, Heap.get?_push_size _ rfl, rfl, rfl⟩ q)
  | tup hq =>
    cases r1
    obtain ⟨its, rv, p, hz⟩ := I1.tuple hq
    exact wpAny_pyIter_tuple (show s1.heap.IsTuple _ its.toArray from p) (pi_one (tk := s1.toks) I1 _ (turn_tuple _ _) ⟨_, Heap.get?_push_size _ rfl, rfl, rfl⟩ q)
  | str x =>
    obtain ⟨t, rfl⟩ := r1
    cases ha : x.cps.all (· < 128) with
    | false => exact wpAny_pyIter_wide ha (pi_one (tk := s1.toks) I1 _ (turn_str _ x t "str_iterator" (.inr rfl)) ⟨_, Heap.get?_push_size _ rfl, rfl, rfl⟩ q)
    | true => exact wpAny_pyIter_ascii ha (pi_one (tk := s1.toks) I1 _ (turn_str _ x t "str_ascii_iterator" (.inl rfl)) ⟨_, Heap.get?_push_size _ rfl, rfl, rfl⟩ q)
def srcD : PyData → Option (List PyData)
  | .list xs => some xs
  | .tuple xs => some xs
  | .str x => some (x.cps.toList.map fun c => .str ⟨#[c]⟩)
  | _ => none
/-- the items of a thing that is walked: data that nobody changes, or cells of a list of cells -/
def srcI (st : Sto) : Vl → Option (List Vl × Gd)
  | .d d => (srcD d).map fun xs => (xs.map Vl.d, none)
  | .c n => match (st : List Cell)[n]? with
    | some (.lstc ns) => some (ns.map Vl.c, some [(n, .lstc ns)])
    | some (.lst xs) => some (xs.map Vl.d, some [(n, .lst xs)])
    | some (.dws rows) => some (rows.map fun r => Vl.pd r.1 r.2, some [(n, .dws rows)])
    | _ => none
  | _ => none
def srcM (m : Rho → Sto → Res Vl) (ρ : Rho) (st : Sto) : Res (List Vl × Gd) := (m ρ st).bind fun v st => match srcI st v with
  | some a => .ok a st
  | none => .stuck
theorem itOk_list {g : Gh} {a : Addr} {vs : List V} {xs : List PyData} (h : g.F a = some (.lst vs)) (d : DqAll X.K g.F vs xs) : ItOk X g (Itl X.K a) (xs.map Vl.d, none) := fun i H g' st l R _ => by
  have hs : SqL X.K H a vs := SqL.of (R.sub _ _ (l.1 _ _ h))
  have hl := dqAll_len d
  refine ⟨fun hi => ?_, fun hi => ⟨vs, hs, by rw [hi, List.length_map, hl]; exact Nat.le_refl _⟩⟩
  have hi : i < xs.length := by rw [List.length_map] at hi; exact hi
  obtain ⟨v, hv, dv⟩ := dqAll_get d (List.getElem?_eq_getElem hi)
  refine ⟨⟨vs, v, hs, hv⟩, fun x H' ⟨e, hx⟩ => ⟨g', .d xs[i], .refl _, by rw [e]; exact R, by rw [List.getElem?_map, List.getElem?_eq_getElem hi]; rfl, ?_⟩⟩
  have := hx vs hs
  rw [hv] at this
  cases this
  exact dq_mono l.1 dv
theorem itOk_tup {g : Gh} {a : Addr} {vs : List V} {xs : List PyData} (h : SqT X.K g.F a vs) (d : DqAll X.K g.F vs xs) : ItOk X g (Itt X.K a) (xs.map Vl.d, none) := fun i H g' st l R _ => by
  have hs : SqT X.K H a vs := sqt_mono R.sub (sqt_mono l.1 h)
  have hl := dqAll_len d
  refine ⟨fun hi => ?_, fun hi => ⟨vs, hs, by rw [hi, List.length_map, hl]; exact Nat.le_refl _⟩⟩
  have hi : i < xs.length := by rw [List.length_map] at hi; exact hi
  obtain ⟨v, hv, dv⟩ := dqAll_get d (List.getElem?_eq_getElem hi)
  refine ⟨⟨vs, v, hs, hv⟩, fun x H' ⟨e, hx⟩ => ⟨g', .d xs[i], .refl _, by rw [e]; exact R, by rw [List.getElem?_map, List.getElem?_eq_getElem hi]; rfl, ?_⟩⟩
  have := hx vs hs
  rw [hv] at this
  cases this
  exact dq_mono l.1 dv
theorem itOk_str {g : Gh} (x : Str) : ItOk X g (Its x) ((x.cps.toList.map fun c => PyData.str ⟨#[c]⟩).map Vl.d, none) := fun i H g' st l R _ => by
  refine ⟨fun hi => ?_, fun hi => by show x.cps.size ≤ i; rw [hi, List.length_map, List.length_map, Array.length_toList]; exact Nat.le_refl _⟩
  have hi : i < x.cps.size := by simpa using hi
  refine ⟨hi, fun v H' ⟨e, c, hc, hv⟩ => ⟨g', .d (.str ⟨#[c]⟩), .refl _, by rw [e]; exact R, ?_, by rw [hv]; exact .str _⟩⟩
  rw [List.getElem?_map, List.getElem?_map, Array.getElem?_toList, hc]
  rfl
theorem itOk_cells {g : Gh} {n : Nat} {p : Addr} {r : List Addr} {ns : List Nat} (h : g.at_[n]? = some (p :: r)) : ItOk X g (Itl X.K p) (ns.map Vl.c, some [(n, .lstc ns)]) := fun i H g' st l R hgd => by
  obtain ⟨r', h'⟩ := l.2 n p r h
  have hst : (st : List Cell)[n]? = some (.lstc ns) := gd_at hgd List.mem_cons_self
  obtain ⟨p', qs, e, hp, hd⟩ := R.cells n _ _ h' hst
  cases e
  have hs : SqL X.K H p (qs.map V.ref) := SqL.of hp
  have hl := paired_len hd
  refine ⟨fun hi => ?_, fun hi => ⟨_, hs, by rw [hi, List.length_map, List.length_map, hl]; exact Nat.le_refl _⟩⟩
  have hi : i < ns.length := by rw [List.length_map] at hi; exact hi
  have hq : i < qs.length := by omega
  have hv : (qs.map V.ref)[i]? = some (.ref qs[i]) := by rw [List.getElem?_map, List.getElem?_eq_getElem hq]; rfl
  refine ⟨⟨_, _, hs, hv⟩, fun x H' ⟨e, hx⟩ => ⟨g', .c ns[i], .refl _, by rw [e]; exact R, by rw [List.getElem?_map, List.getElem?_eq_getElem hi]; rfl, ?_⟩⟩
  have := hx _ hs
  rw [hv] at this
  cases this
  obtain ⟨b, hb, r2, h2⟩ := paired_get hd (i := i) (List.getElem?_eq_getElem hq)
  rw [List.getElem?_eq_getElem hi] at hb
  cases hb
  exact ⟨_, r2, h2, rfl⟩
theorem itOk_cell {g : Gh} {n : Nat} {p : Addr} {r : List Addr} {xs : List PyData} (h : g.at_[n]? = some (p :: r)) : ItOk X g (Itl X.K p) (xs.map Vl.d, some [(n, .lst xs)]) := fun i H g' st l R hgd => by
  obtain ⟨r', h'⟩ := l.2 n p r h
  have hst : (st : List Cell)[n]? = some (.lst xs) := gd_at hgd List.mem_cons_self
  obtain ⟨p', vs, e, hp, hd⟩ := R.cells n _ _ h' hst
  cases e
  have hs : SqL X.K H p vs := SqL.of hp
  have hl := dqAll_len hd
  refine ⟨fun hi => ?_, fun hi => ⟨vs, hs, by rw [hi, List.length_map, hl]; exact Nat.le_refl _⟩⟩
  have hi : i < xs.length := by rw [List.length_map] at hi; exact hi
  obtain ⟨v, hv, dv⟩ := dqAll_get hd (List.getElem?_eq_getElem hi)
  refine ⟨⟨vs, v, hs, hv⟩, fun x H' ⟨e, hx⟩ => ⟨g', .d xs[i], .refl _, by rw [e]; exact R, by rw [List.getElem?_map, List.getElem?_eq_getElem hi]; rfl, ?_⟩⟩
  have := hx vs hs
  rw [hv] at this
  cases this
  exact dv
theorem itOk_dws {g : Gh} {n : Nat} {p : Addr} {r : List Addr} {rows : List (List (Int × Int) × Int)} (h : g.at_[n]? = some (p :: r)) : ItOk X g (Itl X.K p) (rows.map fun r => Vl.pd r.1 r.2, some [(n, .dws rows)]) := fun i H g' st l R hgd => by
  obtain ⟨r', h'⟩ := l.2 n p r h
  have hst : (st : List Cell)[n]? = some (.dws rows) := gd_at hgd List.mem_cons_self
  obtain ⟨p', ts, e, hp, hd⟩ := R.cells n _ _ h' hst
  cases e
  have hs : SqL X.K H p ts := SqL.of hp
  have hl := paired_len hd
  refine ⟨fun hi => ?_, fun hi => ⟨_, hs, by rw [hi, List.length_map, hl]; exact Nat.le_refl _⟩⟩
  have hi : i < rows.length := by rw [List.length_map] at hi; exact hi
  have hq : i < ts.length := by omega
  have hv := List.getElem?_eq_getElem hq
  refine ⟨⟨_, _, hs, hv⟩, fun x H' ⟨e, hx⟩ => ⟨g', .pd rows[i].1 rows[i].2, .refl _, by rw [e]; exact R, by rw [List.getElem?_map, List.getElem?_eq_getElem hi]; rfl, ?_⟩⟩
  have := hx _ hs
  rw [hv] at this
  cases this
  obtain ⟨b, hb, h2⟩ := paired_get hd hv
  rw [List.getElem?_eq_getElem hi] at hb
  cases hb
  exact h2
theorem ji_src {tg e : Expr} {m : Rho → Sto → Res Vl} (h : JE X W e m) : JI X W tg e (srcM m) :=
  PI.imp (pi_src h) fun σ H R ⟨g, ρ, st, RR, E, q⟩ => ⟨g, ρ, st, RR, E, PostE.step q fun u H1 v st1 g1 l1 R1 r1 q1 => by
    split at q1
    · rename_i a ha
      unfold srcI at ha
      split at ha
      · rename_i d
        cases hd : srcD d with
        | none => rw [hd] at ha; cases ha
        | some xs =>
          rw [hd] at ha
          cases ha
          unfold srcD at hd
          split at hd
          · cases hd
            cases r1 with
            | lst h1 h2 => exact ⟨_, .lst (SqL.of (R1.sub _ _ h1)), q1 _ H1 g1 (.refl _) R1 (itOk_list h1 h2)⟩
          · cases hd
            cases r1 with
            | tup h1 h2 => exact ⟨_, .tup (sqt_mono R1.sub h1.sqt), q1 _ H1 g1 (.refl _) R1 (itOk_tup h1.sqt h2)⟩
          · cases hd
            cases r1
            exact ⟨_, .str _, q1 _ H1 g1 (.refl _) R1 (itOk_str _)⟩
          · cases hd
      · rename_i n
        obtain ⟨p, r, h1, rfl⟩ := r1
        split at ha
        · rename_i ns hns
          cases ha
          obtain ⟨p', qs, e, hp, hd⟩ := R1.cells n _ _ h1 hns
          cases e
          exact ⟨_, .lst (SqL.of hp), q1 _ H1 g1 (.refl _) R1 (itOk_cells h1)⟩
        · rename_i ns hns
          cases ha
          obtain ⟨p', qs, e, hp, hd⟩ := R1.cells n _ _ h1 hns
          cases e
          exact ⟨_, .lst (SqL.of hp), q1 _ H1 g1 (.refl _) R1 (itOk_cell h1)⟩
        · rename_i ns hns
          cases ha
          obtain ⟨p', qs, e, hp, hd⟩ := R1.cells n _ _ h1 hns
          cases e
          exact ⟨_, .lst (SqL.of hp), q1 _ H1 g1 (.refl _) R1 (itOk_dws h1)⟩
        · cases ha
      · cases ha
    · exact q1.elim⟩
end
end M1

/-! part L: range, enumerate, zip as sources -/
namespace M1
open PySem PySem.Spec L2
variable [LT]
section
variable {X : Cx} {W : WX}
def rngL (lo : Int) (n : Nat) : List PyData := (List.range n).map fun i => .int (lo + (i : Nat))
theorem itOk_range {g : Gh} (lo : Int) (n : Nat) : ItOk X g (Itr lo n) ((rngL lo n).map Vl.d, none) := fun i H g' st l R _ => by
  refine ⟨fun hi => ?_, fun hi => by show n ≤ i; rw [hi]; simp [rngL]⟩
  have hi : i < n := by simpa [rngL] using hi
  refine ⟨hi, fun v H' ⟨e, hv⟩ => ⟨g', .d (.int (lo + (i : Nat))), .refl _, by rw [e]; exact R, ?_, by rw [hv]; exact .int _⟩⟩
  unfold rngL
  rw [List.getElem?_map, List.getElem?_map, List.getElem?_range hi]
  rfl
def small62 (i : Int) : Bool := decide (i.natAbs < 2 ^ 62)
def rng1I : List Vl → Option (List Vl × Gd)
  | [.d (.int j)] => if small62 j = true then some ((rngL 0 j.toNat).map Vl.d, none) else none
  | _ => none
def rng2I : List Vl → Option (List Vl × Gd)
  | [.d (.int i), .d (.int j)] => if small62 i = true ∧ small62 j = true then some ((rngL i (j - i).toNat).map Vl.d, none) else none
  | _ => none
def argI (f : List Vl → Option (List Vl × Gd)) (ms : Rho → Sto → Res (List Vl)) (ρ : Rho) (st : Sto) : Res (List Vl × Gd) := (ms ρ st).bind fun vs st => match f vs with
  | some a => .ok a st
  | none => .stuck
theorem small62_is {i : Int} (h : small62 i = true) : -(2 ^ 62) ≤ i ∧ i < 2 ^ 62 := by
  unfold small62 at h
  rw [decide_eq_true_eq] at h
  omega
theorem ji_range1 {tg a : Expr} {p pos : Pos} {ms : Rho → Sto → Res (List Vl)} (hg : Gl X "range") (hm : X.mg "range" = none) (ha : JA X W [a] ms) (hs : starEach [a] X.env = [(false, eval a X.env)]) :
    JI X W tg (.Call (.Name "range" p) [a] [] pos) (argI rng1I ms) :=
  PI.imp (pi_range1 hg hm ha hs) fun σ H R ⟨g, ρ, st, RR, E, q⟩ => ⟨g, ρ, st, RR, E, PostE.step q fun us H1 vs st1 g1 l1 R1 r1 q1 => by
    split at q1
    · rename_i it hit
      unfold rng1I at hit
      split at hit
      · rename_i j
        split at hit
        · rename_i hj
          cases hit
          obtain ⟨u, rfl, ru⟩ := valsR1 r1
          cases ru
          exact ⟨j, rfl, (small62_is hj).1, (small62_is hj).2, q1 _ H1 g1 (.refl _) R1 (itOk_range 0 _)⟩
        · cases hit
      · cases hit
    · exact q1.elim⟩
theorem ji_range2 {tg a b : Expr} {p pos : Pos} {ms : Rho → Sto → Res (List Vl)} (hg : Gl X "range") (hm : X.mg "range" = none) (ha : JA X W [a, b] ms) (hs : starEach [a, b] X.env = [(false, eval a X.env), (false, eval b X.env)]) (hs2 : starEach [b] X.env = [(false, eval b X.env)]) :
    JI X W tg (.Call (.Name "range" p) [a, b] [] pos) (argI rng2I ms) :=
  PI.imp (pi_range2 hg hm ha hs hs2) fun σ H R ⟨g, ρ, st, RR, E, q⟩ => ⟨g, ρ, st, RR, E, PostE.step q fun us H1 vs st1 g1 l1 R1 r1 q1 => by
    split at q1
    · rename_i it hit
      unfold rng2I at hit
      split at hit
      · rename_i i j
        split at hit
        · rename_i hj
          cases hit
          obtain ⟨u, t, rfl, ru, rt⟩ := valsR2 r1
          cases ru
          cases rt
          have h1 := small62_is hj.1
          have h2 := small62_is hj.2
          exact ⟨i, j, rfl, ⟨h1.1, h1.2, h2.1, h2.2⟩, q1 _ H1 g1 (.refl _) R1 (itOk_range i _)⟩
        · cases hit
      · cases hit
    · exact q1.elim⟩
/-! ### pairs -/
def seqD : PyData → Option (List PyData)
  | .list xs => some xs
  | .tuple xs => some xs
  | _ => none
theorem seqD_at {K : PySem.W.Frag} {g : Gh} {u : V} {d : PyData} {xs : List PyData} (r : Dq K g.F u d) (e : seqD d = some xs) : ∃ b a vs, u = .ref a ∧ (∀ H, Same g.F H → SqB b K H a vs) ∧ DqAll K g.F vs xs := by
  unfold seqD at e
  split at e
  · cases e
    cases r with
    | lst h1 h2 => exact ⟨true, _, _, rfl, fun H s => SqL.of (s _ _ h1), h2⟩
  · cases e
    cases r with
    | tup h1 h2 => exact ⟨false, _, _, rfl, fun H s => sqt_mono s h1.sqt, h2⟩
  · cases e
def pairs (xs ys : List PyData) : List (List PyData) := (xs.zip ys).map fun p => [p.1, p.2]
theorem itOk_pairs {g : Gh} {S : Hp → List V → List V → Prop} {xs ys : List PyData} {vs ws : List V} (hS : ∀ H, Same g.F H → S H vs ws) (d1 : DqAll X.K g.F vs xs) (d2 : DqAll X.K g.F ws ys) : ItOk X g (Itp S) ((pairs xs ys).map Vl.p, none) := fun i H g' st l R _ => by
  have hs : S H vs ws := hS H (l.1.trans R.sub)
  have l1 := dqAll_len d1
  have l2 := dqAll_len d2
  have len : ((pairs xs ys).map Vl.p).length = min xs.length ys.length := by simp [pairs]
  refine ⟨fun hi => ?_, fun hi => ⟨vs, ws, hs, by rw [hi, len, l1, l2]⟩⟩
  have hi : i < min xs.length ys.length := by rw [← len]; exact hi
  have h1 : i < xs.length := by omega
  have h2 : i < ys.length := by omega
  obtain ⟨v, hv, dv⟩ := dqAll_get d1 (List.getElem?_eq_getElem h1)
  obtain ⟨w, hw, dw⟩ := dqAll_get d2 (List.getElem?_eq_getElem h2)
  refine ⟨⟨vs, ws, v, w, hs, hv, hw⟩, fun u H' ⟨T, x, y, e1, hT, e2, hxy⟩ => ?_⟩
  obtain ⟨hx, hy⟩ := hxy vs ws hs
  rw [hv] at hx
  rw [hw] at hy
  cases hx
  cases hy
  subst e1
  subst e2
  refine ⟨g'.put T (.tup [v, w]), .p [xs[i], ys[i]], put_le R hT _, R.put hT _, ?_, T, _, rfl, SqT.of upd_same, (.cons (dq_mono (put_le R hT _).1.1 (dq_mono l.1 dv)) (.cons (dq_mono (put_le R hT _).1.1 (dq_mono l.1 dw)) .nil))⟩
  have hz : (xs.zip ys)[i]? = some (xs[i], ys[i]) := by
    rw [List.getElem?_eq_getElem (by simp; omega), List.getElem_zip]
  show ((pairs xs ys).map Vl.p)[i]? = _
  unfold pairs
  rw [List.getElem?_map, List.getElem?_map, hz]
  rfl
theorem nats_dqAll {K : PySem.W.Frag} {F : Hp} : ∀ l : List Nat, DqAll K F (l.map fun i => V.int (i : Nat)) (l.map fun i => PyData.int (0 + (i : Nat)))
  | [] => .nil
  | i :: l => by
    refine .cons ?_ (nats_dqAll l)
    show Dq K F (V.int (i : Nat)) (PyData.int (0 + (i : Nat)))
    rw [Int.zero_add]
    exact .int _
def enumI : List Vl → Option (List Vl × Gd)
  | [.d a] => match seqD a with
    | some ys => some ((pairs (rngL 0 ys.length) ys).map Vl.p, none)
    | _ => none
  | _ => none
theorem ji_enum {e : Expr} {p pos tpos : Pos} {elts : List Expr} {kk : Nat} {ms : Rho → Sto → Res (List Vl)} (hg : Gl X "enumerate") (hm : X.mg "enumerate" = none) (ha : JA X W [e] ms) (hs : starEach [e] X.env = [(false, eval e X.env)]) :
    JI X W (.Tuple elts kk tpos) (.Call (.Name "enumerate" p) [e] [] pos) (argI enumI ms) :=
  PI.imp (pi_enumB hg hm ha hs) fun σ H R ⟨g, ρ, st, RR, E, q⟩ => ⟨g, ρ, st, RR, E, PostE.step q fun us H1 vs st1 g1 l1 R1 r1 q1 => by
    split at q1
    · rename_i it hit
      unfold enumI at hit
      split at hit
      · split at hit
        · rename_i ys hy
          cases hit
          obtain ⟨u, rfl, ru⟩ := valsR1 r1
          obtain ⟨b, a, vs1, rfl, s1, d1⟩ := seqD_at ru hy
          refine ⟨b, a, vs1, rfl, s1 H1 R1.sub, q1 _ H1 g1 (.refl _) R1 (itOk_pairs (vs := (List.range vs1.length).map fun i => V.int (i : Nat)) (fun H s => ⟨s1 H s, rfl⟩) ?_ d1)⟩
          rw [dqAll_len d1]
          exact nats_dqAll _
        · cases hit
      · cases hit
    · exact q1.elim⟩
end
end M1

/-! part M: products, slices -/
namespace M1
open PySem PySem.Spec L2 PyProof.Rows
variable [LT]
section
variable {X : Cx} {W : WX}
/-! ### tuple * int, raw: the same tuple, an empty one -/
theorem tmul_same (l : Addr) (items : Array Value) (n : Nat) (dd : Option Addr) (sl : Array (Option Value)) (x : Int) (u : Tok) (c0 : (decide (x < -(2 ^ 63)) || decide (x ≥ 2 ^ 63)) = false) (c1 : (items.isEmpty || x == 1) = true) :
    Meets (Builtin.«tuple.__mul__» ⟨[.ref l, .int x u], []⟩) (fun _ R s => s.heap.get? l = some { cls := .type "tuple", dict := dd, data := .seq items n, slots := sl } ∧ R (.ok (.ret (Value.ref l))) s) := .of_wp fun _ _ A R s h => by
  obtain ⟨hp, g, d, tk, os⟩ := s; obtain ⟨hl, h⟩ := h
  have f1 := AutoSeq1.idx_int; wp_walk using wpAny_loadPart' hl
  repeat (first
    | (refine wpAny_ite_false (decide_eq_false (by rw [c0]; exact Bool.false_ne_true)) ?_; wp_walk using wpAny_loadPart' hl)
    | (refine wpAny_ite_true (decide_eq_true c1) ?_; wp_walk using wpAny_loadPart' hl))
  exact ⟨_, rfl, h⟩
theorem tmul_none (l : Addr) (items : Array Value) (n : Nat) (dd : Option Addr) (sl : Array (Option Value)) (x : Int) (u : Tok) (c0 : (decide (x < -(2 ^ 63)) || decide (x ≥ 2 ^ 63)) = false) (c1 : (items.isEmpty || x == 1) = false) (c2 : (decide (x ≤ 0) || items.isEmpty) = true) :
    Meets (Builtin.«tuple.__mul__» ⟨[.ref l, .int x u], []⟩) (fun _ R s => s.heap.get? l = some { cls := .type "tuple", dict := dd, data := .seq items n, slots := sl } ∧ R (.ok (.ret (Value.ref s.heap.objs.size))) { s with heap := s.heap.push { cls := Value.type "tuple", data := Data.seq #[] } }) := .of_wp fun _ _ A R s h => by
  obtain ⟨hp, g, d, tk, os⟩ := s; obtain ⟨hl, h⟩ := h
  have f1 := AutoSeq1.idx_int; wp_walk using wpAny_loadPart' hl
  repeat (first
    | (refine wpAny_ite_false (decide_eq_false (by rw [c0]; exact Bool.false_ne_true)) ?_; wp_walk using wpAny_loadPart' hl)
    | (refine wpAny_ite_false (decide_eq_false (by rw [c1]; exact Bool.false_ne_true)) ?_; wp_walk using wpAny_loadPart' hl)
    | (refine wpAny_ite_true (decide_eq_true c2) ?_; wp_walk using wpAny_loadPart' hl))
  exact ⟨_, rfl, h⟩

def rRepZ (K : PySem.W.Frag) : R2 := fun x y H Q => ∃ l k xs, x = .ref l ∧ y = .int k ∧ SqT K H l xs ∧ -1000 ≤ k ∧ k ≤ 1000 ∧ xs.length ≤ 1000 ∧
  ((xs = [] ∨ k = 1) → Q (.ref l) H) ∧ (xs ≠ [] → k ≤ 0 → NewT H [] Q) ∧ (xs ≠ [] → 2 ≤ k → NewT H (List.replicate k.toNat xs).flatten Q)
theorem op_repZ : OpR X (binaryOp .Mult) (rRepZ X.K) := by
  intro pins s σ H x y v u Q I rx ry h
  obtain ⟨l, k, xs, rfl, rfl, hT, h1, h2, hz, q0, q1, q2⟩ := h
  cases rx
  obtain ⟨t, rfl⟩ := ry
  obtain ⟨its, r, ⟨⟨cls, dd, data, sl⟩, ho, hc, n, hd⟩, hs⟩ := I.tuple hT
  simp only at hc hd
  subst hc hd
  have hle : its.length = xs.length := r.length.symm
  have hsz0 : its.toArray.size = xs.length := by rw [List.size_toArray, hle]
  have c0 : (decide (k < -(2 ^ 63)) || decide (k ≥ 2 ^ 63)) = false := by
    rw [decide_eq_false (by omega), decide_eq_false (by omega)] <;> rfl
  refine wpAny_binaryOp_repeat_ref (T := "tuple") (U := "int") (by decide) ⟨_, ho, rfl⟩ (fun s' => typeIs_int s' k t) noFill_tuple_mul F.fills_int_mul F.slot_int_rmul repeat_tuple F.slot_int_index.lookup (call_meets F.slot_int_rmul (typeIs_int s k t) F.entry_int_rmul (F.args_int_rmul_2 _ _) (int_rmul_tuple k t l its.toArray n dd sl) ⟨ho, rfl, ⟨_, ho, rfl⟩, ?_⟩)
  cases its with
  | nil =>
    cases r
    refine call_meets F.slot_tuple_mul ⟨_, ho, rfl⟩ F.entry_tuple_mul (F.args_tuple_mul_2 _ _) (tmul_same l _ n dd sl k t c0 rfl) ⟨ho, ?_⟩
    exact ⟨.ref l, H, I, rfl, q0 (.inl rfl)⟩
  | cons a b =>
    have hne : xs ≠ [] := fun e => by subst e; cases hle
    have hi : (a :: b).toArray.isEmpty = false := rfl
    by_cases k1 : k = 1
    · refine call_meets F.slot_tuple_mul ⟨_, ho, rfl⟩ F.entry_tuple_mul (F.args_tuple_mul_2 _ _) (tmul_same l _ n dd sl k t c0 (by rw [hi, Bool.false_or, k1]; rfl)) ⟨ho, ?_⟩
      exact ⟨.ref l, H, I, rfl, q0 (.inr k1)⟩
    · have c1 : ((a :: b).toArray.isEmpty || k == 1) = false := by rw [hi, Bool.false_or]; exact beq_eq_false_iff_ne.mpr k1
      by_cases k0 : k ≤ 0
      · refine call_meets F.slot_tuple_mul ⟨_, ho, rfl⟩ F.entry_tuple_mul (F.args_tuple_mul_2 _ _) (tmul_none l _ n dd sl k t c0 c1 (by rw [hi, Bool.or_false]; exact decide_eq_true k0)) ⟨ho, ?_⟩
        exact newT_here (its := []) I .nil (Nat.zero_le _) (q1 hne k0)
      · have hm : (((a :: b).toArray.size : Nat) : Int) * k ≤ 1000000 := by
          rw [hsz0]
          have a1 : ((xs.length : Nat) : Int) * k ≤ 1000 * k := Int.mul_le_mul_of_nonneg_right (by omega) (by omega)
          omega
        have flen : (List.replicate k.toNat (a :: b)).flatten.length ≤ sizeLine := by
          rw [PyProof.Rows.lm_len_rep_flat, hle, sizeLine_eq]
          have a1 : k.toNat * xs.length ≤ 1000 * 1000 := Nat.mul_le_mul (by omega) hz
          omega
        have c2 : (decide (k ≤ 0) || (a :: b).toArray.isEmpty) = false := by rw [hi, Bool.or_false]; exact decide_eq_false k0
        have c4 : Builtin.Tuple.tupleTooMany ((((a :: b).toArray.size : Nat) : Int) * k) = false := by
          unfold Builtin.Tuple.tupleTooMany
          rw [sizeLine_eq]
          exact decide_eq_false (by omega)
        refine call_meets F.slot_tuple_mul ⟨_, ho, rfl⟩ F.entry_tuple_mul (F.args_tuple_mul_2 _ _) (tuple_mulW l _ n dd sl k t c0 c1 c2 (by omega) c4 (by rw [size_rep, List.size_toArray]; exact flen)) ⟨ho, ?_⟩
        rw [size_rep]
        exact newT_here I (r.rep k.toNat) (by rw [(r.rep k.toNat).length]; exact flen) (q2 hne (by omega))
/-! ### products of data -/
theorem mulOk {i j : Int} (h : i.natAbs.log2 + j.natAbs.log2 < 100000000) : IntMulOk i j := by
  have b : ∀ x : Int, Builtin.Int.intBits x ≤ x.natAbs.log2 + 1 := fun x => by unfold Builtin.Int.intBits; split <;> omega
  have h1 := b i; have h2 := b j
  have e : bitsLine = 134217728 := by decide
  unfold IntMulOk
  intro z; rw [Bool.and_eq_true] at z
  have z2 := z.2; unfold Builtin.Int.intTooBig at z2
  have z3 := of_decide_eq_true z2; rw [e] at z3; omega
theorem op_mulH : OpR X (binaryOp .Mult) (rI (fun i j => i.natAbs.log2 + j.natAbs.log2 < 100000000) fun i j => .int (i * j)) := opI fun _ _ _ _ _ _ _ hc q => PySem.P.mul_int q (mulOk hc)
def mulD : PyData → PyData → Option PyData
  | .int i, .int j => mulI i j
  | .tuple a, .int k => if -1000 ≤ k ∧ k ≤ 1000 ∧ a.length ≤ 1000 then some (.tuple (List.replicate k.toNat a).flatten) else none
  | _, _ => none
theorem rep1 (l : List PyData) : (List.replicate (Int.toNat 1) l).flatten = l := List.append_nil l
theorem or_mul : OpR X (binaryOp .Mult) (rV X (lift2 mulD)) := by
  intro pins s σ H x y v u Q I rx ry h
  obtain ⟨g, st, a, b, d, R, ha, hb, e, q⟩ := lift2_read h
  unfold mulD at e
  split at e
  · unfold mulI at e
    split at e
    · rename_i hj
      cases e; obtain rfl := ha.int; obtain rfl := hb.int
      exact op_mulH pins s σ H _ _ v u Q I rx ry ⟨_, _, rfl, rfl, hj, ans R q _ fun _ => .int _⟩
    · cases e
  · split at e
    · rename_i hk
      cases e
      obtain ⟨p, vs, rfl, h1, d1⟩ := ha.tup
      obtain rfl := hb.int
      have hl := dqAll_len d1
      refine op_repZ pins s σ H _ _ v u Q I rx ry ⟨_, _, vs, rfl, rfl, sqt_mono R.sub h1.sqt, hk.1, hk.2.1, by rw [hl]; exact hk.2.2, fun e => ?_, fun _ e => ?_, fun _ _ => ansT R q (dqAll_rep d1 _)⟩
      · rcases e with e | e
        · subst e
          cases d1
          refine q _ _ _ (Gh.le.refl _) R ?_
          have e : ∀ n : Nat, (List.replicate n ([] : List PyData)).flatten = [] := fun n => by simp
          rw [e]
          exact .tup h1 .nil
        · subst e
          refine q _ _ _ (Gh.le.refl _) R ?_
          rw [rep1]
          exact .tup h1 d1
      · refine ansT R q ?_
        rw [Int.toNat_eq_zero.mpr e]
        exact .nil
    · cases e
  · cases e
/-! ### operations whose answer is a new list -/
def rVF (X : Cx) (f : Vl → Vl → Sto → Res (List PyData)) : R2 := fun x y H Q => ∃ g st v w, Rel X.K H g st ∧ ValR X.mg X.K g x v ∧ ValR X.mg X.K g y w ∧ PostF X (fun _ _ _ _ => False) [] g Q (f v w st)
def biF (ma mb : Rho → Sto → Res Vl) (f : Vl → Vl → Sto → Res (List PyData)) (ρ : Rho) (st : Sto) : Res (List PyData) := (ma ρ st).bind fun v st => (mb ρ st).bind fun w st => f v w st
def NoErrF (f : Vl → Vl → Sto → Res (List PyData)) : Prop := ∀ v w st x st', f v w st ≠ .err x st'
theorem jf_bin {op : Operator} {a b : Expr} {pos : Pos} {ma mb : Rho → Sto → Res Vl} {f : Vl → Vl → Sto → Res (List PyData)} (hn : NoErrF f) (ho : OpR X (binaryOp op) (rVF X f)) (ha : JE X W a ma) (hb : JE X W b mb) : JF X W (.BinOp a op b pos) (biF ma mb f) :=
  PE.imp (pe_op ho ha hb) fun σ H Q ⟨g, ρ, st, R, E, q⟩ => ⟨g, ρ, st, R, E, PostF.bind q fun x H1 v st1 g1 l1 R1 r1 q1 => ⟨g1, ρ, st1, R1, E.mono l1.1, PostF.bind q1 fun y H2 w st2 g2 l2 R2 r2 q2 =>
    ⟨g2, st2, v, w, R2, r1.mono l2.1, r2, postF_noerr (hn _ _ _) q2⟩⟩⟩
def lift2F (f : PyData → PyData → Option (List PyData)) (v w : Vl) (st : Sto) : Res (List PyData) :=
  match rd st v, rd st w with
  | some a, some b => match f a b with
    | some d => .ok d st
    | none => .stuck
  | _, _ => .stuck
theorem lift2F_noerr (f : PyData → PyData → Option (List PyData)) : NoErrF (lift2F f) := by
  intro v w st x st' h
  unfold lift2F at h
  split at h
  · split at h <;> cases h
  · cases h
theorem lift2F_read {f : PyData → PyData → Option (List PyData)} {x y : V} {H : Hp} {Q : VK} (h : rVF X (lift2F f) x y H Q) :
    ∃ g st a b ds, Rel X.K H g st ∧ DH X.K H g.F x a ∧ DH X.K H g.F y b ∧ f a b = some ds ∧ ∀ vs, DqAll X.K g.F vs ds → ∀ p, H p = none → Q (.ref p) (upd H p (.lst vs)) := by
  obtain ⟨g, st, v, w, R, r1, r2, q⟩ := h
  unfold lift2F at q
  split at q
  · rename_i a b ha hb
    split at q
    · rename_i d hd
      exact ⟨g, st, a, b, d, R, rd_dh R r1 ha, rd_dh R r2 hb, hd, fun vs dv p hp => q H g (.refl g) R vs dv p hp⟩
    · exact q.elim
  · exact q.elim
def repF : PyData → PyData → Option (List PyData)
  | .list xs, .int k => if small62 k = true ∧ xs.length * k.toNat ≤ 1000000 then some (List.replicate k.toNat xs).flatten else none
  | _, _ => none
theorem orf_rep : OpR X (binaryOp .Mult) (rVF X (lift2F repF)) := by
  intro pins s σ H x y v u Q I rx ry h
  obtain ⟨g, st, a, b, ds, R, ha, hb, e, q⟩ := lift2F_read h
  unfold repF at e
  split at e
  · split at e
    · rename_i hz
      cases e
      obtain ⟨p, vs, rfl, h1, d1⟩ := ha
      obtain rfl := hb.int
      have h62 := small62_is hz.1
      have hm := hz.2
      refine op_rep pins s σ H _ _ v u Q I rx ry ⟨_, _, vs, rfl, rfl, h1, by omega, by omega, by rw [dqAll_len d1, sizeLine_eq]; omega, fun p hp => q _ (dqAll_rep d1 _) p hp⟩
    · cases e
  · cases e
theorem jf_rep {a b : Expr} {pos : Pos} {ma mb : Rho → Sto → Res Vl} (ha : JE X W a ma) (hb : JE X W b mb) : JF X W (.BinOp a .Mult b pos) (biF ma mb (lift2F repF)) := jf_bin (lift2F_noerr _) orf_rep ha hb
theorem je_mul {a b : Expr} {pos : Pos} {ma mb : Rho → Sto → Res Vl} (ha : JE X W a ma) (hb : JE X W b mb) : JE X W (.BinOp a .Mult b pos) (bi ma mb (lift2 mulD)) := je_bin (lift2_noerr _) or_mul ha hb
/-! ### slices -/
def tDO (X : Cx) (W : WX) (m : Rho → Sto → Res (Option Int)) : TO := fun σ H Q => ∃ g ρ st, Rel X.K H g st ∧ RhoR X.mg X.K g σ ρ ∧ PostE X W σ g (fun _ (u : Option Int) v => u = v) Q (m ρ st)
def JO (X : Cx) (W : WX) (e : Option Expr) (m : Rho → Sto → Res (Option Int)) : Prop := PO X e (tDO X W m)
theorem PO.imp {e : Option Expr} {t t' : TO} (h : PO X e t) (i : ∀ σ H Q, t' σ H Q → t σ H Q) : PO X e t' := ⟨fun pins s σ H Q I q => h.run pins s σ H Q I (i σ H Q q)⟩
def noO (_ : Rho) (st : Sto) : Res (Option Int) := .ok none st
def atO (m : Rho → Sto → Res Vl) (ρ : Rho) (st : Sto) : Res (Option Int) := (m ρ st).bind fun v st => match v with
  | .d (.int i) => .ok (some i) st
  | _ => .stuck
theorem jo_none : JO X W none noO := PO.imp po_none fun σ H Q ⟨g, ρ, st, R, E, q⟩ => q _ H g (.refl g) R rfl
theorem jo_some {e : Expr} {m : Rho → Sto → Res Vl} (h : JE X W e m) : JO X W (some e) (atO m) :=
  PO.imp (po_some h) fun σ H Q ⟨g, ρ, st, R, E, q⟩ => ⟨g, ρ, st, R, E, PostE.step q fun u H1 v st1 g1 l1 R1 r1 q1 => by
    split at q1
    · cases r1
      exact ⟨_, rfl, q1 _ H1 g1 (.refl _) R1 rfl⟩
    · exact q1.elim⟩
def cutL {α : Type} (xs : List α) (lo hi : Option Int) : List α := (xs.drop (HT.sIx xs.length 0 lo)).take (HT.sIx xs.length xs.length hi - HT.sIx xs.length 0 lo)
theorem dqAll_cut {K : PySem.W.Frag} {F : Hp} {xs : List PyData} {vs : List V} (h : DqAll K F vs xs) (lo hi : Option Int) : DqAll K F (cutV vs lo hi) (cutL xs lo hi) := by
  unfold cutV cutL
  rw [dqAll_len h]
  exact dqAll_take _ (dqAll_drop _ h)
def slD (a : PyData) (lo hi : Option Int) : Option PyData := match a with
  | .list xs => some (.list (cutL xs lo hi))
  | .tuple xs => some (.tuple (cutL xs lo hi))
  | .str z => if z.length ≤ sizeLine then some (.str (cutS z lo hi)) else none
  | _ => none
def slV (f : PyData → Option Int → Option Int → Option PyData) (v : Vl) (lo hi : Option Int) (st : Sto) : Res Vl := match rd st v with
  | some a => match f a lo hi with
    | some d => .ok (.d d) st
    | none => .stuck
  | none => .stuck
def sliceM (ma : Rho → Sto → Res Vl) (ml mh : Rho → Sto → Res (Option Int)) (ρ : Rho) (st : Sto) : Res Vl := (ma ρ st).bind fun v st => (ml ρ st).bind fun l st => (mh ρ st).bind fun h st => slV slD v l h st
def rSlM (X : Cx) : V → Option Int → Option Int → Hp → VK → Prop := fun x lo hi H Q => ∃ g st v, Rel X.K H g st ∧ ValR X.mg X.K g x v ∧ PostE X (fun _ _ _ _ => False) [] g (ValR X.mg X.K) Q (slV slD v lo hi st)
theorem slr_data : SlR X (rSlM X) := by
  intro pins s σ H x v vl vu lo hi sl Q I rx hs pl pu h
  obtain ⟨g, st, w, R, r, q⟩ := h
  unfold slV at q
  split at q
  · rename_i a ha
    have ha := rd_dh R r ha
    split at q
    · rename_i d hd
      have q : ∀ u H' g', g.le g' → Rel X.K H' g' st → Dq X.K g'.F u d → Q u H' := q
      unfold slD at hd
      split at hd
      · cases hd
        obtain ⟨p, vs, rfl, h1, d1⟩ := ha
        exact sl_list pins s σ H _ v vl vu lo hi sl Q I rx hs pl pu ⟨p, vs, rfl, SqL.of h1, fun p hp => ansL R q (dqAll_cut d1 lo hi) p hp⟩
      · cases hd
        obtain ⟨p, vs, rfl, h1, d1⟩ := ha.tup
        refine sl_tupZ pins s σ H _ v vl vu lo hi sl Q I rx hs pl pu ⟨p, vs, rfl, sqt_mono R.sub h1.sqt, fun hw => ?_, ansT R q (dqAll_cut d1 lo hi)⟩
        rw [dqAll_len d1] at hw
        refine q _ _ _ (.refl g) R ?_
        unfold cutL
        rw [hw.1, hw.2, List.drop_zero, Nat.sub_zero, List.take_length]
        exact .tup h1 d1
      · split at hd
        · rename_i hz
          cases hd
          obtain rfl := ha.str
          exact sl_str pins s σ H _ v vl vu lo hi sl Q I rx hs pl pu ⟨_, rfl, hz, ans R q _ fun _ => .str _⟩
        · cases hd
      · cases hd
    · exact q.elim
  · exact q.elim
theorem slV_noerr {f : PyData → Option Int → Option Int → Option PyData} {v : Vl} {lo hi : Option Int} {st : Sto} {x : Exn} {st' : Sto} : slV f v lo hi st ≠ .err x st' := fun h => by
  unfold slV at h
  (repeat' split at h) <;> cases h
theorem je_slice {e : Expr} {lo hi : Option Expr} {p2 pos : Pos} {ma : Rho → Sto → Res Vl} {ml mh : Rho → Sto → Res (Option Int)} (he : JE X W e ma) (hl : JO X W lo ml) (hh : JO X W hi mh) : JE X W (.Subscript e (.Slice lo hi none p2) pos) (sliceM ma ml mh) :=
  PE.imp (pe_slice slr_data he hl hh) fun σ H Q ⟨g, ρ, st, R, E, q⟩ => ⟨g, ρ, st, R, E, PostE.step q fun u H1 v st1 g1 l1 R1 r1 q1 => ⟨g1, ρ, st1, R1, E.mono l1.1, PostE.step q1 fun a H2 a' st2 g2 l2 R2 ea q2 => by
    subst ea
    exact ⟨g2, ρ, st2, R2, E.mono (l1.trans l2).1, PostE.step q2 fun b H3 b' st3 g3 l3 R3 eb q3 => by
      subst eb
      exact ⟨g3, st3, v, R3, r1.mono (l2.trans l3).1, postE_noerr (fun _ _ => slV_noerr) q3⟩⟩⟩⟩
end
end M1

/-! part N: backwards -/
namespace M1
open PySem PySem.Spec L2 PyProof.Rows
variable [LT]
section
variable {prog : Program} {w : World} {A : Around} {E : Value → Shared → Prop} {s : Shared}
end
section
variable {X : Cx} {W : WX}
end
end M1

/-! part O: methods by values -/
namespace M1
open PySem PySem.Spec L2 PyProof.Rows
variable [LT]
inductive MTy where
  | list | tup | str
def MTy.nm : MTy → String
  | .list => "list"
  | .tup => "tuple"
  | .str => "str"
def tyOf (v : Vl) (st : Sto) : Option MTy := match v with
  | .d (.list _) => some .list
  | .d (.tuple _) => some .tup
  | .d (.str _) => some .str
  | .c n => match (st : List Cell)[n]? with
    | some (.lst _) => some .list
    | some (.lstc _) => some .list
    | some (.dws _) => some .list
    | _ => none
  | _ => none
section
variable {X : Cx} {W : WX}
theorem ty_is {pins : List (Addr × Obj)} {σ : L2.St} {H : Hp} {s : Shared} {g : Gh} {st : Sto} {x : V} {u : Value} {v : Vl} {T : MTy} (I : Inv X pins σ H s) (R : Rel X.K H g st) (rx : RelV x u) (r : ValR X.mg X.K g x v) (e : tyOf v st = some T) :
    s.TypeIs u T.nm ∧ ∀ a, u = .ref a → ∃ ob, s.heap.get? a = some ob ∧ ob.dict = none := by
  have lst : ∀ (p : Addr) (xs : List V), H p = some (.lst xs) → s.TypeIs (.ref p) "list" ∧ ∀ a, Value.ref p = .ref a → ∃ ob, s.heap.get? a = some ob ∧ ob.dict = none := fun p xs hp => by
    obtain ⟨z, its, n, rv, ho⟩ := I.hok p _ hp
    exact ⟨⟨_, ho, rfl⟩, fun a e => by cases e; exact ⟨_, ho, rfl⟩⟩
  unfold tyOf at e
  split at e
  · cases e
    cases r with
    | lst h1 h2 =>
      cases rx
      exact lst _ _ (R.sub _ _ h1)
  · cases e
    cases r with
    | tup h1 h2 =>
      cases rx
      obtain ⟨o, h1, ho⟩ := h1
      have hk := I.hok _ _ (R.sub _ _ h1)
      obtain ⟨hg, hz, its, rv, hT⟩ := hk
      exact ⟨IsTup.typeIs hT, fun a e => by cases e; exact ⟨o, hg, ho⟩⟩
  · cases e
    cases r
    obtain ⟨t, rfl⟩ := rx
    exact ⟨typeIs_str s _ t, fun _ e => nomatch e⟩
  · rename_i n
    obtain ⟨p, rest, h1, rfl⟩ := r
    cases rx
    split at e
    · rename_i xs hc
      cases e
      obtain ⟨p', vs, e, h2, _⟩ := R.cells n _ _ h1 hc
      cases e
      exact lst _ _ h2
    · rename_i xs hc
      cases e
      obtain ⟨p', vs, e, h2, _⟩ := R.cells n _ _ h1 hc
      cases e
      exact lst _ _ h2
    · rename_i xs hc
      cases e
      obtain ⟨p', vs, e, h2, _⟩ := R.cells n _ _ h1 hc
      cases e
      exact lst _ _ h2
    · cases e
  · cases e
def rMV (X : Cx) (f : Vl → List Vl → Sto → Res Vl) : V → List V → Hp → VK → Prop := fun x xs H Q => ∃ g st v vs, Rel X.K H g st ∧ ValR X.mg X.K g x v ∧ ValsR X.mg X.K g xs vs ∧ PostE X (fun _ _ _ _ => False) [] g (ValR X.mg X.K) Q (f v vs st)
structure MtOk (X : Cx) (name : Str) (T : MTy) (f : Vl → List Vl → Sto → Res Vl) : Prop where
  ex : ∃ id, PlainAttrs T.nm ∧ Slot T.nm name id ∧ typeOf (.builtin id) = pure (.type "method_descriptor") ∧ MtR X id (rMV X f)
  ne : ∀ v vs st x st', f v vs st ≠ .err x st'
abbrev MtTab := MTy → Option (Vl → List Vl → Sto → Res Vl)
def MtsOk (X : Cx) (name : Str) (tab : MtTab) : Prop := ∀ T f, tab T = some f → MtOk X name T f
def mthK (tab : MtTab) (ms : Rho → Sto → Res (List Vl)) (ρ : Rho) (v : Vl) (st : Sto) : Res Vl := match tyOf v st with
  | some T => match tab T with
    | some f => (ms ρ st).bind fun vs st => f v vs st
    | none => .stuck
  | none => .stuck
def mthM (tab : MtTab) (mo : Rho → Sto → Res Vl) (ms : Rho → Sto → Res (List Vl)) (ρ : Rho) (st : Sto) : Res Vl := (mo ρ st).bind fun v st => mthK tab ms ρ v st
theorem je_mth {o e : Expr} {es : List Expr} {name : Str} {apos cpos : Pos} {tab : MtTab} {mo : Rho → Sto → Res Vl} {ms : Rho → Sto → Res (List Vl)} (ok : MtsOk X name tab) (ho : JE X W o mo) (ha : JA X W (e :: es) ms)
    (hbase : attributeBase o name X.env (eval o X.env) = eval o X.env)
    (hfew : ((backTo cpos (starEach (e :: es) X.env)).all (fun x => !x.1) && (backToKw cpos (keywordEach [] X.env)).all (fun x => x.1.isSome) && decide ((e :: es).length + ([] : List Keyword).length + (if ([] : List Keyword).isEmpty then 0 else 1) < 30)) = true)
    (hline : (apos.endLine == cpos.line) = true) (hs : starEach (e :: es) X.env = (false, eval e X.env) :: starEach es X.env) (hplain : (backTo cpos (starEach es X.env)).any (·.1) = false) :
    JE X W (.Call (.Attribute o name apos) (e :: es) [] cpos) (mthM tab mo ms) := by
  refine ⟨fun pins s σ H Q I h => ?_⟩
  obtain ⟨g, ρ, st, R, E, q⟩ := h
  refine wpAny_Call_method_late hbase hfew hline rfl (thn (ho.run pins s σ H (fun x H1 => ∃ g1 st1 v, Rel X.K H1 g1 st1 ∧ ValR X.mg X.K g1 x v ∧ g.le g1 ∧ PostE X W σ g1 (ValR X.mg X.K) Q (mthK tab ms ρ v st1)) I ⟨g, ρ, st, R, E, PostE.step q fun u H1 v st1 g1 l1 R1 r1 q1 => ⟨g1, st1, v, R1, r1, l1, q1⟩⟩) fun v s1 ⟨x, H1, I1, r1, g1, st1, vv, R1, rv, l1, q1⟩ => ?_)
  unfold mthK at q1
  split at q1
  · rename_i T hT
    split at q1
    · rename_i f hf
      obtain ⟨h1, h2⟩ := ty_is I1 R1 r1 rv hT
      obtain ⟨⟨id, pa, slot, hty, hm⟩, hne⟩ := ok T f hf
      refine ⟨T.nm, id, pa, slot, hty, h1, h2, ?_⟩
      have hA := ha.run cpos pins s1 σ H1 (fun xs H2 => rMV X f x xs H2 Q) I1 ⟨g1, ρ, st1, R1, E.mono l1.1, PostE.step q1 fun us H2 vs st2 g2 l2 R2 r2 q2 => ⟨g2, st2, vv, vs, R2, rv.mono l2.1, r2, postE_noerr (hne _ _ _) q2⟩⟩
      rw [hs] at hA ⊢
      refine Calls.callWith_builtin (by show (false || (backTo cpos (starEach es X.env)).any (·.1)) = false; rw [hplain] <;> rfl) (Calls.evalArgs_plain ?_)
      exact thn hA fun us s2 ⟨vs, H2, I2, r2, q2⟩ => hm pins s2 σ H2 x vs v us Q I2 r1 r2 q2
    · exact q1.elim
  · exact q1.elim
theorem je_mth0 {o : Expr} {name : Str} {apos cpos : Pos} {tab : MtTab} {mo : Rho → Sto → Res Vl} (ok : MtsOk X name tab) (ho : JE X W o mo)
    (hbase : attributeBase o name X.env (eval o X.env) = eval o X.env) (hline : (apos.endLine == cpos.line) = true) :
    JE X W (.Call (.Attribute o name apos) [] [] cpos) (mthM tab mo nilA) := by
  refine ⟨fun pins s σ H Q I h => ?_⟩
  obtain ⟨g, ρ, st, R, E, q⟩ := h
  refine wpAny_Call_method0_late hbase hline (thn (ho.run pins s σ H (fun x H1 => ∃ g1 st1 v, Rel X.K H1 g1 st1 ∧ ValR X.mg X.K g1 x v ∧ g.le g1 ∧ PostE X W σ g1 (ValR X.mg X.K) Q (mthK tab nilA ρ v st1)) I ⟨g, ρ, st, R, E, PostE.step q fun u H1 v st1 g1 l1 R1 r1 q1 => ⟨g1, st1, v, R1, r1, l1, q1⟩⟩) fun v s1 ⟨x, H1, I1, r1, g1, st1, vv, R1, rv, l1, q1⟩ => ?_)
  unfold mthK at q1
  split at q1
  · rename_i T hT
    split at q1
    · rename_i f hf
      obtain ⟨h1, h2⟩ := ty_is I1 R1 r1 rv hT
      obtain ⟨⟨id, pa, slot, hty, hm⟩, hne⟩ := ok T f hf
      exact ⟨T.nm, id, pa, slot, hty, h1, h2, Calls.callWith_builtin rfl (PySem.evalArgs_none (hm pins s1 σ H1 x [] v [] Q I1 r1 .nil ⟨g1, st1, vv, [], R1, rv, trivial, postE_noerr (hne _ _ _) q1⟩))⟩
    · exact q1.elim
  · exact q1.elim
/-! ### methods that change a list -/
def mutV (f : Sto → List PyData → List Vl → Option (PyData × List PyData)) (v : Vl) (vs : List Vl) (st : Sto) : Res Vl := match v with
  | .c n => match (st : List Cell)[n]? with
    | some (.lst xs) => match f st xs vs with
      | some (d, ys) => .ok (.d d) (st.set n (.lst ys))
      | none => .stuck
    | _ => .stuck
  | _ => .stuck
theorem mutV_noerr (f : Sto → List PyData → List Vl → Option (PyData × List PyData)) : ∀ v vs st x st', mutV f v vs st ≠ .err x st' := by
  intro v vs st x st' h
  unfold mutV at h
  (repeat' split at h) <;> cases h
theorem mut_read {f : Sto → List PyData → List Vl → Option (PyData × List PyData)} {x : V} {us : List V} {H : Hp} {Q : VK} (h : rMV X (mutV f) x us H Q) :
    ∃ g st p ws xs vs d ys, x = .ref p ∧ Rel X.K H g st ∧ H p = some (.lst ws) ∧ DqAll X.K g.F ws xs ∧ ValsR X.mg X.K g us vs ∧ f st xs vs = some (d, ys) ∧ ∀ zs u, DqAll X.K g.F zs ys → Dq X.K g.F u d → Q u (upd H p (.lst zs)) := by
  obtain ⟨g, st, v, vs, R, r, rs, q⟩ := h
  unfold mutV at q
  split at q
  · rename_i n
    split at q
    · rename_i xs hx
      split at q
      · rename_i d ys hf
        obtain ⟨p, rest, h1, rfl⟩ := r
        obtain ⟨ws, hp, hd, hw⟩ := R.setL h1 hx
        exact ⟨g, st, p, ws, xs, vs, d, ys, rfl, R, hp, hd, rs, hf, fun zs u dz du => q u _ g (.refl g) (hw zs ys dz) du⟩
      · exact q.elim
    · exact q.elim
  · exact q.elim
def appendF (_ : Sto) (xs : List PyData) : List Vl → Option (PyData × List PyData)
  | [.d d] => if xs.length < 1000000 then some (.none, xs ++ [d]) else none
  | _ => none
theorem mto_append : MtOk X "append" .list (mutV appendF) := ⟨⟨_, PySem.F.plainAttrs_list, PySem.F.slot_list_append, PySem.F.type_list_append, fun pins s σ H x xs v us Q I rx rs h => by
  obtain ⟨g, st, p, ws, xs', vs, d, ys, rfl, R, hp, hd, rv, e, q⟩ := mut_read h
  unfold appendF at e
  split at e
  · split at e
    · rename_i hz
      cases e
      obtain ⟨u, rfl, ru⟩ := valsR1 rv
      refine mt_append pins s σ H _ _ v us Q I rx rs ⟨p, ws, u, rfl, rfl, hp, mil_line (by rw [dqAll_len hd]; exact hz), q _ _ (dqAll_append hd (.cons ru .nil)) .non⟩
    · cases e
  · cases e⟩, mutV_noerr _⟩
def popF (_ : Sto) (xs : List PyData) : List Vl → Option (PyData × List PyData)
  | [] => match xs[xs.length - 1]? with
    | some d => some (d, xs.dropLast)
    | none => none
  | [.d (.int i)] => if small62 i = true then match seqIndex? i xs.length with
    | some k => match xs[k]? with
      | some d => some (d, xs.eraseIdx k)
      | none => none
    | none => none else none
  | _ => none
theorem dqAll_dropLast {K : PySem.W.Frag} {F : Hp} {xs : List PyData} {vs : List V} (h : DqAll K F vs xs) : DqAll K F vs.dropLast xs.dropLast := by
  rw [List.dropLast_eq_take, List.dropLast_eq_take, dqAll_len h]
  exact dqAll_take _ h
theorem dqAll_erase {K : PySem.W.Frag} {F : Hp} : ∀ {xs : List PyData} {vs : List V} (k : Nat), DqAll K F vs xs → DqAll K F (vs.eraseIdx k) (xs.eraseIdx k)
  | [], _, _, h => by cases h; exact .nil
  | _ :: _, _, 0, h => by cases h with | cons h1 h2 => exact h2
  | _ :: _, _, k + 1, h => by cases h with | cons h1 h2 => exact .cons h1 (dqAll_erase k h2)
theorem mto_pop : MtOk X "pop" .list (mutV popF) := ⟨⟨_, PySem.F.plainAttrs_list, PySem.F.slot_list_pop, PySem.F.type_list_pop, fun pins s σ H x xs v us Q I rx rs h => by
  obtain ⟨g, st, p, ws, xs', vs, d, ys, rfl, R, hp, hd, rv, e, q⟩ := mut_read h
  unfold popF at e
  split at e
  · split at e
    · rename_i d' hy
      cases e
      obtain ⟨w, hw, dw⟩ := dqAll_get hd hy
      cases xs with
      | nil => exact mt_pop pins s σ H _ _ v us Q I rx rs ⟨p, ws, w, rfl, rfl, hp, by rw [dqAll_len hd]; exact hw, q _ _ (dqAll_dropLast hd) dw⟩
      | cons _ _ => exact rv.elim
    · cases e
  · split at e
    · rename_i i hi
      split at e
      · rename_i k hk
        split at e
        · rename_i d' hy
          cases e
          obtain ⟨w, hw, dw⟩ := dqAll_get hd hy
          obtain ⟨u, rfl, ru⟩ := valsR1 rv
          cases ru
          have h62 := small62_is hi
          exact mt_popAt pins s σ H _ _ v us Q I rx rs ⟨p, ws, i, k, w, rfl, rfl, hp, by omega, by omega, by rw [dqAll_len hd]; exact hk, hw, q _ _ (dqAll_erase k hd) dw⟩
        · cases e
      · cases e
    · cases e
  · cases e⟩, mutV_noerr _⟩
/-! ### methods that only read -/
def rdV (f : Sto → PyData → List Vl → Option PyData) (v : Vl) (vs : List Vl) (st : Sto) : Res Vl := match rd st v with
  | some a => match f st a vs with
    | some d => .ok (.d d) st
    | none => .stuck
  | none => .stuck
theorem rdV_noerr (f : Sto → PyData → List Vl → Option PyData) : ∀ v vs st x st', rdV f v vs st ≠ .err x st' := by
  intro v vs st x st' h
  unfold rdV at h
  (repeat' split at h) <;> cases h
theorem rdV_read {f : Sto → PyData → List Vl → Option PyData} {x : V} {us : List V} {H : Hp} {Q : VK} (h : rMV X (rdV f) x us H Q) :
    ∃ g st a vs d, Rel X.K H g st ∧ DH X.K H g.F x a ∧ ValsR X.mg X.K g us vs ∧ f st a vs = some d ∧ ∀ u H' g', g.le g' → Rel X.K H' g' st → Dq X.K g'.F u d → Q u H' := by
  obtain ⟨g, st, v, vs, R, r, rs, q⟩ := h
  unfold rdV at q
  split at q
  · rename_i a ha
    split at q
    · rename_i d hd
      exact ⟨g, st, a, vs, d, R, rd_dh R r ha, rs, hd, q⟩
    · exact q.elim
  · exact q.elim
def sh (d : PyData) : Bool := SeqAt.shaped d
def indexF (st : Sto) (a : PyData) : List Vl → Option PyData
  | [v] => match a, rd st v with
    | .list xs, some d => if sh (.list xs) = true ∧ sh d = true then (xs.findIdx? fun z => PyData.eqv z d).map fun j => .int (j : Nat) else none
    | _, _ => none
  | _ => none
def indexT (st : Sto) (a : PyData) : List Vl → Option PyData
  | [v] => match a, rd st v with
    | .tuple xs, some d => if sh (.list xs) = true ∧ sh d = true then (xs.findIdx? fun z => PyData.eqv z d).map fun j => .int (j : Nat) else none
    | _, _ => none
  | _ => none
def countF (st : Sto) (a : PyData) : List Vl → Option PyData
  | [v] => match a, rd st v with
    | .list xs, some d => if sh (.list xs) = true ∧ sh d = true then some (.int (xs.countP fun z => PyData.eqv z d : Nat)) else none
    | _, _ => none
  | _ => none
def countT (st : Sto) (a : PyData) : List Vl → Option PyData
  | [v] => match a, rd st v with
    | .tuple xs, some d => if sh (.list xs) = true ∧ sh d = true then some (.int (xs.countP fun z => PyData.eqv z d : Nat)) else none
    | _, _ => none
  | _ => none
theorem findIdx_first {α : Type} {p : α → Bool} {xs : List α} {j : Nat} (h : xs.findIdx? p = some j) : ∃ z, xs[j]? = some z ∧ p z = true ∧ ∀ (m : Nat) (z' : α), m < j → xs[m]? = some z' → p z' = false := by
  obtain ⟨hjl, hj1, hj2⟩ := List.findIdx?_eq_some_iff_getElem.mp h
  refine ⟨_, List.getElem?_eq_getElem hjl, hj1, fun m z' hm e => ?_⟩
  obtain ⟨h3, h4⟩ := List.getElem?_eq_some_iff.mp e
  have := hj2 m hm
  rw [h4] at this
  simpa using this
theorem mto_index (hu : X.A.units + 65 < cLine) : MtOk X "index" .list (rdV indexF) := ⟨⟨_, PySem.F.plainAttrs_list, PySem.F.slot_list_index, PySem.F.type_list_index, fun pins s σ H x xs v us Q I rx rs h => by
  obtain ⟨g, st, a, vs, d, R, ha, rv, e, q⟩ := rdV_read h
  unfold indexF at e
  split at e
  · split at e
    · rename_i zs d' hd'
      split at e
      · rename_i hs
        obtain ⟨u, rfl, ru⟩ := valsR1 rv
        cases hj : zs.findIdx? fun z => PyData.eqv z d' with
        | none => rw [hj] at e; cases e
        | some j =>
          rw [hj] at e
          cases e
          obtain ⟨z, h1, h2, h3⟩ := findIdx_first hj
          have hdp := DH.dp R.sub ha
          obtain ⟨p, ws, rfl, hp, hd⟩ := ha
          exact mt_indexD hu pins s σ H _ _ v us Q I rx rs ⟨p, u, d', zs, j, z, rfl, rfl, hdp, DH.dp R.sub (rd_dh R ru hd'), hs.1, hs.2, h1, h2, h3, ans R q _ fun _ => .int _⟩
      · cases e
    · cases e
  · cases e⟩, rdV_noerr _⟩
/-- the items' equality with a value, as the data tell -/
theorem eq_items {pins : List (Addr × Obj)} {σ : L2.St} {H : Hp} {s : Shared} {ws : List V} {its : List Value} {zs : List PyData} {u : V} {uy : Value} {d : PyData} (hu : X.A.units + 65 < cLine) (I : Inv X pins σ H s) (rv : Vals ws its) (hd : DpAll X.K H ws zs) (ry : RelV u uy) (hy : Dp X.K H u d)
    (sl : SeqAt.shaped (.list zs) = true) (sd : SeqAt.shaped d = true) : its.length = zs.length ∧ (∀ y, y ∈ its.toArray → SeqAt.EqAt X.A.in1 s y uy (PyData.eqv (SeqAt.readOf s.heap y) d)) ∧ its.map (SeqAt.readOf s.heap) = zs := by
  obtain ⟨bs, r1⟩ := Dp.reads I d u uy hy ry
  obtain ⟨as, r2⟩ := Dp.readsAll I zs ws its hd rv
  have hxs : PyData.canLayAll0 zs = true := SeqAt.canLay_of_shaped sl
  exact ⟨SeqAt.ReadsAll.length zs its as r2, SeqAt.items_eqAt (show ReadsAll s.heap its.toArray.toList zs as from r2) r1 hxs (SeqAt.canLay_of_shaped sd) (room_in_shaped sd hu), SeqAt.readsAll_map zs its as hxs r2⟩
theorem countP_map {its : List Value} {zs : List PyData} {f : Value → PyData} (h : its.map f = zs) (p : PyData → Bool) : its.countP (fun u => p (f u)) = zs.countP p := by
  rw [← h, List.countP_map] <;> rfl
theorem mto_count (hu : X.A.units + 65 < cLine) : MtOk X "count" .list (rdV countF) := ⟨⟨_, PySem.F.plainAttrs_list, PySem.F.slot_list_count, PySem.F.type_list_count, fun pins s σ H x xs v us Q I rx rs h => by
  obtain ⟨g, st, a, vs, d, R, ha, rv, e, q⟩ := rdV_read h
  unfold countF at e
  split at e
  · split at e
    · rename_i zs d' hd'
      split at e
      · rename_i hs
        cases e
        obtain ⟨u, rfl, ru⟩ := valsR1 rv
        obtain ⟨uy, rfl, ry⟩ := vals1 rs
        obtain ⟨p, ws, rfl, hp, hd⟩ := ha
        cases rx
        obtain ⟨z, its, n, rits, ho⟩ := I.hok p _ hp
        obtain ⟨e1, e2, e3⟩ := eq_items hu I rits (DqAll.dp (dqAll_mono R.sub hd)) ry (DH.dp R.sub (rd_dh R ru hd')) hs.1 hs.2
        refine call_meets PySem.F.slot_list_count ⟨_, ho, rfl⟩ PySem.F.entry_list_count (PySem.F.args_list_count_2 _ _) (SeqAt.list_countAt p its.toArray n none #[] uy _) ⟨ho, e2, ?_⟩
        refine ⟨.int _, H, I.tok _, ⟨_, rfl⟩, ?_⟩
        rw [List.toList_toArray, countP_map e3 fun w => PyData.eqv w d']
        exact ans R q _ fun _ => .int _
      · cases e
    · cases e
  · cases e⟩, rdV_noerr _⟩
theorem mto_countT (hu : X.A.units + 65 < cLine) : MtOk X "count" .tup (rdV countT) := ⟨⟨_, PySem.F.plainAttrs_tuple, PySem.F.slot_tuple_count, PySem.F.type_tuple_count, fun pins s σ H x xs v us Q I rx rs h => by
  obtain ⟨g, st, a, vs, d, R, ha, rv, e, q⟩ := rdV_read h
  unfold countT at e
  split at e
  · split at e
    · rename_i zs d' hd'
      split at e
      · rename_i hs
        cases e
        obtain ⟨u, rfl, ru⟩ := valsR1 rv
        obtain ⟨uy, rfl, ry⟩ := vals1 rs
        obtain ⟨p, ws, rfl, hp, hd⟩ := ha.tup
        cases rx
        obtain ⟨its, rits, ⟨⟨cls, dd, dt, sl⟩, ho, hc, n, hdt⟩, hz⟩ := I.tuple (sqt_mono R.sub hp.sqt)
        simp only at hc hdt
        subst hc hdt
        obtain ⟨e1, e2, e3⟩ := eq_items hu I rits (DqAll.dp (dqAll_mono R.sub hd)) ry (DH.dp R.sub (rd_dh R ru hd')) hs.1 hs.2
        refine call_meets PySem.F.slot_tuple_count ⟨_, ho, rfl⟩ PySem.F.entry_tuple_count (PySem.F.args_tuple_count_2 _ _) (SeqAt.tuple_countAt p its.toArray n dd sl uy _) ⟨ho, e2, ?_⟩
        refine ⟨.int _, H, I.tok _, ⟨_, rfl⟩, ?_⟩
        rw [List.toList_toArray, countP_map e3 fun w => PyData.eqv w d']
        exact ans R q _ fun _ => .int _
      · cases e
    · cases e
  · cases e⟩, rdV_noerr _⟩
theorem map_at {its : List Value} {zs : List PyData} {f : Value → PyData} (h : its.map f = zs) (m : Nat) (hm : m < its.toArray.size) {z : PyData} (hz : zs[m]? = some z) : f its.toArray[m] = z := by
  have hml : m < its.length := by simpa using hm
  rw [← h, List.getElem?_map, List.getElem?_eq_getElem hml] at hz
  have e1 := Option.some.inj hz
  simpa using e1
theorem mto_indexT (hu : X.A.units + 65 < cLine) : MtOk X "index" .tup (rdV indexT) := ⟨⟨_, PySem.F.plainAttrs_tuple, PySem.F.slot_tuple_index, PySem.F.type_tuple_index, fun pins s σ H x xs v us Q I rx rs h => by
  obtain ⟨g, st, a, vs, d, R, ha, rv, e, q⟩ := rdV_read h
  unfold indexT at e
  split at e
  · split at e
    · rename_i zs d' hd'
      split at e
      · rename_i hs
        obtain ⟨u, rfl, ru⟩ := valsR1 rv
        obtain ⟨uy, rfl, ry⟩ := vals1 rs
        cases hj : zs.findIdx? fun z => PyData.eqv z d' with
        | none => rw [hj] at e; cases e
        | some j =>
          rw [hj] at e
          cases e
          obtain ⟨z, h1, h2, h3⟩ := findIdx_first hj
          obtain ⟨p, ws, rfl, hp, hd⟩ := ha.tup
          cases rx
          obtain ⟨its, rits, ⟨⟨cls, dd, dt, sl⟩, ho, hc, n, hdt⟩, hz⟩ := I.tuple (sqt_mono R.sub hp.sqt)
          simp only at hc hdt
          subst hc hdt
          obtain ⟨e1, e2, e3⟩ := eq_items hu I rits (DqAll.dp (dqAll_mono R.sub hd)) ry (DH.dp R.sub (rd_dh R ru hd')) hs.1 hs.2
          have hjl : j < its.toArray.size := by rw [List.size_toArray, e1]; exact (List.getElem?_eq_some_iff.mp h1).1
          refine call_meets PySem.F.slot_tuple_index ⟨_, ho, rfl⟩ PySem.F.entry_tuple_index (PySem.F.args_tuple_index_2 _ _) (TI.tuple_indexAt p its.toArray n dd sl uy (fun u => PyData.eqv (SeqAt.readOf s.heap u) d') j hjl ?_ ?_) ⟨ho, e2, ?_⟩
          · show PyData.eqv (SeqAt.readOf s.heap its.toArray[j]) d' = true
            rw [map_at e3 j hjl h1]
            exact h2
          · intro m hm hmj
            have hmd : m < zs.length := by rw [← e1]; simpa using hm
            show PyData.eqv (SeqAt.readOf s.heap its.toArray[m]) d' = false
            rw [map_at e3 m hm (List.getElem?_eq_getElem hmd)]
            exact h3 m _ hmj (List.getElem?_eq_getElem hmd)
          · exact ⟨.int _, H, I.tok _, ⟨_, rfl⟩, ans R q _ fun _ => .int _⟩
      · cases e
    · cases e
  · cases e⟩, rdV_noerr _⟩
end
end M1

/-! part P: cells in cells, stores of items, aug-assignments -/
namespace M1
open PySem PySem.Spec L2 PyProof.Rows
variable [LT]
section
variable {X : Cx} {W : WX}
/-! ### x[i], a list of cells too -/
def ixA (v w : Vl) (st : Sto) : Res Vl := match v, w with
  | .c n, .d (.int i) => match (st : List Cell)[n]? with
    | some (.lstc ns) => match atI ns i with
      | some m => .ok (.c m) st
      | none => .stuck
    | _ => ixM v w st
  | v, w => ixM v w st
theorem ixA_noerr : NoErr ixA := by
  intro v w st x st' h
  unfold ixA at h
  split at h
  · split at h
    · split at h <;> cases h
    · exact ixM_noerr _ _ _ _ _ h
  · exact ixM_noerr _ _ _ _ _ h
theorem atI_refs {g : Gh} {qs : List Addr} {ns : List Nat} {i : Int} {m : Nat} (h : Paired (fun q m => ∃ r, g.at_[m]? = some (q :: r)) qs ns) (e : atI ns i = some m) : ∃ q r, atI (qs.map V.ref) i = some (.ref q) ∧ g.at_[m]? = some (q :: r) := by
  unfold atI at e ⊢
  rw [List.length_map, paired_len h]
  cases hj : ixN ns.length i with
  | none => rw [hj] at e; cases e
  | some j =>
    rw [hj] at e
    have e : ns[j]? = some m := e
    have hjl := (List.getElem?_eq_some_iff.mp e).1
    have hq : j < qs.length := by rw [paired_len h]; exact hjl
    obtain ⟨b, hb, r, h2⟩ := paired_get h (i := j) (List.getElem?_eq_getElem hq)
    rw [hb] at e
    cases e
    refine ⟨qs[j], r, ?_, h2⟩
    show (qs.map V.ref)[j]? = _
    rw [List.getElem?_map, List.getElem?_eq_getElem hq]
    rfl
theorem ixrA : IxR X (rV X ixA) := by
  intro value slice pins s σ H x y v u Q I rx ry h hs0
  obtain ⟨g, st, a, b, R, ha, hb, q⟩ := h
  unfold ixA at q
  split at q
  · rename_i n i
    split at q
    · rename_i ns hn
      split at q
      · rename_i m hm
        obtain ⟨p, rest, h1, rfl⟩ := ha
        cases hb
        obtain ⟨p', qs, e, hp, hd⟩ := R.cells n _ _ h1 hn
        cases e
        obtain ⟨w, r, e1, e2⟩ := atI_refs hd hm
        exact ix_list value slice pins s σ H _ _ v u Q I rx ry ⟨p, _, i, _, rfl, rfl, SqL.of hp, e1, q _ _ _ (.refl g) R ⟨w, r, e2, rfl⟩⟩ hs0
      · exact q.elim
    · exact ixr value slice pins s σ H x y v u Q I rx ry ⟨g, st, _, _, R, ha, hb, q⟩ hs0
  · exact ixr value slice pins s σ H x y v u Q I rx ry ⟨g, st, _, _, R, ha, hb, q⟩ hs0
theorem je_ixA {a b : Expr} {pos : Pos} {ma mb : Rho → Sto → Res Vl} (hs : PlainIx b) (ha : JE X W a ma) (hb : JE X W b mb) : JE X W (.Subscript a b pos) (bi ma mb ixA) := je_ix ixA_noerr ixrA hs ha hb
/-! ### x[i] = e -/
def setF (o i v : Vl) (st : Sto) : Option Sto := match o, i, v with
  | .c n, .d (.int k), .d d => match (st : List Cell)[n]? with
    | some (.lst xs) => match ixN xs.length k with
      | some j => some (st.set n (.lst (xs.set j d)))
      | none => none
    | _ => none
  | _, _, _ => none
def tSetV (X : Cx) (f : Vl → Vl → Vl → Sto → Option Sto) : TSet := fun o i v H Q => ∃ g st a b c st', Rel X.K H g st ∧ ValR X.mg X.K g o a ∧ ValR X.mg X.K g i b ∧ ValR X.mg X.K g v c ∧ f a b c st = some st' ∧ ∀ H' g', g.le g' → Rel X.K H' g' st' → Q H'
theorem pset_cell : PSet X (tSetV X setF) := by
  intro pins s σ H o i v ov iv u Q I ro ri rv h
  obtain ⟨g, st, a, b, c, st', R, r1, r2, r3, e, q⟩ := h
  unfold setF at e
  split at e
  · rename_i n k d
    split at e
    · rename_i xs hx
      split at e
      · rename_i j hj
        cases e
        obtain ⟨p, rest, h1, rfl⟩ := r1
        cases r2
        obtain ⟨ws, hp, hd, hw⟩ := R.setL h1 hx
        exact set_list pins s σ H _ _ v ov iv u Q I ro ri rv ⟨p, ws, k, j, rfl, rfl, hp, by rw [dqAll_len hd]; exact hj, q _ g (.refl g) (hw _ _ (dqAll_set r3 j hd))⟩
      · cases e
    · cases e
  · cases e
def storeS (f : Vl → Vl → Vl → Sto → Option Sto) (m mo mi : Rho → Sto → Res Vl) (ρ : Rho) (st : Sto) : RS := (m ρ st).then ρ fun v st => (mo ρ st).then ρ fun o st => (mi ρ st).then ρ fun i st => match f o i v st with
  | some st' => .nx ρ st'
  | none => .stuck
theorem js_store {o i e : Expr} {p pos : Pos} {m mo mi : Rho → Sto → Res Vl} {f : Vl → Vl → Vl → Sto → Option Sto} (hf : PSet X (tSetV X f)) (he : JE X W e m) (ho : JE X W o mo) (hi : JE X W i mi)
    (ha : ∀ v, assign (.Subscript o i p) X.env v = (do let ov ← holding [v] (eval o X.env); let iv ← holding [v, ov] (eval i X.env); standAt p; holding [v, ov, iv] (setItem ov iv v); release [v, ov, iv] []))
    (hs : swapsWithSole [.Subscript o i p] e pos.line X.env = pure false) (hw : swappedStores [.Subscript o i p] e X.env = pure none) (h1 : (assignEach [.Subscript o i p] X.env).map (·.2) = [assign (.Subscript o i p) X.env]) :
    JS X W (.Assign [.Subscript o i p] e pos) (storeS f m mo mi) :=
  PS.imp (ps_asg he (pg_sub ho hi hf ha) hs hw h1) fun D σ H ⟨g, ρ, st, R, E, q⟩ => ⟨g, ρ, st, R, E, PostS.then E q fun x H1 v st1 g1 l1 R1 r1 q1 => ⟨g1, ρ, st1, R1, E.mono l1.1, PostS.then (E.mono l1.1) q1 fun y H2 o st2 g2 l2 R2 r2 q2 =>
    ⟨g2, ρ, st2, R2, E.mono (l1.trans l2).1, PostS.then (E.mono (l1.trans l2).1) q2 fun z H3 i st3 g3 l3 R3 r3 q3 => by
      split at q3
      · rename_i st' h
        exact ⟨g3, st3, o, i, v, st', R3, r2.mono l3.1, r3, r1.mono (l2.trans l3).1, h, fun H' g' l' R' => q3 σ H' g' l' R' (E.mono (l1.trans (l2.trans (l3.trans l'))).1)⟩
      · exact q3.elim⟩⟩⟩
/-! ### a op= b -/
def ipM (f : Int → Int → Option PyData) (v w : Vl) : Option PyData := match v, w with
  | .d (.int i), .d (.int j) => f i j
  | _, _ => none
def iAdd (i j : Int) : Option PyData := some (.int (i + j))
def iMul (i j : Int) : Option PyData := mulI i j
def iDiv (i j : Int) : Option PyData := if 0 < j ∧ j.natAbs.log2 < 9000 then some (.int (i / j)) else none
def tIpV (X : Cx) (f : Int → Int → Option PyData) : TIp := fun x y H Q => ∃ i j d, x = .int i ∧ y = .int j ∧ f i j = some d ∧ ∀ z, (∀ F, Dq X.K F z d) → Q z H
theorem pip_add : PIp X .Add (tIpV X iAdd) := by
  intro pins s σ H x y v u Q I r1 r2 h
  obtain ⟨i, j, d, rfl, rfl, e, q⟩ := h
  cases e
  exact ip_add pins s σ H _ _ v u Q I r1 r2 ⟨i, j, rfl, rfl, q _ fun _ => .int _⟩
theorem pip_mul : PIp X .Mult (tIpV X iMul) := by
  intro pins s σ H x y v u Q I r1 r2 h
  obtain ⟨i, j, d, rfl, rfl, e, q⟩ := h
  unfold iMul mulI at e
  split at e
  · rename_i hz
    cases e
    obtain ⟨t, rfl⟩ := r1
    obtain ⟨t', rfl⟩ := r2
    exact PySem.P.imul_int ⟨.int _, H, I.tok _, ⟨_, rfl⟩, q _ fun _ => .int _⟩ (mulOk hz)
  · cases e
theorem pip_div : PIp X .FloorDiv (tIpV X iDiv) := by
  intro pins s σ H x y v u Q I r1 r2 h
  obtain ⟨i, j, d, rfl, rfl, e, q⟩ := h
  unfold iDiv at e
  split at e
  · rename_i hz
    cases e
    obtain ⟨t, rfl⟩ := r1
    obtain ⟨t', rfl⟩ := r2
    have h1 : (0 : Int) < j := hz.1
    exact ifloordiv_int (by omega) (by rw [Int.fdiv_eq_ediv_of_nonneg i (by omega)]; exact ⟨.int _, H, I.tok _, ⟨_, rfl⟩, q _ fun _ => .int _⟩) (.inl (PyProof.noPylong_of_log2 hz.2))
  · cases e
def augS (k : Nat) (m : Rho → Sto → Res Vl) (f : Int → Int → Option PyData) (ρ : Rho) (st : Sto) : RS := match (ρ : List (Option Vl))[k]? with
  | some (some v) => (m ρ st).then ρ fun w st => match ipM f v w with
    | some d => .nx (ρ.set k (some (.d d))) st
    | none => .stuck
  | _ => .stuck
theorem ipM_cases {f : Int → Int → Option PyData} {v w : Vl} {d : PyData} (h : ipM f v w = some d) : ∃ i j, v = .d (.int i) ∧ w = .d (.int j) ∧ f i j = some d := by
  unfold ipM at h
  split at h
  · exact ⟨_, _, rfl, rfl, h⟩
  · cases h
theorem js_aug {k : Nat} {x : Str} {e : Expr} {op : Operator} {pos' pos : Pos} {m : Rho → Sto → Res Vl} {f : Int → Int → Option PyData} (hf : PIp X op (tIpV X f)) (hN : X.N.Nodup) (hi : X.N[k]? = some x) (hx : Loc X.env.scope x) (he : JE X W e m) (hfn : X.fn x = true ∨ X.env.scope.names.lookup x = some .local) :
    JS X W (.AugAssign (.Name x pos') op e pos) (augS k m f) :=
  PS.imp (ps_aug hN hi hx he hf hfn) fun D σ H ⟨g, ρ, st, R, E, q⟩ => by
    unfold augS at q
    split at q
    · rename_i v hv
      obtain ⟨u, hu, ru⟩ := E.2 k v hv
      exact ⟨u, hu, g, ρ, st, R, E, PostS.then E q fun y H1 w st1 g1 l1 R1 r1 q1 => by
        split at q1
        · rename_i d hd
          obtain ⟨i, j, rfl, rfl, e⟩ := ipM_cases hd
          cases ru
          cases r1
          exact ⟨i, j, d, rfl, rfl, e, fun z hz => q1 _ H1 g1 (.refl _) R1 (rho_set (v := .d d) (E.mono l1.1) (hz _) k)⟩
        · exact q1.elim⟩
    · exact q.elim
/-! ### x[i] op= e -/
def getF (o i : Vl) (st : Sto) : Option PyData := match o, i with
  | .c n, .d (.int k) => match (st : List Cell)[n]? with
    | some (.lst xs) => atI xs k
    | _ => none
  | _, _ => none
def tGetV (X : Cx) : V → V → Hp → VK → Prop := fun o i H Q => ∃ g st a b d, Rel X.K H g st ∧ ValR X.mg X.K g o a ∧ ValR X.mg X.K g i b ∧ getF a b st = some d ∧ ∀ u, Dq X.K g.F u d → Q u H
theorem pget_cell : PGet X (tGetV X) := by
  intro pins s σ H o i ov iv Q I ro ri h
  obtain ⟨g, st, a, b, d, R, r1, r2, e, q⟩ := h
  unfold getF at e
  split at e
  · rename_i n k
    split at e
    · rename_i xs hx
      obtain ⟨p, rest, h1, rfl⟩ := r1
      cases r2
      cases ro
      obtain ⟨t, rfl⟩ := ri
      obtain ⟨ws, hp, hd, _⟩ := R.setL h1 hx
      obtain ⟨w, hw, dw⟩ := atI_dq hd e
      obtain ⟨z, its, nn, rv, ho⟩ := I.hok p _ hp
      obtain ⟨j, k1, k2, k3, k4, k5⟩ := atI_get hw
      obtain ⟨y, ey, ry⟩ := rv.get k2
      have hl := rv.length
      have hn := line63
      have pl : s.heap.IsList p its.toArray := ⟨_, ho, rfl, _, rfl⟩
      have fin : EP X pins σ Q y s := ⟨w, H, I, ry, q w dw⟩
      by_cases h0 : 0 ≤ k
      · have hj : k.toNat = j := by
          rw [seqIndex_of h0 k5] at k1
          exact Option.some.inj k1
        exact wpAny_getItem_list pl h0 (by omega) (by rw [hj]; simpa using ey) fin
      · have hj : (k + (its.toArray.size : Int)).toNat = j := by
          rw [seqIndex_neg (by omega) k4] at k1
          rw [List.size_toArray, ← hl]
          exact Option.some.inj k1
        exact wpAny_getItem_list_neg pl (by omega) (by rw [List.size_toArray] <;> omega) (by omega) (by rw [hj]; simpa using ey) fin
    · cases e
  · cases e
def augIS (mo mi m : Rho → Sto → Res Vl) (f : Int → Int → Option PyData) (ρ : Rho) (st : Sto) : RS := (mo ρ st).then ρ fun o st => (mi ρ st).then ρ fun i st => match getF o i st with
  | some x => (m ρ st).then ρ fun y st => match ipM f (.d x) y with
    | some d => match setF o i (.d d) st with
      | some st' => .nx ρ st'
      | none => .stuck
    | none => .stuck
  | none => .stuck
theorem js_augI {o i e : Expr} {op : Operator} {tpos pos : Pos} {mo mi m : Rho → Sto → Res Vl} {f : Int → Int → Option PyData} (hf : PIp X op (tIpV X f)) (ho : JE X W o mo) (hi : JE X W i mi) (he : JE X W e m)
    (ha : ∀ ov iv new, augStore i ov iv new = (do holding [new, ov, iv] (setItem ov iv new); release [new, ov, iv] []; pure .next)) : JS X W (.AugAssign (.Subscript o i tpos) op e pos) (augIS mo mi m f) :=
  PS.imp (ps_augS ho hi pget_cell he hf pset_cell ha) fun D σ H ⟨g, ρ, st, R, E, q⟩ => ⟨g, ρ, st, R, E, PostS.then E q fun x1 H1 o st1 g1 l1 R1 r1 q1 => ⟨g1, ρ, st1, R1, E.mono l1.1, PostS.then (E.mono l1.1) q1 fun x2 H2 i st2 g2 l2 R2 r2 q2 => by
    have E2 := E.mono (l1.trans l2).1
    split at q2
    · rename_i x hx
      exact ⟨g2, st2, o, i, x, R2, r1.mono l2.1, r2, hx, fun u du => ⟨g2, ρ, st2, R2, E2, PostS.then E2 q2 fun x3 H3 y st3 g3 l3 R3 r3 q3 => by
        split at q3
        · rename_i d hd
          split at q3
          · rename_i st' hst
            obtain ⟨a, b, ea, eb, e⟩ := ipM_cases hd
            cases ea
            subst eb
            cases du
            cases r3
            exact ⟨a, b, d, rfl, rfl, e, fun z hz => ⟨g3, st3, o, i, .d d, st', R3, r1.mono (l2.trans l3).1, r2.mono l3.1, hz _, hst, fun H' g' l' R' => q3 σ H' g' l' R' (E2.mono (l3.trans l').1)⟩⟩
          · exact q3.elim
        · exact q3.elim⟩⟩
    · exact q2.elim⟩⟩
end
end M1

/-! part Q: functions -/
namespace M1
open PySem PySem.Spec L2
variable [LT]
theorem paired_impR {α β : Type} {F G : α → β → Prop} {l₁ : List α} {l₂ : List β} (h : Paired F l₁ l₂) (f : ∀ a b, b ∈ l₂ → F a b → G a b) : Paired G l₁ l₂ := by
  induction h with
  | nil => exact .nil
  | cons r t ih => exact .cons (f _ _ List.mem_cons_self r) (ih fun a b hb => f a b (List.mem_cons_of_mem _ hb))
section
variable {K : PySem.W.Frag} {mg : Str → Option Value} {H : Hp} {g : Gh} {st : Sto}
/-! ### what a def made for itself is forgotten -/
def Gh.cut (g : Gh) (n : Nat) (as : List (List Addr)) : Gh := { g with at_ := g.at_.take n ++ as }
theorem Rel.cut (R : Rel K H g st) (n : Nat) : Rel K H (g.cut n []) (st.take n) := by
  have hat : ∀ (m : Nat) (as : List Addr), (g.at_.take n ++ [])[m]? = some as → m < n ∧ g.at_[m]? = some as := fun m as h => by
    rw [List.append_nil, List.getElem?_take] at h
    split at h
    · rename_i hm; exact ⟨hm, h⟩
    · cases h
  have hst : ∀ (m : Nat) (c : Cell), (st.take n : List Cell)[m]? = some c → m < n ∧ (st : List Cell)[m]? = some c := fun m c h => by
    rw [List.getElem?_take] at h
    split at h
    · rename_i hm; exact ⟨hm, h⟩
    · cases h
  refine ⟨R.sub, fun m as c h1 h2 => R.apart m as c (hat m as h1).2 (hst m c h2).2, fun as ha => R.there as ?_, fun a b as bs c d h1 h2 h3 h4 => R.nd a b as bs c d (hat a as h1).2 (hat b bs h2).2 (hst a c h3).2 (hst b d h4).2, ?_, fun m ns h => R.closed m ns (hst m _ h).2, fun m cls fs h => R.closedO m cls fs (hst m _ h).2, fun m as c h1 h2 => ?_, fun q u hq => ?_, R.tabs, R.notbl⟩
  · rw [Gh.cut, List.append_nil] at ha
    exact List.mem_of_mem_take ha
  · show (g.at_.take n ++ []).length = (st.take n).length
    rw [List.append_nil, List.length_take, List.length_take, R.len]
  · obtain ⟨hm, h1⟩ := hat m as h1
    obtain ⟨_, h2⟩ := hst m c h2
    have hc := R.cells m as c h1 h2
    cases c with
    | dead => trivial
    | lst xs => exact hc
    | di xs => exact hc
    | dc xs => exact hc
    | ts xs => exact hc
    | slot => exact hc
    | ll xs => exact hc
    | dws xs => exact hc
    | ob cls fs =>
      obtain ⟨p, dx, C, qs, e, hC, hp, ho, hd⟩ := hc
      have cl := R.closedO m cls fs h2
      refine ⟨p, dx, C, qs, e, hC, hp, ho, paired_impR hd fun q f hf ⟨r', hr⟩ => ?_⟩
      have := cl f hf
      exact ⟨r', by show (g.at_.take n ++ [])[_]? = _; rw [List.append_nil, List.getElem?_take_of_lt (by omega)]; exact hr⟩
    | lstc ns =>
      obtain ⟨p, qs, e, hp, hd⟩ := hc
      have cl := R.closed m ns h2
      refine ⟨p, qs, e, hp, paired_impR hd fun q k hk ⟨r', hr⟩ => ?_⟩
      have := cl k hk
      exact ⟨r', by show (g.at_.take n ++ [])[_]? = _; rw [List.append_nil, List.getElem?_take_of_lt (by omega)]; exact hr⟩
  · obtain ⟨h1, h2, h3⟩ := R.aside q u hq
    refine ⟨h1, h2, fun as ha => h3.1 as ?_, h3.2⟩
    rw [Gh.cut, List.append_nil] at ha
    exact List.mem_of_mem_take ha
theorem cut_le {g g' : Gh} (l : g.le g') {n : Nat} (hn : g.at_.length ≤ n) (as : List (List Addr)) : g.le (g'.cut n as) := by
  refine ⟨⟨l.1.1, fun m p r h => ?_⟩, l.2⟩
  have hm := (List.getElem?_eq_some_iff.mp h).1
  obtain ⟨r', h'⟩ := l.1.2 m p r h
  have hm' := (List.getElem?_eq_some_iff.mp h').1
  refine ⟨r', ?_⟩
  show (g'.at_.take n ++ as)[m]? = _
  rw [List.getElem?_append_left (by rw [List.length_take]; omega), List.getElem?_take_of_lt (by omega)]
  exact h'
/-- one new list is handed out -/
theorem Rel.cut1 (R : Rel K H g st) {n m : Nat} (hnm : n ≤ m) {as : List Addr} {xs : List PyData} (h1 : g.at_[m]? = some as) (h2 : (st : List Cell)[m]? = some (.lst xs)) : Rel K H (g.cut n [as]) (st.take n ++ [.lst xs]) := by
  have R0 := R.cut n
  have hl := R.len
  have hml := (List.getElem?_eq_some_iff.mp h2).1
  have e1 : (g.at_.take n).length = n := by rw [List.length_take]; omega
  have e2 : (st.take n).length = n := by rw [List.length_take]; omega
  have old : ∀ (a : Nat) (bs : List Addr) (d : Cell), (g.at_.take n ++ [as])[a]? = some bs → ((st.take n : List Cell) ++ [.lst xs])[a]? = some d → (a < n ∧ (g.at_.take n ++ [])[a]? = some bs ∧ (st.take n : List Cell)[a]? = some d) ∨ (a = n ∧ bs = as ∧ d = .lst xs) := fun a bs d h3 h4 => by
    by_cases ha : a < n
    · rw [List.getElem?_append_left (by omega)] at h3 h4
      exact .inl ⟨ha, by rw [List.append_nil]; exact h3, h4⟩
    · rw [List.getElem?_append_right (by omega), e1] at h3
      rw [List.getElem?_append_right (by omega), e2] at h4
      have hz : a - n = 0 := by
        have := (List.getElem?_eq_some_iff.mp h3).1
        simp at this
        omega
      rw [hz] at h3 h4
      cases h3
      cases h4
      exact .inr ⟨by omega, rfl, rfl⟩
  have toO : ∀ (a : Nat) (bs : List Addr) (d : Cell), (g.at_.take n ++ [as])[a]? = some bs → ((st.take n : List Cell) ++ [.lst xs])[a]? = some d → ∃ b, g.at_[b]? = some bs ∧ (st : List Cell)[b]? = some d ∧ (a < n → b = a) ∧ (n ≤ a → b = m) := fun a bs d h3 h4 => by
    rcases old a bs d h3 h4 with ⟨ha, h5, h6⟩ | ⟨rfl, rfl, rfl⟩
    · rw [List.append_nil, List.getElem?_take_of_lt ha] at h5
      rw [List.getElem?_take_of_lt ha] at h6
      exact ⟨a, h5, h6, fun _ => rfl, fun h => by omega⟩
    · exact ⟨m, h1, h2, fun h => by omega, fun _ => rfl⟩
  refine ⟨R.sub, fun a bs c h3 h4 h5 => ?_, fun bs hb => R.there bs ?_, fun a b as' bs c d h3 h4 h5 h6 h7 h8 h9 => ?_, ?_, fun a ns h k hk => ?_, fun a cls fs h f hf => ?_, fun a bs c h3 h4 => ?_, fun q u hq => ?_, R.tabs, R.notbl⟩
  · obtain ⟨b, k1, k2, _⟩ := toO a bs c h3 h4
    exact R.apart b bs c k1 k2 h5
  · rcases List.mem_append.mp hb with h | h
    · exact List.mem_of_mem_take h
    · rw [List.mem_singleton] at h
      rw [h]
      exact List.mem_of_getElem? h1
  · have l3 : a < (g.at_.take n ++ [as]).length := (List.getElem?_eq_some_iff.mp h3).1
    have l4 : b < (g.at_.take n ++ [as]).length := (List.getElem?_eq_some_iff.mp h4).1
    rw [List.length_append, e1, List.length_singleton] at l3 l4
    obtain ⟨a', k1, k2, k3, k4⟩ := toO a as' c h3 h5
    obtain ⟨b', k5, k6, k7, k8⟩ := toO b bs d h4 h6
    refine R.nd a' b' as' bs c d k1 k5 k2 k6 h7 h8 fun e => h9 ?_
    by_cases ha : a < n
    · by_cases hb : b < n
      · have := k3 ha; have := k7 hb; omega
      · have := k3 ha; have := k8 (by omega); omega
    · by_cases hb : b < n
      · have := k4 (by omega); have := k7 hb; omega
      · omega
  · show (g.at_.take n ++ [as]).length = (st.take n ++ [Cell.lst xs]).length
    rw [List.length_append, List.length_append, e1, e2]
    rfl
  · by_cases ha : a < n
    · rw [List.getElem?_append_left (by omega)] at h
      exact R0.closed a ns h k hk
    · rw [List.getElem?_append_right (by omega), e2] at h
      have hz : a - n = 0 := by
        have := (List.getElem?_eq_some_iff.mp h).1
        simp at this
        omega
      rw [hz] at h
      cases h
  · by_cases ha : a < n
    · rw [List.getElem?_append_left (by omega)] at h
      exact R0.closedO a cls fs h f hf
    · rw [List.getElem?_append_right (by omega), e2] at h
      have hz : a - n = 0 := by
        have := (List.getElem?_eq_some_iff.mp h).1
        simp at this
        omega
      rw [hz] at h
      cases h
  · rcases old a bs c h3 h4 with ⟨ha, h5, h6⟩ | ⟨rfl, rfl, rfl⟩
    · have l0 : (g.cut n []).le0 (g.cut n [as]) := ⟨Same.refl _, fun b p r h => ⟨r, by
        have h : (g.at_.take n ++ [])[b]? = some (p :: r) := h
        rw [List.append_nil] at h
        show (g.at_.take n ++ [as])[b]? = _
        rw [List.getElem?_append_left (List.getElem?_eq_some_iff.mp h).1]
        exact h⟩⟩
      exact CellR.mono l0 (fun _ _ => rfl) (R0.cells a bs c h5 h6)
    · obtain ⟨p, vs, e, hp, hd⟩ := R.cells m _ _ h1 h2
      exact ⟨p, vs, e, hp, hd⟩
  · obtain ⟨k1, k2, k3⟩ := R.aside q u hq
    refine ⟨k1, k2, fun bs hb => k3.1 bs ?_, k3.2⟩
    rcases List.mem_append.mp hb with h | h
    · exact List.mem_of_mem_take h
    · rw [List.mem_singleton] at h
      rw [h]
      exact List.mem_of_getElem? h1
end
/-! ### what a def computes -/
def cutR (n : Nat) (v : Vl) (st : Sto) : Res Vl := match v with
  | .c m => if m < n then .ok (.c m) (st.take n) else match (st : List Cell)[m]? with
    | some (.lst xs) => .ok (.c n) (st.take n ++ [.lst xs])
    | _ => .stuck
  | .f => .stuck
  | v => .ok v (st.take n)
def endF (n : Nat) (r : RS) : Res Vl := match r with
  | .nx _ st => .ok (.d .none) (st.take n)
  | .ret v st => cutR n v st
  | .err x _ st => .err x (st.take n)
  | _ => .stuck
def rho0 (n : Nat) (as : List Vl) : Rho := as.map some ++ List.replicate (n - as.length) none
def bodyF (n : Nat) (m : Rho → Sto → RS) (as : List Vl) (st : Sto) : Res Vl := endF st.length (m (rho0 n as) st)
abbrev FV := List Vl → Sto → Res Vl
def PostC (K : PySem.W.Frag) (mg : Str → Option Value) (g : Gh) (Q : VK) (E : XK) : Res Vl → Prop
  | .stuck => False
  | .ok v st => ∀ u H g', g.le g' → Rel K H g' st → ValR mg K g' u v → Q u H
  | .err x st => ∀ cls dd H g', g.le g' → Rel K H g' st → ExnR mg K g'.F cls dd x → E cls dd H
def spF (K : PySem.W.Frag) (mg : Str → Option Value) (n : Nat) (F : FV) : Sp := fun vs H Q E => vs.length = n ∧ ∃ g st as, Rel K H g st ∧ ValsR mg K g vs as ∧ PostC K mg g Q E (F as st)
theorem valsR_len {mg : Str → Option Value} {K : PySem.W.Frag} {g : Gh} : ∀ {us : List V} {vs : List Vl}, ValsR mg K g us vs → us.length = vs.length
  | [], [], _ => rfl
  | _ :: _, _ :: _, h => by rw [List.length_cons, List.length_cons, valsR_len h.2]
  | [], _ :: _, h => h.elim
  | _ :: _, [], h => h.elim
theorem valsR_get {mg : Str → Option Value} {K : PySem.W.Frag} {g : Gh} : ∀ {us : List V} {vs : List Vl} {i : Nat} {v : Vl}, ValsR mg K g us vs → vs[i]? = some v → ∃ u, us[i]? = some u ∧ ValR mg K g u v
  | [], [], _, _, _, e => by simp at e
  | u :: _, _ :: _, 0, _, h, e => by cases e; exact ⟨u, rfl, h.1⟩
  | _ :: _, _ :: _, i + 1, _, h, e => valsR_get (i := i) h.2 (by simpa using e)
  | [], _ :: _, _, _, h, _ => h.elim
  | _ :: _, [], _, _, h, _ => h.elim
theorem rho_start {mg : Str → Option Value} {K : PySem.W.Frag} {g : Gh} {N : List Str} {us : List V} {vs : List Vl} (h : ValsR mg K g us vs) : RhoR mg K g (L2.start N us) (rho0 N.length vs) := by
  have hl := valsR_len h
  refine ⟨by unfold rho0 L2.start; simp [hl], fun i v e => ?_⟩
  unfold rho0 at e
  by_cases hi : i < vs.length
  · rw [List.getElem?_append_left (by simpa using hi), List.getElem?_map] at e
    cases hv : vs[i]? with
    | none => rw [hv] at e; cases e
    | some w =>
      rw [hv] at e
      cases e
      obtain ⟨u, hu, ru⟩ := valsR_get h hv
      refine ⟨u, ?_, ru⟩
      unfold L2.start
      rw [List.getElem?_append_left (by rw [List.length_map]; omega), List.getElem?_map, hu]
      rfl
  · rw [List.getElem?_append_right (by simpa using hi), List.getElem?_replicate] at e
    split at e <;> cases e
theorem post_end {X : Cx} {g : Gh} {Q : VK} {E : XK} {n : Nat} (hn : g.at_.length = n) {r : RS} (h : PostC X.K X.mg g Q E (endF n r)) : PostS X (fun cls d _ H => E cls d H) g { nx := fun _ H' => Q .non H', rt := Q } r := by
  cases r with
  | stuck => exact h
  | bk => exact h.elim
  | ct => exact h.elim
  | nx ρ st => exact fun σ H g' l R _ => h .non H (g'.cut n []) (cut_le l (Nat.le_of_eq hn) _) (R.cut n) .non
  | err x ρ st => exact fun cls dd σ H g' l R _ e => h cls dd H (g'.cut n []) (cut_le l (Nat.le_of_eq hn) _) (R.cut n) e
  | ret v st =>
    intro u H g' l R r
    replace h : PostC X.K X.mg g Q E (cutR n v st) := h
    unfold cutR at h
    split at h
    · rename_i m
      obtain ⟨p, rest, h1, rfl⟩ := r
      split at h
      · rename_i hm
        refine h _ H (g'.cut n []) (cut_le l (Nat.le_of_eq hn) _) (R.cut n) ⟨p, rest, ?_, rfl⟩
        show (g'.at_.take n ++ [])[m]? = _
        rw [List.append_nil, List.getElem?_take_of_lt hm]
        exact h1
      · rename_i hm
        split at h
        · rename_i xs hx
          refine h _ H (g'.cut n [p :: rest]) (cut_le l (Nat.le_of_eq hn) _) (R.cut1 (by omega) h1 hx) ⟨p, rest, ?_, rfl⟩
          have hml := (List.getElem?_eq_some_iff.mp h1).1
          show (g'.at_.take n ++ [p :: rest])[n]? = _
          have e1 : (g'.at_.take n).length = n := by rw [List.length_take]; omega
          rw [List.getElem?_append_right (by omega), e1, Nat.sub_self]
          rfl
        · exact h.elim
    · exact h.elim
    · rename_i hv hvf
      have r2 : ValR X.mg X.K (g'.cut n []) u v := by
        cases v with
        | c m => exact absurd rfl (hv m)
        | d d => exact r
        | x x => exact r
        | s s => exact r
        | p ds => exact r
        | f => exact absurd rfl hvf
        | fd _ => exact r
        | pd _ _ => exact r
      exact h u H (g'.cut n []) (cut_le l (Nat.le_of_eq hn) _) (R.cut n) r2
section
variable {P : Program} {w : World} {K : PySem.W.Frag} {mg : Str → Option Value} {base : Heap}
/-- a def as what it computes -/
def FnV (P : Program) (w : World) (K : PySem.W.Frag) (mg : Str → Option Value) (base : Heap) (k : Nat) (f : Addr) (fd : FuncData) (ps : List Str) (F : FV) : Prop := FnOk P w K mg base (L2.CX P w) k f fd ps (spF K mg ps.length F)
theorem fn_ok {x qual : Str} {st : Stmt} {f : Addr} {fd : FuncData} {N ps : List Str} {k : Nat} {m : Rho → Sto → RS} (F : Fun K x qual st f fd) (S : FnScope N ps (defScope st))
    (hb : ∀ (cdv : Value) (A : Around) (outer : List Env) (s : Shared) (H : Hp) (E : XK), Room k (cxOf (L2.CX P w) P w K mg base N qual (defScope st) f cdv A outer s H E).A →
      Takes (cxOf (L2.CX P w) P w K mg base N qual (defScope st) f cdv A outer s H E) (fun cls d _ H => E cls d H) →
      JSs (cxOf (L2.CX P w) P w K mg base N qual (defScope st) f cdv A outer s H E) (fun cls d _ H => E cls d H) (defBody st) m) :
    FnV P w K mg base (k + 1) f fd ps (bodyF N.length m) := by
  refine okG F S (fun _ _ _ _ h => h.1) fun cdv A outer s H vs Q E hr h => ⟨_, hb cdv A outer s H E hr (takes_of rfl rfl rfl rfl), ?_⟩
  obtain ⟨_, g, st', as, R, r, q⟩ := h
  exact ⟨g, rho0 N.length as, st', R, rho_start r, post_end (X := cxOf (L2.CX P w) P w K mg base N qual (defScope st) f cdv A outer s H E) R.len q⟩
end
section
variable {X : Cx} {W : WX}
def callM (F : FV) (ms : Rho → Sto → Res (List Vl)) (ρ : Rho) (st : Sto) : Res Vl := (ms ρ st).bind fun vs st => F vs st
/-- a def of the text, found by its name -/
structure Own (X : Cx) (x : Str) (k : Nat) (ps : List Str) (F : FV) : Prop where
  ex : ∃ f fd, FnV X.prog X.w X.K X.mg X.base k f fd ps F ∧ X.mg x = some (.ref f) ∧ PySem.W.keepIn X.K (.ref f) = true ∧ Binds X.K fd ps []
end
end M1

/-! part R: frozen values, lists of new lists -/
namespace M1
open PySem PySem.Spec L2
variable [LT]
section
variable {X : Cx} {W : WX}
/-! ### [list for ..]: each a new cell, in a new cell -/
def compC (gd : Gd) (t : Tg) (c : Rho → Sto → Res Bool) (el : Rho → Sto → Res (List PyData)) (ρ : Rho) : List Vl → Sto → Res (List Nat)
  | [], st => if gdOk gd st = true then .ok [] st else .stuck
  | w :: ws, st => if gdOk gd st = true then match setT t w ρ with
      | some ρ1 => (quiet (c ρ1 st)).bind fun b st => if b = true then (quiet (el ρ1 st)).bind fun ds st => (compC gd t c el ρ ws (st ++ [.lst ds])).bind fun ns st' => .ok (st.length :: ns) st'
          else compC gd t c el ρ ws st
      | none => .stuck
    else .stuck
def compCM (mi : Rho → Sto → Res (List Vl × Gd)) (t : Tg) (own : List Nat) (c : Rho → Sto → Res Bool) (el : Rho → Sto → Res (List PyData)) (ρ : Rho) (st : Sto) : Res Vl :=
  (mi ρ st).bind fun a st => if a.1.length < 1000000 then (compC a.2 t c el (wipeR ρ own) a.1 st).bind fun ns st => .ok (.c st.length) (st ++ [.lstc ns]) else .stuck
theorem compC_cons {gd : Gd} {t : Tg} {c : Rho → Sto → Res Bool} {el : Rho → Sto → Res (List PyData)} {ρ : Rho} {w : Vl} {ws : List Vl} {st st' : Sto} {ds : List Nat} (h : compC gd t c el ρ (w :: ws) st = .ok ds st') :
    gdOk gd st = true ∧ ∃ ρ1 b st1, setT t w ρ = some ρ1 ∧ c ρ1 st = .ok b st1 ∧
      ((b = false ∧ compC gd t c el ρ ws st1 = .ok ds st') ∨ (b = true ∧ ∃ d st2 ds', el ρ1 st1 = .ok d st2 ∧ compC gd t c el ρ ws (st2 ++ [.lst d]) = .ok ds' st' ∧ ds = st2.length :: ds')) := by
  unfold compC at h
  split at h
  · rename_i hg
    split at h
    · rename_i ρ1 hs
      refine ⟨hg, ρ1, ?_⟩
      cases hc : M1.quiet (c ρ1 st) with
      | stuck => rw [hc] at h; cases h
      | err => rw [hc] at h; cases h
      | ok b st1 =>
        rw [hc, Res.bind_ok] at h
        refine ⟨b, st1, hs, quiet_ok hc, ?_⟩
        cases b with
        | false =>
          rw [if_neg Bool.false_ne_true] at h
          exact .inl ⟨rfl, h⟩
        | true =>
          rw [if_pos rfl] at h
          cases he : M1.quiet (el ρ1 st1) with
          | stuck => rw [he] at h; cases h
          | err => rw [he] at h; cases h
          | ok v st2 =>
            rw [he, Res.bind_ok] at h
            cases hr : compC gd t c el ρ ws (st2 ++ [.lst v]) with
            | stuck => simp only [hr] at h; cases h
            | err => simp only [hr] at h; cases h
            | ok r st3 =>
              simp only [hr, Res.bind_ok] at h
              cases h
              exact .inr ⟨rfl, v, st2, r, quiet_ok he, hr, rfl⟩
    · cases h
  · cases h
theorem compC_noerr (gd : Gd) (t : Tg) (c : Rho → Sto → Res Bool) (el : Rho → Sto → Res (List PyData)) (ρ : Rho) : ∀ (ws : List Vl) (st : Sto) (x : Exn) (st' : Sto), compC gd t c el ρ ws st ≠ .err x st'
  | [], st, x, st' => fun h => by unfold compC at h; split at h <;> cases h
  | w :: ws, st, x, st' => fun h => by
    unfold compC at h
    split at h
    · split at h
      · rename_i ρ1 hs
        cases hc : M1.quiet (c ρ1 st) with
        | stuck => rw [hc] at h; cases h
        | err => revert hc; cases c ρ1 st <;> intro hc <;> cases hc
        | ok b st1 =>
          rw [hc, Res.bind_ok] at h
          cases b with
          | false =>
            rw [if_neg Bool.false_ne_true] at h
            exact compC_noerr gd t c el ρ ws st1 x st' h
          | true =>
            rw [if_pos rfl] at h
            cases he : M1.quiet (el ρ1 st1) with
            | stuck => rw [he] at h; cases h
            | err => revert he; cases el ρ1 st1 <;> intro he <;> cases he
            | ok v st2 =>
              rw [he, Res.bind_ok] at h
              cases hr : compC gd t c el ρ ws (st2 ++ [.lst v]) with
              | stuck => simp only [hr] at h; cases h
              | err => exact compC_noerr gd t c el ρ ws _ _ _ hr
              | ok r st3 => simp only [hr, Res.bind_ok] at h; cases h
      · cases h
    · cases h
theorem paired_app {α β : Type} {F : α → β → Prop} {l₁ : List α} {l₂ : List β} (h : Paired F l₁ l₂) {a : α} {b : β} (r : F a b) : Paired F (l₁ ++ [a]) (l₂ ++ [b]) := by
  induction h with
  | nil => exact .cons r .nil
  | cons q t ih => exact .cons q ih
theorem at_new {g : Gh} {p : Addr} {n : Nat} (h : g.at_.length = n) : (g.at_ ++ [[p]])[n]? = some [p] := by
  rw [List.getElem?_append_right (by omega), h, Nat.sub_self]
  rfl
theorem compC_read {mi : Rho → Sto → Res (List Vl × Gd)} {t : Tg} {own : List Nat} {c : Rho → Sto → Res Bool} {el : Rho → Sto → Res (List PyData)} (ho : ∀ i ∈ t.slots, i ∈ own) {σ : St} {H : Hp} {Q : VK} (h : tD X W (compCM mi t own c el) σ H Q) :
    tLc (tDI X W mi) (tGp X t) (tDT X W0 c) (tF X W0 el) own σ H Q := by
  obtain ⟨g, ρ, st, R, E, q⟩ := h
  refine ⟨g, ρ, st, R, E, PostE.step q fun J H1 a st1 g1 l1 R1 it q1 => ?_⟩
  obtain ⟨items, gd⟩ := a
  split at q1
  · rename_i hlen
    have hlen : items.length < 1000000 := hlen
    cases hr : compC gd t c el (wipeR ρ own) items st1 with
    | stuck => rw [hr] at q1; exact q1.elim
    | err => exact absurd hr (compC_noerr _ _ _ _ _ _ _ _ _)
    | ok ds stE =>
      rw [hr] at q1
      intro D hD
      have hpv : g1.pv D = none := by
        cases hz : g1.pv D with
        | none => rfl
        | some u =>
          have := (R1.aside D u hz).1
          rw [hD] at this
          cases this
      refine ⟨fun i m H' => i + m = items.length ∧ ∃ g' st' qs acc rest, g1.le0 g' ∧ g'.pv = upd g1.pv D (.lst (qs.map V.ref)) ∧ Rel X.K H' g' st' ∧ Paired (fun q m => ∃ r, g'.at_[m]? = some (q :: r)) qs acc ∧ (∀ k ∈ acc, k < st'.length) ∧ acc.length ≤ i ∧ compC gd t c el (wipeR ρ own) (items.drop i) st' = .ok rest stE ∧ acc ++ rest = ds,
        ⟨items.length, by omega, { g1 with pv := upd g1.pv D (.lst []) }, st1, [], [], ds, ⟨Same.refl _, fun _ _ r h => ⟨r, h⟩⟩, rfl, R1.pvNew hD _, .nil, (fun k h => absurd h List.not_mem_nil), Nat.le_refl _, hr, rfl⟩, ?_⟩
      rintro i m H' ⟨him, g', st', qs, acc, rest, l', hp', R', da, hk, hal, hrest, hsum⟩
      cases hd : items.drop i with
      | nil =>
        rw [hd] at hrest
        unfold compC at hrest
        split at hrest
        · rename_i hgd
          cases hrest
          have hl0 : items.length ≤ i := List.drop_eq_nil_iff.mp hd
          have hl : i = items.length := by omega
          refine .inl ⟨(it i H' g' _ l' R' hgd).2 hl, ?_⟩
          obtain ⟨H0, h0, e0, R0⟩ := R'.pvEnd hp' hpv
          rw [e0]
          rw [List.append_nil] at hsum
          subst hsum
          obtain ⟨R2, l2⟩ := R0.cellC h0 (vs := qs.map V.ref) (c := .lstc acc) ⟨D, qs, rfl, upd_same, da⟩ (fun ns e k hm => by cases e; exact hk k hm)
          have l0 : g1.le { g' with pv := g1.pv } := ⟨⟨l'.1, l'.2⟩, rfl⟩
          exact q1 _ _ _ (l0.trans l2) R2 ⟨D, [], at_new R0.len, rfl⟩
        · cases hrest
      | cons w ws =>
        obtain ⟨hw, hws, hlt⟩ := drop_get hd
        rw [hd] at hrest
        obtain ⟨hgd, ρ1, b, st2, hs, hc, hb⟩ := compC_cons hrest
        obtain ⟨hgo, hy⟩ := (it i H' g' st' l' R' hgd).1 hlt
        refine .inr ⟨hgo, fun H2 => i + 1 + (m - 1) = items.length ∧ ∃ g' st' qs acc rest, g1.le0 g' ∧ g'.pv = upd g1.pv D (.lst (qs.map V.ref)) ∧ Rel X.K H2 g' st' ∧ Paired (fun q m => ∃ r, g'.at_[m]? = some (q :: r)) qs acc ∧ (∀ k ∈ acc, k < st'.length) ∧ acc.length ≤ i + 1 ∧ compC gd t c el (wipeR ρ own) (items.drop (i + 1)) st' = .ok rest stE ∧ acc ++ rest = ds, fun H2 n => ⟨m - 1, by omega, n⟩, fun x H2 hx => ?_⟩
        obtain ⟨g2, w', l2, R2, ew, rw'⟩ := hy x H2 hx
        rw [hw] at ew
        cases ew
        have Ew : RhoR X.mg X.K g2 (wipe σ own) (wipeR ρ own) := wipe_rho (E.mono (l1.1.trans (l'.trans l2.1))) own
        refine ⟨g2, wipeR ρ own, st', w, ρ1, R2, Ew, rw', hs, fun σ3 E3 k3 => ⟨wipe_idem k3 ho, g2, ρ1, st', R2, E3, ?_⟩⟩
        rw [hc]
        intro u H3 g3 l3 R3 eu
        subst eu
        have up : ∀ {ga gb : Gh}, ga.le0 gb → ∀ {qs : List Addr} {acc : List Nat}, Paired (fun q m => ∃ r, ga.at_[m]? = some (q :: r)) qs acc → Paired (fun q m => ∃ r, gb.at_[m]? = some (q :: r)) qs acc := fun l qs acc h => paired_imp h fun q m _ ⟨r, h⟩ => l.2 m q r h
        -- cells are never fewer
        have more : ∀ {ga gb : Gh} {Ha Hb : Hp} {sa sb : Sto}, ga.le0 gb → Rel X.K Ha ga sa → Rel X.K Hb gb sb → ∀ {qs : List Addr} {acc : List Nat}, Paired (fun q m => ∃ r, ga.at_[m]? = some (q :: r)) qs acc → ∀ k ∈ acc, k < sb.length := fun {ga gb Ha Hb sa sb} l Ra Rb {qs acc} h k hk => by
          have h2 := up l h
          clear h
          induction h2 with
          | nil => cases hk
          | cons r t ih =>
            rcases List.mem_cons.mp hk with e | e
            · subst e
              obtain ⟨r', hr⟩ := r
              have := (List.getElem?_eq_some_iff.mp hr).1
              rw [Rb.len] at this
              exact this
            · exact ih e
        rcases hb with ⟨rfl, hrec⟩ | ⟨rfl, d, st4, ds', hel, hrec, hds⟩
        · rw [if_neg Bool.false_ne_true]
          refine ⟨by omega, g3, st2, qs, acc, rest, l'.trans (l2.1.trans l3.1), l3.2.trans (l2.2.trans hp'), R3, up (l2.1.trans l3.1) da, more (l2.1.trans l3.1) R' R3 da, by omega, ?_, hsum⟩
          rw [← hws]
          exact hrec
        · rw [if_pos rfl]
          refine ⟨g3, ρ1, st2, R3, E3.mono l3.1, ?_⟩
          rw [hel]
          intro H4 g4 l4 R4 vs dv p hp
          have hpv4 : g4.pv = upd g1.pv D (.lst (qs.map V.ref)) := l4.2.trans (l3.2.trans (l2.2.trans hp'))
          have hpD : g4.pv D = some (.lst (qs.map V.ref)) := by rw [hpv4, upd_same]
          obtain ⟨R5, l5⟩ := R4.cell hp dv
          have l25 := l2.1.trans (l3.1.trans (l4.1.trans l5.1))
          have da5 := up l25 da
          have n5 : (g4.at_ ++ [[p]])[st4.length]? = some [p] := at_new R4.len
          have hqa : qs.length = acc.length := paired_len da
          have hD5 : ({ g4 with at_ := g4.at_ ++ [[p]] } : Gh).pv D = some (.lst (qs.map V.ref)) := hpD
          refine ⟨qs.map V.ref, (R5.aside D _ hD5).1, mil_line (by rw [List.length_map]; omega), by omega, { ({ g4 with at_ := g4.at_ ++ [[p]] } : Gh) with pv := upd g1.pv D (.lst ((qs ++ [p]).map V.ref)) }, st4 ++ [.lst d], qs ++ [p], acc ++ [st4.length], ds', l'.trans l25, rfl, ?_, paired_app da5 ⟨[], n5⟩, ?_, by rw [List.length_append, List.length_singleton]; omega, ?_, ?_⟩
          · have e : qs.map V.ref ++ [V.ref p] = (qs ++ [p]).map V.ref := by rw [List.map_append]; rfl
            rw [e]
            exact R5.pvSet hD5 _ _ (by show upd g4.pv D _ = _; rw [hpv4, upd_upd])
          · intro k hk'
            rw [List.length_append, List.length_singleton]
            rcases List.mem_append.mp hk' with h | h
            · have := more (l2.1.trans (l3.1.trans l4.1)) R' R4 da k h
              omega
            · rw [List.mem_singleton] at h
              omega
          · rw [← hws]
            exact hrec
          · rw [List.append_assoc, List.singleton_append, ← hds]
            exact hsum
  · exact q1.elim
theorem je_lcC {elt tg iter : Expr} {ifs : List Expr} {scope : Scope} {own : List (Str × Nat)} {pos : Pos} {mi : Rho → Sto → Res (List Vl × Gd)} {t : Tg} {c : Rho → Sto → Res Bool} {el : Rho → Sto → Res (List PyData)} (hc : X.calm = true) (hN : X.N.Nodup) (hi : JI X W tg iter mi) (ok : BlkOk X.N X.env.scope scope own)
    (hg : ∀ (s : Shared) (H : Hp) (C : Addr) (cl : List (Str × Addr)) (fp : List Addr), JG (X.blk s H scope (compEnvC scope cl C X.env) fp) tg t) (ht : ∀ (s : Shared) (H : Hp) (C : Addr) (cl : List (Str × Addr)) (fp : List Addr), JTs (X.blk s H scope (compEnvC scope cl C X.env) fp) W0 ifs c)
    (he : ∀ (s : Shared) (H : Hp) (C : Addr) (cl : List (Str × Addr)) (fp : List Addr), JF (X.blk s H scope (compEnvC scope cl C X.env) fp) W0 elt el) (hs : ∀ x, foldedSetIterable iter X.env x = pure x) (ho : ∀ i ∈ t.slots, i ∈ own.map (·.2)) :
    JE X W (.ListComp elt [⟨tg, iter, ifs, 0⟩] scope pos) (compCM mi t (own.map (·.2)) c el) :=
  PE.imp (pe_lc (g := tGp X t) (tt := tDT X W0 c) (te := tF X W0 el) hc hN hi ok hg ht he hs) fun _ _ _ h => compC_read ho h
end
end M1

/-! part S: the rules in short, isinstance, the text's defs -/
namespace M1
open PySem PySem.Spec L2
variable [LT]
abbrev Dn := Rho → Sto → Res Vl
abbrev Dl := Rho → Sto → Res (List Vl)
section
variable {X : Cx} {W : WX} {k : Nat} {a b c e : Expr} {es : List Expr} {p pos : Pos} {ma mb mc m : Dn} {ms : Dl}
/-! ### operators -/
theorem je_add (ha : JE X W a ma) (hb : JE X W b mb) : JE X W (.BinOp a .Add b pos) (bi ma mb (lift2 addD)) := je_bin (lift2_noerr _) or_add ha hb
theorem je_sub (ha : JE X W a ma) (hb : JE X W b mb) : JE X W (.BinOp a .Sub b pos) (bi ma mb (lift2 subD)) := je_bin (lift2_noerr _) or_sub ha hb
theorem je_mod (ha : JE X W a ma) (hb : JE X W b mb) : JE X W (.BinOp a .Mod b pos) (bi ma mb (lift2 modD)) := je_bin (lift2_noerr _) or_mod ha hb
theorem je_fdiv (ha : JE X W a ma) (hb : JE X W b mb) : JE X W (.BinOp a .FloorDiv b pos) (bi ma mb (lift2 divD)) := je_bin (lift2_noerr _) or_div ha hb
theorem je_pow (ha : JE X W a ma) (hb : JE X W b mb) : JE X W (.BinOp a .Pow b pos) (bi ma mb (lift2 powD)) := je_bin (lift2_noerr _) or_pow ha hb
/-! ### comparisons -/
def ltD : PyData → PyData → Option PyData := cmpD fun i j => decide (i < j)
def gtD : PyData → PyData → Option PyData := cmpD fun i j => decide (j < i)
def leD : PyData → PyData → Option PyData := cmpD fun i j => decide (i ≤ j)
def geD : PyData → PyData → Option PyData := cmpD fun i j => decide (j ≤ i)
/-- a comparison by values -/
structure CmpV (X : Cx) (op : CmpOp) (f : Vl → Vl → Sto → Res Vl) : Prop where
  ne : NoErr f
  op : OpR X (compareOp op) (rV X f)
theorem cv_lt : CmpV X .Lt (lift2 ltD) := ⟨lift2_noerr _, or_int op_lt⟩
theorem cv_gt : CmpV X .Gt (lift2 gtD) := ⟨lift2_noerr _, or_int op_gt⟩
theorem cv_le : CmpV X .LtE (lift2 leD) := ⟨lift2_noerr _, or_int op_le⟩
theorem cv_ge : CmpV X .GtE (lift2 geD) := ⟨lift2_noerr _, or_int op_ge⟩
theorem cv_eq (hr : Room k X.A) : CmpV X .Eq (lift2 eqD) := ⟨lift2_noerr _, or_eq hr.units⟩
theorem cv_ne (hr : Room k X.A) : CmpV X .NotEq (lift2 neD) := ⟨lift2_noerr _, or_ne hr.units⟩
theorem units65 {A : Around} (hr : Room k A) : A.units + 65 < cLine := by have := hr.un; omega
theorem cv_in (hr : Room k X.A) : CmpV X .In (lift2 (inD false)) := ⟨lift2_noerr _, or_in (units65 hr)⟩
theorem cv_nin (hr : Room k X.A) : CmpV X .NotIn (lift2 (inD true)) := ⟨lift2_noerr _, or_notin (units65 hr)⟩
theorem cv_is : CmpV X .Is (isM false) := ⟨isM_noerr _, or_is⟩
theorem cv_isnt : CmpV X .IsNot (isM true) := ⟨isM_noerr _, or_isnot⟩
theorem je_cmpV {op : CmpOp} {f : Vl → Vl → Sto → Res Vl} (h : CmpV X op f) (hm : behindInMarks op b = false) (ha : JE X W a ma) (hb : JE X W b mb) : JE X W (.Compare a [op] [b] pos) (bi ma mb f) := je_cmp h.ne h.op hm ha hb
theorem jt_cmpV {op : CmpOp} {f : Vl → Vl → Sto → Res Vl} (h : CmpV X op f) (hm : behindInMarks op b = false) (ha : JE X W a ma) (hb : JE X W b mb) : JT X W (.Compare a [op] [b] pos) (toB (bi ma mb f)) := jt_cmp h.ne h.op hm ha hb
theorem je_chainV {op op' : CmpOp} {f f' : Vl → Vl → Sto → Res Vl} (h : CmpV X op f) (h' : CmpV X op' f') (hm : lastMarks [op, op'] [b, c] = false) (ha : JE X W a ma) (hb : JE X W b mb) (hc : JE X W c mc) :
    JE X W (.Compare a [op, op'] [b, c] pos) (chainM ma mb mc f f') := je_chain h.ne h'.ne h.op h'.op hm ha hb hc
theorem jt_chainV {op op' : CmpOp} {f f' : Vl → Vl → Sto → Res Vl} (h : CmpV X op f) (h' : CmpV X op' f') (hm : lastMarks [op, op'] [b, c] = false) (ha : JE X W a ma) (hb : JE X W b mb) (hc : JE X W c mc) :
    JT X W (.Compare a [op, op'] [b, c] pos) (toB (chainM ma mb mc f f')) := jt_chain h.ne h'.ne h.op h'.op hm ha hb hc
theorem gl_of {x : Str} (h : X.env.kindOf x = some .globalImplicit) : Gl X x := h
theorem jt_bool {e : Expr} {t : Rho → Sto → Res Bool} (h : JW X W e t) : JT X W e t := PW.pt h
/-! ### built-ins by name -/
theorem bb_len : bootBuiltins "len" = some (.builtin "len") := by decide +kernel
theorem bb_abs : bootBuiltins "abs" = some (.builtin "abs") := by decide +kernel
theorem bb_max : bootBuiltins "max" = some (.builtin "max") := by decide +kernel
theorem bb_min : bootBuiltins "min" = some (.builtin "min") := by decide +kernel
theorem bb_sum : bootBuiltins "sum" = some (.builtin "sum") := by decide +kernel
theorem bb_all : bootBuiltins "all" = some (.builtin "all") := by decide +kernel
theorem bb_sorted : bootBuiltins "sorted" = some (.builtin "sorted") := by decide +kernel
theorem bb_isi : bootBuiltins "isinstance" = some (.builtin "isinstance") := by decide +kernel
theorem bb_int : bootBuiltins "int" = some (.type "int") := by decide +kernel
theorem bb_str : bootBuiltins "str" = some (.type "str") := by decide +kernel
theorem bb_list : bootBuiltins "list" = some (.type "list") := by decide +kernel
theorem bb_tuple : bootBuiltins "tuple" = some (.type "tuple") := by decide +kernel
theorem bb_bool : bootBuiltins "bool" = some (.type "bool") := by decide +kernel
/-- a built-in function by values -/
structure BltV (X : Cx) (x : Str) (f : List Vl → Sto → Res Vl) : Prop where
  ne : NoErrs f
  ex : (∃ id, CallR X (.builtin id) (rVs X f) ∧ bootBuiltins x = some (.builtin id)) ∨ (∃ T, CallR X (.type T) (rVs X f) ∧ bootBuiltins x = some (.type T))
  nn : x ≠ "__name__"
  nd : (x == ("__debug__" : Str)) = false
structure BltF (X : Cx) (x : Str) (f : List Vl → Sto → Res (List PyData)) : Prop where
  ne : NoErrs f
  ex : (∃ id, CallR X (.builtin id) (rFs X f) ∧ bootBuiltins x = some (.builtin id)) ∨ (∃ T, CallR X (.type T) (rFs X f) ∧ bootBuiltins x = some (.type T))
  nn : x ≠ "__name__"
  nd : (x == ("__debug__" : Str)) = false
theorem bv_len : BltV X "len" lenM := ⟨lenM_noerr, .inl ⟨_, cr_len, bb_len⟩, by decide, by decide⟩
theorem bv_abs : BltV X "abs" (on1 absD) := ⟨on1_noerr _, .inl ⟨_, cr_abs, bb_abs⟩, by decide, by decide⟩
theorem bv_max (hc : X.calm = true) : BltV X "max" (on2 maxD) := ⟨on2_noerr _, .inl ⟨_, cr_max2 hc, bb_max⟩, by decide, by decide⟩
theorem bv_min (hc : X.calm = true) : BltV X "min" (on2 minD) := ⟨on2_noerr _, .inl ⟨_, cr_min2 hc, bb_min⟩, by decide, by decide⟩
theorem bv_sum (hc : X.calm = true) : BltV X "sum" (on1 sumD) := ⟨on1_noerr _, .inl ⟨_, crm_sum hc, bb_sum⟩, by decide, by decide⟩
theorem bv_all (hc : X.calm = true) : BltV X "all" (on1 allD) := ⟨on1_noerr _, .inl ⟨_, crm_all hc, bb_all⟩, by decide, by decide⟩
theorem bv_int : BltV X "int" (on1 intD) := ⟨on1_noerr _, .inr ⟨_, cr_int, bb_int⟩, by decide, by decide⟩
theorem bv_str : BltV X "str" (on1 strD) := ⟨on1_noerr _, .inr ⟨_, cr_str, bb_str⟩, by decide, by decide⟩
theorem bv_tuple : BltV X "tuple" (on1 tupleD) := ⟨on1_noerr _, .inr ⟨_, cr_tuple, bb_tuple⟩, by decide, by decide⟩
theorem bf_list : BltF X "list" (on1F listD) := ⟨on1F_noerr _, .inr ⟨_, cr_list, bb_list⟩, by decide, by decide⟩
theorem bf_sorted : BltF X "sorted" (on1F sortedD) := ⟨on1F_noerr _, .inl ⟨_, crm_sorted, bb_sorted⟩, by decide, by decide⟩
theorem je_blt {x : Str} {f : List Vl → Sto → Res Vl} (h : BltV X x f) (hm : X.mg x = none) (hg : Gl X x) (ha : JA X W (e :: es) ms) (he : starEach (e :: es) X.env = (false, eval e X.env) :: starEach es X.env) (hpl : (backTo pos (starEach es X.env)).any (·.1) = false) :
    JE X W (.Call (.Name x p) (e :: es) [] pos) (appM ms f) := by
  rcases h.ex with ⟨id, hc, hv⟩ | ⟨T, hc, hv⟩
  · exact je_callB h.ne hc hg hm hv ha h.nn h.nd he hpl
  · exact je_callTy h.ne hc hg hm hv ha h.nn h.nd he hpl
theorem jf_blt {x : Str} {f : List Vl → Sto → Res (List PyData)} (h : BltF X x f) (hm : X.mg x = none) (hg : Gl X x) (ha : JA X W (e :: es) ms) (he : starEach (e :: es) X.env = (false, eval e X.env) :: starEach es X.env) (hpl : (backTo pos (starEach es X.env)).any (·.1) = false) :
    JF X W (.Call (.Name x p) (e :: es) [] pos) (appM ms f) := by
  rcases h.ex with ⟨id, hc, hv⟩ | ⟨T, hc, hv⟩
  · exact jf_callB h.ne hc hg hm hv ha h.nn h.nd he hpl
  · exact jf_callTy h.ne hc hg hm hv ha h.nn h.nd he hpl
/-! ### isinstance of a built-in type -/
inductive BT where
  | none | bool | int | str | list | tuple
def BT.nm : BT → String
  | .none => "NoneType"
  | .bool => "bool"
  | .int => "int"
  | .str => "str"
  | .list => "list"
  | .tuple => "tuple"
def subT : BT → BT → Bool
  | .bool, .int => true
  | .none, .none => true
  | .bool, .bool => true
  | .int, .int => true
  | .str, .str => true
  | .list, .list => true
  | .tuple, .tuple => true
  | _, _ => false
def btD : PyData → Option BT
  | .none => some .none
  | .bool _ => some .bool
  | .int _ => some .int
  | .str _ => some .str
  | .list _ => some .list
  | .tuple _ => some .tuple
  | .dict _ => none
def btV (v : Vl) (st : Sto) : Option BT := match v with
  | .d d => btD d
  | .c n => match (st : List Cell)[n]? with
    | some (.lst _) => some .list
    | some (.lstc _) => some .list
    | _ => none
  | _ => none
theorem bt_ty {H : Hp} {g : Gh} {st : Sto} {u : V} {v : Vl} {t : BT} (R : Rel X.K H g st) (r : ValR X.mg X.K g u v) (e : btV v st = some t) : TyX X.K H u (.type t.nm) := by
  unfold btV at e
  split at e
  · rename_i d
    cases d with
    | none => cases e; cases r; exact .base .non
    | bool b => cases e; cases r; exact .base (.bl _)
    | int b => cases e; cases r; exact .base (.int _)
    | str b => cases e; cases r; exact .base (.str _)
    | list b =>
      cases e
      cases r with
      | lst h1 h2 => exact .base (.lst (R.sub _ _ h1))
    | tuple b =>
      cases e
      cases r with
      | tup h1 h2 =>
        obtain ⟨o, h1, _⟩ := h1
        exact .fTuple (R.sub _ _ h1)
    | dict b => cases e
  · rename_i n
    obtain ⟨p, rest, h1, rfl⟩ := r
    split at e
    · rename_i xs hx
      cases e
      obtain ⟨p', vs, e, h2, _⟩ := R.cells n _ _ h1 hx
      cases e
      exact .base (.lst h2)
    · rename_i xs hx
      cases e
      obtain ⟨p', vs, e, h2, _⟩ := R.cells n _ _ h1 hx
      cases e
      exact .base (.lst h2)
    · cases e
  · cases e
theorem kit_bt (K : PySem.W.Frag) : ∀ (t u : BT), u ≠ .none → PySem.W.kitOne K (.type t.nm) (.type u.nm) = some (subT t u)
  | .none, .bool, _ => kit_ty (by decide +kernel)
  | .none, .int, _ => kit_ty (by decide +kernel)
  | .none, .str, _ => kit_ty (by decide +kernel)
  | .none, .list, _ => kit_ty (by decide +kernel)
  | .none, .tuple, _ => kit_ty (by decide +kernel)
  | .bool, .bool, _ => kit_ty (by decide +kernel)
  | .bool, .int, _ => kit_ty (by decide +kernel)
  | .bool, .str, _ => kit_ty (by decide +kernel)
  | .bool, .list, _ => kit_ty (by decide +kernel)
  | .bool, .tuple, _ => kit_ty (by decide +kernel)
  | .int, .bool, _ => kit_ty (by decide +kernel)
  | .int, .int, _ => kit_ty (by decide +kernel)
  | .int, .str, _ => kit_ty (by decide +kernel)
  | .int, .list, _ => kit_ty (by decide +kernel)
  | .int, .tuple, _ => kit_ty (by decide +kernel)
  | .str, .bool, _ => kit_ty (by decide +kernel)
  | .str, .int, _ => kit_ty (by decide +kernel)
  | .str, .str, _ => kit_ty (by decide +kernel)
  | .str, .list, _ => kit_ty (by decide +kernel)
  | .str, .tuple, _ => kit_ty (by decide +kernel)
  | .list, .bool, _ => kit_ty (by decide +kernel)
  | .list, .int, _ => kit_ty (by decide +kernel)
  | .list, .str, _ => kit_ty (by decide +kernel)
  | .list, .list, _ => kit_ty (by decide +kernel)
  | .list, .tuple, _ => kit_ty (by decide +kernel)
  | .tuple, .bool, _ => kit_ty (by decide +kernel)
  | .tuple, .int, _ => kit_ty (by decide +kernel)
  | .tuple, .str, _ => kit_ty (by decide +kernel)
  | .tuple, .list, _ => kit_ty (by decide +kernel)
  | .tuple, .tuple, _ => kit_ty (by decide +kernel)
  | _, .none, h => absurd rfl h
/-- a name that is a built-in type -/
structure TyNm (X : Cx) (x : Str) (u : BT) : Prop where
  bo : bootBuiltins x = some (.type u.nm)
  mg : X.mg x = none
  gl : Gl X x
  nn : x ≠ "__name__"
  nd : (x == ("__debug__" : Str)) = false
  nu : u ≠ .none
theorem pe_tyNm {x : Str} {u : BT} (h : TyNm X x u) : PE X (.Name x p) (tC (.ty u.nm)) := pe_bltn h.gl h.mg h.bo rfl h.nn h.nd
def isiV (us : List BT) (v : Vl) (st : Sto) : Res Vl := match btV v st with
  | some t => .ok (.d (.bool (us.any fun u => subT t u))) st
  | none => .stuck
def isiM (us : List BT) (m : Dn) (ρ : Rho) (st : Sto) : Res Vl := (m ρ st).bind fun v st => isiV us v st
theorem isi_read1 {u : BT} (hu : u ≠ .none) {σ : St} {H : Hp} {Q : VK} (h : tD X W (isiM [u] m) σ H Q) : tCB (rIsi X.K) (tCons (tD X W m) (tCons (tC (.ty u.nm)) tNil)) σ H Q := by
  obtain ⟨g, ρ, st, R, E, q⟩ := h
  refine ⟨g, ρ, st, R, E, PostE.step q fun x H1 v st1 g1 l1 R1 r1 q1 => ?_⟩
  unfold isiV at q1
  split at q1
  · rename_i t ht
    refine ⟨x, _, _, _, _, rfl, .ty _, bt_ty R1 r1 ht, kit_bt X.K t u hu, ?_⟩
    have e : ([u].any fun u => subT t u) = subT t u := by simp
    rw [e] at q1
    exact q1 _ H1 g1 (.refl _) R1 (.bl _)
  · exact q1.elim
theorem je_isi {x : Str} {u : BT} {p2 : Pos} (hT : TyNm X x u) (hm : X.mg "isinstance" = none) (hg : Gl X "isinstance") (ha : JE X W a m) (h1 : starEach [a, .Name x p2] X.env = (false, eval a X.env) :: starEach [.Name x p2] X.env)
    (h2 : starEach [.Name x p2] X.env = (false, eval (.Name x p2) X.env) :: starEach [] X.env) (hpl : (backTo pos (starEach [.Name x p2] X.env)).any (·.1) = false) : JE X W (.Call (.Name "isinstance" p) [a, .Name x p2] [] pos) (isiM [u] m) :=
  PE.imp (pe_callB call_isi hg hm bb_isi (pa_cons ha (pa_cons (pe_tyNm hT) pa_nil h2) h1) (by decide) (by decide) h1 hpl) fun _ _ _ h => isi_read1 hT.nu h
theorem kitAny_two {K : PySem.W.Frag} (t u w : BT) (hu : u ≠ .none) (hw : w ≠ .none) : PySem.W.kitAny K (.type t.nm) [.type u.nm, .type w.nm] = some ([u, w].any fun u => subT t u) := by
  refine kitAny_cons (kit_bt K t u hu) (fun h => ?_) fun h => by simp [h]
  refine kitAny_cons (kit_bt K t w hw) (fun h2 => ?_) fun h2 => by simp [h, h2]
  rw [kitAny_nil]
  simp [h, h2]
theorem isi_read2 {u w : BT} (hu : u ≠ .none) (hw : w ≠ .none) {σ : St} {H : Hp} {Q : VK} (h : tD X W (isiM [u, w] m) σ H Q) : tCB (rIsiT X.K) (tCons (tD X W m) (tCons (tTup (tCons (tC (.ty u.nm)) (tCons (tC (.ty w.nm)) tNil))) tNil)) σ H Q := by
  obtain ⟨g, ρ, st, R, E, q⟩ := h
  refine ⟨g, ρ, st, R, E, PostE.step q fun x H1 v st1 g1 l1 R1 r1 q1 => ?_⟩
  unfold isiV at q1
  split at q1
  · rename_i t ht
    refine ⟨by show 2 ≤ sizeLine; rw [sizeLine_eq]; omega, fun tp hp => ?_⟩
    have R2 := R1.put hp (.tup [.ty u.nm, .ty w.nm])
    have l2 := put_le R1 hp (.tup [.ty u.nm, .ty w.nm])
    exact ⟨x, tp, _, _, [.type u.nm, .type w.nm], _, rfl, upd_same, .cons (.ty _) (.cons (.ty _) .nil), bt_ty R2 (r1.mono l2.1) ht, kitAny_two t u w hu hw, q1 _ _ _ l2 R2 (.bl _)⟩
  · exact q1.elim
theorem je_isi2 {x y : Str} {u w : BT} {p2 p3 p4 : Pos} {kk : Nat} (hT : TyNm X x u) (hS : TyNm X y w) (hm : X.mg "isinstance" = none) (hg : Gl X "isinstance") (ha : JE X W a m)
    (h1 : starEach [a, .Tuple [.Name x p2, .Name y p3] kk p4] X.env = (false, eval a X.env) :: starEach [.Tuple [.Name x p2, .Name y p3] kk p4] X.env)
    (h2 : starEach [.Tuple [.Name x p2, .Name y p3] kk p4] X.env = (false, eval (.Tuple [.Name x p2, .Name y p3] kk p4) X.env) :: starEach [] X.env)
    (h3 : starEach [.Name x p2, .Name y p3] X.env = (false, eval (.Name x p2) X.env) :: starEach [.Name y p3] X.env) (h4 : starEach [.Name y p3] X.env = (false, eval (.Name y p3) X.env) :: starEach [] X.env)
    (hpl : (backTo pos (starEach [.Tuple [.Name x p2, .Name y p3] kk p4] X.env)).any (·.1) = false) : JE X W (.Call (.Name "isinstance" p) [a, .Tuple [.Name x p2, .Name y p3] kk p4] [] pos) (isiM [u, w] m) :=
  PE.imp (pe_callB call_isiT hg hm bb_isi (pa_cons ha (pa_cons (pe_tup (pa_cons (pe_tyNm hT) (pa_cons (pe_tyNm hS) pa_nil h4) h3)) pa_nil h2) h1) (by decide) (by decide) h1 hpl) fun _ _ _ h => isi_read2 hT.nu hS.nu h
/-! ### break, continue -/
end
/-! ### the text's defs -/
/-- the def x of the text, with these parameters -/
def FunT (K : PySem.W.Frag) (mg : Str → Option Value) (x : Str) (st : Stmt) (ps : List Str) : Prop := ∃ f fd, Fun K x x st f fd ∧ mg x = some (.ref f) ∧ Binds K fd ps []
/-- what the def x computes -/
def OwnP (P : Program) (w : World) (K : PySem.W.Frag) (mg : Str → Option Value) (base : Heap) (x : Str) (k : Nat) (ps : List Str) (F : FV) : Prop :=
  ∃ f fd, FnV P w K mg base k f fd ps F ∧ mg x = some (.ref f) ∧ PySem.W.keepIn K (.ref f) = true ∧ Binds K fd ps [] ∧ ∃ oc od osl, K.lookup f = some ⟨oc, od, .func fd, osl⟩
section
variable {P : Program} {w : World} {K : PySem.W.Frag} {mg : Str → Option Value} {base : Heap}
theorem _root_.L2.Fun.obj {x q : Str} {st : Stmt} {f : Addr} {fd : FuncData} (F : Fun K x q st f fd) : ∃ oc od osl, K.lookup f = some ⟨oc, od, .func fd, osl⟩ := by
  obtain ⟨⟨oc, od, kV, doc, pm, an, cdv, ct, osl, _, lk, _⟩, _⟩ := F
  exact ⟨oc, od, osl, lk⟩
theorem own_ok {x : Str} {st : Stmt} {N ps : List Str} {k : Nat} {m : Rho → Sto → RS} (T : FunT K mg x st ps) (S : FnScope N ps (defScope st))
    (hb : ∀ (f : Addr) (cdv : Value) (A : Around) (outer : List Env) (s : Shared) (H : Hp) (E : XK), Room k (cxOf (L2.CX P w) P w K mg base N x (defScope st) f cdv A outer s H E).A →
      Takes (cxOf (L2.CX P w) P w K mg base N x (defScope st) f cdv A outer s H E) (fun cls d _ H => E cls d H) →
      PassesOwn (model (cxOf (L2.CX P w) P w K mg base N x (defScope st) f cdv A outer s H E).prog (cxOf (L2.CX P w) P w K mg base N x (defScope st) f cdv A outer s H E).w) (cxOf (L2.CX P w) P w K mg base N x (defScope st) f cdv A outer s H E).A (cxOf (L2.CX P w) P w K mg base N x (defScope st) f cdv A outer s H E).env (cxOf (L2.CX P w) P w K mg base N x (defScope st) f cdv A outer s H E).xe →
      JSs (cxOf (L2.CX P w) P w K mg base N x (defScope st) f cdv A outer s H E) (fun cls d _ H => E cls d H) (defBody st) m) :
    OwnP P w K mg base x (k + 1) ps (bodyF N.length m) := by
  obtain ⟨f, fd, F, hm, hb2⟩ := T
  exact ⟨f, fd, fn_ok F S fun cdv A outer s H E hr tk => hb f cdv A outer s H E hr tk (passes_of rfl), hm, F.kp, hb2, F.obj⟩
theorem own_zero {x : Str} {st : Stmt} {ps : List Str} (k : Nat) (T : FunT K mg x st ps) : OwnP P w K mg base x k ps (fun _ _ => .stuck) := by
  obtain ⟨f, fd, F, hm, hb2⟩ := T
  exact ⟨f, fd, ⟨fun _ _ _ _ h => h.1, fun A outer s H args us vs Q E hr h0 hb hv h => by obtain ⟨_, _, _, _, _, _, q⟩ := h; exact q.elim⟩, hm, F.kp, hb2, F.obj⟩
end
section
variable {X : Cx} {W : WX} {e : Expr} {es : List Expr} {ms : Dl} {p pos : Pos}
theorem consA_len {m : Dn} {ms : Dl} {n : Nat} (h : ∀ ρ st vs st', ms ρ st = .ok vs st' → vs.length = n) : ∀ ρ st vs st', consA m ms ρ st = .ok vs st' → vs.length = n + 1 := fun ρ st vs st' e => by
  unfold consA at e
  cases h1 : m ρ st with
  | stuck => rw [h1] at e; cases e
  | err => rw [h1] at e; cases e
  | ok v st1 =>
    rw [h1, Res.bind_ok] at e
    cases h2 : ms ρ st1 with
    | stuck => rw [h2] at e; cases e
    | err => rw [h2] at e; cases e
    | ok us st2 =>
      rw [h2, Res.bind_ok] at e
      cases e
      rw [List.length_cons, h _ _ _ _ h2]
theorem nilA_len : ∀ ρ st vs st', nilA ρ st = .ok vs st' → vs.length = 0 := fun ρ st vs st' e => by cases e; rfl
theorem je_own {x : Str} {j k : Nat} {ps : List Str} {F : FV} (O : OwnP X.prog X.w X.K X.mg X.base x j ps F) (hr : Room k X.A) (hj : j ≤ k) (tk : Takes X W) (hg : Gl X x) (ha : JA X W (e :: es) ms) (hlen : ∀ ρ st vs st', ms ρ st = .ok vs st' → vs.length = ps.length)
    (hdb : (x == ("__debug__" : Str)) = false) (he : starEach (e :: es) X.env = (false, eval e X.env) :: starEach es X.env) (hpl : (backTo pos (starEach es X.env)).any (·.1) = false) :
    JE X W (.Call (.Name x p) (e :: es) [] pos) (callM F ms) := by
  refine PE.imp (O.elim fun f h => h.elim fun fd h => pe_callG h.1 (hr.mono hj) hg h.2.1 h.2.2.1 h.2.2.2.1 (fun σ => passAt tk σ) ha hdb he hpl) fun σ H Q ⟨g, ρ, st, R, E, q⟩ => ⟨g, ρ, st, R, E, ?_⟩
  have hl := hlen ρ st
  unfold callM at q
  revert q hl
  cases ms ρ st with
  | stuck => exact fun q _ => q
  | err x st1 => exact fun q _ => q
  | ok vs st1 =>
    intro q hl us H1 g1 l1 R1 r1
    refine ⟨by rw [valsR_len r1]; exact hl vs st1 rfl, g1, st1, vs, R1, r1, ?_⟩
    have q := PostE.mono l1 q
    revert q
    show PostE X W σ g1 (ValR X.mg X.K) Q (F vs st1) → _
    cases F vs st1 with
    | stuck => exact id
    | ok v st2 => exact id
    | err x st2 => exact fun q cls dd H g' l R e => q cls dd H g' l R e
end
end M1

/-! part U: the tables of the methods -/
namespace M1
open PySem PySem.Spec L2
variable [LT]
section
variable {X : Cx} {k : Nat}
def tb1 (T : MTy) (f : Vl → List Vl → Sto → Res Vl) : MtTab
  | .list => match T with
    | .list => some f
    | _ => none
  | .tup => match T with
    | .tup => some f
    | _ => none
  | .str => match T with
    | .str => some f
    | _ => none
theorem tb1_ok {name : Str} {T : MTy} {f : Vl → List Vl → Sto → Res Vl} (h : MtOk X name T f) : MtsOk X name (tb1 T f) := fun T' f' e => by
  cases T' <;> cases T <;> first | (cases e; exact h) | cases e
def tb_append : MtTab := tb1 .list (mutV appendF)
def tb_pop : MtTab := tb1 .list (mutV popF)
def tb_index : MtTab
  | .list => some (rdV indexF)
  | .tup => some (rdV indexT)
  | .str => none
def tb_count : MtTab
  | .list => some (rdV countF)
  | .tup => some (rdV countT)
  | .str => none
theorem tk_append : MtsOk X "append" tb_append := tb1_ok mto_append
theorem tk_pop : MtsOk X "pop" tb_pop := tb1_ok mto_pop
theorem tk_index (hr : Room k X.A) : MtsOk X "index" tb_index := fun T f e => by
  cases T with
  | list => cases e; exact mto_index (units65 hr)
  | tup => cases e; exact mto_indexT (units65 hr)
  | str => cases e
theorem tk_count (hr : Room k X.A) : MtsOk X "count" tb_count := fun T f e => by
  cases T with
  | list => cases e; exact mto_count (units65 hr)
  | tup => cases e; exact mto_countT (units65 hr)
  | str => cases e
end
end M1

/-! part V: a law's end -/
namespace M1
open PySem PySem.Spec L2
variable [LT]
/-- the plain law: whatever the script, True -/
def PlainLaw (F : FV) : Prop := ∀ ns : List Int, ns.length ≤ 63 → (∀ z ∈ ns, Builtin.Int.intBits z ≤ 1048576) → F [.s ns] [] = .ok (.d (.bool true)) []
/-- the tracked heap without the tables -/
def noTbl (H : Hp) : Hp := fun b => match H b with
  | some (.tbl _) => none
  | o => o
omit [LT] in
theorem noTbl_sub (H : Hp) : Same (noTbl H) H := fun b x e => by
  unfold noTbl at e
  split at e
  · cases e
  · exact e
omit [LT] in
theorem noTbl_at {H : Hp} {b : Addr} {o : HO} (e : H b = some o) (n : ∀ ps, o ≠ .tbl ps) : noTbl H b = some o := by
  unfold noTbl
  split
  · rename_i ps h
    rw [e] at h
    exact absurd (Option.some.inj h) (n ps)
  · exact e
omit [LT] in
theorem noTbl_seq {K : PySem.W.Frag} {H : Hp} {a : Addr} {xs : List V} (h : SqL K H a xs) : SqL K (noTbl H) a xs := by
  rcases h with (h | ⟨o, h⟩) | h
  · exact .inl (.inl (noTbl_at h fun ps z => by cases z))
  · exact .inl (.inr ⟨o, noTbl_at h fun ps z => by cases z⟩)
  · exact .inr h
theorem rel_start (K : PySem.W.Frag) {H : Hp} (hT : LamX.Tabs LT.T H) : Rel K H ⟨noTbl H, [], fun _ => none⟩ [] := by
  refine ⟨noTbl_sub H, fun n as c h => ?_, fun as h => ?_, fun n m as bs c d h => ?_, rfl, fun n ns h => ?_, fun n cls fs h => (by simp at h), fun n as c h => ?_, fun q u h => ?_, hT, fun b ps z => ?_⟩
  · simp at h
  · simp at h
  · simp at h
  · simp at h
  · simp at h
  · cases h
  · have z : noTbl H b = some (.tbl ps) := z
    have := noTbl_sub H b _ z
    unfold noTbl at z
    rw [this] at z
    cases z
/-- the law's promise -/
def spL (K : PySem.W.Frag) : Sp := fun vs H Q _ => ∃ (a : Addr) (ns : List Int), vs = [.ref a] ∧ SqL K H a (ns.map V.int) ∧ ns.length ≤ 63 ∧ (∀ z ∈ ns, Builtin.Int.intBits z ≤ 1048576) ∧ LamX.Tabs LT.T H ∧ ∀ H', Q (.bl true) H'
theorem law_sp {K : PySem.W.Frag} {mg : Str → Option Value} {F : FV} (hF : PlainLaw F) (vs : List V) (H : Hp) (Q : VK) (E : XK) (h : spL K vs H Q E) : spF K mg 1 F vs H Q E := by
  obtain ⟨a, ns, rfl, hs, h1, h2, hT, q⟩ := h
  refine ⟨rfl, ⟨noTbl H, [], fun _ => none⟩, [], [.s ns], rel_start K hT, ⟨⟨a, rfl, noTbl_seq hs⟩, trivial⟩, ?_⟩
  rw [hF ns h1 h2]
  intro u H' g' _ _ r
  cases r
  exact q H'
/-! ### the defs that make lambdas: their code objects and tables -/
def tabC (K : PySem.W.Frag) (x : Str) : Addr := ((PySem.W.tabIn K x).map (·.1)).getD 0
def tabP (K : PySem.W.Frag) (x : Str) : Addr := ((PySem.W.tabIn K x).map (·.2)).getD 0
def lamQ (x : Str) : Str := x ++ ".<locals>." ++ "<lambda>"
@[reducible] def tabsOf (K : PySem.W.Frag) (names : List Str) : LT := { T := names.map fun x => (tabP K x, lamQ x) }
def tabsOk (K : PySem.W.Frag) : List Str → Bool
  | [] => true
  | x :: r => (PySem.W.tabIn K x).isSome && ((K.lookup (tabP K x)).isNone && (r.all (fun y => decide (tabP K y ≠ tabP K x)) && tabsOk K r))
omit [LT] in
theorem tabIn_eq {K : PySem.W.Frag} {x : Str} (h : (PySem.W.tabIn K x).isSome = true) : PySem.W.tabIn K x = some (tabC K x, tabP K x) := by
  unfold tabC tabP
  cases e : PySem.W.tabIn K x with
  | none => rw [e] at h; cases h
  | some p => rfl
omit [LT] in
theorem tabsOk_cons {K : PySem.W.Frag} {x : Str} {r : List Str} (h : tabsOk K (x :: r) = true) : (PySem.W.tabIn K x).isSome = true ∧ K.lookup (tabP K x) = none ∧ (∀ y ∈ r, tabP K y ≠ tabP K x) ∧ tabsOk K r = true := by
  unfold tabsOk at h
  rw [Bool.and_eq_true, Bool.and_eq_true, Bool.and_eq_true] at h
  refine ⟨h.1, Option.isNone_iff_eq_none.mp h.2.1, fun y hy => ?_, h.2.2.2⟩
  exact of_decide_eq_true (List.all_eq_true.mp h.2.2.1 y hy)
omit [LT] in
theorem tabsOk_mem {K : PySem.W.Frag} : ∀ {l : List Str}, tabsOk K l = true → ∀ x ∈ l, PySem.W.tabIn K x = some (tabC K x, tabP K x) ∧ K.lookup (tabP K x) = none
  | [], _, x, hx => absurd hx List.not_mem_nil
  | y :: r, h, x, hx => by
    obtain ⟨h1, h2, _, h4⟩ := tabsOk_cons h
    rcases List.mem_cons.mp hx with e | e
    · subst e; exact ⟨tabIn_eq h1, h2⟩
    · exact tabsOk_mem h4 x e
omit [LT]
theorem funT_mk {K : PySem.W.Frag} {h : Heap} {mg : Str → Option Value} (I : K.In h) (G : h.Ns mainGlobals mg) {x : Str} {st : Stmt} {ps : List Str} {f : Addr} {oc : Value} {od an : Option Addr} {osl : Array (Option Value)} {kV doc pm cdv ct : Value}
    (a : PySem.W.nsIn K mainGlobals x = some (some (.ref f))) (l : K.lookup f = some ⟨oc, od, .func (PySem.W.fnOf x x (defArgs st) (defBody st) (defScope st) .none kV doc pm an cdv ct), osl⟩) (c : PySem.W.codeIn K cdv x = true) (k : PySem.W.keepIn K (.ref f) = true)
    (hb : ∀ (kV doc pm : Value) (an : Option Addr) (cdv ct : Value) (us : List Value), us.length = ps.length → bindArgs (PySem.W.fnOf x x (defArgs st) (defBody st) (defScope st) .none kV doc pm an cdv ct) ⟨us, []⟩ = pure (ps.zip us)) : FunT K mg x st ps :=
  ⟨f, _, fun_mk l c k, PySem.W.mg_of I G a, (fun_mk l c k).binds hb⟩
/-- what the written part says of a def -/
def FactF (K : PySem.W.Frag) (x : Str) (st : Stmt) : Prop := ∃ (f : Addr) (oc : Value) (od an : Option Addr) (osl : Array (Option Value)) (kV doc pm cdv ct : Value), PySem.W.nsIn K mainGlobals x = some (some (.ref f)) ∧
  K.lookup f = some ⟨oc, od, .func (PySem.W.fnOf x x (defArgs st) (defBody st) (defScope st) .none kV doc pm an cdv ct), osl⟩ ∧ PySem.W.codeIn K cdv x = true ∧ PySem.W.keepIn K (.ref f) = true
theorem factF_mk {K : PySem.W.Frag} {x : Str} {st : Stmt} {f : Addr} {oc : Value} {od an : Option Addr} {osl : Array (Option Value)} {kV doc pm cdv ct : Value}
    (a : PySem.W.nsIn K mainGlobals x = some (some (.ref f))) (l : K.lookup f = some ⟨oc, od, .func (PySem.W.fnOf x x (defArgs st) (defBody st) (defScope st) .none kV doc pm an cdv ct), osl⟩) (c : PySem.W.codeIn K cdv x = true) (k : PySem.W.keepIn K (.ref f) = true) : FactF K x st :=
  ⟨f, oc, od, an, osl, kV, doc, pm, cdv, ct, a, l, c, k⟩
theorem FactF.fun {K : PySem.W.Frag} {h : Heap} {mg : Str → Option Value} {x : Str} {st : Stmt} {ps : List Str} (t : FactF K x st) (I : K.In h) (G : h.Ns mainGlobals mg)
    (hb : ∀ (kV doc pm : Value) (an : Option Addr) (cdv ct : Value) (us : List Value), us.length = ps.length → bindArgs (PySem.W.fnOf x x (defArgs st) (defBody st) (defScope st) .none kV doc pm an cdv ct) ⟨us, []⟩ = pure (ps.zip us)) : FunT K mg x st ps := by
  obtain ⟨f, oc, od, an, osl, kV, doc, pm, cdv, ct, a, l, c, k⟩ := t
  exact funT_mk I G a l c k hb
/-- the law's own def -/
theorem FactF.root {P : Program} {w : World} {K : PySem.W.Frag} {h : Heap} {mg : Str → Option Value} {names : List Str} {x p : Str} {st : Stmt} {fa : Addr} {k : Nat} {F : FV} (t : FactF K x st) (I : K.In h) (G : h.Ns mainGlobals mg) (hm : mg x = some (.ref fa))
    (hb : ∀ (kV doc pm : Value) (an : Option Addr) (cdv ct : Value) (us : List Value), us.length = ([p] : List Str).length → bindArgs (PySem.W.fnOf x x (defArgs st) (defBody st) (defScope st) .none kV doc pm an cdv ct) ⟨us, []⟩ = pure (([p] : List Str).zip us))
    (hF : ∀ base : Heap, (∀ y ∈ names, LamX.TabB base mg (tabC K y) (tabP K y)) → ∀ fd : FuncData, Fun K x x st fa fd → @FnV (tabsOf K names) P w K mg base k fa fd [p] F) :
    ∃ fd : FuncData, (∀ (s : Shared) (u : Value), BindsTo s fd ⟨[u], []⟩ [(p, u)]) ∧ ∀ base : Heap, K.In base → base.Ns mainGlobals mg → (∀ y ∈ names, LamX.TabB base mg (tabC K y) (tabP K y)) → @FnV (tabsOf K names) P w K mg base k fa fd [p] F := by
  obtain ⟨f, oc, od, an, osl, kV, doc, pm, cdv, ct, a, l, c, k'⟩ := t
  have e := hm.symm.trans (PySem.W.mg_of I G a)
  cases e
  exact ⟨_, fun s u => .of_eq (hb kV doc pm an cdv ct [u] rfl), fun base _ _ hB => hF base hB _ (fun_mk l c k')⟩
/-- the end -/
theorem law_walk {names : List Str} {l : PySem.W.OpenLaw} {q : Program} {loose : List Str} {XP : (Str → Option Value) → Heap → Prop} {YP : World → Heap → Prop} {d : DefRec} {K : Params → PySem.W.Frag} {x : Str} {k : Nat} {F : FV} (hn : l.most = some 63) (hdf : d.params.defaults = []) (hr : L2.Room k callerA)
    (hY : ∀ (w : World) (h : Heap), YP w h → (K w.params).In h) (hF : PlainLaw F)
    (hq : names.all (fun x => ((PyProof.Rows.recsOf q).find? fun e => e.name == x).isSome) = true) (ht : ∀ w : World, tabsOk (K w.params) names = true)
    (hf : ∀ (w : World) (mg : Str → Option Value) (fa : Addr) (h : Heap), (K w.params).In h → h.Ns mainGlobals mg → mg d.name = some (.ref fa) →
      ∃ fd : FuncData, (∀ (s : Shared) (u : Value), BindsTo s fd ⟨[u], []⟩ [(x, u)]) ∧ ∀ base : Heap, (K w.params).In base → base.Ns mainGlobals mg → (∀ y ∈ names, LamX.TabB base mg (tabC (K w.params) y) (tabP (K w.params) y)) →
        @FnV (tabsOf (K w.params) names) l.prog w (K w.params) mg base k fa fd [x] F) :
    PySem.W.WalkO q loose XP YP l.row.toRowW d [] (fun f vs => PySem.call f vs) := by
  refine Att.attach_callB hn hdf fun w s₀ s₁ mg mb fa o pm cd doc a vs ns G Y ho hd hcd hmg hobj hints hlen hbits hg => ?_
  have KX := hY w _ Y
  letI : LT := tabsOf (K w.params) names
  obtain ⟨fd, hb, hF2⟩ := hf w mg fa _ KX G.T.g hmg
  have at_ : ∀ y ∈ names, PySem.W.CodeHd s₁.heap (tabC (K w.params) y) (tabP (K w.params) y) ∧ s₁.heap.get? (tabP (K w.params) y) = some (PySem.W.tabObj #[]) ∧ (K w.params).lookup (tabP (K w.params) y) = none := fun y hy => by
    obtain ⟨e1, e2⟩ := tabsOk_mem (ht w) y hy
    obtain ⟨dr, hdr⟩ := Option.isSome_iff_exists.mp (List.all_eq_true.mp hq y hy)
    obtain ⟨h1, h2⟩ := PySem.W.tab_of G.T KX hdr e1
    exact ⟨h1, h2, e2⟩
  have mem : ∀ p ∈ names.map (fun y => (tabC (K w.params) y, tabP (K w.params) y)), ∃ y ∈ names, p = (tabC (K w.params) y, tabP (K w.params) y) := fun p hp => by
    obtain ⟨y, hy, e⟩ := List.mem_map.mp hp
    exact ⟨y, hy, e.symm⟩
  have there : AtCall (K w.params) mg mb s₁ (names.map fun y => (tabC (K w.params) y, tabP (K w.params) y)) a vs ns := ⟨KX, G.T.g, G.T.b, G.T.builtins, G.T.nolimit, hg,
    fun p hp => (mem p hp).elim fun y z => z.2 ▸ (at_ y z.1).2.1, fun p hp => (mem p hp).elim fun y z => z.2 ▸ (at_ y z.1).2.2, fun p hp => (mem p hp).elim fun y z => z.2 ▸ (at_ y z.1).1, G.T.bmain, hobj, hints, Nat.le_trans hlen (by decide)⟩
  refine law_callG (sp := spL (K w.params)) there hr (fun base hi hbg hB => (hF2 base hi hbg fun y hy => hB _ (List.mem_map.mpr ⟨y, hy, rfl⟩)).imp fun vs H Q E h => law_sp hF vs H Q E h) hb (fun H hH hS => ?_) fun H e s' h => ?_
  · refine ⟨a, ns, rfl, hS, hlen, hbits, fun p hp => ?_, fun _ => rfl⟩
    obtain ⟨y, hy, e⟩ := List.mem_map.mp (show p ∈ names.map (fun y => (tabP (K w.params) y, lamQ y)) from hp)
    rw [← e]
    exact LamX.TabS.nil (hH _ (List.mem_map.mpr ⟨y, hy, rfl⟩))
  · obtain ⟨_, _, _, _, _, _, _, _, _, _, _, _, z⟩ := h
    exact z
end M1

/-! part W: two items swapped, list(range(..)), keywords -/
namespace M1
open PySem PySem.Spec L2
variable [LT]
section
variable {X : Cx} {W : WX}
/-! ### x[i], y[j] = e, f -/
/-! ### list(range(..)) -/
/-! ### f(.., k = v) -/
theorem PK.imp {kws : List Keyword} {t t' : TA} (h : PK X kws t) (i : ∀ σ H Q, t' σ H Q → t σ H Q) : PK X kws t' := ⟨fun pos pins s σ H Q I q => h.run pos pins s σ H Q I (i σ H Q q)⟩
end
end M1

/-! part X: the text's own errors -/
namespace PySem
namespace ErX
open PySem.W PySem.Calls PyProof.Rows PySem.HandSPX
open Builtin Builtin.ObjectAttr
variable {prog : Program} {w : World} {A : Around} {R : Result → Shared → Prop} {hp : Heap} {g : Array GenState} {d : Drawn} {t : Nat} {os : OsState} {B : String} {bmB : List Value}
/-- the first field of an own error -/
theorem first_field {K : Frag} {name : Str} {tk : Tok} {v : Value} {x C : Addr} {fv : Array Value} {cd : ClassData} (SF : StoreFacts B bmB "object.__setattr__" "object") (X : K.In hp) (hx : hp.get? x = some { cls := .ref C, data := .fields fv }) (hcd : clsIn K C = some cd) (hh : cd.hasDict = true)
    (hov : excOver K C bmB = true) (ha : takerIn K C name = some none)
    (hq : ∀ h' tk' dx, (∀ b o, b ≠ x → hp.get? b = some o → h'.get? b = some o) → hp.objs.size ≤ dx → dx ≠ x → h'.get? x = some { cls := .ref C, dict := some dx, data := .fields fv } → h'.Ns1 dx (fun y => if y = name then some v else none) → R (.ok (.ret .none)) ⟨h', g, d, tk', os⟩) :
    codeAny (model prog w) A (.call (.builtin "object.__setattr__") ⟨[.ref x, .str name tk, v], []⟩) R ⟨hp, g, d, t, os⟩ := by
  have hxs : x ≠ hp.objs.size := Nat.ne_of_lt (Heap.lt_size hx)
  have hcls : Looks (model prog w) hp (classData C) cd := looks_clsIn X hcd
  refine osa_openX (s := ⟨hp, g, d, t, os⟩) SF X (ox := { cls := .ref C, data := .fields fv }) (od := none) ⟨hx, rfl, rfl, trivial⟩ hov ha fun b => ?_
  show wpAny _ _ (storeInOwnDict (.ref x) (.ref C) (.str name tk) name v b) _ _ _
  obtain ⟨nm, bs, mro, ns, qn, hd, sn, sb, ab, col, del⟩ := cd
  dsimp only at hh; subst hh
  unfold storeInOwnDict ownDictForStores
  repeat (first | with_reducible refine store_in_new ?_ ?_ | with_reducible refine wpAny_loadPart_at hx ?_ | with_reducible refine hcls.at ?_ | wp_step)
  · exact ⟨_, #[], _, (Heap.get?_update_ne _ _ _ _ hxs.symm).trans (Heap.get?_push_at rfl rfl), rfl, (fun e he => absurd he (by simp)), fun _ => rfl⟩
  · intro h' tk' hn' hs
    have hx₁ : (hp.push { cls := .type "dict", data := .dict #[] }).get? x = some { cls := .ref C, data := .fields fv } := Heap.get?_push_of_some _ hx
    exact hq h' tk' hp.objs.size (fun b o hb ho => (hs.2 b (Nat.ne_of_lt (Heap.lt_size ho))).trans ((Heap.get?_update_ne _ _ _ _ hb).trans (Heap.get?_push_of_some _ ho))) (Nat.le_refl _) hxs.symm ((hs.2 x hxs).trans (Heap.get?_update_self _ hx₁ rfl)) hn'
end ErX
end PySem

namespace M1
open PySem PySem.Spec L2 PyProof.Rows
variable [LT]
/-! ### an error class of the text, directly over a built-in one -/
/-- the built-in class below -/
structure ErB (B newId initId : String) (bmB : List Value) : Prop where
  ex : ExcBaseFacts B newId initId bmB
  st : StoreFacts B bmB "object.__setattr__" "object"
  ty : typeOf (.type B) = pure (.type "type")
  bo : bootBuiltins (Str.ofString B) = some (.type B)
  nn : Str.ofString B ≠ "__name__"
  nd : (Str.ofString B == ("__debug__" : Str)) = false
  nb : Manifest.isStub B = false
  hi : PySem.W.handedIn (.builtin initId) = true
/-- what the written part says of the class at C -/
structure ErC (K : PySem.W.Frag) (C : Addr) (newId : String) (bmB : List Value) : Prop where
  ini : PySem.W.excInitIn K C bmB newId = true
  over : PySem.W.excOver K C bmB = true
  cls : ∃ cd, PySem.W.clsIn K C = some cd ∧ cd.hasDict = true
  sa : PySem.W.findIn K (.ref C) "__setattr__" = some (some (.builtin "object.__setattr__"))
  exC : PySem.W.subIn K (.ref C) (.type "BaseException") = some true
  tyC : PySem.W.typeIn K (.ref C) = some (.type "type")
  kC : PySem.W.keepIn K (.ref C) = true
section
variable {X : Cx} {pins : List (Addr × Obj)} {σ : L2.St} {H : Hp} {s : Shared} {a C dx : Addr} {f : Str} {y : V} {u : Value} {A : Around} {E : Value → Shared → Prop} {B newId initId : String} {bmB : List Value}
theorem er_field (Bf : ErB B newId initId bmB) (T : ErC X.K C newId bmB) (I : Inv X pins σ H s) (e : H a = some (exo a C none)) (hno : PySem.W.takerIn X.K C f = some none) (ry : RelV y u) {Q : Unit → Shared → Prop}
    (h : ∀ dx s', H dx = none → dx ≠ a → Inv X pins σ (upd (upd H dx (exd dx [(f, y)])) a (exo a C (some dx))) s' → Q () s') : wpAny (model X.prog X.w) A (setAttr (.ref a) f u) Q E s := by
  obtain ⟨cd, hcd, hdct⟩ := T.cls
  obtain ⟨t1, ho⟩ := exo_at I.hok e
  obtain ⟨hp, g, d, t, os⟩ := s
  refine PySem.W.set_plain I.kIn (ox := { cls := .ref C, dict := none, data := .fields #[.ref t1, .none, .none, .none, .bool false, .none] }) (od := none) ⟨ho, rfl, rfl, trivial⟩ T.sa ?_
  refine PySem.ErX.first_field Bf.st I.kIn ho hcd hdct T.over hno fun h' tk' dx k dn dne hx hn => ?_
  have hnd : H dx = none := I.hok.fresh dn
  have nd : ∀ {b : Addr} {o : Obj}, hp.get? b = some o → b ≠ dx := fun {b o} q => Nat.ne_of_lt (Nat.lt_of_lt_of_le (Heap.lt_size q) dn)
  have na : ∀ {b : Addr}, H b = none → b ≠ a := fun {b} n z => by rw [z, e] at n; cases n
  have U : Un X.fs [] H (upd (upd H dx (exd dx [(f, y)])) a (exo a C (some dx))) hp h' := by
    refine ⟨fun b o q n _ _ => k b o (na n) q, fun b o q n _ _ => ⟨o.slots, k b o (na n) q⟩, fun b o q n _ => ?_, fun b o q _ => ?_, fun b xs q => ?_, fun b o v q => ?_, fun b ps q => ⟨#[], ?_⟩⟩
    · rw [upd_ne (na n), upd_ne (nd q)]; exact n
    · by_cases hb : b = a
      · exact ⟨_, by rw [hb]; exact hx⟩
      · exact ⟨o, k b o hb q⟩
    · rw [upd_ne (at_ne e q exo_tup), upd_ne (ne_of_none q hnd)]; exact q
    · rw [upd_ne (at_ne e q exo_frz), upd_ne (ne_of_none q hnd)]; exact q
    · rw [upd_ne (at_ne e q exo_tbl), upd_ne (ne_of_none q hnd), q]; simp
  refine h dx _ hnd dne (I.un (t' := tk') U fun b o q => ?_)
  by_cases hb : b = a
  · subst hb
    rw [upd_same] at q
    cases q; exact exo_ok hx
  · rw [upd_ne hb] at q
    by_cases hd : b = dx
    · subst hd
      rw [upd_same] at q
      cases q; exact exd_ok hn (relO_put (fs := []) ry fun g => True.intro)
    · rw [upd_ne hd] at q
      refine (I.hok b o q).stay (fun c v hc z => k c v ?_ z) (fun c hc => ?_) fun c xs hc => ?_
      · rcases hc with hc | hc
        · rw [hc]; exact hb
        · exact at_ne e hc exo_own
      · rw [upd_ne (at_ne e hc exo_own), upd_ne (ne_of_none hc hnd)]; exact hc
      · rw [upd_ne (at_ne e hc exo_tup), upd_ne (ne_of_none hc hnd)]; exact hc
theorem er_init {us : List Value} {Q : Value → Shared → Prop} (Bf : ErB B newId initId bmB) (T : ErC X.K C newId bmB) (I : Inv X pins σ H s) (e : H a = some (exo a C none)) (hl : us.length ≤ sizeLine) (h : ∀ s', Inv X pins σ H s' → Q .none s') :
    wpAny (model X.prog X.w) A (call (.builtin initId) (.ref a :: us)) Q E s := by
  obtain ⟨nm, N, qn, bs, bm, hdct, sn, sub, ab, col, dd, k0, k1, k2, k3, k5, hC, hT⟩ := PySem.W.excInit_of I.kIn T.ini
  obtain ⟨t1, ho⟩ := exo_at I.hok e
  obtain ⟨hp, g, d, t, os⟩ := s
  refine wpAny_call (PySem.HandSPX.init_base Bf.ex hT hC ho hl fun h' t2 k hx => ?_)
  have J := I.write (t' := t) (x := a) (e := a) (o := exo a C none) (by rw [e]; exact True.intro) (.inl rfl) k ⟨_, hx⟩ (exo_ok hx)
  have eu : upd H a (exo a C none) = H := by
    funext b
    by_cases hb : b = a
    · rw [hb, upd_same, e]
    · rw [upd_ne hb]
  rw [eu] at J
  exact h _ J
/-- B.__init__(self, ..) -/
def tErI (K : PySem.W.Frag) (newId : String) (bmB : List Value) (ta : TA) : TE := fun σ H Q => ta σ H fun vs H1 => ∃ (a C : Addr) (ws : List V), vs = .ref a :: ws ∧ ws.length ≤ 1000 ∧ ErC K C newId bmB ∧ H1 a = some (exo a C none) ∧ Q .non H1
/-- self.f = e -/
def tErF (K : PySem.W.Frag) (newId : String) (bmB : List Value) (f : Str) (to te : TE) : TS := fun D σ H => te σ H fun y H1 => to σ H1 fun x H2 => ∃ a C : Addr, x = .ref a ∧ ErC K C newId bmB ∧ PySem.W.takerIn K C f = some none ∧ H2 a = some (exo a C none) ∧
  ∀ dx, H2 dx = none → dx ≠ a → D.nx σ (upd (upd H2 dx (exd dx [(f, y)])) a (exo a C (some dx)))
variable {o e : Expr} {es : List Expr} {to te : TE} {ta : TA} {p p' p1 p2 pos : Pos}
theorem pe_erInit {pl : Sem Bool} (Bf : ErB B newId initId bmB) (hg : Gl X (Str.ofString B)) (hm : X.mg (Str.ofString B) = none) (vV : PySem.W.findCls X.K (.type B) (.type "type") "__init__" = some (.val (.builtin initId))) (ha : PA X (e :: es) ta)
    (hc : eval (.Call (.Attribute (.Name (Str.ofString B) p1) "__init__" p2) (e :: es) [] pos) X.env = (do
      let ov ← eval (.Name (Str.ofString B) p1) X.env
      standAt p2.atName
      let (f, first) ← holding [ov] (getMethod ov "__init__" pl)
      callWith pos f first (backTo pos (starEach (e :: es) X.env)) (backToKw pos (keywordEach [] X.env))))
    (he : starEach (e :: es) X.env = (false, eval e X.env) :: starEach es X.env) (hpl : (backTo pos (starEach es X.env)).any (·.1) = false) :
    PE X (.Call (.Attribute (.Name (Str.ofString B) p1) "__init__" p2) (e :: es) [] pos) (tErI X.K newId bmB ta) := by
  refine ⟨fun pins s σ H Q I h => PySem.W.methodCall_KW (ld_blt I hg hm Bf.bo ?_ Bf.nn Bf.nd) hc⟩
  obtain ⟨m, fr⟩ := I.fr
  refine PySem.W.method_type fr I.ok.mod.kin Bf.ty Bf.nb vV Bf.hi ?_
  show wpAny _ _ (callWith pos (Value.builtin initId) [] (backTo pos (starEach (e :: es) X.env)) []) _ _ _
  refine PyProof.Rows.callWith_method1 (thn (ha.run pos pins _ σ H _ (I.tok _) h) fun us s1 ⟨vs, H1, I1, r1, a, C, ws, ev, hl, T, ea, q⟩ => ?_) he hpl
  subst ev
  cases r1 with
  | @cons _ u0 _ ur ra rw' =>
    obtain rfl : u0 = Value.ref a := ra
    exact er_init Bf T I1 ea (by rw [← Paired.length rw', sizeLine_eq]; omega) fun s' J => ⟨.non, H1, J, rfl, q⟩
theorem ps_erField (Bf : ErB B newId initId bmB) (ho : PE X o to) (he : PE X e te) (hs : swapsWith e (some (.Attribute o f p')) pos.line X.env = pure false) : PS X (.Assign [.Attribute o f p'] e pos) (tErF X.K newId bmB f to te) := by
  refine ⟨fun pins s σ H D I h => plainObj_wpAny_Assign_Attribute (thn (he.run pins s σ H _ I h) fun v s1 ⟨y, H1, I1, r1, q1⟩ => thn (ho.run pins s1 σ H1 _ I1 q1) fun u s2 ⟨x, H2, I2, r2, a, C, ex, T, hno, ea, q⟩ => ?_) hs⟩
  subst ex
  obtain rfl : u = Value.ref a := r2
  exact er_field Bf T I2 ea hno r1 fun dx s' n ne J => ⟨σ, _, J, q dx n ne⟩
/-- what __init__(self, y) of such a class promises -/
def spErr (C : Addr) (f : Str) : Sp := fun vs H Q _ => ∃ (a : Addr) (y : V), vs = [.ref a, y] ∧ H a = some (exo a C none) ∧ ∀ dx, H dx = none → dx ≠ a → Q .non (upd (upd H dx (exd dx [(f, y)])) a (exo a C (some dx)))
/-- C(e) -/
def tMkEr (C : Addr) (f : Str) (ta : TA) : L2.St → Hp → XK → Prop := fun σ H Q => ta σ H fun vs H1 => ∃ y, vs = [y] ∧ ∀ d, H1 d = none → Q (.ref C) (some d) (upd H1 d (.xd [(f, y)]))

end
section
variable {P : Program} {w : World} {K : PySem.W.Frag} {mg : Str → Option Value} {base : Heap} {B newId initId : String} {bmB : List Value}
/-- such an __init__ does that -/
theorem er_fn {x qual : Str} {st : Stmt} {fI : Addr} {fd : FuncData} {C : Addr} {f pn m : Str} {k : Nat} (F : Fun K x qual st fI fd) (S : FnScope ["self", pn] ["self", pn] (defScope st)) (T : ErC K C newId bmB) (hno : PySem.W.takerIn K C f = some none)
    (hb : ∀ (cdv : Value) (A : Around) (outer : List Env) (s : Shared) (H : Hp) (E : XK), PSs (cxOf (L2.CX P w) P w K mg base ["self", pn] qual (defScope st) fI cdv A outer s H E) (defBody st)
      (tSeq (tDrop (tErI K newId bmB (tCons (tVar 0) (tCons (tC (.str m)) tNil)))) (tErF K newId bmB f (tVar 0) (tVar 1)))) : L2.FnOk P w K mg base (L2.CX P w) (k + 1) fI fd ["self", pn] (spErr C f) := by
  refine F.okX S (fun vs H Q E ⟨a, y, e, _⟩ => by rw [e]; rfl) fun cdv A outer s H vs Q E hr h => ⟨_, hb cdv A outer s H E, ?_⟩
  obtain ⟨a, y, rfl, ea, q⟩ := h
  exact ⟨_, rfl, a, C, [.str m], rfl, (by show 1 ≤ 1000; omega), T, ea, _, rfl, _, rfl, a, C, rfl, T, hno, ea, q⟩
end
section
variable {X : Cx} {B newId initId : String} {bmB : List Value} {e : Expr} {es : List Expr} {ta : TA} {p pos : Pos}
theorem pmk_er {x : Str} {C fI : Addr} {k : Nat} {fd : FuncData} {pn f : Str} (Bf : ErB B newId initId bmB) (T : ErC X.K C newId bmB) (iC : PySem.W.findIn X.K (.ref C) "__init__" = some (some (.ref fI))) (tI : PySem.W.typeIn X.K (.ref fI) = some (.type "function"))
    (F1 : L2.FnOk X.prog X.w X.K X.mg X.base (L2.CX X.prog X.w) k fI fd ["self", pn] (spErr C f)) (hr : L2.Room (k + 1) X.A) (hb : Binds X.K fd ["self", pn] []) (hg : Gl X x) (hm : X.mg x = some (.ref C)) (ha : PA X (e :: es) ta)
    (hdb : (x == ("__debug__" : Str)) = false) (he : starEach (e :: es) X.env = (false, eval e X.env) :: starEach es X.env) (hpl : (backTo pos (starEach es X.env)).any (·.1) = false) : PMk X (.Call (.Name x p) (e :: es) [] pos) (tMkEr C f ta) := by
  intro pins s σ H Q I h
  refine wpAny_Call_Name_kw (ld_glob I hg hm ?_ hdb)
  refine PySem.W.callWith_K (h₀ := X.base) I.ok.mod.kin T.kC (thn (ha.run pos pins s σ H _ I h) fun us s1 ⟨vs, H1, I1, r1, y, ev, q1⟩ => ⟨I1.kIn, ?_⟩) he hpl
  subst ev
  show wpAny _ _ (call (.ref C) us) _ _ _
  obtain ⟨nm, N, qn, bs, bm, hdct, sn, sub, ab, col, dd, k0, k1, k2, k3, k5, hC, hT⟩ := PySem.W.excInit_of I1.kIn T.ini
  obtain ⟨hp, g, dr, tk, os⟩ := s1
  have hsz : hp.objs.size ≤ hp.objs.size + 1 := Nat.le_succ _
  have hn : H1 (hp.objs.size + 1) = none := I1.hok.fresh hsz
  have kk : ∀ b o, hp.get? b = some o → ((hp.push (PySem.W.kdv_tup us)).push (PySem.HandSPX.excO C hp.objs.size)).get? b = some o := fun b o e => Heap.get?_push_of_some _ (Heap.get?_push_of_some _ e)
  have hget : ((hp.push (PySem.W.kdv_tup us)).push (PySem.HandSPX.excO C hp.objs.size)).get? (hp.objs.size + 1) = some (PySem.HandSPX.excO C hp.objs.size) := by heap_get
  have I2 : Inv X pins σ (upd H1 (hp.objs.size + 1) (exo (hp.objs.size + 1) C none)) ⟨(hp.push (PySem.W.kdv_tup us)).push (PySem.HandSPX.excO C hp.objs.size), g, dr, tk, os⟩ := I1.laid (t' := tk) kk hsz (exo_ok hget)
  have lu : us.length = 1 := (Paired.length r1).symm
  have r2 : Vals [V.ref (hp.objs.size + 1), y] (Value.ref (hp.objs.size + 1) :: us) := .cons rfl r1
  have hb2 := hb ⟨(hp.push (PySem.W.kdv_tup us)).push (PySem.HandSPX.excO C hp.objs.size), g, dr, tk, os⟩ (Value.ref (hp.objs.size + 1) :: us) I2.kIn (by rw [List.append_nil, List.length_cons, lu]; rfl)
  rw [List.append_nil] at hb2
  -- what __init__ leaves
  have sp : spErr C f [V.ref (hp.objs.size + 1), y] (upd H1 (hp.objs.size + 1) (exo (hp.objs.size + 1) C none)) (fun v H2 => v = .non ∧ ∃ (d : Addr) (fs : List (Str × V)), H2 (hp.objs.size + 1) = some (exo (hp.objs.size + 1) C (some d)) ∧ H2 d = some (exd d fs) ∧ H1 d = none ∧ Q (.ref C) (some d) (upd (del H2 (hp.objs.size + 1)) d (.xd fs))) (fun _ _ _ => False) := by
    refine ⟨_, y, rfl, upd_same, fun dx h1 h2 => ⟨rfl, dx, [(f, y)], upd_same, by rw [upd_ne h2, upd_same], by rw [upd_ne h2] at h1; exact h1, ?_⟩⟩
    rw [upd_ne h2] at h1
    have eH : upd (del (upd (upd (upd H1 (hp.objs.size + 1) (exo (hp.objs.size + 1) C none)) dx (exd dx [(f, y)])) (hp.objs.size + 1) (exo (hp.objs.size + 1) C (some dx))) (hp.objs.size + 1)) dx (.xd [(f, y)]) = upd H1 dx (.xd [(f, y)]) := by
      funext b
      by_cases hbd : b = dx
      · rw [hbd, upd_same, upd_same]
      · rw [upd_ne hbd, upd_ne hbd]
        by_cases hba : b = hp.objs.size + 1
        · rw [hba, del_same, hn]
        · rw [del_ne hba, upd_ne hba, upd_ne hbd, upd_ne hba]
    rw [eH]
    exact q1 dx h1
  refine wpAny_call (PySem.HandSPX.call_own Bf.ex hT hC (PySem.W.looks_findIn I1.kIn iC) (fun self => PySem.W.bind_fn I1.kIn self tI) (by rw [lu, sizeLine_eq]; omega)
    (codeAny_mono (F1.run _ X.stack _ _ ⟨Value.ref (hp.objs.size + 1) :: us, []⟩ (Value.ref (hp.objs.size + 1) :: us) _ _ (fun _ _ _ => False) (hr.make C us []) (I2.env0.make C us []) hb2 r2 sp) fun r s' hq' => ?_))
  cases r with
  | error er => exact passL pins σ _ _ er s' I2 hq'
  | ok fl =>
    cases fl with
    | ret u =>
      obtain ⟨v, H2, os2, bare2, un2, hok2, rv, ev, d, fs, ea, ed, hd1, q2⟩ := hq'
      subst ev
      obtain ⟨h2, g2, d2, t2, os'⟩ := s'
      exact ⟨rv, mk_end (raises_own T.exC T.tyC) I1 hsz kk un2 hok2 os2 bare2 ea ed hd1 q2⟩
    | next => exact False.elim hq'
    | brk => exact False.elim hq'
    | cont => exact False.elim hq'
/-! ### raise C(e) -/
def raiseS (cls f : Str) (m : Dn) (ρ : Rho) (st : Sto) : RS := (m ρ st).then ρ fun v st => match v with
  | .d d => .err ⟨cls, [(f, d)]⟩ ρ st
  | _ => .stuck
variable {W : WX}
theorem js_raise {x f : Str} {C : Addr} {m : Dn} {pos2 : Pos} (hc : X.calm = true) (tk : Takes X W) (hm : X.mg x = some (.ref C)) (hmk : ∀ ta, PA X [e] ta → PMk X (.Call (.Name x p) [e] [] pos) (tMkEr C f ta)) (ha : JA X W [e] (consA m nilA)) :
    JS X W (.Raise (some (.Call (.Name x p) [e] [] pos)) none pos2) (raiseS x f m) :=
  PS.imp (ps_raise hc tk (hmk _ ha)) fun D σ H ⟨g, ρ, st, R, E, q⟩ => ⟨g, ρ, st, R, E, by
    unfold raiseS at q
    unfold consA nilA
    revert q
    cases m ρ st with
    | stuck => exact id
    | err x st1 => exact fun q cls dd H g' l R' e => q cls dd σ H g' l R' (E.mono l.1) e
    | ok v st1 =>
      intro q us H1 g1 l1 R1 r1
      rw [Res.then_ok] at q
      split at q
      · rename_i d
        obtain ⟨u, rfl, ru⟩ := valsR1 r1
        refine ⟨u, rfl, fun dx hd => ?_⟩
        have l2 := put_le R1 hd (.xd [(f, u)])
        exact q (.ref C) (some dx) σ _ _ (l1.trans l2) (R1.put hd _) (E.mono (l1.trans l2).1) ⟨⟨C, hm, rfl⟩, dx, u, rfl, upd_same, dq_mono l2.1.1 ru⟩
      · exact q.elim⟩
end
end M1

/-! part Y: sets of ints that are sorted at once -/
namespace M1
open PySem PySem.Spec L2
variable [LT]
section
variable {X : Cx}
/-- {elt for tg in iter if ..}, elt an int -/
def tScI (w : World) (wi : TI) (g : TG) (tt : TT) (te : TE) (vs : List Nat) : TE := fun σ H Q => wi σ H fun J H1 => ∀ D, H1 D = none → ∃ V : Nat → Nat → Hp → Prop, (∃ m, V 0 m (upd H1 D (SetO w D (fun _ => false) 0))) ∧ ∀ i m H, V i m H →
  (J.stop i H ∧ Q (.ref D) H) ∨ (J.go i H ∧ ∃ N : Hp → Prop, (∀ H', N H' → ∃ m', m' < m ∧ V (i + 1) m' H') ∧ ∀ x H', J.yld i H x H' → g x (wipe σ vs) H' fun σ2 H2 => wipe σ2 vs = wipe σ vs ∧ tt σ2 H2 fun b H3 => if b = true then te σ2 H3 fun y H4 => rSAdd w (.ref D) [y] H4 fun _ H5 => N H5 else N H3)
theorem pe_scI {elt tg iter : Expr} {ifs : List Expr} {scope : Scope} {own : List (Str × Nat)} {pos : Pos} {wi : TI} {g : TG} {tt : TT} {te : TE} (hc : X.calm = true) (hN : X.N.Nodup) (hi : PI X tg iter wi) (ok : BlkOk X.N X.env.scope scope own)
    (hg : ∀ (s : Shared) (H : Hp) (C : Addr) (cl : List (Str × Addr)) (fp : List Addr), PG (X.blk s H scope (compEnvC scope cl C X.env) fp) tg g) (ht : ∀ (s : Shared) (H : Hp) (C : Addr) (cl : List (Str × Addr)) (fp : List Addr), PTs (X.blk s H scope (compEnvC scope cl C X.env) fp) ifs tt)
    (he : ∀ (s : Shared) (H : Hp) (C : Addr) (cl : List (Str × Addr)) (fp : List Addr), PE (X.blk s H scope (compEnvC scope cl C X.env) fp) elt te) (hs : ∀ x, foldedSetIterable iter X.env x = pure x) :
    PE X (.SetComp elt [⟨tg, iter, ifs, 0⟩] scope pos) (tScI X.w wi g tt te (own.map (·.2))) := by
  refine ⟨fun pins s σ H Q I h => ?_⟩
  rw [PpSet.eval_SetComp]
  have caught : ∀ y ∈ scope.names, y.2 = .free → ∃ c, X.env.cells.lookup y.1 = some c := fun y hy e => (ok.free y hy e).elim (fun k => I.ok.has _ (.inl k)) fun k => I.ok.has _ (.inr k)
  refine wpAny_comprehension_free (use := none) rfl hs (closure_ok caught) ok.kind (fun y hy e => by rw [ok.uniq y hy, e]) (thn (hi.run pins s σ H _ I h) fun _ s1 hx => thn hx fun _ s2 ⟨it, fp, tn, J, H2, e, I2, T, st2, f2, q⟩ => ?_)
  subst e
  refine PpSet.newSet_ok (newEnv_comp ?_)
  -- the empty set
  obtain ⟨D, hD⟩ : ∃ D, s2.heap.objs.size = D := ⟨_, rfl⟩
  obtain ⟨Hs, hHs⟩ : ∃ Hs, upd H2 D (SetO X.w D (fun _ => false) 0) = Hs := ⟨_, rfl⟩
  obtain ⟨V, ⟨m0, v0⟩, turn⟩ := q D (I2.hok.fresh (Nat.le_of_eq hD))
  obtain ⟨s3, hs3⟩ : ∃ s3 : Shared, ({ s2 with heap := s2.heap.push { cls := .type "set", dict := none, data := .set #[] 0 (.fresh 0 0 (!X.w.params.followText "set-order")) } } : Shared) = s3 := ⟨_, rfl⟩
  have I3 : Inv X pins σ Hs s3 := by
    rw [← hs3, ← hHs, ← hD]
    exact I2.laid (t' := s2.toks) (fun b o e => Heap.get?_push_of_some _ e) (Nat.le_refl _) (setO_new (L2.setR_new_at (ns := []) (Heap.get?_push_size _ rfl)))
  have lt2 : ∀ b ∈ fp, b < s2.heap.objs.size := fun b hb => let ⟨_, e, _⟩ := T.obj _ _ st2 b hb; Heap.lt_size e
  have k3 : ∀ b o, s2.heap.get? b = some o → s3.heap.get? b = some o := fun b o e => by rw [← hs3]; exact Heap.get?_push_of_some _ e
  have f3 : ∀ b ∈ fp, FpOk X pins Hs b ∧ b < s3.heap.objs.size := fun b hb => by
    have l := lt2 b hb
    refine ⟨⟨?_, (f2 b hb).2⟩, by rw [← hs3, Heap.size_push]; exact Nat.lt_succ_of_lt l⟩
    rw [← hHs, upd_ne (by rw [← hD]; exact Nat.ne_of_lt l)]; exact (f2 b hb).1
  have I4 := block_start I3 ok hN f3
  obtain ⟨cl, hcl⟩ : ∃ cl, cellsFrom (s3.heap.objs.size + 1) scope.names (cloFrom X.env.cells scope.names []) = cl := ⟨_, rfl⟩
  obtain ⟨ce, hce⟩ : ∃ ce, compEnvC scope cl s3.heap.objs.size X.env = ce := ⟨_, rfl⟩
  have pg := hg s3 Hs s3.heap.objs.size cl fp
  have pt := ht s3 Hs s3.heap.objs.size cl fp
  have pe := he s3 Hs s3.heap.objs.size cl fp
  rw [hce] at pg pt pe
  rw [hcl, hce] at I4
  rw [hHs] at v0
  have cL : ce.locals = s3.heap.objs.size := by rw [← hce]; rfl
  obtain ⟨s4, hs4⟩ : ∃ s4 : Shared, ({ s3 with heap := pushCells (s3.heap.push { cls := .type "dict", data := .dict #[] }) scope.names } : Shared) = s4 := ⟨_, rfl⟩
  have hgo : codeAny (model X.prog X.w) X.A (.compStart (.SetComp elt [⟨tg, iter, ifs, 0⟩] scope pos) 0 (.ref it) (.ref D) ce) (compPost (model X.prog X.w) X.A X.xe none (EP X pins σ Q) (.ref D) s3.heap.objs.size) s4 := by
    rw [hs4] at I4
    have st3 : tn 0 s3.heap := T.keep _ _ _ st2 fun b _ o e => k3 b o e
    have st4 : tn 0 s4.heap := T.keep _ _ _ st3 fun b _ o e => by rw [← hs4]; exact pushCells_keeps _ _ _ _ (Heap.get?_push_of_some _ e)
    have still : ∀ {σ' : L2.St} {H' : Hp} {s' : Shared}, Inv (X.blk s3 Hs scope ce fp) [] σ' H' s' → (∀ b ∈ fp, H' b = none) → ∀ b ∈ fp, FpOk (X.blk s3 Hs scope ce fp) [] H' b := fun {σ' H' s'} I' hn b hb =>
      ⟨hn b hb, (I'.ok.exf b hb).1, I'.ok.exfs b hb, .inl hb, (fun x c e => (I'.ok.exf b hb).2 x c e), fun p hp => absurd (show p ∈ ([] : List (Addr × Obj)) ++ [] from hp) (by simp)⟩
    have loop : codeAny (model X.prog X.w) X.A (.compLoop (.SetComp elt [⟨tg, iter, ifs, 0⟩] scope pos) 0 (.ref it) (.ref D) ce) (compPost (model X.prog X.w) X.A X.xe none (EP X pins σ Q) (.ref D) s3.heap.objs.size) s4 := by
      refine PpSet.compLoopS_any (fun n s' => ∃ i H', Inv (X.blk s3 Hs scope ce fp) [] (wipe σ (own.map (·.2))) H' s' ∧ tn i s'.heap ∧ (∀ b ∈ fp, H' b = none) ∧ V i n H') ?_ m0 ⟨0, Hs, I4, st4, fun b hb => (f3 b hb).1.1, v0⟩
      rintro n s5 ⟨i, H5, I5, st5, n5, v5⟩
      rcases turn i n H5 v5 with ⟨stop, fine⟩ | ⟨go, N, hN2, step⟩
      · refine thnF (T.done (X.blk s3 Hs scope ce fp) rfl rfl rfl hc i [] s5 _ H5 (fun _ _ => False) I5 (still I5 n5) st5 stop) fun r s6 ⟨hr, I6⟩ => ?_
        subst hr
        have I7 : Inv X pins σ H5 s6 := I3.call' (ch := fp) I6.os I6.base I6.hok I6.bare fun b hb => let ⟨⟨_, a1, a2, a3, a4, a5⟩, _⟩ := f3 b hb; ⟨a3, a1, a4, a5⟩
        have nC : H5 s3.heap.objs.size = none := cL ▸ I6.free
        obtain ⟨m, hn, _⟩ := I6.loc
        refine ⟨m, cL ▸ hn, fun h2 sb => ?_⟩
        obtain ⟨f0, f1, f2, f4, f5, f6⟩ := I3.fpOk (Nat.le_refl _) nC
        exact ⟨.ref D, H5, I7.turned (t' := s6.toks) (fun b o hb e => (sb.2 b hb).trans e) f0 f1 f4 f5 f6, rfl, fine⟩
      · refine thnF (T.item (X.blk s3 Hs scope ce fp) rfl rfl rfl hc i [] s5 _ H5 (fun _ _ => False) I5 (still I5 n5) st5 go) fun r s6 ⟨u, hr, h6⟩ => ?_
        subst hr
        refine thnF h6 fun _ s7 ⟨x, H7, I7, r7, y7, st7, n7⟩ => ?_
        refine thnF (pg.run _ s7 _ H7 x u _ (I7.pinned (still I7 n7) (T.obj _ _ st7)) r7 (step x H7 y7)) fun _ s8 ⟨σ8, H8, I8, hw8, q8⟩ => ?_
        refine thnF (pt.run _ s8 σ8 H8 _ I8 q8) fun b s9 ⟨H9, I9, q9⟩ => ?_
        have fin : ∀ {s' : Shared} {H' : Hp}, Inv (X.blk s3 Hs scope ce fp) ([] ++ pinsAt fp s7.heap) σ8 H' s' → N H' → ∃ m, m < n ∧ ∃ i H', Inv (X.blk s3 Hs scope ce fp) [] (wipe σ (own.map (·.2))) H' s' ∧ tn i s'.heap ∧ (∀ b ∈ fp, H' b = none) ∧ V i m H' := fun {s' H'} I' nx => by
          obtain ⟨m', hm, v'⟩ := hN2 H' nx
          have kept : ∀ b ∈ fp, ∀ o, s7.heap.get? b = some o → s'.heap.get? b = some o ∧ H' b = none := fun b hb o e => let z := I'.pin (b, o) (List.mem_append_right _ (List.mem_append_right _ (mem_pinsAt hb e))); ⟨z.1, z.2.1⟩
          refine ⟨m', hm, i + 1, H', (I'.unpinned (pins := [])).weak (by rw [← hw8, wipe_length]) (fun j v e => ?_), T.keep _ _ _ st7 (fun b hb o e => (kept b hb o e).1), (fun b hb => ?_), v'⟩
          · rw [← hw8] at e; exact (wipe_some e).1
          · obtain ⟨o, e, _⟩ := T.obj _ _ st7 b hb
            exact (kept b hb o e).2
        cases b with
        | false =>
          simp only [Bool.false_eq_true, if_false] at q9 ⊢
          exact fin I9 q9
        | true =>
          simp only [if_true] at q9 ⊢
          refine thnF (pe.run _ s9 σ8 H9 _ I9 q9) fun z s10 ⟨yv, H10, I10, r10, q10⟩ => ?_
          exact thnF (mt_sadd _ s10 σ8 H10 (.ref D) [yv] (.ref D) [z] (fun _ H5 => N H5) I10 rfl (.cons r10 .nil) q10) fun _ s11 ⟨_, H11, I11, _, nx⟩ => fin I11 nx
    exact PpSet.codeAny_compStart_set loop (T.self X.A 0 _ _ _ st4 loop)
  rw [← hs4, ← hce, ← hcl, ← hD, ← hs3] at hgo
  exact hgo
end
end M1

/-! part Z: sorted({x for ..}) -/
namespace M1
open PySem PySem.Spec L2
variable [LT]
/-! ### rising lists -/
def insU (x : Int) : List Int → List Int
  | [] => [x]
  | y :: r => if x < y then x :: y :: r else if x = y then y :: r else y :: insU x r
theorem insU_mem {x k : Int} : ∀ {l : List Int}, k ∈ insU x l ↔ k = x ∨ k ∈ l
  | [] => by simp [insU]
  | y :: r => by
    unfold insU
    split
    · simp
    · split
      · rename_i h; subst h; simp
      · rw [List.mem_cons, insU_mem (l := r), List.mem_cons]
        constructor
        · rintro (h | h | h)
          · exact .inr (.inl h)
          · exact .inl h
          · exact .inr (.inr h)
        · rintro (h | h | h)
          · exact .inr (.inl h)
          · exact .inl h
          · exact .inr (.inr h)
theorem insU_up {x : Int} : ∀ {l : List Int}, l.Pairwise (· < ·) → (insU x l).Pairwise (· < ·)
  | [], _ => by simp [insU]
  | y :: r, h => by
    obtain ⟨h1, h2⟩ := List.pairwise_cons.mp h
    unfold insU
    split
    · rename_i hx
      refine List.pairwise_cons.mpr ⟨fun z hz => ?_, h⟩
      rcases List.mem_cons.mp hz with e | e
      · omega
      · have := h1 z e; omega
    · split
      · exact h
      · refine List.pairwise_cons.mpr ⟨fun z hz => ?_, insU_up h2⟩
        rcases insU_mem.mp hz with e | e
        · omega
        · exact h1 z e
theorem insU_len {x : Int} : ∀ {l : List Int}, l.Pairwise (· < ·) → (insU x l).length = if x ∈ l then l.length else l.length + 1
  | [], _ => by simp [insU]
  | y :: r, h => by
    obtain ⟨h1, h2⟩ := List.pairwise_cons.mp h
    unfold insU
    split
    · rename_i hx
      have : x ∉ y :: r := fun hm => by
        rcases List.mem_cons.mp hm with e | e
        · omega
        · have := h1 x e; omega
      rw [if_neg this]; rfl
    · split
      · rename_i h3; subst h3; rw [if_pos List.mem_cons_self]
      · rename_i h3 h4
        rw [List.length_cons, insU_len h2]
        by_cases hm : x ∈ r
        · rw [if_pos hm, if_pos (List.mem_cons_of_mem _ hm)]; rfl
        · rw [if_neg hm, if_neg (fun z => (List.mem_cons.mp z).elim h4 hm)]; rfl
theorem up_unique : ∀ {a b : List Int}, a.Pairwise (· < ·) → b.Pairwise (· < ·) → (∀ k, k ∈ a ↔ k ∈ b) → a = b
  | [], [], _, _, _ => rfl
  | [], y :: r, _, _, h => absurd ((h y).mpr List.mem_cons_self) List.not_mem_nil
  | x :: r, [], _, _, h => absurd ((h x).mp List.mem_cons_self) List.not_mem_nil
  | x :: r, y :: t, ha, hb, h => by
    obtain ⟨a1, a2⟩ := List.pairwise_cons.mp ha
    obtain ⟨b1, b2⟩ := List.pairwise_cons.mp hb
    have e : x = y := by
      rcases List.mem_cons.mp ((h x).mp List.mem_cons_self) with e | e
      · exact e
      · rcases List.mem_cons.mp ((h y).mpr List.mem_cons_self) with e2 | e2
        · exact e2.symm
        · have := b1 x e; have := a1 y e2; omega
    subst e
    rw [up_unique a2 b2 fun k => ?_]
    constructor
    · intro hk
      rcases List.mem_cons.mp ((h k).mp (List.mem_cons_of_mem _ hk)) with e | e
      · have := a1 k hk; omega
      · exact e
    · intro hk
      rcases List.mem_cons.mp ((h k).mpr (List.mem_cons_of_mem _ hk)) with e | e
      · have := b1 k hk; omega
      · exact e
def scL (gd : Gd) (t : Tg) (c : Rho → Sto → Res Bool) (el : Dn) (ρ : Rho) : List Vl → List Int → Sto → Res (List Int)
  | [], us, st => if gdOk gd st = true then .ok us st else .stuck
  | w :: ws, us, st => if gdOk gd st = true then match setT t w ρ with
      | some ρ1 => (quiet (c ρ1 st)).bind fun b st => if b = true then (quiet (el ρ1 st)).bind fun v st => match v with
            | .d (.int k) => scL gd t c el ρ ws (insU k us) st
            | _ => .stuck
          else scL gd t c el ρ ws us st
      | none => .stuck
    else .stuck
def scM (mi : Rho → Sto → Res (List Vl × Gd)) (t : Tg) (own : List Nat) (c : Rho → Sto → Res Bool) (el : Dn) (ρ : Rho) (st : Sto) : Res (List PyData) :=
  (mi ρ st).bind fun a st => if a.1.length < 4000 then (scL a.2 t c el (wipeR ρ own) a.1 [] st).bind fun us st => if us.length < 64 then .ok (us.map .int) st else .stuck else .stuck
omit [LT] in
theorem plain_set (w : World) (D : Addr) (S : Int → Bool) (n : Nat) : Plain (SetO w D S n) := ⟨(fun ps z => by have z : HO.ext _ = HO.tbl ps := z; cases z), fun c q z => by
  have z : HO.ext (fun h => SetR w h D S n) = HO.ext _ := z
  injection z with z
  have hg : ∀ a, (⟨Array.replicate (c + 1) ⟨.none, none, .fields #[.none, .str q 0], #[]⟩, {}⟩ : Heap).get? a = if a < c + 1 then some ⟨.none, none, .fields #[.none, .str q 0], #[]⟩ else none := fun a => by
    unfold Heap.get?
    rw [Array.getElem?_replicate]
    by_cases ha : a < c + 1
    · rw [if_pos ha]
    · rw [if_neg ha]
  have hc : ∃ (oc : Obj) (vs : Array Value) (t : Tok), (⟨Array.replicate (c + 1) ⟨.none, none, .fields #[.none, .str q 0], #[]⟩, {}⟩ : Heap).get? c = some oc ∧ oc.data = .fields vs ∧ vs[1]? = some (.str q t) :=
    ⟨_, _, 0, (hg c).trans (if_pos (Nat.lt_succ_self c)), rfl, rfl⟩
  have hs : SetR w (⟨Array.replicate (c + 1) ⟨.none, none, .fields #[.none, .str q 0], #[]⟩, {}⟩ : Heap) D S n := by
    rw [show SetR w (⟨Array.replicate (c + 1) ⟨.none, none, .fields #[.none, .str q 0], #[]⟩, {}⟩ : Heap) D S n = _ from congrFun z _]
    exact hc
  obtain ⟨o, es, ep, t, ho, _, hd, _⟩ := hs
  rw [hg] at ho
  split at ho
  · cases ho
    cases hd
  · cases ho⟩
theorem Rel.pvDrop {K : PySem.W.Frag} {H : Hp} {g : Gh} {st : Sto} (R : Rel K H g st) {D : Addr} {o : HO} {pv0 : Hp} (hp : g.pv = upd pv0 D o) (h0 : pv0 D = none) : Rel K H { g with pv := pv0 } st :=
  ⟨R.sub, R.apart, R.there, R.nd, R.len, R.closed, R.closedO, fun n as c h1 h2 => CellR.mono ⟨Same.refl _, fun _ _ r h => ⟨r, h⟩⟩ (fun _ _ => rfl) (R.cells n as c h1 h2), fun q u hq => R.aside q u (by
    have hq : pv0 q = some u := hq
    rw [hp, upd_ne fun z : q = D => by rw [z, h0] at hq; cases hq]
    exact hq), R.tabs, R.notbl⟩

theorem scL_cons {gd : Gd} {t : Tg} {c : Rho → Sto → Res Bool} {el : Dn} {ρ : Rho} {w : Vl} {ws : List Vl} {us : List Int} {st st' : Sto} {r : List Int} (h : scL gd t c el ρ (w :: ws) us st = .ok r st') :
    gdOk gd st = true ∧ ∃ ρ1 b st1, setT t w ρ = some ρ1 ∧ c ρ1 st = .ok b st1 ∧ ((b = false ∧ scL gd t c el ρ ws us st1 = .ok r st') ∨ (b = true ∧ ∃ k st2, el ρ1 st1 = .ok (.d (.int k)) st2 ∧ scL gd t c el ρ ws (insU k us) st2 = .ok r st')) := by
  unfold scL at h
  split at h
  · rename_i hg
    split at h
    · rename_i ρ1 hs
      refine ⟨hg, ρ1, ?_⟩
      cases hc : M1.quiet (c ρ1 st) with
      | stuck => rw [hc] at h; cases h
      | err => rw [hc] at h; cases h
      | ok b st1 =>
        rw [hc, Res.bind_ok] at h
        refine ⟨b, st1, hs, quiet_ok hc, ?_⟩
        cases b with
        | false => rw [if_neg Bool.false_ne_true] at h; exact .inl ⟨rfl, h⟩
        | true =>
          rw [if_pos rfl] at h
          cases he : M1.quiet (el ρ1 st1) with
          | stuck => rw [he] at h; cases h
          | err => rw [he] at h; cases h
          | ok v st2 =>
            rw [he, Res.bind_ok] at h
            split at h
            · exact .inr ⟨rfl, _, st2, quiet_ok he, h⟩
            · cases h
    · cases h
  · cases h
theorem scL_noerr (gd : Gd) (t : Tg) (c : Rho → Sto → Res Bool) (el : Dn) (ρ : Rho) : ∀ (ws : List Vl) (us : List Int) (st : Sto) (x : Exn) (st' : Sto), scL gd t c el ρ ws us st ≠ .err x st'
  | [], us, st, x, st' => fun h => by unfold scL at h; split at h <;> cases h
  | w :: ws, us, st, x, st' => fun h => by
    unfold scL at h
    split at h
    · split at h
      · rename_i ρ1 hs
        cases hc : M1.quiet (c ρ1 st) with
        | stuck => rw [hc] at h; cases h
        | err => revert hc; cases c ρ1 st <;> intro hc <;> cases hc
        | ok b st1 =>
          rw [hc, Res.bind_ok] at h
          cases b with
          | false => rw [if_neg Bool.false_ne_true] at h; exact scL_noerr gd t c el ρ ws us st1 x st' h
          | true =>
            rw [if_pos rfl] at h
            cases he : M1.quiet (el ρ1 st1) with
            | stuck => rw [he] at h; cases h
            | err => revert he; cases el ρ1 st1 <;> intro he <;> cases he
            | ok v st2 =>
              rw [he, Res.bind_ok] at h
              split at h
              · exact scL_noerr gd t c el ρ ws _ _ _ _ h
              · cases h
      · cases h
    · cases h
section
variable {X : Cx} {W : WX}
theorem sc_read {mi : Rho → Sto → Res (List Vl × Gd)} {t : Tg} {own : List Nat} {c : Rho → Sto → Res Bool} {el : Dn} (ho : ∀ i ∈ t.slots, i ∈ own) {σ : St} {H : Hp} {Q : VK} (h : tF X W (scM mi t own c el) σ H Q) :
    tCB (rSortedSet X.w) (tCons (tScI X.w (tDI X W mi) (tGp X t) (tDT X W0 c) (tD X W0 el) own) tNil) σ H Q := by
  obtain ⟨g, ρ, st, R, E, q⟩ := h
  refine ⟨g, ρ, st, R, E, PostF.bind q fun J H1 a st1 g1 l1 R1 it q1 => ?_⟩
  obtain ⟨items, gd⟩ := a
  split at q1
  · rename_i hlen
    have hlen : items.length < 4000 := hlen
    cases hr : scL gd t c el (wipeR ρ own) items [] st1 with
    | stuck => rw [hr] at q1; exact q1.elim
    | err => exact absurd hr (scL_noerr _ _ _ _ _ _ _ _ _ _)
    | ok uE stE =>
      rw [hr, Res.bind_ok] at q1
      intro D hD
      have hpv : g1.pv D = none := by
        cases hz : g1.pv D with
        | none => rfl
        | some u => have := (R1.aside D u hz).1; rw [hD] at this; cases this
      have hin : ∀ (S : Int → Bool) (k : Int) (us : List Int), (∀ j, S j = true ↔ j ∈ us) → (∀ j, (fun j => S j || decide (j = k)) j = true ↔ j ∈ insU k us) := fun S k us hS j => by
        rw [insU_mem, ← hS j]
        simp [or_comm]
      refine ⟨fun i m H' => i + m = items.length ∧ ∃ g' st' us S, g1.le0 g' ∧ g'.pv = upd g1.pv D (SetO X.w D S us.length) ∧ Rel X.K H' g' st' ∧ us.Pairwise (· < ·) ∧ (∀ j, S j = true ↔ j ∈ us) ∧ us.length ≤ i ∧ scL gd t c el (wipeR ρ own) (items.drop i) us st' = .ok uE stE,
        ⟨items.length, by omega, { g1 with pv := upd g1.pv D (SetO X.w D (fun _ => false) 0) }, st1, [], fun _ => false, ⟨Same.refl _, fun _ _ r h => ⟨r, h⟩⟩, rfl, R1.pvNew hD _ (plain_set _ _ _ _), .nil, (fun j => by simp), Nat.le_refl _, hr⟩, ?_⟩
      rintro i m H' ⟨him, g', st', us, S, l', hp', R', hup, hS, hal, hrest⟩
      have hpD : g'.pv D = some (SetO X.w D S us.length) := by rw [hp', upd_same]
      cases hd : items.drop i with
      | nil =>
        rw [hd] at hrest
        unfold scL at hrest
        split at hrest
        · rename_i hgd
          cases hrest
          have hl0 : items.length ≤ i := List.drop_eq_nil_iff.mp hd
          refine .inl ⟨(it i H' g' _ l' R' hgd).2 (by omega : i = items.length), ?_⟩
          split at q1
          · rename_i h64
            refine ⟨D, S, _, rfl, (R'.aside D _ hpD).1, h64, fun ns p n1 n2 _ hp => ?_⟩
            rw [up_unique n1 hup fun k => (n2 k).trans (hS k)]
            exact q1 H' { g' with pv := g1.pv } ⟨⟨l'.1, l'.2⟩, rfl⟩ (R'.pvDrop hp' hpv) _ (ints_dqAll _) p hp
          · exact q1.elim
        · cases hrest
      | cons w ws =>
        obtain ⟨hw, hws, hlt⟩ := drop_get hd
        rw [hd] at hrest
        obtain ⟨hgd, ρ1, b, st2, hs, hc, hb⟩ := scL_cons hrest
        obtain ⟨hgo, hy⟩ := (it i H' g' st' l' R' hgd).1 hlt
        refine .inr ⟨hgo, fun H2 => i + 1 + (m - 1) = items.length ∧ ∃ g' st' us S, g1.le0 g' ∧ g'.pv = upd g1.pv D (SetO X.w D S us.length) ∧ Rel X.K H2 g' st' ∧ us.Pairwise (· < ·) ∧ (∀ j, S j = true ↔ j ∈ us) ∧ us.length ≤ i + 1 ∧ scL gd t c el (wipeR ρ own) (items.drop (i + 1)) us st' = .ok uE stE, fun H2 n => ⟨m - 1, by omega, n⟩, fun x H2 hx => ?_⟩
        obtain ⟨g2, w', l2, R2, ew, rw'⟩ := hy x H2 hx
        rw [hw] at ew
        cases ew
        have Ew : RhoR X.mg X.K g2 (wipe σ own) (wipeR ρ own) := wipe_rho (E.mono (l1.1.trans (l'.trans l2.1))) own
        refine ⟨g2, wipeR ρ own, st', w, ρ1, R2, Ew, rw', hs, fun σ3 E3 k3 => ⟨wipe_idem k3 ho, g2, ρ1, st', R2, E3, ?_⟩⟩
        rw [hc]
        intro u H3 g3 l3 R3 eu
        subst eu
        rcases hb with ⟨rfl, hrec⟩ | ⟨rfl, k, st4, hel, hrec⟩
        · rw [if_neg Bool.false_ne_true]
          exact ⟨by omega, g3, st2, us, S, l'.trans (l2.1.trans l3.1), l3.2.trans (l2.2.trans hp'), R3, hup, hS, by omega, by rw [← hws]; exact hrec⟩
        · rw [if_pos rfl]
          refine ⟨g3, ρ1, st2, R3, E3.mono l3.1, ?_⟩
          rw [hel]
          intro y H4 g4 l4 R4 ry
          cases ry
          have hpv4 : g4.pv = upd g1.pv D (SetO X.w D S us.length) := l4.2.trans (l3.2.trans (l2.2.trans hp'))
          have hpD4 : g4.pv D = some (SetO X.w D S us.length) := by rw [hpv4, upd_same]
          refine ⟨D, k, S, us.length, rfl, rfl, (R4.aside D _ hpD4).1, by unfold scanBound; omega, by omega, { g4 with pv := upd g1.pv D (SetO X.w D (fun j => S j || decide (j = k)) (if S k = true then us.length else us.length + 1)) }, st4, insU k us, fun j => S j || decide (j = k), l'.trans (l2.1.trans (l3.1.trans l4.1)), ?_, R4.pvSet hpD4 _ _ (by rw [hpv4, upd_upd]) (plain_set _ _ _ _), insU_up hup, hin S k us hS, ?_, ?_⟩
          · rw [insU_len hup]
            by_cases hk : k ∈ us
            · rw [if_pos hk, if_pos ((hS k).mpr hk)]
            · rw [if_neg hk, if_neg fun z => hk ((hS k).mp z)]
          · rw [insU_len hup]
            split <;> omega
          · rw [← hws]; exact hrec
  · exact q1.elim
theorem jf_sortSC {elt tg iter : Expr} {ifs : List Expr} {scope : Scope} {own : List (Str × Nat)} {p pos pos2 : Pos} {mi : Rho → Sto → Res (List Vl × Gd)} {t : Tg} {c : Rho → Sto → Res Bool} {el : Dn} (hm2 : X.mg "sorted" = none) (hg2 : Gl X "sorted") (hc : X.calm = true) (hN : X.N.Nodup) (hi : JI X W tg iter mi) (ok : BlkOk X.N X.env.scope scope own)
    (hg : ∀ (s : Shared) (H : Hp) (C : Addr) (cl : List (Str × Addr)) (fp : List Addr), JG (X.blk s H scope (compEnvC scope cl C X.env) fp) tg t) (ht : ∀ (s : Shared) (H : Hp) (C : Addr) (cl : List (Str × Addr)) (fp : List Addr), JTs (X.blk s H scope (compEnvC scope cl C X.env) fp) W0 ifs c)
    (he : ∀ (s : Shared) (H : Hp) (C : Addr) (cl : List (Str × Addr)) (fp : List Addr), JE (X.blk s H scope (compEnvC scope cl C X.env) fp) W0 elt el) (hs : ∀ x, foldedSetIterable iter X.env x = pure x) (ho : ∀ i ∈ t.slots, i ∈ own.map (·.2))
    (h1 : starEach [.SetComp elt [⟨tg, iter, ifs, 0⟩] scope pos2] X.env = (false, eval (.SetComp elt [⟨tg, iter, ifs, 0⟩] scope pos2) X.env) :: starEach [] X.env) (hpl : (backTo pos (starEach [] X.env)).any (·.1) = false) :
    JF X W (.Call (.Name "sorted" p) [.SetComp elt [⟨tg, iter, ifs, 0⟩] scope pos2] [] pos) (scM mi t (own.map (·.2)) c el) :=
  PE.imp (pe_callB (cr_sortedSet hc) hg2 hm2 bb_sorted (pa_cons (pe_scI (g := tGp X t) (tt := tDT X W0 c) (te := tD X W0 el) hc hN hi ok hg ht he hs) pa_nil h1) (by decide) (by decide) h1 hpl) fun _ _ _ h => sc_read ho h
end
end M1

/-! part YA: a lambda without parameters, handed to a def of the text that calls it -/
namespace M1
open PySem PySem.Spec L2 LamX PyProof.Rows
variable [LT]
/-! ### the thunk is called -/
section
variable {X : Cx} {pins : List (Addr × Obj)} {σ : L2.St} {H : Hp} {s : Shared}
end
abbrev CxG (P : Program) (w : World) (K : PySem.W.Frag) (mg : Str → Option Value) (base : Heap) (NG : List Str) (x : Str) (sG : Scope) (gG : Addr) (cdG : Value) (A : Around) (outer : List Env) (s : Shared) (H : Hp) : Cx :=
  cxOf (L2.CX P w) P w K mg base NG x sG gG cdG A outer s H fun _ _ _ => False
/-- what the def does with the thing that it got: TT, told of the thing's own reading -/
def GivesS (P : Program) (w : World) (K : PySem.W.Frag) (mg : Str → Option Value) (base : Heap) (A : Around) (outer : List Env) (NG : List Str) (x : Str) (sG : Scope) (gG : Addr) (cdG : Value) (bG : List Stmt) (a : Str) (q : Str) (TT : (XK → Hp → VK → Prop) → Hp → VK → Prop) : Prop :=
  ∀ (f c' : Addr) (s : Shared) (H : Hp) (Q : VK) (tl : XK → Hp → VK → Prop),
    (∀ (W : WX) (pn : List (Addr × Obj)) (xe : Value → Shared → Prop) (p1 p2 : Pos), Takes ((CxG P w K mg base NG x sG gG cdG A outer s H).tr pn xe) W →
      PE ((CxG P w K mg base NG x sG gG cdG A outer s H).tr pn xe) (.Call (.Name a p1) [] [] p2) (fun σZ HZ Q => σZ[0]? = some (some (.ref f)) ∧ HZ c' = some (CodeO c' q) ∧ tl (WE W σZ) HZ Q)) →
    H c' = some (CodeO c' q) → TT tl H Q →
    ∃ t, PSs (CxG P w K mg base NG x sG gG cdG A outer s H) bG t ∧ t { nx := fun _ H' => Q .non H', rt := Q } (L2.start NG [.ref f]) H
section
variable {X : Cx}
end
end M1

/-! part YB: what a def computes of a thunk -/
namespace M1
open PySem PySem.Spec L2 LamX
/-- no thunk is handed on -/
def noF : Res Vl → Res Vl
  | .ok .f _ => .stuck
  | r => r
/-- nothing is raised either -/
def calmF : Res Vl → Res Vl
  | .ok .f _ => .stuck
  | .err _ _ => .stuck
  | r => r
@[simp] theorem noF_d (d : PyData) (st : Sto) : noF (.ok (.d d) st) = .ok (.d d) st := rfl
@[simp] theorem noF_c (n : Nat) (st : Sto) : noF (.ok (.c n) st) = .ok (.c n) st := rfl
@[simp] theorem noF_err (x : Exn) (st : Sto) : noF (.err x st) = .err x st := rfl
@[simp] theorem calmF_d (d : PyData) (st : Sto) : calmF (.ok (.d d) st) = .ok (.d d) st := rfl
/-- what a def computes of a thunk -/
abbrev FL := (Sto → Res Vl) → Sto → Res Vl
variable [I0 : LT]
/-- the reading of F, told of a thunk's -/
def ttF (K : PySem.W.Frag) (mg : Str → Option Value) (F : FL) : (XK → Hp → VK → Prop) → Hp → VK → Prop := fun tl H Q =>
  ∃ (g : Gh) (st : Sto) (tm : Sto → Res Vl) (cap : Gh → Prop), Rel K H g st ∧ (∀ g' : Gh, g.le0 g' → cap g') ∧ (∀ (H' : Hp) (g' : Gh) (st' : Sto) (E' : XK) (Q' : VK), cap g' → Rel K H' g' st' → PostC K mg g' Q' E' (noF (tm st')) → tl E' H' Q') ∧
    PostC K mg g Q (fun _ _ _ => False) (calmF (F (fun st => noF (tm st)) st))
/-- a def of one parameter, a thunk that it calls -/
structure GiveP (P : Program) (w : World) (K : PySem.W.Frag) (mg : Str → Option Value) (base : Heap) (x a : Str) (k : Nat) (F : FL) : Prop where
  ex : ∃ (gG : Addr) (pG : Arguments) (bG : List Stmt) (sG : Scope) (dV kV doc pm cdv ct oc : Value) (an od : Option Addr) (osl : Array (Option Value)) (NG : List Str),
    mg x = some (.ref gG) ∧ PySem.W.keepIn K (.ref gG) = true ∧ K.lookup gG = some ⟨oc, od, .func (PySem.W.fnOf x x pG bG sG dV kV doc pm an cdv ct), osl⟩ ∧ PySem.W.codeIn K cdv x = true ∧
      L2.Binds K (PySem.W.fnOf x x pG bG sG dV kV doc pm an cdv ct) [a] [] ∧ FnScope NG [a] sG ∧ NG[0]? = some a ∧ Vis sG a ∧
      ∀ (A : Around) (outer : List Env) (q : Str), Room (k + 1) A → GivesS P w K mg base A outer NG x sG gG cdv bG a q (ttF K mg F)
/-- the defs that make lambdas -/
structure LamAt (X : Cx) : Prop where
  ex : ∃ c P, TabB X.base X.mg c P ∧ X.env.code = .ref c ∧ (P, X.env.qual ++ "<lambda>") ∈ LT.T ∧ ∀ p ∈ LT.T, p.1 = P → p.2 = X.env.qual ++ "<lambda>"
section
variable {X : Cx} {W : WX}
end
end M1

/-! part YC: a clause with a tuple of classes -/
namespace M1
open PySem PySem.Spec PySem.Calls L2 LamX PyProof.Rows PySem.W
section
variable {M : Model} {K : Frag}
end
end M1

/-! part YD: try: .. except (..) as e: x = e, the error kept -/
namespace M1
open PySem PySem.Spec PySem.Calls L2 LamX PyProof.Rows
section
variable {X : Cx} {pins : List (Addr × Obj)} {σ : L2.St} {H : Hp} {s : Shared}
end
section
variable {X : Cx} {n y : Str} {i j : Nat} {body : List Stmt} {ty : Expr} {p1 p2 p3 pos pos' : Pos} {tb : WX → TS} {Wout : WX}
end
end M1

/-! part YE: an error held: its class asked, its field read -/
namespace PySem.W
open PySem PySem.Spec PySem.Calls PyProof.Rows
section
variable {prog : Program} {w : World} {A : Around} {E : Value → Shared → Prop} {s : Shared} {K : Frag} {x D : Addr} {ox : Obj} {od : Option Obj}
/-- what isinstance wants of the class of a held error -/
structure HeldC (K : Frag) (D : Addr) : Prop where
  ga : findIn K (.ref D) "__getattribute__" = some (some (.builtin "BaseException.__getattribute__"))
  gt : findIn K (.ref D) "__getattr__" = some none
  sb : subIn K (.ref D) (.type "BaseException") = some true
  dc : hasDictIn K D = true
  cl : findIn K (.ref D) "__class__" = some (some (.builtin "object.__class__"))
  sp : specialIn K (.builtin "object.__class__") "__get__" = some (some (.builtin "getset_descriptor.__get__"))
  tk : takesIn K (.builtin "object.__class__") = some true
  mr : mroIn K D (.type "object") = some true
end
end PySem.W
namespace M1
open PySem PySem.Spec L2 LamX PyProof.Rows
variable [LT]
section
variable {X : Cx} {W : WX}
end
end M1

/-! part YF: isinstance and fields of held errors; own errors raised -/
namespace M1
open PySem PySem.Spec L2 LamX PyProof.Rows
/-- the method number j of a class -/
def clsFn (s : Stmt) (j : Nat) : Stmt := match s with
  | .ClassDef _ _ _ body _ _ _ _ _ _ _ => body.getD j (.Pass ⟨0, 0, 0, 0⟩)
  | _ => .Pass ⟨0, 0, 0, 0⟩
variable [LT]
section
variable {X : Cx} {W : WX} {x : Str} {C : Addr} {p pos : Pos}
end
/-! ### raising -/
def bmV : List Value := [.type "ValueError", .type "Exception", .type "BaseException", .type "object"]
def bmL : List Value := [.type "LookupError", .type "Exception", .type "BaseException", .type "object"]
def bmO : List Value := [.type "OverflowError", .type "ArithmeticError", .type "Exception", .type "BaseException", .type "object"]
omit [LT] in
theorem erB_V : ErB "ValueError" "ValueError.__new__" "ValueError.__init__" bmV := ⟨PySem.F.excBase_ValueError, PySem.F.store_ValueError, rfl, rfl, by decide, by decide, by decide, by kernel_rfl⟩
omit [LT] in
theorem erB_L : ErB "LookupError" "LookupError.__new__" "LookupError.__init__" bmL := ⟨PySem.F.excBase_LookupError, PySem.F.store_LookupError, rfl, rfl, by decide, by decide, by decide, by kernel_rfl⟩
omit [LT] in
theorem erB_O : ErB "OverflowError" "OverflowError.__new__" "OverflowError.__init__" bmO := ⟨PySem.F.excBase_OverflowError, PySem.F.store_OverflowError, rfl, rfl, by decide, by decide, by decide, by kernel_rfl⟩
end M1

/-! part YG: raise C(e), C a class of the text -/
namespace M1
open PySem PySem.Spec L2 LamX PyProof.Rows
/-- what the written part says of such a class -/
def ErK (K : PySem.W.Frag) (nm qual : Str) (B newId initId : String) (bmB : List Value) (f : Str) (st : Stmt) : Prop :=
  ∃ (C fI : Addr) (oc : Value) (od an : Option Addr) (osl : Array (Option Value)) (kV doc pm cdv ct : Value), PySem.W.nsIn K mainGlobals nm = some (some (.ref C)) ∧ ErC K C newId bmB ∧ PySem.W.takerIn K C f = some none ∧ PySem.W.findIn K (.ref C) "__init__" = some (some (.ref fI)) ∧
    PySem.W.typeIn K (.ref fI) = some (.type "function") ∧ K.lookup fI = some ⟨oc, od, .func (PySem.W.fnOf "__init__" qual (defArgs st) (defBody st) (defScope st) .none kV doc pm an cdv ct), osl⟩ ∧ PySem.W.codeIn K cdv qual = true ∧ PySem.W.keepIn K (.ref fI) = true ∧
    PySem.W.findCls K (.type B) (.type "type") "__init__" = some (.val (.builtin initId))
theorem erK_mk {K : PySem.W.Frag} {nm qual : Str} {B newId initId : String} {bmB : List Value} {f : Str} {st : Stmt} {C fI : Addr} {oc : Value} {od an : Option Addr} {osl : Array (Option Value)} {kV doc pm cdv ct : Value}
    (a : PySem.W.nsIn K mainGlobals nm = some (some (.ref C))) (b : PySem.W.findIn K (.ref C) "__init__" = some (some (.ref fI))) (l : K.lookup fI = some ⟨oc, od, .func (PySem.W.fnOf "__init__" qual (defArgs st) (defBody st) (defScope st) .none kV doc pm an cdv ct), osl⟩)
    (c : PySem.W.codeIn K cdv qual = true) (k : PySem.W.keepIn K (.ref fI) = true) (t : PySem.W.typeIn K (.ref fI) = some (.type "function")) (h : PySem.W.takerIn K C f = some none) (v : PySem.W.findCls K (.type B) (.type "type") "__init__" = some (.val (.builtin initId)))
    (e1 : PySem.W.excInitIn K C bmB newId = true) (e2 : PySem.W.excOver K C bmB = true) (e3 : PySem.W.hasDictIn K C = true) (e4 : PySem.W.findIn K (.ref C) "__setattr__" = some (some (.builtin "object.__setattr__"))) (e5 : PySem.W.subIn K (.ref C) (.type "BaseException") = some true)
    (e6 : PySem.W.typeIn K (.ref C) = some (.type "type")) (e7 : PySem.W.keepIn K (.ref C) = true) : ErK K nm qual B newId initId bmB f st :=
  ⟨C, fI, oc, od, an, osl, kV, doc, pm, cdv, ct, a, ⟨e1, e2, by obtain ⟨cd, hc, hd⟩ := PySem.W.any_some e3; exact ⟨cd, hc, hd⟩, e4, e5, e6, e7⟩, h, b, t, l, c, k, v⟩
/-- the same, the names read -/
def ErT (K : PySem.W.Frag) (mg : Str → Option Value) (nm qual : Str) (B newId initId : String) (bmB : List Value) (f pn : Str) (st : Stmt) : Prop :=
  ∃ (C fI : Addr) (fd : FuncData), mg nm = some (.ref C) ∧ ErC K C newId bmB ∧ PySem.W.takerIn K C f = some none ∧ PySem.W.findIn K (.ref C) "__init__" = some (some (.ref fI)) ∧
    PySem.W.typeIn K (.ref fI) = some (.type "function") ∧ Fun K "__init__" qual st fI fd ∧ Binds K fd ["self", pn] [] ∧ PySem.W.findCls K (.type B) (.type "type") "__init__" = some (.val (.builtin initId))
theorem ErK.told {K : PySem.W.Frag} {h : Heap} {mg : Str → Option Value} {nm qual : Str} {B newId initId : String} {bmB : List Value} {f pn : Str} {st : Stmt} (t : ErK K nm qual B newId initId bmB f st) (I : K.In h) (G : h.Ns mainGlobals mg)
    (hb : ∀ (kV doc pm : Value) (an : Option Addr) (cdv ct : Value) (us : List Value), us.length = (["self", pn] : List Str).length → bindArgs (PySem.W.fnOf "__init__" qual (defArgs st) (defBody st) (defScope st) .none kV doc pm an cdv ct) ⟨us, []⟩ = pure ((["self", pn] : List Str).zip us)) : ErT K mg nm qual B newId initId bmB f pn st := by
  obtain ⟨C, fI, oc, od, an, osl, kV, doc, pm, cdv, ct, a, ec, h2, b, ty, l, c, k, v⟩ := t
  exact ⟨C, fI, _, PySem.W.mg_of I G a, ec, h2, b, ty, fun_mk l c k, (fun_mk l c k).binds hb, v⟩
/-- raising it is carried -/
def RaiseF (P : Program) (w : World) (K : PySem.W.Frag) (mg : Str → Option Value) (base : Heap) (nm f : Str) : Prop :=
  ∃ (C fI : Addr) (fd : FuncData) (pn : Str) (B newId initId : String) (bmB : List Value), mg nm = some (.ref C) ∧ ErB B newId initId bmB ∧ ErC K C newId bmB ∧ PySem.W.findIn K (.ref C) "__init__" = some (some (.ref fI)) ∧ PySem.W.typeIn K (.ref fI) = some (.type "function") ∧
    L2.FnOk P w K mg base (L2.CX P w) 1 fI fd ["self", pn] (spErr C f) ∧ Binds K fd ["self", pn] []
theorem raise_ok [LT] {P : Program} {w : World} {K : PySem.W.Frag} {mg : Str → Option Value} {base : Heap} {nm qual : Str} {B newId initId : String} {bmB : List Value} {f pn m : Str} {st : Stmt} {p1 p2 p3 p4 p5 p6 p7 p8 p9 p10 : Pos} {k1 : Nat} (T : ErT K mg nm qual B newId initId bmB f pn st) (Bf : ErB B newId initId bmB) (S : FnScope ["self", pn] ["self", pn] (defScope st))
    (hB : mg (Str.ofString B) = none) (hst : defBody st = [.Expr (.Call (.Attribute (.Name (Str.ofString B) p1) "__init__" p2) [.Name "self" p3, .Constant (.str m) k1 p4] [] p5) p6, .Assign [.Attribute (.Name "self" p7) f p8] (.Name pn p9) p10])
    (hg : (defScope st).names.lookup (Str.ofString B) = some .globalImplicit) (hs1 : ∀ X : Cx, swapsWith (.Call (.Attribute (.Name (Str.ofString B) p1) "__init__" p2) [.Name "self" p3, .Constant (.str m) k1 p4] [] p5) none p6.line X.env = pure false) (hs2 : ∀ X : Cx, swapsWith (.Name pn p9) (some (.Attribute (.Name "self" p7) f p8)) p10.line X.env = pure false)
    (hc : ∀ X : Cx, ∃ pl : Sem Bool, eval (.Call (.Attribute (.Name (Str.ofString B) p1) "__init__" p2) [.Name "self" p3, .Constant (.str m) k1 p4] [] p5) X.env = (do
      let ov ← eval (.Name (Str.ofString B) p1) X.env
      standAt p2.atName
      let (f, first) ← holding [ov] (getMethod ov "__init__" pl)
      callWith p5 f first (backTo p5 (starEach [.Name "self" p3, .Constant (.str m) k1 p4] X.env)) (backToKw p5 (keywordEach [] X.env))))
    (hpn : (pn == ("__debug__" : Str)) = false) (hpn2 : (pn == ("__classdict__" : Str)) = false) : RaiseF P w K mg base nm f := by
  obtain ⟨C, fI, fd, hm, ec, hno, hi, hty, F, hb, hv⟩ := T
  refine ⟨C, fI, fd, pn, B, newId, initId, bmB, hm, Bf, ec, hi, hty, er_fn (m := m) F S ec hno fun cdv A outer s H E => ?_, hb⟩
  rw [hst]
  have vis : ∀ x, x ∈ (["self", pn] : List Str) → Vis (defScope st) x := fun x hx => by
    rcases S.par x hx with e | e
    · exact .inl e
    · exact .inr (.inl e)
  obtain ⟨pl, hc⟩ := hc (cxOf (L2.CX P w) P w K mg base ["self", pn] qual (defScope st) fI cdv A outer s H E)
  refine pss_cons (ps_expr (pe_erInit Bf hg hB hv (pa_cons (pe_var (i := 0) rfl (vis _ List.mem_cons_self)) (pa_cons pe_str pa_nil rfl) rfl) hc rfl rfl) (hs1 _)) (pss_one (ps_erField Bf (pe_var (i := 0) rfl (vis _ List.mem_cons_self)) (pe_var (i := 1) rfl (vis _ (List.mem_cons_of_mem _ List.mem_cons_self)) hpn hpn2) (hs2 _)))
section
variable [LT] {X : Cx} {W : WX} {e : Expr} {p pos pos2 : Pos}
theorem js_raiseF {nm f : Str} {m : Dn} (O : RaiseF X.prog X.w X.K X.mg X.base nm f) (hr : Room 2 X.A) (hcalm : X.calm = true) (tk : Takes X W) (hg : Gl X nm) (he : JE X W e m) (h1 : starEach [e] X.env = (false, eval e X.env) :: starEach [] X.env) (hpl : (backTo pos (starEach [] X.env)).any (·.1) = false) (hdb : (nm == ("__debug__" : Str)) = false) :
    JS X W (.Raise (some (.Call (.Name nm p) [e] [] pos)) none pos2) (raiseS nm f m) := by
  obtain ⟨C, fI, fd, pn, B, newId, initId, bmB, hm, Bf, ec, hi, hty, F1, hb⟩ := O
  exact js_raise hcalm tk hm (fun ta ha => pmk_er Bf ec hi hty F1 hr.base hb hg hm ha hdb h1 hpl) (ja_cons h1 he ja_nil)
end
end M1

/-! part YH: the table of the text's errors; what the walk's printer uses -/
namespace M1
open PySem PySem.Spec L2 LamX PyProof.Rows
abbrev ExL := List (Str × String)
def exBases : List String := ["ValueError", "LookupError", "OverflowError"]
def heldB (K : PySem.W.Frag) (D : Addr) : Bool :=
  decide (PySem.W.findIn K (.ref D) "__getattribute__" = some (some (.builtin "BaseException.__getattribute__"))) && (decide (PySem.W.findIn K (.ref D) "__getattr__" = some none) && (decide (PySem.W.subIn K (.ref D) (.type "BaseException") = some true) && (PySem.W.hasDictIn K D && (decide (PySem.W.findIn K (.ref D) "__class__" = some (some (.builtin "object.__class__"))) &&
    (decide (PySem.W.specialIn K (.builtin "object.__class__") "__get__" = some (some (.builtin "getset_descriptor.__get__"))) && (decide (PySem.W.takesIn K (.builtin "object.__class__") = some true) && decide (PySem.W.mroIn K D (.type "object") = some true)))))))
theorem heldB_ok {K : PySem.W.Frag} {D : Addr} (h : heldB K D = true) : PySem.W.HeldC K D := by
  unfold heldB at h
  simp only [Bool.and_eq_true, decide_eq_true_eq] at h
  obtain ⟨h1, h2, h3, h4, h5, h6, h7, h8⟩ := h
  exact ⟨h1, h2, h3, h4, h5, h6, h7, h8⟩
def clsAt (K : PySem.W.Frag) (x : Str) : Option Addr := match PySem.W.nsIn K mainGlobals x with
  | some (some (.ref D)) => some D
  | _ => none
def exTabB (K : PySem.W.Frag) (l : ExL) (fs : List Str) : Bool := l.all fun p => match clsAt K p.1 with
  | none => false
  | some C => PySem.W.keepIn K (.ref C) && (heldB K C && (fs.all (fun f => decide (PySem.W.findIn K (.ref C) f = some none)) && (l.all (fun q => match clsAt K q.1 with
      | none => false
      | some D => decide (PySem.W.kitOne K (.ref C) (.ref D) = some (p.1 == q.1)) && decide (PySem.W.exmOne K (.ref C) (.ref D) = some (p.1 == q.1))) &&
      exBases.all (fun B => decide (PySem.W.kitOne K (.ref C) (.type B) = some (p.2 == B))))))
/-- the table, the names read -/
structure ExTab (K : PySem.W.Frag) (mg : Str → Option Value) (l : ExL) (fs : List Str) : Prop where
  ok : ∀ p ∈ l, ∃ C, mg p.1 = some (.ref C) ∧ PySem.W.HeldC K C ∧ (∀ f ∈ fs, PySem.W.findIn K (.ref C) f = some none) ∧ (∀ q ∈ l, ∀ D, mg q.1 = some (.ref D) → PySem.W.kitOne K (.ref C) (.ref D) = some (p.1 == q.1) ∧ PySem.W.exmOne K (.ref C) (.ref D) = some (p.1 == q.1)) ∧
    ∀ B ∈ exBases, PySem.W.kitOne K (.ref C) (.type B) = some (p.2 == B)
theorem clsAt_mg {K : PySem.W.Frag} {h : Heap} {mg : Str → Option Value} (I : K.In h) (G : h.Ns mainGlobals mg) {x : Str} {C : Addr} (e : clsAt K x = some C) : mg x = some (.ref C) := by
  unfold clsAt at e
  split at e
  · rename_i D hD
    cases e
    exact PySem.W.mg_of I G hD
  · cases e
theorem exTab_mk {K : PySem.W.Frag} {h : Heap} {mg : Str → Option Value} {l : ExL} {fs : List Str} (I : K.In h) (G : h.Ns mainGlobals mg) (e : exTabB K l fs = true) : ExTab K mg l fs := ⟨fun p hp => by
  have hp := List.all_eq_true.mp e p hp
  split at hp
  · cases hp
  · rename_i C hC
    simp only [Bool.and_eq_true] at hp
    obtain ⟨_, h2, h3, h4, h5⟩ := hp
    refine ⟨C, clsAt_mg I G hC, heldB_ok h2, fun f hf => of_decide_eq_true (List.all_eq_true.mp h3 f hf), fun q hq D hD => ?_, fun B hB => of_decide_eq_true (List.all_eq_true.mp h5 B hB)⟩
    have hq := List.all_eq_true.mp h4 q hq
    split at hq
    · cases hq
    · rename_i D' hD'
      have := (clsAt_mg I G hD').symm.trans hD
      cases this
      simp only [Bool.and_eq_true, decide_eq_true_eq] at hq
      exact hq⟩
section
variable {K : PySem.W.Frag} {mg : Str → Option Value} {l : ExL} {fs : List Str}
theorem ExTab.at (T : ExTab K mg l fs) {x : Str} (h : (l.map (·.1)).contains x = true) : ∃ p ∈ l, p.1 = x := by
  obtain ⟨p, hp, e⟩ := List.mem_map.mp (List.contains_iff_mem.mp h)
  exact ⟨p, hp, e⟩
end
section
variable [LT] {X : Cx} {W : WX} {l : ExL} {fs : List Str} {p pos p2 : Pos} {eo : Expr} {m : Dn}
end
end M1

/-! part YI: rows of a list of lists replaced; a new list that is handed over at once -/
namespace M1
open PySem PySem.Spec L2
variable [LT]
section
variable {X : Cx} {W : WX}
/-! ### a new list, frozen at once, and whatever was made on the way is forgotten -/
end
end M1

/-! part YJ: min(..), max(..) of a list of ints -/
namespace M1
open PySem PySem.Spec L2
variable [LT]
section
variable {X : Cx}
end
end M1

/-! part YK: repr of data -/
namespace M1
open PySem PySem.Spec L2
variable [LT]
section
variable {X : Cx} {k : Nat}
end
end M1

/-! part YL: a, b = e, f of any names -/
namespace M1
open PySem PySem.Spec L2
variable [LT]
section
variable {X : Cx} {W : WX}
theorem js_parC3 {i j l : Nat} {x y z : Str} {a b c : Expr} {ms : Rho → Sto → Res (List Vl)} {px py pz pt pos : Pos} {kt k2 : Nat} {pt2 : Pos} (hc : X.calm = true) (hN : X.N.Nodup) (hi : X.N[i]? = some x) (hj : X.N[j]? = some y) (hl : X.N[l]? = some z)
    (hx : Loc X.env.scope x) (hy : Loc X.env.scope y) (hz : Loc X.env.scope z) (fx : X.fn x = true ∨ X.env.scope.names.lookup x = some .local) (fy : X.fn y = true ∨ X.env.scope.names.lookup y = some .local) (fz : X.fn z = true ∨ X.env.scope.names.lookup z = some .local) (ha : JA X W [a, b, c] ms)
    (s1 : (assignEach [.Name x px, .Name y py, .Name z pz] X.env).map (·.2) = assign (.Name x px) X.env :: (assignEach [.Name y py, .Name z pz] X.env).map (·.2)) (s2 : (assignEach [.Name y py, .Name z pz] X.env).map (·.2) = assign (.Name y py) X.env :: (assignEach [.Name z pz] X.env).map (·.2))
    (s3 : (assignEach [.Name z pz] X.env).map (·.2) = assign (.Name z pz) X.env :: (assignEach [] X.env).map (·.2))
    (hn : (assignEach [.Name x px, .Name y py, .Name z pz] X.env).length = 3) (hst : (assignEach [.Name x px, .Name y py, .Name z pz] X.env).findIdx? (·.1) = none)
    (hs : swapsWithSole [.Tuple [.Name x px, .Name y py, .Name z pz] kt pt] (.Tuple [a, b, c] k2 pt2) pos.line X.env = pure false) (hw : swappedStores [.Tuple [.Name x px, .Name y py, .Name z pz] kt pt] (.Tuple [a, b, c] k2 pt2) X.env = pure none)
    (h1 : (assignEach [.Tuple [.Name x px, .Name y py, .Name z pz] kt pt] X.env).map (·.2) = [assign (.Tuple [.Name x px, .Name y py, .Name z pz] kt pt) X.env]) :
    JS X W (.Assign [.Tuple [.Name x px, .Name y py, .Name z pz] kt pt] (.Tuple [a, b, c] k2 pt2) pos) (parS ms [i, j, l]) :=
  PS.imp (ps_asg (pe_tup ha) (pg_tup hc (pgs_cons (pg_name hN hi hx fx) (pgs_cons (pg_name hN hj hy fy) (pgs_cons (pg_name hN hl hz fz) pgs_nil s3) s2) s1) hn hst) hs hw h1) fun D σ H ⟨g, ρ, st, R, E, q⟩ => ⟨g, ρ, st, R, E, PostS.then E q fun us H1 vs st1 g1 l1 R1 r1 q1 => by
    split at q1
    · rename_i hl
      match vs, hl with
      | [v, w, k], _ =>
        obtain ⟨u, t, r, rfl, ru, rt, rr⟩ := valsR3 r1
        refine ⟨by show 3 ≤ sizeLine; rw [sizeLine_eq]; omega, fun p hp => ?_⟩
        have l2 := put_le R1 hp (.tup [u, t, r])
        refine ⟨p, [u, t, r], rfl, .inl (.inl upd_same), rfl, _, _, rfl, _, _, rfl, _, _, rfl, rfl, ?_⟩
        exact q1 _ _ _ l2 (R1.put hp _) (rho_set (rho_set (rho_set (E.mono (l1.trans l2).1) (ru.mono l2.1) i) (rt.mono l2.1) j) (rr.mono l2.1) l)
    · exact q1.elim⟩
end
end M1

/-! part YM: zip of lists that may be changed later -/
namespace M1
open PySem PySem.Spec L2
/-- the items of a sequence, and what must not change -/
def seqQ (st : Sto) : Vl → Option (List PyData × List (Nat × Cell))
  | .d d => (seqD d).map fun xs => (xs, [])
  | .c n => match (st : List Cell)[n]? with
    | some (.lst xs) => some (xs, [(n, .lst xs)])
    | _ => none
  | _ => none
def zipS (st : Sto) : List Vl → Option (List Vl × Gd)
  | [v, w] => match seqQ st v, seqQ st w with
    | some (xs, g), some (ys, h) => some ((pairs xs ys).map Vl.p, if (g ++ h).isEmpty = true then none else some (g ++ h))
    | _, _ => none
  | _ => none
def argIS (f : Sto → List Vl → Option (List Vl × Gd)) (ms : Dl) (ρ : Rho) (st : Sto) : Res (List Vl × Gd) := (ms ρ st).bind fun vs st => match f st vs with
  | some a => .ok a st
  | none => .stuck
variable [LT]
section
variable {X : Cx} {W : WX}
/-- it lies there with these items, whenever what must not change has not changed -/
structure SeqAtS (X : Cx) (g : Gh) (v : V) (xs : List PyData) (gd : List (Nat × Cell)) (b : Bool) (a : Addr) : Prop where
  ref : v = .ref a
  at_ : ∀ (H : Hp) (g' : Gh) (st : Sto), g.le0 g' → Rel X.K H g' st → (∀ q ∈ gd, (st : List Cell)[q.1]? = some q.2) → ∃ vs, SqB b X.K H a vs ∧ DqAll X.K g'.F vs xs
theorem seqS_at {g : Gh} {st : Sto} {u : V} {v : Vl} {xs : List PyData} {gd : List (Nat × Cell)} (r : ValR X.mg X.K g u v) (e : seqQ st v = some (xs, gd)) : ∃ b a, SeqAtS X g u xs gd b a := by
  unfold seqQ at e
  split at e
  · rename_i d
    cases hd : seqD d with
    | none => rw [hd] at e; cases e
    | some ys =>
      rw [hd] at e
      cases e
      obtain ⟨b, a, vs, rfl, s1, d1⟩ := seqD_at r hd
      exact ⟨b, a, rfl, fun H g' st l R _ => ⟨vs, s1 H (l.1.trans R.sub), dqAll_mono l.1 d1⟩⟩
  · rename_i n
    split at e
    · rename_i ys hn
      cases e
      obtain ⟨p, r', h, rfl⟩ := r
      refine ⟨true, p, rfl, fun H g' st l R hg => ?_⟩
      obtain ⟨r2, h'⟩ := l.2 n p r' h
      obtain ⟨p', vs, e, hp, hd⟩ := R.cells n _ _ h' (hg _ List.mem_cons_self)
      cases e
      exact ⟨vs, SqL.of hp, hd⟩
    · cases e
  · cases e
theorem itOk_pairsS {g : Gh} {xs ys : List PyData} {gx gy : List (Nat × Cell)} {u t : V} {b c : Bool} {a a2 : Addr} (hx : SeqAtS X g u xs gx b a) (hy : SeqAtS X g t ys gy c a2) :
    ItOk X g (Itp (SZp b c X.K a a2)) ((pairs xs ys).map Vl.p, if (gx ++ gy).isEmpty = true then none else some (gx ++ gy)) := fun i H g' st l R hgd => by
  have all : ∀ q ∈ gx ++ gy, (st : List Cell)[q.1]? = some q.2 := fun q hq => by
    by_cases he : (gx ++ gy).isEmpty = true
    · rw [List.isEmpty_iff.mp he] at hq
      exact absurd hq List.not_mem_nil
    · replace hgd : gdOk (if (gx ++ gy).isEmpty = true then none else some (gx ++ gy)) st = true := hgd
      rw [if_neg he] at hgd
      exact gd_at hgd hq
  obtain ⟨vs, s1, d1⟩ := hx.at_ H g' st l R fun q hq => all q (List.mem_append_left _ hq)
  obtain ⟨ws, s2, d2⟩ := hy.at_ H g' st l R fun q hq => all q (List.mem_append_right _ hq)
  have l1 := dqAll_len d1
  have l2 := dqAll_len d2
  have len : ((pairs xs ys).map Vl.p).length = min xs.length ys.length := by simp [pairs]
  refine ⟨fun hi => ?_, fun hi => ⟨vs, ws, ⟨s1, s2⟩, by rw [hi, len, l1, l2]⟩⟩
  have hi : i < min xs.length ys.length := by rw [← len]; exact hi
  have h1 : i < xs.length := by omega
  have h2 : i < ys.length := by omega
  obtain ⟨v, hv, dv⟩ := dqAll_get d1 (List.getElem?_eq_getElem h1)
  obtain ⟨w, hw, dw⟩ := dqAll_get d2 (List.getElem?_eq_getElem h2)
  refine ⟨⟨vs, ws, v, w, ⟨s1, s2⟩, hv, hw⟩, fun u H' ⟨T, x, y, e1, hT, e2, hxy⟩ => ?_⟩
  obtain ⟨hx, hy⟩ := hxy vs ws ⟨s1, s2⟩
  rw [hv] at hx
  rw [hw] at hy
  cases hx
  cases hy
  subst e1
  subst e2
  refine ⟨g'.put T (.tup [v, w]), .p [xs[i], ys[i]], put_le R hT _, R.put hT _, ?_, T, _, rfl, SqT.of upd_same, (.cons (dq_mono (put_le R hT _).1.1 dv) (.cons (dq_mono (put_le R hT _).1.1 dw) .nil))⟩
  have hz : (xs.zip ys)[i]? = some (xs[i], ys[i]) := by
    rw [List.getElem?_eq_getElem (by simp; omega), List.getElem_zip]
  show ((pairs xs ys).map Vl.p)[i]? = _
  unfold pairs
  rw [List.getElem?_map, List.getElem?_map, hz]
  rfl
theorem ji_zipS {e e2 : Expr} {p pos tpos : Pos} {elts : List Expr} {kk : Nat} {ms : Rho → Sto → Res (List Vl)} (hg : Gl X "zip") (hm : X.mg "zip" = none) (ha : JA X W [e, e2] ms)
    (hs : starEach [e, e2] X.env = (false, eval e X.env) :: starEach [e2] X.env) (hpl : (backTo pos (starEach [e2] X.env)).any (·.1) = false) :
    JI X W (.Tuple elts kk tpos) (.Call (.Name "zip" p) [e, e2] [] pos) (argIS zipS ms) :=
  PI.imp (pi_zipB hg hm ha hs hpl) fun σ H R ⟨g, ρ, st, RR, E, q⟩ => ⟨g, ρ, st, RR, E, PostE.step q fun us H1 vs st1 g1 l1 R1 r1 q1 => by
    split at q1
    · rename_i it hit
      unfold zipS at hit
      split at hit
      · split at hit
        · rename_i xs gx ys gy hx hy
          cases hit
          obtain ⟨u, t, rfl, ru, rt⟩ := valsR2 r1
          obtain ⟨b, a, k1⟩ := seqS_at ru hx
          obtain ⟨c, a2, k2⟩ := seqS_at rt hy
          have now : ∀ {v : Vl} {zs : List PyData} {gz : List (Nat × Cell)}, seqQ st1 v = some (zs, gz) → ∀ q ∈ gz, (st1 : List Cell)[q.1]? = some q.2 := fun {v zs gz} e q hq => by
            unfold seqQ at e
            split at e
            · rename_i d
              cases hd : seqD d with
              | none => rw [hd] at e; cases e
              | some ys => rw [hd] at e; cases e; exact absurd hq List.not_mem_nil
            · split at e
              · rename_i hn
                cases e
                rw [List.mem_singleton.mp hq]
                exact hn
              · cases e
            · cases e
          obtain ⟨vs1, s1, _⟩ := k1.at_ H1 g1 st1 (.refl _) R1 (now hx)
          obtain ⟨vs2, s2, _⟩ := k2.at_ H1 g1 st1 (.refl _) R1 (now hy)
          exact ⟨b, c, a, a2, vs1, vs2, by rw [k1.ref, k2.ref], s1, s2, q1 _ H1 g1 (.refl _) R1 (itOk_pairsS k1 k2)⟩
        · cases hit
      · cases hit
    · exact q1.elim⟩
end
end M1

/-! part YN: i in range(n); len(set(t)) of different ints; sorted pairs of ints -/
namespace M1
open PySem PySem.Spec L2
variable [LT]
section
variable {X : Cx} {W : WX}
/-! ### len(set(t)), all different -/
/-! ### sorted pairs of small ints -/
/-! ### b is True -/
end
end M1

/-! part ZE: set(list of ints), sorted(set([..])) -/
namespace M1
open PySem PySem.Spec L2 PyProof.Rows
section
variable {P : Program} {w : World} {A : Around} {E : Value → Shared → Prop} {s : Shared}
end
end M1

/-! part YO: xs[a:b] = ys; sorted(set(t)); numbers of the module -/
namespace M1
open PySem PySem.Spec L2 PyProof.Rows
section
variable {prog : Program} {w : World} {A : Around} {E : Value → Shared → Prop} {s : Shared}
end
end M1
namespace M1
open PySem PySem.Spec L2
variable [LT]
section
variable {X : Cx} {W : WX}
/-! ### a number of the module -/
theorem je_kInt {x : Str} {p : Pos} {n : Int} (hg : Gl X x) (hm : ∃ t, X.mg x = some (.int n t)) (hd : (x == ("__debug__" : Str)) = false) : JE X W (.Name x p) (conM (.int n)) := by
  obtain ⟨t, hm⟩ := hm
  exact PE.imp (pe_glob (v := .int n) hg hm ⟨t, rfl⟩ hd) fun σ H Q ⟨g, ρ, st, R, E, q⟩ => q _ H g (.refl g) R (.int n)
/-! ### sorted(set(t)) -/
end
/-- a number of the module, as the kit's table tells it -/
def kInt (K : PySem.W.Frag) (x : Str) : Option Int := match PySem.W.nsIn K mainGlobals x with
  | some (some (.int n _)) => some n
  | _ => none
omit [LT] in
theorem kInt_of {K : PySem.W.Frag} {h : Heap} {mg : Str → Option Value} {x : Str} {n : Int} (I : K.In h) (G : h.Ns mainGlobals mg) (e : kInt K x = some n) : ∃ t, mg x = some (.int n t) := by
  unfold kInt at e
  split at e
  · rename_i k t hk
    cases e
    exact ⟨t, PySem.W.mg_of I G hk⟩
  · cases e
end M1

/-! part YP: sorted(t) of ints; numbers and booleans in sums -/
namespace M1
open PySem PySem.Spec PyProof.Rows SrtO
section
variable {prog : Program} {w : World} {A : Around} {E : Value → Shared → Prop} {s : Shared}
end
end M1
namespace M1
open PySem PySem.Spec L2
variable [LT]
section
variable {X : Cx} {W : WX}
/-! ### booleans in sums -/
variable {a b : Expr} {p pos : Pos} {ma mb : Dn}
end
end M1

/-! part YQ: raise C(), C a class of the text whose errors have no field -/
namespace M1
open PySem PySem.Spec L2 LamX PyProof.Rows
section
variable [LT] {P : Program} {w : World} {K : PySem.W.Frag} {mg : Str → Option Value} {base : Heap} {B newId initId : String} {bmB : List Value}
end
section
variable [LT] {X : Cx} {newId initId B : String} {bmB : List Value}
variable {p pos : Pos}
/-! ### raise C() -/
variable {W : WX}
end
def ErK0 (K : PySem.W.Frag) (nm qual : Str) (B newId initId : String) (bmB : List Value) (st : Stmt) : Prop :=
  ∃ (C fI : Addr) (oc : Value) (od an : Option Addr) (osl : Array (Option Value)) (kV doc pm cdv ct : Value), PySem.W.nsIn K mainGlobals nm = some (some (.ref C)) ∧ ErC K C newId bmB ∧ PySem.W.findIn K (.ref C) "__init__" = some (some (.ref fI)) ∧
    PySem.W.typeIn K (.ref fI) = some (.type "function") ∧ K.lookup fI = some ⟨oc, od, .func (PySem.W.fnOf "__init__" qual (defArgs st) (defBody st) (defScope st) .none kV doc pm an cdv ct), osl⟩ ∧ PySem.W.codeIn K cdv qual = true ∧ PySem.W.keepIn K (.ref fI) = true ∧
    PySem.W.findCls K (.type B) (.type "type") "__init__" = some (.val (.builtin initId))
def ErT0 (K : PySem.W.Frag) (mg : Str → Option Value) (nm qual : Str) (B newId initId : String) (bmB : List Value) (st : Stmt) : Prop :=
  ∃ (C fI : Addr) (fd : FuncData), mg nm = some (.ref C) ∧ ErC K C newId bmB ∧ PySem.W.findIn K (.ref C) "__init__" = some (some (.ref fI)) ∧
    PySem.W.typeIn K (.ref fI) = some (.type "function") ∧ Fun K "__init__" qual st fI fd ∧ Binds K fd ["self"] [] ∧ PySem.W.findCls K (.type B) (.type "type") "__init__" = some (.val (.builtin initId))
theorem ErK0.told {K : PySem.W.Frag} {h : Heap} {mg : Str → Option Value} {nm qual : Str} {B newId initId : String} {bmB : List Value} {st : Stmt} (t : ErK0 K nm qual B newId initId bmB st) (I : K.In h) (G : h.Ns mainGlobals mg)
    (hb : ∀ (kV doc pm : Value) (an : Option Addr) (cdv ct : Value) (us : List Value), us.length = (["self"] : List Str).length → bindArgs (PySem.W.fnOf "__init__" qual (defArgs st) (defBody st) (defScope st) .none kV doc pm an cdv ct) ⟨us, []⟩ = pure ((["self"] : List Str).zip us)) : ErT0 K mg nm qual B newId initId bmB st := by
  obtain ⟨C, fI, oc, od, an, osl, kV, doc, pm, cdv, ct, a, ec, b, ty, l, c, k, v⟩ := t
  exact ⟨C, fI, _, PySem.W.mg_of I G a, ec, b, ty, fun_mk l c k, (fun_mk l c k).binds hb, v⟩
section
variable [LT] {X : Cx} {W : WX} {p pos pos2 : Pos}
end
end M1

/-! part YR: a def with one keyword-only number; isinstance of a held error, two own classes -/
namespace M1
open PySem PySem.Spec L2 LamX PyProof.Rows
/-! ### isinstance(e, (C, D)) -/
section
variable [LT] {X : Cx} {W : WX}
end
/-! ### a def with one keyword-only number, 0 by default -/
section
variable [LT] {P : Program} {w : World} {K : PySem.W.Frag} {mg : Str → Option Value} {base : Heap}
end
section
variable [LT] {X : Cx} {W : WX} {e : Expr} {es : List Expr} {ms : Dl} {p pos : Pos}
end
section
variable [LT] {X : Cx} {W : WX}
end
/-! ### a name that may hold a list of the store or data -/
section
variable [LT] {X : Cx} {W : WX}
end
end M1

/-! part YS: dicts of numbers, dicts of lists; rows swapped; a cut of a list of cells -/
namespace M1
open PySem PySem.Spec L2 LamX PyProof.Rows
section
variable [LT] {X : Cx} {W : WX}
/-! ### dict(pairs), d.get(k, x) -/
def pairI : PyData → Option (Int × Int)
  | .tuple [.int a, .int b] => some (a, b)
  | _ => none
def pairsI : List PyData → Option (List (Int × Int))
  | [] => some []
  | d :: ds => match pairI d, pairsI ds with
    | some p, some ps => some (p :: ps)
    | _, _ => none
def dictI (vs : List Vl) (st : Sto) : Res Vl := match vs with
  | [.d (.list ds)] => match pairsI ds with
    | some kvs => if decide (kvs.map (·.1)).Nodup then .ok (.c st.length) (st ++ [.di kvs]) else .stuck
    | none => .stuck
  | _ => .stuck
theorem dictI_noerr : NoErrs dictI := fun vs st x st' h => by
  unfold dictI at h
  (repeat' split at h) <;> cases h
abbrev kvI (kvs : List (Int × Int)) : List (Key × V) := kvs.map fun kv => (Sum.inl kv.1, V.int kv.2)
theorem kvI_mem {kvs : List (Int × Int)} {k : Int} (h : ∀ p ∈ kvs, p.1 ≠ k) : valV (kvI kvs) (Sum.inl k) = none := by
  induction kvs with
  | nil => rfl
  | cons p r ih =>
    rw [kvI, List.map_cons, valV_neg (fun e => h p List.mem_cons_self (Sum.inl.inj e))]
    exact ih fun q hq => h q (List.mem_cons_of_mem _ hq)
theorem merge_nd : ∀ (more kvs : List (Int × Int)), ((kvs ++ more).map (·.1)).Nodup → mergeK (kvI kvs) (kvI more) = kvI (kvs ++ more)
  | [], kvs, _ => by rw [List.append_nil]; rfl
  | p :: more, kvs, h => by
    have hn : valV (kvI kvs) (Sum.inl p.1) = none := kvI_mem fun q hq e => by
      rw [List.map_append, List.map_cons] at h
      have := (List.nodup_append.mp h).2.2 q.1 (List.mem_map.mpr ⟨q, hq, rfl⟩) p.1 List.mem_cons_self
      exact this e
    have ih := merge_nd more (kvs ++ [p]) (by rw [List.append_assoc]; exact h)
    rw [List.append_assoc] at ih
    rw [show kvs ++ p :: more = kvs ++ ([p] ++ more) from rfl, ← ih]
    show mergeK (putK (kvI kvs) (Sum.inl p.1) (V.int p.2)) (kvI more) = _
    rw [putK_new _ hn]
    congr 1
    simp [kvI]
theorem dq_pairs {K : PySem.W.Frag} {F H : Hp} (s : Same F H) : ∀ {ds : List PyData} {vs : List V} {kvs : List (Int × Int)}, DqAll K F vs ds → pairsI ds = some kvs → ∃ ps : List Addr, vs = ps.map V.ref ∧ Paired (fun p (kv : Key × V) => SqT K H p [kV kv.1, kv.2]) ps (kvI kvs)
  | [], _, kvs, h, e => by cases h; cases e; exact ⟨[], rfl, .nil⟩
  | d :: ds, _, kvs, h, e => by
    cases h with
    | cons h1 h2 =>
      unfold pairsI at e
      split at e
      · rename_i p ps e1 e2
        cases e
        obtain ⟨qs, rfl, hq⟩ := dq_pairs s h2 e2
        unfold pairI at e1
        split at e1
        · cases e1
          cases h1 with
          | tup t1 t2 =>
            rename_i a vs
            refine ⟨a :: qs, rfl, .cons ?_ hq⟩
            cases t2 with
            | cons c1 t2 => cases t2 with
              | cons c2 t2 =>
                cases t2
                cases c1
                cases c2
                exact sqt_mono s t1.sqt
        · cases e1
      · cases e
theorem cr_dictI (hc : X.calm = true) : CallR X (.type "dict") (rVs X dictI) := by
  intro pins s σ H xs us Q I rs h
  obtain ⟨g, st, vs, R, r, q⟩ := h
  unfold dictI at q
  split at q
  · rename_i ds
    split at q
    · rename_i kvs hk
      split at q
      · rename_i hn
        obtain ⟨u, rfl, ru⟩ := valsR1 r
        cases ru with
        | lst h1 h2 =>
          obtain ⟨ps, rfl, hp⟩ := dq_pairs R.sub h2 hk
          refine call_dictP hc pins s σ H _ us Q I rs ⟨_, ps, kvI kvs, rfl, SqL.of (R.sub _ _ h1), hp, fun p hp => ?_⟩
          rw [show mergeK [] (kvI kvs) = kvI kvs from merge_nd kvs [] (by simpa using of_decide_eq_true hn)]
          obtain ⟨R2, l2⟩ := R.cellO (c := .di kvs) hp (o := .dK (kvI kvs)) (fun ps z => by cases z) ⟨p, rfl, upd_same⟩ (fun ns e => by cases e)
          refine q _ _ _ l2 R2 ⟨p, [], ?_, rfl⟩
          show (g.at_ ++ [[p]])[st.length]? = _
          rw [← R.len, List.getElem?_append_right (Nat.le_refl _)]
          simp
      · exact q.elim
    · exact q.elim
  · exact q.elim
theorem bb_dict : bootBuiltins "dict" = some (.type "dict") := by decide +kernel
theorem bv_dict (hc : X.calm = true) : BltV X "dict" dictI := ⟨dictI_noerr, .inr ⟨_, cr_dictI hc, bb_dict⟩, by decide, by decide⟩
def lookI (kvs : List (Int × Int)) (k : Int) : Option Int := match kvs with
  | [] => none
  | p :: r => if p.1 = k then some p.2 else lookI r k
theorem lookI_val (k : Int) : ∀ kvs : List (Int × Int), valV (kvI kvs) (Sum.inl k) = (lookI kvs k).map V.int
  | [] => rfl
  | p :: r => by
    rw [lookI, kvI, List.map_cons]
    by_cases e : p.1 = k
    · rw [if_pos e, valV_pos (by rw [e])]; rfl
    · rw [if_neg e, valV_neg (fun z => e (Sum.inl.inj z))]; exact lookI_val k r
def isDi (v : Vl) (st : Sto) : Bool := match v with
  | .c n => match (st : List Cell)[n]? with
    | some (.di _) => true
    | _ => false
  | _ => false
def dgetF (v k d : Vl) (st : Sto) : Res Vl := match v, k, d with
  | .c n, .d (.int k), .d d => match (st : List Cell)[n]? with
    | some (.di kvs) => .ok (.d (match lookI kvs k with | some x => .int x | none => d)) st
    | _ => .stuck
  | _, _, _ => .stuck
def dgetM (mo mk md : Dn) (ρ : Rho) (st : Sto) : Res Vl := (mo ρ st).bind fun v st => if isDi v st then (mk ρ st).bind fun k st => (md ρ st).bind fun d st => dgetF v k d st else .stuck
theorem di_at {H : Hp} {g : Gh} {st : Sto} {u : V} {v : Vl} (R : Rel X.K H g st) (r : ValR X.mg X.K g u v) (h : isDi v st = true) : ∃ a kvs, u = .ref a ∧ H a = some (.dK (kvI kvs)) := by
  unfold isDi at h
  split at h
  · split at h
    · rename_i hx
      obtain ⟨p, rest, h1, rfl⟩ := r
      obtain ⟨p', e, h2⟩ := R.cells _ _ _ h1 hx
      cases e
      exact ⟨_, _, rfl, h2⟩
    · cases h
  · cases h
theorem je_dget {o e f : Expr} {apos cpos : Pos} {mo mk md : Dn} (hu : X.A.units + 1 < cLine) (ho : JE X W o mo) (he : JE X W e mk) (hf : JE X W f md) (m : M2 X o "get" apos e f cpos) : JE X W (.Call (.Attribute o "get" apos) [e, f] [] cpos) (dgetM mo mk md) :=
  PE.imp (pe_dget2 hu ho he hf m) fun σ H Q ⟨g, ρ, st, R, E, q⟩ => ⟨g, ρ, st, R, E, PostE.step q fun x H1 v st1 g1 l1 R1 r1 q1 => by
    split at q1
    · rename_i hd
      obtain ⟨a, kvs, rfl, ha⟩ := di_at R1 r1 hd
      refine ⟨a, rfl, .inl ⟨_, .inl ha⟩, g1, ρ, st1, R1, E.mono l1.1, PostE.step q1 fun y H2 k st2 g2 l2 R2 r2 q2 => ⟨g2, ρ, st2, R2, E.mono (l1.trans l2).1, PostE.step q2 fun z H3 d st3 g3 l3 R3 r3 q3 => ?_⟩⟩
      unfold dgetF at q3
      split at q3
      · split at q3
        · rename_i hx
          obtain ⟨p, rest, h1, e⟩ := ValR.mono (l2.trans l3).1 r1
          cases e
          obtain ⟨p', e, h2⟩ := R3.cells _ _ _ h1 hx
          cases e
          cases (show Dq X.K g2.F y (.int _) from r2)
          refine ⟨_, DGet.k (k := Sum.inl _) h2, ?_⟩
          refine q3 _ H3 g3 (.refl _) R3 ?_
          rw [show (fun kv : Int × Int => ((Sum.inl kv.1 : Key), V.int kv.2)) = fun kv => (Sum.inl kv.1, V.int kv.2) from rfl, lookI_val]
          split
          · rename_i x hx2
            rw [hx2]
            exact .int x
          · rename_i hx2
            rw [hx2]
            exact r3
        · exact q3.elim
      · exact q3.elim
    · exact q1.elim⟩
/-! ### x[lo:hi] of a list of cells -/
theorem paired_drop {α β : Type} {F : α → β → Prop} : ∀ (n : Nat) {xs : List α} {ys : List β}, Paired F xs ys → Paired F (xs.drop n) (ys.drop n)
  | 0, _, _, h => h
  | _ + 1, _, _, .nil => .nil
  | n + 1, _, _, .cons _ t => paired_drop n t
theorem paired_take {α β : Type} {F : α → β → Prop} : ∀ (n : Nat) {xs : List α} {ys : List β}, Paired F xs ys → Paired F (xs.take n) (ys.take n)
  | 0, _, _, _ => .nil
  | _ + 1, _, _, .nil => .nil
  | n + 1, _, _, .cons r t => .cons r (paired_take n t)
def slCF (v : Vl) (lo hi : Option Int) (st : Sto) : Res Vl := match v with
  | .c n => match (st : List Cell)[n]? with
    | some (.lstc ns) => .ok (.c st.length) (st ++ [.lstc (cutL ns lo hi)])
    | _ => .stuck
  | _ => .stuck
def rSlC (X : Cx) : V → Option Int → Option Int → Hp → VK → Prop := fun x lo hi H Q => ∃ g st v, Rel X.K H g st ∧ ValR X.mg X.K g x v ∧ PostE X (fun _ _ _ _ => False) [] g (ValR X.mg X.K) Q (slCF v lo hi st)
theorem mem_cut {α : Type} {xs : List α} {lo hi : Option Int} {x : α} (h : x ∈ cutL xs lo hi) : x ∈ xs := List.mem_of_mem_drop (List.mem_of_mem_take h)
theorem slr_cells : SlR X (rSlC X) := by
  intro pins s σ H x v vl vu lo hi sl Q I rx hs pl pu h
  obtain ⟨g, st, w, R, r, q⟩ := h
  unfold slCF at q
  split at q
  · rename_i n
    split at q
    · rename_i ns hx
      obtain ⟨p, rest, h1, rfl⟩ := r
      obtain ⟨p', qs, e, h2, hd⟩ := R.cells n _ _ h1 hx
      cases e
      refine sl_list pins s σ H _ v vl vu lo hi sl Q I rx hs pl pu ⟨p, qs.map V.ref, rfl, SqL.of h2, fun b hb => ?_⟩
      have ec : cutV (qs.map V.ref) lo hi = (cutL qs lo hi).map V.ref := by
        unfold cutL cutV
        simp [List.map_drop, List.map_take]
      have hl : qs.length = ns.length := paired_len hd
      have hpr : Paired (fun q m => ∃ r, g.at_[m]? = some (q :: r)) (cutL qs lo hi) (cutL ns lo hi) := by
        unfold cutL
        rw [hl]
        exact paired_take _ (paired_drop _ hd)
      show Q (.ref b) (upd H b (.lst (cutV (qs.map V.ref) lo hi)))
      rw [ec]
      obtain ⟨R2, l2⟩ := R.cellO (c := .lstc (cutL ns lo hi)) hb (o := .lst ((cutL qs lo hi).map V.ref)) (fun ps z => by cases z) ⟨b, _, rfl, upd_same, hpr⟩ (fun ms e m hm => by
        cases e
        have := R.closed n ns hx m (mem_cut hm)
        have := (List.getElem?_eq_some_iff.mp hx).1
        omega)
      refine q _ _ _ l2 R2 ⟨b, [], ?_, rfl⟩
      show (g.at_ ++ [[b]])[st.length]? = _
      rw [← R.len, List.getElem?_append_right (Nat.le_refl _)]
      simp
    · exact q.elim
  · exact q.elim
def sliceC (ma : Rho → Sto → Res Vl) (ml mh : Rho → Sto → Res (Option Int)) (ρ : Rho) (st : Sto) : Res Vl := (ma ρ st).bind fun v st => (ml ρ st).bind fun l st => (mh ρ st).bind fun h st => slCF v l h st
theorem je_sliceC {e : Expr} {lo hi : Option Expr} {p2 pos : Pos} {ma : Rho → Sto → Res Vl} {ml mh : Rho → Sto → Res (Option Int)} (he : JE X W e ma) (hl : JO X W lo ml) (hh : JO X W hi mh) : JE X W (.Subscript e (.Slice lo hi none p2) pos) (sliceC ma ml mh) :=
  PE.imp (pe_slice slr_cells he hl hh) fun σ H Q ⟨g, ρ, st, R, E, q⟩ => ⟨g, ρ, st, R, E, PostE.step q fun u H1 v st1 g1 l1 R1 r1 q1 => ⟨g1, ρ, st1, R1, E.mono l1.1, PostE.step q1 fun a H2 a' st2 g2 l2 R2 ea q2 => by
    subst ea
    exact ⟨g2, ρ, st2, R2, E.mono (l1.trans l2).1, PostE.step q2 fun b H3 b' st3 g3 l3 R3 eb q3 => by
      subst eb
      exact ⟨g3, st3, v, R3, r1.mono (l2.trans l3).1, postE_noerr (fun x st' h => by unfold slCF at h; (repeat' split at h) <;> cases h) q3⟩⟩⟩⟩
/-! ### x[i], x[j], y = x[j], x[i], e where x is a list of cells -/
def setC (o i v : Vl) (st : Sto) : Option Sto := match o, i, v with
  | .c n, .d (.int k), .c m => match (st : List Cell)[n]? with
    | some (.lstc ns) => match ixN ns.length k with
      | some j => if m < n then some (st.set n (.lstc (ns.set j m))) else none
      | none => none
    | _ => none
  | _, _, _ => none
theorem paired_setP {α β : Type} {F : α → β → Prop} {a : α} {b : β} (r : F a b) : ∀ {xs : List α} {ys : List β} (i : Nat), Paired F xs ys → Paired F (xs.set i a) (ys.set i b)
  | _, _, _, .nil => .nil
  | _, _, 0, .cons _ t => .cons r t
  | _, _, i + 1, .cons q t => .cons q (paired_setP r i t)
theorem pset_cells : PSet X (tSetV X setC) := by
  intro pins s σ H o i v ov iv u Q I ro ri rv h
  obtain ⟨g, st, a, b, c, st', R, r1, r2, r3, e, q⟩ := h
  unfold setC at e
  split at e
  · rename_i n k m
    split at e
    · rename_i ns hx
      split at e
      · rename_i j hj
        split at e
        · rename_i hm
          cases e
          obtain ⟨p, rest, h1, rfl⟩ := r1
          cases r2
          obtain ⟨p', qs, e, h2, hd⟩ := R.cells n _ _ h1 hx
          cases e
          obtain ⟨pm, rm, h3, rfl⟩ := r3
          have hl : qs.length = ns.length := paired_len hd
          refine set_list pins s σ H _ _ _ ov iv u Q I ro ri rv ⟨p, qs.map V.ref, k, j, rfl, rfl, h2, by rw [List.length_map, hl]; exact hj, q _ g (.refl g) ?_⟩
          rw [← List.map_set]
          exact R.write h1 hx (fun z => by cases z) List.mem_cons_self ⟨p, _, rfl, upd_same, paired_setP ⟨rm, h3⟩ j hd⟩ (fun ms e2 k2 hk2 => by
            cases e2
            rcases List.mem_or_eq_of_mem_set hk2 with h | h
            · exact R.closed n ns hx k2 h
            · rw [h]; exact hm)
        · cases e
      · cases e
    · cases e
  · cases e
def store2NS (f : Vl → Vl → Vl → Sto → Option Sto) (ms : Dl) (mo mi mo2 mi2 : Dn) (l : Nat) (ρ : Rho) (st : Sto) : RS := (ms ρ st).then ρ fun vs st => match vs with
  | [v, v2, .d d3] => (mo ρ st).then ρ fun o st => (mi ρ st).then ρ fun i st => match f o i v st with
    | some st => (mo2 ρ st).then ρ fun o st => (mi2 ρ st).then ρ fun i st => match f o i v2 st with
      | some st => .nx (ρ.set l (some (.d d3))) st
      | none => .stuck
    | none => .stuck
  | _ => .stuck
theorem js_store2N {o i o2 i2 e e2 e3 : Expr} {x : Str} {p p2 p3 tp vp pos : Pos} {kt kv l : Nat} {ms : Dl} {mo mi mo2 mi2 : Dn} {f : Vl → Vl → Vl → Sto → Option Sto} (hc : X.calm = true) (hf : PSet X (tSetV X f)) (he : JA X W [e, e2, e3] ms) (ho : JE X W o mo) (hi : JE X W i mi) (ho2 : JE X W o2 mo2) (hi2 : JE X W i2 mi2)
    (hg : JG X (.Name x p3) (.nm l))
    (ha : ∀ v, assign (.Subscript o i p) X.env v = (do let ov ← holding [v] (eval o X.env); let iv ← holding [v, ov] (eval i X.env); standAt p; holding [v, ov, iv] (setItem ov iv v); release [v, ov, iv] []))
    (ha2 : ∀ v, assign (.Subscript o2 i2 p2) X.env v = (do let ov ← holding [v] (eval o2 X.env); let iv ← holding [v, ov] (eval i2 X.env); standAt p2; holding [v, ov, iv] (setItem ov iv v); release [v, ov, iv] []))
    (hs : swapsWithSole [.Tuple [.Subscript o i p, .Subscript o2 i2 p2, .Name x p3] kt tp] (.Tuple [e, e2, e3] kv vp) pos.line X.env = pure false) (hw : swappedStores [.Tuple [.Subscript o i p, .Subscript o2 i2 p2, .Name x p3] kt tp] (.Tuple [e, e2, e3] kv vp) X.env = pure none)
    (h1 : (assignEach [.Tuple [.Subscript o i p, .Subscript o2 i2 p2, .Name x p3] kt tp] X.env).map (·.2) = [assign (.Tuple [.Subscript o i p, .Subscript o2 i2 p2, .Name x p3] kt tp) X.env])
    (g1 : (assignEach [.Subscript o i p, .Subscript o2 i2 p2, .Name x p3] X.env).map (·.2) = assign (.Subscript o i p) X.env :: (assignEach [.Subscript o2 i2 p2, .Name x p3] X.env).map (·.2))
    (g2 : (assignEach [.Subscript o2 i2 p2, .Name x p3] X.env).map (·.2) = assign (.Subscript o2 i2 p2) X.env :: (assignEach [.Name x p3] X.env).map (·.2))
    (g3 : (assignEach [.Name x p3] X.env).map (·.2) = assign (.Name x p3) X.env :: (assignEach [] X.env).map (·.2))
    (n1 : (assignEach [.Subscript o i p, .Subscript o2 i2 p2, .Name x p3] X.env).length = 3) (n2 : (assignEach [.Subscript o i p, .Subscript o2 i2 p2, .Name x p3] X.env).findIdx? (·.1) = none) :
    JS X W (.Assign [.Tuple [.Subscript o i p, .Subscript o2 i2 p2, .Name x p3] kt tp] (.Tuple [e, e2, e3] kv vp) pos) (store2NS f ms mo mi mo2 mi2 l) := by
  refine PS.imp (ps_asg (pe_tup he) (pg_tup hc (pgs_cons (pg_sub ho hi hf ha) (pgs_cons (pg_sub ho2 hi2 hf ha2) (pgs_cons hg pgs_nil g3) g2) g1) n1 n2) hs hw h1) fun D σ H ⟨g, ρ, st, R, E, q⟩ => ⟨g, ρ, st, R, E, PostS.then E q fun us H1 vs st1 g1 l1 R1 r1 q1 => ?_⟩
  split at q1
  · rename_i d d2 d3
    obtain ⟨u, t, r, rfl, ru, rt, rr⟩ := valsR3 r1
    refine ⟨by show 3 ≤ sizeLine; rw [sizeLine_eq]; omega, fun tp hp => ?_⟩
    have l2 := put_le R1 hp (.tup [u, t, r])
    have E2 := E.mono (l1.trans l2).1
    refine ⟨tp, [u, t, r], rfl, SqT.of upd_same, rfl, u, [t, r], rfl, _, ρ, st1, R1.put hp (.tup [u, t, r]), E2, ?_⟩
    refine PostS.then E2 (PostS.mono l2 q1) fun x H3 o st3 g3 l3 R3 r3 q3 => ⟨g3, ρ, st3, R3, E2.mono l3.1, ?_⟩
    have E3 := E2.mono l3.1
    refine PostS.then E3 q3 fun y H4 i st4 g4 l4 R4 r4 q4 => ?_
    split at q4
    · rename_i st5 h5
      refine ⟨g4, st4, o, i, _, st5, R4, r3.mono l4.1, r4, ValR.mono (l2.trans (l3.trans l4)).1 ru, h5, fun H5 g5 l5 R5 => ?_⟩
      have E5 := E3.mono (l4.trans l5).1
      refine ⟨t, [r], rfl, g5, ρ, st5, R5, E5, PostS.then E5 (PostS.mono l5 q4) fun x6 H6 o6 st6 g6 l6 R6 r6 q6 => ⟨g6, ρ, st6, R6, E5.mono l6.1, ?_⟩⟩
      have E6 := E5.mono l6.1
      refine PostS.then E6 q6 fun y7 H7 i7 st7 g7 l7 R7 r7 q7 => ?_
      split at q7
      · rename_i st8 h8
        refine ⟨g7, st7, o6, i7, _, st8, R7, r6.mono l7.1, r7, ValR.mono (l2.trans (l3.trans (l4.trans (l5.trans (l6.trans l7))))).1 rt, h8, fun H9 g9 l9 R9 => ?_⟩
        have E9 := E6.mono (l7.trans l9).1
        have r9 := ValR.mono (l2.trans (l3.trans (l4.trans (l5.trans (l6.trans (l7.trans l9)))))).1 rr
        exact ⟨r, [], rfl, g9, ρ, st8, .d d3, _, R9, E9, r9, rfl, fun σ' E' _ => ⟨rfl, q7 σ' H9 g9 l9 R9 E'⟩⟩
      · exact q7.elim
    · exact q4.elim
  · exact q1.elim
end
end M1

/-! part YT: a dict of lists: {}, d.setdefault(k, []).append(x), d[k].pop(0) -/
namespace M1
open PySem PySem.Spec L2 LamX PyProof.Rows
section
variable [LT] {X : Cx} {W : WX}
/-! ### methods of the lists in it -/
/-! ### d[k].pop(0) -/
theorem units1 {A : Around} {k : Nat} (hr : Room k A) : A.units + 1 < cLine := by have := units65 hr; omega
theorem je_dgetR {k : Nat} {o e f : Expr} {apos cpos : Pos} {mo mk md : Dn} (hr : Room k X.A) (ho : JE X W o mo) (he : JE X W e mk) (hf : JE X W f md) (m : M2 X o "get" apos e f cpos) : JE X W (.Call (.Attribute o "get" apos) [e, f] [] cpos) (dgetM mo mk md) := je_dget (units1 hr) ho he hf m
end
end M1

/-! part YU: for i, (a, b) in enumerate(zip(x, y)) -/
namespace M1
open PySem PySem.Spec L2 LamX PyProof.Rows
section zipNext
variable {prog : Program} {w : World} {A : Around} {E : Value → Shared → Prop} {s : Shared} {z TI TO i1 i2 : Addr} {fp1 fp2 : List Addr} {n1 n2 i : Nat} {P1 P2 : Nat → Value → Prop} {St1 St2 : Nat → Heap → Prop} {a1 a2 : Value}
/-- a zip, whatever tuple it has given out -/
def IsZ (h : Heap) (z TI TO : Addr) (f0 : Value) (f1 : Bool) : Prop :=
  h.get? z = some { cls := .type "zip", dict := none, data := .fields #[f0, .bool f1, .bool false, .ref TI, .ref TO], slots := #[] }
def ZOut (f0 : Value) : Prop := f0 = .none ∨ ∃ T : Addr, f0 = rawInt T
end zipNext
end M1

/-! part YV: enumerate(zip(x, y)) as a source -/
namespace M1
open PySem PySem.Spec L2 LamX PyProof.Rows
section enumZip
variable {prog : Program} {w : World} {A : Around} {E : Value → Shared → Prop} {s : Shared} {e z TI TO i1 i2 : Addr} {fp1 fp2 : List Addr} {n1 n2 i : Nat} {P1 P2 : Nat → Value → Prop} {St1 St2 : Nat → Heap → Prop}
/-- the zip below, after i items -/
def ZSt (z TI TO i1 i2 : Addr) (St1 St2 : Nat → Heap → Prop) (i : Nat) (h : Heap) : Prop :=
  (∃ f0 f1, IsZ h z TI TO f0 f1 ∧ ZOut f0) ∧ IsTupOf2 h TI (.ref i1) (.ref i2) ∧ (∃ b1 b2, IsTupOf2 h TO b1 b2) ∧ St1 i h ∧ St2 i h
structure EApart (e z TI TO i1 i2 : Addr) (fp1 fp2 : List Addr) : Prop where
  ez : e ≠ z
  eTI : e ≠ TI
  eTO : e ≠ TO
  e1 : e ∉ fp1
  e2 : e ∉ fp2
theorem ZSt.keep {h h' : Heap} (D1 : Draws prog w A i1 fp1 n1 P1 St1) (D2 : Draws prog w A i2 fp2 n2 P2 St2) (st : ZSt z TI TO i1 i2 St1 St2 i h) (k : ∀ b, (b = z ∨ b = TI ∨ b = TO ∨ b ∈ fp1 ∨ b ∈ fp2) → ∀ o, h.get? b = some o → h'.get? b = some o) : ZSt z TI TO i1 i2 St1 St2 i h' := by
  obtain ⟨⟨f0, f1, a, b⟩, c, ⟨b1, b2, d⟩, s1, s2⟩ := st
  exact ⟨⟨f0, f1, k z (.inl rfl) _ a, b⟩, k TI (.inr (.inl rfl)) _ c, ⟨b1, b2, k TO (.inr (.inr (.inl rfl))) _ d⟩, D1.frame _ _ _ s1 fun b hb o => k b (.inr (.inr (.inr (.inl hb)))) o, D2.frame _ _ _ s2 fun b hb o => k b (.inr (.inr (.inr (.inr hb)))) o⟩
end enumZip
section
variable [LT] {X : Cx} {W : WX}
/-! ### enumerate of a zip that was just made -/
end
end M1

/-! part ZA: x not in range(n) -/
namespace M1
open PySem PySem.Spec L2 LamX
variable [LT]
section
variable {X : Cx} {W : WX}
end
end M1

/-! part ZB: sorted lists of tuples of ints, of any length -/
namespace M1
open PySem PySem.Spec PyProof.Rows SrtO
section
variable {prog : Program} {w : World} {A : Around} {E : Value → Shared → Prop} {s : Shared}
end
end M1

/-! part ZC: sorted of tuples of ints, as data -/
namespace M1
open PySem PySem.Spec L2 PyProof.Rows
/-! ### the order -/
/-! ### as data -/
variable [LT]
section
variable {X : Cx} {W : WX}
end
end M1

/-! part ZD: dicts whose keys are tuples of ints, as cells -/
namespace M1
open PySem PySem.Spec L2 PyProof.Rows
variable [LT]
section
variable {X : Cx} {W : WX}
/-! ### {} -/
/-! ### {(): True} -/
/-! ### x[k] = True -/
end
/-! ### for x in d -/
section
variable {X : Cx} {W : WX}
/-! ### sorted(d) -/
end
end M1

/-! part ZF: sorted(set([..])) -/
namespace M1
open PySem PySem.Spec L2 PyProof.Rows
/-! ### sorted(set([..])) -/
section
variable [LT] {X : Cx} {W : WX}
end
end M1

/-! part ZG: sorted(set(list of tuples of ints)) -/
namespace M1
open PySem PySem.Spec L2 PyProof.Rows
section
variable [LT] {X : Cx} {W : WX}
end
end M1

/-! part ZH: instances of a class of the text: made, their attributes, their methods -/
namespace M1
open PySem PySem.Spec L2 PyProof.Rows
/-- what of the text a class must have -/
structure ClsK (K : PySem.W.Frag) (cls : Str) (C : Addr) : Prop where
  nm : PySem.W.nsIn K mainGlobals cls = some (some (.ref C))
  cl : Cls K C
/-- a method of the class cls -/
def MetF (K : PySem.W.Frag) (cls m qual : Str) (st : Stmt) : Prop := ∃ (C f : Addr) (oc : Value) (od an : Option Addr) (osl : Array (Option Value)) (kV doc pm cdv ct : Value), ClsK K cls C ∧ Meth K C m f ∧
  K.lookup f = some ⟨oc, od, .func (PySem.W.fnOf m qual (defArgs st) (defBody st) (defScope st) .none kV doc pm an cdv ct), osl⟩ ∧ PySem.W.codeIn K cdv qual = true
theorem metF_mk {K : PySem.W.Frag} {cls m qual : Str} {st : Stmt} {C f : Addr} {oc : Value} {od an : Option Addr} {osl : Array (Option Value)} {kV doc pm cdv ct : Value}
    (a : PySem.W.nsIn K mainGlobals cls = some (some (.ref C))) (b : PySem.W.findIn K (.ref C) m = some (some (.ref f))) (l : K.lookup f = some ⟨oc, od, .func (PySem.W.fnOf m qual (defArgs st) (defBody st) (defScope st) .none kV doc pm an cdv ct), osl⟩)
    (c : PySem.W.codeIn K cdv qual = true) (k : PySem.W.keepIn K (.ref f) = true) (i : PySem.W.isFn K (.ref f) = true) (c1 : PySem.W.plainGet K C Str.empty = true) (c2 : PySem.W.hasDictIn K C = true) (c3 : PySem.W.plainOver K C = true)
    (c4 : PySem.W.findIn K (.ref C) "__setattr__" = some (some (.builtin "object.__setattr__"))) : MetF K cls m qual st :=
  ⟨C, f, oc, od, an, osl, kV, doc, pm, cdv, ct, ⟨a, ⟨c1, c2, c3, c4⟩⟩, ⟨b, i, k⟩, l, c⟩
def MetT (K : PySem.W.Frag) (cls m qual : Str) (st : Stmt) (ps : List Str) : Prop := ∃ C f fd, ClsK K cls C ∧ Meth K C m f ∧ Fun K m qual st f fd ∧ Binds K fd ps []
theorem MetF.told {K : PySem.W.Frag} {cls m qual : Str} {st : Stmt} {ps : List Str} (t : MetF K cls m qual st)
    (hb : ∀ (kV doc pm : Value) (an : Option Addr) (cdv ct : Value) (us : List Value), us.length = ps.length → bindArgs (PySem.W.fnOf m qual (defArgs st) (defBody st) (defScope st) .none kV doc pm an cdv ct) ⟨us, []⟩ = pure (ps.zip us)) : MetT K cls m qual st ps := by
  obtain ⟨C, f, oc, od, an, osl, kV, doc, pm, cdv, ct, a, b, l, c⟩ := t
  exact ⟨C, f, _, a, b, fun_mk l c b.kp, (fun_mk l c b.kp).binds hb⟩
/-- the class has no attribute of that name -/
def NoAt (K : PySem.W.Frag) (cls f : Str) : Prop := ∃ C, ClsK K cls C ∧ NoAttr K C f
theorem noAt_mk {K : PySem.W.Frag} {cls f : Str} {C : Addr} (a : PySem.W.nsIn K mainGlobals cls = some (some (.ref C))) (b : PySem.W.findIn K (.ref C) f = some none) (c1 : PySem.W.plainGet K C Str.empty = true) (c2 : PySem.W.hasDictIn K C = true) (c3 : PySem.W.plainOver K C = true)
    (c4 : PySem.W.findIn K (.ref C) "__setattr__" = some (some (.builtin "object.__setattr__"))) : NoAt K cls f := ⟨C, ⟨a, ⟨c1, c2, c3, c4⟩⟩, b⟩
/-- the class makes instances by its __init__ -/
def MakF (K : PySem.W.Frag) (cls : Str) : Prop := ∃ C, PySem.W.nsIn K mainGlobals cls = some (some (.ref C)) ∧ PySem.W.makesIn K C = true ∧ PySem.W.keepIn K (.ref C) = true
def MakT (K : PySem.W.Frag) (mg : Str → Option Value) (cls : Str) : Prop := ∃ C, PySem.W.nsIn K mainGlobals cls = some (some (.ref C)) ∧ PySem.W.makesIn K C = true ∧ PySem.W.keepIn K (.ref C) = true ∧ mg cls = some (.ref C)
theorem makF_mk {K : PySem.W.Frag} {cls : Str} {C : Addr} (a : PySem.W.nsIn K mainGlobals cls = some (some (.ref C))) (b : PySem.W.makesIn K C = true) (c : PySem.W.keepIn K (.ref C) = true) : MakF K cls := ⟨C, a, b, c⟩
theorem MakF.told {K : PySem.W.Frag} {h : Heap} {mg : Str → Option Value} {cls : Str} (t : MakF K cls) (I : K.In h) (G : h.Ns mainGlobals mg) : MakT K mg cls := by
  obtain ⟨C, a, b, c⟩ := t
  exact ⟨C, a, b, c, PySem.W.mg_of I G a⟩
theorem ns_one {K : PySem.W.Frag} {x : Str} {C D : Addr} (h : PySem.W.nsIn K mainGlobals x = some (some (.ref C))) (k : PySem.W.nsIn K mainGlobals x = some (some (.ref D))) : C = D := by
  rw [h] at k
  cases k
  rfl
variable [LT]
/-- what a method computes -/
def MetP (P : Program) (w : World) (K : PySem.W.Frag) (mg : Str → Option Value) (base : Heap) (cls m : Str) (k : Nat) (ps : List Str) (F : FV) : Prop :=
  ∃ C f fd, ClsK K cls C ∧ Meth K C m f ∧ FnV P w K mg base k f fd ps F ∧ Binds K fd ps [] ∧ ∃ oc od osl, K.lookup f = some ⟨oc, od, .func fd, osl⟩
section
variable {P : Program} {w : World} {K : PySem.W.Frag} {mg : Str → Option Value} {base : Heap}
/-- the same, nothing is forgotten at the end -/
def endU (r : RS) : Res Vl := match r with
  | .nx _ st => .ok (.d .none) st
  | .ret v st => .ok v st
  | .err x _ st => .err x st
  | _ => .stuck
def bodyU (n : Nat) (m : Rho → Sto → RS) (as : List Vl) (st : Sto) : Res Vl := endU (m (rho0 n as) st)
theorem post_endU {X : Cx} {g : Gh} {Q : VK} {E : XK} {r : RS} (h : PostC X.K X.mg g Q E (endU r)) : PostS X (fun cls d _ H => E cls d H) g { nx := fun _ H' => Q .non H', rt := Q } r := by
  cases r with
  | stuck => exact h
  | bk => exact h.elim
  | ct => exact h.elim
  | nx ρ st => exact fun σ H g' l R _ => h .non H g' l R .non
  | err x ρ st => exact fun cls dd σ H g' l R _ e => h cls dd H g' l R e
  | ret v st => exact fun u H g' l R r => h u H g' l R r
theorem met_ok {cls x qual : Str} {st : Stmt} {N ps : List Str} {k : Nat} {m : Rho → Sto → RS} (T : MetT K cls x qual st ps) (S : FnScope N ps (defScope st))
    (hb : ∀ (f : Addr) (cdv : Value) (A : Around) (outer : List Env) (s : Shared) (H : Hp) (E : XK), Room k (cxOf (L2.CX P w) P w K mg base N qual (defScope st) f cdv A outer s H E).A →
      Takes (cxOf (L2.CX P w) P w K mg base N qual (defScope st) f cdv A outer s H E) (fun cls d _ H => E cls d H) →
      PassesOwn (model (cxOf (L2.CX P w) P w K mg base N qual (defScope st) f cdv A outer s H E).prog (cxOf (L2.CX P w) P w K mg base N qual (defScope st) f cdv A outer s H E).w) (cxOf (L2.CX P w) P w K mg base N qual (defScope st) f cdv A outer s H E).A (cxOf (L2.CX P w) P w K mg base N qual (defScope st) f cdv A outer s H E).env (cxOf (L2.CX P w) P w K mg base N qual (defScope st) f cdv A outer s H E).xe →
      JSs (cxOf (L2.CX P w) P w K mg base N qual (defScope st) f cdv A outer s H E) (fun cls d _ H => E cls d H) (defBody st) m) :
    MetP P w K mg base cls x (k + 1) ps (bodyF N.length m) := by
  obtain ⟨C, f, fd, c, hm, F, hb2⟩ := T
  exact ⟨C, f, fd, c, hm, fn_ok F S fun cdv A outer s H E hr tk => hb f cdv A outer s H E hr tk (passes_of rfl), hb2, F.obj⟩
theorem met_okU {cls x qual : Str} {st : Stmt} {N ps : List Str} {k : Nat} {m : Rho → Sto → RS} (T : MetT K cls x qual st ps) (S : FnScope N ps (defScope st))
    (hb : ∀ (f : Addr) (cdv : Value) (A : Around) (outer : List Env) (s : Shared) (H : Hp) (E : XK), Room k (cxOf (L2.CX P w) P w K mg base N qual (defScope st) f cdv A outer s H E).A →
      Takes (cxOf (L2.CX P w) P w K mg base N qual (defScope st) f cdv A outer s H E) (fun cls d _ H => E cls d H) →
      PassesOwn (model (cxOf (L2.CX P w) P w K mg base N qual (defScope st) f cdv A outer s H E).prog (cxOf (L2.CX P w) P w K mg base N qual (defScope st) f cdv A outer s H E).w) (cxOf (L2.CX P w) P w K mg base N qual (defScope st) f cdv A outer s H E).A (cxOf (L2.CX P w) P w K mg base N qual (defScope st) f cdv A outer s H E).env (cxOf (L2.CX P w) P w K mg base N qual (defScope st) f cdv A outer s H E).xe →
      JSs (cxOf (L2.CX P w) P w K mg base N qual (defScope st) f cdv A outer s H E) (fun cls d _ H => E cls d H) (defBody st) m) :
    MetP P w K mg base cls x (k + 1) ps (bodyU N.length m) := by
  obtain ⟨C, f, fd, c, hm, F, hb2⟩ := T
  refine ⟨C, f, fd, c, hm, okG F S (fun _ _ _ _ h => h.1) fun cdv A outer s H vs Q E hr h => ⟨_, hb f cdv A outer s H E hr (takes_of rfl rfl rfl rfl) (passes_of rfl), ?_⟩, hb2, F.obj⟩
  obtain ⟨_, g, st', as, R, r, q⟩ := h
  exact ⟨g, rho0 N.length as, st', R, rho_start r, post_endU (X := cxOf (L2.CX P w) P w K mg base N qual (defScope st) f cdv A outer s H E) q⟩
theorem MetP.mono {cls m : Str} {ps : List Str} {F : FV} {j k : Nat} (h : MetP P w K mg base cls m j ps F) (l : j ≤ k) : MetP P w K mg base cls m k ps F := by
  obtain ⟨C, f, fd, c, hm, hF, hb⟩ := h
  exact ⟨C, f, fd, c, hm, hF.mono l, hb⟩
end
section
variable {X : Cx} {W : WX} {o e : Expr} {es : List Expr} {mo : Dn} {ms : Dl} {cls m f : Str} {apos pos : Pos}
/-! ### o.f -/
def obAt (cls : Str) (v : Vl) (st : Sto) : Option (Nat × List (Str × Nat)) := match v with
  | .c n => match (st : List Cell)[n]? with
    | some (.ob c fs) => if c = cls then some (n, fs) else none
    | _ => none
  | _ => none
theorem obAt_some {v : Vl} {st : Sto} {n : Nat} {fs : List (Str × Nat)} (h : obAt cls v st = some (n, fs)) : v = .c n ∧ (st : List Cell)[n]? = some (.ob cls fs) := by
  unfold obAt at h
  split at h
  · rename_i m
    split at h
    · rename_i c fs' hc
      split at h
      · rename_i he
        cases h
        exact ⟨rfl, by rw [hc, he]⟩
      · cases h
    · cases h
  · cases h
theorem zip_lookup {F : Addr → Str × Nat → Prop} : ∀ {qs : List Addr} {fs : List (Str × Nat)} {j : Nat}, Paired F qs fs → fs.lookup f = some j → ∃ q g, (List.zipWith (fun q (f : Str × Nat) => (f.1, V.ref q)) qs fs).lookup f = some (V.ref q) ∧ F q (g, j) := by
  intro qs fs j h
  induction h with
  | nil => intro e; cases e
  | @cons q p qs fs r t ih =>
    intro e
    rw [List.zipWith_cons_cons]
    obtain ⟨a, b⟩ := p
    rw [List.lookup_cons] at e ⊢
    by_cases ha : f == a
    · rw [ha] at e ⊢
      cases e
      exact ⟨q, a, rfl, r⟩
    · rw [Bool.not_eq_true] at ha
      rw [ha] at e ⊢
      exact ih e
theorem zip_none {F : Addr → Str × Nat → Prop} : ∀ {qs : List Addr} {fs : List (Str × Nat)}, Paired F qs fs → fs.lookup f = none → (List.zipWith (fun q (f : Str × Nat) => (f.1, V.ref q)) qs fs).lookup f = none := by
  intro qs fs h
  induction h with
  | nil => intro _; rfl
  | @cons q p qs fs r t ih =>
    intro e
    rw [List.zipWith_cons_cons]
    obtain ⟨a, b⟩ := p
    rw [List.lookup_cons] at e ⊢
    by_cases ha : f == a
    · rw [ha] at e; cases e
    · rw [Bool.not_eq_true] at ha
      rw [ha] at e ⊢
      exact ih e
def obF (cls f : Str) (mo : Dn) (ρ : Rho) (st : Sto) : Res Vl := (mo ρ st).bind fun v st => match obAt cls v st with
  | some (_, fs) => match fs.lookup f with
    | some j => .ok (.c j) st
    | none => .stuck
  | none => .stuck
theorem je_obF (N : NoAt X.K cls f) (ho : JE X W o mo) (hb : attributeBase o f X.env (eval o X.env) = eval o X.env) : JE X W (.Attribute o f pos) (obF cls f mo) :=
  PE.imp (pe_fld ho hb) fun σ H Q ⟨g, ρ, st, R, E, q⟩ => ⟨g, ρ, st, R, E, PostE.step q fun u H1 v st1 g1 l1 R1 r1 q1 => by
    split at q1
    · rename_i n fs hob
      obtain ⟨rfl, hc⟩ := obAt_some hob
      split at q1
      · rename_i j hj
        obtain ⟨p, rest, h1, rfl⟩ := r1
        obtain ⟨p', dx, C, qs, e1, hC, hp, ho, hd⟩ := R1.cells n _ _ h1 hc
        cases e1
        obtain ⟨C', hk, hn⟩ := N
        obtain rfl := ns_one hC hk.nm
        obtain ⟨q, g', hl, r', hr⟩ := zip_lookup hd hj
        exact ⟨p, C, dx, _, _, rfl, hp, hk.cl, hn, hl, q1 _ H1 g1 (Gh.le.refl _) R1 ⟨q, r', hr, rfl⟩⟩
      · exact q1.elim
    · exact q1.elim⟩
/-! ### o.m(..) -/
/-- a method called: what it raises is wished for at the slots as they stand -/
theorem pe_metG {CX : CXT} {k : Nat} {g C : Addr} {fd : FuncData} {ps : List Str} {sp : Sp} {Wq : L2.St → XK} {ta : TE} {t : TA} {pl : Sem Bool} (he : PE X o ta) (c : Cls X.K C) (hm : Meth X.K C m g)
    (F : FnOk X.prog X.w X.K X.mg X.base CX k g fd ps sp) (hr : Room k X.A) (hb : Binds X.K fd ps []) (hx : ∀ σ, PassesAt CX X σ (Wq σ)) (ha : PA X (e :: es) t)
    (hst : starEach (e :: es) X.env = (false, eval e X.env) :: starEach es X.env) (hpl : (backTo pos (starEach es X.env)).any (·.1) = false)
    (ht : eval (.Call (.Attribute o m apos) (e :: es) [] pos) X.env = (do
      let ov ← eval o X.env
      standAt apos.atName
      let (f, first) ← holding [ov] (getMethod ov m pl)
      callWith pos f first (backTo pos (starEach (e :: es) X.env)) (backToKw pos (keywordEach [] X.env)))) :
    PE X (.Call (.Attribute o m apos) (e :: es) [] pos) (fun σ H Q => ta σ H fun x H1 => ∃ a dx fs, x = .ref a ∧ H1 a = some (.ins C dx fs) ∧ fs.lookup m = none ∧ t σ H1 fun vs H2 => sp (x :: vs) H2 Q (Wq σ)) := by
  refine ⟨fun pins s σ H Q I h => ?_⟩
  refine PySem.W.methodCall_KW (pl := pl) (thn (he.run pins s σ H _ I h) fun u s1 ⟨x, H1, I1, rx, a, dx, fs, ex, ea, l, q⟩ => ?_) ht
  subst ex
  obtain rfl : u = Value.ref a := rx
  refine getmeth_ok I1 ea c hm l ?_
  refine PySem.W.callWith_K (first := [.ref a]) (h₀ := X.base) I.ok.mod.kin hm.kp (thn (ha.run pos pins s1 σ H1 _ I1 q) fun us s2 ⟨vs, H2, J, r, q2⟩ => ⟨J.kIn, ?_⟩) hst hpl
  have r2 : Vals (V.ref a :: vs) (Value.ref a :: us) := .cons rfl r
  have b := hb s2 (Value.ref a :: us) J.kIn (by rw [List.append_nil, ← r2.length]; exact F.len _ _ _ _ q2)
  rw [List.append_nil] at b
  refine wpAny_call (codeAny_mono (F.run X.A X.stack s2 H2 ⟨Value.ref a :: us, []⟩ (Value.ref a :: us) (V.ref a :: vs) Q (Wq σ) hr J.env0 b r2 q2) fun z s3 hz => ?_)
  match z, hz with
  | .error e, hz => exact hx σ pins H2 s2 e s3 J hz
  | .ok (.ret u), hz => exact J.after hz
  | .ok .next, hz => exact hz.elim
  | .ok .brk, hz => exact hz.elim
  | .ok .cont, hz => exact hz.elim
theorem pe_metG0 {CX : CXT} {k : Nat} {g C : Addr} {fd : FuncData} {ps : List Str} {sp : Sp} {Wq : L2.St → XK} {ta : TE} {pl : Sem Bool} (he : PE X o ta) (c : Cls X.K C) (hm : Meth X.K C m g)
    (F : FnOk X.prog X.w X.K X.mg X.base CX k g fd ps sp) (hr : Room k X.A) (hb : Binds X.K fd ps []) (hx : ∀ σ, PassesAt CX X σ (Wq σ))
    (ht : eval (.Call (.Attribute o m apos) [] [] pos) X.env = (do
      let ov ← eval o X.env
      standAt apos.atName
      let (f, first) ← holding [ov] (getMethod ov m pl)
      callWith pos f first (backTo pos (starEach [] X.env)) (backToKw pos (keywordEach [] X.env)))) :
    PE X (.Call (.Attribute o m apos) [] [] pos) (fun σ H Q => ta σ H fun x H1 => ∃ a dx fs, x = .ref a ∧ H1 a = some (.ins C dx fs) ∧ fs.lookup m = none ∧ sp [x] H1 Q (Wq σ)) := by
  refine ⟨fun pins s σ H Q I h => ?_⟩
  refine PySem.W.methodCall_KW (pl := pl) (thn (he.run pins s σ H _ I h) fun u s1 ⟨x, H1, I1, rx, a, dx, fs, ex, ea, l, q⟩ => ?_) ht
  subst ex
  obtain rfl : u = Value.ref a := rx
  refine getmeth_ok I1 ea c hm l ?_
  refine PySem.W.callWith_K0 (first := [.ref a]) I1.kIn hm.kp ?_
  have r2 : Vals [V.ref a] [Value.ref a] := .cons rfl .nil
  have b := hb s1 [Value.ref a] I1.kIn (by rw [List.append_nil]; exact r2.length.symm.trans (F.len _ _ _ _ q))
  rw [List.append_nil] at b
  refine wpAny_call (codeAny_mono (F.run X.A X.stack s1 H1 ⟨[Value.ref a], []⟩ [Value.ref a] [V.ref a] Q (Wq σ) hr I1.env0 b r2 q) fun z s3 hz => ?_)
  match z, hz with
  | .error e, hz => exact hx σ pins H1 s1 e s3 I1 hz
  | .ok (.ret u), hz => exact I1.after hz
  | .ok .next, hz => exact hz.elim
  | .ok .brk, hz => exact hz.elim
  | .ok .cont, hz => exact hz.elim
/-- o.m(..) of an instance of cls -/
def metM (cls m : Str) (F : FV) (mo : Dn) (ms : Dl) (ρ : Rho) (st : Sto) : Res Vl := (mo ρ st).bind fun v st1 => match obAt cls v st1 with
  | some (n, fs) => match fs.lookup m with
    | none => (ms ρ st1).bind fun vs st2 => F (.c n :: vs) st2
    | some _ => .stuck
  | none => .stuck
theorem postE_call {σ : L2.St} {g : Gh} {Q : VK} {r : Res Vl} (q : PostE X W σ g (ValR X.mg X.K) Q r) : PostC X.K X.mg g Q (WE W σ) r := by
  revert q
  cases r with
  | stuck => exact id
  | ok v st2 => exact id
  | err x st2 => exact fun q cls dd H g' l R e => q cls dd H g' l R e
theorem je_met {j k : Nat} {ps : List Str} {F : FV} {pl : Sem Bool} (O : MetP X.prog X.w X.K X.mg X.base cls m j ps F) (hr : Room k X.A) (hj : j ≤ k) (tk : Takes X W) (ho : JE X W o mo) (ha : JA X W (e :: es) ms)
    (hlen : ∀ ρ st vs st', ms ρ st = .ok vs st' → vs.length + 1 = ps.length)
    (ht : eval (.Call (.Attribute o m apos) (e :: es) [] pos) X.env = (do
      let ov ← eval o X.env
      standAt apos.atName
      let (f, first) ← holding [ov] (getMethod ov m pl)
      callWith pos f first (backTo pos (starEach (e :: es) X.env)) (backToKw pos (keywordEach [] X.env))))
    (hst : starEach (e :: es) X.env = (false, eval e X.env) :: starEach es X.env) (hpl : (backTo pos (starEach es X.env)).any (·.1) = false) :
    JE X W (.Call (.Attribute o m apos) (e :: es) [] pos) (metM cls m F mo ms) := by
  obtain ⟨C, f, fd, hc, hm, hF, hb, _⟩ := O
  refine PE.imp (pe_metG ho hc.cl hm hF (hr.mono hj) hb (fun σ => passAt tk σ) ha hst hpl ht) fun σ H Q ⟨g, ρ, st, R, E, q⟩ => ⟨g, ρ, st, R, E, ?_⟩
  unfold metM at q
  refine PostE.step q fun u H1 v st1 g1 l1 R1 r1 q1 => ?_
  split at q1
  · rename_i n fs hob
    obtain ⟨rfl, hcell⟩ := obAt_some hob
    split at q1
    · rename_i hl
      obtain ⟨p, rest, h1, rfl⟩ := id r1
      obtain ⟨p', dx, C', qs, e1, hC, hp, _, hd⟩ := R1.cells n _ _ h1 hcell
      cases e1
      obtain rfl := ns_one hC hc.nm
      refine ⟨p, dx, _, rfl, hp, zip_none hd hl, g1, ρ, st1, R1, E.mono l1.1, ?_⟩
      have hln := hlen ρ st1
      revert q1 hln
      cases ms ρ st1 with
      | stuck => exact fun q _ => q
      | err x st2 => exact fun q _ => q
      | ok vs st2 =>
        intro q1 hln us H2 g2 l2 R2 r2
        refine ⟨by rw [List.length_cons, valsR_len r2]; exact hln vs st2 rfl, g2, st2, .c n :: vs, R2, ⟨ValR.mono l2.1 r1, r2⟩, ?_⟩
        exact postE_call (PostE.mono l2 q1)
    · exact q1.elim
  · exact q1.elim
theorem je_met0 {j k : Nat} {ps : List Str} {F : FV} {pl : Sem Bool} (O : MetP X.prog X.w X.K X.mg X.base cls m j ps F) (hr : Room k X.A) (hj : j ≤ k) (tk : Takes X W) (ho : JE X W o mo) (hl1 : 1 = ps.length)
    (ht : eval (.Call (.Attribute o m apos) [] [] pos) X.env = (do
      let ov ← eval o X.env
      standAt apos.atName
      let (f, first) ← holding [ov] (getMethod ov m pl)
      callWith pos f first (backTo pos (starEach [] X.env)) (backToKw pos (keywordEach [] X.env)))) :
    JE X W (.Call (.Attribute o m apos) [] [] pos) (metM cls m F mo nilA) := by
  obtain ⟨C, f, fd, hc, hm, hF, hb, _⟩ := O
  refine PE.imp (pe_metG0 ho hc.cl hm hF (hr.mono hj) hb (fun σ => passAt tk σ) ht) fun σ H Q ⟨g, ρ, st, R, E, q⟩ => ⟨g, ρ, st, R, E, ?_⟩
  unfold metM at q
  refine PostE.step q fun u H1 v st1 g1 l1 R1 r1 q1 => ?_
  split at q1
  · rename_i n fs hob
    obtain ⟨rfl, hcell⟩ := obAt_some hob
    split at q1
    · rename_i hl
      obtain ⟨p, rest, h1, rfl⟩ := id r1
      obtain ⟨p', dx, C', qs, e1, hC, hp, _, hd⟩ := R1.cells n _ _ h1 hcell
      cases e1
      obtain rfl := ns_one hC hc.nm
      exact ⟨p, dx, _, rfl, hp, zip_none hd hl, hl1, g1, st1, [.c n], R1, ⟨r1, trivial⟩, postE_call q1⟩
    · exact q1.elim
  · exact q1.elim
end
end M1

/-! part ZI: instances are made; attributes are set -/
namespace M1
open PySem PySem.Spec L2 PyProof.Rows
section
variable [LT] {K : PySem.W.Frag} {H : Hp} {g : Gh} {st : Sto}
theorem Rel.growA (R : Rel K H g st) {H' : Hp} {as : List Addr} {c : Cell} (hn : ∀ p ∈ as, H p = none) (hk : ∀ q, q ∉ as → H' q = H q) (hth : ∀ p ∈ as, ∃ o, H' p = some o ∧ ∀ ps, o ≠ .tbl ps) (tb : LamX.Tabs LT.T H')
    (hc : CellR K H' g as c) (cl : ∀ ns, c = .lstc ns → ∀ m ∈ ns, m < st.length := by intro _ e; cases e) (clO : ∀ (cls : Str) (fs : List (Str × Nat)), c = .ob cls fs → ∀ f ∈ fs, f.2 < st.length := by intro _ _ e; cases e) :
    Rel K H' { g with at_ := g.at_ ++ [as] } (st ++ [c]) ∧ g.le { g with at_ := g.at_ ++ [as] } := by
  have f1 : ∀ p ∈ as, g.F p = none := fun p hp => (R.fresh (hn p hp)).1
  have f2 : ∀ p ∈ as, ∀ bs ∈ g.at_, p ∉ bs := fun p hp => (R.fresh (hn p hp)).2
  have l : g.le { g with at_ := g.at_ ++ [as] } := ⟨⟨Same.refl _, fun n q r h => ⟨r, (List.getElem?_append_left (List.getElem?_eq_some_iff.mp h).1).trans h⟩⟩, rfl⟩
  have hl := R.len
  have ne : ∀ q o, H q = some o → q ∉ as := fun q o e hq => by rw [hn q hq] at e; cases e
  have old : ∀ (n : Nat) (bs : List Addr) (d : Cell), (g.at_ ++ [as])[n]? = some bs → ((st : List Cell) ++ [c])[n]? = some d → (g.at_[n]? = some bs ∧ (st : List Cell)[n]? = some d) ∨ (n = st.length ∧ bs = as ∧ d = c) := fun n bs d h1 h2 => by
    by_cases hn : n < g.at_.length
    · rw [List.getElem?_append_left hn] at h1
      rw [List.getElem?_append_left (by omega)] at h2
      exact .inl ⟨h1, h2⟩
    · rw [List.getElem?_append_right (by omega)] at h1 h2
      have hz : n - g.at_.length = 0 := by
        have := (List.getElem?_eq_some_iff.mp h1).1
        simp at this
        omega
      rw [hz] at h1
      rw [← hl, hz] at h2
      cases h1
      cases h2
      exact .inr ⟨by omega, rfl, rfl⟩
  have oldC : ∀ (n : Nat) (d : Cell), ((st : List Cell) ++ [c])[n]? = some d → ((st : List Cell)[n]? = some d) ∨ (n = st.length ∧ d = c) := fun n d h => by
    by_cases hn : n < st.length
    · rw [List.getElem?_append_left hn] at h
      exact .inl h
    · rw [List.getElem?_append_right (by omega)] at h
      have hz : n - st.length = 0 := by
        have := (List.getElem?_eq_some_iff.mp h).1
        simp at this
        omega
      rw [hz] at h
      cases h
      exact .inr ⟨by omega, rfl⟩
  refine ⟨⟨fun b x e => ?_, fun n bs d h1 h2 h3 q hq => ?_, fun bs ha q hq => ?_, fun n m bs cs d e h1 h2 h3 h4 h5 h6 h7 q hq hq2 => ?_, by rw [List.length_append, List.length_append, hl]; rfl, fun n ns h m hm => ?_, fun n cls fs h f hf => ?_, fun n bs d h1 h2 => ?_, fun q u hq => ?_, tb, R.notbl⟩, l⟩
  · have e2 := R.sub b x e
    rw [hk b (ne b x e2)]; exact e2
  · rcases old n bs d h1 h2 with ⟨h1, h2⟩ | ⟨_, e, _⟩
    · exact R.apart n bs d h1 h2 h3 q hq
    · rw [e] at hq
      exact f1 q hq
  · rcases List.mem_append.mp ha with h3 | h3
    · rw [hk q (fun z => f2 q z bs h3 hq)]
      exact R.there bs h3 q hq
    · rw [List.mem_singleton] at h3
      rw [h3] at hq
      exact hth q hq
  · rcases old n bs d h1 h3 with ⟨h1, h3⟩ | ⟨e1, e2, _⟩
    · rcases old m cs e h2 h4 with ⟨h2, h4⟩ | ⟨_, e3, _⟩
      · exact R.nd n m bs cs d e h1 h2 h3 h4 h5 h6 h7 q hq hq2
      · rw [e3] at hq2
        exact f2 q hq2 bs (List.mem_of_getElem? h1) hq
    · rw [e2] at hq
      rcases old m cs e h2 h4 with ⟨h2, h4⟩ | ⟨e3, _, _⟩
      · exact f2 q hq cs (List.mem_of_getElem? h2) hq2
      · exact h7 (e1.trans e3.symm)
  · rcases oldC n _ h with h | ⟨e, e2⟩
    · exact R.closed n ns h m hm
    · rw [e]; exact cl ns e2.symm m hm
  · rcases oldC n _ h with h | ⟨e, e2⟩
    · exact R.closedO n cls fs h f hf
    · rw [e]; exact clO cls fs e2.symm f hf
  · rcases old n bs d h1 h2 with ⟨h1, h2⟩ | ⟨_, e, ed⟩
    · exact CellR.mono l.1 (fun q hq => hk q (fun z => f2 q z bs (List.mem_of_getElem? h1) hq)) (R.cells n bs d h1 h2)
    · subst e
      subst ed
      exact CellR.mono l.1 (fun _ _ => rfl) hc
  · obtain ⟨h1, h2, h3⟩ := R.aside q u hq
    have hqp : q ∉ as := ne q u h1
    refine ⟨(hk q hqp).trans h1, h2, fun bs ha => ?_, h3.2⟩
    rcases List.mem_append.mp ha with h4 | h4
    · exact h3.1 bs h4
    · rw [List.mem_singleton] at h4
      rw [h4]
      exact hqp
theorem Rel.slot (R : Rel K H g st) : Rel K H { g with at_ := g.at_ ++ [[]] } (st ++ [.slot]) ∧ g.le { g with at_ := g.at_ ++ [[]] } :=
  R.growA (as := []) (c := .slot) (fun _ h => by cases h) (fun _ _ => rfl) (fun _ h => by cases h) R.tabs rfl
theorem Rel.obj (R : Rel K H g st) {cls : Str} {C x dx : Addr} (hC : PySem.W.nsIn K mainGlobals cls = some (some (.ref C))) (hx : H x = none) (hdx : H dx = none) (ne : dx ≠ x) :
    Rel K (upd (upd H dx (.own x)) x (.ins C dx [])) { g with at_ := g.at_ ++ [[x, dx]] } (st ++ [.ob cls []]) ∧ g.le { g with at_ := g.at_ ++ [[x, dx]] } := by
  refine R.growA (as := [x, dx]) (c := .ob cls []) (fun p hp => ?_) (fun q hq => ?_) (fun p hp => ?_) ?_ ?_ (by intro _ e; cases e) (by intro _ _ e f hf; cases e; cases hf)
  · simp only [List.mem_cons, List.not_mem_nil, or_false] at hp
    rcases hp with rfl | rfl <;> assumption
  · simp only [List.mem_cons, List.not_mem_nil, or_false, not_or] at hq
    rw [upd_ne hq.1, upd_ne hq.2]
  · simp only [List.mem_cons, List.not_mem_nil, or_false] at hp
    rcases hp with rfl | rfl
    · exact ⟨_, upd_same, fun ps z => by cases z⟩
    · exact ⟨.own x, by rw [upd_ne ne, upd_same], fun ps z => by cases z⟩
  · exact tabs_new (tabs_new R.tabs hdx) (by rw [upd_ne ne.symm]; exact hx)
  · exact ⟨x, dx, C, [], rfl, hC, upd_same, by rw [upd_ne ne, upd_same], .nil⟩
/-- a list goes to a free place -/
theorem Rel.moveL (R : Rel K H g st) {n j : Nat} {p : Addr} {r : List Addr} {xs : List PyData} (h1 : g.at_[n]? = some (p :: r)) (h2 : (st : List Cell)[n]? = some (.lst xs)) (hj : (st : List Cell)[j]? = some .slot) :
    Rel K H { g with at_ := g.at_.set j [p] } ((st.set n .dead).set j (.lst xs)) ∧ g.le { g with at_ := g.at_.set j [p] } ∧ ({ g with at_ := g.at_.set j [p] } : Gh).at_[j]? = some [p] := by
  have hnj : n ≠ j := fun e => by rw [e, hj] at h2; cases h2
  have hjl : j < g.at_.length := by rw [R.len]; exact (List.getElem?_eq_some_iff.mp hj).1
  have hjs : j < st.length := (List.getElem?_eq_some_iff.mp hj).1
  have hja : ∀ as, g.at_[j]? = some as → as = [] := fun as h => R.cells j as _ h hj
  obtain ⟨p', vs, e1, hp, hd⟩ := R.cells n _ _ h1 h2
  cases e1
  have l : g.le { g with at_ := g.at_.set j [p] } := ⟨⟨Same.refl _, fun m q r h => by
    by_cases hm : j = m
    · subst hm
      have := hja _ h
      cases this
    · exact ⟨r, by show (g.at_.set j [p])[m]? = _; rw [List.getElem?_set_ne hm]; exact h⟩⟩, rfl⟩
  have oldA : ∀ (m : Nat) (as : List Addr), (g.at_.set j [p])[m]? = some as → (m = j ∧ as = [p]) ∨ (m ≠ j ∧ g.at_[m]? = some as) := fun m as h => by
    by_cases hm : j = m
    · subst hm
      rw [List.getElem?_set_self hjl] at h
      cases h
      exact .inl ⟨rfl, rfl⟩
    · rw [List.getElem?_set_ne hm] at h
      exact .inr ⟨fun e => hm e.symm, h⟩
  have oldC : ∀ (m : Nat) (c : Cell), (((st.set n .dead).set j (.lst xs) : Sto) : List Cell)[m]? = some c → (m = j ∧ c = .lst xs) ∨ (m ≠ j ∧ (c = .dead ∨ (m ≠ n ∧ (st : List Cell)[m]? = some c))) := fun m c h => by
    by_cases hm : j = m
    · subst hm
      rw [List.getElem?_set_self (by rw [List.length_set]; exact hjs)] at h
      cases h
      exact .inl ⟨rfl, rfl⟩
    · rw [List.getElem?_set_ne hm] at h
      refine .inr ⟨fun e => hm e.symm, ?_⟩
      by_cases hn : n = m
      · subst hn
        rw [List.getElem?_set_self (List.getElem?_eq_some_iff.mp h2).1] at h
        cases h
        exact .inl rfl
      · rw [List.getElem?_set_ne hn] at h
        exact .inr ⟨fun e => hn e.symm, h⟩
  have hpn : ∀ (m : Nat) (as : List Addr) (c : Cell), m ≠ n → g.at_[m]? = some as → (st : List Cell)[m]? = some c → c ≠ .dead → p ∉ as := fun m as c hm ha hc hd hpa => R.nd n m [p] as _ c h1 ha h2 hc (fun z => by cases z) hd (fun e => hm e.symm) p (List.mem_singleton.mpr rfl) hpa
  refine ⟨⟨R.sub, fun m as c h3 h4 h5 q hq => ?_, fun as ha q hq => ?_, fun a b as bs c d e1 e2 e3 e4 e5 e6 e7 q hq hq2 => ?_, by rw [List.length_set, List.length_set, List.length_set]; exact R.len, fun m ns h k hk => ?_, fun m cls fs h f hf => ?_, fun m as c h3 h4 => ?_, fun q u hq => ?_, R.tabs, R.notbl⟩, l, List.getElem?_set_self hjl⟩
  · rcases oldC m c h4 with ⟨e, _⟩ | ⟨hm, e | ⟨hmn, e⟩⟩
    · rcases oldA m as h3 with ⟨_, e2⟩ | ⟨e2, _⟩
      · rw [e2, List.mem_singleton] at hq
        rw [hq]
        exact R.apart n _ _ h1 h2 (fun z => by cases z) p List.mem_cons_self
      · exact absurd e e2
    · exact absurd e h5
    · rcases oldA m as h3 with ⟨e2, _⟩ | ⟨_, h3⟩
      · exact absurd e2 hm
      · exact R.apart m as c h3 e h5 q hq
  · rcases List.mem_or_eq_of_mem_set ha with h | h
    · exact R.there as h q hq
    · rw [h, List.mem_singleton] at hq
      rw [hq]
      exact ⟨_, hp, fun ps z => by cases z⟩
  · rcases oldC a c e3 with ⟨ea, _⟩ | ⟨ha, z | ⟨han, e3⟩⟩
    · rcases oldC b d e4 with ⟨eb, _⟩ | ⟨hb, z | ⟨hbn, e4⟩⟩
      · exact e7 (ea.trans eb.symm)
      · exact e6 z
      · rcases oldA a as e1 with ⟨_, ez⟩ | ⟨ez, _⟩
        · rcases oldA b bs e2 with ⟨ey, _⟩ | ⟨_, e2⟩
          · exact hb ey
          · rw [ez, List.mem_singleton] at hq
            rw [hq] at hq2
            exact hpn b bs d hbn e2 e4 e6 hq2
        · exact ez ea
    · exact e5 z
    · rcases oldA a as e1 with ⟨ey, _⟩ | ⟨_, e1⟩
      · exact ha ey
      · rcases oldC b d e4 with ⟨eb, _⟩ | ⟨hb, z | ⟨hbn, e4⟩⟩
        · rcases oldA b bs e2 with ⟨_, ez⟩ | ⟨ez, _⟩
          · rw [ez, List.mem_singleton] at hq2
            rw [hq2] at hq
            exact hpn a as c han e1 e3 e5 hq
          · exact ez eb
        · exact e6 z
        · rcases oldA b bs e2 with ⟨ey, _⟩ | ⟨_, e2⟩
          · exact hb ey
          · exact R.nd a b as bs c d e1 e2 e3 e4 e5 e6 e7 q hq hq2
  · rcases oldC m _ h with ⟨_, e⟩ | ⟨_, e | ⟨_, h⟩⟩
    · cases e
    · cases e
    · exact R.closed m ns h k hk
  · rcases oldC m _ h with ⟨_, e⟩ | ⟨_, e | ⟨_, h⟩⟩
    · cases e
    · cases e
    · exact R.closedO m cls fs h f hf
  · rcases oldC m c h4 with ⟨e, ec⟩ | ⟨hm, e | ⟨hmn, e⟩⟩
    · rcases oldA m as h3 with ⟨_, e2⟩ | ⟨e2, _⟩
      · subst ec e2
        exact ⟨p, vs, rfl, hp, hd⟩
      · exact absurd e e2
    · subst e; trivial
    · rcases oldA m as h3 with ⟨e2, _⟩ | ⟨_, h3⟩
      · exact absurd e2 hm
      · exact CellR.mono l.1 (fun _ _ => rfl) (R.cells m as c h3 e)
  · obtain ⟨z1, z2, z3, z4⟩ := R.aside q u hq
    refine ⟨z1, z2, fun as ha => ?_, z4⟩
    rcases List.mem_or_eq_of_mem_set ha with h | h
    · exact z3 as h
    · rw [h, List.mem_singleton]
      exact fun z => z3 _ (List.mem_of_getElem? h1) (z ▸ List.mem_cons_self)
/-! ### fields -/
def putN (f : Str) (j : Nat) : List (Str × Nat) → List (Str × Nat)
  | [] => [(f, j)]
  | (g, x) :: r => if g = f then (g, j) :: r else (g, x) :: putN f j r
theorem putN_mem {f : Str} {j : Nat} : ∀ {fs : List (Str × Nat)} {x : Str × Nat}, x ∈ putN f j fs → x.2 = j ∨ ∃ y ∈ fs, y.2 = x.2
  | [], x, h => by
    rw [putN, List.mem_singleton] at h
    exact .inl (by rw [h])
  | (a, b) :: r, x, h => by
    rw [putN] at h
    split at h
    · rcases List.mem_cons.mp h with h | h
      · exact .inl (by rw [h])
      · exact .inr ⟨x, List.mem_cons_of_mem _ h, rfl⟩
    · rcases List.mem_cons.mp h with h | h
      · exact .inr ⟨(a, b), List.mem_cons_self, by rw [h]⟩
      · rcases putN_mem h with h | ⟨y, hy, e⟩
        · exact .inl h
        · exact .inr ⟨y, List.mem_cons_of_mem _ hy, e⟩
theorem put_zip {F : Addr → Nat → Prop} {f : Str} {q : Addr} {j : Nat} (hq : F q j) : ∀ {qs : List Addr} {fs : List (Str × Nat)}, Paired (fun q (f : Str × Nat) => F q f.2) qs fs →
    ∃ qs', putF f (V.ref q) (List.zipWith (fun q (f : Str × Nat) => (f.1, V.ref q)) qs fs) = List.zipWith (fun q (f : Str × Nat) => (f.1, V.ref q)) qs' (putN f j fs) ∧ Paired (fun q (f : Str × Nat) => F q f.2) qs' (putN f j fs) := by
  intro qs fs h
  induction h with
  | nil => exact ⟨[q], rfl, .cons hq .nil⟩
  | @cons a b qs fs r t ih =>
    obtain ⟨qs', e, hp⟩ := ih
    obtain ⟨b1, b2⟩ := b
    rw [List.zipWith_cons_cons]
    show ∃ qs', (if b1 = f then (b1, V.ref q) :: _ else (b1, V.ref a) :: putF f (V.ref q) _) = _ ∧ _
    rw [putN]
    by_cases hb : b1 = f
    · rw [if_pos hb, if_pos hb]
      exact ⟨q :: qs, rfl, .cons hq t⟩
    · rw [if_neg hb, if_neg hb, e]
      exact ⟨a :: qs', rfl, .cons r hp⟩
/-- the field f of the object in cell m is the list in cell j -/
theorem Rel.setF (R : Rel K H g st) {m j : Nat} {cls f : Str} {fs : List (Str × Nat)} {q : Addr} {rq as : List Addr} (ha : g.at_[m]? = some as) (hm : (st : List Cell)[m]? = some (.ob cls fs)) (hj : g.at_[j]? = some (q :: rq)) (hlt : j < m) :
    ∃ p dx C fv, as = [p, dx] ∧ PySem.W.nsIn K mainGlobals cls = some (some (.ref C)) ∧ H p = some (.ins C dx fv) ∧ fv.length ≤ fs.length ∧ Rel K (upd H p (.ins C dx (putF f (V.ref q) fv))) g (st.set m (.ob cls (putN f j fs))) := by
  obtain ⟨p, dx, C, qs, e, hC, hp, ho, hd⟩ := R.cells m _ _ ha hm
  obtain ⟨qs', e2, hd2⟩ := put_zip (F := fun q j => ∃ r, g.at_[j]? = some (q :: r)) (f := f) (q := q) (j := j) ⟨rq, hj⟩ hd
  refine ⟨p, dx, C, _, e, hC, hp, by rw [List.length_zipWith]; omega, R.write ha hm (fun z => by cases z) (p := p) (by rw [e]; exact List.mem_cons_self) ?_ (fun ns z => by cases z) (fun ps z => by cases z) fun cls' fs' z x hx => ?_⟩
  · have hne : dx ≠ p := fun z => by rw [z, hp] at ho; cases ho
    exact ⟨p, dx, C, qs', e, hC, by rw [upd_same, e2], by rw [upd_ne hne]; exact ho, hd2⟩
  · cases z
    rcases putN_mem hx with h | ⟨y, hy, e⟩
    · rw [h]; exact hlt
    · rw [← e]; exact R.closedO m cls fs hm y hy
end
end M1

/-! part ZJ: o.f = list, C(..), try/finally -/
namespace M1
open PySem PySem.Spec L2 PyProof.Rows
def isSlot (st : Sto) (j : Nat) : Bool := match (st : List Cell)[j]? with
  | some .slot => true
  | _ => false
theorem isSlot_some {st : Sto} {j : Nat} (h : isSlot st j = true) : (st : List Cell)[j]? = some .slot := by
  unfold isSlot at h
  split at h
  · assumption
  · cases h
def slotOf (st : Sto) (m : Nat) : Option Nat :=
  if 0 < m ∧ isSlot st (m - 1) = true then some (m - 1) else if 1 < m ∧ isSlot st (m - 2) = true then some (m - 2) else if 2 < m ∧ isSlot st (m - 3) = true then some (m - 3) else none
theorem slotOf_some {st : Sto} {m j : Nat} (h : slotOf st m = some j) : j < m ∧ (st : List Cell)[j]? = some .slot := by
  unfold slotOf at h
  split at h
  · rename_i h1; cases h; exact ⟨by omega, isSlot_some h1.2⟩
  · split at h
    · rename_i h1; cases h; exact ⟨by omega, isSlot_some h1.2⟩
    · split at h
      · rename_i h1; cases h; exact ⟨by omega, isSlot_some h1.2⟩
      · cases h
def setFO (cls f : Str) (v w : Vl) (st : Sto) : Option Sto := match v with
  | .c n => match obAt cls w st with
    | some (m, fs) => match (st : List Cell)[n]? with
      | some (.lst xs) => match slotOf st m with
        | some j => if fs.length < 900 then some (((st.set n .dead).set j (.lst xs)).set m (.ob cls (putN f j fs))) else none
        | none => none
      | _ => none
    | none => none
  | _ => none
def setFS (cls f : Str) (me mo : Dn) (ρ : Rho) (st : Sto) : RS := (me ρ st).then ρ fun v st1 => (mo ρ st1).then ρ fun w st2 => match setFO cls f v w st2 with
  | some st3 => .nx ρ st3
  | none => .stuck
variable [LT]
section
variable {X : Cx} {W : WX} {o e value : Expr} {es : List Expr} {mo me : Dn} {ms : Dl} {cls f : Str} {pos pos' : Pos}
/-- o.f = value -/
theorem js_setF (N : NoAt X.K cls f) (ho : JE X W o mo) (hv : JE X W value me) (hs : swapsWith value (some (.Attribute o f pos')) pos.line X.env = pure false) : JS X W (.Assign [.Attribute o f pos'] value pos) (setFS cls f me mo) :=
  PS.imp (ps_fld ho hv hs) fun D σ H ⟨g, ρ, st, R, E, q⟩ => ⟨g, ρ, st, R, E, PostS.then E q fun y H1 v st1 g1 l1 R1 r1 q1 => ⟨g1, ρ, st1, R1, E.mono l1.1, PostS.then (E.mono l1.1) q1 fun x H2 w st2 g2 l2 R2 r2 q2 => by
    split at q2
    · rename_i st3 h3
      unfold setFO at h3
      split at h3
      · rename_i n
        split at h3
        · rename_i m fs hob
          obtain ⟨rfl, hm⟩ := obAt_some hob
          split at h3
          · rename_i xs hx
            split at h3
            · rename_i j hj
              split at h3
              · rename_i hfl
                cases h3
                obtain ⟨hjm, hsl⟩ := slotOf_some hj
                obtain ⟨q0, rq, hq, rfl⟩ := ValR.mono l2.1 r1
                obtain ⟨p0, rp, hp0, rfl⟩ := r2
                obtain ⟨R3, l3, hj3⟩ := R2.moveL hq hx hsl
                have hmj : j ≠ m := by omega
                have hmn : n ≠ m := fun z => by rw [z, hm] at hx; cases hx
                have ha3 : (g2.at_.set j [q0])[m]? = some (p0 :: rp) := by rw [List.getElem?_set_ne hmj]; exact hp0
                have hm3 : (((st2.set n .dead).set j (.lst xs) : Sto) : List Cell)[m]? = some (.ob cls fs) := by rw [List.getElem?_set_ne hmj, List.getElem?_set_ne hmn]; exact hm
                obtain ⟨p, dx, C, fv, e1, hC, hp, hfv, R4⟩ := R3.setF (f := f) ha3 hm3 hj3 hjm
                cases e1
                obtain ⟨C', hk, hn⟩ := N
                obtain rfl := ns_one hC hk.nm
                exact ⟨p0, C, dx, fv, rfl, hp, hk.cl, hn, by omega, q2 σ _ _ l3 R4 (E.mono (l1.trans (l2.trans l3)).1)⟩
              · cases h3
            · cases h3
          · cases h3
        · cases h3
      · cases h3
    · exact q2.elim⟩⟩
/-! ### C(..) -/
theorem Room.make {k : Nat} {A : Around} (r : Room (k + 1) A) (C : Addr) (us : List Value) (kw : List (Str × Value)) : Room k (A.under (.builtin "type.__call__" ⟨.ref C :: us, kw⟩)) := ⟨r.base.make C us kw, r.gd⟩
theorem Room.in1 {k : Nat} {A : Around} (r : Room (k + 1) A) : Room k A.in1 := ⟨r.base.in1, r.gd⟩
theorem run_makG {CX : CXT} {k : Nat} {C g : Addr} {fd : FuncData} {ps : List Str} {sp : Sp} {pins : List (Addr × Obj)} {σ : L2.St} {H : Hp} {s : Shared} {Q : VK} {us : List Value} {vs : List V} {Eq : XK} (hmk : PySem.W.makesIn X.K C = true)
    (hin : PySem.W.findIn X.K (.ref C) "__init__" = some (some (.ref g))) (hfn : PySem.W.isFn X.K (.ref g) = true) (F : FnOk X.prog X.w X.K X.mg X.base CX k g fd ps sp) (hr : Room (k + 1) X.A) (hb : Binds X.K fd ps [])
    (hx : PassesAt CX X σ Eq) (I : Inv X pins σ H s) (r : Vals vs us) (h : ∀ x dx, H x = none → H dx = none → dx ≠ x → sp (.ref x :: vs) (upd (upd H dx (.own x)) x (.ins C dx [])) (fun v H2 => v = .non ∧ Q (.ref x) H2) Eq) :
    wpAny (model X.prog X.w) X.A (call (.ref C) us) (EP X pins σ Q) X.xe s := by
  have hq := h (s.heap.objs.size + 1) s.heap.objs.size (I.hok.fresh (Nat.le_succ _)) (I.hok.fresh (Nat.le_refl _)) (Nat.ne_of_lt (Nat.lt_succ_self _))
  have I2 := Inv.made (C := C) I
  have r2 : Vals (V.ref (s.heap.objs.size + 1) :: vs) (Value.ref (s.heap.objs.size + 1) :: us) := .cons rfl r
  have hl : ((Value.ref (s.heap.objs.size + 1) :: us) ++ []).length = ps.length := by
    rw [List.append_nil, ← r2.length]
    exact F.len _ _ _ _ hq
  have b := hb _ (Value.ref (s.heap.objs.size + 1) :: us) I2.kIn hl
  rw [List.append_nil] at b
  refine wpAny_call (make_map (f := g) I.kIn hmk hin (beq_iff_eq.mp hfn) (codeAny_mono (F.run _ X.stack _ _ ⟨Value.ref (s.heap.objs.size + 1) :: us, []⟩ (Value.ref (s.heap.objs.size + 1) :: us) _ _ Eq (hr.make C us [])
    (I2.env0.make C us []) b r2 hq) fun r s' hq' => ?_))
  cases r with
  | error e => exact hx pins _ _ e s' I2 hq'
  | ok fl =>
    cases fl with
    | ret u =>
      obtain ⟨v, H', I3, rv, ev, q3⟩ := I2.after hq'
      subst ev
      exact ⟨rv, ⟨V.ref (s.heap.objs.size + 1), H', I3, rfl, q3⟩⟩
    | next => exact False.elim hq'
    | brk => exact False.elim hq'
    | cont => exact False.elim hq'
theorem pe_makG {CX : CXT} {k : Nat} {C g : Addr} {fd : FuncData} {ps : List Str} {sp : Sp} {Wq : L2.St → XK} {x : Str} {p : Pos} {t : TA} (hmk : PySem.W.makesIn X.K C = true)
    (hin : PySem.W.findIn X.K (.ref C) "__init__" = some (some (.ref g))) (hfn : PySem.W.isFn X.K (.ref g) = true) (hkp : PySem.W.keepIn X.K (.ref C) = true) (F : FnOk X.prog X.w X.K X.mg X.base CX k g fd ps sp) (hr : Room (k + 1) X.A)
    (hg : Gl X x) (hm : X.mg x = some (.ref C)) (hb : Binds X.K fd ps []) (hx : ∀ σ, PassesAt CX X σ (Wq σ)) (ha : PA X (e :: es) t) (hdb : (x == ("__debug__" : Str)) = false)
    (he : starEach (e :: es) X.env = (false, eval e X.env) :: starEach es X.env) (hpl : (backTo pos (starEach es X.env)).any (·.1) = false) :
    PE X (.Call (.Name x p) (e :: es) [] pos) (fun σ H Q => t σ H fun vs H1 => ∀ x dx, H1 x = none → H1 dx = none → dx ≠ x → sp (.ref x :: vs) (upd (upd H1 dx (.own x)) x (.ins C dx [])) (fun v H2 => v = .non ∧ Q (.ref x) H2) (Wq σ)) := by
  refine ⟨fun pins s σ H Q I h => ?_⟩
  refine wpAny_Call_Name_kw (ld_glob I hg hm ?_ hdb)
  refine PySem.W.callWith_K (h₀ := X.base) I.ok.mod.kin hkp (thn (ha.run pos pins s σ H _ I h) fun us s1 ⟨vs, H1, I1, r, q⟩ => ⟨I1.kIn, ?_⟩) he hpl
  exact run_makG hmk hin hfn F hr hb (hx σ) I1 r q
def makM (cls : Str) (F : FV) (ms : Dl) (ρ : Rho) (st : Sto) : Res Vl := (ms ρ st).bind fun vs st1 => (F (.c (st1.length + 3) :: vs) (st1 ++ [.slot, .slot, .slot, .ob cls []])).bind fun v st2 => match v with
  | .d .none => .ok (.c (st1.length + 3)) st2
  | _ => .stuck
theorem je_mak {j k : Nat} {ps : List Str} {F : FV} {p : Pos} (M : MakT X.K X.mg cls) (O : MetP X.prog X.w X.K X.mg X.base cls "__init__" j ps F) (hr : Room k X.A) (hj : j + 1 ≤ k) (tk : Takes X W) (hg : Gl X cls) (ha : JA X W (e :: es) ms)
    (hlen : ∀ ρ st vs st', ms ρ st = .ok vs st' → vs.length + 1 = ps.length) (hdb : (cls == ("__debug__" : Str)) = false)
    (he : starEach (e :: es) X.env = (false, eval e X.env) :: starEach es X.env) (hpl : (backTo pos (starEach es X.env)).any (·.1) = false) :
    JE X W (.Call (.Name cls p) (e :: es) [] pos) (makM cls F ms) := by
  obtain ⟨C, gI, fd, hc, hm, hF, hb, _⟩ := O
  obtain ⟨C', h1, hmk, hkp, hmg⟩ := M
  obtain rfl := ns_one hc.nm h1
  refine PE.imp (pe_makG hmk hm.at_ hm.fn hkp hF (hr.mono hj) hg hmg hb (fun σ => passAt tk σ) ha hdb he hpl) fun σ H Q ⟨g, ρ, st, R, E, q⟩ => ⟨g, ρ, st, R, E, ?_⟩
  have hl := hlen ρ st
  unfold makM at q
  revert q hl
  cases ms ρ st with
  | stuck => exact fun q _ => q
  | err x st1 => exact fun q _ => q
  | ok vs st1 =>
    intro q hl us H1 g1 l1 R1 r1 x dx hx hdx ne
    refine ⟨by rw [List.length_cons, valsR_len r1]; exact hl vs st1 rfl, ?_⟩
    obtain ⟨R2, l2⟩ := R1.slot
    obtain ⟨R3, l3⟩ := R2.slot
    obtain ⟨R4, l4⟩ := R3.slot
    obtain ⟨R5, l5⟩ := R4.obj (cls := cls) hc.nm hx hdx ne
    have l6 := l2.trans (l3.trans (l4.trans l5))
    have hst : (((st1 ++ [Cell.slot]) ++ [Cell.slot]) ++ [Cell.slot]) ++ [Cell.ob cls []] = st1 ++ [.slot, .slot, .slot, .ob cls []] := by simp
    rw [hst] at R5
    have hL : ((((g1.at_ ++ [[]]) ++ [[]]) ++ [[]]) ++ [[x, dx]])[st1.length + 3]? = some [x, dx] := by
      have := R1.len
      rw [List.getElem?_append_right (by simp; omega)]
      simp [this]
    refine ⟨_, _, .c (st1.length + 3) :: vs, R5, ⟨⟨x, [dx], hL, rfl⟩, ?_⟩, ?_⟩
    · exact ValsR.mono l6.1 r1
    · have q := PostE.mono l1 q
      rw [Res.bind_ok] at q
      revert q
      cases F (.c (st1.length + 3) :: vs) (st1 ++ [.slot, .slot, .slot, .ob cls []]) with
      | stuck => exact id
      | err x2 st2 => exact fun q cls2 dd H' g' l R e => q cls2 dd H' g' (l6.trans l) R e
      | ok v st2 =>
        intro q u H' g' l R r
        rw [Res.bind_ok] at q
        split at q
        · obtain rfl : u = .non := by
            have r : Dq X.K g'.F u .none := r
            cases r; rfl
          obtain ⟨r', hr'⟩ := l.1.2 _ _ _ hL
          exact ⟨rfl, q (.ref x) H' g' (l6.trans l) R ⟨x, r', hr', rfl⟩⟩
        · exact q.elim
end
/-! ### try: body finally: suite -/
theorem wp_execs_app {M : Model} {Γ : _} {env : Env} {l' : List Stmt} {Q : Flow → Pos → Shared → Prop} {E : Value → Pos → Shared → Prop} : ∀ (l : List Stmt) (p : Pos) (s : Shared),
    Sem.wp M Γ (execs l env) (fun f p' s' => match f with | .next => Sem.wp M Γ (execs l' env) Q E p' s' | f => Q f p' s') E p s → Sem.wp M Γ (execs (l ++ l') env) Q E p s
  | [], _, _, h => h
  | st :: l, p, s, h => by
    rw [execs_cons, Sem.wp_bind'] at h
    rw [List.cons_append, execs_cons, Sem.wp_bind']
    refine Sem.wp_mono M Γ _ (fun f p' s' h' => ?_) (fun _ _ _ h' => h') _ _ h
    cases f <;> first | exact wp_execs_app l p' s' h' | exact h'
theorem any_execs_app {M : Model} {A : Around} {env : Env} {l l' : List Stmt} {Q : Flow → Shared → Prop} {E : Value → Shared → Prop} {s : Shared} (h : wpAny M A (execs l env) (fun f s' => match f with | .next => wpAny M A (execs l' env) Q E s' | f => Q f s') E s) :
    wpAny M A (execs (l ++ l') env) Q E s := fun Γ p hΓ => wp_execs_app l p s (Sem.wp_mono M Γ _ (fun f p' s' h' => by cases f <;> first | exact h' Γ p' hΓ | exact h') (fun _ _ _ h' => h') _ _ (h Γ p hΓ))
section
variable {X : Cx} {body : List Stmt} {f₀ : Stmt} {fs : List Stmt} {pos rp : Pos} {e : Expr} {tb : WX → TS} {te : WX → TE} {tf tfs : TS} {Wout W : WX}
theorem ps_finN (hs : X.stack = X.env :: X.outer) (hf : X.env.frame = some X.env.locals) (hex : X.ex = []) (tk : Takes X Wout)
    (hb : ∀ (W : WX) (pn : List (Addr × Obj)) (xe : Value → Shared → Prop), Takes (X.tr pn xe) W → PassesOwn (model X.prog X.w) X.A X.env xe → PSs (X.tr pn xe) body (tb W))
    (hfin : PSs X.nox (f₀ :: fs) tf) (hsu : ∀ (a : Addr) (pn : List (Addr × Obj)), PSs (X.suite a pn) (f₀ :: fs) tfs) :
    PS X (.Try body [] [] (f₀ :: fs) pos) (fun D σ H => tb (wFin tfs Wout) { nx := fun σ1 H1 => tf D σ1 H1, rt := fun _ _ => False } σ H) := by
  refine ⟨fun pins s σ H D I h => ?_⟩
  have ok := I.ok
  refine wpAny_Try_finally ?_
  refine wpAny_mono ((hb (wFin tfs Wout) (X.pn ++ pins) (fun x s₁ => wpAny (model X.prog X.w) X.A (noteFrame x X.env) (fun _ s₂ => FinallyRaised X.prog X.w X.A X.xe X.env (f₀ :: fs) (SP X pins D) x s₂) (FinallyRaised X.prog X.w X.A X.xe X.env (f₀ :: fs) (SP X pins D)) s₁)
    (fun u s' xx => ?_) PassesOwn.looking).run [] s σ H { nx := fun σ1 H1 => tf D σ1 H1, rt := fun _ _ => False } (I.toTry _) h) (fun g s1 z => ?_) (fun x s1 hx => hx)
  · exact fin_exc hs hf hex ok tk hsu xx
  · cases g with
    | ret u => obtain ⟨_, _, _, _, _, q⟩ := z; exact False.elim q
    | brk => obtain ⟨_, _, _, q⟩ := z; exact False.elim q
    | cont => obtain ⟨_, _, _, q⟩ := z; exact False.elim q
    | next =>
      obtain ⟨σ1, H1, J1, q1⟩ := z
      refine wpAny_execs_nil ?_
      refine wpAny_mono (hfin.run pins s1 σ1 H1 D ((J1.ofTry ok).wish _) q1) (fun g2 s2 q2 => ?_) fun _ _ e => False.elim e
      have q3 : SP X pins D g2 s2 := q2.unwish
      cases g2 <;> exact q3
/-- the last row returns -/
theorem ps_finR (hs : X.stack = X.env :: X.outer) (hf : X.env.frame = some X.env.locals) (hex : X.ex = []) (tk : Takes X Wout)
    (hb : ∀ (W : WX) (pn : List (Addr × Obj)) (xe : Value → Shared → Prop), Takes (X.tr pn xe) W → PassesOwn (model X.prog X.w) X.A X.env xe → PSs (X.tr pn xe) body (tb W))
    (he : ∀ (W : WX) (pn : List (Addr × Obj)) (xe : Value → Shared → Prop), Takes (X.tr pn xe) W → PassesOwn (model X.prog X.w) X.A X.env xe → PE (X.tr pn xe) e (te W))
    (hfin : PSs X.nox (f₀ :: fs) tf) (hsu : ∀ (a : Addr) (pn : List (Addr × Obj)), PSs (X.suite a pn) (f₀ :: fs) tfs) :
    PS X (.Try (body ++ [.Return (some e) rp]) [] [] (f₀ :: fs) pos) (fun D σ H => tb (wFin tfs Wout) { nx := fun σ1 H1 => te (wFin tfs Wout) σ1 H1 fun v H2 => tf { D with nx := fun _ H3 => D.rt v H3 } σ1 H2, rt := fun _ _ => False } σ H) := by
  refine ⟨fun pins s σ H D I h => ?_⟩
  have ok := I.ok
  refine wpAny_Try_finally ?_
  refine any_execs_app ?_
  have tkF : ∀ u s', XE (X.tr (X.pn ++ pins) (fun x s₁ => wpAny (model X.prog X.w) X.A (noteFrame x X.env) (fun _ s₂ => FinallyRaised X.prog X.w X.A X.xe X.env (f₀ :: fs) (SP X pins D) x s₂) (FinallyRaised X.prog X.w X.A X.xe X.env (f₀ :: fs) (SP X pins D)) s₁)) (wFin tfs Wout) u s' → wpAny (model X.prog X.w) X.A (noteFrame u X.env) (fun _ s₂ => FinallyRaised X.prog X.w X.A X.xe X.env (f₀ :: fs) (SP X pins D) u s₂) (FinallyRaised X.prog X.w X.A X.xe X.env (f₀ :: fs) (SP X pins D)) s' := fun u s' xx => fin_exc hs hf hex ok tk hsu xx
  refine wpAny_mono ((hb (wFin tfs Wout) (X.pn ++ pins) (fun x s₁ => wpAny (model X.prog X.w) X.A (noteFrame x X.env) (fun _ s₂ => FinallyRaised X.prog X.w X.A X.xe X.env (f₀ :: fs) (SP X pins D) x s₂) (FinallyRaised X.prog X.w X.A X.xe X.env (f₀ :: fs) (SP X pins D)) s₁)
    tkF PassesOwn.looking).run [] s σ H _ (I.toTry _) h) (fun g s1 z => ?_) (fun x s1 hx => hx)
  cases g with
  | ret u => obtain ⟨_, _, _, _, _, q⟩ := z; exact False.elim q
  | brk => obtain ⟨_, _, _, q⟩ := z; exact False.elim q
  | cont => obtain ⟨_, _, _, q⟩ := z; exact False.elim q
  | next =>
    obtain ⟨σ1, H1, J1, q1⟩ := z
    refine wpAny_execs_cons (wpAny_Return_some (wpAny_mono ((he (wFin tfs Wout) (X.pn ++ pins) _ tkF PassesOwn.looking).run [] s1 σ1 H1 _ J1 q1) (fun u s2 z => ?_) fun x s2 hx => hx))
    obtain ⟨v, H2, I2, r2, q2⟩ := z
    exact fin_ret hfin (I2.ofTry ok) r2 q2
def sufR (suite : Rho → Sto → RS) (ρ : Rho) (st : Sto) (k : Rho → Sto → RS) : RS := match suite ρ st with
  | .nx ρ1 st1 => k ρ1 st1
  | _ => .stuck
def finN (body suite : Rho → Sto → RS) (ρ : Rho) (st : Sto) : RS := match body ρ st with
  | .nx ρ1 st1 => sufR suite ρ1 st1 .nx
  | .err x ρ1 st1 => sufR suite ρ1 st1 fun ρ2 st2 => .err x ρ2 st2
  | _ => .stuck
def finR (body : Rho → Sto → RS) (me : Dn) (suite : Rho → Sto → RS) (ρ : Rho) (st : Sto) : RS := match body ρ st with
  | .nx ρ1 st1 => match me ρ1 st1 with
    | .ok v st2 => sufR suite ρ1 st2 fun _ st3 => .ret v st3
    | .err x st2 => sufR suite ρ1 st2 fun ρ2 st3 => .err x ρ2 st3
    | .stuck => .stuck
  | .err x ρ1 st1 => sufR suite ρ1 st1 fun ρ2 st2 => .err x ρ2 st2
  | _ => .stuck
def noW : WX := fun _ _ _ _ => False
theorem suf_nx {D D2 : Ends} {msu : Rho → Sto → RS} {g : Gh} {ρ : Rho} {st : Sto} {k : Rho → Sto → RS} (q : PostS X W g D (sufR msu ρ st k))
    (h : ∀ ρ2 st2 g2, g.le g2 → PostS X W g2 D (k ρ2 st2) → ∀ σ H g', g2.le g' → Rel X.K H g' st2 → RhoR X.mg X.K g' σ ρ2 → D2.nx σ H) : PostS X noW g D2 (msu ρ st) := by
  unfold sufR at q
  revert q
  cases msu ρ st with
  | nx ρ2 st2 => exact fun q σ H g' l R E => h ρ2 st2 g (Gh.le.refl g) q σ H g' l R E
  | stuck => exact id
  | ret v s => exact fun q => q.elim
  | bk a b => exact fun q => q.elim
  | ct a b => exact fun q => q.elim
  | err a b c => exact fun q => q.elim
theorem js_finN {m msu : Rho → Sto → RS} (hs : X.stack = X.env :: X.outer) (hf : X.env.frame = some X.env.locals) (hex : X.ex = []) (tk : Takes X W)
    (hb : ∀ (W : WX) (pn : List (Addr × Obj)) (xe : Value → Shared → Prop), Takes (X.tr pn xe) W → PassesOwn (model X.prog X.w) X.A X.env xe → JSs (X.tr pn xe) W body m)
    (hfin : JSs X.nox noW (f₀ :: fs) msu) (hsu : ∀ (a : Addr) (pn : List (Addr × Obj)), JSs (X.suite a pn) noW (f₀ :: fs) msu) : JS X W (.Try body [] [] (f₀ :: fs) pos) (finN m msu) := by
  refine PS.imp (ps_finN (tb := fun W => tDS X W m) (tf := tDS X noW msu) (tfs := tDS X noW msu) hs hf hex tk hb hfin hsu) fun D σ H ⟨g, ρ, st, R, E, q⟩ => ⟨g, ρ, st, R, E, ?_⟩
  unfold finN at q
  revert q
  cases m ρ st with
  | stuck => exact id
  | ret v st1 => exact fun q => q.elim
  | bk ρ1 st1 => exact fun q => q.elim
  | ct ρ1 st1 => exact fun q => q.elim
  | nx ρ1 st1 =>
    intro q σ1 H1 g1 l1 R1 E1
    exact ⟨g1, ρ1, st1, R1, E1, suf_nx (D2 := D) (PostS.mono l1 q) fun ρ2 st2 g2 l2 q2 => q2⟩
  | err x ρ1 st1 =>
    intro q cls dd σ1 H1 g1 l1 R1 E1 ex
    exact ⟨g1, ρ1, st1, R1, E1, suf_nx (PostS.mono l1 q) fun ρ2 st2 g2 l2 q2 σ2 H2 g3 l3 R3 E3 => q2 cls dd σ2 H2 g3 l3 R3 E3 (ExnR.mono (l2.trans l3).1.1 ex)⟩
theorem js_finR {bd : List Stmt} {m msu : Rho → Sto → RS} {me : Dn} (hbd : bd = body ++ [.Return (some e) rp]) (hs : X.stack = X.env :: X.outer) (hf : X.env.frame = some X.env.locals) (hex : X.ex = []) (tk : Takes X W)
    (hb : ∀ (W : WX) (pn : List (Addr × Obj)) (xe : Value → Shared → Prop), Takes (X.tr pn xe) W → PassesOwn (model X.prog X.w) X.A X.env xe → JSs (X.tr pn xe) W body m)
    (he : ∀ (W : WX) (pn : List (Addr × Obj)) (xe : Value → Shared → Prop), Takes (X.tr pn xe) W → PassesOwn (model X.prog X.w) X.A X.env xe → JE (X.tr pn xe) W e me)
    (hfin : JSs X.nox noW (f₀ :: fs) msu) (hsu : ∀ (a : Addr) (pn : List (Addr × Obj)), JSs (X.suite a pn) noW (f₀ :: fs) msu) : JS X W (.Try bd [] [] (f₀ :: fs) pos) (finR m me msu) := by
  subst hbd
  refine PS.imp (ps_finR (tb := fun W => tDS X W m) (te := fun W => tD X W me) (tf := tDS X noW msu) (tfs := tDS X noW msu) hs hf hex tk hb he hfin hsu) fun D σ H ⟨g, ρ, st, R, E, q⟩ => ⟨g, ρ, st, R, E, ?_⟩
  unfold finR at q
  revert q
  cases m ρ st with
  | stuck => exact id
  | ret v st1 => exact fun q => q.elim
  | bk ρ1 st1 => exact fun q => q.elim
  | ct ρ1 st1 => exact fun q => q.elim
  | nx ρ1 st1 =>
    intro q σ1 H1 g1 l1 R1 E1
    refine ⟨g1, ρ1, st1, R1, E1, ?_⟩
    have q := PostS.mono l1 q
    dsimp only at q
    revert q
    cases me ρ1 st1 with
    | stuck => exact id
    | ok v st2 =>
      intro q u H2 g2 l2 R2 r2
      exact ⟨g2, ρ1, st2, R2, E1.mono l2.1, suf_nx (D2 := { D with nx := fun _ H3 => D.rt u H3 }) (D := D) (PostS.mono l2 q) fun ρ2 st3 g3 l3 q3 σ3 H3 g4 l4 R4 E4 => q3 u H3 g4 l4 R4 (ValR.mono (l3.trans l4).1 r2)⟩
    | err x st2 =>
      intro q cls dd H2 g2 l2 R2 ex
      exact ⟨g2, ρ1, st2, R2, E1.mono l2.1, suf_nx (PostS.mono l2 q) fun ρ2 st3 g3 l3 q3 σ3 H3 g4 l4 R4 E4 => q3 cls dd σ3 H3 g4 l4 R4 E4 (ExnR.mono (l3.trans l4).1.1 ex)⟩
  | err x ρ1 st1 =>
    intro q cls dd σ1 H1 g1 l1 R1 E1 ex
    exact ⟨g1, ρ1, st1, R1, E1, suf_nx (PostS.mono l1 q) fun ρ2 st2 g2 l2 q2 σ2 H2 g3 l3 R3 E3 => q2 cls dd σ2 H2 g3 l3 R3 E3 (ExnR.mono (l2.trans l3).1.1 ex)⟩
end
end M1

/-! part ZK: texts of the module, f-strings, len(o), repr(o), o == p, isinstance(o, C) -/
namespace M1
open PySem PySem.Spec L2 PyProof.Rows
/-- a text of the module, as the kit's table tells it -/
def kStr (K : PySem.W.Frag) (x : Str) : Option Str := match PySem.W.nsIn K mainGlobals x with
  | some (some (.str y _)) => some y
  | _ => none
theorem kStr_of {K : PySem.W.Frag} {h : Heap} {mg : Str → Option Value} {x y : Str} (I : K.In h) (G : h.Ns mainGlobals mg) (e : kStr K x = some y) : ∃ t, mg x = some (.str y t) := by
  unfold kStr at e
  split at e
  · rename_i k t hk
    cases e
    exact ⟨t, PySem.W.mg_of I G hk⟩
  · cases e
variable [LT]
section
variable {X : Cx} {W : WX} {e a b : Expr} {es : List Expr} {m ma mb : Dn} {cls : Str} {p pos : Pos}
theorem je_kStr {x y : Str} (hg : Gl X x) (hm : ∃ t, X.mg x = some (.str y t)) (hd : (x == ("__debug__" : Str)) = false) : JE X W (.Name x p) (conM (.str y)) := by
  obtain ⟨t, hm⟩ := hm
  exact PE.imp (pe_glob (v := .str y) hg hm ⟨t, rfl⟩ hd) fun σ H Q ⟨g, ρ, st, R, E, q⟩ => q _ H g (.refl g) R (.str y)
/-! ### f-strings -/
inductive JPs (X : Cx) (W : WX) : List Expr → List Dn → Prop where
  | nil : JPs X W [] []
  | cons {e : Expr} {m : Dn} {es : List Expr} {ms : List Dn} (h : JE X W e m) (r : JPs X W es ms) : JPs X W (e :: es) (m :: ms)
/-! ### special methods called by built-ins -/
end
end M1

/-! part ZL: C(k = v, ..), o.m(k = v, ..), isinstance(e, (C, D, ..)), o == p, isinstance(o, C) -/
namespace M1
open PySem PySem.Spec L2 PyProof.Rows
variable [LT]
section
variable {X : Cx} {W : WX} {o e : Expr} {es : List Expr} {mo me : Dn} {ms mk : Dl} {cls m : Str} {p pos apos : Pos} {kws : List Keyword}
/-! ### C(k = v, ..) -/
/-! ### isinstance(e, (C, D, ..)) -/
inductive NmC (X : Cx) (l : ExL) : List Expr → List Str → Prop where
  | nil : NmC X l [] []
  | cons {x : Str} {p : Pos} {es : List Expr} {xs : List Str} (hg : Gl X x) (hc : (l.map (·.1)).contains x = true) (hd : (x == ("__debug__" : Str)) = false) (hs : starEach (.Name x p :: es) X.env = (false, eval (.Name x p) X.env) :: starEach es X.env) (r : NmC X l es xs) : NmC X l (.Name x p :: es) (x :: xs)
end
end M1

/-! part ZM: o == p by an own __eq__, isinstance(o, C) -/
namespace M1
open PySem PySem.Spec L2 PyProof.Rows C8
/-- the class, as isinstance asks for it -/
def IsoF (K : PySem.W.Frag) (cls : Str) : Prop := ∃ C, PySem.W.nsIn K mainGlobals cls = some (some (.ref C)) ∧ InsC K C
def IsoT (K : PySem.W.Frag) (mg : Str → Option Value) (cls : Str) : Prop := ∃ C, PySem.W.nsIn K mainGlobals cls = some (some (.ref C)) ∧ InsC K C ∧ mg cls = some (.ref C)
theorem IsoF.told {K : PySem.W.Frag} {h : Heap} {mg : Str → Option Value} {cls : Str} (t : IsoF K cls) (I : K.In h) (G : h.Ns mainGlobals mg) : IsoT K mg cls := by
  obtain ⟨C, a, b⟩ := t
  exact ⟨C, a, b, PySem.W.mg_of I G a⟩
variable [LT]
section
variable {X : Cx} {W : WX} {cls : Str} {p pos : Pos} {e : Expr} {m : Dn}
end
end M1

/-! part ZN: dicts of ints that nobody changes, lists of (dict, int) -/
namespace M1
open PySem PySem.Spec L2 PyProof.Rows
variable [LT]
section
variable {X : Cx} {W : WX}
/-! ### a dict of ints is left as it is from here on -/
/-! ### rows.append((d, i)) -/
/-! ### for k in d -/
end
end M1

/-! part ZO: texts: join, split -/
namespace M1
open PySem PySem.Spec L2 PyProof.Rows
variable [LT]
section
variable {X : Cx}
/-- the texts of a list -/
def strsOf : List PyData → Option (List Str)
  | [] => some []
  | .str x :: r => (strsOf r).map (x :: ·)
  | _ :: _ => none
omit [LT] in
theorem strsOf_eq : ∀ {ds : List PyData} {ys : List Str}, strsOf ds = some ys → ds = ys.map PyData.str
  | [], _, e => by cases e; rfl
  | d :: r, ys, e => by
    unfold strsOf at e
    split at e
    · rename_i h; cases h
    · rename_i x r2 h
      cases h
      cases hr : strsOf r with
      | none => rw [hr] at e; cases e
      | some zs => rw [hr] at e; cases e; rw [strsOf_eq hr]; rfl
    · cases e
theorem dqAll_strs {K : PySem.W.Frag} {F : Hp} : ∀ {ys : List Str} {vs : List V}, DqAll K F vs (ys.map PyData.str) → vs = ys.map V.str
  | [], _, h => by cases h; rfl
  | _ :: _, _, h => by
    cases h with
    | cons h1 h2 => cases h1; rw [dqAll_strs h2]; rfl
theorem strs_dqAll {K : PySem.W.Frag} {F : Hp} : ∀ (ys : List Str), DqAll K F (ys.map V.str) (ys.map PyData.str)
  | [] => .nil
  | _ :: ys => .cons (.str _) (strs_dqAll ys)
/-- sep.join(list of texts) -/
def joinV (v : Vl) (vs : List Vl) (st : Sto) : Res Vl := match v, vs with
  | .d (.str a), [w] => match rd st w with
    | some (.list ds) => match strsOf ds with
      | some ys => if (ys.map (·.length)).sum + ys.length * a.length ≤ 16777216 then .ok (.d (.str (Txt.join a ys))) st else .stuck
      | none => .stuck
    | _ => .stuck
  | _, _ => .stuck
omit [LT] in
theorem joinV_noerr : ∀ v vs st x st', joinV v vs st ≠ .err x st' := fun v vs st x st' h => by
  unfold joinV at h
  repeat' split at h
  all_goals cases h
theorem mto_join : MtOk X "join" .str joinV := ⟨⟨_, PySem.F.plainAttrs_str, PySem.F.slot_str_join, PySem.F.type_str_join, fun pins s σ H x xs v us Q I rx rs h => by
  obtain ⟨g, st, v0, vs, R, r1, r2, q⟩ := h
  unfold joinV at q
  split at q
  · rename_i a w
    cases r1
    obtain ⟨u, rfl, ru⟩ := valsR1 r2
    split at q
    · rename_i ds hw
      obtain ⟨p, vs, rfl, h1, h2⟩ := rd_dh R ru hw
      split at q
      · rename_i ys hy
        split at q
        · rename_i hz
          rw [strsOf_eq hy] at h2
          obtain rfl := dqAll_strs h2
          exact mt_join pins s σ H _ _ v us Q I rx rs ⟨a, p, ys, rfl, rfl, .inl (SqL.of h1), hz, q _ _ _ (.refl g) R (.str _)⟩
        · exact q.elim
      · exact q.elim
    · exact q.elim
  · exact q.elim⟩, joinV_noerr⟩
/-- text.split(sep) -/
def splitV (v : Vl) (vs : List Vl) (st : Sto) : Res Vl := match v, vs with
  | .d (.str a), [.d (.str b)] => if b.length ≠ 0 ∧ a.length < 100000 then .ok (.d (.list ((Txt.split a b).map PyData.str))) st else .stuck
  | _, _ => .stuck
omit [LT] in
theorem splitV_noerr : ∀ v vs st x st', splitV v vs st ≠ .err x st' := fun v vs st x st' h => by
  unfold splitV at h
  repeat' split at h
  all_goals cases h
theorem mto_split : MtOk X "split" .str splitV := ⟨⟨_, PySem.F.plainAttrs_str, PySem.F.slot_str_split, PySem.F.type_str_split, fun pins s σ H x xs v us Q I rx rs h => by
  obtain ⟨g, st, v0, vs, R, r1, r2, q⟩ := h
  unfold splitV at q
  split at q
  · rename_i a b
    cases r1
    obtain ⟨u, rfl, ru⟩ := valsR1 r2
    cases ru
    split at q
    · rename_i hz
      have hl : (100000 : Nat) + 2 ≤ sizeLine := by rw [sizeLine_eq]; omega
      refine mt_split pins s σ H _ _ v us Q I rx rs ⟨a, b, rfl, rfl, by simp [hz.1], by omega, fun p hp => ?_⟩
      exact q _ _ _ (put_le R hp _) (R.put hp _) (.lst upd_same (strs_dqAll _))
    · exact q.elim
  · exact q.elim⟩, splitV_noerr⟩
def tb_join : MtTab := tb1 .str joinV
def tb_split : MtTab := tb1 .str splitV
theorem tk_join : MtsOk X "join" tb_join := tb1_ok mto_join
theorem tk_split : MtsOk X "split" tb_split := tb1_ok mto_split
end
end M1

/-! part ZP: a, *b = list; tuples of texts of the module; clauses that return -/
namespace M1
open PySem PySem.Spec PySem.Calls L2 LamX PyProof.Rows
variable [LT]
section
variable {X : Cx} {W : WX}
/-! ### x, *y = list -/
theorem pgs_starred {e : Expr} {es : List Expr} {p : Pos} {t : TG} {u : TGs} (h1 : PG X e t) (h2 : PGs X es u) (hs : (assignEach (.Starred e p :: es) X.env).map (·.2) = assign e X.env :: (assignEach es X.env).map (·.2)) : PGs X (.Starred e p :: es) (gCons t u) :=
  ⟨fun pins s σ H vs us Q I r ⟨v, vr, ev, h⟩ => by
    subst ev
    cases r with
    | cons r1 r2 =>
      rw [hs]
      exact assignInOrder_cons (thn (h1.run pins s σ H _ _ _ I r1 h) fun _ s1 ⟨σ1, H1, I1, q1⟩ => h2.run pins s1 σ1 H1 _ _ Q I1 r2 q1)⟩
/-- the first of a list, and the others as a new list -/
def gStar1 (K : PySem.W.Frag) (t : TGs) : TG := fun v σ H Q => ∃ a x xs, v = .ref a ∧ SqL K H a (x :: xs) ∧ xs.length < 100000 ∧ ∀ D, H D = none → t [x, .ref D] σ (upd H D (.lst xs)) Q
theorem pg_star1 {es : List Expr} {k : Nat} {pos : Pos} {t : TGs} (hc : X.calm = true) (h : PGs X es t) (hn : (assignEach es X.env).length = 2) (hst : (assignEach es X.env).findIdx? (·.1) = some 1) : PG X (.Tuple es k pos) (gStar1 X.K t) := by
  refine ⟨fun pins s σ H v u Q I r ⟨a, x, xs, e1, hq, hl, hw⟩ => ?_⟩
  subst e1
  cases r
  obtain ⟨its, rv, ht, hz⟩ := I.list hq
  have hsl : (100001 : Nat) ≤ sizeLine := by rw [sizeLine_eq]; omega
  cases rv with
  | @cons _ u0 _ us rx rv =>
    have hl0 := rv.length
    have isL := ht.isList
    have hne : a ≠ s.heap.objs.size := by obtain ⟨o, ho, _⟩ := isL; exact Nat.ne_of_lt (Heap.lt_size ho)
    have hsz : (u0 :: us).toArray.size = us.length + 1 := by simp
    rw [assign_Tuple]
    refine wpAny_bind (wpAny_standAt ?_)
    unfold unpack
    rw [hn, hst]
    refine wpAny_bind (wpAny_holding ?_)
    unfold unpackItems notIterableAtAll
    refine wpAny_bind (wpAny_bind (wpAny_specialOf isL.typeIs slot_list_iter.lookup (wpAny_pure ?_)))
    simp only [Bool.false_eq_true, if_false]
    refine wpAny_bind (wpAny_holding (wpAny_pyIter_list isL ?_))
    refine wpAny_bind (wpAny_holding (PySem.W.kun_draw hne 1 0 _ _ ⟨_, Heap.get?_push_size _ rfl, rfl, rfl⟩ (isL.push _) (by rw [hsz]; omega) fun h1 hit1 hs1 => ?_))
    have isL1 : h1.IsList a (u0 :: us).toArray := (isL.push _).extBut hs1.extBut hne
    rw [Nat.zero_add] at hit1
    have there1 : s.heap.objs.size < h1.objs.size := by obtain ⟨o, ho, _⟩ := hit1; exact Heap.lt_size ho
    have there2 : a < h1.objs.size := by obtain ⟨o, ho, _⟩ := isL1; exact Heap.lt_size ho
    have one : ((u0 :: us).toArray.toList.drop 0).take 1 = [u0] := rfl
    rw [one]
    rw [if_neg (show ¬ ([u0].length < 1) by simp)]
    refine wpAny_bind (wpAny_holding (PySem.W.kun_collect (s := { s with heap := h1 }) (T := "list_iterator") (.inr (.inr (.inl rfl))) (Walks.list (A := X.A.in1) (I.ok.hd hc) s.heap.objs.size a hne (u0 :: us).toArray) (fun j t st => st.1.typeIs) (k := 1) (by rw [hsz]; omega) ⟨hit1, isL1⟩ there1 there2 (fun h2 tk hk => ?_) (by rw [hsz]; omega)))
    have rest : (u0 :: us).toArray.toList.drop 1 = us := rfl
    rw [rest]
    show wpAny _ _ (if us.length < 2 - 1 - 1 then _ else _) _ _ _
    rw [if_neg (by omega)]
    show wpAny _ _ (newList (us.take (us.length - 0)) >>= fun d => pure ([u0] ++ [d] ++ us.drop (us.length - 0))) _ _ _
    rw [Nat.sub_zero, List.take_length, List.drop_length]
    have keep : ∀ b o, s.heap.get? b = some o → h2.get? b = some o := fun b o e => by
      have hb : b ≠ s.heap.objs.size := Nat.ne_of_lt (Heap.lt_size e)
      exact hk b o hb (hs1.extBut b o hb (Heap.get?_push_of_some _ e))
    have I1 : Inv X pins σ H { s with heap := h2, toks := tk } := I.kept (t' := tk) keep
    refine wpAny_bind (wpAny_newList (wpAny_pure ?_) (by rw [← hl0]; omega))
    have hD : H h2.objs.size = none := I1.hok.fresh (Nat.le_refl _)
    have I2 : Inv X pins σ (upd H h2.objs.size (.lst xs)) { s with heap := h2.push { cls := .type "list", data := .seq us.toArray }, toks := tk } :=
      I1.laid (a := h2.objs.size) (o := .lst xs) (t' := tk) (fun b o e => Heap.get?_push_of_some _ e) (Nat.le_refl _) ⟨by omega, us, 0, rv, Heap.get?_push_size _ rfl⟩
    exact h.run pins _ σ _ [x, .ref h2.objs.size] _ Q I2 (.cons (by exact rx) (.cons rfl .nil)) (hw _ hD)
def starS (m : Dn) (i j : Nat) (ρ : Rho) (st : Sto) : RS := (m ρ st).then ρ fun v st => match v with
  | .d (.list (x :: r)) => if r.length < 100000 then .nx ((ρ.set i (some (.d x))).set j (some (.d (.list r)))) st else .stuck
  | _ => .stuck
/-- the target's wish -/
def gStarD (X : Cx) (i j : Nat) : TG := fun v σ H Q => ∃ g ρ st x r, Rel X.K H g st ∧ RhoR X.mg X.K g σ ρ ∧ ValR X.mg X.K g v (.d (.list (x :: r))) ∧ r.length < 100000 ∧
  ∀ σ' H' g', g.le g' → Rel X.K H' g' st → RhoR X.mg X.K g' σ' ((ρ.set i (some (.d x))).set j (some (.d (.list r)))) → Q σ' H'
theorem js_star {i j : Nat} {x y : Str} {px py ps pt pos : Pos} {k : Nat} {e : Expr} {m : Dn} (hc : X.calm = true) (hN : X.N.Nodup) (hi : X.N[i]? = some x) (hj : X.N[j]? = some y) (hx : Loc X.env.scope x) (hy : Loc X.env.scope y) (hf : X.fn x = true ∨ X.env.scope.names.lookup x = some .local) (hg : X.fn y = true ∨ X.env.scope.names.lookup y = some .local)
    (a1 : (assignEach [.Name x px, .Starred (.Name y py) ps] X.env).map (·.2) = assign (.Name x px) X.env :: (assignEach [.Starred (.Name y py) ps] X.env).map (·.2)) (a2 : (assignEach [.Starred (.Name y py) ps] X.env).map (·.2) = assign (.Name y py) X.env :: (assignEach [] X.env).map (·.2))
    (hn : (assignEach [.Name x px, .Starred (.Name y py) ps] X.env).length = 2) (hst : (assignEach [.Name x px, .Starred (.Name y py) ps] X.env).findIdx? (·.1) = some 1)
    (he : JE X W e m) (hs : swapsWithSole [.Tuple [.Name x px, .Starred (.Name y py) ps] k pt] e pos.line X.env = pure false) (hw : swappedStores [.Tuple [.Name x px, .Starred (.Name y py) ps] k pt] e X.env = pure none)
    (h1 : (assignEach [.Tuple [.Name x px, .Starred (.Name y py) ps] k pt] X.env).map (·.2) = [assign (.Tuple [.Name x px, .Starred (.Name y py) ps] k pt) X.env]) :
    JS X W (.Assign [.Tuple [.Name x px, .Starred (.Name y py) ps] k pt] e pos) (starS m i j) := by
  have hg2 : PG X (.Tuple [.Name x px, .Starred (.Name y py) ps] k pt) (gStarD X i j) :=
    PG.imp (pg_star1 hc (pgs_cons (pg_name hN hi hx hf) (pgs_starred (pg_name hN hj hy hg) pgs_nil a2) a1) hn hst) fun v σ H Q ⟨g, ρ, st, d, r, R, E, rv, hl, q⟩ => by
      cases rv with
      | @lst a _ _ hF hv =>
        cases hv with
        | @cons v1 vs1 _ _ hv1 hv2 =>
          refine ⟨a, v1, vs1, rfl, SqL.of (R.sub _ _ hF), by rw [dqAll_len hv2]; exact hl, fun D hD => ?_⟩
          have l := put_le R hD (.lst vs1)
          refine ⟨v1, _, rfl, .ref D, _, rfl, rfl, ?_⟩
          exact q _ _ _ l (R.put hD _) (rho_set (v := .d (.list r)) (rho_set (v := .d d) (E.mono l.1) (dq_mono l.1.1 hv1) i) (.lst upd_same (dqAll_mono l.1.1 hv2)) j)
  exact PS.imp (ps_asg he hg2 hs hw h1) fun D σ H ⟨g, ρ, st, R, E, q⟩ => ⟨g, ρ, st, R, E, PostS.then E q fun u H1 v st1 g1 l1 R1 r1 q1 => by
    split at q1
    · rename_i d r
      split at q1
      · rename_i hl
        exact ⟨g1, ρ, st1, d, r, R1, E.mono l1.1, r1, hl, fun σ' H' g' l' R' E' => q1 σ' H' g' l' R' E'⟩
      · exact q1.elim
    · exact q1.elim⟩
/-! ### tuples of texts of the module -/
def strVals : List Value → Option (List Str)
  | [] => some []
  | .str y _ :: r => (strVals r).map (y :: ·)
  | _ => none
omit [LT] in
theorem strVals_ok : ∀ {us : List Value} {ys : List Str}, strVals us = some ys → Vals (ys.map V.str) us
  | [], _, e => by cases e; exact .nil
  | u :: us, ys, e => by
    unfold strVals at e
    split at e
    · rename_i h; cases h
    · rename_i y t r h
      cases h
      cases hr : strVals us with
      | none => rw [hr] at e; cases e
      | some zs => rw [hr] at e; cases e; exact .cons ⟨t, rfl⟩ (strVals_ok hr)
    · cases e
def isTupO (o : Obj) : Bool := match o.cls with
  | .type t => t == "tuple"
  | _ => false
def kTup (K : PySem.W.Frag) (x : Str) : Option (List Str) := match PySem.W.nsIn K mainGlobals x with
  | some (some (.ref a)) => match K.lookup a with
    | some o => if isTupO o = true then match o.data with
        | .seq its _ => if its.size < 1000 then strVals its.toList else none
        | _ => none
      else none
    | none => none
  | _ => none
def KTupT (K : PySem.W.Frag) (mg : Str → Option Value) (x : Str) (ys : List Str) : Prop := ∃ a, mg x = some (.ref a) ∧ ∀ H, SqT K H a (ys.map V.str)
omit [LT] in
theorem kTup_of {K : PySem.W.Frag} {h : Heap} {mg : Str → Option Value} {x : Str} {ys : List Str} (I : K.In h) (G : h.Ns mainGlobals mg) (e : kTup K x = some ys) : KTupT K mg x ys := by
  unfold kTup at e
  split at e
  · rename_i a ha
    split at e
    · rename_i o ho
      split at e
      · rename_i ht
        split at e
        · rename_i its n hd
          split at e
          · rename_i hz
            refine ⟨a, PySem.W.mg_of I G ha, fun H => .inr ⟨o, its, n, ho, ?_, hd, Nat.le_of_lt (small1000 (by omega)), strVals_ok e⟩⟩
            unfold isTupO at ht
            split at ht
            · rename_i t hc
              rw [hc, eq_of_beq ht]
            · cases ht
          · cases e
        · cases e
      · cases e
    · cases e
  · cases e
def conP (ds : List PyData) (_ : Rho) (st : Sto) : Res Vl := .ok (.p ds) st
theorem je_kTup {x : Str} {ys : List Str} {p : Pos} (hg : Gl X x) (hm : KTupT X.K X.mg x ys) (hd : (x == ("__debug__" : Str)) = false) : JE X W (.Name x p) (conP (ys.map PyData.str)) := by
  obtain ⟨a, hm, hs⟩ := hm
  exact PE.imp (pe_glob (v := .ref a) hg hm rfl hd) fun σ H Q ⟨g, ρ, st, R, E, q⟩ => q _ H g (.refl g) R ⟨a, _, rfl, hs _, strs_dqAll ys⟩
def inPV (v w : Vl) (st : Sto) : Res Vl := match v, w with
  | .d (.str x), .p ds => if ds.all flatD = true then .ok (.d (.bool (inL (.str x) ds))) st else .stuck
  | _, _ => .stuck
omit [LT] in
theorem inPV_noerr : NoErr inPV := fun v w st x st' => by
  unfold inPV
  split
  · split <;> exact fun z => by cases z
  · exact fun z => by cases z
theorem cv_inP : CmpV X .In inPV := by
  refine ⟨inPV_noerr, fun pins s σ H x y v u Q I rx ry ⟨g, st, a, b, R, ha, hb, q⟩ => ?_⟩
  unfold inPV at q
  split at q
  · rename_i z ds
    split at q
    · rename_i hs
      obtain ⟨p, vs, rfl, h1, h2⟩ := hb
      have ha' : DH X.K H g.F x (.str z) := ha
      obtain ⟨h3, h4⟩ := flat_dh (d := .str z) rfl ha'
      refine op_in_seq pins s σ H _ _ v u Q I rx ry ⟨p, vs, rfl, .inr (sqt_mono R.sub h1), h4, all_flat hs h2, ?_⟩
      rw [inV_any (d := .str z) rfl h3 hs h2]
      exact q _ _ _ (.refl g) R (.bl _)
    · exact q.elim
  · exact q.elim
/-! ### not (a if c else b) -/
def iteB (t ta tb : Rho → Sto → Res Bool) (ρ : Rho) (st : Sto) : Res Bool := (t ρ st).bind fun b st => if b = true then ta ρ st else tb ρ st
theorem jt_ite {c a b : Expr} {pos : Pos} {t ta tb : Rho → Sto → Res Bool} (hc : JT X W c t) (ha : JT X W a ta) (hb : JT X W b tb) : JT X W (.IfExp c a b pos) (iteB t ta tb) := by
  refine ⟨fun pins s σ H Q I ⟨g, ρ, st, R, E, q⟩ => ?_⟩
  rw [arm_isTrue_IfExp]
  refine wpAny_bind (thn (hc.run pins s σ H (fun k H1 => if k = true then tDT X W ta σ H1 Q else tDT X W tb σ H1 Q) I ⟨g, ρ, st, R, E, PostE.step q fun u H1 v st1 g1 l1 R1 r1 q1 => ?_⟩) fun k s1 ⟨H1, I1, q1⟩ => ?_)
  · subst r1
    cases u with
    | true => rw [if_pos rfl] at q1 ⊢; exact ⟨g1, ρ, st1, R1, E.mono l1.1, q1⟩
    | false => rw [if_neg Bool.false_ne_true] at q1 ⊢; exact ⟨g1, ρ, st1, R1, E.mono l1.1, q1⟩
  · cases k with
    | true => exact ha.run pins s1 σ H1 Q I1 q1
    | false => exact hb.run pins s1 σ H1 Q I1 q1
/-! ### try: body, except A: return .., except B: return .. -/
def tryC2 (l : ExL) (x1 x2 : Str) (d1 d2 body : Rho → Sto → RS) (ρ : Rho) (st : Sto) : RS := match body ρ st with
  | .err x ρ1 st1 => if (l.map (·.1)).contains x.cls = true then (if x.cls = x1 then d1 ρ1 st1 else if x.cls = x2 then d2 ρ1 st1 else .err x ρ1 st1) else .stuck
  | r => r
theorem js_tryC2 {l : ExL} {fs : List Str} {body s1 s2 : List Stmt} {b1 b2 : Stmt} {x1 x2 : Str} {n1 n2 p1 p2 pos : Pos} {m d1 d2 : Rho → Sto → RS} (T : ExTab X.K X.mg l fs) (hs : X.stack = X.env :: X.outer) (hf : X.env.frame = some X.env.locals) (tk : Takes X W)
    (g1 : Gl X x1) (g2 : Gl X x2) (e1 : (x1 == ("__debug__" : Str)) = false) (e2 : (x2 == ("__debug__" : Str)) = false) (m1 : (l.map (·.1)).contains x1 = true) (m2 : (l.map (·.1)).contains x2 = true)
    (hb : ∀ (W : WX) (pn : List (Addr × Obj)) (xe : Value → Shared → Prop), Takes (X.tr pn xe) W → PassesOwn (model X.prog X.w) X.A X.env xe → JSs (X.tr pn xe) W body m)
    (hn1 : ∀ ρ st x ρ' st', d1 ρ st ≠ .err x ρ' st') (hn2 : ∀ ρ st x ρ' st', d2 ρ st ≠ .err x ρ' st') (hd1 : ∀ (a : Addr) (pn : List (Addr × Obj)), JSs (X.suite a pn) W0 (b1 :: s1) d1) (hd2 : ∀ (a : Addr) (pn : List (Addr × Obj)), JSs (X.suite a pn) W0 (b2 :: s2) d2) :
    JS X W (.Try body [.ExceptHandler (some (.Name x1 n1)) none (b1 :: s1) p1, .ExceptHandler (some (.Name x2 n2)) none (b2 :: s2) p2] [] [] pos) (tryC2 l x1 x2 d1 d2 m) := by
  obtain ⟨q1, hq1, rfl⟩ := T.at m1
  obtain ⟨q2, hq2, rfl⟩ := T.at m2
  obtain ⟨C1, hC1, _⟩ := T.ok q1 hq1
  obtain ⟨C2, hC2, _⟩ := T.ok q2 hq2
  refine PS.imp (ps_try_many (tb := fun W => tDS X W m) (l := [(.ref C1, fun _ _ _ => tDS X W0 d1), (.ref C2, fun _ _ _ => tDS X W0 d2)]) hs hf tk hb
    (.cons ⟨g1, e1, .inl hC1⟩ (fun a oe cls d pn _ _ => hd1 a ((a, oe) :: pn)) (.cons ⟨g2, e2, .inl hC2⟩ (fun a oe cls d pn _ _ => hd2 a ((a, oe) :: pn)) .nil))) fun D σ H ⟨g, ρ, st, R, E, q⟩ => ⟨g, ρ, st, R, E, ?_⟩
  unfold tryC2 at q
  revert q
  cases m ρ st with
  | stuck => exact id
  | nx ρ1 st1 => exact id
  | ret v st1 => exact id
  | bk ρ1 st1 => exact id
  | ct ρ1 st1 => exact id
  | err x ρ1 st1 =>
    intro q cls dd σ1 H1 g1 l1 R1 E1 ex
    obtain ⟨⟨C, hm, rfl⟩, hargs⟩ := id ex
    dsimp only at q
    split at q
    · rename_i hc
      obtain ⟨p, hp, hpc⟩ := T.at hc
      obtain ⟨C', hC', _, _, h4, _⟩ := T.ok p hp
      rw [← hpc] at hm
      have := hC'.symm.trans hm
      cases this
      have t1 := (h4 q1 hq1 C1 hC1).2
      have t2 := (h4 q2 hq2 C2 hC2).2
      rw [← hpc] at q
      have noW : ∀ {D : Ends} {g : Gh} {r : RS}, PostS X W g D r → (∀ x ρ st, r ≠ .err x ρ st) → PostS X W0 g D r := fun {D g r} h hn => by
        cases r with
        | stuck => exact h
        | nx _ _ => exact h
        | ret _ _ => exact h
        | bk _ _ => exact h
        | ct _ _ => exact h
        | err x ρ st => exact absurd rfl (hn x ρ st)
      refine ⟨_, t1, fun hb a ha => ?_, fun hb => ⟨_, t2, fun hb2 a ha => ?_, fun hb2 => ?_⟩⟩
      · have e : p.1 = q1.1 := eq_of_beq hb
        rw [if_pos e] at q
        exact ⟨g1, ρ1, st1, R1, E1, noW (PostS.mono l1 q) fun _ _ _ => hn1 _ _ _ _ _⟩
      · have e : ¬ p.1 = q1.1 := fun z => by rw [z] at hb; simp at hb
        have e2 : p.1 = q2.1 := eq_of_beq hb2
        rw [if_neg e, if_pos e2] at q
        exact ⟨g1, ρ1, st1, R1, E1, noW (PostS.mono l1 q) fun _ _ _ => hn2 _ _ _ _ _⟩
      · have e : ¬ p.1 = q1.1 := fun z => by rw [z] at hb; simp at hb
        have e2 : ¬ p.1 = q2.1 := fun z => by rw [z] at hb2; simp at hb2
        rw [if_neg e, if_neg e2] at q
        exact q _ dd σ1 H1 g1 l1 R1 E1 ex
    · exact q.elim
end
end M1

/-! part PD: what the defs of the program and of the laws compute (printed) -/
namespace M1
open PySem PySem.Spec L2
def exl : ExL := [("Overdrawn", "ValueError"), ("Trapped", "ValueError"), ("Dissimilar", "ValueError"), ("NoTraces", "ValueError"), ("NoNode", "LookupError"), ("NoEntry", "LookupError")]
def m__law_equal (self : FV) : Rho → Sto → RS := (seqS (ifS (toB (isiM [.list, .tuple] (varM 1))) (seqS (ifS (orB (toB (bi (isiM [.list] (varM 0)) (isiM [.list] (varM 1)) (lift2 neD))) (toB (bi (isiM [.tuple] (varM 0)) (isiM [.tuple] (varM 1)) (lift2 neD)))) (seqS (retS (conM (.bool false))) skipS) skipS) (seqS (retS (andM (bi (appM (consA (varM 0) nilA) lenM) (appM (consA (varM 1) nilA) lenM) (lift2 eqD)) (appM (consA (frzM (compM (argIS zipS (consA (varM 0) (consA (varM 1) nilA))) (.tp (.cons (.nm 2) (.cons (.nm 3) .nil))) ([("_law_lone", 2), ("_law_mate", 3)].map (·.2)) tYesM (callM self (consA (varM 2) (consA (varM 3) nilA))))) nilA) (on1 allD)))) skipS)) skipS) (seqS (ifS (orB (toB (bi (varM 1) (conM .none) (isM false))) (toB (isiM [.str] (varM 1)))) (seqS (retS (andM (bi (varM 0) (varM 1) (lift2 eqD)) (bi (isiM [.str] (varM 0)) (isiM [.str] (varM 1)) (lift2 eqD)))) skipS) skipS) (seqS (retS (andM (isiM [.int] (varM 0)) (andM (bi (isiM [.bool] (varM 0)) (isiM [.bool] (varM 1)) (lift2 eqD)) (bi (varM 0) (varM 1) (lift2 eqD))))) skipS)))
def d__law_equal : Nat → FV
  | 0 => fun _ _ => .stuck
  | n + 1 => bodyF 4 (m__law_equal (d__law_equal n))
def m__law_source : Rho → Sto → RS := (seqS (asgS (conM (.int 0)) (.nm 2)) (seqS (ifS (toB (bi (varM 1) (appM (consA (varM 0) nilA) lenM) (lift2 ltD))) (seqS (asgS (bi (varM 0) (varM 1) ixA) (.nm 2)) skipS) skipS) (seqS (retS (newM (lstM (consA (bi (appM (consA (varM 2) nilA) (on1 absD)) (appM (consA (bi (appM (consA (varM 2) nilA) (on1 absD)) (bi (conM (.int 10)) (conM (.int 18)) (lift2 powD)) (lift2 geD)) nilA) (on1 intD)) (lift2 mulD)) (consA (bi (bi (bi (bi (bi (varM 2) (conM (.int 2147483563)) (lift2 modD)) (bi (conM (.int 86243)) (varM 1) (lift2 mulD)) (lift2 addD)) (conM (.int 41)) (lift2 addD)) (conM (.int 39373)) (lift2 mulD)) (conM (.int 2147483543)) (lift2 modD)) (consA (conM (.int 0)) nilA)))))) skipS)))
def d__law_source : FV := bodyF 3 m__law_source
def m_look_node : Rho → Sto → RS := (seqS (ifS (notB (toB (chainM (conM (.int 0)) (varM 1) (varM 0) (lift2 leD) (lift2 ltD)))) (seqS (raiseS "NoNode" "node" (varM 1)) skipS) skipS) skipS)
def d_look_node : FV := bodyF 2 m_look_node
def m_entries : Rho → Sto → RS := (seqS (retS (appM (consA (frzM (compM (srcM (varM 0)) (.nm 2) ([("page", 2)].map (·.2)) tYesM (mthM tb_count (frzM (appM (consA (varM 2) nilA) (on1F listD))) (consA (varM 1) nilA)))) nilA) (on1 sumD))) skipS)
def d_entries : FV := bodyF 3 m_entries
def m_reading : Rho → Sto → RS := (seqS (parS (consA (newM (lstM (consA (varM 1) nilA))) (consA (newM (biF (frzM (lstM (consA (conM (.int 0)) nilA))) (appM (consA (varM 0) nilA) lenM) (lift2F repF))) nilA)) [2, 3]) (seqS (whileL (toB (bi (bi (varM 3) (bi (varM 2) (negM (conM (.int 1))) ixA) ixA) (appM (consA (bi (varM 0) (bi (varM 2) (negM (conM (.int 1))) ixA) ixA) nilA) lenM) (lift2 ltD))) (seqS (asgS (bi (varM 2) (negM (conM (.int 1))) ixA) (.nm 4)) (seqS (exprS (mthM tb_append (varM 2) (consA (bi (bi (varM 0) (varM 4) ixA) (bi (varM 3) (varM 4) ixA) ixA) nilA))) (seqS (augIS (varM 3) (varM 4) (conM (.int 1)) iAdd) skipS))) 100000) (seqS (frzS 3) (seqS (frzS 2) (seqS (retS (tupM (consA (appM (consA (varM 2) nilA) (on1 tupleD)) (consA (varM 3) nilA)))) skipS)))))
def d_reading : FV := bodyF 5 m_reading
def m_surplus : Rho → Sto → RS := (seqS (retS (frzM (compM (argI rng1I (consA (appM (consA (varM 0) nilA) lenM) nilA)) (.nm 3) ([("node", 3)].map (·.2)) tYesM (bi (bi (bi (varM 1) (varM 3) ixA) (appM (consA (bi (varM 3) (varM 2) (lift2 eqD)) nilA) (on1 intD)) (lift2 addD)) (bi (varM 0) (varM 3) ixA) (lift2 subD))))) skipS)
def d_surplus : FV := bodyF 4 m_surplus
def m_extra_of : Rho → Sto → RS := (seqS (retS (callM d_surplus (consA (frzM (compM (srcM (varM 0)) (.nm 2) ([("page", 2)].map (·.2)) tYesM (appM (consA (varM 2) nilA) lenM))) (consA (frzM (compM (argI rng1I (consA (appM (consA (varM 0) nilA) lenM) nilA)) (.nm 3) ([("node", 3)].map (·.2)) tYesM (callM d_entries (consA (varM 0) (consA (varM 3) nilA))))) (consA (varM 1) nilA))))) skipS)
def d_extra_of : FV := bodyF 4 m_extra_of
def m_least_overdrawn : Rho → Sto → RS := (seqS (asgS (frzM (compM (argI enumI (consA (varM 0) nilA)) (.tp (.cons (.nm 2) (.cons (.nm 3) .nil))) ([("node", 2), ("more", 3)].map (·.2)) (toB (bi (varM 3) (conM (.int 0)) (lift2 ltD))) (varM 2))) (.nm 1)) (seqS (retS (iteM (toB (bi (varM 1) (frzM (lstM nilA)) (lift2 neD))) (bi (varM 1) (conM (.int 0)) ixA) (conM .none))) skipS))
def d_least_overdrawn : FV := bodyF 4 m_least_overdrawn
def m_leading : Rho → Sto → RS := (seqS (asgS (tupM (consA (frzM (lstM (consA (varM 1) nilA))) (consA (conM (.int 0)) nilA))) (.tp (.cons (.nm 2) (.cons (.nm 3) .nil)))) (seqS (whileL (toB (bi (varM 3) (appM (consA (varM 2) nilA) lenM) (lift2 ltD))) (seqS (asgS (bi (varM 2) (varM 3) ixA) (.nm 4)) (seqS (asgS (bi (varM 2) (frzM (compM (argI enumI (consA (varM 0) nilA)) (.tp (.cons (.nm 5) (.cons (.nm 6) .nil))) ([("node", 5), ("exits", 6)].map (·.2)) (andB (toB (bi (varM 4) (varM 6) (lift2 (inD false)))) (toB (bi (varM 5) (varM 2) (lift2 (inD true))))) (varM 5))) (lift2 addD)) (.nm 2)) (seqS (augS 3 (conM (.int 1)) iAdd) skipS))) 100000) (seqS (retS (varM 2)) skipS)))
def d_leading : FV := bodyF 7 m_leading
def m_stranded : Rho → Sto → RS := (seqS (asgS (callM d_leading (consA (varM 0) (consA (varM 1) nilA))) (.nm 2)) (seqS (retS (appM (consA (frzM (compM (argI enumI (consA (varM 0) nilA)) (.tp (.cons (.nm 3) (.cons (.nm 4) .nil))) ([("node", 3), ("exits", 4)].map (·.2)) (andB (toB (bi (appM (consA (varM 4) nilA) lenM) (conM (.int 0)) (lift2 gtD))) (toB (bi (varM 3) (varM 2) (lift2 (inD true))))) (varM 3))) nilA) (on1 tupleD))) skipS))
def d_stranded : FV := bodyF 5 m_stranded
def m_last_entries : Rho → Sto → RS := (seqS (retS (frzM (compM (srcM (varM 0)) (.nm 1) ([("page", 1)].map (·.2)) tYesM (appM (consA (sliceM (varM 1) (atO (negM (conM (.int 1)))) noO) nilA) (on1 tupleD))))) skipS)
def d_last_entries : FV := bodyF 2 m_last_entries
def m_verdict : Rho → Sto → RS := (seqS (exprS (callM d_look_node (consA (appM (consA (varM 0) nilA) lenM) (consA (varM 1) nilA)))) (seqS (asgS (callM d_extra_of (consA (varM 0) (consA (varM 1) nilA))) (.nm 2)) (seqS (asgS (callM d_least_overdrawn (consA (varM 2) nilA)) (.nm 3)) (seqS (ifS (toB (bi (varM 3) (conM .none) (isM true))) (seqS (retS (tupM (consA (conM (.str "overdrawn")) (consA (varM 3) nilA)))) skipS) skipS) (seqS (asgS (callM d_stranded (consA (callM d_last_entries (consA (varM 0) nilA)) (consA (mthM tb_index (varM 2) (consA (conM (.int 1)) nilA)) nilA))) (.nm 4)) (seqS (retS (iteM (toB (bi (varM 4) (tupM nilA) (lift2 neD))) (tupM (consA (conM (.str "trap")) (consA (varM 4) nilA))) (tupM (consA (conM (.str "trace")) (consA (bi (callM d_reading (consA (varM 0) (consA (varM 1) nilA))) (conM (.int 0)) ixA) nilA))))) skipS))))))
def d_verdict : FV := bodyF 5 m_verdict
def m_with_page : Rho → Sto → RS := (seqS (retS (appM (consA (frzM (compM (argI enumI (consA (varM 0) nilA)) (.tp (.cons (.nm 3) (.cons (.nm 4) .nil))) ([("at", 3), ("each", 4)].map (·.2)) tYesM (iteM (toB (bi (varM 3) (varM 1) (lift2 eqD))) (varM 2) (varM 4)))) nilA) (on1 tupleD))) skipS)
def d_with_page : FV := bodyF 5 m_with_page
def m_copied : Rho → Sto → RS := (seqS (retS (appM (consA (frzM (compM (srcM (varM 0)) (.tp (.cons (.nm 1) (.cons (.nm 2) (.cons (.nm 3) .nil)))) ([("head", 1), ("loose", 2), ("tail", 3)].map (·.2)) tYesM (tupM (consA (appM (consA (varM 1) nilA) (on1 tupleD)) (consA (appM (consA (varM 2) nilA) (on1 tupleD)) (consA (appM (consA (varM 3) nilA) (on1 tupleD)) nilA)))))) nilA) (on1 tupleD))) skipS)
def d_copied : FV := bodyF 4 m_copied
def m_all_entries : Rho → Sto → RS := (seqS (asgS (varM 0) (.tp (.cons (.nm 1) (.cons (.nm 2) (.cons (.nm 3) .nil))))) (seqS (retS (bi (bi (frzM (appM (consA (varM 1) nilA) (on1F listD))) (frzM (appM (consA (varM 2) nilA) (on1F listD))) (lift2 addD)) (frzM (appM (consA (varM 3) nilA) (on1F listD))) (lift2 addD))) skipS))
def d_all_entries : FV := bodyF 4 m_all_entries
def m_forgotten : Rho → Sto → RS := (seqS (exprS (callM d_look_node (consA (appM (consA (varM 0) nilA) lenM) (consA (varM 1) nilA)))) (seqS (retS (callM d_with_page (consA (callM d_copied (consA (varM 0) nilA)) (consA (varM 1) (consA (tupM (consA (tupM nilA) (consA (appM (consA (frzM (appM (consA (callM d_all_entries (consA (bi (varM 0) (varM 1) ixA) nilA)) nilA) (on1F sortedD))) nilA) (on1 tupleD)) (consA (tupM nilA) nilA)))) nilA))))) skipS))
def d_forgotten : FV := bodyF 2 m_forgotten
def m_determinant : Rho → Sto → RS := (seqS (parS (consA (compCM (srcM (varM 0)) (.nm 6) ([("row", 6)].map (·.2)) tYesM (appM (consA (varM 6) nilA) (on1F listD))) (consA (conM (.int 1)) (consA (conM (.int 1)) nilA))) [1, 2, 3]) (seqS (forS (argI rng1I (consA (appM (consA (varM 1) nilA) lenM) nilA)) (.nm 4) (seqS (asgS (frzM (compM (argI rng2I (consA (varM 4) (consA (appM (consA (varM 1) nilA) lenM) nilA))) (.nm 8) ([("place", 8)].map (·.2)) (toB (bi (bi (bi (varM 1) (varM 8) ixA) (varM 4) ixA) (conM (.int 0)) (lift2 neD))) (varM 8))) (.nm 5)) (seqS (ifS (toB (bi (varM 5) (frzM (lstM nilA)) (lift2 eqD))) (seqS (retS (conM (.int 0))) skipS) skipS) (seqS (ifS (toB (bi (bi (varM 5) (conM (.int 0)) ixA) (varM 4) (lift2 neD))) (seqS (store2NS setC (consA (bi (varM 1) (bi (varM 5) (conM (.int 0)) ixA) ixA) (consA (bi (varM 1) (varM 4) ixA) (consA (bi (conM (.int 0)) (varM 2) (lift2 subD)) nilA))) (varM 1) (varM 4) (varM 1) (bi (varM 5) (conM (.int 0)) ixA) 2) skipS) skipS) (seqS (forS (srcM (sliceC (varM 1) (atO (bi (varM 4) (conM (.int 1)) (lift2 addD))) noO)) (.nm 6) (seqS (asgS (bi (varM 6) (varM 4) ixA) (.nm 7)) (seqS (forS (argI rng2I (consA (varM 4) (consA (appM (consA (varM 1) nilA) lenM) nilA))) (.nm 8) (seqS (storeS setF (bi (bi (bi (bi (varM 6) (varM 8) ixA) (bi (bi (varM 1) (varM 4) ixA) (varM 4) ixA) (lift2 mulD)) (bi (varM 7) (bi (bi (varM 1) (varM 4) ixA) (varM 8) ixA) (lift2 mulD)) (lift2 subD)) (varM 3) (lift2 divD)) (varM 6) (varM 8)) skipS)) skipS))) (seqS (asgS (bi (bi (varM 1) (varM 4) ixA) (varM 4) ixA) (.nm 3)) skipS)))))) (seqS (retS (bi (varM 2) (varM 3) (lift2 mulD))) skipS)))
def d_determinant : FV := bodyF 9 m_determinant
def m_extra_in : Rho → Sto → RS := (seqS (asgS (frzM (compM (srcM (varM 0)) (.nm 4) ([("page", 4)].map (·.2)) tYesM (callM d_all_entries (consA (varM 4) nilA)))) (.nm 2)) (seqS (asgS (frzM (compM (argI rng1I (consA (appM (consA (varM 2) nilA) lenM) nilA)) (.nm 5) ([("node", 5)].map (·.2)) tYesM (appM (consA (frzM (compM (srcM (varM 2)) (.nm 4) ([("page", 4)].map (·.2)) tYesM (mthM tb_count (varM 4) (consA (varM 5) nilA)))) nilA) (on1 sumD)))) (.nm 3)) (seqS (retS (callM d_surplus (consA (frzM (compM (srcM (varM 2)) (.nm 4) ([("page", 4)].map (·.2)) tYesM (appM (consA (varM 4) nilA) lenM))) (consA (varM 3) (consA (varM 1) nilA))))) skipS)))
def d_extra_in : FV := bodyF 6 m_extra_in
def m_possible_exits : Rho → Sto → RS := (seqS (asgS (varM 0) (.tp (.cons (.nm 1) (.cons (.nm 2) (.cons (.nm 3) .nil))))) (seqS (ifS (toB (bi (appM (consA (varM 3) nilA) lenM) (conM (.int 0)) (lift2 gtD))) (seqS (retS (appM (consA (sliceM (varM 3) (atO (negM (conM (.int 1)))) noO) nilA) (on1 tupleD))) skipS) skipS) (seqS (retS (iteM (toB (bi (appM (consA (varM 2) nilA) lenM) (conM (.int 0)) (lift2 gtD))) (appM (consA (frzM (scM (srcM (varM 2)) (.nm 4) ([("node", 4)].map (·.2)) tYesM (varM 4))) nilA) (on1 tupleD)) (appM (consA (sliceM (varM 1) (atO (negM (conM (.int 1)))) noO) nilA) (on1 tupleD)))) skipS)))
def d_possible_exits : FV := bodyF 5 m_possible_exits
def m_choices_of : Rho → Sto → RS := (seqS (retS (frzM (compM (srcM (varM 0)) (.nm 1) ([("page", 1)].map (·.2)) tYesM (callM d_possible_exits (consA (varM 1) nilA))))) skipS)
def d_choices_of : FV := bodyF 2 m_choices_of
def m_is_feasible : Rho → Sto → RS := (seqS (asgS (callM d_extra_in (consA (varM 0) (consA (varM 1) nilA))) (.nm 2)) (seqS (retS (andM (bi (callM d_least_overdrawn (consA (varM 2) nilA)) (conM .none) (isM false)) (bi (callM d_stranded (consA (callM d_choices_of (consA (varM 0) nilA)) (consA (mthM tb_index (varM 2) (consA (conM (.int 1)) nilA)) nilA))) (tupM nilA) (lift2 eqD)))) skipS))
def d_is_feasible : FV := bodyF 3 m_is_feasible
def m_shares : Rho → Sto → RS := (seqS (asgS (frzM (appM (consA (bi (varM 0) (conM (.int 1)) ixA) nilA) (on1F listD))) (.nm 1)) (seqS (asgS (callM d_possible_exits (consA (varM 0) nilA)) (.nm 2)) (seqS (ifS (orB (toB (bi (appM (consA (bi (varM 0) (conM (.int 2)) ixA) nilA) lenM) (conM (.int 0)) (lift2 gtD))) (toB (bi (varM 1) (frzM (lstM nilA)) (lift2 eqD)))) (seqS (retS (tupM (consA (frzM (compM (srcM (varM 2)) (.nm 3) ([("node", 3)].map (·.2)) tYesM (tupM (consA (varM 3) (consA (conM (.int 1)) nilA))))) (consA (conM (.int 1)) nilA)))) skipS) skipS) (seqS (retS (tupM (consA (frzM (compM (srcM (varM 2)) (.nm 3) ([("node", 3)].map (·.2)) tYesM (tupM (consA (varM 3) (consA (mthM tb_count (varM 1) (consA (varM 3) nilA)) nilA))))) (consA (appM (consA (varM 1) nilA) lenM) nilA)))) skipS))))
def d_shares : FV := bodyF 4 m_shares
def m_tree_matrix : Rho → Sto → RS := (seqS (asgS (newM (lstM nilA)) (.nm 2)) (seqS (forS (srcM (varM 1)) (.nm 3) (seqS (asgS (callM d_shares (consA (bi (varM 0) (varM 3) ixA) nilA)) (.tp (.cons (.nm 4) (.cons (.nm 5) .nil)))) (seqS (asgS (appM (consA (varM 4) nilA) dictI) (.nm 6)) (seqS (exprS (mthM tb_append (varM 2) (consA (frzM (compM (srcM (varM 1)) (.nm 7) ([("there", 7)].map (·.2)) tYesM (bi (bi (varM 5) (appM (consA (bi (varM 3) (varM 7) (lift2 eqD)) nilA) (on1 intD)) (lift2 mulD)) (dgetM (varM 6) (varM 7) (conM (.int 0))) (lift2 subD)))) nilA))) skipS)))) (seqS (frzS 2) (seqS (retS (varM 2)) skipS))))
def d_tree_matrix : FV := bodyF 8 m_tree_matrix
def m_factorial : Rho → Sto → RS := (seqS (asgS (conM (.int 1)) (.nm 1)) (seqS (forS (argI rng2I (consA (conM (.int 2)) (consA (bi (varM 0) (conM (.int 1)) (lift2 addD)) nilA))) (.nm 2) (seqS (augS 1 (varM 2) iMul) skipS)) (seqS (retS (varM 1)) skipS)))
def d_factorial : FV := bodyF 3 m_factorial
def m_orders : Rho → Sto → RS := (seqS (asgS (callM d_factorial (consA (appM (consA (varM 0) nilA) lenM) nilA)) (.nm 1)) (seqS (forS (srcM (frzM (scM (srcM (varM 0)) (.nm 2) ([("node", 2)].map (·.2)) tYesM (varM 2)))) (.nm 2) (seqS (augS 1 (callM d_factorial (consA (mthM tb_count (frzM (appM (consA (varM 0) nilA) (on1F listD))) (consA (varM 2) nilA)) nilA)) iDiv) skipS)) (seqS (retS (varM 1)) skipS)))
def d_orders : FV := bodyF 3 m_orders
def m_number_of_fillings : Rho → Sto → RS := (seqS (ifS (notB (toB (callM d_is_feasible (consA (varM 0) (consA (varM 1) nilA))))) (seqS (retS (conM (.int 0))) skipS) skipS) (seqS (asgS (mthM tb_index (callM d_extra_in (consA (varM 0) (consA (varM 1) nilA))) (consA (conM (.int 1)) nilA)) (.nm 2)) (seqS (asgS (frzM (compM (argI enumI (consA (varM 0) nilA)) (.tp (.cons (.nm 6) (.cons (.nm 5) .nil))) ([("node", 6), ("page", 5)].map (·.2)) (andB (toB (bi (varM 6) (varM 2) (lift2 neD))) (toB (bi (callM d_all_entries (consA (varM 5) nilA)) (frzM (lstM nilA)) (lift2 neD)))) (varM 6))) (.nm 3)) (seqS (asgS (callM d_determinant (consA (callM d_tree_matrix (consA (varM 0) (consA (varM 3) nilA))) nilA)) (.nm 4)) (seqS (forS (srcM (varM 0)) (.nm 5) (seqS (augS 4 (callM d_orders (consA (bi (varM 5) (conM (.int 1)) ixA) nilA)) iMul) skipS)) (seqS (forS (srcM (varM 3)) (.nm 6) (seqS (augS 4 (bi (callM d_shares (consA (bi (varM 0) (varM 6) ixA) nilA)) (conM (.int 1)) ixA) iDiv) skipS)) (seqS (retS (varM 4)) skipS)))))))
def d_number_of_fillings : FV := bodyF 7 m_number_of_fillings
def m_is_decimal : Rho → Sto → RS := (seqS (ifS (orB (toB (bi (varM 0) (conM (.str "")) (lift2 eqD))) (notB (toB (appM (consA (frzM (compM (srcM (varM 0)) (.nm 1) ([("sign", 1)].map (·.2)) tYesM (bi (varM 1) (conM (.str "0123456789")) (lift2 (inD false))))) nilA) (on1 allD))))) (seqS (retS (conM (.bool false))) skipS) skipS) (seqS (retS (orM (bi (varM 0) (conM (.str "0")) (lift2 eqD)) (bi (bi (varM 0) (conM (.int 0)) ixA) (conM (.str "0")) (lift2 neD)))) skipS))
def d_is_decimal : FV := bodyF 2 m_is_decimal
def m_is_number_word : Rho → Sto → RS := (seqS (retS (andM (callM d_is_decimal (consA (varM 0) nilA)) (bi (appM (consA (varM 0) nilA) lenM) (conM (.int 3)) (lift2 leD)))) skipS)
def d_is_number_word : FV := bodyF 1 m_is_number_word
def m_Recorder__init : Rho → Sto → RS := (seqS (exprS (callM d_look_node (consA (varM 1) (consA (varM 2) nilA)))) (seqS (setFS "Recorder" "own_states" (newM (lstM (consA (tupM (consA (tupM (consA (varM 2) nilA)) (consA (appM (consA (frzM (compM (argI rng1I (consA (varM 1) nilA)) (.nm 3) ([("node", 3)].map (·.2)) tYesM (tupM (consA (tupM nilA) (consA (tupM nilA) (consA (tupM nilA) nilA)))))) nilA) (on1 tupleD)) nilA))) nilA))) (varM 0)) (seqS (setFS "Recorder" "own_journal" (newM (lstM nilA)) (varM 0)) skipS)))
def d_Recorder__init : FV := bodyU 4 m_Recorder__init
def m_moved : Rho → Sto → RS := (seqS (asgS (varM 0) (.tp (.cons (.nm 2) (.cons (.nm 3) .nil)))) (seqS (asgS (bi (callM d_copied (consA (varM 3) nilA)) (bi (varM 2) (negM (conM (.int 1))) ixA) ixA) (.tp (.cons (.nm 4) (.cons (.nm 5) (.cons (.nm 6) .nil))))) (seqS (asgS (iteM (andB (toB (bi (varM 5) (tupM nilA) (lift2 eqD))) (toB (bi (varM 6) (tupM nilA) (lift2 eqD)))) (tupM (consA (bi (varM 4) (tupM (consA (varM 1) nilA)) (lift2 addD)) (consA (varM 5) (consA (varM 6) nilA)))) (tupM (consA (varM 4) (consA (varM 5) (consA (bi (varM 6) (tupM (consA (varM 1) nilA)) (lift2 addD)) nilA))))) (.nm 7)) (seqS (retS (tupM (consA (bi (varM 2) (tupM (consA (varM 1) nilA)) (lift2 addD)) (consA (callM d_with_page (consA (varM 3) (consA (bi (varM 2) (negM (conM (.int 1))) ixA) (consA (varM 7) nilA)))) nilA)))) skipS))))
def d_moved : FV := bodyF 8 m_moved
def m_Recorder__partial : Rho → Sto → RS := (seqS (retS (bi (bi (obF "Recorder" "own_states" (varM 0)) (negM (conM (.int 1))) ixA) (conM (.int 1)) ixA)) skipS)
def d_Recorder__partial : FV := bodyF 1 m_Recorder__partial
def m_Recorder__trace : Rho → Sto → RS := (seqS (retS (bi (bi (obF "Recorder" "own_states" (varM 0)) (negM (conM (.int 1))) ixA) (conM (.int 0)) ixA)) skipS)
def d_Recorder__trace : FV := bodyF 1 m_Recorder__trace
def m_Recorder__step : Rho → Sto → RS := (seqS (exprS (mthM tb_append (obF "Recorder" "own_journal" (varM 0)) (consA (tupM (consA (conM (.str "begin")) (consA (conM (.str "step")) nilA))) nilA))) (seqS (finR (seqS (exprS (callM d_look_node (consA (appM (consA (metM "Recorder" "partial" d_Recorder__partial (varM 0) nilA) nilA) lenM) (consA (varM 1) nilA)))) (seqS (asgS (mthM tb_count (metM "Recorder" "trace" d_Recorder__trace (varM 0) nilA) (consA (varM 1) nilA)) (.nm 2)) (seqS (exprS (mthM tb_append (obF "Recorder" "own_states" (varM 0)) (consA (callM d_moved (consA (bi (obF "Recorder" "own_states" (varM 0)) (negM (conM (.int 1))) ixA) (consA (varM 1) nilA))) nilA))) skipS))) (varM 2) (seqS (exprS (mthM tb_append (obF "Recorder" "own_journal" (varM 0)) (consA (tupM (consA (conM (.str "end")) (consA (conM (.str "step")) nilA))) nilA))) skipS)) skipS))
def d_Recorder__step : FV := bodyF 3 m_Recorder__step
def m_Recorder__walk : Rho → Sto → RS := (seqS (exprS (mthM tb_append (obF "Recorder" "own_journal" (varM 0)) (consA (tupM (consA (conM (.str "begin")) (consA (conM (.str "walk")) nilA))) nilA))) (seqS (finR (seqS (forS (srcM (varM 1)) (.nm 2) (seqS (exprS (callM d_look_node (consA (appM (consA (metM "Recorder" "partial" d_Recorder__partial (varM 0) nilA) nilA) lenM) (consA (varM 2) nilA)))) skipS)) (seqS (parS (consA (bi (obF "Recorder" "own_states" (varM 0)) (negM (conM (.int 1))) ixA) (consA (newM (lstM nilA)) nilA)) [3, 4]) (seqS (forS (srcM (varM 1)) (.nm 2) (seqS (exprS (mthM tb_append (varM 4) (consA (mthM tb_count (bi (varM 3) (conM (.int 0)) ixA) (consA (varM 2) nilA)) nilA))) (seqS (asgS (callM d_moved (consA (varM 3) (consA (varM 2) nilA))) (.nm 3)) skipS))) (seqS (exprS (mthM tb_append (obF "Recorder" "own_states" (varM 0)) (consA (varM 3) nilA))) skipS)))) (varM 4) (seqS (exprS (mthM tb_append (obF "Recorder" "own_journal" (varM 0)) (consA (tupM (consA (conM (.str "end")) (consA (conM (.str "walk")) nilA))) nilA))) skipS)) skipS))
def d_Recorder__walk : FV := bodyF 5 m_Recorder__walk
def m_Recorder__forget : Rho → Sto → RS := (seqS (exprS (mthM tb_append (obF "Recorder" "own_journal" (varM 0)) (consA (tupM (consA (conM (.str "begin")) (consA (conM (.str "forget")) nilA))) nilA))) (seqS (finN (seqS (exprS (mthM tb_append (obF "Recorder" "own_states" (varM 0)) (consA (tupM (consA (metM "Recorder" "trace" d_Recorder__trace (varM 0) nilA) (consA (callM d_forgotten (consA (metM "Recorder" "partial" d_Recorder__partial (varM 0) nilA) (consA (varM 1) nilA))) nilA))) nilA))) skipS) (seqS (exprS (mthM tb_append (obF "Recorder" "own_journal" (varM 0)) (consA (tupM (consA (conM (.str "end")) (consA (conM (.str "forget")) nilA))) nilA))) skipS)) skipS))
def d_Recorder__forget : FV := bodyF 2 m_Recorder__forget
def m_Recorder__add_node : Rho → Sto → RS := (seqS (exprS (mthM tb_append (obF "Recorder" "own_journal" (varM 0)) (consA (tupM (consA (conM (.str "begin")) (consA (conM (.str "add_node")) nilA))) nilA))) (seqS (finR (seqS (asgS (appM (consA (metM "Recorder" "partial" d_Recorder__partial (varM 0) nilA) nilA) lenM) (.nm 1)) (seqS (ifS (toB (bi (varM 1) (conM (.int 10)) (lift2 geD))) (seqS (raiseS "Full" "many" (conM (.int 10))) skipS) skipS) (seqS (exprS (mthM tb_append (obF "Recorder" "own_states" (varM 0)) (consA (tupM (consA (metM "Recorder" "trace" d_Recorder__trace (varM 0) nilA) (consA (bi (metM "Recorder" "partial" d_Recorder__partial (varM 0) nilA) (tupM (consA (tupM (consA (tupM nilA) (consA (tupM nilA) (consA (tupM nilA) nilA)))) nilA)) (lift2 addD)) nilA))) nilA))) skipS))) (varM 1) (seqS (exprS (mthM tb_append (obF "Recorder" "own_journal" (varM 0)) (consA (tupM (consA (conM (.str "end")) (consA (conM (.str "add_node")) nilA))) nilA))) skipS)) skipS))
def d_Recorder__add_node : FV := bodyF 2 m_Recorder__add_node
def m_Recorder__undo : Rho → Sto → RS := (seqS (exprS (mthM tb_append (obF "Recorder" "own_journal" (varM 0)) (consA (tupM (consA (conM (.str "begin")) (consA (conM (.str "undo")) nilA))) nilA))) (seqS (asgS (bi (appM (consA (obF "Recorder" "own_states" (varM 0)) nilA) lenM) (conM (.int 1)) (lift2 gtD)) (.nm 1)) (seqS (ifS (toB (varM 1)) (seqS (exprS (mthM tb_pop (obF "Recorder" "own_states" (varM 0)) nilA)) skipS) skipS) (seqS (exprS (mthM tb_append (obF "Recorder" "own_journal" (varM 0)) (consA (tupM (consA (conM (.str "end")) (consA (conM (.str "undo")) nilA))) nilA))) (seqS (retS (varM 1)) skipS)))))
def d_Recorder__undo : FV := bodyF 2 m_Recorder__undo
def m_Recorder__current : Rho → Sto → RS := (seqS (retS (bi (metM "Recorder" "trace" d_Recorder__trace (varM 0) nilA) (negM (conM (.int 1))) ixA)) skipS)
def d_Recorder__current : FV := bodyF 1 m_Recorder__current
def m_Recorder__count : Rho → Sto → RS := (seqS (retS (callM d_number_of_fillings (consA (metM "Recorder" "partial" d_Recorder__partial (varM 0) nilA) (consA (bi (metM "Recorder" "trace" d_Recorder__trace (varM 0) nilA) (conM (.int 0)) ixA) nilA)))) skipS)
def d_Recorder__count : FV := bodyF 1 m_Recorder__count
end M1

namespace Lk56
open PySem PySem.Spec L2 M1
def top (i : Nat) : Stmt := PySem.Challenge.pw_exitpages_k56_a_known_desk.main.body.getD i (.Pass ⟨0, 0, 0, 0⟩)

abbrev s_is_decimal : Stmt := top 9
abbrev n_is_decimal : List Str := ["word", "sign"]
theorem c_is_decimal : FnScope n_is_decimal ["word"] (defScope s_is_decimal) := ⟨rfl, rfl, rfl, by decide +kernel, rfl, by decide +kernel, by decide +kernel⟩
abbrev s_is_number_word : Stmt := top 16
abbrev n_is_number_word : List Str := ["word"]
theorem c_is_number_word : FnScope n_is_number_word ["word"] (defScope s_is_number_word) := ⟨rfl, rfl, rfl, by decide +kernel, rfl, by decide +kernel, by decide +kernel⟩
abbrev s_is_head : Stmt := top 17
abbrev n_is_head : List Str := ["line", "words"]
theorem c_is_head : FnScope n_is_head ["line"] (defScope s_is_head) := ⟨rfl, rfl, rfl, by decide +kernel, rfl, by decide +kernel, by decide +kernel⟩
abbrev s_is_command : Stmt := top 18
abbrev n_is_command : List Str := ["line", "word", "numbers", "number"]
theorem c_is_command : FnScope n_is_command ["line"] (defScope s_is_command) := ⟨rfl, rfl, rfl, by decide +kernel, rfl, by decide +kernel, by decide +kernel⟩
abbrev s_read_lines : Stmt := top 19
abbrev n_read_lines : List Str := ["text", "lines", "at", "line", "words", "commands", "row", "number"]
theorem c_read_lines : FnScope n_read_lines ["text"] (defScope s_read_lines) := ⟨rfl, rfl, rfl, by decide +kernel, rfl, by decide +kernel, by decide +kernel⟩
abbrev s_look_node : Stmt := top 21
abbrev n_look_node : List Str := ["nodes", "node"]
theorem c_look_node : FnScope n_look_node ["nodes", "node"] (defScope s_look_node) := ⟨rfl, rfl, rfl, by decide +kernel, rfl, by decide +kernel, by decide +kernel⟩
abbrev s_Recorder__init : Stmt := clsFn (top 49) 0
abbrev n_Recorder__init : List Str := ["self", "nodes", "start", "node"]
theorem c_Recorder__init : FnScope n_Recorder__init ["self", "nodes", "start"] (defScope s_Recorder__init) := ⟨rfl, rfl, rfl, by decide +kernel, rfl, by decide +kernel, by decide +kernel⟩
abbrev s_words_of : Stmt := top 10
abbrev n_words_of : List Str := ["numbers", "number"]
theorem c_words_of : FnScope n_words_of ["numbers"] (defScope s_words_of) := ⟨rfl, rfl, rfl, by decide +kernel, rfl, by decide +kernel, by decide +kernel⟩
abbrev s_Recorder__partial : Stmt := clsFn (top 49) 5
abbrev n_Recorder__partial : List Str := ["self"]
theorem c_Recorder__partial : FnScope n_Recorder__partial ["self"] (defScope s_Recorder__partial) := ⟨rfl, rfl, rfl, by decide +kernel, rfl, by decide +kernel, by decide +kernel⟩
abbrev s_page_text : Stmt := top 57
abbrev n_page_text : List Str := ["recorder", "node", "head", "loose", "tail", "middle", "parts"]
theorem c_page_text : FnScope n_page_text ["recorder", "node"] (defScope s_page_text) := ⟨rfl, rfl, rfl, by decide +kernel, rfl, by decide +kernel, by decide +kernel⟩
abbrev s_surplus : Stmt := top 32
abbrev n_surplus : List Str := ["left", "gone_to", "start", "node"]
theorem c_surplus : FnScope n_surplus ["left", "gone_to", "start"] (defScope s_surplus) := ⟨rfl, rfl, rfl, by decide +kernel, rfl, by decide +kernel, by decide +kernel⟩
abbrev s_entries : Stmt := top 22
abbrev n_entries : List Str := ["log", "node", "page"]
theorem c_entries : FnScope n_entries ["log", "node"] (defScope s_entries) := ⟨rfl, rfl, rfl, by decide +kernel, rfl, by decide +kernel, by decide +kernel⟩
abbrev s_extra_of : Stmt := top 53
abbrev n_extra_of : List Str := ["log", "start", "page", "node"]
theorem c_extra_of : FnScope n_extra_of ["log", "start"] (defScope s_extra_of) := ⟨rfl, rfl, rfl, by decide +kernel, rfl, by decide +kernel, by decide +kernel⟩
abbrev s_least_overdrawn : Stmt := top 33
abbrev n_least_overdrawn : List Str := ["extra", "found", "node", "more"]
theorem c_least_overdrawn : FnScope n_least_overdrawn ["extra"] (defScope s_least_overdrawn) := ⟨rfl, rfl, rfl, by decide +kernel, rfl, by decide +kernel, by decide +kernel⟩
abbrev s_leading : Stmt := top 29
abbrev n_leading : List Str := ["choices", "end", "found", "read", "there", "node", "exits"]
theorem c_leading : FnScope n_leading ["choices", "end"] (defScope s_leading) := ⟨rfl, rfl, rfl, by decide +kernel, rfl, by decide +kernel, by decide +kernel⟩
abbrev s_stranded : Stmt := top 30
abbrev n_stranded : List Str := ["choices", "end", "fine", "node", "exits"]
theorem c_stranded : FnScope n_stranded ["choices", "end"] (defScope s_stranded) := ⟨rfl, rfl, rfl, by decide +kernel, rfl, by decide +kernel, by decide +kernel⟩
abbrev s_last_entries : Stmt := top 31
abbrev n_last_entries : List Str := ["log", "page"]
theorem c_last_entries : FnScope n_last_entries ["log"] (defScope s_last_entries) := ⟨rfl, rfl, rfl, by decide +kernel, rfl, by decide +kernel, by decide +kernel⟩
abbrev s_reading : Stmt := top 52
abbrev n_reading : List Str := ["log", "start", "trace", "read", "here"]
theorem c_reading : FnScope n_reading ["log", "start"] (defScope s_reading) := ⟨rfl, rfl, rfl, by decide +kernel, rfl, by decide +kernel, by decide +kernel⟩
abbrev s_verdict : Stmt := top 55
abbrev n_verdict : List Str := ["log", "start", "extra", "node", "nodes"]
theorem c_verdict : FnScope n_verdict ["log", "start"] (defScope s_verdict) := ⟨rfl, rfl, rfl, by decide +kernel, rfl, by decide +kernel, by decide +kernel⟩
abbrev s_Recorder__trace : Stmt := clsFn (top 49) 4
abbrev n_Recorder__trace : List Str := ["self"]
theorem c_Recorder__trace : FnScope n_Recorder__trace ["self"] (defScope s_Recorder__trace) := ⟨rfl, rfl, rfl, by decide +kernel, rfl, by decide +kernel, by decide +kernel⟩
abbrev s_explained : Stmt := top 58
abbrev n_explained : List Str := ["recorder", "log", "word", "value", "head", "loose", "tail"]
theorem c_explained : FnScope n_explained ["recorder"] (defScope s_explained) := ⟨rfl, rfl, rfl, by decide +kernel, rfl, by decide +kernel, by decide +kernel⟩
abbrev s_Recorder__current : Stmt := clsFn (top 49) 6
abbrev n_Recorder__current : List Str := ["self"]
theorem c_Recorder__current : FnScope n_Recorder__current ["self"] (defScope s_Recorder__current) := ⟨rfl, rfl, rfl, by decide +kernel, rfl, by decide +kernel, by decide +kernel⟩
abbrev s_determinant : Stmt := top 42
abbrev n_determinant : List Str := ["matrix", "rows", "sign", "before", "at", "pivots", "row", "factor", "place"]
theorem c_determinant : FnScope n_determinant ["matrix"] (defScope s_determinant) := ⟨rfl, rfl, rfl, by decide +kernel, rfl, by decide +kernel, by decide +kernel⟩
abbrev s_all_entries : Stmt := top 25
abbrev n_all_entries : List Str := ["page", "head", "loose", "tail"]
theorem c_all_entries : FnScope n_all_entries ["page"] (defScope s_all_entries) := ⟨rfl, rfl, rfl, by decide +kernel, rfl, by decide +kernel, by decide +kernel⟩
abbrev s_extra_in : Stmt := top 37
abbrev n_extra_in : List Str := ["partial", "start", "pages", "counts", "page", "node"]
theorem c_extra_in : FnScope n_extra_in ["partial", "start"] (defScope s_extra_in) := ⟨rfl, rfl, rfl, by decide +kernel, rfl, by decide +kernel, by decide +kernel⟩
abbrev s_possible_exits : Stmt := top 35
abbrev n_possible_exits : List Str := ["page", "head", "loose", "tail", "node"]
theorem c_possible_exits : FnScope n_possible_exits ["page"] (defScope s_possible_exits) := ⟨rfl, rfl, rfl, by decide +kernel, rfl, by decide +kernel, by decide +kernel⟩
abbrev s_choices_of : Stmt := top 36
abbrev n_choices_of : List Str := ["partial", "page"]
theorem c_choices_of : FnScope n_choices_of ["partial"] (defScope s_choices_of) := ⟨rfl, rfl, rfl, by decide +kernel, rfl, by decide +kernel, by decide +kernel⟩
abbrev s_is_feasible : Stmt := top 38
abbrev n_is_feasible : List Str := ["partial", "start", "extra"]
theorem c_is_feasible : FnScope n_is_feasible ["partial", "start"] (defScope s_is_feasible) := ⟨rfl, rfl, rfl, by decide +kernel, rfl, by decide +kernel, by decide +kernel⟩
abbrev s_shares : Stmt := top 41
abbrev n_shares : List Str := ["page", "loose", "exits", "node"]
theorem c_shares : FnScope n_shares ["page"] (defScope s_shares) := ⟨rfl, rfl, rfl, by decide +kernel, rfl, by decide +kernel, by decide +kernel⟩
abbrev s_tree_matrix : Stmt := top 43
abbrev n_tree_matrix : List Str := ["partial", "nodes", "rows", "node", "pairs", "whole", "weights", "there"]
theorem c_tree_matrix : FnScope n_tree_matrix ["partial", "nodes"] (defScope s_tree_matrix) := ⟨rfl, rfl, rfl, by decide +kernel, rfl, by decide +kernel, by decide +kernel⟩
abbrev s_factorial : Stmt := top 39
abbrev n_factorial : List Str := ["many", "found", "factor"]
theorem c_factorial : FnScope n_factorial ["many"] (defScope s_factorial) := ⟨rfl, rfl, rfl, by decide +kernel, rfl, by decide +kernel, by decide +kernel⟩
abbrev s_orders : Stmt := top 40
abbrev n_orders : List Str := ["loose", "found", "node"]
theorem c_orders : FnScope n_orders ["loose"] (defScope s_orders) := ⟨rfl, rfl, rfl, by decide +kernel, rfl, by decide +kernel, by decide +kernel⟩
abbrev s_number_of_fillings : Stmt := top 44
abbrev n_number_of_fillings : List Str := ["partial", "start", "end", "nodes", "found", "page", "node"]
theorem c_number_of_fillings : FnScope n_number_of_fillings ["partial", "start"] (defScope s_number_of_fillings) := ⟨rfl, rfl, rfl, by decide +kernel, rfl, by decide +kernel, by decide +kernel⟩
abbrev s_Recorder__count : Stmt := clsFn (top 49) 7
abbrev n_Recorder__count : List Str := ["self"]
theorem c_Recorder__count : FnScope n_Recorder__count ["self"] (defScope s_Recorder__count) := ⟨rfl, rfl, rfl, by decide +kernel, rfl, by decide +kernel, by decide +kernel⟩
abbrev s_query : Stmt := top 60
abbrev n_query : List Str := ["recorder", "word", "numbers"]
theorem c_query : FnScope n_query ["recorder", "word", "numbers"] (defScope s_query) := ⟨rfl, rfl, rfl, by decide +kernel, rfl, by decide +kernel, by decide +kernel⟩
abbrev s_with_page : Stmt := top 26
abbrev n_with_page : List Str := ["partial", "node", "page", "at", "each"]
theorem c_with_page : FnScope n_with_page ["partial", "node", "page"] (defScope s_with_page) := ⟨rfl, rfl, rfl, by decide +kernel, rfl, by decide +kernel, by decide +kernel⟩
abbrev s_copied : Stmt := top 24
abbrev n_copied : List Str := ["partial", "head", "loose", "tail"]
theorem c_copied : FnScope n_copied ["partial"] (defScope s_copied) := ⟨rfl, rfl, rfl, by decide +kernel, rfl, by decide +kernel, by decide +kernel⟩
abbrev s_forgotten : Stmt := top 27
abbrev n_forgotten : List Str := ["partial", "node"]
theorem c_forgotten : FnScope n_forgotten ["partial", "node"] (defScope s_forgotten) := ⟨rfl, rfl, rfl, by decide +kernel, rfl, by decide +kernel, by decide +kernel⟩
abbrev s_Recorder__forget : Stmt := clsFn (top 49) 13
abbrev n_Recorder__forget : List Str := ["self", "node"]
theorem c_Recorder__forget : FnScope n_Recorder__forget ["self", "node"] (defScope s_Recorder__forget) := ⟨rfl, rfl, rfl, by decide +kernel, rfl, by decide +kernel, by decide +kernel⟩
abbrev s_Recorder__undo : Stmt := clsFn (top 49) 15
abbrev n_Recorder__undo : List Str := ["self", "is_undone"]
theorem c_Recorder__undo : FnScope n_Recorder__undo ["self"] (defScope s_Recorder__undo) := ⟨rfl, rfl, rfl, by decide +kernel, rfl, by decide +kernel, by decide +kernel⟩
abbrev s_moved : Stmt := top 50
abbrev n_moved : List Str := ["state", "node", "trace", "partial", "head", "loose", "tail", "page"]
theorem c_moved : FnScope n_moved ["state", "node"] (defScope s_moved) := ⟨rfl, rfl, rfl, by decide +kernel, rfl, by decide +kernel, by decide +kernel⟩
abbrev s_Recorder__step : Stmt := clsFn (top 49) 11
abbrev n_Recorder__step : List Str := ["self", "node", "visits"]
theorem c_Recorder__step : FnScope n_Recorder__step ["self", "node"] (defScope s_Recorder__step) := ⟨rfl, rfl, rfl, by decide +kernel, rfl, by decide +kernel, by decide +kernel⟩
abbrev s_Recorder__walk : Stmt := clsFn (top 49) 12
abbrev n_Recorder__walk : List Str := ["self", "nodes", "node", "state", "found"]
theorem c_Recorder__walk : FnScope n_Recorder__walk ["self", "nodes"] (defScope s_Recorder__walk) := ⟨rfl, rfl, rfl, by decide +kernel, rfl, by decide +kernel, by decide +kernel⟩
abbrev s_Recorder__add_node : Stmt := clsFn (top 49) 14
abbrev n_Recorder__add_node : List Str := ["self", "nodes"]
theorem c_Recorder__add_node : FnScope n_Recorder__add_node ["self"] (defScope s_Recorder__add_node) := ⟨rfl, rfl, rfl, by decide +kernel, rfl, by decide +kernel, by decide +kernel⟩
abbrev s_command : Stmt := top 59
abbrev n_command : List Str := ["recorder", "word", "numbers"]
theorem c_command : FnScope n_command ["recorder", "word", "numbers"] (defScope s_command) := ⟨rfl, rfl, rfl, by decide +kernel, rfl, by decide +kernel, by decide +kernel⟩
abbrev s_answer : Stmt := top 61
abbrev n_answer : List Str := ["recorder", "word", "numbers"]
theorem c_answer : FnScope n_answer ["recorder", "word", "numbers"] (defScope s_answer) := ⟨rfl, rfl, rfl, by decide +kernel, rfl, by decide +kernel, by decide +kernel⟩
abbrev s_answers : Stmt := top 62
abbrev n_answers : List Str := ["text", "nodes", "start", "commands", "recorder", "word", "numbers"]
theorem c_answers : FnScope n_answers ["text"] (defScope s_answers) := ⟨rfl, rfl, rfl, by decide +kernel, rfl, by decide +kernel, by decide +kernel⟩
abbrev s__law_equal : Stmt := top 65
abbrev n__law_equal : List Str := ["_law_found", "_law_due", "_law_lone", "_law_mate"]
theorem c__law_equal : FnScope n__law_equal ["_law_found", "_law_due"] (defScope s__law_equal) := ⟨rfl, rfl, rfl, by decide +kernel, rfl, by decide +kernel, by decide +kernel⟩
abbrev s__law_holds : Stmt := top 66
abbrev n__law_holds : List Str := ["_law_source_here", "_law_pairs", "_law_found", "_law_lines", "_law_due", "_law_row", "_law_told"]
theorem c__law_holds : FnScope n__law_holds ["_law_source_here"] (defScope s__law_holds) := ⟨rfl, rfl, rfl, by decide +kernel, rfl, by decide +kernel, by decide +kernel⟩
abbrev s__law_source : Stmt := top 64
abbrev n__law_source : List Str := ["_law_script", "_law_index", "_law_cell"]
theorem c__law_source : FnScope n__law_source ["_law_script", "_law_index"] (defScope s__law_source) := ⟨rfl, rfl, rfl, by decide +kernel, rfl, by decide +kernel, by decide +kernel⟩
abbrev s_law : Stmt := top 67
abbrev n_law : List Str := ["_law_script", "_law_index"]
theorem c_law : FnScope n_law ["_law_script"] (defScope s_law) := ⟨rfl, rfl, rfl, by decide +kernel, rfl, by decide +kernel, by decide +kernel⟩
def exl : ExL := [("BadLine", "ValueError"), ("NoNode", "LookupError"), ("Full", "OverflowError")]
def exfs : List Str := []
abbrev si_BadLine : Stmt := clsFn (top 2) 0
theorem ci_BadLine : FnScope ["self", "line"] ["self", "line"] (defScope si_BadLine) := ⟨rfl, rfl, rfl, by decide +kernel, rfl, by decide +kernel, by decide +kernel⟩
abbrev si_Full : Stmt := clsFn (top 4) 0
theorem ci_Full : FnScope ["self", "many"] ["self", "many"] (defScope si_Full) := ⟨rfl, rfl, rfl, by decide +kernel, rfl, by decide +kernel, by decide +kernel⟩
abbrev si_NoNode : Stmt := clsFn (top 3) 0
theorem ci_NoNode : FnScope ["self", "node"] ["self", "node"] (defScope si_NoNode) := ⟨rfl, rfl, rfl, by decide +kernel, rfl, by decide +kernel, by decide +kernel⟩
structure Txt (K : PySem.W.Frag) (mg : Str → Option Value) (base : Heap) (T0 : List (Addr × Str)) : Prop where
  f_is_decimal : FunT K mg "is_decimal" s_is_decimal ["word"]
  f_is_number_word : FunT K mg "is_number_word" s_is_number_word ["word"]
  f_is_head : FunT K mg "is_head" s_is_head ["line"]
  f_is_command : FunT K mg "is_command" s_is_command ["line"]
  f_read_lines : FunT K mg "read_lines" s_read_lines ["text"]
  f_look_node : FunT K mg "look_node" s_look_node ["nodes", "node"]
  m_Recorder__init : MetT K "Recorder" "__init__" "Recorder.__init__" s_Recorder__init ["self", "nodes", "start"]
  f_words_of : FunT K mg "words_of" s_words_of ["numbers"]
  m_Recorder__partial : MetT K "Recorder" "partial" "Recorder.partial" s_Recorder__partial ["self"]
  f_page_text : FunT K mg "page_text" s_page_text ["recorder", "node"]
  f_surplus : FunT K mg "surplus" s_surplus ["left", "gone_to", "start"]
  f_entries : FunT K mg "entries" s_entries ["log", "node"]
  f_extra_of : FunT K mg "extra_of" s_extra_of ["log", "start"]
  f_least_overdrawn : FunT K mg "least_overdrawn" s_least_overdrawn ["extra"]
  f_leading : FunT K mg "leading" s_leading ["choices", "end"]
  f_stranded : FunT K mg "stranded" s_stranded ["choices", "end"]
  f_last_entries : FunT K mg "last_entries" s_last_entries ["log"]
  f_reading : FunT K mg "reading" s_reading ["log", "start"]
  f_verdict : FunT K mg "verdict" s_verdict ["log", "start"]
  m_Recorder__trace : MetT K "Recorder" "trace" "Recorder.trace" s_Recorder__trace ["self"]
  f_explained : FunT K mg "explained" s_explained ["recorder"]
  m_Recorder__current : MetT K "Recorder" "current" "Recorder.current" s_Recorder__current ["self"]
  f_determinant : FunT K mg "determinant" s_determinant ["matrix"]
  f_all_entries : FunT K mg "all_entries" s_all_entries ["page"]
  f_extra_in : FunT K mg "extra_in" s_extra_in ["partial", "start"]
  f_possible_exits : FunT K mg "possible_exits" s_possible_exits ["page"]
  f_choices_of : FunT K mg "choices_of" s_choices_of ["partial"]
  f_is_feasible : FunT K mg "is_feasible" s_is_feasible ["partial", "start"]
  f_shares : FunT K mg "shares" s_shares ["page"]
  f_tree_matrix : FunT K mg "tree_matrix" s_tree_matrix ["partial", "nodes"]
  f_factorial : FunT K mg "factorial" s_factorial ["many"]
  f_orders : FunT K mg "orders" s_orders ["loose"]
  f_number_of_fillings : FunT K mg "number_of_fillings" s_number_of_fillings ["partial", "start"]
  m_Recorder__count : MetT K "Recorder" "count" "Recorder.count" s_Recorder__count ["self"]
  f_query : FunT K mg "query" s_query ["recorder", "word", "numbers"]
  f_with_page : FunT K mg "with_page" s_with_page ["partial", "node", "page"]
  f_copied : FunT K mg "copied" s_copied ["partial"]
  f_forgotten : FunT K mg "forgotten" s_forgotten ["partial", "node"]
  m_Recorder__forget : MetT K "Recorder" "forget" "Recorder.forget" s_Recorder__forget ["self", "node"]
  m_Recorder__undo : MetT K "Recorder" "undo" "Recorder.undo" s_Recorder__undo ["self"]
  f_moved : FunT K mg "moved" s_moved ["state", "node"]
  m_Recorder__step : MetT K "Recorder" "step" "Recorder.step" s_Recorder__step ["self", "node"]
  m_Recorder__walk : MetT K "Recorder" "walk" "Recorder.walk" s_Recorder__walk ["self", "nodes"]
  m_Recorder__add_node : MetT K "Recorder" "add_node" "Recorder.add_node" s_Recorder__add_node ["self"]
  f_command : FunT K mg "command" s_command ["recorder", "word", "numbers"]
  f_answer : FunT K mg "answer" s_answer ["recorder", "word", "numbers"]
  f_answers : FunT K mg "answers" s_answers ["text"]
  f__law_equal : FunT K mg "_law_equal" s__law_equal ["_law_found", "_law_due"]
  f__law_holds : FunT K mg "_law_holds" s__law_holds ["_law_source_here"]
  f__law_source : FunT K mg "_law_source" s__law_source ["_law_script", "_law_index"]
  b_LookupError : mg "LookupError" = none
  b_OverflowError : mg "OverflowError" = none
  b_ValueError : mg "ValueError" = none
  b_abs : mg "abs" = none
  b_all : mg "all" = none
  b_bool : mg "bool" = none
  b_dict : mg "dict" = none
  b_enumerate : mg "enumerate" = none
  b_int : mg "int" = none
  b_isinstance : mg "isinstance" = none
  b_len : mg "len" = none
  b_list : mg "list" = none
  b_max : mg "max" = none
  b_min : mg "min" = none
  b_range : mg "range" = none
  b_sorted : mg "sorted" = none
  b_str : mg "str" = none
  b_sum : mg "sum" = none
  b_tuple : mg "tuple" = none
  b_zip : mg "zip" = none
  e_BadLine : ErT K mg "BadLine" "BadLine.__init__" "ValueError" "ValueError.__new__" "ValueError.__init__" bmV "line" "line" si_BadLine
  e_Full : ErT K mg "Full" "Full.__init__" "OverflowError" "OverflowError.__new__" "OverflowError.__init__" bmO "many" "many" si_Full
  e_NoNode : ErT K mg "NoNode" "NoNode.__init__" "LookupError" "LookupError.__new__" "LookupError.__init__" bmL "node" "node" si_NoNode
  x_ok : ExTab K mg exl exfs
  k_MOST_DIGITS : ∃ t, mg "MOST_DIGITS" = some (.int 3 t)
  k_MOST_NODES_deskrows : ∃ t, mg "MOST_NODES_deskrows" = some (.int 10 t)
  k_MOST_NODES_recorder : ∃ t, mg "MOST_NODES_recorder" = some (.int 10 t)
  ks_BEGIN : ∃ t, mg "BEGIN" = some (.str "begin" t)
  ks_EMPTY : ∃ t, mg "EMPTY" = some (.str "-" t)
  ks_END : ∃ t, mg "END" = some (.str "end" t)
  ks_NEWLINE : ∃ t, mg "NEWLINE" = some (.str "\n" t)
  ks_SPACE : ∃ t, mg "SPACE" = some (.str " " t)
  kt_ALONE : KTupT K mg "ALONE" (["add", "undo", "trace", "current", "count", "verdict"] : List Str)
  kt_ONE_NODE : KTupT K mg "ONE_NODE" (["step", "forget", "page"] : List Str)
  na_own_journal : NoAt K "Recorder" "own_journal"
  na_own_states : NoAt K "Recorder" "own_states"
  mk_Recorder : MakT K mg "Recorder"
section
variable [LT] {P : Program} {w : World} {K : PySem.W.Frag} {mg : Str → Option Value} {base : Heap} {T0 : List (Addr × Str)}
theorem r_BadLine (T : Txt K mg base T0) : RaiseF P w K mg base "BadLine" "line" := raise_ok T.e_BadLine erB_V ci_BadLine T.b_ValueError rfl (by kernel_rfl) (fun _ => rfl) (fun _ => rfl) (fun _ => ⟨_, rfl⟩) (by decide) (by decide)
theorem r_Full (T : Txt K mg base T0) : RaiseF P w K mg base "Full" "many" := raise_ok T.e_Full erB_O ci_Full T.b_OverflowError rfl (by kernel_rfl) (fun _ => rfl) (fun _ => rfl) (fun _ => ⟨_, rfl⟩) (by decide) (by decide)
theorem r_NoNode (T : Txt K mg base T0) : RaiseF P w K mg base "NoNode" "node" := raise_ok T.e_NoNode erB_L ci_NoNode T.b_LookupError rfl (by kernel_rfl) (fun _ => rfl) (fun _ => rfl) (fun _ => ⟨_, rfl⟩) (by decide) (by decide)
theorem o_is_decimal (T : Txt K mg base T0) (hT : LT.T = T0) : OwnP P w K mg base "is_decimal" 1 ["word"] d_is_decimal := own_ok T.f_is_decimal c_is_decimal fun f cdv A outer s H E hr tk hp => (show JSs _ _ _ m_is_decimal from (jss_cons (js_if (jt_bool (jw_or (jt_cmpV (cv_eq hr) rfl (je_var (i := 0) rfl (.inl (by kernel_rfl)) rfl rfl) je_str) (jw_or1 (jt_not (jt_val (je_blt (bv_all rfl) T.b_all (gl_of (by kernel_rfl)) (ja_cons rfl (JF.frz (jf_lc rfl c_is_decimal.nd (ji_src (je_var (i := 0) rfl (.inl (by kernel_rfl)) rfl rfl)) (blkOk_by (own := [("sign", 1)]) (by kernel_rfl)) (fun _ _ _ _ _ => (jg_name (i := 1) c_is_decimal.nd rfl (.inl (by kernel_rfl)) (.inr (by kernel_rfl)))) (fun _ _ _ _ _ => jts_nil) (fun _ _ _ _ _ => (je_cmpV (cv_in (by exact hr)) rfl (je_var (i := 1) rfl (.inl (by kernel_rfl)) rfl rfl) je_str)) (fun _ => rfl) (by decide))) ja_nil) rfl rfl) fun _ => rfl))))) (jss_cons (js_ret je_bl) jss_nil) jss_nil) (jss_cons (js_ret (je_or (je_cmpV (cv_eq hr) rfl (je_var (i := 0) rfl (.inl (by kernel_rfl)) rfl rfl) je_str) (je_one (je_cmpV (cv_ne hr) rfl (je_ixA (fun _ _ => rfl) (je_var (i := 0) rfl (.inl (by kernel_rfl)) rfl rfl) je_int) je_str)))) jss_nil)))
theorem o_is_number_word (T : Txt K mg base T0) (hT : LT.T = T0) : OwnP P w K mg base "is_number_word" 2 ["word"] d_is_number_word := own_ok T.f_is_number_word c_is_number_word fun f cdv A outer s H E hr tk hp => (show JSs _ _ _ m_is_number_word from (jss_cons (js_ret (je_and (je_own (o_is_decimal T hT) hr (by decide) tk (gl_of (by kernel_rfl)) (ja_cons rfl (je_var (i := 0) rfl (.inl (by kernel_rfl)) rfl rfl) ja_nil) (consA_len nilA_len) (by decide) rfl rfl) (je_one (je_cmpV cv_le rfl (je_blt bv_len T.b_len (gl_of (by kernel_rfl)) (ja_cons rfl (je_var (i := 0) rfl (.inl (by kernel_rfl)) rfl rfl) ja_nil) rfl rfl) (je_kInt (gl_of (by kernel_rfl)) T.k_MOST_DIGITS (by decide)))))) jss_nil))
def m_is_head : Rho → Sto → RS := (seqS (asgS (mthM tb_split (varM 0) (consA (conM (.str " ")) nilA)) (.nm 1)) (seqS (ifS (orB (toB (bi (appM (consA (varM 1) nilA) lenM) (appM (consA (tupM (consA (conM (.str "record")) (consA (conM (.str "NODES")) (consA (conM (.str "START")) nilA)))) nilA) lenM) (lift2 neD))) (toB (bi (bi (varM 1) (conM (.int 0)) ixA) (conM (.str "record")) (lift2 neD)))) (seqS (retS (conM (.bool false))) skipS) skipS) (seqS (ifS (orB (notB (toB (callM d_is_number_word (consA (bi (varM 1) (conM (.int 1)) ixA) nilA)))) (notB (toB (callM d_is_number_word (consA (bi (varM 1) (conM (.int 2)) ixA) nilA))))) (seqS (retS (conM (.bool false))) skipS) skipS) (seqS (retS (andM (chainM (conM (.int 1)) (appM (consA (bi (varM 1) (conM (.int 1)) ixA) nilA) (on1 intD)) (conM (.int 10)) (lift2 leD) (lift2 leD)) (bi (appM (consA (bi (varM 1) (conM (.int 2)) ixA) nilA) (on1 intD)) (appM (consA (bi (varM 1) (conM (.int 1)) ixA) nilA) (on1 intD)) (lift2 ltD)))) skipS))))
def d_is_head : FV := bodyF 2 m_is_head
theorem o_is_head (T : Txt K mg base T0) (hT : LT.T = T0) : OwnP P w K mg base "is_head" 3 ["line"] d_is_head := own_ok T.f_is_head c_is_head fun f cdv A outer s H E hr tk hp => (show JSs _ _ _ m_is_head from (jss_cons (js_asg (je_mth tk_split (je_var (i := 0) rfl (.inl (by kernel_rfl)) rfl rfl) (ja_cons rfl (je_kStr (gl_of (by kernel_rfl)) T.ks_SPACE (by decide)) ja_nil) rfl rfl rfl rfl rfl) (jg_name (i := 1) c_is_head.nd rfl (.inl (by kernel_rfl)) (.inl rfl)) (by kernel_rfl) (by kernel_rfl) rfl) (jss_cons (js_if (jt_bool (jw_or (jt_cmpV (cv_ne hr) rfl (je_blt bv_len T.b_len (gl_of (by kernel_rfl)) (ja_cons rfl (je_var (i := 1) rfl (.inl (by kernel_rfl)) rfl rfl) ja_nil) rfl rfl) (je_blt bv_len T.b_len (gl_of (by kernel_rfl)) (ja_cons rfl (je_tup (ja_cons rfl je_str (ja_cons rfl je_str (ja_cons rfl je_str ja_nil)))) ja_nil) rfl rfl)) (jw_or1 (jt_cmpV (cv_ne hr) rfl (je_ixA (fun _ _ => rfl) (je_var (i := 1) rfl (.inl (by kernel_rfl)) rfl rfl) je_int) je_str)))) (jss_cons (js_ret je_bl) jss_nil) jss_nil) (jss_cons (js_if (jt_bool (jw_or (jt_not (jt_val (je_own (o_is_number_word T hT) hr (by decide) tk (gl_of (by kernel_rfl)) (ja_cons rfl (je_ixA (fun _ _ => rfl) (je_var (i := 1) rfl (.inl (by kernel_rfl)) rfl rfl) je_int) ja_nil) (consA_len nilA_len) (by decide) rfl rfl) fun _ => rfl)) (jw_or1 (jt_not (jt_val (je_own (o_is_number_word T hT) hr (by decide) tk (gl_of (by kernel_rfl)) (ja_cons rfl (je_ixA (fun _ _ => rfl) (je_var (i := 1) rfl (.inl (by kernel_rfl)) rfl rfl) je_int) ja_nil) (consA_len nilA_len) (by decide) rfl rfl) fun _ => rfl))))) (jss_cons (js_ret je_bl) jss_nil) jss_nil) (jss_cons (js_ret (je_and (je_chainV cv_le cv_le rfl je_int (je_blt bv_int T.b_int (gl_of (by kernel_rfl)) (ja_cons rfl (je_ixA (fun _ _ => rfl) (je_var (i := 1) rfl (.inl (by kernel_rfl)) rfl rfl) je_int) ja_nil) rfl rfl) (je_kInt (gl_of (by kernel_rfl)) T.k_MOST_NODES_deskrows (by decide))) (je_one (je_cmpV cv_lt rfl (je_blt bv_int T.b_int (gl_of (by kernel_rfl)) (ja_cons rfl (je_ixA (fun _ _ => rfl) (je_var (i := 1) rfl (.inl (by kernel_rfl)) rfl rfl) je_int) ja_nil) rfl rfl) (je_blt bv_int T.b_int (gl_of (by kernel_rfl)) (ja_cons rfl (je_ixA (fun _ _ => rfl) (je_var (i := 1) rfl (.inl (by kernel_rfl)) rfl rfl) je_int) ja_nil) rfl rfl))))) jss_nil)))))
def m_is_command : Rho → Sto → RS := (seqS (starS (mthM tb_split (varM 0) (consA (conM (.str " ")) nilA)) 1 2) (seqS (ifS (notB (toB (appM (consA (frzM (compM (srcM (varM 2)) (.nm 3) ([("number", 3)].map (·.2)) tYesM (callM d_is_number_word (consA (varM 3) nilA)))) nilA) (on1 allD)))) (seqS (retS (conM (.bool false))) skipS) skipS) (seqS (ifS (toB (bi (varM 1) (conP ((["step", "forget", "page"] : List Str).map PyData.str)) inPV)) (seqS (retS (bi (appM (consA (varM 2) nilA) lenM) (conM (.int 1)) (lift2 eqD))) skipS) skipS) (seqS (retS (iteM (toB (bi (varM 1) (conM (.str "walk")) (lift2 eqD))) (bi (appM (consA (varM 2) nilA) lenM) (conM (.int 0)) (lift2 gtD)) (andM (bi (varM 1) (conP ((["add", "undo", "trace", "current", "count", "verdict"] : List Str).map PyData.str)) inPV) (bi (varM 2) (frzM (lstM nilA)) (lift2 eqD))))) skipS))))
def d_is_command : FV := bodyF 4 m_is_command
theorem o_is_command (T : Txt K mg base T0) (hT : LT.T = T0) : OwnP P w K mg base "is_command" 3 ["line"] d_is_command := own_ok T.f_is_command c_is_command fun f cdv A outer s H E hr tk hp => (show JSs _ _ _ m_is_command from (jss_cons (js_star (i := 1) (j := 2) rfl c_is_command.nd rfl rfl (.inl (by kernel_rfl)) (.inl (by kernel_rfl)) (.inl rfl) (.inl rfl) rfl rfl rfl rfl (je_mth tk_split (je_var (i := 0) rfl (.inl (by kernel_rfl)) rfl rfl) (ja_cons rfl (je_kStr (gl_of (by kernel_rfl)) T.ks_SPACE (by decide)) ja_nil) rfl rfl rfl rfl rfl) (by kernel_rfl) (by kernel_rfl) rfl) (jss_cons (js_if (jt_not (jt_val (je_blt (bv_all rfl) T.b_all (gl_of (by kernel_rfl)) (ja_cons rfl (JF.frz (jf_lc rfl c_is_command.nd (ji_src (je_var (i := 2) rfl (.inl (by kernel_rfl)) rfl rfl)) (blkOk_by (own := [("number", 3)]) (by kernel_rfl)) (fun _ _ _ _ _ => (jg_name (i := 3) c_is_command.nd rfl (.inl (by kernel_rfl)) (.inr (by kernel_rfl)))) (fun _ _ _ _ _ => jts_nil) (fun _ _ _ _ _ => (je_own (o_is_number_word T hT) (by exact hr) (by decide) takes0 (gl_of (by kernel_rfl)) (ja_cons rfl (je_var (i := 3) rfl (.inl (by kernel_rfl)) rfl rfl) ja_nil) (consA_len nilA_len) (by decide) rfl rfl)) (fun _ => rfl) (by decide))) ja_nil) rfl rfl) fun _ => rfl)) (jss_cons (js_ret je_bl) jss_nil) jss_nil) (jss_cons (js_if (jt_cmpV cv_inP rfl (je_var (i := 1) rfl (.inl (by kernel_rfl)) rfl rfl) (je_kTup (gl_of (by kernel_rfl)) T.kt_ONE_NODE (by decide))) (jss_cons (js_ret (je_cmpV (cv_eq hr) rfl (je_blt bv_len T.b_len (gl_of (by kernel_rfl)) (ja_cons rfl (je_var (i := 2) rfl (.inl (by kernel_rfl)) rfl rfl) ja_nil) rfl rfl) je_int)) jss_nil) jss_nil) (jss_cons (js_ret (je_ite (jt_cmpV (cv_eq hr) rfl (je_var (i := 1) rfl (.inl (by kernel_rfl)) rfl rfl) je_str) (je_cmpV cv_gt rfl (je_blt bv_len T.b_len (gl_of (by kernel_rfl)) (ja_cons rfl (je_var (i := 2) rfl (.inl (by kernel_rfl)) rfl rfl) ja_nil) rfl rfl) je_int) (je_and (je_cmpV cv_inP rfl (je_var (i := 1) rfl (.inl (by kernel_rfl)) rfl rfl) (je_kTup (gl_of (by kernel_rfl)) T.kt_ALONE (by decide))) (je_one (je_cmpV (cv_eq hr) rfl (je_var (i := 2) rfl (.inl (by kernel_rfl)) rfl rfl) (JF.frz (jf_lst ja_nil))))))) jss_nil)))))
def m_read_lines : Rho → Sto → RS := (seqS (asgS (mthM tb_split (varM 0) (consA (conM (.str "\n")) nilA)) (.nm 1)) (seqS (forS (argI enumI (consA (varM 1) nilA)) (.tp (.cons (.nm 2) (.cons (.nm 3) .nil))) (seqS (ifS (notB (iteB (toB (bi (varM 2) (conM (.int 0)) (lift2 eqD))) (toB (callM d_is_head (consA (varM 3) nilA))) (toB (callM d_is_command (consA (varM 3) nilA))))) (seqS (raiseS "BadLine" "line" (varM 2)) skipS) skipS) skipS)) (seqS (asgS (frzM (compM (srcM (varM 1)) (.nm 3) ([("line", 3)].map (·.2)) tYesM (mthM tb_split (varM 3) (consA (conM (.str " ")) nilA)))) (.nm 4)) (seqS (asgS (frzM (compM (srcM (sliceM (varM 4) (atO (conM (.int 1))) noO)) (.nm 6) ([("row", 6)].map (·.2)) tYesM (tupM (consA (bi (varM 6) (conM (.int 0)) ixA) (consA (frzM (compM (srcM (sliceM (varM 6) (atO (conM (.int 1))) noO)) (.nm 7) ([("number", 7)].map (·.2)) tYesM (appM (consA (varM 7) nilA) (on1 intD)))) nilA))))) (.nm 5)) (seqS (retS (tupM (consA (appM (consA (bi (bi (varM 4) (conM (.int 0)) ixA) (conM (.int 1)) ixA) nilA) (on1 intD)) (consA (appM (consA (bi (bi (varM 4) (conM (.int 0)) ixA) (conM (.int 2)) ixA) nilA) (on1 intD)) (consA (varM 5) nilA))))) skipS)))))
def d_read_lines : FV := bodyF 8 m_read_lines
theorem o_read_lines (T : Txt K mg base T0) (hT : LT.T = T0) : OwnP P w K mg base "read_lines" 4 ["text"] d_read_lines := own_ok T.f_read_lines c_read_lines fun f cdv A outer s H E hr tk hp => (show JSs _ _ _ m_read_lines from (jss_cons (js_asg (je_mth tk_split (je_var (i := 0) rfl (.inl (by kernel_rfl)) rfl rfl) (ja_cons rfl (je_kStr (gl_of (by kernel_rfl)) T.ks_NEWLINE (by decide)) ja_nil) rfl rfl rfl rfl rfl) (jg_name (i := 1) c_read_lines.nd rfl (.inl (by kernel_rfl)) (.inl rfl)) (by kernel_rfl) (by kernel_rfl) rfl) (jss_cons (js_for hp rfl (ji_enum (gl_of (by kernel_rfl)) T.b_enumerate (ja_cons rfl (je_var (i := 1) rfl (.inl (by kernel_rfl)) rfl rfl) ja_nil) rfl) (jg_tup rfl (jgs_cons (jg_name (i := 2) c_read_lines.nd rfl (.inl (by kernel_rfl)) (.inl rfl)) (jgs_cons (jg_name (i := 3) c_read_lines.nd rfl (.inl (by kernel_rfl)) (.inl rfl)) jgs_nil rfl) rfl) rfl rfl) (jss_cons (js_if (jt_not (jt_ite (jt_cmpV (cv_eq hr) rfl (je_var (i := 2) rfl (.inl (by kernel_rfl)) rfl rfl) je_int) (jt_val (je_own (o_is_head T hT) hr (by decide) tk (gl_of (by kernel_rfl)) (ja_cons rfl (je_var (i := 3) rfl (.inl (by kernel_rfl)) rfl rfl) ja_nil) (consA_len nilA_len) (by decide) rfl rfl) fun _ => rfl) (jt_val (je_own (o_is_command T hT) hr (by decide) tk (gl_of (by kernel_rfl)) (ja_cons rfl (je_var (i := 3) rfl (.inl (by kernel_rfl)) rfl rfl) ja_nil) (consA_len nilA_len) (by decide) rfl rfl) fun _ => rfl))) (jss_cons (js_raiseF (r_BadLine T) (hr.mono (by decide)) rfl tk (gl_of (by kernel_rfl)) (je_var (i := 2) rfl (.inl (by kernel_rfl)) rfl rfl) rfl rfl (by decide)) jss_nil) jss_nil) jss_nil) fun _ => rfl) (jss_cons (js_lcF rfl c_read_lines.nd rfl (by kernel_rfl) (by kernel_rfl) (ji_src (je_var (i := 1) rfl (.inl (by kernel_rfl)) rfl rfl)) (blkOk_by (own := [("line", 3)]) (by kernel_rfl)) (fun _ _ _ _ _ => (jg_name (i := 3) c_read_lines.nd rfl (.inl (by kernel_rfl)) (.inr (by kernel_rfl)))) (fun _ _ _ _ _ => jts_nil) (fun _ _ _ _ _ => (je_mth tk_split (je_var (i := 3) rfl (.inl (by kernel_rfl)) rfl rfl) (ja_cons rfl (je_kStr (gl_of (by kernel_rfl)) T.ks_SPACE (by decide)) ja_nil) rfl rfl rfl rfl rfl)) (fun _ => rfl) (by decide)) (jss_cons (js_lcF rfl c_read_lines.nd rfl (by kernel_rfl) (by kernel_rfl) (ji_src (je_slice (je_var (i := 4) rfl (.inl (by kernel_rfl)) rfl rfl) (jo_some je_int) jo_none)) (blkOk_by (own := [("row", 6)]) (by kernel_rfl)) (fun _ _ _ _ _ => (jg_name (i := 6) c_read_lines.nd rfl (.inl (by kernel_rfl)) (.inr (by kernel_rfl)))) (fun _ _ _ _ _ => jts_nil) (fun _ _ _ _ _ => (je_tup (ja_cons rfl (je_ixA (fun _ _ => rfl) (je_var (i := 6) rfl (.inl (by kernel_rfl)) rfl rfl) je_int) (ja_cons rfl (JF.frz (jf_lc rfl c_read_lines.nd (ji_src (je_slice (je_var (i := 6) rfl (.inl (by kernel_rfl)) rfl rfl) (jo_some je_int) jo_none)) (blkOk_by (own := [("number", 7)]) (by kernel_rfl)) (fun _ _ _ _ _ => (jg_name (i := 7) c_read_lines.nd rfl (.inl (by kernel_rfl)) (.inr (by kernel_rfl)))) (fun _ _ _ _ _ => jts_nil) (fun _ _ _ _ _ => (je_blt bv_int T.b_int (gl_of (by kernel_rfl)) (ja_cons rfl (je_var (i := 7) rfl (.inl (by kernel_rfl)) rfl rfl) ja_nil) rfl rfl)) (fun _ => rfl) (by decide))) ja_nil)))) (fun _ => rfl) (by decide)) (jss_cons (js_ret (je_tup (ja_cons rfl (je_blt bv_int T.b_int (gl_of (by kernel_rfl)) (ja_cons rfl (je_ixA (fun _ _ => rfl) (je_ixA (fun _ _ => rfl) (je_var (i := 4) rfl (.inl (by kernel_rfl)) rfl rfl) je_int) je_int) ja_nil) rfl rfl) (ja_cons rfl (je_blt bv_int T.b_int (gl_of (by kernel_rfl)) (ja_cons rfl (je_ixA (fun _ _ => rfl) (je_ixA (fun _ _ => rfl) (je_var (i := 4) rfl (.inl (by kernel_rfl)) rfl rfl) je_int) je_int) ja_nil) rfl rfl) (ja_cons rfl (je_var (i := 5) rfl (.inl (by kernel_rfl)) rfl rfl) ja_nil))))) jss_nil))))))
theorem o_look_node (T : Txt K mg base T0) (hT : LT.T = T0) : OwnP P w K mg base "look_node" 3 ["nodes", "node"] d_look_node := own_ok T.f_look_node c_look_node fun f cdv A outer s H E hr tk hp => (show JSs _ _ _ m_look_node from (jss_cons (js_if (jt_not (jt_chainV cv_le cv_lt rfl je_int (je_var (i := 1) rfl (.inl (by kernel_rfl)) rfl rfl) (je_var (i := 0) rfl (.inl (by kernel_rfl)) rfl rfl))) (jss_cons (js_raiseF (r_NoNode T) (hr.mono (by decide)) rfl tk (gl_of (by kernel_rfl)) (je_var (i := 1) rfl (.inl (by kernel_rfl)) rfl rfl) rfl rfl (by decide)) jss_nil) jss_nil) jss_nil))
theorem o_Recorder__init (T : Txt K mg base T0) (hT : LT.T = T0) : MetP P w K mg base "Recorder" "__init__" 4 ["self", "nodes", "start"] d_Recorder__init := met_okU T.m_Recorder__init c_Recorder__init fun f cdv A outer s H E hr tk hp => (show JSs _ _ _ m_Recorder__init from (jss_cons (js_expr (je_own (o_look_node T hT) hr (by decide) tk (gl_of (by kernel_rfl)) (ja_cons rfl (je_var (i := 1) rfl (.inl (by kernel_rfl)) rfl rfl) (ja_cons rfl (je_var (i := 2) rfl (.inl (by kernel_rfl)) rfl rfl) ja_nil)) (consA_len (consA_len nilA_len)) (by decide) rfl rfl) rfl) (jss_cons (js_setF T.na_own_states (je_var (i := 0) rfl (.inl (by kernel_rfl)) rfl rfl) (JF.new (jf_lst (ja_cons rfl (je_tup (ja_cons rfl (je_tup (ja_cons rfl (je_var (i := 2) rfl (.inl (by kernel_rfl)) rfl rfl) ja_nil)) (ja_cons rfl (je_blt bv_tuple T.b_tuple (gl_of (by kernel_rfl)) (ja_cons rfl (JF.frz (jf_lc rfl c_Recorder__init.nd (ji_range1 (gl_of (by kernel_rfl)) T.b_range (ja_cons rfl (je_var (i := 1) rfl (.inl (by kernel_rfl)) rfl rfl) ja_nil) rfl) (blkOk_by (own := [("node", 3)]) (by kernel_rfl)) (fun _ _ _ _ _ => (jg_name (i := 3) c_Recorder__init.nd rfl (.inl (by kernel_rfl)) (.inr (by kernel_rfl)))) (fun _ _ _ _ _ => jts_nil) (fun _ _ _ _ _ => (je_tup (ja_cons rfl (je_tup ja_nil) (ja_cons rfl (je_tup ja_nil) (ja_cons rfl (je_tup ja_nil) ja_nil))))) (fun _ => rfl) (by decide))) ja_nil) rfl rfl) ja_nil))) ja_nil))) rfl) (jss_cons (js_setF T.na_own_journal (je_var (i := 0) rfl (.inl (by kernel_rfl)) rfl rfl) (JF.new (jf_lst ja_nil)) rfl) jss_nil))))
def m_words_of : Rho → Sto → RS := (seqS (retS (iteM (toB (bi (appM (consA (varM 0) nilA) lenM) (conM (.int 0)) (lift2 gtD))) (mthM tb_join (conM (.str " ")) (consA (frzM (compM (srcM (varM 0)) (.nm 1) ([("number", 1)].map (·.2)) tYesM (appM (consA (varM 1) nilA) (on1 strD)))) nilA)) (conM (.str "-")))) skipS)
def d_words_of : FV := bodyF 2 m_words_of
theorem o_words_of (T : Txt K mg base T0) (hT : LT.T = T0) : OwnP P w K mg base "words_of" 1 ["numbers"] d_words_of := own_ok T.f_words_of c_words_of fun f cdv A outer s H E hr tk hp => (show JSs _ _ _ m_words_of from (jss_cons (js_ret (je_ite (jt_cmpV cv_gt rfl (je_blt bv_len T.b_len (gl_of (by kernel_rfl)) (ja_cons rfl (je_var (i := 0) rfl (.inl (by kernel_rfl)) rfl rfl) ja_nil) rfl rfl) je_int) (je_mth tk_join (je_kStr (gl_of (by kernel_rfl)) T.ks_SPACE (by decide)) (ja_cons rfl (JF.frz (jf_lc rfl c_words_of.nd (ji_src (je_var (i := 0) rfl (.inl (by kernel_rfl)) rfl rfl)) (blkOk_by (own := [("number", 1)]) (by kernel_rfl)) (fun _ _ _ _ _ => (jg_name (i := 1) c_words_of.nd rfl (.inl (by kernel_rfl)) (.inr (by kernel_rfl)))) (fun _ _ _ _ _ => jts_nil) (fun _ _ _ _ _ => (je_blt bv_str T.b_str (gl_of (by kernel_rfl)) (ja_cons rfl (je_var (i := 1) rfl (.inl (by kernel_rfl)) rfl rfl) ja_nil) rfl rfl)) (fun _ => rfl) (by decide))) ja_nil) rfl rfl rfl rfl rfl) (je_kStr (gl_of (by kernel_rfl)) T.ks_EMPTY (by decide)))) jss_nil))
theorem o_Recorder__partial (T : Txt K mg base T0) (hT : LT.T = T0) : MetP P w K mg base "Recorder" "partial" 1 ["self"] d_Recorder__partial := met_ok T.m_Recorder__partial c_Recorder__partial fun f cdv A outer s H E hr tk hp => (show JSs _ _ _ m_Recorder__partial from (jss_cons (js_ret (je_ixA (fun _ _ => rfl) (je_ixA (fun _ _ => rfl) (je_obF T.na_own_states (je_var (i := 0) rfl (.inl (by kernel_rfl)) rfl rfl) rfl) (je_neg je_int)) je_int)) jss_nil))
def m_page_text : Rho → Sto → RS := (seqS (exprS (callM d_look_node (consA (appM (consA (metM "Recorder" "partial" d_Recorder__partial (varM 0) nilA) nilA) lenM) (consA (varM 1) nilA)))) (seqS (asgS (bi (metM "Recorder" "partial" d_Recorder__partial (varM 0) nilA) (varM 1) ixA) (.tp (.cons (.nm 2) (.cons (.nm 3) (.cons (.nm 4) .nil))))) (seqS (asgS (bi (bi (conM (.str "(")) (callM d_words_of (consA (varM 3) nilA)) (lift2 addD)) (conM (.str ")")) (lift2 addD)) (.nm 5)) (seqS (asgS (bi (bi (frzM (biF (frzM (lstM (consA (callM d_words_of (consA (varM 2) nilA)) nilA))) (appM (consA (bi (varM 2) (tupM nilA) (lift2 neD)) nilA) (on1 intD)) (lift2F repF))) (frzM (biF (frzM (lstM (consA (varM 5) nilA))) (appM (consA (bi (varM 3) (tupM nilA) (lift2 neD)) nilA) (on1 intD)) (lift2F repF))) (lift2 addD)) (frzM (biF (frzM (lstM (consA (callM d_words_of (consA (varM 4) nilA)) nilA))) (appM (consA (bi (varM 4) (tupM nilA) (lift2 neD)) nilA) (on1 intD)) (lift2F repF))) (lift2 addD)) (.nm 6)) (seqS (retS (iteM (toB (bi (varM 6) (frzM (lstM nilA)) (lift2 neD))) (mthM tb_join (conM (.str " ")) (consA (varM 6) nilA)) (callM d_words_of (consA (frzM (lstM nilA)) nilA)))) skipS)))))
def d_page_text : FV := bodyF 7 m_page_text
theorem o_page_text (T : Txt K mg base T0) (hT : LT.T = T0) : OwnP P w K mg base "page_text" 4 ["recorder", "node"] d_page_text := own_ok T.f_page_text c_page_text fun f cdv A outer s H E hr tk hp => (show JSs _ _ _ m_page_text from (jss_cons (js_expr (je_own (o_look_node T hT) hr (by decide) tk (gl_of (by kernel_rfl)) (ja_cons rfl (je_blt bv_len T.b_len (gl_of (by kernel_rfl)) (ja_cons rfl (je_met0 (o_Recorder__partial T hT) hr (by decide) tk (je_var (i := 0) rfl (.inl (by kernel_rfl)) rfl rfl) rfl rfl) ja_nil) rfl rfl) (ja_cons rfl (je_var (i := 1) rfl (.inl (by kernel_rfl)) rfl rfl) ja_nil)) (consA_len (consA_len nilA_len)) (by decide) rfl rfl) rfl) (jss_cons (js_asg (je_ixA (fun _ _ => rfl) (je_met0 (o_Recorder__partial T hT) hr (by decide) tk (je_var (i := 0) rfl (.inl (by kernel_rfl)) rfl rfl) rfl rfl) (je_var (i := 1) rfl (.inl (by kernel_rfl)) rfl rfl)) (jg_tup rfl (jgs_cons (jg_name (i := 2) c_page_text.nd rfl (.inl (by kernel_rfl)) (.inl rfl)) (jgs_cons (jg_name (i := 3) c_page_text.nd rfl (.inl (by kernel_rfl)) (.inl rfl)) (jgs_cons (jg_name (i := 4) c_page_text.nd rfl (.inl (by kernel_rfl)) (.inl rfl)) jgs_nil rfl) rfl) rfl) rfl rfl) (by kernel_rfl) (by kernel_rfl) rfl) (jss_cons (js_asg (je_add (je_add je_str (je_own (o_words_of T hT) hr (by decide) tk (gl_of (by kernel_rfl)) (ja_cons rfl (je_var (i := 3) rfl (.inl (by kernel_rfl)) rfl rfl) ja_nil) (consA_len nilA_len) (by decide) rfl rfl)) je_str) (jg_name (i := 5) c_page_text.nd rfl (.inl (by kernel_rfl)) (.inl rfl)) (by kernel_rfl) (by kernel_rfl) rfl) (jss_cons (js_asg (je_add (je_add (JF.frz (jf_rep (JF.frz (jf_lst (ja_cons rfl (je_own (o_words_of T hT) hr (by decide) tk (gl_of (by kernel_rfl)) (ja_cons rfl (je_var (i := 2) rfl (.inl (by kernel_rfl)) rfl rfl) ja_nil) (consA_len nilA_len) (by decide) rfl rfl) ja_nil))) (je_blt bv_int T.b_int (gl_of (by kernel_rfl)) (ja_cons rfl (je_cmpV (cv_ne hr) rfl (je_var (i := 2) rfl (.inl (by kernel_rfl)) rfl rfl) (je_tup ja_nil)) ja_nil) rfl rfl))) (JF.frz (jf_rep (JF.frz (jf_lst (ja_cons rfl (je_var (i := 5) rfl (.inl (by kernel_rfl)) rfl rfl) ja_nil))) (je_blt bv_int T.b_int (gl_of (by kernel_rfl)) (ja_cons rfl (je_cmpV (cv_ne hr) rfl (je_var (i := 3) rfl (.inl (by kernel_rfl)) rfl rfl) (je_tup ja_nil)) ja_nil) rfl rfl)))) (JF.frz (jf_rep (JF.frz (jf_lst (ja_cons rfl (je_own (o_words_of T hT) hr (by decide) tk (gl_of (by kernel_rfl)) (ja_cons rfl (je_var (i := 4) rfl (.inl (by kernel_rfl)) rfl rfl) ja_nil) (consA_len nilA_len) (by decide) rfl rfl) ja_nil))) (je_blt bv_int T.b_int (gl_of (by kernel_rfl)) (ja_cons rfl (je_cmpV (cv_ne hr) rfl (je_var (i := 4) rfl (.inl (by kernel_rfl)) rfl rfl) (je_tup ja_nil)) ja_nil) rfl rfl)))) (jg_name (i := 6) c_page_text.nd rfl (.inl (by kernel_rfl)) (.inl rfl)) (by kernel_rfl) (by kernel_rfl) rfl) (jss_cons (js_ret (je_ite (jt_cmpV (cv_ne hr) rfl (je_var (i := 6) rfl (.inl (by kernel_rfl)) rfl rfl) (JF.frz (jf_lst ja_nil))) (je_mth tk_join (je_kStr (gl_of (by kernel_rfl)) T.ks_SPACE (by decide)) (ja_cons rfl (je_var (i := 6) rfl (.inl (by kernel_rfl)) rfl rfl) ja_nil) rfl rfl rfl rfl rfl) (je_own (o_words_of T hT) hr (by decide) tk (gl_of (by kernel_rfl)) (ja_cons rfl (JF.frz (jf_lst ja_nil)) ja_nil) (consA_len nilA_len) (by decide) rfl rfl))) jss_nil))))))
theorem o_surplus (T : Txt K mg base T0) (hT : LT.T = T0) : OwnP P w K mg base "surplus" 1 ["left", "gone_to", "start"] d_surplus := own_ok T.f_surplus c_surplus fun f cdv A outer s H E hr tk hp => (show JSs _ _ _ m_surplus from (jss_cons (js_ret (JF.frz (jf_lc rfl c_surplus.nd (ji_range1 (gl_of (by kernel_rfl)) T.b_range (ja_cons rfl (je_blt bv_len T.b_len (gl_of (by kernel_rfl)) (ja_cons rfl (je_var (i := 0) rfl (.inr (.inl (by kernel_rfl))) rfl rfl) ja_nil) rfl rfl) ja_nil) rfl) (blkOk_by (own := [("node", 3)]) (by kernel_rfl)) (fun _ _ _ _ _ => (jg_name (i := 3) c_surplus.nd rfl (.inl (by kernel_rfl)) (.inr (by kernel_rfl)))) (fun _ _ _ _ _ => jts_nil) (fun _ _ _ _ _ => (je_sub (je_add (je_ixA (fun _ _ => rfl) (je_var (i := 1) rfl (.inr (.inl (by kernel_rfl))) rfl rfl) (je_var (i := 3) rfl (.inl (by kernel_rfl)) rfl rfl)) (je_blt bv_int T.b_int (gl_of (by kernel_rfl)) (ja_cons rfl (je_cmpV (cv_eq (by exact hr)) rfl (je_var (i := 3) rfl (.inl (by kernel_rfl)) rfl rfl) (je_var (i := 2) rfl (.inr (.inl (by kernel_rfl))) rfl rfl)) ja_nil) rfl rfl)) (je_ixA (fun _ _ => rfl) (je_var (i := 0) rfl (.inr (.inl (by kernel_rfl))) rfl rfl) (je_var (i := 3) rfl (.inl (by kernel_rfl)) rfl rfl)))) (fun _ => rfl) (by decide)))) jss_nil))
theorem o_entries (T : Txt K mg base T0) (hT : LT.T = T0) : OwnP P w K mg base "entries" 1 ["log", "node"] d_entries := own_ok T.f_entries c_entries fun f cdv A outer s H E hr tk hp => (show JSs _ _ _ m_entries from (jss_cons (js_ret (je_blt (bv_sum rfl) T.b_sum (gl_of (by kernel_rfl)) (ja_cons rfl (JF.frz (jf_lc rfl c_entries.nd (ji_src (je_var (i := 0) rfl (.inl (by kernel_rfl)) rfl rfl)) (blkOk_by (own := [("page", 2)]) (by kernel_rfl)) (fun _ _ _ _ _ => (jg_name (i := 2) c_entries.nd rfl (.inl (by kernel_rfl)) (.inr (by kernel_rfl)))) (fun _ _ _ _ _ => jts_nil) (fun _ _ _ _ _ => (je_mth (tk_count (by exact hr)) (JF.frz (jf_blt bf_list T.b_list (gl_of (by kernel_rfl)) (ja_cons rfl (je_var (i := 2) rfl (.inl (by kernel_rfl)) rfl rfl) ja_nil) rfl rfl)) (ja_cons rfl (je_var (i := 1) rfl (.inr (.inl (by kernel_rfl))) rfl rfl) ja_nil) rfl rfl rfl rfl rfl)) (fun _ => rfl) (by decide))) ja_nil) rfl rfl)) jss_nil))
theorem o_extra_of (T : Txt K mg base T0) (hT : LT.T = T0) : OwnP P w K mg base "extra_of" 2 ["log", "start"] d_extra_of := own_ok T.f_extra_of c_extra_of fun f cdv A outer s H E hr tk hp => (show JSs _ _ _ m_extra_of from (jss_cons (js_ret (je_own (o_surplus T hT) hr (by decide) tk (gl_of (by kernel_rfl)) (ja_cons rfl (JF.frz (jf_lc rfl c_extra_of.nd (ji_src (je_var (i := 0) rfl (.inr (.inl (by kernel_rfl))) rfl rfl)) (blkOk_by (own := [("page", 2)]) (by kernel_rfl)) (fun _ _ _ _ _ => (jg_name (i := 2) c_extra_of.nd rfl (.inl (by kernel_rfl)) (.inr (by kernel_rfl)))) (fun _ _ _ _ _ => jts_nil) (fun _ _ _ _ _ => (je_blt bv_len T.b_len (gl_of (by kernel_rfl)) (ja_cons rfl (je_var (i := 2) rfl (.inl (by kernel_rfl)) rfl rfl) ja_nil) rfl rfl)) (fun _ => rfl) (by decide))) (ja_cons rfl (JF.frz (jf_lc rfl c_extra_of.nd (ji_range1 (gl_of (by kernel_rfl)) T.b_range (ja_cons rfl (je_blt bv_len T.b_len (gl_of (by kernel_rfl)) (ja_cons rfl (je_var (i := 0) rfl (.inr (.inl (by kernel_rfl))) rfl rfl) ja_nil) rfl rfl) ja_nil) rfl) (blkOk_by (own := [("node", 3)]) (by kernel_rfl)) (fun _ _ _ _ _ => (jg_name (i := 3) c_extra_of.nd rfl (.inl (by kernel_rfl)) (.inr (by kernel_rfl)))) (fun _ _ _ _ _ => jts_nil) (fun _ _ _ _ _ => (je_own (o_entries T hT) (by exact hr) (by decide) takes0 (gl_of (by kernel_rfl)) (ja_cons rfl (je_var (i := 0) rfl (.inr (.inl (by kernel_rfl))) rfl rfl) (ja_cons rfl (je_var (i := 3) rfl (.inl (by kernel_rfl)) rfl rfl) ja_nil)) (consA_len (consA_len nilA_len)) (by decide) rfl rfl)) (fun _ => rfl) (by decide))) (ja_cons rfl (je_var (i := 1) rfl (.inl (by kernel_rfl)) rfl rfl) ja_nil))) (consA_len (consA_len (consA_len nilA_len))) (by decide) rfl rfl)) jss_nil))
theorem o_least_overdrawn (T : Txt K mg base T0) (hT : LT.T = T0) : OwnP P w K mg base "least_overdrawn" 1 ["extra"] d_least_overdrawn := own_ok T.f_least_overdrawn c_least_overdrawn fun f cdv A outer s H E hr tk hp => (show JSs _ _ _ m_least_overdrawn from (jss_cons (js_lcF rfl c_least_overdrawn.nd rfl (by kernel_rfl) (by kernel_rfl) (ji_enum (gl_of (by kernel_rfl)) T.b_enumerate (ja_cons rfl (je_var (i := 0) rfl (.inl (by kernel_rfl)) rfl rfl) ja_nil) rfl) (blkOk_by (own := [("node", 2), ("more", 3)]) (by kernel_rfl)) (fun _ _ _ _ _ => (jg_tup rfl (jgs_cons (jg_name (i := 2) c_least_overdrawn.nd rfl (.inl (by kernel_rfl)) (.inr (by kernel_rfl))) (jgs_cons (jg_name (i := 3) c_least_overdrawn.nd rfl (.inl (by kernel_rfl)) (.inr (by kernel_rfl))) jgs_nil rfl) rfl) rfl rfl)) (fun _ _ _ _ _ => (jts_one (jt_cmpV cv_lt rfl (je_var (i := 3) rfl (.inl (by kernel_rfl)) rfl rfl) je_int))) (fun _ _ _ _ _ => (je_var (i := 2) rfl (.inl (by kernel_rfl)) rfl rfl)) (fun _ => rfl) (by decide)) (jss_cons (js_ret (je_ite (jt_cmpV (cv_ne hr) rfl (je_var (i := 1) rfl (.inl (by kernel_rfl)) rfl rfl) (JF.frz (jf_lst ja_nil))) (je_ixA (fun _ _ => rfl) (je_var (i := 1) rfl (.inl (by kernel_rfl)) rfl rfl) je_int) je_non)) jss_nil)))
theorem o_leading (T : Txt K mg base T0) (hT : LT.T = T0) : OwnP P w K mg base "leading" 1 ["choices", "end"] d_leading := own_ok T.f_leading c_leading fun f cdv A outer s H E hr tk hp => (show JSs _ _ _ m_leading from (jss_cons (js_asg (je_tup (ja_cons rfl (JF.frz (jf_lst (ja_cons rfl (je_var (i := 1) rfl (.inl (by kernel_rfl)) rfl rfl) ja_nil))) (ja_cons rfl je_int ja_nil))) (jg_tup rfl (jgs_cons (jg_name (i := 2) c_leading.nd rfl (.inr (by kernel_rfl)) (.inl rfl)) (jgs_cons (jg_name (i := 3) c_leading.nd rfl (.inl (by kernel_rfl)) (.inl rfl)) jgs_nil rfl) rfl) rfl rfl) (by kernel_rfl) (by kernel_rfl) rfl) (jss_cons (js_while 100000 hp (jt_cmpV cv_lt rfl (je_var (i := 3) rfl (.inl (by kernel_rfl)) rfl rfl) (je_blt bv_len T.b_len (gl_of (by kernel_rfl)) (ja_cons rfl (je_var (i := 2) rfl (.inr (.inl (by kernel_rfl))) rfl rfl) ja_nil) rfl rfl)) (jss_cons (js_asg (je_ixA (fun _ _ => rfl) (je_var (i := 2) rfl (.inr (.inl (by kernel_rfl))) rfl rfl) (je_var (i := 3) rfl (.inl (by kernel_rfl)) rfl rfl)) (jg_name (i := 4) c_leading.nd rfl (.inr (by kernel_rfl)) (.inl rfl)) (by kernel_rfl) (by kernel_rfl) rfl) (jss_cons (js_asg (je_add (je_var (i := 2) rfl (.inr (.inl (by kernel_rfl))) rfl rfl) (JF.frz (jf_lc rfl c_leading.nd (ji_enum (gl_of (by kernel_rfl)) T.b_enumerate (ja_cons rfl (je_var (i := 0) rfl (.inl (by kernel_rfl)) rfl rfl) ja_nil) rfl) (blkOk_by (own := [("node", 5), ("exits", 6)]) (by kernel_rfl)) (fun _ _ _ _ _ => (jg_tup rfl (jgs_cons (jg_name (i := 5) c_leading.nd rfl (.inl (by kernel_rfl)) (.inr (by kernel_rfl))) (jgs_cons (jg_name (i := 6) c_leading.nd rfl (.inl (by kernel_rfl)) (.inr (by kernel_rfl))) jgs_nil rfl) rfl) rfl rfl)) (fun _ _ _ _ _ => (jts_one (jt_bool (jw_and (jt_cmpV (cv_in (by exact hr)) rfl (je_var (i := 4) rfl (.inr (.inl (by kernel_rfl))) rfl rfl) (je_var (i := 6) rfl (.inl (by kernel_rfl)) rfl rfl)) (jw_and1 (jt_cmpV (cv_nin (by exact hr)) rfl (je_var (i := 5) rfl (.inl (by kernel_rfl)) rfl rfl) (je_var (i := 2) rfl (.inr (.inl (by kernel_rfl))) rfl rfl))))))) (fun _ _ _ _ _ => (je_var (i := 5) rfl (.inl (by kernel_rfl)) rfl rfl)) (fun _ => rfl) (by decide)))) (jg_name (i := 2) c_leading.nd rfl (.inr (by kernel_rfl)) (.inl rfl)) (by kernel_rfl) (by kernel_rfl) rfl) (jss_cons (js_aug (k := 3) pip_add c_leading.nd rfl (.inl (by kernel_rfl)) je_int (.inl rfl)) jss_nil)))) (jss_cons (js_ret (je_var (i := 2) rfl (.inr (.inl (by kernel_rfl))) rfl rfl)) jss_nil))))
theorem o_stranded (T : Txt K mg base T0) (hT : LT.T = T0) : OwnP P w K mg base "stranded" 2 ["choices", "end"] d_stranded := own_ok T.f_stranded c_stranded fun f cdv A outer s H E hr tk hp => (show JSs _ _ _ m_stranded from (jss_cons (js_asg (je_own (o_leading T hT) hr (by decide) tk (gl_of (by kernel_rfl)) (ja_cons rfl (je_var (i := 0) rfl (.inl (by kernel_rfl)) rfl rfl) (ja_cons rfl (je_var (i := 1) rfl (.inl (by kernel_rfl)) rfl rfl) ja_nil)) (consA_len (consA_len nilA_len)) (by decide) rfl rfl) (jg_name (i := 2) c_stranded.nd rfl (.inr (by kernel_rfl)) (.inl rfl)) (by kernel_rfl) (by kernel_rfl) rfl) (jss_cons (js_ret (je_blt bv_tuple T.b_tuple (gl_of (by kernel_rfl)) (ja_cons rfl (JF.frz (jf_lc rfl c_stranded.nd (ji_enum (gl_of (by kernel_rfl)) T.b_enumerate (ja_cons rfl (je_var (i := 0) rfl (.inl (by kernel_rfl)) rfl rfl) ja_nil) rfl) (blkOk_by (own := [("node", 3), ("exits", 4)]) (by kernel_rfl)) (fun _ _ _ _ _ => (jg_tup rfl (jgs_cons (jg_name (i := 3) c_stranded.nd rfl (.inl (by kernel_rfl)) (.inr (by kernel_rfl))) (jgs_cons (jg_name (i := 4) c_stranded.nd rfl (.inl (by kernel_rfl)) (.inr (by kernel_rfl))) jgs_nil rfl) rfl) rfl rfl)) (fun _ _ _ _ _ => (jts_one (jt_bool (jw_and (jt_cmpV cv_gt rfl (je_blt bv_len T.b_len (gl_of (by kernel_rfl)) (ja_cons rfl (je_var (i := 4) rfl (.inl (by kernel_rfl)) rfl rfl) ja_nil) rfl rfl) je_int) (jw_and1 (jt_cmpV (cv_nin (by exact hr)) rfl (je_var (i := 3) rfl (.inl (by kernel_rfl)) rfl rfl) (je_var (i := 2) rfl (.inr (.inl (by kernel_rfl))) rfl rfl))))))) (fun _ _ _ _ _ => (je_var (i := 3) rfl (.inl (by kernel_rfl)) rfl rfl)) (fun _ => rfl) (by decide))) ja_nil) rfl rfl)) jss_nil)))
theorem o_last_entries (T : Txt K mg base T0) (hT : LT.T = T0) : OwnP P w K mg base "last_entries" 1 ["log"] d_last_entries := own_ok T.f_last_entries c_last_entries fun f cdv A outer s H E hr tk hp => (show JSs _ _ _ m_last_entries from (jss_cons (js_ret (JF.frz (jf_lc rfl c_last_entries.nd (ji_src (je_var (i := 0) rfl (.inl (by kernel_rfl)) rfl rfl)) (blkOk_by (own := [("page", 1)]) (by kernel_rfl)) (fun _ _ _ _ _ => (jg_name (i := 1) c_last_entries.nd rfl (.inl (by kernel_rfl)) (.inr (by kernel_rfl)))) (fun _ _ _ _ _ => jts_nil) (fun _ _ _ _ _ => (je_blt bv_tuple T.b_tuple (gl_of (by kernel_rfl)) (ja_cons rfl (je_slice (je_var (i := 1) rfl (.inl (by kernel_rfl)) rfl rfl) (jo_some (je_neg je_int)) jo_none) ja_nil) rfl rfl)) (fun _ => rfl) (by decide)))) jss_nil))
theorem o_reading (T : Txt K mg base T0) (hT : LT.T = T0) : OwnP P w K mg base "reading" 1 ["log", "start"] d_reading := own_ok T.f_reading c_reading fun f cdv A outer s H E hr tk hp => (show JSs _ _ _ m_reading from (jss_cons (js_par (i := 2) (j := 3) rfl c_reading.nd rfl rfl (by decide) (by kernel_rfl) (by kernel_rfl) (ja_cons rfl (JF.new (jf_lst (ja_cons rfl (je_var (i := 1) rfl (.inl (by kernel_rfl)) rfl rfl) ja_nil))) (ja_cons rfl (JF.new (jf_rep (JF.frz (jf_lst (ja_cons rfl je_int ja_nil))) (je_blt bv_len T.b_len (gl_of (by kernel_rfl)) (ja_cons rfl (je_var (i := 0) rfl (.inl (by kernel_rfl)) rfl rfl) ja_nil) rfl rfl))) ja_nil)) (by kernel_rfl) rfl) (jss_cons (js_while 100000 hp (jt_cmpV cv_lt rfl (je_ixA (fun _ _ => rfl) (je_var (i := 3) rfl (.inl (by kernel_rfl)) rfl rfl) (je_ixA (fun _ _ => rfl) (je_var (i := 2) rfl (.inl (by kernel_rfl)) rfl rfl) (je_neg je_int))) (je_blt bv_len T.b_len (gl_of (by kernel_rfl)) (ja_cons rfl (je_ixA (fun _ _ => rfl) (je_var (i := 0) rfl (.inl (by kernel_rfl)) rfl rfl) (je_ixA (fun _ _ => rfl) (je_var (i := 2) rfl (.inl (by kernel_rfl)) rfl rfl) (je_neg je_int))) ja_nil) rfl rfl)) (jss_cons (js_asg (je_ixA (fun _ _ => rfl) (je_var (i := 2) rfl (.inl (by kernel_rfl)) rfl rfl) (je_neg je_int)) (jg_name (i := 4) c_reading.nd rfl (.inl (by kernel_rfl)) (.inl rfl)) (by kernel_rfl) (by kernel_rfl) rfl) (jss_cons (js_expr (je_mth tk_append (je_var (i := 2) rfl (.inl (by kernel_rfl)) rfl rfl) (ja_cons rfl (je_ixA (fun _ _ => rfl) (je_ixA (fun _ _ => rfl) (je_var (i := 0) rfl (.inl (by kernel_rfl)) rfl rfl) (je_var (i := 4) rfl (.inl (by kernel_rfl)) rfl rfl)) (je_ixA (fun _ _ => rfl) (je_var (i := 3) rfl (.inl (by kernel_rfl)) rfl rfl) (je_var (i := 4) rfl (.inl (by kernel_rfl)) rfl rfl))) ja_nil) rfl rfl rfl rfl rfl) rfl) (jss_cons (js_augI pip_add (je_var (i := 3) rfl (.inl (by kernel_rfl)) rfl rfl) (je_var (i := 4) rfl (.inl (by kernel_rfl)) rfl rfl) je_int fun _ _ _ => rfl) jss_nil)))) (jss_frz (i := 3) (jss_frz (i := 2) (jss_cons (js_ret (je_tup (ja_cons rfl (je_blt bv_tuple T.b_tuple (gl_of (by kernel_rfl)) (ja_cons rfl (je_var (i := 2) rfl (.inl (by kernel_rfl)) rfl rfl) ja_nil) rfl rfl) (ja_cons rfl (je_var (i := 3) rfl (.inl (by kernel_rfl)) rfl rfl) ja_nil)))) jss_nil))))))
theorem o_verdict (T : Txt K mg base T0) (hT : LT.T = T0) : OwnP P w K mg base "verdict" 4 ["log", "start"] d_verdict := own_ok T.f_verdict c_verdict fun f cdv A outer s H E hr tk hp => (show JSs _ _ _ m_verdict from (jss_cons (js_expr (je_own (o_look_node T hT) hr (by decide) tk (gl_of (by kernel_rfl)) (ja_cons rfl (je_blt bv_len T.b_len (gl_of (by kernel_rfl)) (ja_cons rfl (je_var (i := 0) rfl (.inl (by kernel_rfl)) rfl rfl) ja_nil) rfl rfl) (ja_cons rfl (je_var (i := 1) rfl (.inl (by kernel_rfl)) rfl rfl) ja_nil)) (consA_len (consA_len nilA_len)) (by decide) rfl rfl) rfl) (jss_cons (js_asg (je_own (o_extra_of T hT) hr (by decide) tk (gl_of (by kernel_rfl)) (ja_cons rfl (je_var (i := 0) rfl (.inl (by kernel_rfl)) rfl rfl) (ja_cons rfl (je_var (i := 1) rfl (.inl (by kernel_rfl)) rfl rfl) ja_nil)) (consA_len (consA_len nilA_len)) (by decide) rfl rfl) (jg_name (i := 2) c_verdict.nd rfl (.inl (by kernel_rfl)) (.inl rfl)) (by kernel_rfl) (by kernel_rfl) rfl) (jss_cons (js_asg (je_own (o_least_overdrawn T hT) hr (by decide) tk (gl_of (by kernel_rfl)) (ja_cons rfl (je_var (i := 2) rfl (.inl (by kernel_rfl)) rfl rfl) ja_nil) (consA_len nilA_len) (by decide) rfl rfl) (jg_name (i := 3) c_verdict.nd rfl (.inl (by kernel_rfl)) (.inl rfl)) (by kernel_rfl) (by kernel_rfl) rfl) (jss_cons (js_if (jt_cmpV cv_isnt rfl (je_var (i := 3) rfl (.inl (by kernel_rfl)) rfl rfl) je_non) (jss_cons (js_ret (je_tup (ja_cons rfl je_str (ja_cons rfl (je_var (i := 3) rfl (.inl (by kernel_rfl)) rfl rfl) ja_nil)))) jss_nil) jss_nil) (jss_cons (js_asg (je_own (o_stranded T hT) hr (by decide) tk (gl_of (by kernel_rfl)) (ja_cons rfl (je_own (o_last_entries T hT) hr (by decide) tk (gl_of (by kernel_rfl)) (ja_cons rfl (je_var (i := 0) rfl (.inl (by kernel_rfl)) rfl rfl) ja_nil) (consA_len nilA_len) (by decide) rfl rfl) (ja_cons rfl (je_mth (tk_index hr) (je_var (i := 2) rfl (.inl (by kernel_rfl)) rfl rfl) (ja_cons rfl je_int ja_nil) rfl rfl rfl rfl rfl) ja_nil)) (consA_len (consA_len nilA_len)) (by decide) rfl rfl) (jg_name (i := 4) c_verdict.nd rfl (.inl (by kernel_rfl)) (.inl rfl)) (by kernel_rfl) (by kernel_rfl) rfl) (jss_cons (js_ret (je_ite (jt_cmpV (cv_ne hr) rfl (je_var (i := 4) rfl (.inl (by kernel_rfl)) rfl rfl) (je_tup ja_nil)) (je_tup (ja_cons rfl je_str (ja_cons rfl (je_var (i := 4) rfl (.inl (by kernel_rfl)) rfl rfl) ja_nil))) (je_tup (ja_cons rfl je_str (ja_cons rfl (je_ixA (fun _ _ => rfl) (je_own (o_reading T hT) hr (by decide) tk (gl_of (by kernel_rfl)) (ja_cons rfl (je_var (i := 0) rfl (.inl (by kernel_rfl)) rfl rfl) (ja_cons rfl (je_var (i := 1) rfl (.inl (by kernel_rfl)) rfl rfl) ja_nil)) (consA_len (consA_len nilA_len)) (by decide) rfl rfl) je_int) ja_nil))))) jss_nil)))))))
theorem o_Recorder__trace (T : Txt K mg base T0) (hT : LT.T = T0) : MetP P w K mg base "Recorder" "trace" 1 ["self"] d_Recorder__trace := met_ok T.m_Recorder__trace c_Recorder__trace fun f cdv A outer s H E hr tk hp => (show JSs _ _ _ m_Recorder__trace from (jss_cons (js_ret (je_ixA (fun _ _ => rfl) (je_ixA (fun _ _ => rfl) (je_obF T.na_own_states (je_var (i := 0) rfl (.inl (by kernel_rfl)) rfl rfl) rfl) (je_neg je_int)) je_int)) jss_nil))
def m_explained : Rho → Sto → RS := (seqS (asgS (appM (consA (frzM (compM (srcM (metM "Recorder" "partial" d_Recorder__partial (varM 0) nilA)) (.tp (.cons (.nm 4) (.cons (.nm 5) (.cons (.nm 6) .nil)))) ([("head", 4), ("loose", 5), ("tail", 6)].map (·.2)) tYesM (bi (varM 4) (varM 6) (lift2 addD)))) nilA) (on1 tupleD)) (.nm 1)) (seqS (asgS (callM d_verdict (consA (varM 1) (consA (bi (metM "Recorder" "trace" d_Recorder__trace (varM 0) nilA) (conM (.int 0)) ixA) nilA))) (.tp (.cons (.nm 2) (.cons (.nm 3) .nil)))) (seqS (ifS (toB (bi (varM 2) (conM (.str "trace")) (lift2 eqD))) (seqS (retS (varM 2)) skipS) skipS) (seqS (retS (bi (bi (varM 2) (conM (.str " ")) (lift2 addD)) (iteM (toB (bi (varM 2) (conM (.str "overdrawn")) (lift2 eqD))) (appM (consA (varM 3) nilA) (on1 strD)) (callM d_words_of (consA (varM 3) nilA))) (lift2 addD))) skipS))))
def d_explained : FV := bodyF 7 m_explained
theorem o_explained (T : Txt K mg base T0) (hT : LT.T = T0) : OwnP P w K mg base "explained" 5 ["recorder"] d_explained := own_ok T.f_explained c_explained fun f cdv A outer s H E hr tk hp => (show JSs _ _ _ m_explained from (jss_cons (js_asg (je_blt bv_tuple T.b_tuple (gl_of (by kernel_rfl)) (ja_cons rfl (JF.frz (jf_lc rfl c_explained.nd (ji_src (je_met0 (o_Recorder__partial T hT) hr (by decide) tk (je_var (i := 0) rfl (.inl (by kernel_rfl)) rfl rfl) rfl rfl)) (blkOk_by (own := [("head", 4), ("loose", 5), ("tail", 6)]) (by kernel_rfl)) (fun _ _ _ _ _ => (jg_tup rfl (jgs_cons (jg_name (i := 4) c_explained.nd rfl (.inl (by kernel_rfl)) (.inr (by kernel_rfl))) (jgs_cons (jg_name (i := 5) c_explained.nd rfl (.inl (by kernel_rfl)) (.inr (by kernel_rfl))) (jgs_cons (jg_name (i := 6) c_explained.nd rfl (.inl (by kernel_rfl)) (.inr (by kernel_rfl))) jgs_nil rfl) rfl) rfl) rfl rfl)) (fun _ _ _ _ _ => jts_nil) (fun _ _ _ _ _ => (je_add (je_var (i := 4) rfl (.inl (by kernel_rfl)) rfl rfl) (je_var (i := 6) rfl (.inl (by kernel_rfl)) rfl rfl))) (fun _ => rfl) (by decide))) ja_nil) rfl rfl) (jg_name (i := 1) c_explained.nd rfl (.inl (by kernel_rfl)) (.inl rfl)) (by kernel_rfl) (by kernel_rfl) rfl) (jss_cons (js_asg (je_own (o_verdict T hT) hr (by decide) tk (gl_of (by kernel_rfl)) (ja_cons rfl (je_var (i := 1) rfl (.inl (by kernel_rfl)) rfl rfl) (ja_cons rfl (je_ixA (fun _ _ => rfl) (je_met0 (o_Recorder__trace T hT) hr (by decide) tk (je_var (i := 0) rfl (.inl (by kernel_rfl)) rfl rfl) rfl rfl) je_int) ja_nil)) (consA_len (consA_len nilA_len)) (by decide) rfl rfl) (jg_tup rfl (jgs_cons (jg_name (i := 2) c_explained.nd rfl (.inl (by kernel_rfl)) (.inl rfl)) (jgs_cons (jg_name (i := 3) c_explained.nd rfl (.inl (by kernel_rfl)) (.inl rfl)) jgs_nil rfl) rfl) rfl rfl) (by kernel_rfl) (by kernel_rfl) rfl) (jss_cons (js_if (jt_cmpV (cv_eq hr) rfl (je_var (i := 2) rfl (.inl (by kernel_rfl)) rfl rfl) je_str) (jss_cons (js_ret (je_var (i := 2) rfl (.inl (by kernel_rfl)) rfl rfl)) jss_nil) jss_nil) (jss_cons (js_ret (je_add (je_add (je_var (i := 2) rfl (.inl (by kernel_rfl)) rfl rfl) (je_kStr (gl_of (by kernel_rfl)) T.ks_SPACE (by decide))) (je_ite (jt_cmpV (cv_eq hr) rfl (je_var (i := 2) rfl (.inl (by kernel_rfl)) rfl rfl) je_str) (je_blt bv_str T.b_str (gl_of (by kernel_rfl)) (ja_cons rfl (je_var (i := 3) rfl (.inl (by kernel_rfl)) rfl rfl) ja_nil) rfl rfl) (je_own (o_words_of T hT) hr (by decide) tk (gl_of (by kernel_rfl)) (ja_cons rfl (je_var (i := 3) rfl (.inl (by kernel_rfl)) rfl rfl) ja_nil) (consA_len nilA_len) (by decide) rfl rfl)))) jss_nil)))))
theorem o_Recorder__current (T : Txt K mg base T0) (hT : LT.T = T0) : MetP P w K mg base "Recorder" "current" 2 ["self"] d_Recorder__current := met_ok T.m_Recorder__current c_Recorder__current fun f cdv A outer s H E hr tk hp => (show JSs _ _ _ m_Recorder__current from (jss_cons (js_ret (je_ixA (fun _ _ => rfl) (je_met0 (o_Recorder__trace T hT) hr (by decide) tk (je_var (i := 0) rfl (.inl (by kernel_rfl)) rfl rfl) rfl rfl) (je_neg je_int))) jss_nil))
theorem o_determinant (T : Txt K mg base T0) (hT : LT.T = T0) : OwnP P w K mg base "determinant" 1 ["matrix"] d_determinant := own_ok T.f_determinant c_determinant fun f cdv A outer s H E hr tk hp => (show JSs _ _ _ m_determinant from (jss_cons (js_parC3 (i := 1) (j := 2) (l := 3) rfl c_determinant.nd rfl rfl rfl (.inr (by kernel_rfl)) (.inl (by kernel_rfl)) (.inl (by kernel_rfl)) (.inl rfl) (.inl rfl) (.inl rfl) (ja_cons rfl (je_lcC rfl c_determinant.nd (ji_src (je_var (i := 0) rfl (.inl (by kernel_rfl)) rfl rfl)) (blkOk_by (own := [("row", 6)]) (by kernel_rfl)) (fun _ _ _ _ _ => (jg_name (i := 6) c_determinant.nd rfl (.inl (by kernel_rfl)) (.inr (by kernel_rfl)))) (fun _ _ _ _ _ => jts_nil) (fun _ _ _ _ _ => (jf_blt bf_list T.b_list (gl_of (by kernel_rfl)) (ja_cons rfl (je_var (i := 6) rfl (.inl (by kernel_rfl)) rfl rfl) ja_nil) rfl rfl)) (fun _ => rfl) (by decide)) (ja_cons rfl je_int (ja_cons rfl je_int ja_nil))) rfl rfl rfl rfl rfl (by kernel_rfl) (by kernel_rfl) rfl) (jss_cons (js_for hp rfl (ji_range1 (gl_of (by kernel_rfl)) T.b_range (ja_cons rfl (je_blt bv_len T.b_len (gl_of (by kernel_rfl)) (ja_cons rfl (je_var (i := 1) rfl (.inr (.inl (by kernel_rfl))) rfl rfl) ja_nil) rfl rfl) ja_nil) rfl) (jg_name (i := 4) c_determinant.nd rfl (.inr (by kernel_rfl)) (.inl rfl)) (jss_cons (js_lcF rfl c_determinant.nd rfl (by kernel_rfl) (by kernel_rfl) (ji_range2 (gl_of (by kernel_rfl)) T.b_range (ja_cons rfl (je_var (i := 4) rfl (.inr (.inl (by kernel_rfl))) rfl rfl) (ja_cons rfl (je_blt bv_len T.b_len (gl_of (by kernel_rfl)) (ja_cons rfl (je_var (i := 1) rfl (.inr (.inl (by kernel_rfl))) rfl rfl) ja_nil) rfl rfl) ja_nil)) rfl rfl) (blkOk_by (own := [("place", 8)]) (by kernel_rfl)) (fun _ _ _ _ _ => (jg_name (i := 8) c_determinant.nd rfl (.inl (by kernel_rfl)) (.inr (by kernel_rfl)))) (fun _ _ _ _ _ => (jts_one (jt_cmpV (cv_ne (by exact hr)) rfl (je_ixA (fun _ _ => rfl) (je_ixA (fun _ _ => rfl) (je_var (i := 1) rfl (.inr (.inl (by kernel_rfl))) rfl rfl) (je_var (i := 8) rfl (.inl (by kernel_rfl)) rfl rfl)) (je_var (i := 4) rfl (.inr (.inl (by kernel_rfl))) rfl rfl)) je_int))) (fun _ _ _ _ _ => (je_var (i := 8) rfl (.inl (by kernel_rfl)) rfl rfl)) (fun _ => rfl) (by decide)) (jss_cons (js_if (jt_cmpV (cv_eq hr) rfl (je_var (i := 5) rfl (.inl (by kernel_rfl)) rfl rfl) (JF.frz (jf_lst ja_nil))) (jss_cons (js_ret je_int) jss_nil) jss_nil) (jss_cons (js_if (jt_cmpV (cv_ne hr) rfl (je_ixA (fun _ _ => rfl) (je_var (i := 5) rfl (.inl (by kernel_rfl)) rfl rfl) je_int) (je_var (i := 4) rfl (.inr (.inl (by kernel_rfl))) rfl rfl)) (jss_cons (js_store2N rfl pset_cells (ja_cons rfl (je_ixA (fun _ _ => rfl) (je_var (i := 1) rfl (.inr (.inl (by kernel_rfl))) rfl rfl) (je_ixA (fun _ _ => rfl) (je_var (i := 5) rfl (.inl (by kernel_rfl)) rfl rfl) je_int)) (ja_cons rfl (je_ixA (fun _ _ => rfl) (je_var (i := 1) rfl (.inr (.inl (by kernel_rfl))) rfl rfl) (je_var (i := 4) rfl (.inr (.inl (by kernel_rfl))) rfl rfl)) (ja_cons rfl (je_sub je_int (je_var (i := 2) rfl (.inl (by kernel_rfl)) rfl rfl)) ja_nil))) (je_var (i := 1) rfl (.inr (.inl (by kernel_rfl))) rfl rfl) (je_var (i := 4) rfl (.inr (.inl (by kernel_rfl))) rfl rfl) (je_var (i := 1) rfl (.inr (.inl (by kernel_rfl))) rfl rfl) (je_ixA (fun _ _ => rfl) (je_var (i := 5) rfl (.inl (by kernel_rfl)) rfl rfl) je_int) (jg_name (i := 2) c_determinant.nd rfl (.inl (by kernel_rfl)) (.inl rfl)) (fun _ => rfl) (fun _ => rfl) (by kernel_rfl) (by kernel_rfl) rfl rfl rfl rfl rfl rfl) jss_nil) jss_nil) (jss_cons (js_for hp rfl (ji_src (je_sliceC (je_var (i := 1) rfl (.inr (.inl (by kernel_rfl))) rfl rfl) (jo_some (je_add (je_var (i := 4) rfl (.inr (.inl (by kernel_rfl))) rfl rfl) je_int)) jo_none)) (jg_name (i := 6) c_determinant.nd rfl (.inl (by kernel_rfl)) (.inl rfl)) (jss_cons (js_asg (je_ixA (fun _ _ => rfl) (je_var (i := 6) rfl (.inl (by kernel_rfl)) rfl rfl) (je_var (i := 4) rfl (.inr (.inl (by kernel_rfl))) rfl rfl)) (jg_name (i := 7) c_determinant.nd rfl (.inl (by kernel_rfl)) (.inl rfl)) (by kernel_rfl) (by kernel_rfl) rfl) (jss_cons (js_for hp rfl (ji_range2 (gl_of (by kernel_rfl)) T.b_range (ja_cons rfl (je_var (i := 4) rfl (.inr (.inl (by kernel_rfl))) rfl rfl) (ja_cons rfl (je_blt bv_len T.b_len (gl_of (by kernel_rfl)) (ja_cons rfl (je_var (i := 1) rfl (.inr (.inl (by kernel_rfl))) rfl rfl) ja_nil) rfl rfl) ja_nil)) rfl rfl) (jg_name (i := 8) c_determinant.nd rfl (.inl (by kernel_rfl)) (.inl rfl)) (jss_cons (js_store pset_cell (je_fdiv (je_sub (je_mul (je_ixA (fun _ _ => rfl) (je_var (i := 6) rfl (.inl (by kernel_rfl)) rfl rfl) (je_var (i := 8) rfl (.inl (by kernel_rfl)) rfl rfl)) (je_ixA (fun _ _ => rfl) (je_ixA (fun _ _ => rfl) (je_var (i := 1) rfl (.inr (.inl (by kernel_rfl))) rfl rfl) (je_var (i := 4) rfl (.inr (.inl (by kernel_rfl))) rfl rfl)) (je_var (i := 4) rfl (.inr (.inl (by kernel_rfl))) rfl rfl))) (je_mul (je_var (i := 7) rfl (.inl (by kernel_rfl)) rfl rfl) (je_ixA (fun _ _ => rfl) (je_ixA (fun _ _ => rfl) (je_var (i := 1) rfl (.inr (.inl (by kernel_rfl))) rfl rfl) (je_var (i := 4) rfl (.inr (.inl (by kernel_rfl))) rfl rfl)) (je_var (i := 8) rfl (.inl (by kernel_rfl)) rfl rfl)))) (je_var (i := 3) rfl (.inl (by kernel_rfl)) rfl rfl)) (je_var (i := 6) rfl (.inl (by kernel_rfl)) rfl rfl) (je_var (i := 8) rfl (.inl (by kernel_rfl)) rfl rfl) (fun _ => rfl) rfl rfl rfl) jss_nil) fun _ => rfl) jss_nil)) fun _ => rfl) (jss_cons (js_asg (je_ixA (fun _ _ => rfl) (je_ixA (fun _ _ => rfl) (je_var (i := 1) rfl (.inr (.inl (by kernel_rfl))) rfl rfl) (je_var (i := 4) rfl (.inr (.inl (by kernel_rfl))) rfl rfl)) (je_var (i := 4) rfl (.inr (.inl (by kernel_rfl))) rfl rfl)) (jg_name (i := 3) c_determinant.nd rfl (.inl (by kernel_rfl)) (.inl rfl)) (by kernel_rfl) (by kernel_rfl) rfl) jss_nil))))) fun _ => rfl) (jss_cons (js_ret (je_mul (je_var (i := 2) rfl (.inl (by kernel_rfl)) rfl rfl) (je_var (i := 3) rfl (.inl (by kernel_rfl)) rfl rfl))) jss_nil))))
theorem o_all_entries (T : Txt K mg base T0) (hT : LT.T = T0) : OwnP P w K mg base "all_entries" 1 ["page"] d_all_entries := own_ok T.f_all_entries c_all_entries fun f cdv A outer s H E hr tk hp => (show JSs _ _ _ m_all_entries from (jss_cons (js_asg (je_var (i := 0) rfl (.inl (by kernel_rfl)) rfl rfl) (jg_tup rfl (jgs_cons (jg_name (i := 1) c_all_entries.nd rfl (.inl (by kernel_rfl)) (.inl rfl)) (jgs_cons (jg_name (i := 2) c_all_entries.nd rfl (.inl (by kernel_rfl)) (.inl rfl)) (jgs_cons (jg_name (i := 3) c_all_entries.nd rfl (.inl (by kernel_rfl)) (.inl rfl)) jgs_nil rfl) rfl) rfl) rfl rfl) (by kernel_rfl) (by kernel_rfl) rfl) (jss_cons (js_ret (je_add (je_add (JF.frz (jf_blt bf_list T.b_list (gl_of (by kernel_rfl)) (ja_cons rfl (je_var (i := 1) rfl (.inl (by kernel_rfl)) rfl rfl) ja_nil) rfl rfl)) (JF.frz (jf_blt bf_list T.b_list (gl_of (by kernel_rfl)) (ja_cons rfl (je_var (i := 2) rfl (.inl (by kernel_rfl)) rfl rfl) ja_nil) rfl rfl))) (JF.frz (jf_blt bf_list T.b_list (gl_of (by kernel_rfl)) (ja_cons rfl (je_var (i := 3) rfl (.inl (by kernel_rfl)) rfl rfl) ja_nil) rfl rfl)))) jss_nil)))
theorem o_extra_in (T : Txt K mg base T0) (hT : LT.T = T0) : OwnP P w K mg base "extra_in" 2 ["partial", "start"] d_extra_in := own_ok T.f_extra_in c_extra_in fun f cdv A outer s H E hr tk hp => (show JSs _ _ _ m_extra_in from (jss_cons (js_asg (JF.frz (jf_lc rfl c_extra_in.nd (ji_src (je_var (i := 0) rfl (.inl (by kernel_rfl)) rfl rfl)) (blkOk_by (own := [("page", 4)]) (by kernel_rfl)) (fun _ _ _ _ _ => (jg_name (i := 4) c_extra_in.nd rfl (.inl (by kernel_rfl)) (.inr (by kernel_rfl)))) (fun _ _ _ _ _ => jts_nil) (fun _ _ _ _ _ => (je_own (o_all_entries T hT) (by exact hr) (by decide) takes0 (gl_of (by kernel_rfl)) (ja_cons rfl (je_var (i := 4) rfl (.inl (by kernel_rfl)) rfl rfl) ja_nil) (consA_len nilA_len) (by decide) rfl rfl)) (fun _ => rfl) (by decide))) (jg_name (i := 2) c_extra_in.nd rfl (.inr (by kernel_rfl)) (.inl rfl)) (by kernel_rfl) (by kernel_rfl) rfl) (jss_cons (js_lcF rfl c_extra_in.nd rfl (by kernel_rfl) (by kernel_rfl) (ji_range1 (gl_of (by kernel_rfl)) T.b_range (ja_cons rfl (je_blt bv_len T.b_len (gl_of (by kernel_rfl)) (ja_cons rfl (je_var (i := 2) rfl (.inr (.inl (by kernel_rfl))) rfl rfl) ja_nil) rfl rfl) ja_nil) rfl) (blkOk_by (own := [("node", 5)]) (by kernel_rfl)) (fun _ _ _ _ _ => (jg_name (i := 5) c_extra_in.nd rfl (.inr (by kernel_rfl)) (.inl (by kernel_rfl)))) (fun _ _ _ _ _ => jts_nil) (fun _ _ _ _ _ => (je_blt (bv_sum rfl) T.b_sum (gl_of (by kernel_rfl)) (ja_cons rfl (JF.frz (jf_lc rfl c_extra_in.nd (ji_src (je_var (i := 2) rfl (.inr (.inl (by kernel_rfl))) rfl rfl)) (blkOk_by (own := [("page", 4)]) (by kernel_rfl)) (fun _ _ _ _ _ => (jg_name (i := 4) c_extra_in.nd rfl (.inl (by kernel_rfl)) (.inr (by kernel_rfl)))) (fun _ _ _ _ _ => jts_nil) (fun _ _ _ _ _ => (je_mth (tk_count (by exact hr)) (je_var (i := 4) rfl (.inl (by kernel_rfl)) rfl rfl) (ja_cons rfl (je_var (i := 5) rfl (.inr (.inl (by kernel_rfl))) rfl rfl) ja_nil) rfl rfl rfl rfl rfl)) (fun _ => rfl) (by decide))) ja_nil) rfl rfl)) (fun _ => rfl) (by decide)) (jss_cons (js_ret (je_own (o_surplus T hT) hr (by decide) tk (gl_of (by kernel_rfl)) (ja_cons rfl (JF.frz (jf_lc rfl c_extra_in.nd (ji_src (je_var (i := 2) rfl (.inr (.inl (by kernel_rfl))) rfl rfl)) (blkOk_by (own := [("page", 4)]) (by kernel_rfl)) (fun _ _ _ _ _ => (jg_name (i := 4) c_extra_in.nd rfl (.inl (by kernel_rfl)) (.inr (by kernel_rfl)))) (fun _ _ _ _ _ => jts_nil) (fun _ _ _ _ _ => (je_blt bv_len T.b_len (gl_of (by kernel_rfl)) (ja_cons rfl (je_var (i := 4) rfl (.inl (by kernel_rfl)) rfl rfl) ja_nil) rfl rfl)) (fun _ => rfl) (by decide))) (ja_cons rfl (je_var (i := 3) rfl (.inl (by kernel_rfl)) rfl rfl) (ja_cons rfl (je_var (i := 1) rfl (.inl (by kernel_rfl)) rfl rfl) ja_nil))) (consA_len (consA_len (consA_len nilA_len))) (by decide) rfl rfl)) jss_nil))))
theorem o_possible_exits (T : Txt K mg base T0) (hT : LT.T = T0) : OwnP P w K mg base "possible_exits" 1 ["page"] d_possible_exits := own_ok T.f_possible_exits c_possible_exits fun f cdv A outer s H E hr tk hp => (show JSs _ _ _ m_possible_exits from (jss_cons (js_asg (je_var (i := 0) rfl (.inl (by kernel_rfl)) rfl rfl) (jg_tup rfl (jgs_cons (jg_name (i := 1) c_possible_exits.nd rfl (.inl (by kernel_rfl)) (.inl rfl)) (jgs_cons (jg_name (i := 2) c_possible_exits.nd rfl (.inl (by kernel_rfl)) (.inl rfl)) (jgs_cons (jg_name (i := 3) c_possible_exits.nd rfl (.inl (by kernel_rfl)) (.inl rfl)) jgs_nil rfl) rfl) rfl) rfl rfl) (by kernel_rfl) (by kernel_rfl) rfl) (jss_cons (js_if (jt_cmpV cv_gt rfl (je_blt bv_len T.b_len (gl_of (by kernel_rfl)) (ja_cons rfl (je_var (i := 3) rfl (.inl (by kernel_rfl)) rfl rfl) ja_nil) rfl rfl) je_int) (jss_cons (js_ret (je_blt bv_tuple T.b_tuple (gl_of (by kernel_rfl)) (ja_cons rfl (je_slice (je_var (i := 3) rfl (.inl (by kernel_rfl)) rfl rfl) (jo_some (je_neg je_int)) jo_none) ja_nil) rfl rfl)) jss_nil) jss_nil) (jss_cons (js_ret (je_ite (jt_cmpV cv_gt rfl (je_blt bv_len T.b_len (gl_of (by kernel_rfl)) (ja_cons rfl (je_var (i := 2) rfl (.inl (by kernel_rfl)) rfl rfl) ja_nil) rfl rfl) je_int) (je_blt bv_tuple T.b_tuple (gl_of (by kernel_rfl)) (ja_cons rfl (JF.frz (jf_sortSC T.b_sorted (gl_of (by kernel_rfl)) rfl c_possible_exits.nd (ji_src (je_var (i := 2) rfl (.inl (by kernel_rfl)) rfl rfl)) (blkOk_by (own := [("node", 4)]) (by kernel_rfl)) (fun _ _ _ _ _ => (jg_name (i := 4) c_possible_exits.nd rfl (.inl (by kernel_rfl)) (.inr (by kernel_rfl)))) (fun _ _ _ _ _ => jts_nil) (fun _ _ _ _ _ => (je_var (i := 4) rfl (.inl (by kernel_rfl)) rfl rfl)) (fun _ => rfl) (by decide) rfl rfl)) ja_nil) rfl rfl) (je_blt bv_tuple T.b_tuple (gl_of (by kernel_rfl)) (ja_cons rfl (je_slice (je_var (i := 1) rfl (.inl (by kernel_rfl)) rfl rfl) (jo_some (je_neg je_int)) jo_none) ja_nil) rfl rfl))) jss_nil))))
theorem o_choices_of (T : Txt K mg base T0) (hT : LT.T = T0) : OwnP P w K mg base "choices_of" 2 ["partial"] d_choices_of := own_ok T.f_choices_of c_choices_of fun f cdv A outer s H E hr tk hp => (show JSs _ _ _ m_choices_of from (jss_cons (js_ret (JF.frz (jf_lc rfl c_choices_of.nd (ji_src (je_var (i := 0) rfl (.inl (by kernel_rfl)) rfl rfl)) (blkOk_by (own := [("page", 1)]) (by kernel_rfl)) (fun _ _ _ _ _ => (jg_name (i := 1) c_choices_of.nd rfl (.inl (by kernel_rfl)) (.inr (by kernel_rfl)))) (fun _ _ _ _ _ => jts_nil) (fun _ _ _ _ _ => (je_own (o_possible_exits T hT) (by exact hr) (by decide) takes0 (gl_of (by kernel_rfl)) (ja_cons rfl (je_var (i := 1) rfl (.inl (by kernel_rfl)) rfl rfl) ja_nil) (consA_len nilA_len) (by decide) rfl rfl)) (fun _ => rfl) (by decide)))) jss_nil))
theorem o_is_feasible (T : Txt K mg base T0) (hT : LT.T = T0) : OwnP P w K mg base "is_feasible" 3 ["partial", "start"] d_is_feasible := own_ok T.f_is_feasible c_is_feasible fun f cdv A outer s H E hr tk hp => (show JSs _ _ _ m_is_feasible from (jss_cons (js_asg (je_own (o_extra_in T hT) hr (by decide) tk (gl_of (by kernel_rfl)) (ja_cons rfl (je_var (i := 0) rfl (.inl (by kernel_rfl)) rfl rfl) (ja_cons rfl (je_var (i := 1) rfl (.inl (by kernel_rfl)) rfl rfl) ja_nil)) (consA_len (consA_len nilA_len)) (by decide) rfl rfl) (jg_name (i := 2) c_is_feasible.nd rfl (.inl (by kernel_rfl)) (.inl rfl)) (by kernel_rfl) (by kernel_rfl) rfl) (jss_cons (js_ret (je_and (je_cmpV cv_is rfl (je_own (o_least_overdrawn T hT) hr (by decide) tk (gl_of (by kernel_rfl)) (ja_cons rfl (je_var (i := 2) rfl (.inl (by kernel_rfl)) rfl rfl) ja_nil) (consA_len nilA_len) (by decide) rfl rfl) je_non) (je_one (je_cmpV (cv_eq hr) rfl (je_own (o_stranded T hT) hr (by decide) tk (gl_of (by kernel_rfl)) (ja_cons rfl (je_own (o_choices_of T hT) hr (by decide) tk (gl_of (by kernel_rfl)) (ja_cons rfl (je_var (i := 0) rfl (.inl (by kernel_rfl)) rfl rfl) ja_nil) (consA_len nilA_len) (by decide) rfl rfl) (ja_cons rfl (je_mth (tk_index hr) (je_var (i := 2) rfl (.inl (by kernel_rfl)) rfl rfl) (ja_cons rfl je_int ja_nil) rfl rfl rfl rfl rfl) ja_nil)) (consA_len (consA_len nilA_len)) (by decide) rfl rfl) (je_tup ja_nil))))) jss_nil)))
theorem o_shares (T : Txt K mg base T0) (hT : LT.T = T0) : OwnP P w K mg base "shares" 2 ["page"] d_shares := own_ok T.f_shares c_shares fun f cdv A outer s H E hr tk hp => (show JSs _ _ _ m_shares from (jss_cons (js_asg (JF.frz (jf_blt bf_list T.b_list (gl_of (by kernel_rfl)) (ja_cons rfl (je_ixA (fun _ _ => rfl) (je_var (i := 0) rfl (.inl (by kernel_rfl)) rfl rfl) je_int) ja_nil) rfl rfl)) (jg_name (i := 1) c_shares.nd rfl (.inr (by kernel_rfl)) (.inl rfl)) (by kernel_rfl) (by kernel_rfl) rfl) (jss_cons (js_asg (je_own (o_possible_exits T hT) hr (by decide) tk (gl_of (by kernel_rfl)) (ja_cons rfl (je_var (i := 0) rfl (.inl (by kernel_rfl)) rfl rfl) ja_nil) (consA_len nilA_len) (by decide) rfl rfl) (jg_name (i := 2) c_shares.nd rfl (.inl (by kernel_rfl)) (.inl rfl)) (by kernel_rfl) (by kernel_rfl) rfl) (jss_cons (js_if (jt_bool (jw_or (jt_cmpV cv_gt rfl (je_blt bv_len T.b_len (gl_of (by kernel_rfl)) (ja_cons rfl (je_ixA (fun _ _ => rfl) (je_var (i := 0) rfl (.inl (by kernel_rfl)) rfl rfl) je_int) ja_nil) rfl rfl) je_int) (jw_or1 (jt_cmpV (cv_eq hr) rfl (je_var (i := 1) rfl (.inr (.inl (by kernel_rfl))) rfl rfl) (JF.frz (jf_lst ja_nil)))))) (jss_cons (js_ret (je_tup (ja_cons rfl (JF.frz (jf_lc rfl c_shares.nd (ji_src (je_var (i := 2) rfl (.inl (by kernel_rfl)) rfl rfl)) (blkOk_by (own := [("node", 3)]) (by kernel_rfl)) (fun _ _ _ _ _ => (jg_name (i := 3) c_shares.nd rfl (.inl (by kernel_rfl)) (.inr (by kernel_rfl)))) (fun _ _ _ _ _ => jts_nil) (fun _ _ _ _ _ => (je_tup (ja_cons rfl (je_var (i := 3) rfl (.inl (by kernel_rfl)) rfl rfl) (ja_cons rfl je_int ja_nil)))) (fun _ => rfl) (by decide))) (ja_cons rfl je_int ja_nil)))) jss_nil) jss_nil) (jss_cons (js_ret (je_tup (ja_cons rfl (JF.frz (jf_lc rfl c_shares.nd (ji_src (je_var (i := 2) rfl (.inl (by kernel_rfl)) rfl rfl)) (blkOk_by (own := [("node", 3)]) (by kernel_rfl)) (fun _ _ _ _ _ => (jg_name (i := 3) c_shares.nd rfl (.inl (by kernel_rfl)) (.inr (by kernel_rfl)))) (fun _ _ _ _ _ => jts_nil) (fun _ _ _ _ _ => (je_tup (ja_cons rfl (je_var (i := 3) rfl (.inl (by kernel_rfl)) rfl rfl) (ja_cons rfl (je_mth (tk_count (by exact hr)) (je_var (i := 1) rfl (.inr (.inl (by kernel_rfl))) rfl rfl) (ja_cons rfl (je_var (i := 3) rfl (.inl (by kernel_rfl)) rfl rfl) ja_nil) rfl rfl rfl rfl rfl) ja_nil)))) (fun _ => rfl) (by decide))) (ja_cons rfl (je_blt bv_len T.b_len (gl_of (by kernel_rfl)) (ja_cons rfl (je_var (i := 1) rfl (.inr (.inl (by kernel_rfl))) rfl rfl) ja_nil) rfl rfl) ja_nil)))) jss_nil)))))
theorem o_tree_matrix (T : Txt K mg base T0) (hT : LT.T = T0) : OwnP P w K mg base "tree_matrix" 3 ["partial", "nodes"] d_tree_matrix := own_ok T.f_tree_matrix c_tree_matrix fun f cdv A outer s H E hr tk hp => (show JSs _ _ _ m_tree_matrix from (jss_cons (js_asg (JF.new (jf_lst ja_nil)) (jg_name (i := 2) c_tree_matrix.nd rfl (.inl (by kernel_rfl)) (.inl rfl)) (by kernel_rfl) (by kernel_rfl) rfl) (jss_cons (js_for hp rfl (ji_src (je_var (i := 1) rfl (.inl (by kernel_rfl)) rfl rfl)) (jg_name (i := 3) c_tree_matrix.nd rfl (.inr (by kernel_rfl)) (.inl rfl)) (jss_cons (js_asg (je_own (o_shares T hT) hr (by decide) tk (gl_of (by kernel_rfl)) (ja_cons rfl (je_ixA (fun _ _ => rfl) (je_var (i := 0) rfl (.inl (by kernel_rfl)) rfl rfl) (je_var (i := 3) rfl (.inr (.inl (by kernel_rfl))) rfl rfl)) ja_nil) (consA_len nilA_len) (by decide) rfl rfl) (jg_tup rfl (jgs_cons (jg_name (i := 4) c_tree_matrix.nd rfl (.inl (by kernel_rfl)) (.inl rfl)) (jgs_cons (jg_name (i := 5) c_tree_matrix.nd rfl (.inr (by kernel_rfl)) (.inl rfl)) jgs_nil rfl) rfl) rfl rfl) (by kernel_rfl) (by kernel_rfl) rfl) (jss_cons (js_asg (je_blt (bv_dict rfl) T.b_dict (gl_of (by kernel_rfl)) (ja_cons rfl (je_var (i := 4) rfl (.inl (by kernel_rfl)) rfl rfl) ja_nil) rfl rfl) (jg_name (i := 6) c_tree_matrix.nd rfl (.inr (by kernel_rfl)) (.inl rfl)) (by kernel_rfl) (by kernel_rfl) rfl) (jss_cons (js_expr (je_mth tk_append (je_var (i := 2) rfl (.inl (by kernel_rfl)) rfl rfl) (ja_cons rfl (JF.frz (jf_lc rfl c_tree_matrix.nd (ji_src (je_var (i := 1) rfl (.inl (by kernel_rfl)) rfl rfl)) (blkOk_by (own := [("there", 7)]) (by kernel_rfl)) (fun _ _ _ _ _ => (jg_name (i := 7) c_tree_matrix.nd rfl (.inl (by kernel_rfl)) (.inr (by kernel_rfl)))) (fun _ _ _ _ _ => jts_nil) (fun _ _ _ _ _ => (je_sub (je_mul (je_var (i := 5) rfl (.inr (.inl (by kernel_rfl))) rfl rfl) (je_blt bv_int T.b_int (gl_of (by kernel_rfl)) (ja_cons rfl (je_cmpV (cv_eq (by exact hr)) rfl (je_var (i := 3) rfl (.inr (.inl (by kernel_rfl))) rfl rfl) (je_var (i := 7) rfl (.inl (by kernel_rfl)) rfl rfl)) ja_nil) rfl rfl)) (je_dgetR (by exact hr) (je_var (i := 6) rfl (.inr (.inl (by kernel_rfl))) rfl rfl) (je_var (i := 7) rfl (.inl (by kernel_rfl)) rfl rfl) je_int ⟨rfl, rfl, rfl, rfl⟩))) (fun _ => rfl) (by decide))) ja_nil) rfl rfl rfl rfl rfl) rfl) jss_nil))) fun _ => rfl) (jss_frz (i := 2) (jss_cons (js_ret (je_var (i := 2) rfl (.inl (by kernel_rfl)) rfl rfl)) jss_nil)))))
theorem o_factorial (T : Txt K mg base T0) (hT : LT.T = T0) : OwnP P w K mg base "factorial" 1 ["many"] d_factorial := own_ok T.f_factorial c_factorial fun f cdv A outer s H E hr tk hp => (show JSs _ _ _ m_factorial from (jss_cons (js_asg je_int (jg_name (i := 1) c_factorial.nd rfl (.inl (by kernel_rfl)) (.inl rfl)) (by kernel_rfl) (by kernel_rfl) rfl) (jss_cons (js_for hp rfl (ji_range2 (gl_of (by kernel_rfl)) T.b_range (ja_cons rfl je_int (ja_cons rfl (je_add (je_var (i := 0) rfl (.inl (by kernel_rfl)) rfl rfl) je_int) ja_nil)) rfl rfl) (jg_name (i := 2) c_factorial.nd rfl (.inl (by kernel_rfl)) (.inl rfl)) (jss_cons (js_aug (k := 1) pip_mul c_factorial.nd rfl (.inl (by kernel_rfl)) (je_var (i := 2) rfl (.inl (by kernel_rfl)) rfl rfl) (.inl rfl)) jss_nil) fun _ => rfl) (jss_cons (js_ret (je_var (i := 1) rfl (.inl (by kernel_rfl)) rfl rfl)) jss_nil))))
theorem o_orders (T : Txt K mg base T0) (hT : LT.T = T0) : OwnP P w K mg base "orders" 2 ["loose"] d_orders := own_ok T.f_orders c_orders fun f cdv A outer s H E hr tk hp => (show JSs _ _ _ m_orders from (jss_cons (js_asg (je_own (o_factorial T hT) hr (by decide) tk (gl_of (by kernel_rfl)) (ja_cons rfl (je_blt bv_len T.b_len (gl_of (by kernel_rfl)) (ja_cons rfl (je_var (i := 0) rfl (.inl (by kernel_rfl)) rfl rfl) ja_nil) rfl rfl) ja_nil) (consA_len nilA_len) (by decide) rfl rfl) (jg_name (i := 1) c_orders.nd rfl (.inl (by kernel_rfl)) (.inl rfl)) (by kernel_rfl) (by kernel_rfl) rfl) (jss_cons (js_for hp rfl (ji_src (JF.frz (jf_sortSC T.b_sorted (gl_of (by kernel_rfl)) rfl c_orders.nd (ji_src (je_var (i := 0) rfl (.inl (by kernel_rfl)) rfl rfl)) (blkOk_by (own := [("node", 2)]) (by kernel_rfl)) (fun _ _ _ _ _ => (jg_name (i := 2) c_orders.nd rfl (.inl (by kernel_rfl)) (.inr (by kernel_rfl)))) (fun _ _ _ _ _ => jts_nil) (fun _ _ _ _ _ => (je_var (i := 2) rfl (.inl (by kernel_rfl)) rfl rfl)) (fun _ => rfl) (by decide) rfl rfl))) (jg_name (i := 2) c_orders.nd rfl (.inl (by kernel_rfl)) (.inl rfl)) (jss_cons (js_aug (k := 1) pip_div c_orders.nd rfl (.inl (by kernel_rfl)) (je_own (o_factorial T hT) hr (by decide) tk (gl_of (by kernel_rfl)) (ja_cons rfl (je_mth (tk_count hr) (JF.frz (jf_blt bf_list T.b_list (gl_of (by kernel_rfl)) (ja_cons rfl (je_var (i := 0) rfl (.inl (by kernel_rfl)) rfl rfl) ja_nil) rfl rfl)) (ja_cons rfl (je_var (i := 2) rfl (.inl (by kernel_rfl)) rfl rfl) ja_nil) rfl rfl rfl rfl rfl) ja_nil) (consA_len nilA_len) (by decide) rfl rfl) (.inl rfl)) jss_nil) fun _ => rfl) (jss_cons (js_ret (je_var (i := 1) rfl (.inl (by kernel_rfl)) rfl rfl)) jss_nil))))
theorem o_number_of_fillings (T : Txt K mg base T0) (hT : LT.T = T0) : OwnP P w K mg base "number_of_fillings" 4 ["partial", "start"] d_number_of_fillings := own_ok T.f_number_of_fillings c_number_of_fillings fun f cdv A outer s H E hr tk hp => (show JSs _ _ _ m_number_of_fillings from (jss_cons (js_if (jt_not (jt_val (je_own (o_is_feasible T hT) hr (by decide) tk (gl_of (by kernel_rfl)) (ja_cons rfl (je_var (i := 0) rfl (.inl (by kernel_rfl)) rfl rfl) (ja_cons rfl (je_var (i := 1) rfl (.inl (by kernel_rfl)) rfl rfl) ja_nil)) (consA_len (consA_len nilA_len)) (by decide) rfl rfl) fun _ => rfl)) (jss_cons (js_ret je_int) jss_nil) jss_nil) (jss_cons (js_asg (je_mth (tk_index hr) (je_own (o_extra_in T hT) hr (by decide) tk (gl_of (by kernel_rfl)) (ja_cons rfl (je_var (i := 0) rfl (.inl (by kernel_rfl)) rfl rfl) (ja_cons rfl (je_var (i := 1) rfl (.inl (by kernel_rfl)) rfl rfl) ja_nil)) (consA_len (consA_len nilA_len)) (by decide) rfl rfl) (ja_cons rfl je_int ja_nil) rfl rfl rfl rfl rfl) (jg_name (i := 2) c_number_of_fillings.nd rfl (.inr (by kernel_rfl)) (.inl rfl)) (by kernel_rfl) (by kernel_rfl) rfl) (jss_cons (js_lcF rfl c_number_of_fillings.nd rfl (by kernel_rfl) (by kernel_rfl) (ji_enum (gl_of (by kernel_rfl)) T.b_enumerate (ja_cons rfl (je_var (i := 0) rfl (.inl (by kernel_rfl)) rfl rfl) ja_nil) rfl) (blkOk_by (own := [("node", 6), ("page", 5)]) (by kernel_rfl)) (fun _ _ _ _ _ => (jg_tup rfl (jgs_cons (jg_name (i := 6) c_number_of_fillings.nd rfl (.inl (by kernel_rfl)) (.inr (by kernel_rfl))) (jgs_cons (jg_name (i := 5) c_number_of_fillings.nd rfl (.inl (by kernel_rfl)) (.inr (by kernel_rfl))) jgs_nil rfl) rfl) rfl rfl)) (fun _ _ _ _ _ => (jts_one (jt_bool (jw_and (jt_cmpV (cv_ne (by exact hr)) rfl (je_var (i := 6) rfl (.inl (by kernel_rfl)) rfl rfl) (je_var (i := 2) rfl (.inr (.inl (by kernel_rfl))) rfl rfl)) (jw_and1 (jt_cmpV (cv_ne (by exact hr)) rfl (je_own (o_all_entries T hT) (by exact hr) (by decide) takes0 (gl_of (by kernel_rfl)) (ja_cons rfl (je_var (i := 5) rfl (.inl (by kernel_rfl)) rfl rfl) ja_nil) (consA_len nilA_len) (by decide) rfl rfl) (JF.frz (jf_lst ja_nil)))))))) (fun _ _ _ _ _ => (je_var (i := 6) rfl (.inl (by kernel_rfl)) rfl rfl)) (fun _ => rfl) (by decide)) (jss_cons (js_asg (je_own (o_determinant T hT) hr (by decide) tk (gl_of (by kernel_rfl)) (ja_cons rfl (je_own (o_tree_matrix T hT) hr (by decide) tk (gl_of (by kernel_rfl)) (ja_cons rfl (je_var (i := 0) rfl (.inl (by kernel_rfl)) rfl rfl) (ja_cons rfl (je_var (i := 3) rfl (.inl (by kernel_rfl)) rfl rfl) ja_nil)) (consA_len (consA_len nilA_len)) (by decide) rfl rfl) ja_nil) (consA_len nilA_len) (by decide) rfl rfl) (jg_name (i := 4) c_number_of_fillings.nd rfl (.inl (by kernel_rfl)) (.inl rfl)) (by kernel_rfl) (by kernel_rfl) rfl) (jss_cons (js_for hp rfl (ji_src (je_var (i := 0) rfl (.inl (by kernel_rfl)) rfl rfl)) (jg_name (i := 5) c_number_of_fillings.nd rfl (.inl (by kernel_rfl)) (.inl rfl)) (jss_cons (js_aug (k := 4) pip_mul c_number_of_fillings.nd rfl (.inl (by kernel_rfl)) (je_own (o_orders T hT) hr (by decide) tk (gl_of (by kernel_rfl)) (ja_cons rfl (je_ixA (fun _ _ => rfl) (je_var (i := 5) rfl (.inl (by kernel_rfl)) rfl rfl) je_int) ja_nil) (consA_len nilA_len) (by decide) rfl rfl) (.inl rfl)) jss_nil) fun _ => rfl) (jss_cons (js_for hp rfl (ji_src (je_var (i := 3) rfl (.inl (by kernel_rfl)) rfl rfl)) (jg_name (i := 6) c_number_of_fillings.nd rfl (.inl (by kernel_rfl)) (.inl rfl)) (jss_cons (js_aug (k := 4) pip_div c_number_of_fillings.nd rfl (.inl (by kernel_rfl)) (je_ixA (fun _ _ => rfl) (je_own (o_shares T hT) hr (by decide) tk (gl_of (by kernel_rfl)) (ja_cons rfl (je_ixA (fun _ _ => rfl) (je_var (i := 0) rfl (.inl (by kernel_rfl)) rfl rfl) (je_var (i := 6) rfl (.inl (by kernel_rfl)) rfl rfl)) ja_nil) (consA_len nilA_len) (by decide) rfl rfl) je_int) (.inl rfl)) jss_nil) fun _ => rfl) (jss_cons (js_ret (je_var (i := 4) rfl (.inl (by kernel_rfl)) rfl rfl)) jss_nil))))))))
theorem o_Recorder__count (T : Txt K mg base T0) (hT : LT.T = T0) : MetP P w K mg base "Recorder" "count" 5 ["self"] d_Recorder__count := met_ok T.m_Recorder__count c_Recorder__count fun f cdv A outer s H E hr tk hp => (show JSs _ _ _ m_Recorder__count from (jss_cons (js_ret (je_own (o_number_of_fillings T hT) hr (by decide) tk (gl_of (by kernel_rfl)) (ja_cons rfl (je_met0 (o_Recorder__partial T hT) hr (by decide) tk (je_var (i := 0) rfl (.inl (by kernel_rfl)) rfl rfl) rfl rfl) (ja_cons rfl (je_ixA (fun _ _ => rfl) (je_met0 (o_Recorder__trace T hT) hr (by decide) tk (je_var (i := 0) rfl (.inl (by kernel_rfl)) rfl rfl) rfl rfl) je_int) ja_nil)) (consA_len (consA_len nilA_len)) (by decide) rfl rfl)) jss_nil))
def m_query : Rho → Sto → RS := (seqS (ifS (toB (bi (varM 1) (conM (.str "trace")) (lift2 eqD))) (seqS (retS (callM d_words_of (consA (metM "Recorder" "trace" d_Recorder__trace (varM 0) nilA) nilA))) skipS) skipS) (seqS (ifS (toB (bi (varM 1) (conM (.str "current")) (lift2 eqD))) (seqS (retS (appM (consA (metM "Recorder" "current" d_Recorder__current (varM 0) nilA) nilA) (on1 strD))) skipS) skipS) (seqS (ifS (toB (bi (varM 1) (conM (.str "page")) (lift2 eqD))) (seqS (retS (callM d_page_text (consA (varM 0) (consA (bi (varM 2) (conM (.int 0)) ixA) nilA)))) skipS) skipS) (seqS (retS (iteM (toB (bi (varM 1) (conM (.str "count")) (lift2 eqD))) (appM (consA (metM "Recorder" "count" d_Recorder__count (varM 0) nilA) nilA) (on1 strD)) (callM d_explained (consA (varM 0) nilA)))) skipS))))
def d_query : FV := bodyF 3 m_query
theorem o_query (T : Txt K mg base T0) (hT : LT.T = T0) : OwnP P w K mg base "query" 6 ["recorder", "word", "numbers"] d_query := own_ok T.f_query c_query fun f cdv A outer s H E hr tk hp => (show JSs _ _ _ m_query from (jss_cons (js_if (jt_cmpV (cv_eq hr) rfl (je_var (i := 1) rfl (.inl (by kernel_rfl)) rfl rfl) je_str) (jss_cons (js_ret (je_own (o_words_of T hT) hr (by decide) tk (gl_of (by kernel_rfl)) (ja_cons rfl (je_met0 (o_Recorder__trace T hT) hr (by decide) tk (je_var (i := 0) rfl (.inl (by kernel_rfl)) rfl rfl) rfl rfl) ja_nil) (consA_len nilA_len) (by decide) rfl rfl)) jss_nil) jss_nil) (jss_cons (js_if (jt_cmpV (cv_eq hr) rfl (je_var (i := 1) rfl (.inl (by kernel_rfl)) rfl rfl) je_str) (jss_cons (js_ret (je_blt bv_str T.b_str (gl_of (by kernel_rfl)) (ja_cons rfl (je_met0 (o_Recorder__current T hT) hr (by decide) tk (je_var (i := 0) rfl (.inl (by kernel_rfl)) rfl rfl) rfl rfl) ja_nil) rfl rfl)) jss_nil) jss_nil) (jss_cons (js_if (jt_cmpV (cv_eq hr) rfl (je_var (i := 1) rfl (.inl (by kernel_rfl)) rfl rfl) je_str) (jss_cons (js_ret (je_own (o_page_text T hT) hr (by decide) tk (gl_of (by kernel_rfl)) (ja_cons rfl (je_var (i := 0) rfl (.inl (by kernel_rfl)) rfl rfl) (ja_cons rfl (je_ixA (fun _ _ => rfl) (je_var (i := 2) rfl (.inl (by kernel_rfl)) rfl rfl) je_int) ja_nil)) (consA_len (consA_len nilA_len)) (by decide) rfl rfl)) jss_nil) jss_nil) (jss_cons (js_ret (je_ite (jt_cmpV (cv_eq hr) rfl (je_var (i := 1) rfl (.inl (by kernel_rfl)) rfl rfl) je_str) (je_blt bv_str T.b_str (gl_of (by kernel_rfl)) (ja_cons rfl (je_met0 (o_Recorder__count T hT) hr (by decide) tk (je_var (i := 0) rfl (.inl (by kernel_rfl)) rfl rfl) rfl rfl) ja_nil) rfl rfl) (je_own (o_explained T hT) hr (by decide) tk (gl_of (by kernel_rfl)) (ja_cons rfl (je_var (i := 0) rfl (.inl (by kernel_rfl)) rfl rfl) ja_nil) (consA_len nilA_len) (by decide) rfl rfl))) jss_nil)))))
theorem o_with_page (T : Txt K mg base T0) (hT : LT.T = T0) : OwnP P w K mg base "with_page" 1 ["partial", "node", "page"] d_with_page := own_ok T.f_with_page c_with_page fun f cdv A outer s H E hr tk hp => (show JSs _ _ _ m_with_page from (jss_cons (js_ret (je_blt bv_tuple T.b_tuple (gl_of (by kernel_rfl)) (ja_cons rfl (JF.frz (jf_lc rfl c_with_page.nd (ji_enum (gl_of (by kernel_rfl)) T.b_enumerate (ja_cons rfl (je_var (i := 0) rfl (.inl (by kernel_rfl)) rfl rfl) ja_nil) rfl) (blkOk_by (own := [("at", 3), ("each", 4)]) (by kernel_rfl)) (fun _ _ _ _ _ => (jg_tup rfl (jgs_cons (jg_name (i := 3) c_with_page.nd rfl (.inl (by kernel_rfl)) (.inr (by kernel_rfl))) (jgs_cons (jg_name (i := 4) c_with_page.nd rfl (.inl (by kernel_rfl)) (.inr (by kernel_rfl))) jgs_nil rfl) rfl) rfl rfl)) (fun _ _ _ _ _ => jts_nil) (fun _ _ _ _ _ => (je_ite (jt_cmpV (cv_eq (by exact hr)) rfl (je_var (i := 3) rfl (.inl (by kernel_rfl)) rfl rfl) (je_var (i := 1) rfl (.inr (.inl (by kernel_rfl))) rfl rfl)) (je_var (i := 2) rfl (.inr (.inl (by kernel_rfl))) rfl rfl) (je_var (i := 4) rfl (.inl (by kernel_rfl)) rfl rfl))) (fun _ => rfl) (by decide))) ja_nil) rfl rfl)) jss_nil))
theorem o_copied (T : Txt K mg base T0) (hT : LT.T = T0) : OwnP P w K mg base "copied" 1 ["partial"] d_copied := own_ok T.f_copied c_copied fun f cdv A outer s H E hr tk hp => (show JSs _ _ _ m_copied from (jss_cons (js_ret (je_blt bv_tuple T.b_tuple (gl_of (by kernel_rfl)) (ja_cons rfl (JF.frz (jf_lc rfl c_copied.nd (ji_src (je_var (i := 0) rfl (.inl (by kernel_rfl)) rfl rfl)) (blkOk_by (own := [("head", 1), ("loose", 2), ("tail", 3)]) (by kernel_rfl)) (fun _ _ _ _ _ => (jg_tup rfl (jgs_cons (jg_name (i := 1) c_copied.nd rfl (.inl (by kernel_rfl)) (.inr (by kernel_rfl))) (jgs_cons (jg_name (i := 2) c_copied.nd rfl (.inl (by kernel_rfl)) (.inr (by kernel_rfl))) (jgs_cons (jg_name (i := 3) c_copied.nd rfl (.inl (by kernel_rfl)) (.inr (by kernel_rfl))) jgs_nil rfl) rfl) rfl) rfl rfl)) (fun _ _ _ _ _ => jts_nil) (fun _ _ _ _ _ => (je_tup (ja_cons rfl (je_blt bv_tuple T.b_tuple (gl_of (by kernel_rfl)) (ja_cons rfl (je_var (i := 1) rfl (.inl (by kernel_rfl)) rfl rfl) ja_nil) rfl rfl) (ja_cons rfl (je_blt bv_tuple T.b_tuple (gl_of (by kernel_rfl)) (ja_cons rfl (je_var (i := 2) rfl (.inl (by kernel_rfl)) rfl rfl) ja_nil) rfl rfl) (ja_cons rfl (je_blt bv_tuple T.b_tuple (gl_of (by kernel_rfl)) (ja_cons rfl (je_var (i := 3) rfl (.inl (by kernel_rfl)) rfl rfl) ja_nil) rfl rfl) ja_nil))))) (fun _ => rfl) (by decide))) ja_nil) rfl rfl)) jss_nil))
theorem o_forgotten (T : Txt K mg base T0) (hT : LT.T = T0) : OwnP P w K mg base "forgotten" 4 ["partial", "node"] d_forgotten := own_ok T.f_forgotten c_forgotten fun f cdv A outer s H E hr tk hp => (show JSs _ _ _ m_forgotten from (jss_cons (js_expr (je_own (o_look_node T hT) hr (by decide) tk (gl_of (by kernel_rfl)) (ja_cons rfl (je_blt bv_len T.b_len (gl_of (by kernel_rfl)) (ja_cons rfl (je_var (i := 0) rfl (.inl (by kernel_rfl)) rfl rfl) ja_nil) rfl rfl) (ja_cons rfl (je_var (i := 1) rfl (.inl (by kernel_rfl)) rfl rfl) ja_nil)) (consA_len (consA_len nilA_len)) (by decide) rfl rfl) rfl) (jss_cons (js_ret (je_own (o_with_page T hT) hr (by decide) tk (gl_of (by kernel_rfl)) (ja_cons rfl (je_own (o_copied T hT) hr (by decide) tk (gl_of (by kernel_rfl)) (ja_cons rfl (je_var (i := 0) rfl (.inl (by kernel_rfl)) rfl rfl) ja_nil) (consA_len nilA_len) (by decide) rfl rfl) (ja_cons rfl (je_var (i := 1) rfl (.inl (by kernel_rfl)) rfl rfl) (ja_cons rfl (je_tup (ja_cons rfl (je_tup ja_nil) (ja_cons rfl (je_blt bv_tuple T.b_tuple (gl_of (by kernel_rfl)) (ja_cons rfl (JF.frz (jf_blt bf_sorted T.b_sorted (gl_of (by kernel_rfl)) (ja_cons rfl (je_own (o_all_entries T hT) hr (by decide) tk (gl_of (by kernel_rfl)) (ja_cons rfl (je_ixA (fun _ _ => rfl) (je_var (i := 0) rfl (.inl (by kernel_rfl)) rfl rfl) (je_var (i := 1) rfl (.inl (by kernel_rfl)) rfl rfl)) ja_nil) (consA_len nilA_len) (by decide) rfl rfl) ja_nil) rfl rfl)) ja_nil) rfl rfl) (ja_cons rfl (je_tup ja_nil) ja_nil)))) ja_nil))) (consA_len (consA_len (consA_len nilA_len))) (by decide) rfl rfl)) jss_nil)))
theorem o_Recorder__forget (T : Txt K mg base T0) (hT : LT.T = T0) : MetP P w K mg base "Recorder" "forget" 5 ["self", "node"] d_Recorder__forget := met_ok T.m_Recorder__forget c_Recorder__forget fun f cdv A outer s H E hr tk hp => (show JSs _ _ _ m_Recorder__forget from (jss_cons (js_expr (je_mth tk_append (je_obF T.na_own_journal (je_var (i := 0) rfl (.inl (by kernel_rfl)) rfl rfl) rfl) (ja_cons rfl (je_tup (ja_cons rfl (je_kStr (gl_of (by kernel_rfl)) T.ks_BEGIN (by decide)) (ja_cons rfl je_str ja_nil))) ja_nil) rfl rfl rfl rfl rfl) rfl) (jss_cons (js_finN rfl rfl rfl tk (fun W3 pn3 xe3 tk3 hp3 => (jss_cons (js_expr (je_mth tk_append (je_obF T.na_own_states (je_var (i := 0) rfl (.inl (by kernel_rfl)) rfl rfl) rfl) (ja_cons rfl (je_tup (ja_cons rfl (je_met0 (o_Recorder__trace T hT) hr (by decide) tk3 (je_var (i := 0) rfl (.inl (by kernel_rfl)) rfl rfl) rfl rfl) (ja_cons rfl (je_own (o_forgotten T hT) hr (by decide) tk3 (gl_of (by kernel_rfl)) (ja_cons rfl (je_met0 (o_Recorder__partial T hT) hr (by decide) tk3 (je_var (i := 0) rfl (.inl (by kernel_rfl)) rfl rfl) rfl rfl) (ja_cons rfl (je_var (i := 1) rfl (.inl (by kernel_rfl)) rfl rfl) ja_nil)) (consA_len (consA_len nilA_len)) (by decide) rfl rfl) ja_nil))) ja_nil) rfl rfl rfl rfl rfl) rfl) jss_nil)) (jss_cons (js_expr (je_mth tk_append (je_obF T.na_own_journal (je_var (i := 0) rfl (.inl (by kernel_rfl)) rfl rfl) rfl) (ja_cons rfl (je_tup (ja_cons rfl (je_kStr (gl_of (by kernel_rfl)) T.ks_END (by decide)) (ja_cons rfl je_str ja_nil))) ja_nil) rfl rfl rfl rfl rfl) rfl) jss_nil) (fun _ _ => (jss_cons (js_expr (je_mth tk_append (je_obF T.na_own_journal (je_var (i := 0) rfl (.inl (by kernel_rfl)) rfl rfl) rfl) (ja_cons rfl (je_tup (ja_cons rfl (je_kStr (gl_of (by kernel_rfl)) T.ks_END (by decide)) (ja_cons rfl je_str ja_nil))) ja_nil) rfl rfl rfl rfl rfl) rfl) jss_nil))) jss_nil)))
theorem o_Recorder__undo (T : Txt K mg base T0) (hT : LT.T = T0) : MetP P w K mg base "Recorder" "undo" 1 ["self"] d_Recorder__undo := met_ok T.m_Recorder__undo c_Recorder__undo fun f cdv A outer s H E hr tk hp => (show JSs _ _ _ m_Recorder__undo from (jss_cons (js_expr (je_mth tk_append (je_obF T.na_own_journal (je_var (i := 0) rfl (.inl (by kernel_rfl)) rfl rfl) rfl) (ja_cons rfl (je_tup (ja_cons rfl (je_kStr (gl_of (by kernel_rfl)) T.ks_BEGIN (by decide)) (ja_cons rfl je_str ja_nil))) ja_nil) rfl rfl rfl rfl rfl) rfl) (jss_cons (js_asg (je_cmpV cv_gt rfl (je_blt bv_len T.b_len (gl_of (by kernel_rfl)) (ja_cons rfl (je_obF T.na_own_states (je_var (i := 0) rfl (.inl (by kernel_rfl)) rfl rfl) rfl) ja_nil) rfl rfl) je_int) (jg_name (i := 1) c_Recorder__undo.nd rfl (.inl (by kernel_rfl)) (.inl rfl)) (by kernel_rfl) (by kernel_rfl) rfl) (jss_cons (js_if (jt_val (je_var (i := 1) rfl (.inl (by kernel_rfl)) rfl rfl) fun _ => rfl) (jss_cons (js_expr (je_mth0 tk_pop (je_obF T.na_own_states (je_var (i := 0) rfl (.inl (by kernel_rfl)) rfl rfl) rfl) rfl rfl) rfl) jss_nil) jss_nil) (jss_cons (js_expr (je_mth tk_append (je_obF T.na_own_journal (je_var (i := 0) rfl (.inl (by kernel_rfl)) rfl rfl) rfl) (ja_cons rfl (je_tup (ja_cons rfl (je_kStr (gl_of (by kernel_rfl)) T.ks_END (by decide)) (ja_cons rfl je_str ja_nil))) ja_nil) rfl rfl rfl rfl rfl) rfl) (jss_cons (js_ret (je_var (i := 1) rfl (.inl (by kernel_rfl)) rfl rfl)) jss_nil))))))
theorem o_moved (T : Txt K mg base T0) (hT : LT.T = T0) : OwnP P w K mg base "moved" 2 ["state", "node"] d_moved := own_ok T.f_moved c_moved fun f cdv A outer s H E hr tk hp => (show JSs _ _ _ m_moved from (jss_cons (js_asg (je_var (i := 0) rfl (.inl (by kernel_rfl)) rfl rfl) (jg_tup rfl (jgs_cons (jg_name (i := 2) c_moved.nd rfl (.inl (by kernel_rfl)) (.inl rfl)) (jgs_cons (jg_name (i := 3) c_moved.nd rfl (.inl (by kernel_rfl)) (.inl rfl)) jgs_nil rfl) rfl) rfl rfl) (by kernel_rfl) (by kernel_rfl) rfl) (jss_cons (js_asg (je_ixA (fun _ _ => rfl) (je_own (o_copied T hT) hr (by decide) tk (gl_of (by kernel_rfl)) (ja_cons rfl (je_var (i := 3) rfl (.inl (by kernel_rfl)) rfl rfl) ja_nil) (consA_len nilA_len) (by decide) rfl rfl) (je_ixA (fun _ _ => rfl) (je_var (i := 2) rfl (.inl (by kernel_rfl)) rfl rfl) (je_neg je_int))) (jg_tup rfl (jgs_cons (jg_name (i := 4) c_moved.nd rfl (.inl (by kernel_rfl)) (.inl rfl)) (jgs_cons (jg_name (i := 5) c_moved.nd rfl (.inl (by kernel_rfl)) (.inl rfl)) (jgs_cons (jg_name (i := 6) c_moved.nd rfl (.inl (by kernel_rfl)) (.inl rfl)) jgs_nil rfl) rfl) rfl) rfl rfl) (by kernel_rfl) (by kernel_rfl) rfl) (jss_cons (js_asg (je_ite (jt_bool (jw_and (jt_cmpV (cv_eq hr) rfl (je_var (i := 5) rfl (.inl (by kernel_rfl)) rfl rfl) (je_tup ja_nil)) (jw_and1 (jt_cmpV (cv_eq hr) rfl (je_var (i := 6) rfl (.inl (by kernel_rfl)) rfl rfl) (je_tup ja_nil))))) (je_tup (ja_cons rfl (je_add (je_var (i := 4) rfl (.inl (by kernel_rfl)) rfl rfl) (je_tup (ja_cons rfl (je_var (i := 1) rfl (.inl (by kernel_rfl)) rfl rfl) ja_nil))) (ja_cons rfl (je_var (i := 5) rfl (.inl (by kernel_rfl)) rfl rfl) (ja_cons rfl (je_var (i := 6) rfl (.inl (by kernel_rfl)) rfl rfl) ja_nil)))) (je_tup (ja_cons rfl (je_var (i := 4) rfl (.inl (by kernel_rfl)) rfl rfl) (ja_cons rfl (je_var (i := 5) rfl (.inl (by kernel_rfl)) rfl rfl) (ja_cons rfl (je_add (je_var (i := 6) rfl (.inl (by kernel_rfl)) rfl rfl) (je_tup (ja_cons rfl (je_var (i := 1) rfl (.inl (by kernel_rfl)) rfl rfl) ja_nil))) ja_nil))))) (jg_name (i := 7) c_moved.nd rfl (.inl (by kernel_rfl)) (.inl rfl)) (by kernel_rfl) (by kernel_rfl) rfl) (jss_cons (js_ret (je_tup (ja_cons rfl (je_add (je_var (i := 2) rfl (.inl (by kernel_rfl)) rfl rfl) (je_tup (ja_cons rfl (je_var (i := 1) rfl (.inl (by kernel_rfl)) rfl rfl) ja_nil))) (ja_cons rfl (je_own (o_with_page T hT) hr (by decide) tk (gl_of (by kernel_rfl)) (ja_cons rfl (je_var (i := 3) rfl (.inl (by kernel_rfl)) rfl rfl) (ja_cons rfl (je_ixA (fun _ _ => rfl) (je_var (i := 2) rfl (.inl (by kernel_rfl)) rfl rfl) (je_neg je_int)) (ja_cons rfl (je_var (i := 7) rfl (.inl (by kernel_rfl)) rfl rfl) ja_nil))) (consA_len (consA_len (consA_len nilA_len))) (by decide) rfl rfl) ja_nil)))) jss_nil)))))
theorem o_Recorder__step (T : Txt K mg base T0) (hT : LT.T = T0) : MetP P w K mg base "Recorder" "step" 4 ["self", "node"] d_Recorder__step := met_ok T.m_Recorder__step c_Recorder__step fun f cdv A outer s H E hr tk hp => (show JSs _ _ _ m_Recorder__step from (jss_cons (js_expr (je_mth tk_append (je_obF T.na_own_journal (je_var (i := 0) rfl (.inl (by kernel_rfl)) rfl rfl) rfl) (ja_cons rfl (je_tup (ja_cons rfl (je_kStr (gl_of (by kernel_rfl)) T.ks_BEGIN (by decide)) (ja_cons rfl je_str ja_nil))) ja_nil) rfl rfl rfl rfl rfl) rfl) (jss_cons (js_finR rfl rfl rfl rfl tk (fun W3 pn3 xe3 tk3 hp3 => (jss_cons (js_expr (je_own (o_look_node T hT) hr (by decide) tk3 (gl_of (by kernel_rfl)) (ja_cons rfl (je_blt bv_len T.b_len (gl_of (by kernel_rfl)) (ja_cons rfl (je_met0 (o_Recorder__partial T hT) hr (by decide) tk3 (je_var (i := 0) rfl (.inl (by kernel_rfl)) rfl rfl) rfl rfl) ja_nil) rfl rfl) (ja_cons rfl (je_var (i := 1) rfl (.inl (by kernel_rfl)) rfl rfl) ja_nil)) (consA_len (consA_len nilA_len)) (by decide) rfl rfl) rfl) (jss_cons (js_asg (je_mth (tk_count hr) (je_met0 (o_Recorder__trace T hT) hr (by decide) tk3 (je_var (i := 0) rfl (.inl (by kernel_rfl)) rfl rfl) rfl rfl) (ja_cons rfl (je_var (i := 1) rfl (.inl (by kernel_rfl)) rfl rfl) ja_nil) rfl rfl rfl rfl rfl) (jg_name (i := 2) c_Recorder__step.nd rfl (.inl (by kernel_rfl)) (.inl rfl)) (by kernel_rfl) (by kernel_rfl) rfl) (jss_cons (js_expr (je_mth tk_append (je_obF T.na_own_states (je_var (i := 0) rfl (.inl (by kernel_rfl)) rfl rfl) rfl) (ja_cons rfl (je_own (o_moved T hT) hr (by decide) tk3 (gl_of (by kernel_rfl)) (ja_cons rfl (je_ixA (fun _ _ => rfl) (je_obF T.na_own_states (je_var (i := 0) rfl (.inl (by kernel_rfl)) rfl rfl) rfl) (je_neg je_int)) (ja_cons rfl (je_var (i := 1) rfl (.inl (by kernel_rfl)) rfl rfl) ja_nil)) (consA_len (consA_len nilA_len)) (by decide) rfl rfl) ja_nil) rfl rfl rfl rfl rfl) rfl) jss_nil)))) (fun W3 pn3 xe3 tk3 hp3 => (je_var (i := 2) rfl (.inl (by kernel_rfl)) rfl rfl)) (jss_cons (js_expr (je_mth tk_append (je_obF T.na_own_journal (je_var (i := 0) rfl (.inl (by kernel_rfl)) rfl rfl) rfl) (ja_cons rfl (je_tup (ja_cons rfl (je_kStr (gl_of (by kernel_rfl)) T.ks_END (by decide)) (ja_cons rfl je_str ja_nil))) ja_nil) rfl rfl rfl rfl rfl) rfl) jss_nil) (fun _ _ => (jss_cons (js_expr (je_mth tk_append (je_obF T.na_own_journal (je_var (i := 0) rfl (.inl (by kernel_rfl)) rfl rfl) rfl) (ja_cons rfl (je_tup (ja_cons rfl (je_kStr (gl_of (by kernel_rfl)) T.ks_END (by decide)) (ja_cons rfl je_str ja_nil))) ja_nil) rfl rfl rfl rfl rfl) rfl) jss_nil))) jss_nil)))
theorem o_Recorder__walk (T : Txt K mg base T0) (hT : LT.T = T0) : MetP P w K mg base "Recorder" "walk" 4 ["self", "nodes"] d_Recorder__walk := met_ok T.m_Recorder__walk c_Recorder__walk fun f cdv A outer s H E hr tk hp => (show JSs _ _ _ m_Recorder__walk from (jss_cons (js_expr (je_mth tk_append (je_obF T.na_own_journal (je_var (i := 0) rfl (.inl (by kernel_rfl)) rfl rfl) rfl) (ja_cons rfl (je_tup (ja_cons rfl (je_kStr (gl_of (by kernel_rfl)) T.ks_BEGIN (by decide)) (ja_cons rfl je_str ja_nil))) ja_nil) rfl rfl rfl rfl rfl) rfl) (jss_cons (js_finR rfl rfl rfl rfl tk (fun W3 pn3 xe3 tk3 hp3 => (jss_cons (js_for hp3 rfl (ji_src (je_var (i := 1) rfl (.inl (by kernel_rfl)) rfl rfl)) (jg_name (i := 2) c_Recorder__walk.nd rfl (.inl (by kernel_rfl)) (.inl rfl)) (jss_cons (js_expr (je_own (o_look_node T hT) hr (by decide) tk3 (gl_of (by kernel_rfl)) (ja_cons rfl (je_blt bv_len T.b_len (gl_of (by kernel_rfl)) (ja_cons rfl (je_met0 (o_Recorder__partial T hT) hr (by decide) tk3 (je_var (i := 0) rfl (.inl (by kernel_rfl)) rfl rfl) rfl rfl) ja_nil) rfl rfl) (ja_cons rfl (je_var (i := 2) rfl (.inl (by kernel_rfl)) rfl rfl) ja_nil)) (consA_len (consA_len nilA_len)) (by decide) rfl rfl) rfl) jss_nil) fun _ => rfl) (jss_cons (js_par (i := 3) (j := 4) rfl c_Recorder__walk.nd rfl rfl (by decide) (by kernel_rfl) (by kernel_rfl) (ja_cons rfl (je_ixA (fun _ _ => rfl) (je_obF T.na_own_states (je_var (i := 0) rfl (.inl (by kernel_rfl)) rfl rfl) rfl) (je_neg je_int)) (ja_cons rfl (JF.new (jf_lst ja_nil)) ja_nil)) (by kernel_rfl) rfl) (jss_cons (js_for hp3 rfl (ji_src (je_var (i := 1) rfl (.inl (by kernel_rfl)) rfl rfl)) (jg_name (i := 2) c_Recorder__walk.nd rfl (.inl (by kernel_rfl)) (.inl rfl)) (jss_cons (js_expr (je_mth tk_append (je_var (i := 4) rfl (.inl (by kernel_rfl)) rfl rfl) (ja_cons rfl (je_mth (tk_count hr) (je_ixA (fun _ _ => rfl) (je_var (i := 3) rfl (.inl (by kernel_rfl)) rfl rfl) je_int) (ja_cons rfl (je_var (i := 2) rfl (.inl (by kernel_rfl)) rfl rfl) ja_nil) rfl rfl rfl rfl rfl) ja_nil) rfl rfl rfl rfl rfl) rfl) (jss_cons (js_asg (je_own (o_moved T hT) hr (by decide) tk3 (gl_of (by kernel_rfl)) (ja_cons rfl (je_var (i := 3) rfl (.inl (by kernel_rfl)) rfl rfl) (ja_cons rfl (je_var (i := 2) rfl (.inl (by kernel_rfl)) rfl rfl) ja_nil)) (consA_len (consA_len nilA_len)) (by decide) rfl rfl) (jg_name (i := 3) c_Recorder__walk.nd rfl (.inl (by kernel_rfl)) (.inl rfl)) (by kernel_rfl) (by kernel_rfl) rfl) jss_nil)) fun _ => rfl) (jss_cons (js_expr (je_mth tk_append (je_obF T.na_own_states (je_var (i := 0) rfl (.inl (by kernel_rfl)) rfl rfl) rfl) (ja_cons rfl (je_var (i := 3) rfl (.inl (by kernel_rfl)) rfl rfl) ja_nil) rfl rfl rfl rfl rfl) rfl) jss_nil))))) (fun W3 pn3 xe3 tk3 hp3 => (je_var (i := 4) rfl (.inl (by kernel_rfl)) rfl rfl)) (jss_cons (js_expr (je_mth tk_append (je_obF T.na_own_journal (je_var (i := 0) rfl (.inl (by kernel_rfl)) rfl rfl) rfl) (ja_cons rfl (je_tup (ja_cons rfl (je_kStr (gl_of (by kernel_rfl)) T.ks_END (by decide)) (ja_cons rfl je_str ja_nil))) ja_nil) rfl rfl rfl rfl rfl) rfl) jss_nil) (fun _ _ => (jss_cons (js_expr (je_mth tk_append (je_obF T.na_own_journal (je_var (i := 0) rfl (.inl (by kernel_rfl)) rfl rfl) rfl) (ja_cons rfl (je_tup (ja_cons rfl (je_kStr (gl_of (by kernel_rfl)) T.ks_END (by decide)) (ja_cons rfl je_str ja_nil))) ja_nil) rfl rfl rfl rfl rfl) rfl) jss_nil))) jss_nil)))
theorem o_Recorder__add_node (T : Txt K mg base T0) (hT : LT.T = T0) : MetP P w K mg base "Recorder" "add_node" 3 ["self"] d_Recorder__add_node := met_ok T.m_Recorder__add_node c_Recorder__add_node fun f cdv A outer s H E hr tk hp => (show JSs _ _ _ m_Recorder__add_node from (jss_cons (js_expr (je_mth tk_append (je_obF T.na_own_journal (je_var (i := 0) rfl (.inl (by kernel_rfl)) rfl rfl) rfl) (ja_cons rfl (je_tup (ja_cons rfl (je_kStr (gl_of (by kernel_rfl)) T.ks_BEGIN (by decide)) (ja_cons rfl je_str ja_nil))) ja_nil) rfl rfl rfl rfl rfl) rfl) (jss_cons (js_finR rfl rfl rfl rfl tk (fun W3 pn3 xe3 tk3 hp3 => (jss_cons (js_asg (je_blt bv_len T.b_len (gl_of (by kernel_rfl)) (ja_cons rfl (je_met0 (o_Recorder__partial T hT) hr (by decide) tk3 (je_var (i := 0) rfl (.inl (by kernel_rfl)) rfl rfl) rfl rfl) ja_nil) rfl rfl) (jg_name (i := 1) c_Recorder__add_node.nd rfl (.inl (by kernel_rfl)) (.inl rfl)) (by kernel_rfl) (by kernel_rfl) rfl) (jss_cons (js_if (jt_cmpV cv_ge rfl (je_var (i := 1) rfl (.inl (by kernel_rfl)) rfl rfl) (je_kInt (gl_of (by kernel_rfl)) T.k_MOST_NODES_recorder (by decide))) (jss_cons (js_raiseF (r_Full T) (hr.mono (by decide)) rfl tk3 (gl_of (by kernel_rfl)) (je_kInt (gl_of (by kernel_rfl)) T.k_MOST_NODES_recorder (by decide)) rfl rfl (by decide)) jss_nil) jss_nil) (jss_cons (js_expr (je_mth tk_append (je_obF T.na_own_states (je_var (i := 0) rfl (.inl (by kernel_rfl)) rfl rfl) rfl) (ja_cons rfl (je_tup (ja_cons rfl (je_met0 (o_Recorder__trace T hT) hr (by decide) tk3 (je_var (i := 0) rfl (.inl (by kernel_rfl)) rfl rfl) rfl rfl) (ja_cons rfl (je_add (je_met0 (o_Recorder__partial T hT) hr (by decide) tk3 (je_var (i := 0) rfl (.inl (by kernel_rfl)) rfl rfl) rfl rfl) (je_tup (ja_cons rfl (je_tup (ja_cons rfl (je_tup ja_nil) (ja_cons rfl (je_tup ja_nil) (ja_cons rfl (je_tup ja_nil) ja_nil)))) ja_nil))) ja_nil))) ja_nil) rfl rfl rfl rfl rfl) rfl) jss_nil)))) (fun W3 pn3 xe3 tk3 hp3 => (je_var (i := 1) rfl (.inl (by kernel_rfl)) rfl rfl)) (jss_cons (js_expr (je_mth tk_append (je_obF T.na_own_journal (je_var (i := 0) rfl (.inl (by kernel_rfl)) rfl rfl) rfl) (ja_cons rfl (je_tup (ja_cons rfl (je_kStr (gl_of (by kernel_rfl)) T.ks_END (by decide)) (ja_cons rfl je_str ja_nil))) ja_nil) rfl rfl rfl rfl rfl) rfl) jss_nil) (fun _ _ => (jss_cons (js_expr (je_mth tk_append (je_obF T.na_own_journal (je_var (i := 0) rfl (.inl (by kernel_rfl)) rfl rfl) rfl) (ja_cons rfl (je_tup (ja_cons rfl (je_kStr (gl_of (by kernel_rfl)) T.ks_END (by decide)) (ja_cons rfl je_str ja_nil))) ja_nil) rfl rfl rfl rfl rfl) rfl) jss_nil))) jss_nil)))
def m_command : Rho → Sto → RS := (seqS (ifS (toB (bi (varM 1) (conM (.str "step")) (lift2 eqD))) (seqS (retS (appM (consA (metM "Recorder" "step" d_Recorder__step (varM 0) (consA (bi (varM 2) (conM (.int 0)) ixA) nilA)) nilA) (on1 strD))) skipS) skipS) (seqS (ifS (toB (bi (varM 1) (conM (.str "walk")) (lift2 eqD))) (seqS (retS (callM d_words_of (consA (metM "Recorder" "walk" d_Recorder__walk (varM 0) (consA (varM 2) nilA)) nilA))) skipS) skipS) (seqS (ifS (toB (bi (varM 1) (conM (.str "forget")) (lift2 eqD))) (seqS (exprS (metM "Recorder" "forget" d_Recorder__forget (varM 0) (consA (bi (varM 2) (conM (.int 0)) ixA) nilA))) (seqS (retS (conM (.str "done"))) skipS)) skipS) (seqS (ifS (toB (bi (varM 1) (conM (.str "add")) (lift2 eqD))) (seqS (retS (appM (consA (metM "Recorder" "add_node" d_Recorder__add_node (varM 0) nilA) nilA) (on1 strD))) skipS) skipS) (seqS (retS (iteM (toB (metM "Recorder" "undo" d_Recorder__undo (varM 0) nilA)) (conM (.str "yes")) (conM (.str "no")))) skipS)))))
def d_command : FV := bodyF 3 m_command
theorem o_command (T : Txt K mg base T0) (hT : LT.T = T0) : OwnP P w K mg base "command" 6 ["recorder", "word", "numbers"] d_command := own_ok T.f_command c_command fun f cdv A outer s H E hr tk hp => (show JSs _ _ _ m_command from (jss_cons (js_if (jt_cmpV (cv_eq hr) rfl (je_var (i := 1) rfl (.inl (by kernel_rfl)) rfl rfl) je_str) (jss_cons (js_ret (je_blt bv_str T.b_str (gl_of (by kernel_rfl)) (ja_cons rfl (je_met (o_Recorder__step T hT) hr (by decide) tk (je_var (i := 0) rfl (.inl (by kernel_rfl)) rfl rfl) (ja_cons rfl (je_ixA (fun _ _ => rfl) (je_var (i := 2) rfl (.inl (by kernel_rfl)) rfl rfl) je_int) ja_nil) (fun ρ st vs st2 e => congrArg (· + 1) ((consA_len nilA_len) ρ st vs st2 e)) rfl rfl rfl) ja_nil) rfl rfl)) jss_nil) jss_nil) (jss_cons (js_if (jt_cmpV (cv_eq hr) rfl (je_var (i := 1) rfl (.inl (by kernel_rfl)) rfl rfl) je_str) (jss_cons (js_ret (je_own (o_words_of T hT) hr (by decide) tk (gl_of (by kernel_rfl)) (ja_cons rfl (je_met (o_Recorder__walk T hT) hr (by decide) tk (je_var (i := 0) rfl (.inl (by kernel_rfl)) rfl rfl) (ja_cons rfl (je_var (i := 2) rfl (.inl (by kernel_rfl)) rfl rfl) ja_nil) (fun ρ st vs st2 e => congrArg (· + 1) ((consA_len nilA_len) ρ st vs st2 e)) rfl rfl rfl) ja_nil) (consA_len nilA_len) (by decide) rfl rfl)) jss_nil) jss_nil) (jss_cons (js_if (jt_cmpV (cv_eq hr) rfl (je_var (i := 1) rfl (.inl (by kernel_rfl)) rfl rfl) je_str) (jss_cons (js_expr (je_met (o_Recorder__forget T hT) hr (by decide) tk (je_var (i := 0) rfl (.inl (by kernel_rfl)) rfl rfl) (ja_cons rfl (je_ixA (fun _ _ => rfl) (je_var (i := 2) rfl (.inl (by kernel_rfl)) rfl rfl) je_int) ja_nil) (fun ρ st vs st2 e => congrArg (· + 1) ((consA_len nilA_len) ρ st vs st2 e)) rfl rfl rfl) rfl) (jss_cons (js_ret je_str) jss_nil)) jss_nil) (jss_cons (js_if (jt_cmpV (cv_eq hr) rfl (je_var (i := 1) rfl (.inl (by kernel_rfl)) rfl rfl) je_str) (jss_cons (js_ret (je_blt bv_str T.b_str (gl_of (by kernel_rfl)) (ja_cons rfl (je_met0 (o_Recorder__add_node T hT) hr (by decide) tk (je_var (i := 0) rfl (.inl (by kernel_rfl)) rfl rfl) rfl rfl) ja_nil) rfl rfl)) jss_nil) jss_nil) (jss_cons (js_ret (je_ite (jt_val (je_met0 (o_Recorder__undo T hT) hr (by decide) tk (je_var (i := 0) rfl (.inl (by kernel_rfl)) rfl rfl) rfl rfl) fun _ => rfl) je_str je_str)) jss_nil))))))
def m_answer : Rho → Sto → RS := (seqS (tryC2 exl "NoNode" "Full" (seqS (retS (conM (.str "error NoNode"))) skipS) (seqS (retS (conM (.str "error Full"))) skipS) (seqS (ifS (toB (bi (varM 1) (tupM (consA (conM (.str "step")) (consA (conM (.str "walk")) (consA (conM (.str "forget")) (consA (conM (.str "add")) (consA (conM (.str "undo")) nilA)))))) (lift2 (inD false)))) (seqS (retS (callM d_command (consA (varM 0) (consA (varM 1) (consA (varM 2) nilA))))) skipS) skipS) (seqS (retS (callM d_query (consA (varM 0) (consA (varM 1) (consA (varM 2) nilA))))) skipS))) skipS)
def d_answer : FV := bodyF 3 m_answer
theorem o_answer (T : Txt K mg base T0) (hT : LT.T = T0) : OwnP P w K mg base "answer" 7 ["recorder", "word", "numbers"] d_answer := own_ok T.f_answer c_answer fun f cdv A outer s H E hr tk hp => (show JSs _ _ _ m_answer from (jss_cons (js_tryC2 T.x_ok rfl rfl tk (gl_of (by kernel_rfl)) (gl_of (by kernel_rfl)) (by decide) (by decide) (by decide) (by decide) (fun W3 pn3 xe3 tk3 hp3 => (jss_cons (js_if (jt_cmpV (cv_in hr) rfl (je_var (i := 1) rfl (.inl (by kernel_rfl)) rfl rfl) (je_tup (ja_cons rfl je_str (ja_cons rfl je_str (ja_cons rfl je_str (ja_cons rfl je_str (ja_cons rfl je_str ja_nil))))))) (jss_cons (js_ret (je_own (o_command T hT) hr (by decide) tk3 (gl_of (by kernel_rfl)) (ja_cons rfl (je_var (i := 0) rfl (.inl (by kernel_rfl)) rfl rfl) (ja_cons rfl (je_var (i := 1) rfl (.inl (by kernel_rfl)) rfl rfl) (ja_cons rfl (je_var (i := 2) rfl (.inl (by kernel_rfl)) rfl rfl) ja_nil))) (consA_len (consA_len (consA_len nilA_len))) (by decide) rfl rfl)) jss_nil) jss_nil) (jss_cons (js_ret (je_own (o_query T hT) hr (by decide) tk3 (gl_of (by kernel_rfl)) (ja_cons rfl (je_var (i := 0) rfl (.inl (by kernel_rfl)) rfl rfl) (ja_cons rfl (je_var (i := 1) rfl (.inl (by kernel_rfl)) rfl rfl) (ja_cons rfl (je_var (i := 2) rfl (.inl (by kernel_rfl)) rfl rfl) ja_nil))) (consA_len (consA_len (consA_len nilA_len))) (by decide) rfl rfl)) jss_nil))) (fun _ _ _ _ _ z => by cases z) (fun _ _ _ _ _ z => by cases z) (fun _ _ => (jss_cons (js_ret je_str) jss_nil)) (fun _ _ => (jss_cons (js_ret je_str) jss_nil))) jss_nil))
def m_answers : Rho → Sto → RS := (seqS (asgS (callM d_read_lines (consA (varM 0) nilA)) (.tp (.cons (.nm 1) (.cons (.nm 2) (.cons (.nm 3) .nil))))) (seqS (asgS (makM "Recorder" d_Recorder__init (consA (varM 1) (consA (varM 2) nilA))) (.nm 4)) (seqS (retS (frzM (compM (srcM (varM 3)) (.tp (.cons (.nm 5) (.cons (.nm 6) .nil))) ([("word", 5), ("numbers", 6)].map (·.2)) tYesM (callM d_answer (consA (varM 4) (consA (varM 5) (consA (varM 6) nilA))))))) skipS)))
def d_answers : FV := bodyF 7 m_answers
theorem o_answers (T : Txt K mg base T0) (hT : LT.T = T0) : OwnP P w K mg base "answers" 8 ["text"] d_answers := own_ok T.f_answers c_answers fun f cdv A outer s H E hr tk hp => (show JSs _ _ _ m_answers from (jss_cons (js_asg (je_own (o_read_lines T hT) hr (by decide) tk (gl_of (by kernel_rfl)) (ja_cons rfl (je_var (i := 0) rfl (.inl (by kernel_rfl)) rfl rfl) ja_nil) (consA_len nilA_len) (by decide) rfl rfl) (jg_tup rfl (jgs_cons (jg_name (i := 1) c_answers.nd rfl (.inl (by kernel_rfl)) (.inl rfl)) (jgs_cons (jg_name (i := 2) c_answers.nd rfl (.inl (by kernel_rfl)) (.inl rfl)) (jgs_cons (jg_name (i := 3) c_answers.nd rfl (.inl (by kernel_rfl)) (.inl rfl)) jgs_nil rfl) rfl) rfl) rfl rfl) (by kernel_rfl) (by kernel_rfl) rfl) (jss_cons (js_asg (je_mak T.mk_Recorder (o_Recorder__init T hT) hr (by decide) tk (gl_of (by kernel_rfl)) (ja_cons rfl (je_var (i := 1) rfl (.inl (by kernel_rfl)) rfl rfl) (ja_cons rfl (je_var (i := 2) rfl (.inl (by kernel_rfl)) rfl rfl) ja_nil)) (fun ρ st vs st2 e => congrArg (· + 1) ((consA_len (consA_len nilA_len)) ρ st vs st2 e)) (by decide) rfl rfl) (jg_name (i := 4) c_answers.nd rfl (.inr (by kernel_rfl)) (.inl rfl)) (by kernel_rfl) (by kernel_rfl) rfl) (jss_cons (js_ret (JF.frz (jf_lc rfl c_answers.nd (ji_src (je_var (i := 3) rfl (.inl (by kernel_rfl)) rfl rfl)) (blkOk_by (own := [("word", 5), ("numbers", 6)]) (by kernel_rfl)) (fun _ _ _ _ _ => (jg_tup rfl (jgs_cons (jg_name (i := 5) c_answers.nd rfl (.inl (by kernel_rfl)) (.inr (by kernel_rfl))) (jgs_cons (jg_name (i := 6) c_answers.nd rfl (.inl (by kernel_rfl)) (.inr (by kernel_rfl))) jgs_nil rfl) rfl) rfl rfl)) (fun _ _ _ _ _ => jts_nil) (fun _ _ _ _ _ => (je_own (o_answer T hT) (by exact hr) (by decide) takes0 (gl_of (by kernel_rfl)) (ja_cons rfl (je_var (i := 4) rfl (.inr (.inl (by kernel_rfl))) rfl rfl) (ja_cons rfl (je_var (i := 5) rfl (.inl (by kernel_rfl)) rfl rfl) (ja_cons rfl (je_var (i := 6) rfl (.inl (by kernel_rfl)) rfl rfl) ja_nil))) (consA_len (consA_len (consA_len nilA_len))) (by decide) rfl rfl)) (fun _ => rfl) (by decide)))) jss_nil))))
theorem o__law_equal (T : Txt K mg base T0) (hT : LT.T = T0) : ∀ n, OwnP P w K mg base "_law_equal" (0 + n) ["_law_found", "_law_due"] (d__law_equal n)
  | 0 => own_zero _ T.f__law_equal
  | n + 1 => own_ok T.f__law_equal c__law_equal fun f cdv A outer s H E hr tk hp => by
    have ih := o__law_equal T hT n
    exact (show JSs _ _ _ (m__law_equal (d__law_equal n)) from (jss_cons (js_if (jt_val (je_isi2 ⟨bb_list, T.b_list, gl_of (by kernel_rfl), by decide, by decide, nofun⟩ ⟨bb_tuple, T.b_tuple, gl_of (by kernel_rfl), by decide, by decide, nofun⟩ T.b_isinstance (gl_of (by kernel_rfl)) (je_var (i := 1) rfl (.inl (by kernel_rfl)) rfl rfl) rfl rfl rfl rfl rfl) fun _ => rfl) (jss_cons (js_if (jt_bool (jw_or (jt_cmpV (cv_ne hr) rfl (je_isi ⟨bb_list, T.b_list, gl_of (by kernel_rfl), by decide, by decide, nofun⟩ T.b_isinstance (gl_of (by kernel_rfl)) (je_var (i := 0) rfl (.inl (by kernel_rfl)) rfl rfl) rfl rfl rfl) (je_isi ⟨bb_list, T.b_list, gl_of (by kernel_rfl), by decide, by decide, nofun⟩ T.b_isinstance (gl_of (by kernel_rfl)) (je_var (i := 1) rfl (.inl (by kernel_rfl)) rfl rfl) rfl rfl rfl)) (jw_or1 (jt_cmpV (cv_ne hr) rfl (je_isi ⟨bb_tuple, T.b_tuple, gl_of (by kernel_rfl), by decide, by decide, nofun⟩ T.b_isinstance (gl_of (by kernel_rfl)) (je_var (i := 0) rfl (.inl (by kernel_rfl)) rfl rfl) rfl rfl rfl) (je_isi ⟨bb_tuple, T.b_tuple, gl_of (by kernel_rfl), by decide, by decide, nofun⟩ T.b_isinstance (gl_of (by kernel_rfl)) (je_var (i := 1) rfl (.inl (by kernel_rfl)) rfl rfl) rfl rfl rfl))))) (jss_cons (js_ret je_bl) jss_nil) jss_nil) (jss_cons (js_ret (je_and (je_cmpV (cv_eq hr) rfl (je_blt bv_len T.b_len (gl_of (by kernel_rfl)) (ja_cons rfl (je_var (i := 0) rfl (.inl (by kernel_rfl)) rfl rfl) ja_nil) rfl rfl) (je_blt bv_len T.b_len (gl_of (by kernel_rfl)) (ja_cons rfl (je_var (i := 1) rfl (.inl (by kernel_rfl)) rfl rfl) ja_nil) rfl rfl)) (je_one (je_blt (bv_all rfl) T.b_all (gl_of (by kernel_rfl)) (ja_cons rfl (JF.frz (jf_lc rfl c__law_equal.nd (ji_zipS (gl_of (by kernel_rfl)) T.b_zip (ja_cons rfl (je_var (i := 0) rfl (.inl (by kernel_rfl)) rfl rfl) (ja_cons rfl (je_var (i := 1) rfl (.inl (by kernel_rfl)) rfl rfl) ja_nil)) rfl rfl) (blkOk_by (own := [("_law_lone", 2), ("_law_mate", 3)]) (by kernel_rfl)) (fun _ _ _ _ _ => (jg_tup rfl (jgs_cons (jg_name (i := 2) c__law_equal.nd rfl (.inl (by kernel_rfl)) (.inr (by kernel_rfl))) (jgs_cons (jg_name (i := 3) c__law_equal.nd rfl (.inl (by kernel_rfl)) (.inr (by kernel_rfl))) jgs_nil rfl) rfl) rfl rfl)) (fun _ _ _ _ _ => jts_nil) (fun _ _ _ _ _ => (je_own ih (by exact hr) (Nat.le_refl _) takes0 (gl_of (by kernel_rfl)) (ja_cons rfl (je_var (i := 2) rfl (.inl (by kernel_rfl)) rfl rfl) (ja_cons rfl (je_var (i := 3) rfl (.inl (by kernel_rfl)) rfl rfl) ja_nil)) (consA_len (consA_len nilA_len)) (by decide) rfl rfl)) (fun _ => rfl) (by decide))) ja_nil) rfl rfl)))) jss_nil)) jss_nil) (jss_cons (js_if (jt_bool (jw_or (jt_cmpV cv_is rfl (je_var (i := 1) rfl (.inl (by kernel_rfl)) rfl rfl) je_non) (jw_or1 (jt_val (je_isi ⟨bb_str, T.b_str, gl_of (by kernel_rfl), by decide, by decide, nofun⟩ T.b_isinstance (gl_of (by kernel_rfl)) (je_var (i := 1) rfl (.inl (by kernel_rfl)) rfl rfl) rfl rfl rfl) fun _ => rfl)))) (jss_cons (js_ret (je_and (je_cmpV (cv_eq hr) rfl (je_var (i := 0) rfl (.inl (by kernel_rfl)) rfl rfl) (je_var (i := 1) rfl (.inl (by kernel_rfl)) rfl rfl)) (je_one (je_cmpV (cv_eq hr) rfl (je_isi ⟨bb_str, T.b_str, gl_of (by kernel_rfl), by decide, by decide, nofun⟩ T.b_isinstance (gl_of (by kernel_rfl)) (je_var (i := 0) rfl (.inl (by kernel_rfl)) rfl rfl) rfl rfl rfl) (je_isi ⟨bb_str, T.b_str, gl_of (by kernel_rfl), by decide, by decide, nofun⟩ T.b_isinstance (gl_of (by kernel_rfl)) (je_var (i := 1) rfl (.inl (by kernel_rfl)) rfl rfl) rfl rfl rfl))))) jss_nil) jss_nil) (jss_cons (js_ret (je_and (je_isi ⟨bb_int, T.b_int, gl_of (by kernel_rfl), by decide, by decide, nofun⟩ T.b_isinstance (gl_of (by kernel_rfl)) (je_var (i := 0) rfl (.inl (by kernel_rfl)) rfl rfl) rfl rfl rfl) (je_and (je_cmpV (cv_eq hr) rfl (je_isi ⟨bb_bool, T.b_bool, gl_of (by kernel_rfl), by decide, by decide, nofun⟩ T.b_isinstance (gl_of (by kernel_rfl)) (je_var (i := 0) rfl (.inl (by kernel_rfl)) rfl rfl) rfl rfl rfl) (je_isi ⟨bb_bool, T.b_bool, gl_of (by kernel_rfl), by decide, by decide, nofun⟩ T.b_isinstance (gl_of (by kernel_rfl)) (je_var (i := 1) rfl (.inl (by kernel_rfl)) rfl rfl) rfl rfl rfl)) (je_one (je_cmpV (cv_eq hr) rfl (je_var (i := 0) rfl (.inl (by kernel_rfl)) rfl rfl) (je_var (i := 1) rfl (.inl (by kernel_rfl)) rfl rfl)))))) jss_nil))))
def m__law_holds : Rho → Sto → RS := (seqS (asgS (frzM (lstM (consA (tupM (consA (conM (.str "walk 1 0 2 0 1")) (consA (conM (.str "0 1 0 2 1")) nilA))) (consA (tupM (consA (conM (.str "page 0")) (consA (conM (.str "1 2 1")) nilA))) (consA (tupM (consA (conM (.str "count")) (consA (conM (.str "1")) nilA))) nilA))))) (.nm 1)) (seqS (asgS (bi (varM 1) (frzM (lstM (consA (tupM (consA (conM (.str "verdict")) (consA (conM (.str "trace")) nilA))) (consA (tupM (consA (conM (.str "forget 0")) (consA (conM (.str "done")) nilA))) nilA)))) (lift2 addD)) (.nm 1)) (seqS (asgS (bi (varM 1) (frzM (lstM (consA (tupM (consA (conM (.str "page 0")) (consA (conM (.str "(1 1 2)")) nilA))) (consA (tupM (consA (conM (.str "count")) (consA (conM (.str "2")) nilA))) (consA (tupM (consA (conM (.str "verdict")) (consA (conM (.str "overdrawn 1")) nilA))) (consA (tupM (consA (conM (.str "step 7")) (consA (conM (.str "error NoNode")) nilA))) nilA)))))) (lift2 addD)) (.nm 1)) (seqS (asgS (bi (varM 1) (frzM (lstM (consA (tupM (consA (conM (.str "walk 0 2")) (consA (conM (.str "3 1")) nilA))) (consA (tupM (consA (conM (.str "page 0")) (consA (conM (.str "(1 1 2) 2")) nilA))) (consA (tupM (consA (conM (.str "page 1")) (consA (conM (.str "0 0")) nilA))) (consA (tupM (consA (conM (.str "count")) (consA (conM (.str "3")) nilA))) nilA)))))) (lift2 addD)) (.nm 1)) (seqS (asgS (bi (varM 1) (frzM (lstM (consA (tupM (consA (conM (.str "trace")) (consA (conM (.str "0 1 0 2 0 1 0 2")) nilA))) nilA))) (lift2 addD)) (.nm 1)) (seqS (asgS (bi (varM 1) (frzM (lstM (consA (tupM (consA (conM (.str "add")) (consA (conM (.str "3")) nilA))) (consA (tupM (consA (conM (.str "page 3")) (consA (conM (.str "-")) nilA))) (consA (tupM (consA (conM (.str "page 4")) (consA (conM (.str "error NoNode")) nilA))) (consA (tupM (consA (conM (.str "step 3")) (consA (conM (.str "0")) nilA))) nilA)))))) (lift2 addD)) (.nm 1)) (seqS (asgS (bi (varM 1) (frzM (lstM (consA (tupM (consA (conM (.str "current")) (consA (conM (.str "3")) nilA))) nilA))) (lift2 addD)) (.nm 1)) (seqS (asgS (bi (varM 1) (frzM (lstM (consA (tupM (consA (conM (.str "undo")) (consA (conM (.str "yes")) nilA))) (consA (tupM (consA (conM (.str "undo")) (consA (conM (.str "yes")) nilA))) (consA (tupM (consA (conM (.str "undo")) (consA (conM (.str "yes")) nilA))) (consA (tupM (consA (conM (.str "undo")) (consA (conM (.str "yes")) nilA))) (consA (tupM (consA (conM (.str "undo")) (consA (conM (.str "yes")) nilA))) nilA))))))) (lift2 addD)) (.nm 1)) (seqS (asgS (bi (varM 1) (frzM (lstM (consA (tupM (consA (conM (.str "undo")) (consA (conM (.str "no")) nilA))) nilA))) (lift2 addD)) (.nm 1)) (seqS (asgS (bi (varM 1) (frzM (lstM (consA (tupM (consA (conM (.str "trace")) (consA (conM (.str "0")) nilA))) (consA (tupM (consA (conM (.str "forget 2")) (consA (conM (.str "done")) nilA))) (consA (tupM (consA (conM (.str "page 2")) (consA (conM (.str "-")) nilA))) (consA (tupM (consA (conM (.str "count")) (consA (conM (.str "1")) nilA))) nilA)))))) (lift2 addD)) (.nm 1)) (seqS (asgS (bi (varM 1) (frzM (lstM (consA (tupM (consA (conM (.str "walk 2 2 0")) (consA (conM (.str "0 1 1")) nilA))) nilA))) (lift2 addD)) (.nm 1)) (seqS (asgS (callM d_answers (consA (mthM tb_join (conM (.str "\n")) (consA (bi (frzM (lstM (consA (conM (.str "record 3 0")) nilA))) (frzM (compM (srcM (varM 1)) (.tp (.cons (.nm 5) (.cons (.nm 6) .nil))) ([("_law_row", 5), ("_law_told", 6)].map (·.2)) tYesM (varM 5))) (lift2 addD)) nilA)) nilA)) (.nm 2)) (seqS (ifS (notB (toB (callM (d__law_equal 12) (consA (varM 2) (consA (frzM (compM (srcM (varM 1)) (.tp (.cons (.nm 5) (.cons (.nm 6) .nil))) ([("_law_row", 5), ("_law_told", 6)].map (·.2)) tYesM (varM 6))) nilA))))) (seqS (retS (conM (.bool false))) skipS) skipS) (seqS (asgS (frzM (lstM (consA (conM (.str "record 3 0")) (consA (conM (.str "walk 1 2 1")) (consA (conM (.str "forget 0")) (consA (conM (.str "verdict")) (consA (conM (.str "count")) nilA))))))) (.nm 3)) (seqS (ifS (notB (toB (callM (d__law_equal 12) (consA (callM d_answers (consA (mthM tb_join (conM (.str "\n")) (consA (varM 3) nilA)) nilA)) (consA (frzM (lstM (consA (conM (.str "0 0 1")) (consA (conM (.str "done")) (consA (conM (.str "trap 1 2")) (consA (conM (.str "1")) nilA)))))) nilA))))) (seqS (retS (conM (.bool false))) skipS) skipS) (seqS (asgS (bi (frzM (lstM (consA (conM (.str "record 10 9")) nilA))) (frzM (lstM (consA (conM (.str "add")) (consA (conM (.str "walk 0 0 9")) (consA (conM (.str "forget 0")) (consA (conM (.str "page 0")) (consA (conM (.str "page 9")) (consA (conM (.str "count")) nilA)))))))) (lift2 addD)) (.nm 3)) (seqS (asgS (bi (varM 3) (frzM (lstM (consA (conM (.str "verdict")) (consA (conM (.str "undo")) (consA (conM (.str "undo")) nilA))))) (lift2 addD)) (.nm 3)) (seqS (asgS (frzM (lstM (consA (conM (.str "error Full")) (consA (conM (.str "0 1 1")) (consA (conM (.str "done")) (consA (conM (.str "(0 9)")) (consA (conM (.str "0")) (consA (conM (.str "1")) (consA (conM (.str "trace")) (consA (conM (.str "yes")) (consA (conM (.str "yes")) nilA))))))))))) (.nm 4)) (seqS (retS (callM (d__law_equal 12) (consA (callM d_answers (consA (mthM tb_join (conM (.str "\n")) (consA (varM 3) nilA)) nilA)) (consA (varM 4) nilA)))) skipS)))))))))))))))))))
def d__law_holds : FV := bodyF 7 m__law_holds
theorem o__law_holds (T : Txt K mg base T0) (hT : LT.T = T0) : OwnP P w K mg base "_law_holds" 14 ["_law_source_here"] d__law_holds := own_ok T.f__law_holds c__law_holds fun f cdv A outer s H E hr tk hp => (show JSs _ _ _ m__law_holds from (jss_cons (js_asg (JF.frz (jf_lst (ja_cons rfl (je_tup (ja_cons rfl je_str (ja_cons rfl je_str ja_nil))) (ja_cons rfl (je_tup (ja_cons rfl je_str (ja_cons rfl je_str ja_nil))) (ja_cons rfl (je_tup (ja_cons rfl je_str (ja_cons rfl je_str ja_nil))) ja_nil))))) (jg_name (i := 1) c__law_holds.nd rfl (.inl (by kernel_rfl)) (.inl rfl)) (by kernel_rfl) (by kernel_rfl) rfl) (jss_cons (js_asg (je_add (je_var (i := 1) rfl (.inl (by kernel_rfl)) rfl rfl) (JF.frz (jf_lst (ja_cons rfl (je_tup (ja_cons rfl je_str (ja_cons rfl je_str ja_nil))) (ja_cons rfl (je_tup (ja_cons rfl je_str (ja_cons rfl je_str ja_nil))) ja_nil))))) (jg_name (i := 1) c__law_holds.nd rfl (.inl (by kernel_rfl)) (.inl rfl)) (by kernel_rfl) (by kernel_rfl) rfl) (jss_cons (js_asg (je_add (je_var (i := 1) rfl (.inl (by kernel_rfl)) rfl rfl) (JF.frz (jf_lst (ja_cons rfl (je_tup (ja_cons rfl je_str (ja_cons rfl je_str ja_nil))) (ja_cons rfl (je_tup (ja_cons rfl je_str (ja_cons rfl je_str ja_nil))) (ja_cons rfl (je_tup (ja_cons rfl je_str (ja_cons rfl je_str ja_nil))) (ja_cons rfl (je_tup (ja_cons rfl je_str (ja_cons rfl je_str ja_nil))) ja_nil))))))) (jg_name (i := 1) c__law_holds.nd rfl (.inl (by kernel_rfl)) (.inl rfl)) (by kernel_rfl) (by kernel_rfl) rfl) (jss_cons (js_asg (je_add (je_var (i := 1) rfl (.inl (by kernel_rfl)) rfl rfl) (JF.frz (jf_lst (ja_cons rfl (je_tup (ja_cons rfl je_str (ja_cons rfl je_str ja_nil))) (ja_cons rfl (je_tup (ja_cons rfl je_str (ja_cons rfl je_str ja_nil))) (ja_cons rfl (je_tup (ja_cons rfl je_str (ja_cons rfl je_str ja_nil))) (ja_cons rfl (je_tup (ja_cons rfl je_str (ja_cons rfl je_str ja_nil))) ja_nil))))))) (jg_name (i := 1) c__law_holds.nd rfl (.inl (by kernel_rfl)) (.inl rfl)) (by kernel_rfl) (by kernel_rfl) rfl) (jss_cons (js_asg (je_add (je_var (i := 1) rfl (.inl (by kernel_rfl)) rfl rfl) (JF.frz (jf_lst (ja_cons rfl (je_tup (ja_cons rfl je_str (ja_cons rfl je_str ja_nil))) ja_nil)))) (jg_name (i := 1) c__law_holds.nd rfl (.inl (by kernel_rfl)) (.inl rfl)) (by kernel_rfl) (by kernel_rfl) rfl) (jss_cons (js_asg (je_add (je_var (i := 1) rfl (.inl (by kernel_rfl)) rfl rfl) (JF.frz (jf_lst (ja_cons rfl (je_tup (ja_cons rfl je_str (ja_cons rfl je_str ja_nil))) (ja_cons rfl (je_tup (ja_cons rfl je_str (ja_cons rfl je_str ja_nil))) (ja_cons rfl (je_tup (ja_cons rfl je_str (ja_cons rfl je_str ja_nil))) (ja_cons rfl (je_tup (ja_cons rfl je_str (ja_cons rfl je_str ja_nil))) ja_nil))))))) (jg_name (i := 1) c__law_holds.nd rfl (.inl (by kernel_rfl)) (.inl rfl)) (by kernel_rfl) (by kernel_rfl) rfl) (jss_cons (js_asg (je_add (je_var (i := 1) rfl (.inl (by kernel_rfl)) rfl rfl) (JF.frz (jf_lst (ja_cons rfl (je_tup (ja_cons rfl je_str (ja_cons rfl je_str ja_nil))) ja_nil)))) (jg_name (i := 1) c__law_holds.nd rfl (.inl (by kernel_rfl)) (.inl rfl)) (by kernel_rfl) (by kernel_rfl) rfl) (jss_cons (js_asg (je_add (je_var (i := 1) rfl (.inl (by kernel_rfl)) rfl rfl) (JF.frz (jf_lst (ja_cons rfl (je_tup (ja_cons rfl je_str (ja_cons rfl je_str ja_nil))) (ja_cons rfl (je_tup (ja_cons rfl je_str (ja_cons rfl je_str ja_nil))) (ja_cons rfl (je_tup (ja_cons rfl je_str (ja_cons rfl je_str ja_nil))) (ja_cons rfl (je_tup (ja_cons rfl je_str (ja_cons rfl je_str ja_nil))) (ja_cons rfl (je_tup (ja_cons rfl je_str (ja_cons rfl je_str ja_nil))) ja_nil)))))))) (jg_name (i := 1) c__law_holds.nd rfl (.inl (by kernel_rfl)) (.inl rfl)) (by kernel_rfl) (by kernel_rfl) rfl) (jss_cons (js_asg (je_add (je_var (i := 1) rfl (.inl (by kernel_rfl)) rfl rfl) (JF.frz (jf_lst (ja_cons rfl (je_tup (ja_cons rfl je_str (ja_cons rfl je_str ja_nil))) ja_nil)))) (jg_name (i := 1) c__law_holds.nd rfl (.inl (by kernel_rfl)) (.inl rfl)) (by kernel_rfl) (by kernel_rfl) rfl) (jss_cons (js_asg (je_add (je_var (i := 1) rfl (.inl (by kernel_rfl)) rfl rfl) (JF.frz (jf_lst (ja_cons rfl (je_tup (ja_cons rfl je_str (ja_cons rfl je_str ja_nil))) (ja_cons rfl (je_tup (ja_cons rfl je_str (ja_cons rfl je_str ja_nil))) (ja_cons rfl (je_tup (ja_cons rfl je_str (ja_cons rfl je_str ja_nil))) (ja_cons rfl (je_tup (ja_cons rfl je_str (ja_cons rfl je_str ja_nil))) ja_nil))))))) (jg_name (i := 1) c__law_holds.nd rfl (.inl (by kernel_rfl)) (.inl rfl)) (by kernel_rfl) (by kernel_rfl) rfl) (jss_cons (js_asg (je_add (je_var (i := 1) rfl (.inl (by kernel_rfl)) rfl rfl) (JF.frz (jf_lst (ja_cons rfl (je_tup (ja_cons rfl je_str (ja_cons rfl je_str ja_nil))) ja_nil)))) (jg_name (i := 1) c__law_holds.nd rfl (.inl (by kernel_rfl)) (.inl rfl)) (by kernel_rfl) (by kernel_rfl) rfl) (jss_cons (js_asg (je_own (o_answers T hT) hr (by decide) tk (gl_of (by kernel_rfl)) (ja_cons rfl (je_mth tk_join je_str (ja_cons rfl (je_add (JF.frz (jf_lst (ja_cons rfl je_str ja_nil))) (JF.frz (jf_lc rfl c__law_holds.nd (ji_src (je_var (i := 1) rfl (.inl (by kernel_rfl)) rfl rfl)) (blkOk_by (own := [("_law_row", 5), ("_law_told", 6)]) (by kernel_rfl)) (fun _ _ _ _ _ => (jg_tup rfl (jgs_cons (jg_name (i := 5) c__law_holds.nd rfl (.inl (by kernel_rfl)) (.inr (by kernel_rfl))) (jgs_cons (jg_name (i := 6) c__law_holds.nd rfl (.inl (by kernel_rfl)) (.inr (by kernel_rfl))) jgs_nil rfl) rfl) rfl rfl)) (fun _ _ _ _ _ => jts_nil) (fun _ _ _ _ _ => (je_var (i := 5) rfl (.inl (by kernel_rfl)) rfl rfl)) (fun _ => rfl) (by decide)))) ja_nil) rfl rfl rfl rfl rfl) ja_nil) (consA_len nilA_len) (by decide) rfl rfl) (jg_name (i := 2) c__law_holds.nd rfl (.inl (by kernel_rfl)) (.inl rfl)) (by kernel_rfl) (by kernel_rfl) rfl) (jss_cons (js_if (jt_not (jt_val (je_own (o__law_equal T hT 12) hr (by decide) tk (gl_of (by kernel_rfl)) (ja_cons rfl (je_var (i := 2) rfl (.inl (by kernel_rfl)) rfl rfl) (ja_cons rfl (JF.frz (jf_lc rfl c__law_holds.nd (ji_src (je_var (i := 1) rfl (.inl (by kernel_rfl)) rfl rfl)) (blkOk_by (own := [("_law_row", 5), ("_law_told", 6)]) (by kernel_rfl)) (fun _ _ _ _ _ => (jg_tup rfl (jgs_cons (jg_name (i := 5) c__law_holds.nd rfl (.inl (by kernel_rfl)) (.inr (by kernel_rfl))) (jgs_cons (jg_name (i := 6) c__law_holds.nd rfl (.inl (by kernel_rfl)) (.inr (by kernel_rfl))) jgs_nil rfl) rfl) rfl rfl)) (fun _ _ _ _ _ => jts_nil) (fun _ _ _ _ _ => (je_var (i := 6) rfl (.inl (by kernel_rfl)) rfl rfl)) (fun _ => rfl) (by decide))) ja_nil)) (consA_len (consA_len nilA_len)) (by decide) rfl rfl) fun _ => rfl)) (jss_cons (js_ret je_bl) jss_nil) jss_nil) (jss_cons (js_asg (JF.frz (jf_lst (ja_cons rfl je_str (ja_cons rfl je_str (ja_cons rfl je_str (ja_cons rfl je_str (ja_cons rfl je_str ja_nil))))))) (jg_name (i := 3) c__law_holds.nd rfl (.inl (by kernel_rfl)) (.inl rfl)) (by kernel_rfl) (by kernel_rfl) rfl) (jss_cons (js_if (jt_not (jt_val (je_own (o__law_equal T hT 12) hr (by decide) tk (gl_of (by kernel_rfl)) (ja_cons rfl (je_own (o_answers T hT) hr (by decide) tk (gl_of (by kernel_rfl)) (ja_cons rfl (je_mth tk_join je_str (ja_cons rfl (je_var (i := 3) rfl (.inl (by kernel_rfl)) rfl rfl) ja_nil) rfl rfl rfl rfl rfl) ja_nil) (consA_len nilA_len) (by decide) rfl rfl) (ja_cons rfl (JF.frz (jf_lst (ja_cons rfl je_str (ja_cons rfl je_str (ja_cons rfl je_str (ja_cons rfl je_str ja_nil)))))) ja_nil)) (consA_len (consA_len nilA_len)) (by decide) rfl rfl) fun _ => rfl)) (jss_cons (js_ret je_bl) jss_nil) jss_nil) (jss_cons (js_asg (je_add (JF.frz (jf_lst (ja_cons rfl je_str ja_nil))) (JF.frz (jf_lst (ja_cons rfl je_str (ja_cons rfl je_str (ja_cons rfl je_str (ja_cons rfl je_str (ja_cons rfl je_str (ja_cons rfl je_str ja_nil))))))))) (jg_name (i := 3) c__law_holds.nd rfl (.inl (by kernel_rfl)) (.inl rfl)) (by kernel_rfl) (by kernel_rfl) rfl) (jss_cons (js_asg (je_add (je_var (i := 3) rfl (.inl (by kernel_rfl)) rfl rfl) (JF.frz (jf_lst (ja_cons rfl je_str (ja_cons rfl je_str (ja_cons rfl je_str ja_nil)))))) (jg_name (i := 3) c__law_holds.nd rfl (.inl (by kernel_rfl)) (.inl rfl)) (by kernel_rfl) (by kernel_rfl) rfl) (jss_cons (js_asg (JF.frz (jf_lst (ja_cons rfl je_str (ja_cons rfl je_str (ja_cons rfl je_str (ja_cons rfl je_str (ja_cons rfl je_str (ja_cons rfl je_str (ja_cons rfl je_str (ja_cons rfl je_str (ja_cons rfl je_str ja_nil))))))))))) (jg_name (i := 4) c__law_holds.nd rfl (.inl (by kernel_rfl)) (.inl rfl)) (by kernel_rfl) (by kernel_rfl) rfl) (jss_cons (js_ret (je_own (o__law_equal T hT 12) hr (by decide) tk (gl_of (by kernel_rfl)) (ja_cons rfl (je_own (o_answers T hT) hr (by decide) tk (gl_of (by kernel_rfl)) (ja_cons rfl (je_mth tk_join je_str (ja_cons rfl (je_var (i := 3) rfl (.inl (by kernel_rfl)) rfl rfl) ja_nil) rfl rfl rfl rfl rfl) ja_nil) (consA_len nilA_len) (by decide) rfl rfl) (ja_cons rfl (je_var (i := 4) rfl (.inl (by kernel_rfl)) rfl rfl) ja_nil)) (consA_len (consA_len nilA_len)) (by decide) rfl rfl)) jss_nil))))))))))))))))))))
def m__law_source : Rho → Sto → RS := (seqS (asgS (conM (.int 0)) (.nm 2)) (seqS (ifS (toB (bi (varM 1) (appM (consA (varM 0) nilA) lenM) (lift2 ltD))) (seqS (asgS (bi (varM 0) (varM 1) ixA) (.nm 2)) skipS) skipS) (seqS (retS (frzM (lstM (consA (bi (appM (consA (varM 2) nilA) (on1 absD)) (appM (consA (bi (appM (consA (varM 2) nilA) (on1 absD)) (bi (conM (.int 10)) (conM (.int 18)) (lift2 powD)) (lift2 geD)) nilA) (on1 intD)) (lift2 mulD)) (consA (bi (bi (bi (bi (bi (varM 2) (conM (.int 2147483563)) (lift2 modD)) (bi (conM (.int 86243)) (varM 1) (lift2 mulD)) (lift2 addD)) (conM (.int 41)) (lift2 addD)) (conM (.int 39373)) (lift2 mulD)) (conM (.int 2147483543)) (lift2 modD)) (consA (conM (.int 0)) nilA)))))) skipS)))
def d__law_source : FV := bodyF 3 m__law_source
theorem o__law_source (T : Txt K mg base T0) (hT : LT.T = T0) : OwnP P w K mg base "_law_source" 1 ["_law_script", "_law_index"] d__law_source := own_ok T.f__law_source c__law_source fun f cdv A outer s H E hr tk hp => (show JSs _ _ _ m__law_source from (jss_cons (js_asg je_int (jg_name (i := 2) c__law_source.nd rfl (.inl (by kernel_rfl)) (.inl rfl)) (by kernel_rfl) (by kernel_rfl) rfl) (jss_cons (js_if (jt_cmpV cv_lt rfl (je_var (i := 1) rfl (.inl (by kernel_rfl)) rfl rfl) (je_blt bv_len T.b_len (gl_of (by kernel_rfl)) (ja_cons rfl (je_var (i := 0) rfl (.inl (by kernel_rfl)) rfl rfl) ja_nil) rfl rfl)) (jss_cons (js_asg (je_ixA (fun _ _ => rfl) (je_var (i := 0) rfl (.inl (by kernel_rfl)) rfl rfl) (je_var (i := 1) rfl (.inl (by kernel_rfl)) rfl rfl)) (jg_name (i := 2) c__law_source.nd rfl (.inl (by kernel_rfl)) (.inl rfl)) (by kernel_rfl) (by kernel_rfl) rfl) jss_nil) jss_nil) (jss_cons (js_ret (JF.frz (jf_lst (ja_cons rfl (je_mul (je_blt bv_abs T.b_abs (gl_of (by kernel_rfl)) (ja_cons rfl (je_var (i := 2) rfl (.inl (by kernel_rfl)) rfl rfl) ja_nil) rfl rfl) (je_blt bv_int T.b_int (gl_of (by kernel_rfl)) (ja_cons rfl (je_cmpV cv_ge rfl (je_blt bv_abs T.b_abs (gl_of (by kernel_rfl)) (ja_cons rfl (je_var (i := 2) rfl (.inl (by kernel_rfl)) rfl rfl) ja_nil) rfl rfl) (je_pow je_int je_int)) ja_nil) rfl rfl)) (ja_cons rfl (je_mod (je_mul (je_add (je_add (je_mod (je_var (i := 2) rfl (.inl (by kernel_rfl)) rfl rfl) je_int) (je_mul je_int (je_var (i := 1) rfl (.inl (by kernel_rfl)) rfl rfl))) je_int) je_int) je_int) (ja_cons rfl je_int ja_nil)))))) jss_nil))))
def m_law : Rho → Sto → RS := (seqS (retS (appM (consA (frzM (compM (argI rng1I (consA (appM (consA (conM (.int 1)) (consA (appM (consA (conM (.int 1)) (consA (appM (consA (varM 0) nilA) lenM) nilA)) (on2 minD)) nilA)) (on2 maxD)) nilA)) (.nm 1) ([("_law_index", 1)].map (·.2)) tYesM (callM d__law_holds (consA (callM d__law_source (consA (varM 0) (consA (varM 1) nilA))) nilA)))) nilA) (on1 allD))) skipS)
def d_law : FV := bodyF 2 m_law
theorem v_law (T : Txt K mg base T0) (hT : LT.T = T0) {f : Addr} {fd : FuncData} (F : Fun K "law" "law" s_law f fd) : FnV P w K mg base 15 f fd ["_law_script"] d_law := fn_ok F c_law fun cdv A outer s H E hr tk => by
  have hp := passes_of (X := cxOf (L2.CX P w) P w K mg base n_law "law" (defScope s_law) f cdv A outer s H E) rfl
  exact (show JSs _ _ _ m_law from (jss_cons (js_ret (je_blt (bv_all rfl) T.b_all (gl_of (by kernel_rfl)) (ja_cons rfl (JF.frz (jf_lc rfl c_law.nd (ji_range1 (gl_of (by kernel_rfl)) T.b_range (ja_cons rfl (je_blt (bv_max rfl) T.b_max (gl_of (by kernel_rfl)) (ja_cons rfl je_int (ja_cons rfl (je_blt (bv_min rfl) T.b_min (gl_of (by kernel_rfl)) (ja_cons rfl je_int (ja_cons rfl (je_blt bv_len T.b_len (gl_of (by kernel_rfl)) (ja_cons rfl (je_var (i := 0) rfl (.inr (.inl (by kernel_rfl))) rfl rfl) ja_nil) rfl rfl) ja_nil)) rfl rfl) ja_nil)) rfl rfl) ja_nil) rfl) (blkOk_by (own := [("_law_index", 1)]) (by kernel_rfl)) (fun _ _ _ _ _ => (jg_name (i := 1) c_law.nd rfl (.inl (by kernel_rfl)) (.inr (by kernel_rfl)))) (fun _ _ _ _ _ => jts_nil) (fun _ _ _ _ _ => (je_own (o__law_holds T hT) (by exact hr) (by decide) takes0 (gl_of (by kernel_rfl)) (ja_cons rfl (je_own (o__law_source T hT) (by exact hr) (by decide) takes0 (gl_of (by kernel_rfl)) (ja_cons rfl (je_var (i := 0) rfl (.inr (.inl (by kernel_rfl))) rfl rfl) (ja_cons rfl (je_var (i := 1) rfl (.inl (by kernel_rfl)) rfl rfl) ja_nil)) (consA_len (consA_len nilA_len)) (by decide) rfl rfl) ja_nil) (consA_len nilA_len) (by decide) rfl rfl)) (fun _ => rfl) (by decide))) ja_nil) rfl rfl)) jss_nil))
end
theorem txt_mk {K : PySem.W.Frag} {h : Heap} {mg : Str → Option Value} {base : Heap} (I : K.In h) (G : h.Ns mainGlobals mg) (hok : tabsOk K [] = true) (hB : ∀ y ∈ ([] : List Str), LamX.TabB base mg (tabC K y) (tabP K y)) (f_is_decimal : FactF K "is_decimal" s_is_decimal) (f_is_number_word : FactF K "is_number_word" s_is_number_word) (f_is_head : FactF K "is_head" s_is_head) (f_is_command : FactF K "is_command" s_is_command) (f_read_lines : FactF K "read_lines" s_read_lines) (f_look_node : FactF K "look_node" s_look_node) (m_Recorder__init : MetF K "Recorder" "__init__" "Recorder.__init__" s_Recorder__init) (f_words_of : FactF K "words_of" s_words_of) (m_Recorder__partial : MetF K "Recorder" "partial" "Recorder.partial" s_Recorder__partial) (f_page_text : FactF K "page_text" s_page_text) (f_surplus : FactF K "surplus" s_surplus) (f_entries : FactF K "entries" s_entries) (f_extra_of : FactF K "extra_of" s_extra_of) (f_least_overdrawn : FactF K "least_overdrawn" s_least_overdrawn) (f_leading : FactF K "leading" s_leading) (f_stranded : FactF K "stranded" s_stranded) (f_last_entries : FactF K "last_entries" s_last_entries) (f_reading : FactF K "reading" s_reading) (f_verdict : FactF K "verdict" s_verdict) (m_Recorder__trace : MetF K "Recorder" "trace" "Recorder.trace" s_Recorder__trace) (f_explained : FactF K "explained" s_explained) (m_Recorder__current : MetF K "Recorder" "current" "Recorder.current" s_Recorder__current) (f_determinant : FactF K "determinant" s_determinant) (f_all_entries : FactF K "all_entries" s_all_entries) (f_extra_in : FactF K "extra_in" s_extra_in) (f_possible_exits : FactF K "possible_exits" s_possible_exits) (f_choices_of : FactF K "choices_of" s_choices_of) (f_is_feasible : FactF K "is_feasible" s_is_feasible) (f_shares : FactF K "shares" s_shares) (f_tree_matrix : FactF K "tree_matrix" s_tree_matrix) (f_factorial : FactF K "factorial" s_factorial) (f_orders : FactF K "orders" s_orders) (f_number_of_fillings : FactF K "number_of_fillings" s_number_of_fillings) (m_Recorder__count : MetF K "Recorder" "count" "Recorder.count" s_Recorder__count) (f_query : FactF K "query" s_query) (f_with_page : FactF K "with_page" s_with_page) (f_copied : FactF K "copied" s_copied) (f_forgotten : FactF K "forgotten" s_forgotten) (m_Recorder__forget : MetF K "Recorder" "forget" "Recorder.forget" s_Recorder__forget) (m_Recorder__undo : MetF K "Recorder" "undo" "Recorder.undo" s_Recorder__undo) (f_moved : FactF K "moved" s_moved) (m_Recorder__step : MetF K "Recorder" "step" "Recorder.step" s_Recorder__step) (m_Recorder__walk : MetF K "Recorder" "walk" "Recorder.walk" s_Recorder__walk) (m_Recorder__add_node : MetF K "Recorder" "add_node" "Recorder.add_node" s_Recorder__add_node) (f_command : FactF K "command" s_command) (f_answer : FactF K "answer" s_answer) (f_answers : FactF K "answers" s_answers) (f__law_equal : FactF K "_law_equal" s__law_equal) (f__law_holds : FactF K "_law_holds" s__law_holds) (f__law_source : FactF K "_law_source" s__law_source) (b_LookupError : PySem.W.nsIn K mainGlobals "LookupError" = some none) (b_OverflowError : PySem.W.nsIn K mainGlobals "OverflowError" = some none) (b_ValueError : PySem.W.nsIn K mainGlobals "ValueError" = some none) (b_abs : PySem.W.nsIn K mainGlobals "abs" = some none) (b_all : PySem.W.nsIn K mainGlobals "all" = some none) (b_bool : PySem.W.nsIn K mainGlobals "bool" = some none) (b_dict : PySem.W.nsIn K mainGlobals "dict" = some none) (b_enumerate : PySem.W.nsIn K mainGlobals "enumerate" = some none) (b_int : PySem.W.nsIn K mainGlobals "int" = some none) (b_isinstance : PySem.W.nsIn K mainGlobals "isinstance" = some none) (b_len : PySem.W.nsIn K mainGlobals "len" = some none) (b_list : PySem.W.nsIn K mainGlobals "list" = some none) (b_max : PySem.W.nsIn K mainGlobals "max" = some none) (b_min : PySem.W.nsIn K mainGlobals "min" = some none) (b_range : PySem.W.nsIn K mainGlobals "range" = some none) (b_sorted : PySem.W.nsIn K mainGlobals "sorted" = some none) (b_str : PySem.W.nsIn K mainGlobals "str" = some none) (b_sum : PySem.W.nsIn K mainGlobals "sum" = some none) (b_tuple : PySem.W.nsIn K mainGlobals "tuple" = some none) (b_zip : PySem.W.nsIn K mainGlobals "zip" = some none) (e_BadLine : ErK K "BadLine" "BadLine.__init__" "ValueError" "ValueError.__new__" "ValueError.__init__" bmV "line" si_BadLine) (e_Full : ErK K "Full" "Full.__init__" "OverflowError" "OverflowError.__new__" "OverflowError.__init__" bmO "many" si_Full) (e_NoNode : ErK K "NoNode" "NoNode.__init__" "LookupError" "LookupError.__new__" "LookupError.__init__" bmL "node" si_NoNode) (x_ok : exTabB K exl exfs = true) (k_MOST_DIGITS : kInt K "MOST_DIGITS" = some 3) (k_MOST_NODES_deskrows : kInt K "MOST_NODES_deskrows" = some 10) (k_MOST_NODES_recorder : kInt K "MOST_NODES_recorder" = some 10) (ks_BEGIN : kStr K "BEGIN" = some "begin") (ks_EMPTY : kStr K "EMPTY" = some "-") (ks_END : kStr K "END" = some "end") (ks_NEWLINE : kStr K "NEWLINE" = some "\n") (ks_SPACE : kStr K "SPACE" = some " ") (kt_ALONE : kTup K "ALONE" = some (["add", "undo", "trace", "current", "count", "verdict"] : List Str)) (kt_ONE_NODE : kTup K "ONE_NODE" = some (["step", "forget", "page"] : List Str)) (na_own_journal : NoAt K "Recorder" "own_journal") (na_own_states : NoAt K "Recorder" "own_states") (mk_Recorder : MakF K "Recorder") : Txt K mg base (tabsOf K []).T where
  f_is_decimal := f_is_decimal.fun I G fun _ _ _ _ _ _ us hl => match us, hl with | [_], _ => rfl
  f_is_number_word := f_is_number_word.fun I G fun _ _ _ _ _ _ us hl => match us, hl with | [_], _ => rfl
  f_is_head := f_is_head.fun I G fun _ _ _ _ _ _ us hl => match us, hl with | [_], _ => rfl
  f_is_command := f_is_command.fun I G fun _ _ _ _ _ _ us hl => match us, hl with | [_], _ => rfl
  f_read_lines := f_read_lines.fun I G fun _ _ _ _ _ _ us hl => match us, hl with | [_], _ => rfl
  f_look_node := f_look_node.fun I G fun _ _ _ _ _ _ us hl => match us, hl with | [_, _], _ => rfl
  m_Recorder__init := m_Recorder__init.told fun _ _ _ _ _ _ us hl => match us, hl with | [_, _, _], _ => rfl
  f_words_of := f_words_of.fun I G fun _ _ _ _ _ _ us hl => match us, hl with | [_], _ => rfl
  m_Recorder__partial := m_Recorder__partial.told fun _ _ _ _ _ _ us hl => match us, hl with | [_], _ => rfl
  f_page_text := f_page_text.fun I G fun _ _ _ _ _ _ us hl => match us, hl with | [_, _], _ => rfl
  f_surplus := f_surplus.fun I G fun _ _ _ _ _ _ us hl => match us, hl with | [_, _, _], _ => rfl
  f_entries := f_entries.fun I G fun _ _ _ _ _ _ us hl => match us, hl with | [_, _], _ => rfl
  f_extra_of := f_extra_of.fun I G fun _ _ _ _ _ _ us hl => match us, hl with | [_, _], _ => rfl
  f_least_overdrawn := f_least_overdrawn.fun I G fun _ _ _ _ _ _ us hl => match us, hl with | [_], _ => rfl
  f_leading := f_leading.fun I G fun _ _ _ _ _ _ us hl => match us, hl with | [_, _], _ => rfl
  f_stranded := f_stranded.fun I G fun _ _ _ _ _ _ us hl => match us, hl with | [_, _], _ => rfl
  f_last_entries := f_last_entries.fun I G fun _ _ _ _ _ _ us hl => match us, hl with | [_], _ => rfl
  f_reading := f_reading.fun I G fun _ _ _ _ _ _ us hl => match us, hl with | [_, _], _ => rfl
  f_verdict := f_verdict.fun I G fun _ _ _ _ _ _ us hl => match us, hl with | [_, _], _ => rfl
  m_Recorder__trace := m_Recorder__trace.told fun _ _ _ _ _ _ us hl => match us, hl with | [_], _ => rfl
  f_explained := f_explained.fun I G fun _ _ _ _ _ _ us hl => match us, hl with | [_], _ => rfl
  m_Recorder__current := m_Recorder__current.told fun _ _ _ _ _ _ us hl => match us, hl with | [_], _ => rfl
  f_determinant := f_determinant.fun I G fun _ _ _ _ _ _ us hl => match us, hl with | [_], _ => rfl
  f_all_entries := f_all_entries.fun I G fun _ _ _ _ _ _ us hl => match us, hl with | [_], _ => rfl
  f_extra_in := f_extra_in.fun I G fun _ _ _ _ _ _ us hl => match us, hl with | [_, _], _ => rfl
  f_possible_exits := f_possible_exits.fun I G fun _ _ _ _ _ _ us hl => match us, hl with | [_], _ => rfl
  f_choices_of := f_choices_of.fun I G fun _ _ _ _ _ _ us hl => match us, hl with | [_], _ => rfl
  f_is_feasible := f_is_feasible.fun I G fun _ _ _ _ _ _ us hl => match us, hl with | [_, _], _ => rfl
  f_shares := f_shares.fun I G fun _ _ _ _ _ _ us hl => match us, hl with | [_], _ => rfl
  f_tree_matrix := f_tree_matrix.fun I G fun _ _ _ _ _ _ us hl => match us, hl with | [_, _], _ => rfl
  f_factorial := f_factorial.fun I G fun _ _ _ _ _ _ us hl => match us, hl with | [_], _ => rfl
  f_orders := f_orders.fun I G fun _ _ _ _ _ _ us hl => match us, hl with | [_], _ => rfl
  f_number_of_fillings := f_number_of_fillings.fun I G fun _ _ _ _ _ _ us hl => match us, hl with | [_, _], _ => rfl
  m_Recorder__count := m_Recorder__count.told fun _ _ _ _ _ _ us hl => match us, hl with | [_], _ => rfl
  f_query := f_query.fun I G fun _ _ _ _ _ _ us hl => match us, hl with | [_, _, _], _ => rfl
  f_with_page := f_with_page.fun I G fun _ _ _ _ _ _ us hl => match us, hl with | [_, _, _], _ => rfl
  f_copied := f_copied.fun I G fun _ _ _ _ _ _ us hl => match us, hl with | [_], _ => rfl
  f_forgotten := f_forgotten.fun I G fun _ _ _ _ _ _ us hl => match us, hl with | [_, _], _ => rfl
  m_Recorder__forget := m_Recorder__forget.told fun _ _ _ _ _ _ us hl => match us, hl with | [_, _], _ => rfl
  m_Recorder__undo := m_Recorder__undo.told fun _ _ _ _ _ _ us hl => match us, hl with | [_], _ => rfl
  f_moved := f_moved.fun I G fun _ _ _ _ _ _ us hl => match us, hl with | [_, _], _ => rfl
  m_Recorder__step := m_Recorder__step.told fun _ _ _ _ _ _ us hl => match us, hl with | [_, _], _ => rfl
  m_Recorder__walk := m_Recorder__walk.told fun _ _ _ _ _ _ us hl => match us, hl with | [_, _], _ => rfl
  m_Recorder__add_node := m_Recorder__add_node.told fun _ _ _ _ _ _ us hl => match us, hl with | [_], _ => rfl
  f_command := f_command.fun I G fun _ _ _ _ _ _ us hl => match us, hl with | [_, _, _], _ => rfl
  f_answer := f_answer.fun I G fun _ _ _ _ _ _ us hl => match us, hl with | [_, _, _], _ => rfl
  f_answers := f_answers.fun I G fun _ _ _ _ _ _ us hl => match us, hl with | [_], _ => rfl
  f__law_equal := f__law_equal.fun I G fun _ _ _ _ _ _ us hl => match us, hl with | [_, _], _ => rfl
  f__law_holds := f__law_holds.fun I G fun _ _ _ _ _ _ us hl => match us, hl with | [_], _ => rfl
  f__law_source := f__law_source.fun I G fun _ _ _ _ _ _ us hl => match us, hl with | [_, _], _ => rfl
  b_LookupError := PySem.W.mg_none_of I G b_LookupError
  b_OverflowError := PySem.W.mg_none_of I G b_OverflowError
  b_ValueError := PySem.W.mg_none_of I G b_ValueError
  b_abs := PySem.W.mg_none_of I G b_abs
  b_all := PySem.W.mg_none_of I G b_all
  b_bool := PySem.W.mg_none_of I G b_bool
  b_dict := PySem.W.mg_none_of I G b_dict
  b_enumerate := PySem.W.mg_none_of I G b_enumerate
  b_int := PySem.W.mg_none_of I G b_int
  b_isinstance := PySem.W.mg_none_of I G b_isinstance
  b_len := PySem.W.mg_none_of I G b_len
  b_list := PySem.W.mg_none_of I G b_list
  b_max := PySem.W.mg_none_of I G b_max
  b_min := PySem.W.mg_none_of I G b_min
  b_range := PySem.W.mg_none_of I G b_range
  b_sorted := PySem.W.mg_none_of I G b_sorted
  b_str := PySem.W.mg_none_of I G b_str
  b_sum := PySem.W.mg_none_of I G b_sum
  b_tuple := PySem.W.mg_none_of I G b_tuple
  b_zip := PySem.W.mg_none_of I G b_zip
  e_BadLine := e_BadLine.told I G fun _ _ _ _ _ _ us hl => match us, hl with | [_, _], _ => rfl
  e_Full := e_Full.told I G fun _ _ _ _ _ _ us hl => match us, hl with | [_, _], _ => rfl
  e_NoNode := e_NoNode.told I G fun _ _ _ _ _ _ us hl => match us, hl with | [_, _], _ => rfl
  x_ok := exTab_mk I G x_ok
  k_MOST_DIGITS := kInt_of I G k_MOST_DIGITS
  k_MOST_NODES_deskrows := kInt_of I G k_MOST_NODES_deskrows
  k_MOST_NODES_recorder := kInt_of I G k_MOST_NODES_recorder
  ks_BEGIN := kStr_of I G ks_BEGIN
  ks_EMPTY := kStr_of I G ks_EMPTY
  ks_END := kStr_of I G ks_END
  ks_NEWLINE := kStr_of I G ks_NEWLINE
  ks_SPACE := kStr_of I G ks_SPACE
  kt_ALONE := kTup_of I G kt_ALONE
  kt_ONE_NODE := kTup_of I G kt_ONE_NODE
  na_own_journal := na_own_journal
  na_own_states := na_own_states
  mk_Recorder := mk_Recorder.told I G

--BEGIN
-- the plain law of k46: stands before the end of namespace Lk46
theorem hold (x : Vl) : d__law_holds [x] [] = .ok (.d (.bool true)) [] := by kernel_rfl
theorem intD_b (b : Bool) : intD (.bool b) = some (.int (if b then 1 else 0)) := rfl

theorem mulI_ok {i j : Int} (h : i.natAbs.log2 + j.natAbs.log2 < 100000000) : mulI i j = some (.int (i * j)) := if_pos h
theorem modD_ok {i j : Int} (h : 0 < j) : modD (.int i) (.int j) = some (.int (i % j)) := if_pos h
theorem log_lt {i : Int} {k : Nat} (h : i.natAbs < 2 ^ k) (hk : 0 < k) : i.natAbs.log2 < k := PySem.Flt.log2_lt_of hk h
theorem src1 (z : Int) (hz : z.natAbs.log2 < 10000000) (ρ : Rho) (h2 : (ρ : List (Option Vl))[2]? = some (some (.d (.int z)))) (h1 : (ρ : List (Option Vl))[1]? = some (some (.d (.int 0)))) (st : Sto) : ∃ d, (retS (frzM (lstM (consA (M1.bi (appM (consA (varM 2) nilA) (on1 absD)) (appM (consA (M1.bi (appM (consA (varM 2) nilA) (on1 absD)) (M1.bi (conM (.int 10)) (conM (.int 18)) (lift2 powD)) (lift2 geD)) nilA) (on1 intD)) (lift2 mulD)) (consA (M1.bi (M1.bi (M1.bi (M1.bi (M1.bi (varM 2) (conM (.int 2147483563)) (lift2 modD)) (M1.bi (conM (.int 86243)) (varM 1) (lift2 mulD)) (lift2 addD)) (conM (.int 41)) (lift2 addD)) (conM (.int 39373)) (lift2 mulD)) (conM (.int 2147483543)) (lift2 modD)) (consA (conM (.int 0)) nilA)))))) ρ st = .ret (.d d) st := by
  have e1 : ∀ b : Bool, mulI (if z < 0 then -z else z) (if b = true then 1 else 0) = some (.int ((if z < 0 then -z else z) * (if b = true then 1 else 0))) := fun b => mulI_ok (by
    have a1 : (if z < 0 then -z else z).natAbs = z.natAbs := by split <;> omega
    rw [a1]
    have a2 : (if b = true then (1 : Int) else 0).natAbs.log2 = 0 := by cases b <;> decide
    omega)
  have e2 : mulI (z % 2147483563 + 86243 * 0 + 41) 39373 = some (.int ((z % 2147483563 + 86243 * 0 + 41) * 39373)) := mulI_ok (by
    have a1 : (z % 2147483563 + 86243 * 0 + 41).natAbs.log2 < 40 := log_lt (by omega) (by decide)
    have a2 : (39373 : Int).natAbs.log2 < 40 := by decide
    omega)
  have e3 : mulI 86243 0 = some (.int (86243 * 0)) := mulI_ok (by decide)
  have e4 : powD (.int 10) (.int 18) = some (.int (10 ^ 18)) := by kernel_rfl
  simp only [retS, frzM, lstM, consA, M1.bi, appM, varM, conM, lift2, rd, on1, absD, e4, geD, cmpD, intD, mulD, addD, datas, h1, h2, nilA, Res.bind_ok, Res.then_ok, e1, e2, e3, modD_ok (i := _) (j := 2147483563) (by decide), modD_ok (i := _) (j := 2147483543) (by decide), Option.map]
  exact ⟨_, rfl⟩
theorem log_of_bits {z : Int} (h : Builtin.Int.intBits z ≤ 1048576) : z.natAbs.log2 < 10000000 := by
  unfold Builtin.Int.intBits at h
  split at h
  · rename_i h0
    have : z = 0 := by simpa using h0
    subst this
    decide
  · omega
theorem src_ok (ns : List Int) (hb : ∀ z ∈ ns, Builtin.Int.intBits z ≤ 1048576) : ∃ d, d__law_source [.s ns, .d (.int 0)] [] = .ok (.d d) [] := by
  cases ns with
  | nil =>
    obtain ⟨d, h⟩ := src1 0 (by decide) [some (.s []), some (.d (.int 0)), some (.d (.int 0))] rfl rfl []
    refine ⟨d, ?_⟩
    have e : m__law_source [some (.s []), some (.d (.int 0)), none] [] = .ret (.d d) [] := by
      unfold m__law_source
      simp [seqS, asgS, ifS, toB, conM, setT, M1.bi, varM, appM, consA, nilA, lenM, lift2, rd, ltD, cmpD, asB, skipS]
      rw [h]
    show endF 0 (m__law_source [some (.s []), some (.d (.int 0)), none] []) = _
    rw [e]
    rfl
  | cons z r =>
    obtain ⟨d, h⟩ := src1 z (log_of_bits (hb z List.mem_cons_self)) [some (.s (z :: r)), some (.d (.int 0)), some (.d (.int z))] rfl rfl []
    refine ⟨d, ?_⟩
    have e0 : (0 : Int) < (r.length : Int) + 1 := by omega
    have e1 : atI (z :: r) 0 = some z := by
      unfold atI ixN
      rw [List.length_cons, if_pos (by omega), if_pos (by omega)]
      rfl
    have e : m__law_source [some (.s (z :: r)), some (.d (.int 0)), none] [] = .ret (.d d) [] := by
      unfold m__law_source
      simp [seqS, asgS, ifS, toB, conM, setT, M1.bi, varM, appM, consA, nilA, lenM, lift2, rd, ltD, cmpD, asB, skipS, e0, ixA, ixM, e1]
      rw [h]
    show endF 0 (m__law_source [some (.s (z :: r)), some (.d (.int 0)), none] []) = _
    rw [e]
    rfl
theorem plain : PlainLaw d_law := fun ns hl hb => by
  obtain ⟨d, hd⟩ := src_ok ns hb
  have hm : (if (if (ns.length : Int) < 1 then (ns.length : Int) else 1) > 1 then (if (ns.length : Int) < 1 then (ns.length : Int) else 1) else 1) = 1 := by split <;> split <;> omega
  have e : m_law [some (.s ns), none] [] = .ret (.d (.bool true)) [] := by
    unfold m_law
    simp [seqS, retS, appM, frzM, compM, argI, consA, nilA, conM, varM, lenM, on2, lift2, rd, minD, maxD, hm]
    have e1 : rng1I [.d (.int 1)] = some ([.d (.int 0)], none) := rfl
    have hc : compL none (.nm 1) tYesM (callM d__law_holds (consA (callM d__law_source (consA (varM 0) (consA (varM 1) nilA))) nilA)) (wipeR [some (.s ns), none] [1]) [.d (.int 0)] [] = .ok [.bool true] [] := by
      simp [compL, gdOk, setT, wipeR, tYesM, quiet, callM, consA, varM, nilA, hd, hold]
    simp only [e1, Res.bind_ok, hc]
    rfl
  show endF 0 (m_law [some (.s ns), none] []) = _
  rw [e]
  rfl
--END

end Lk56
open PySem PySem.W PyProof.Rows
open_top head for PySem.Challenge.rw_exitpages_k56_a_known_desk
theorem PySem.Challenge.cw_exitpages_k56_a_known_desk_holds : PySem.Challenge.rw_exitpages_k56_a_known_desk.Holds := by
  refine head ?_
  refine M1.law_walk (names := []) (l := PySem.Challenge.rw_exitpages_k56_a_known_desk) (x := "_law_script") (k := 15) rfl rfl ⟨rfl, by decide, by decide⟩ (fun w h Y => by first | exact PySem.W.kIn_of Y | exact PySem.W.km_in_of Y) Lk56.plain (by kernel_rfl) (fun w => ?T) ?F
  case T => kernel_rfl
  case F =>
    intro w mg fa h I G hmg
    refine M1.FactF.root (names := []) ?r I G hmg (fun _ _ _ _ _ _ us hl => match us, hl with | [_], _ => rfl) fun base hB fd F => @Lk56.v_law (M1.tabsOf _ []) _ _ _ _ _ _ (Lk56.txt_mk I G ?tt hB ?f0 ?f1 ?f2 ?f3 ?f4 ?f5 ?f6 ?f7 ?f8 ?f9 ?f10 ?f11 ?f12 ?f13 ?f14 ?f15 ?f16 ?f17 ?f18 ?f19 ?f20 ?f21 ?f22 ?f23 ?f24 ?f25 ?f26 ?f27 ?f28 ?f29 ?f30 ?f31 ?f32 ?f33 ?f34 ?f35 ?f36 ?f37 ?f38 ?f39 ?f40 ?f41 ?f42 ?f43 ?f44 ?f45 ?f46 ?f47 ?f48 ?f49 ?f50 ?f51 ?f52 ?f53 ?f54 ?f55 ?f56 ?f57 ?f58 ?f59 ?f60 ?f61 ?f62 ?f63 ?f64 ?f65 ?f66 ?f67 ?f68 ?f69 ?f70 ?f71 ?f72 ?f73 ?f74 ?f75 ?f76 ?f77 ?f78 ?f79 ?f80 ?f81 ?f82 ?f83 ?f84 ?f85 ?f86) rfl _ _ F
    (case tt => kernel_rfl)
    (case f0 => (refine' M1.factF_mk ?a ?l ?c ?k; (case a => k_is); (case l => k_is); (case c => k_is); (case k => k_is)))
    (case f1 => (refine' M1.factF_mk ?a ?l ?c ?k; (case a => k_is); (case l => k_is); (case c => k_is); (case k => k_is)))
    (case f2 => (refine' M1.factF_mk ?a ?l ?c ?k; (case a => k_is); (case l => k_is); (case c => k_is); (case k => k_is)))
    (case f3 => (refine' M1.factF_mk ?a ?l ?c ?k; (case a => k_is); (case l => k_is); (case c => k_is); (case k => k_is)))
    (case f4 => (refine' M1.factF_mk ?a ?l ?c ?k; (case a => k_is); (case l => k_is); (case c => k_is); (case k => k_is)))
    (case f5 => (refine' M1.factF_mk ?a ?l ?c ?k; (case a => k_is); (case l => k_is); (case c => k_is); (case k => k_is)))
    (case f6 => (refine' M1.metF_mk ?a ?b ?l ?c ?k ?i ?c1 ?c2 ?c3 ?c4; (case a => k_is); (case b => k_is); (case l => k_is); (case c => k_is); (case k => k_is); (case i => first | k_is | kernel_rfl); (case c1 => first | k_is | kernel_rfl); (case c2 => first | k_is | kernel_rfl); (case c3 => first | k_is | kernel_rfl); (case c4 => first | k_is | kernel_rfl)))
    (case f7 => (refine' M1.factF_mk ?a ?l ?c ?k; (case a => k_is); (case l => k_is); (case c => k_is); (case k => k_is)))
    (case f8 => (refine' M1.metF_mk ?a ?b ?l ?c ?k ?i ?c1 ?c2 ?c3 ?c4; (case a => k_is); (case b => k_is); (case l => k_is); (case c => k_is); (case k => k_is); (case i => first | k_is | kernel_rfl); (case c1 => first | k_is | kernel_rfl); (case c2 => first | k_is | kernel_rfl); (case c3 => first | k_is | kernel_rfl); (case c4 => first | k_is | kernel_rfl)))
    (case f9 => (refine' M1.factF_mk ?a ?l ?c ?k; (case a => k_is); (case l => k_is); (case c => k_is); (case k => k_is)))
    (case f10 => (refine' M1.factF_mk ?a ?l ?c ?k; (case a => k_is); (case l => k_is); (case c => k_is); (case k => k_is)))
    (case f11 => (refine' M1.factF_mk ?a ?l ?c ?k; (case a => k_is); (case l => k_is); (case c => k_is); (case k => k_is)))
    (case f12 => (refine' M1.factF_mk ?a ?l ?c ?k; (case a => k_is); (case l => k_is); (case c => k_is); (case k => k_is)))
    (case f13 => (refine' M1.factF_mk ?a ?l ?c ?k; (case a => k_is); (case l => k_is); (case c => k_is); (case k => k_is)))
    (case f14 => (refine' M1.factF_mk ?a ?l ?c ?k; (case a => k_is); (case l => k_is); (case c => k_is); (case k => k_is)))
    (case f15 => (refine' M1.factF_mk ?a ?l ?c ?k; (case a => k_is); (case l => k_is); (case c => k_is); (case k => k_is)))
    (case f16 => (refine' M1.factF_mk ?a ?l ?c ?k; (case a => k_is); (case l => k_is); (case c => k_is); (case k => k_is)))
    (case f17 => (refine' M1.factF_mk ?a ?l ?c ?k; (case a => k_is); (case l => k_is); (case c => k_is); (case k => k_is)))
    (case f18 => (refine' M1.factF_mk ?a ?l ?c ?k; (case a => k_is); (case l => k_is); (case c => k_is); (case k => k_is)))
    (case f19 => (refine' M1.metF_mk ?a ?b ?l ?c ?k ?i ?c1 ?c2 ?c3 ?c4; (case a => k_is); (case b => k_is); (case l => k_is); (case c => k_is); (case k => k_is); (case i => first | k_is | kernel_rfl); (case c1 => first | k_is | kernel_rfl); (case c2 => first | k_is | kernel_rfl); (case c3 => first | k_is | kernel_rfl); (case c4 => first | k_is | kernel_rfl)))
    (case f20 => (refine' M1.factF_mk ?a ?l ?c ?k; (case a => k_is); (case l => k_is); (case c => k_is); (case k => k_is)))
    (case f21 => (refine' M1.metF_mk ?a ?b ?l ?c ?k ?i ?c1 ?c2 ?c3 ?c4; (case a => k_is); (case b => k_is); (case l => k_is); (case c => k_is); (case k => k_is); (case i => first | k_is | kernel_rfl); (case c1 => first | k_is | kernel_rfl); (case c2 => first | k_is | kernel_rfl); (case c3 => first | k_is | kernel_rfl); (case c4 => first | k_is | kernel_rfl)))
    (case f22 => (refine' M1.factF_mk ?a ?l ?c ?k; (case a => k_is); (case l => k_is); (case c => k_is); (case k => k_is)))
    (case f23 => (refine' M1.factF_mk ?a ?l ?c ?k; (case a => k_is); (case l => k_is); (case c => k_is); (case k => k_is)))
    (case f24 => (refine' M1.factF_mk ?a ?l ?c ?k; (case a => k_is); (case l => k_is); (case c => k_is); (case k => k_is)))
    (case f25 => (refine' M1.factF_mk ?a ?l ?c ?k; (case a => k_is); (case l => k_is); (case c => k_is); (case k => k_is)))
    (case f26 => (refine' M1.factF_mk ?a ?l ?c ?k; (case a => k_is); (case l => k_is); (case c => k_is); (case k => k_is)))
    (case f27 => (refine' M1.factF_mk ?a ?l ?c ?k; (case a => k_is); (case l => k_is); (case c => k_is); (case k => k_is)))
    (case f28 => (refine' M1.factF_mk ?a ?l ?c ?k; (case a => k_is); (case l => k_is); (case c => k_is); (case k => k_is)))
    (case f29 => (refine' M1.factF_mk ?a ?l ?c ?k; (case a => k_is); (case l => k_is); (case c => k_is); (case k => k_is)))
    (case f30 => (refine' M1.factF_mk ?a ?l ?c ?k; (case a => k_is); (case l => k_is); (case c => k_is); (case k => k_is)))
    (case f31 => (refine' M1.factF_mk ?a ?l ?c ?k; (case a => k_is); (case l => k_is); (case c => k_is); (case k => k_is)))
    (case f32 => (refine' M1.factF_mk ?a ?l ?c ?k; (case a => k_is); (case l => k_is); (case c => k_is); (case k => k_is)))
    (case f33 => (refine' M1.metF_mk ?a ?b ?l ?c ?k ?i ?c1 ?c2 ?c3 ?c4; (case a => k_is); (case b => k_is); (case l => k_is); (case c => k_is); (case k => k_is); (case i => first | k_is | kernel_rfl); (case c1 => first | k_is | kernel_rfl); (case c2 => first | k_is | kernel_rfl); (case c3 => first | k_is | kernel_rfl); (case c4 => first | k_is | kernel_rfl)))
    (case f34 => (refine' M1.factF_mk ?a ?l ?c ?k; (case a => k_is); (case l => k_is); (case c => k_is); (case k => k_is)))
    (case f35 => (refine' M1.factF_mk ?a ?l ?c ?k; (case a => k_is); (case l => k_is); (case c => k_is); (case k => k_is)))
    (case f36 => (refine' M1.factF_mk ?a ?l ?c ?k; (case a => k_is); (case l => k_is); (case c => k_is); (case k => k_is)))
    (case f37 => (refine' M1.factF_mk ?a ?l ?c ?k; (case a => k_is); (case l => k_is); (case c => k_is); (case k => k_is)))
    (case f38 => (refine' M1.metF_mk ?a ?b ?l ?c ?k ?i ?c1 ?c2 ?c3 ?c4; (case a => k_is); (case b => k_is); (case l => k_is); (case c => k_is); (case k => k_is); (case i => first | k_is | kernel_rfl); (case c1 => first | k_is | kernel_rfl); (case c2 => first | k_is | kernel_rfl); (case c3 => first | k_is | kernel_rfl); (case c4 => first | k_is | kernel_rfl)))
    (case f39 => (refine' M1.metF_mk ?a ?b ?l ?c ?k ?i ?c1 ?c2 ?c3 ?c4; (case a => k_is); (case b => k_is); (case l => k_is); (case c => k_is); (case k => k_is); (case i => first | k_is | kernel_rfl); (case c1 => first | k_is | kernel_rfl); (case c2 => first | k_is | kernel_rfl); (case c3 => first | k_is | kernel_rfl); (case c4 => first | k_is | kernel_rfl)))
    (case f40 => (refine' M1.factF_mk ?a ?l ?c ?k; (case a => k_is); (case l => k_is); (case c => k_is); (case k => k_is)))
    (case f41 => (refine' M1.metF_mk ?a ?b ?l ?c ?k ?i ?c1 ?c2 ?c3 ?c4; (case a => k_is); (case b => k_is); (case l => k_is); (case c => k_is); (case k => k_is); (case i => first | k_is | kernel_rfl); (case c1 => first | k_is | kernel_rfl); (case c2 => first | k_is | kernel_rfl); (case c3 => first | k_is | kernel_rfl); (case c4 => first | k_is | kernel_rfl)))
    (case f42 => (refine' M1.metF_mk ?a ?b ?l ?c ?k ?i ?c1 ?c2 ?c3 ?c4; (case a => k_is); (case b => k_is); (case l => k_is); (case c => k_is); (case k => k_is); (case i => first | k_is | kernel_rfl); (case c1 => first | k_is | kernel_rfl); (case c2 => first | k_is | kernel_rfl); (case c3 => first | k_is | kernel_rfl); (case c4 => first | k_is | kernel_rfl)))
    (case f43 => (refine' M1.metF_mk ?a ?b ?l ?c ?k ?i ?c1 ?c2 ?c3 ?c4; (case a => k_is); (case b => k_is); (case l => k_is); (case c => k_is); (case k => k_is); (case i => first | k_is | kernel_rfl); (case c1 => first | k_is | kernel_rfl); (case c2 => first | k_is | kernel_rfl); (case c3 => first | k_is | kernel_rfl); (case c4 => first | k_is | kernel_rfl)))
    (case f44 => (refine' M1.factF_mk ?a ?l ?c ?k; (case a => k_is); (case l => k_is); (case c => k_is); (case k => k_is)))
    (case f45 => (refine' M1.factF_mk ?a ?l ?c ?k; (case a => k_is); (case l => k_is); (case c => k_is); (case k => k_is)))
    (case f46 => (refine' M1.factF_mk ?a ?l ?c ?k; (case a => k_is); (case l => k_is); (case c => k_is); (case k => k_is)))
    (case f47 => (refine' M1.factF_mk ?a ?l ?c ?k; (case a => k_is); (case l => k_is); (case c => k_is); (case k => k_is)))
    (case f48 => (refine' M1.factF_mk ?a ?l ?c ?k; (case a => k_is); (case l => k_is); (case c => k_is); (case k => k_is)))
    (case f49 => (refine' M1.factF_mk ?a ?l ?c ?k; (case a => k_is); (case l => k_is); (case c => k_is); (case k => k_is)))
    (case r => (refine' M1.factF_mk ?a ?l ?c ?k; (case a => k_is); (case l => k_is); (case c => k_is); (case k => k_is)))
    (case f50 => k_is)
    (case f51 => k_is)
    (case f52 => k_is)
    (case f53 => k_is)
    (case f54 => k_is)
    (case f55 => k_is)
    (case f56 => k_is)
    (case f57 => k_is)
    (case f58 => k_is)
    (case f59 => k_is)
    (case f60 => k_is)
    (case f61 => k_is)
    (case f62 => k_is)
    (case f63 => k_is)
    (case f64 => k_is)
    (case f65 => k_is)
    (case f66 => k_is)
    (case f67 => k_is)
    (case f68 => k_is)
    (case f69 => k_is)
    (case f70 => (refine' M1.erK_mk ?a ?b ?l ?c ?k ?t ?h ?v ?e1 ?e2 ?e3 ?e4 ?e5 ?e6 ?e7; (case a => k_is); (case b => k_is); (case l => k_is); (case c => k_is); (case k => k_is); (case t => first | k_is | kernel_rfl); (case h => first | k_is | kernel_rfl); (case v => first | k_is | kernel_rfl); (case e1 => first | k_is | kernel_rfl); (case e2 => first | k_is | kernel_rfl); (case e3 => first | k_is | kernel_rfl); (case e4 => k_is); (case e5 => first | k_is | kernel_rfl); (case e6 => k_is); (case e7 => first | k_is | kernel_rfl)))
    (case f71 => (refine' M1.erK_mk ?a ?b ?l ?c ?k ?t ?h ?v ?e1 ?e2 ?e3 ?e4 ?e5 ?e6 ?e7; (case a => k_is); (case b => k_is); (case l => k_is); (case c => k_is); (case k => k_is); (case t => first | k_is | kernel_rfl); (case h => first | k_is | kernel_rfl); (case v => first | k_is | kernel_rfl); (case e1 => first | k_is | kernel_rfl); (case e2 => first | k_is | kernel_rfl); (case e3 => first | k_is | kernel_rfl); (case e4 => k_is); (case e5 => first | k_is | kernel_rfl); (case e6 => k_is); (case e7 => first | k_is | kernel_rfl)))
    (case f72 => (refine' M1.erK_mk ?a ?b ?l ?c ?k ?t ?h ?v ?e1 ?e2 ?e3 ?e4 ?e5 ?e6 ?e7; (case a => k_is); (case b => k_is); (case l => k_is); (case c => k_is); (case k => k_is); (case t => first | k_is | kernel_rfl); (case h => first | k_is | kernel_rfl); (case v => first | k_is | kernel_rfl); (case e1 => first | k_is | kernel_rfl); (case e2 => first | k_is | kernel_rfl); (case e3 => first | k_is | kernel_rfl); (case e4 => k_is); (case e5 => first | k_is | kernel_rfl); (case e6 => k_is); (case e7 => first | k_is | kernel_rfl)))
    (case f73 => kernel_rfl)
    (case f74 => kernel_rfl)
    (case f75 => kernel_rfl)
    (case f76 => kernel_rfl)
    (case f77 => kernel_rfl)
    (case f78 => kernel_rfl)
    (case f79 => kernel_rfl)
    (case f80 => kernel_rfl)
    (case f81 => kernel_rfl)
    (case f82 => kernel_rfl)
    (case f83 => kernel_rfl)
    (case f84 => (refine' M1.noAt_mk ?a ?b ?c1 ?c2 ?c3 ?c4; (case a => k_is); (case b => first | k_is | kernel_rfl); (case c1 => first | k_is | kernel_rfl); (case c2 => first | k_is | kernel_rfl); (case c3 => first | k_is | kernel_rfl); (case c4 => first | k_is | kernel_rfl)))
    (case f85 => (refine' M1.noAt_mk ?a ?b ?c1 ?c2 ?c3 ?c4; (case a => k_is); (case b => first | k_is | kernel_rfl); (case c1 => first | k_is | kernel_rfl); (case c2 => first | k_is | kernel_rfl); (case c3 => first | k_is | kernel_rfl); (case c4 => first | k_is | kernel_rfl)))
    (case f86 => (refine' M1.makF_mk ?a ?b ?c; (case a => k_is); (case b => first | k_is | kernel_rfl); (case c => first | k_is | kernel_rfl)))
-- levels: {'is_decimal': 1, 'is_number_word': 2, 'is_head': 3, 'is_command': 3, 'read_lines': 4, 'look_node': 3, 'Recorder__init': 4, 'words_of': 1, 'Recorder__partial': 1, 'page_text': 4, 'surplus': 1, 'entries': 1, 'extra_of': 2, 'least_overdrawn': 1, 'leading': 1, 'stranded': 2, 'last_entries': 1, 'reading': 1, 'verdict': 4, 'Recorder__trace': 1, 'explained': 5, 'Recorder__current': 2, 'determinant': 1, 'all_entries': 1, 'extra_in': 2, 'possible_exits': 1, 'choices_of': 2, 'is_feasible': 3, 'shares': 2, 'tree_matrix': 3, 'factorial': 1, 'orders': 2, 'number_of_fillings': 4, 'Recorder__count': 5, 'query': 6, 'with_page': 1, 'copied': 1, 'forgotten': 4, 'Recorder__forget': 5, 'Recorder__undo': 1, 'moved': 2, 'Recorder__step': 4, 'Recorder__walk': 4, 'Recorder__add_node': 3, 'command': 6, 'answer': 7, 'answers': 8, '_law_equal': 13, '_law_holds': 14, '_law_source': 1, 'law': 15}
