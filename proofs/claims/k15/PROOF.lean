import PyProof.Rows.All
import Wide.All
import OpenK.AllK
import Wide.FinOn
import HandS.ForMost
import HandS.Exc
import HandS.ExcOwn
import HandS.TryOnly
import HandS.TryMany
import HandS.Lambda
import HandS.IsInst
import HandS.Flow
import HandS.Style
import HandS.TupAny
import HandS.Wide
import HandS.Codes
import HandS.Deep
import HandS.TupMul
import HandS.SortKw
import KE.DatumOrd
import KE.KIntText
import PyProof.Rows.StrOr
import HandS.Comp
import KE.GoesEnum
import HandS.Iter
import HandS.Walk
import HandS.ExcInit
import KE.KExcInit
import HandS.ExcIs
import HandS.ExcField
import KE.KExcLine
import KE.KTupSum
import KE.KRevSl
import HandS.SortInts
import HandS.More
import HandS.Star
import HandS.NoneIn
import PySem.Challenge.RW_leastsession_k15_whole_functions
section
set_option Elab.async false
set_option linter.all false
set_option maxRecDepth 100000
set_option maxHeartbeats 4000000
namespace Ls
open PySem PySem.Spec PyProof.Rows L2

/-- there is room, and no repr runs around -/
structure RoomG (k : Nat) (A : Around) : Prop where
  rm : Room k A
  gd : A.guards = some []
theorem RoomG.mono {j k : Nat} {A : Around} (r : RoomG k A) (h : j ≤ k) : RoomG j A := ⟨r.rm.mono h, r.gd⟩

/-- the promise of a def, kept where no repr is under way -/
structure FnG (P : Program) (w : World) (K : PySem.W.Frag) (mg : Str → Option Value) (base : Heap) (k : Nat) (f : Addr) (fd : FuncData) (ps : List Str) (sp : Sp) : Prop where
  len : ∀ vs H Q E, sp vs H Q E → vs.length = ps.length
  run : ∀ (A : Around) (outer : List Env) (s : Shared) (H : Hp) (args : Args) (us : List Value) (vs : List V) (Q : VK) (E : XK), RoomG k A →
    Env0 P w K mg base A outer s H → BindsTo s fd args (ps.zip us) → Vals vs us → sp vs H Q E →
    codeAny (model P w) A (.call (.ref f) args) (CR (L2.CX P w) outer P w H s Q E) s

/-- what the top has written of one def: its name, its statement, its parameters -/
structure Df (K : PySem.W.Frag) (mg : Str → Option Value) (x : Str) (st : Stmt) (ps : List Str) : Prop where
  ex : ∃ (f : Addr) (fd : FuncData), Fun K x x st f fd ∧ mg x = some (.ref f) ∧ ∀ (us : List Value), us.length = ps.length → bindArgs fd ⟨us, []⟩ = pure (ps.zip us)
/-- a module's name that stands for a def with this promise -/
structure Cal (P : Program) (w : World) (K : PySem.W.Frag) (mg : Str → Option Value) (base : Heap) (k : Nat) (x : Str) (st : Stmt) (ps : List Str) (sp : Sp) : Prop where
  ex : ∃ (f : Addr) (fd : FuncData), FnG P w K mg base k f fd ps sp ∧ mg x = some (.ref f) ∧ Fun K x x st f fd ∧ ∀ (us : List Value), us.length = ps.length → bindArgs fd ⟨us, []⟩ = pure (ps.zip us)

section
variable {P : Program} {w : World} {K : PySem.W.Frag} {mg : Str → Option Value} {base : Heap} {x : Str} {st : Stmt} {ps : List Str}
theorem Cal.imp {k : Nat} {sp sp' : Sp} (c : Cal P w K mg base k x st ps sp) (h : ∀ vs H Q E, sp' vs H Q E → sp vs H Q E) : Cal P w K mg base k x st ps sp' := by
  obtain ⟨f, fd, F, a, b, d⟩ := c.ex
  exact ⟨f, fd, ⟨fun vs H Q E q => F.len vs H Q E (h _ _ _ _ q), fun A outer s H args us vs Q E hr he hb hv hs => F.run A outer s H args us vs Q E hr he hb hv (h _ _ _ _ hs)⟩, a, b, d⟩
theorem Df.make {f : Addr} {oc : Value} {od an : Option Addr} {osl : Array (Option Value)} {kV doc pm cdv ct : Value}
    (g : mg x = some (.ref f)) (l : K.lookup f = some ⟨oc, od, .func (PySem.W.fnOf x x (defArgs st) (defBody st) (defScope st) .none kV doc pm an cdv ct), osl⟩)
    (c : PySem.W.codeIn K cdv x = true) (k : PySem.W.keepIn K (.ref f) = true)
    (h : ∀ (kV doc pm : Value) (an : Option Addr) (cdv ct : Value) (us : List Value), us.length = ps.length → bindArgs (PySem.W.fnOf x x (defArgs st) (defBody st) (defScope st) .none kV doc pm an cdv ct) ⟨us, []⟩ = pure (ps.zip us)) : Df K mg x st ps :=
  ⟨f, _, fun_mk l c k, g, h kV doc pm an cdv ct⟩

/-- a def keeps its promise: its body as a term of rules, and the reading of that term -/
theorem Df.ok {N : List Str} {k : Nat} {sp : Sp} (D : Df K mg x st ps) (S : FnScope N ps (defScope st)) (len : ∀ vs H Q E, sp vs H Q E → vs.length = ps.length)
    (body : ∀ (f : Addr) (cdv : Value) (A : Around) (outer : List Env) (s : Shared) (H : Hp) (vs : List V) (Q : VK) (E : XK), RoomG k (A.deeper (envOfC x (defScope st) s.heap.objs.size f cdv)) → sp vs H Q E →
      ∃ t, PSs (cxOf (L2.CX P w) P w K mg base N x (defScope st) f cdv A outer s H E) (defBody st) t ∧ t { nx := fun _ H' => Q .non H', rt := Q } (start N vs) H) : Cal P w K mg base (k + 1) x st ps sp := by
  obtain ⟨f, fd, F, g, b⟩ := D.ex
  obtain ⟨oc, od, kV, doc, pm, an, cdv, ct, osl, rfl, lk, hcd⟩ := F.ex
  refine ⟨f, _, ⟨len, fun A outer s H args us vs Q E hr e0 hb r hsp => ?_⟩, g, F, b⟩
  exact LamX.run_ofS lk hcd S hr.rm e0 hb r (len _ _ _ _ hsp) fun hr' => body f cdv A outer s H vs Q E ⟨hr', hr.gd⟩ hsp
end

/-- a promise that is never asked for -/
theorem Df.never {P : Program} {w : World} {K : PySem.W.Frag} {mg : Str → Option Value} {base : Heap} {x : Str} {st : Stmt} {ps : List Str} {sp : Sp} (D : Df K mg x st ps) (h : ∀ vs H Q E, ¬ sp vs H Q E) : Cal P w K mg base 0 x st ps sp := by
  obtain ⟨f, fd, F, g, b⟩ := D.ex
  exact ⟨f, fd, ⟨fun vs H Q E q => absurd q (h vs H Q E), fun A outer s H args us vs Q E _ _ _ _ q => absurd q (h vs H Q E)⟩, g, F, b⟩
theorem Cal.up {P : Program} {w : World} {K : PySem.W.Frag} {mg : Str → Option Value} {base : Heap} {x : Str} {st : Stmt} {ps : List Str} {sp : Sp} {j k : Nat} (C : Cal P w K mg base j x st ps sp) (h : j ≤ k) : Cal P w K mg base k x st ps sp := by
  obtain ⟨f, fd, F, g, b⟩ := C.ex
  exact ⟨f, fd, ⟨F.len, fun A outer s H args us vs Q E hr => F.run A outer s H args us vs Q E (hr.mono h)⟩, g, b⟩
/-- x(e, ..): the values, then the promise; E: the wish about exceptions -/
def tCal (sp : Sp) (E : XK) (t : TA) : TE := fun σ H Q => t σ H fun vs H1 => sp vs H1 Q E
/-- keywords: perm brings the written order into the parameters' -/
def tCalK (sp : Sp) (E : XK) (perm : List V → List V) (t : TA) : TE := fun σ H Q => t σ H fun vs H1 => sp (perm vs) H1 Q E
section
variable {X : Cx} {k : Nat} {ps : List Str} {st : Stmt} {sp : Sp} {E : XK} {x : Str} {p pos : Pos} {e : Expr} {es : List Expr} {t : TA}
/-- the callee runs; args: how the values come (positions, keywords), us: in the parameters' order -/
theorem run_g {pins : List (Addr × Obj)} {σ : L2.St} {H : Hp} {s : Shared} {Q : VK} {args : Args} {us : List Value} {vs : List V} {f : Addr} {fd : FuncData}
    (F : FnG X.prog X.w X.K X.mg X.base k f fd ps sp) (hr : RoomG k X.A) (hb : BindsTo s fd args (ps.zip us)) (hx : Passes (L2.CX X.prog X.w) X E)
    (I : Inv X pins σ H s) (r : Vals vs us) (h : sp vs H Q E) : codeAny (model X.prog X.w) X.A (.call (.ref f) args) (fun r s' => match r with | .ok (.ret u) => EP X pins σ Q u s' | .ok _ => False | .error e => X.xe e s') s := by
  refine codeAny_mono (F.run X.A X.stack s H args us vs Q E hr I.env0 hb r h) fun z s' hq => ?_
  cases z with
  | error e => exact hx pins σ H s e s' I hq
  | ok fl =>
    cases fl with
    | ret u => exact I.after hq
    | next => exact False.elim hq
    | brk => exact False.elim hq
    | cont => exact False.elim hq
theorem call_g {pins : List (Addr × Obj)} {σ : L2.St} {s : Shared} {Q : VK} {f : Addr} {us : List Value} {kw : List (Str × Value)}
    (h : codeAny (model X.prog X.w) X.A (.call (.ref f) ⟨us, kw⟩) (fun r s' => match r with | .ok (.ret u) => EP X pins σ Q u s' | .ok _ => False | .error e => X.xe e s') s) : wpAny (model X.prog X.w) X.A (call (.ref f) us kw) (EP X pins σ Q) X.xe s := by
  refine wpAny_call (codeAny_mono h fun z s' hq => ?_)
  cases z with
  | error e => exact hq
  | ok fl => cases fl <;> first | exact hq | exact False.elim hq
/-- x(e, ..) -/
theorem pe_g (c : Cal X.prog X.w X.K X.mg X.base k x st ps sp) (hr : RoomG k X.A) (hx : Passes (L2.CX X.prog X.w) X E) (ha : PA X (e :: es) t) (hg : Gl X x := by rfl)
    (hdb : (x == ("__debug__" : Str)) = false := by decide) (he : starEach (e :: es) X.env = (false, eval e X.env) :: starEach es X.env := by rfl) (hpl : (backTo pos (starEach es X.env)).any (·.1) = false := by rfl) :
    PE X (.Call (.Name x p) (e :: es) [] pos) (tCal sp E t) := by
  obtain ⟨f, fd, F, hm, hk, hb⟩ := c.ex
  refine ⟨fun pins s σ H Q I h => ?_⟩
  refine wpAny_Call_Name_kw (ld_glob I hg hm ?_ hdb)
  refine PySem.W.callWith_K (h₀ := X.base) I.ok.mod.kin hk.kp (thn (ha.run pos pins s σ H _ I h) fun us s1 ⟨vs, H1, I1, r, q⟩ => ⟨I1.kIn, ?_⟩) he hpl
  have hl : us.length = ps.length := by rw [← r.length]; exact F.len _ _ _ _ q
  exact call_g (run_g F hr (.of_eq (hb us hl)) hx I1 r q)
/-- x() -/
theorem pe_g0 (c : Cal X.prog X.w X.K X.mg X.base k x st ps sp) (hr : RoomG k X.A) (hx : Passes (L2.CX X.prog X.w) X E) (hg : Gl X x := by rfl)
    (hdb : (x == ("__debug__" : Str)) = false := by decide) : PE X (.Call (.Name x p) [] [] pos) (tCal sp E tNil) := by
  obtain ⟨f, fd, F, hm, hk, hb⟩ := c.ex
  refine ⟨fun pins s σ H Q I h => ?_⟩
  refine wpAny_Call_Name_kw (ld_glob I hg hm ?_ hdb)
  have hl : ([] : List Value).length = ps.length := F.len _ _ _ _ h
  exact PySem.W.callWith_K0 I.kIn hk.kp (call_g (run_g (us := []) F hr (.of_eq (hb [] hl)) hx I .nil h))
/-- x(k = v, ..), keywords alone, in any order -/
theorem pe_gk {kws : List Keyword} {ks : List Str} {perm : List V → List V} {permV : List Value → List Value} (c : Cal X.prog X.w X.K X.mg X.base k x st ps sp) (hr : RoomG k X.A) (hx : Passes (L2.CX X.prog X.w) X E) (hkw : PK X kws t)
    (hks : (backToKw pos (keywordEach kws X.env)).filterMap (·.1) = ks)
    (hb : ∀ (kV doc pm : Value) (an : Option Addr) (cdv ct : Value) (us : List Value), us.length = ks.length → bindArgs (PySem.W.fnOf x x (defArgs st) (defBody st) (defScope st) .none kV doc pm an cdv ct) ⟨[], ks.zip us⟩ = pure (ps.zip (permV us)))
    (hp : ∀ vs us, Vals vs us → Vals (perm vs) (permV us)) (hn : ∀ (vs : List V) H Q, sp (perm vs) H Q E → vs.length = ks.length) (hg : Gl X x := by rfl) (hall : (backToKw pos (keywordEach kws X.env)).all (·.1.isSome) = true := by rfl)
    (hdb : (x == ("__debug__" : Str)) = false := by decide) (hpl : ((backTo pos (starEach [] X.env)).any (·.1) || (backToKw pos (keywordEach kws X.env)).any (·.1.isNone)) = false := by rfl) :
    PE X (.Call (.Name x p) [] kws pos) (tCalK sp E perm t) := by
  obtain ⟨f, fd, F, hm, hk, _⟩ := c.ex
  refine ⟨fun pins s σ H Q I h => ?_⟩
  refine wpAny_Call_Name_kw (ld_glob I hg hm ?_ hdb)
  refine PySem.W.callWith_KW0 (h₀ := X.base) I.ok.mod.kin hk.kp hall (thn (hkw.run pos pins s σ H _ I h) fun us s1 ⟨vs, H1, I1, r, q⟩ => ⟨I1.kIn, ?_⟩) hpl
  rw [hks]
  obtain ⟨oc, od, kV, doc, pm, an, cdv, ct, osl, rfl, _, _⟩ := hk.ex
  have hl : us.length = ks.length := by rw [← r.length]; exact hn vs H1 Q q
  exact call_g (run_g F hr (.of_eq (hb kV doc pm an cdv ct us hl)) hx I1 (hp vs us r) q)
/-- .. in the parameters' order -/
theorem pe_gi {kws : List Keyword} {ks : List Str} (c : Cal X.prog X.w X.K X.mg X.base k x st ps sp) (hr : RoomG k X.A) (hx : Passes (L2.CX X.prog X.w) X E) (hkw : PK X kws t)
    (hks : (backToKw pos (keywordEach kws X.env)).filterMap (·.1) = ks)
    (hb : ∀ (kV doc pm : Value) (an : Option Addr) (cdv ct : Value) (us : List Value), us.length = ks.length → bindArgs (PySem.W.fnOf x x (defArgs st) (defBody st) (defScope st) .none kV doc pm an cdv ct) ⟨[], ks.zip us⟩ = pure (ps.zip us))
    (hkl : ps.length = ks.length := by rfl) (hg : Gl X x := by rfl) (hall : (backToKw pos (keywordEach kws X.env)).all (·.1.isSome) = true := by rfl)
    (hdb : (x == ("__debug__" : Str)) = false := by decide) (hpl : ((backTo pos (starEach [] X.env)).any (·.1) || (backToKw pos (keywordEach kws X.env)).any (·.1.isNone)) = false := by rfl) :
    PE X (.Call (.Name x p) [] kws pos) (tCal sp E t) :=
  pe_gk (perm := fun l => l) (permV := fun l => l) c hr hx hkw hks hb (fun _ _ r => r) (fun vs H Q h => by obtain ⟨f, fd, F, _⟩ := c.ex; exact (F.len _ _ _ _ h).trans hkl) hg hall hdb hpl
/-- no exception -/
theorem px0 {X : Cx} : Passes (L2.CX X.prog X.w) X E0 := fun _ _ _ _ _ _ _ h => by
  obtain ⟨_, _, _, _, _, _, _, _, _, _, _, _, z⟩ := h
  exact z.elim
/-- what leaves the callee leaves the def, too -/
theorem pxE {W : WX} (tk : Takes X W) (h : ∀ cls d σ H, E cls d H → W cls d σ H) : Passes (L2.CX X.prog X.w) X E := passes_call tk h
end
end Ls
end

section
set_option Elab.async false
set_option linter.all false
set_option maxRecDepth 100000
set_option maxHeartbeats 4000000
namespace Ls
open PySem PySem.Spec PyProof.Rows L2
/-- the script's object -/
abbrev scrO (vs : List Value) : Obj := { cls := .type "list", data := .seq vs.toArray }
open Classical in
/-- the script alone is tracked, where it is no object of the module's own -/
noncomputable def scrH (K : PySem.W.Frag) (a : Addr) (vs : List Value) (ns : List Int) : Hp := fun b => if b = a ∧ K.lookup a = none then some (.frz (scrO vs) (.lst (ns.map V.int))) else none
section
variable {K : PySem.W.Frag} {a b : Addr} {vs : List Value} {ns : List Int} {u : HO}
theorem scrH_some (h : scrH K a vs ns b = some u) : b = a ∧ K.lookup a = none ∧ u = .frz (scrO vs) (.lst (ns.map V.int)) := by
  unfold scrH at h
  split at h
  · rename_i c; exact ⟨c.1, c.2, (Option.some.inj h).symm⟩
  · cases h
theorem scrH_at (h : K.lookup a = none) : scrH K a vs ns a = some (.frz (scrO vs) (.lst (ns.map V.int))) := if_pos ⟨rfl, h⟩
theorem scrH_only : Only (scrH K a vs ns) := fun b => by
  cases e : scrH K a vs ns b with
  | none => exact .inl rfl
  | some u => obtain ⟨_, _, rfl⟩ := scrH_some e; exact .inr ⟨_, _, rfl⟩
end
/-- nothing is tracked but what is locked -/
theorem law_g {P : Program} {w : World} {K : PySem.W.Frag} {mg mb : Str → Option Value} {k : Nat} {fa a : Addr} {x nm : Str} {st : Stmt} {sp : Sp} {s1 : Shared} {vs : List Value} {ns : List Int}
    (KX : K.In s1.heap) (hns : s1.heap.Ns mainGlobals mg) (hb : s1.heap.Ns builtinsNs mb) (hbb : ∀ x : Str, x ≠ "__name__" → mb x = bootBuiltins x) (hlim : s1.heap.NoLimit) (hdig : s1.heap.NoDigits) (hg : s1.gens = #[])
    (ha : s1.heap.get? a = some (scrO vs)) (hi : IntsAre vs ns) (hl : ns.length ≤ sizeLine) (hr : Room k callerA) (hfa : mg nm = some (.ref fa))
    (F : ∀ base : Heap, K.In base → base.Ns mainGlobals mg → (∃ mc, base.Ns builtinsNs mc ∧ ∀ x : Str, x ≠ "__name__" → mc x = bootBuiltins x) → base.objs.size ≤ s1.heap.objs.size → base.NoDigits → Cal P w K mg base k nm st [x] sp)
    (hsp : ∀ H : Hp, Only H → SqL K H a (ns.map V.int) → sp [.ref a] H (fun v _ => v = .bl true) fun _ _ _ => False) :
    codeAny (model P w) callerA (.call (.ref fa) ⟨[.ref a], []⟩) (fun r s' => r = .ok (.ret (.bool true)) ∧ OldK s1.heap s'.heap ∧ s'.os = s1.os ∧ AllBare s'.gens) s1 := by
  have rv := vals_ints hi
  let H := scrH K a vs ns
  have len : vs.length = ns.length := hi.length
  have seq : SqL K H a (ns.map V.int) := by
    cases e : K.lookup a with
    | none => exact .inl (.inr ⟨_, scrH_at e⟩)
    | some o =>
      have q := KX a o e
      rw [ha] at q
      cases q
      exact .inr ⟨_, vs.toArray, _, e, rfl, rfl, rfl, by rw [List.size_toArray, len]; exact hl, by simpa using rv⟩
  have hok : HOk P w H s1.heap := fun b u e => by
    obtain ⟨rfl, _, rfl⟩ := scrH_some e
    exact ⟨ha, by rw [List.length_map]; exact hl, vs, _, rv, ha⟩
  -- what is no list stands apart from the script
  have apart : ∀ {b : Addr} {o : Obj} {es : Array DictEntry} {n : Nat}, s1.heap.get? b = some o → o.data = .dict es n → (hidT s1.heap H).get? b = some o := fun {b o es n} e d => by
    refine hidT_get e ?_
    cases q : H b with
    | none => rfl
    | some u =>
      obtain ⟨rfl, _, _⟩ := scrH_some q
      rw [ha] at e
      cases e
      cases d
  have own : ∀ {b : Addr} {m : Str → Option Value}, s1.heap.Ns b m → (hidT s1.heap H).Ns b m := fun ⟨o, es, n, e, d, r⟩ => ⟨o, es, n, apart e d, d, r⟩
  have kin : K.In (hidT s1.heap H) := fun b o e => hidT_get (KX b o e) (by
    cases q : H b with
    | none => rfl
    | some u =>
      obtain ⟨rfl, n, _⟩ := scrH_some q
      rw [n] at e
      cases e)
  have bl : ∃ mc, (hidT s1.heap H).Ns builtinsNs mc ∧ ∀ x : Str, x ≠ "__name__" → mc x = bootBuiltins x := ⟨mb, own hb, hbb⟩
  have M : Mod K mg (hidT s1.heap H) := ⟨kin, own hns, bl, let ⟨mc, h1, h2⟩ := hlim; ⟨mc, own h1, h2⟩⟩
  have e0 : Env0 P w K mg (hidT s1.heap H) callerA [] s1 H := ⟨rfl, M, fun b o e => of_hidT e, Nat.le_of_eq (hidT_size _ _), trivial, fun b z => (nomatch z), hok, .of_eq hg⟩
  obtain ⟨f, fd, C, g, _, bnd⟩ := (F _ kin (own hns) bl (Nat.le_of_eq (hidT_size _ _)) (let ⟨mc, h1, h2⟩ := hdig; ⟨mc, own h1, h2⟩)).ex
  rw [hfa] at g
  cases g
  refine codeAny_mono (C.run callerA [] s1 H ⟨[.ref a], []⟩ [.ref a] [.ref a] _ _ ⟨hr, rfl⟩ e0 (.of_eq (bnd _ rfl)) (.cons rfl .nil) (hsp H scrH_only seq)) fun r s' q => ?_
  cases r with
  | error e =>
    obtain ⟨_, _, _, _, _, _, _, _, _, _, _, _, z⟩ := q
    exact z.elim
  | ok fl =>
    cases fl with
    | next => exact False.elim q
    | brk => exact False.elim q
    | cont => exact False.elim q
    | ret u =>
      obtain ⟨v, H', os, bare, un, hok', rv', rfl⟩ := q
      obtain rfl : u = Value.bool true := rv'
      refine ⟨rfl, OldK.of_keep fun b o e => ?_, os, bare⟩
      cases z : H b with
      | none => exact un.keep b o e z (fun z => nomatch z) (fun z => nomatch z)
      | some u =>
        obtain ⟨rfl, _, rfl⟩ := scrH_some z
        rw [ha] at e
        cases e
        exact (hok' b _ (un.frzs b _ _ z)).1
/-- the goal that k_head leaves (case hc), from the law's promise -/
theorem walk_g {l : PySem.W.OpenLaw} {n k : Nat} {q : Program} {loose : List Str} {XP : (Str → Option Value) → Heap → Prop} {YP : World → Heap → Prop} {d : DefRec} {K : Params → PySem.W.Frag} {sp : PySem.W.Frag → Sp} {x : Str} {st : Stmt}
    (hn : l.most = some n) (hn2 : n ≤ sizeLine) (hdf : d.params.defaults = []) (hr : Room k callerA)
    (hY : ∀ (w : World) (h : Heap), YP w h → (K w.params).In h)
    (F : ∀ (w : World) (mg : Str → Option Value) (fa : Addr) (h : Heap), (K w.params).In h → h.Ns mainGlobals mg → mg d.name = some (.ref fa) →
      ∀ base : Heap, (K w.params).In base → base.Ns mainGlobals mg → base.NoDigits → Cal l.prog w (K w.params) mg base k d.name st [x] (sp (K w.params)))
    (hsp : ∀ (K : PySem.W.Frag) (H : Hp) (a : Addr) (ns : List Int), ns.length ≤ n → Only H → SqL K H a (ns.map V.int) → sp K [.ref a] H (fun v _ => v = .bl true) fun _ _ _ => False) :
    PySem.W.WalkO q loose XP YP l.row.toRowW d [] (fun f vs => PySem.call f vs) := by
  refine Att.attach_call hn hdf fun w s0 s1 mg mb fa o pm cd doc a vs ns G Y ho hd hcd hmg hobj hints hlen hg => ?_
  exact law_g (hY w _ Y) G.T.g G.T.b G.T.builtins G.T.nolimit G.T.nodigits hg hobj hints (Nat.le_trans hlen hn2) hr hmg (fun base h1 h2 _ _ h5 => F w mg fa _ (hY w _ Y) G.T.g hmg base h1 h2 h5) fun H hO hS => hsp _ H a ns hlen hO hS
end Ls
end

section
set_option Elab.async false
set_option linter.all false
set_option maxRecDepth 100000
set_option maxHeartbeats 4000000
namespace Ls
open PySem PySem.Spec PyProof.Rows L2

/-- everything that was tracked stands -/
def Ex (H H' : Hp) : Prop := ∀ a o, H a = some o → H' a = some o
theorem Ex.refl (H : Hp) : Ex H H := fun _ _ h => h
theorem Ex.trans {H H1 H2 : Hp} (a : Ex H H1) (b : Ex H1 H2) : Ex H H2 := fun x o h => b x o (a x o h)
theorem Ex.new {H : Hp} {p : Addr} {o : HO} (h : H p = none) : Ex H (upd H p o) := fun a u e => by rw [upd_ne (ne_of_none e h)]; exact e
theorem Ex.back {H H' : Hp} {p : Addr} (e : Ex H H') (h : H' p = none) : H p = none := by
  cases q : H p with
  | none => rfl
  | some o => rw [e p o q] at h; cases h
theorem Ex.rd {H H' : Hp} {a : Addr} {u : HO} (e : Ex H H') (h : Rd H a u) : Rd H' a u := by
  rcases h with h | ⟨o, h⟩
  · exact .inl (e _ _ h)
  · exact .inr ⟨o, e _ _ h⟩
theorem Ex.sl {K : PySem.W.Frag} {H H' : Hp} {a : Addr} {xs : List V} (e : Ex H H') (h : SqL K H a xs) : SqL K H' a xs := h.imp e.rd id
theorem Ex.st {K : PySem.W.Frag} {H H' : Hp} {a : Addr} {xs : List V} (e : Ex H H') (h : SqT K H a xs) : SqT K H' a xs := h.imp e.rd id

def keyD : Key → PyData
  | .inl i => .int i
  | .inr x => .str x
mutual
/-- the value v bears the data d -/
inductive Dt (K : PySem.W.Frag) (H : Hp) : V → PyData → Prop
  | non : Dt K H .non .none
  | bl (b : Bool) : Dt K H (.bl b) (.bool b)
  | int (i : Int) : Dt K H (.int i) (.int i)
  | str (x : Str) : Dt K H (.str x) (.str x)
  | lst {a : Addr} {xs : List V} {ds : List PyData} : SqL K H a xs → DtAll K H xs ds → Dt K H (.ref a) (.list ds)
  | tup {a : Addr} {xs : List V} {ds : List PyData} : SqT K H a xs → DtAll K H xs ds → Dt K H (.ref a) (.tuple ds)
  | dct {a : Addr} {kvs : List (Key × V)} {ds : List PyData} : Rd H a (.dK kvs) → DtAll K H (kvs.map (·.2)) ds → Dt K H (.ref a) (.dict ((kvs.map fun p => keyD p.1).zip ds))
inductive DtAll (K : PySem.W.Frag) (H : Hp) : List V → List PyData → Prop
  | nil : DtAll K H [] []
  | cons {v : V} {vs : List V} {d : PyData} {ds : List PyData} : Dt K H v d → DtAll K H vs ds → DtAll K H (v :: vs) (d :: ds)
end
section
variable {K : PySem.W.Frag} {H H' : Hp}
mutual
theorem Dt.mono (e : Ex H H') : ∀ {v : V} {d : PyData}, Dt K H v d → Dt K H' v d
  | _, _, .non => .non
  | _, _, .bl b => .bl b
  | _, _, .int i => .int i
  | _, _, .str x => .str x
  | _, _, .lst h a => .lst (e.sl h) (a.mono e)
  | _, _, .tup h a => .tup (e.st h) (a.mono e)
  | _, _, .dct h a => .dct (e.rd h) (a.mono e)
theorem DtAll.mono (e : Ex H H') : ∀ {v : List V} {d : List PyData}, DtAll K H v d → DtAll K H' v d
  | _, _, .nil => .nil
  | _, _, .cons a b => .cons (a.mono e) (b.mono e)
end
theorem DtAll.length : ∀ {vs : List V} {ds : List PyData}, DtAll K H vs ds → vs.length = ds.length
  | _, _, .nil => rfl
  | _, _, .cons _ b => congrArg Nat.succ b.length
theorem DtAll.get : ∀ {vs : List V} {ds : List PyData} {i : Nat} {v : V}, DtAll K H vs ds → vs[i]? = some v → ∃ d, ds[i]? = some d ∧ Dt K H v d
  | _, _, _, _, .nil, e => by simp at e
  | _, _, 0, v, .cons a _, e => by
    have z : _ = v := Option.some.inj e
    exact ⟨_, rfl, z ▸ a⟩
  | _, _, i + 1, v, .cons _ b, e => b.get (i := i) (by simpa using e)
theorem DtAll.getD : ∀ {vs : List V} {ds : List PyData} {i : Nat} {d : PyData}, DtAll K H vs ds → ds[i]? = some d → ∃ v, vs[i]? = some v ∧ Dt K H v d
  | _, _, _, _, .nil, e => by simp at e
  | _, _, 0, d, .cons a _, e => by
    have z : _ = d := Option.some.inj e
    exact ⟨_, rfl, z ▸ a⟩
  | _, _, i + 1, d, .cons _ b, e => b.getD (i := i) (by simpa using e)
theorem DtAll.append : ∀ {vs ws : List V} {ds es : List PyData}, DtAll K H vs ds → DtAll K H ws es → DtAll K H (vs ++ ws) (ds ++ es)
  | _, _, _, _, .nil, b => b
  | _, _, _, _, .cons x a, b => .cons x (a.append b)
theorem DtAll.take : ∀ {vs : List V} {ds : List PyData} (n : Nat), DtAll K H vs ds → DtAll K H (vs.take n) (ds.take n)
  | _, _, 0, _ => .nil
  | _, _, _ + 1, .nil => .nil
  | _, _, n + 1, .cons x a => .cons x (a.take n)
theorem DtAll.drop : ∀ {vs : List V} {ds : List PyData} (n : Nat), DtAll K H vs ds → DtAll K H (vs.drop n) (ds.drop n)
  | _, _, 0, r => r
  | _, _, _ + 1, .nil => .nil
  | _, _, n + 1, .cons _ a => a.drop n
theorem DtAll.ints : ∀ ns : List Int, DtAll K H (ns.map V.int) (ns.map PyData.int)
  | [] => .nil
  | n :: ns => .cons (.int n) (DtAll.ints ns)
end

section
variable {X : Cx} {pins : List (Addr × Obj)} {σ : L2.St} {H : Hp} {s : Shared}
theorem keys_read {prog : Program} {w : World} {h : Heap} : ∀ {kvs : List (Key × V)} {vs : List (Key × Value)} {es : List DictEntry}, KV kvs vs → Pairs (mixKind prog w) es vs →
    ReadsAll h (es.map (·.key)) (kvs.map fun p => keyD p.1) [] ∧ Vals (kvs.map (·.2)) (es.map (·.val))
  | _, _, _, .nil, .nil => ⟨.nil, .nil⟩
  | (k, v) :: kvs, (k', u) :: vs, e :: es, .cons a b, .cons c d f => by
    obtain ⟨h1, h2⟩ := keys_read (h := h) b f
    have a1 : k = k' := a.1
    have a2 : RelV v u := a.2
    subst a1
    have d' : e.val = u := d
    refine ⟨?_, .cons (show RelV v e.val by rw [d']; exact a2) h2⟩
    rcases keyIs_shape c with ⟨i, t, e1, e2⟩ | ⟨x, t, e1, e2⟩
    · have e1' : k = Sum.inl i := e1
      subst e1'
      show ReadsAll h (e.key :: es.map (·.key)) (.int i :: _) ([] ++ [])
      rw [e2]
      exact .cons (.int i t) h1
    · have e1' : k = Sum.inr x := e1
      subst e1'
      show ReadsAll h (e.key :: es.map (·.key)) (.str x :: _) ([] ++ [])
      rw [e2]
      exact .cons (.str x t) h1
theorem zip_fst : ∀ {α β : Type} {l : List α} {m : List β}, l.length = m.length → (l.zip m).map (·.1) = l
  | _, _, [], [], _ => rfl
  | _, _, a :: l, b :: m, h => by
    show a :: (l.zip m).map (·.1) = a :: l
    rw [zip_fst (Nat.succ.inj h)]
theorem zip_snd : ∀ {α β : Type} {l : List α} {m : List β}, l.length = m.length → (l.zip m).map (·.2) = m
  | _, _, [], [], _ => rfl
  | _, _, a :: l, b :: m, h => by
    show b :: (l.zip m).map (·.2) = b :: m
    rw [zip_snd (Nat.succ.inj h)]
mutual
/-- what is read off the heap: no dict of it is the interpreter's own -/
inductive RdS (h : Heap) : Value → PyData → Prop
  | none : RdS h .none .none
  | bool (b : Bool) : RdS h (.bool b) (.bool b)
  | int (i : Int) (t : Tok) : RdS h (.int i t) (.int i)
  | str (x : Str) (t : Tok) : RdS h (.str x t) (.str x)
  | list {a : Addr} {o : Obj} {vs : Array Value} {n : Nat} {xs : List PyData} : h.get? a = some o → o.cls = .type "list" → o.data = .seq vs n → RdSL h vs.toList xs → RdS h (.ref a) (.list xs)
  | tuple {a : Addr} {o : Obj} {vs : Array Value} {n : Nat} {xs : List PyData} : h.get? a = some o → o.cls = .type "tuple" → o.data = .seq vs n → RdSL h vs.toList xs → RdS h (.ref a) (.tuple xs)
  | dict {a : Addr} {o : Obj} {es : Array DictEntry} {n : Nat} {kvs : List (PyData × PyData)} : h.get? a = some o → o.cls = .type "dict" → o.data = .dict es n → (a == sysModules) = false → RdSL h (es.toList.map (·.key)) (kvs.map (·.1)) → RdSL h (es.toList.map (·.val)) (kvs.map (·.2)) → RdS h (.ref a) (.dict kvs)
inductive RdSL (h : Heap) : List Value → List PyData → Prop
  | nil : RdSL h [] []
  | cons {v : Value} {d : PyData} {vs : List Value} {ds : List PyData} : RdS h v d → RdSL h vs ds → RdSL h (v :: vs) (d :: ds)
end
mutual
theorem RdS.reads {h : Heap} : ∀ {v : Value} {d : PyData}, RdS h v d → ∃ as, Reads h v d as
  | _, _, .none => ⟨_, .none⟩
  | _, _, .bool b => ⟨_, .bool b⟩
  | _, _, .int i t => ⟨_, .int i t⟩
  | _, _, .str x t => ⟨_, .str x t⟩
  | _, _, .list a b c d => let ⟨_, q⟩ := d.reads; ⟨_, .list a b c q⟩
  | _, _, .tuple a b c d => let ⟨_, q⟩ := d.reads; ⟨_, .tuple a b c q⟩
  | _, _, .dict a b c _ d e => let ⟨_, q⟩ := d.reads; let ⟨_, r⟩ := e.reads; ⟨_, .dict a b c q r⟩
theorem RdSL.reads {h : Heap} : ∀ {vs : List Value} {ds : List PyData}, RdSL h vs ds → ∃ as, ReadsAll h vs ds as
  | _, _, .nil => ⟨_, .nil⟩
  | _, _, .cons a b => let ⟨_, q⟩ := a.reads; let ⟨_, r⟩ := b.reads; ⟨_, .cons q r⟩
end
mutual
/-- what is read, and has no dict -/
theorem RdS.of {h : Heap} : ∀ {v : Value} {d : PyData} {as : List Addr}, Reads h v d as → d.hasDict = false → RdS h v d
  | _, _, _, .none, _ => .none
  | _, _, _, .bool b, _ => .bool b
  | _, _, _, .int i t, _ => .int i t
  | _, _, _, .str x t, _ => .str x t
  | _, _, _, .list a b c d, n => .list a b c (RdSL.of d (by rw [PyData.hasDict] at n; exact n))
  | _, _, _, .tuple a b c d, n => .tuple a b c (RdSL.of d (by rw [PyData.hasDict] at n; exact n))
  | _, _, _, .dict _ _ _ _ _, n => by rw [PyData.hasDict] at n; cases n
theorem RdSL.of {h : Heap} : ∀ {vs : List Value} {ds : List PyData} {as : List Addr}, ReadsAll h vs ds as → PyData.hasDictAll ds = false → RdSL h vs ds
  | _, _, _, .nil, _ => .nil
  | _, _, _, .cons a b, n => by
    rw [PyData.hasDictAll, Bool.or_eq_false_iff] at n
    exact .cons (RdS.of a n.1) (RdSL.of b n.2)
end
theorem rdSL_keys {h : Heap} {ds' : List Addr} : ∀ {kvs : List (Key × V)} {vs : List Value} {ds : List PyData}, ReadsAll h vs (kvs.map fun p => keyD p.1) ds' → RdSL h vs (kvs.map fun p => keyD p.1) := fun r => RdSL.of r (by
  have key : ∀ l : List (Key × V), PyData.hasDictAll (l.map fun p => keyD p.1) = false := by
    intro l
    induction l with
    | nil => rfl
    | cons p l ih =>
      rw [List.map_cons, PyData.hasDictAll, ih, Bool.or_false]
      cases p.1 <;> rfl
  exact key _)
mutual
theorem Dt.reads (I : Inv X pins σ H s) : ∀ {v : V} {d : PyData} {u : Value}, Dt X.K H v d → RelV v u → RdS s.heap u d
  | _, _, _, .non, r => by cases r; exact .none
  | _, _, _, .bl b, r => by cases r; exact .bool b
  | _, _, _, .int i, r => by obtain ⟨t, rfl⟩ := r; exact .int i t
  | _, _, _, .str x, r => by obtain ⟨t, rfl⟩ := r; exact .str x t
  | _, _, _, .lst h a, r => by
    cases r
    obtain ⟨its, rv, ⟨o, m, ho, hc, _, hd⟩, _⟩ := I.list h
    exact .list ho hc hd (a.reads I rv)
  | _, _, _, .tup h a, r => by
    cases r
    obtain ⟨its, rv, ⟨o, ho, hc, n, hd⟩, _⟩ := I.tuple h
    exact .tuple ho hc hd (a.reads I rv)
  | _, _, _, .dct (kvs := kvs) (ds := ds) h a, r => by
    cases r
    obtain ⟨_, hs, vs, rel, o, es, ep, ho, hx, hd, _, hp, _⟩ := dk_rd I.hok h
    obtain ⟨h1, h2⟩ := keys_read (h := s.heap) rel hp
    have q := a.reads I h2
    have l1 : (kvs.map fun p => keyD p.1).length = ds.length := by
      rw [List.length_map]
      have := a.length
      rw [List.length_map] at this
      exact this
    exact .dict ho hx.1 hd hs (by rw [zip_fst l1]; exact rdSL_keys (ds := ds) h1) (by rw [zip_snd l1]; exact q)
theorem DtAll.reads (I : Inv X pins σ H s) : ∀ {vs : List V} {ds : List PyData} {us : List Value}, DtAll X.K H vs ds → Vals vs us → RdSL s.heap us ds
  | _, _, _, .nil, r => by cases r; exact .nil
  | _, _, _, .cons a b, r => by
    cases r with
    | cons r1 r2 => exact .cons (a.reads I r1) (b.reads I r2)
end
/-- [e, ..]: the new list lies behind what the interpreter itself made -/
def tLstN (t : TA) : TE := fun σ H Q => t σ H fun xs H1 => xs.length ≤ sizeLine ∧ ∀ p, H1 p = none → p ≠ 1 → Q (.ref p) (upd H1 p (.lst xs))
theorem pe_lstN {es : List Expr} {t : TA} {pos : Pos} (h : PA X es t) : PE X (.List es pos) (tLstN t) := by
  refine ⟨fun pins s σ H Q I hq => ?_⟩
  refine wpAny_List_spliced (thn (h.run pos pins s σ H _ I hq) fun us s1 ⟨xs, H1, I1, r, z, q⟩ => ⟨by rw [← r.length]; exact z, ?_⟩)
  have big := I1.big
  refine ⟨.ref s1.heap.objs.size, upd H1 s1.heap.objs.size (.lst xs), I1.laid (t' := s1.toks) (fun b u e => Heap.get?_push_of_some _ e) (Nat.le_refl _) ⟨z, us, 0, r, Heap.get?_push_size _ rfl⟩, rfl, q _ (I1.hok.fresh (Nat.le_refl _)) (Nat.ne_of_gt big)⟩
end
end Ls
end

section
set_option Elab.async false
set_option linter.all false
set_option maxRecDepth 100000
set_option maxHeartbeats 4000000
namespace Ls
open PySem PySem.Spec PyProof.Rows L2
def rMulS : R2 := fun x y H Q => ∃ (c : Nat) (n : Nat), x = .str ⟨#[c]⟩ ∧ y = .int (n : Nat) ∧ n ≤ 100000 ∧ Q (.str ⟨(List.replicate n c).toArray⟩) H
theorem rep_one (c : Nat) : ∀ (n : Nat) (a : Array Nat), (List.replicate n #[c]).foldl (· ++ ·) a = a ++ (List.replicate n c).toArray
  | 0, a => by simp
  | n + 1, a => by
    rw [List.replicate_succ, List.foldl_cons, rep_one c n, List.replicate_succ]
    apply Array.toList_inj.mp
    simp
theorem op_mulS {X : Cx} : OpR X (binaryOp .Mult) rMulS := by
  intro pins s σ H x y v u Q I rx ry h
  obtain ⟨c, n, rfl, rfl, hn, q⟩ := h
  obtain ⟨t, rfl⟩ := rx
  obtain ⟨t', rfl⟩ := ry
  refine PySem.P.mul_str ?_ ?_ ?_ ?_
  · rw [decide_eq_false (by omega), decide_eq_false (by omega)]
    rfl
  · intro h1 _
    have : (1 : Int) ≤ (2 ^ 63 - 1) / (n : Int) := (Int.le_ediv_iff_mul_le (by omega)).mpr (by omega)
    show ¬ ((1 : Int) > _)
    omega
  · intro _ _
    show Builtin.Str.tooLong (1 * (n : Int).toNat) = false
    rw [Nat.one_mul, Int.toNat_natCast]
    unfold Builtin.Str.tooLong
    exact decide_eq_false (Nat.not_lt.mpr (Nat.le_trans hn (by decide)))
  · by_cases h0 : (n : Int) < 1
    · rw [if_pos h0]
      have : n = 0 := by omega
      subst this
      exact ⟨by decide, .str ⟨#[]⟩, H, I.tok _, ⟨_, rfl⟩, q⟩
    · rw [if_neg h0]
      by_cases h1 : n = 1
      · subst h1
        exact ⟨.str ⟨#[c]⟩, H, I, ⟨_, rfl⟩, q⟩
      · rw [if_neg (by
          have e1 : ((n : Int) == 1) = false := by simpa using fun z : (n : Int) = 1 => h1 (by omega)
          rw [e1]
          show ¬ (false = true)
          exact Bool.false_ne_true)]
        rw [Int.toNat_natCast, rep_one]
        refine ⟨?_, .str ⟨(List.replicate n c).toArray⟩, H, I.tok _, ⟨s.toks, by rw [show (#[] : Array Nat) ++ (List.replicate n c).toArray = (List.replicate n c).toArray from by simp]⟩, q⟩
        simp [Str.length]
        exact Nat.le_trans hn (by decide)
end Ls
end

section
set_option Elab.async false
set_option linter.all false
set_option maxRecDepth 100000
set_option maxHeartbeats 4000000
namespace Ls
open PySem PySem.Spec PyProof.Rows L2

/-- all but p stands -/
def Em (p : Addr) (H H' : Hp) : Prop := ∀ a o, a ≠ p → H a = some o → H' a = some o
theorem Em.refl (p : Addr) (H : Hp) : Em p H H := fun _ _ _ h => h
theorem Em.trans {p : Addr} {H H1 H2 : Hp} (a : Em p H H1) (b : Em p H1 H2) : Em p H H2 := fun x o n h => b x o n (a x o n h)
theorem Ex.em {H H' : Hp} (p : Addr) (e : Ex H H') : Em p H H' := fun a o _ h => e a o h
theorem Em.put {p : Addr} {H : Hp} {o : HO} : Em p H (upd H p o) := fun a u n h => by rw [upd_ne n]; exact h
/-- without p -/
def mi (H : Hp) (p : Addr) : Hp := fun a => if a = p then none else H a
theorem mi_ne {H : Hp} {p a : Addr} (n : a ≠ p) : mi H p a = H a := if_neg n
theorem mi_ex (H : Hp) (p : Addr) : Ex (mi H p) H := fun a o h => by
  by_cases e : a = p
  · have z : mi H p a = none := if_pos e
    rw [z] at h
    cases h
  · rw [mi_ne e] at h
    exact h
theorem Em.mi {p : Addr} {H H' : Hp} (e : Em p H H') : Ex (mi H p) (mi H' p) := fun a o h => by
  by_cases n : a = p
  · have z : Ls.mi H p a = none := if_pos n
    rw [z] at h
    cases h
  · rw [mi_ne n] at h ⊢
    exact e a o n h
theorem Ex.mi {H H' : Hp} (p : Addr) (e : Ex H H') : Ex (mi H p) (mi H' p) := (e.em p).mi
theorem mi_none {H : Hp} {p a : Addr} (h : H a = none) : mi H p a = none := by
  by_cases e : a = p
  · exact if_pos e
  · rw [mi_ne e]
    exact h

def rAddU (K : PySem.W.Frag) : R2 := fun x y H Q => rI0 (fun i j => .int (i + j)) x y H Q ∨ (∃ i j, x = .str i ∧ y = .str j ∧ i.length + j.length ≤ sizeLine ∧ Q (.str (i ++ j)) H) ∨ rCatA K x y H Q ∨ rCat x y H Q
def rMulU (K : PySem.W.Frag) : R2 := fun x y H Q => rI CMul (fun i j => .int (i * j)) x y H Q ∨ rRep x y H Q ∨ rRepT K x y H Q ∨ rMulS x y H Q ∨ rI CMulW (fun i j => .int (i * j)) x y H Q
/-- a list beside an empty one -/
def rEqE (K : PySem.W.Frag) : R2 := fun x y H Q => ∃ a b xs, x = .ref a ∧ y = .ref b ∧ SqL K H a xs ∧ SqL K H b [] ∧ Q (.bl (decide (xs = []))) H
def rNeE (K : PySem.W.Frag) : R2 := fun x y H Q => ∃ a b xs, x = .ref a ∧ y = .ref b ∧ SqL K H a xs ∧ SqL K H b [] ∧ Q (.bl (!decide (xs = []))) H
theorem op_eqE {X : Cx} (hu : X.A.units < cLine) : OpR X (compareOp .Eq) (rEqE X.K) := by
  intro pins s σ H x y v u Q I rx ry h
  obtain ⟨a, b, xs, rfl, rfl, ha, hb, q⟩ := h
  cases rx
  cases ry
  obtain ⟨its, r1, p1, _⟩ := I.list ha
  obtain ⟨its2, r2, p2, _⟩ := I.list hb
  cases r2
  have hl := r1.length
  by_cases c : xs = []
  · subst c
    cases r1
    rw [decide_eq_true rfl] at q
    exact SeqAt.eq_listAt p1.isList p2.isList rfl hu (e := fun _ => true) (fun j h1 _ => absurd h1 (Nat.not_lt_zero j)) ⟨.bl true, H, I, rfl, q⟩
  · rw [decide_eq_false c] at q
    refine SeqAt.eq_list_lengthsAt p1.isList p2.isList ?_ hu ⟨.bl false, H, I, rfl, q⟩
    have : its ≠ [] := fun z => c (by subst z; exact List.eq_nil_of_length_eq_zero hl)
    simpa using this
theorem op_neE {X : Cx} (hu : X.A.units < cLine) : OpR X (compareOp .NotEq) (rNeE X.K) := by
  intro pins s σ H x y v u Q I rx ry h
  obtain ⟨a, b, xs, rfl, rfl, ha, hb, q⟩ := h
  cases rx
  cases ry
  obtain ⟨its, r1, p1, _⟩ := I.list ha
  obtain ⟨its2, r2, p2, _⟩ := I.list hb
  cases r2
  have hl := r1.length
  by_cases c : xs = []
  · subst c
    cases r1
    rw [decide_eq_true rfl] at q
    exact SeqAt.RcNeAt.lists p1.isList p2.isList rfl hu (e := fun _ => true) (fun j h1 _ => absurd h1 (Nat.not_lt_zero j)) X.prog X.w _ _ ⟨.bl false, H, I, rfl, q⟩
  · rw [decide_eq_false c] at q
    refine SeqAt.RcNeAt.lists_lengths p1.isList p2.isList ?_ hu X.prog X.w _ _ ⟨.bl true, H, I, rfl, q⟩
    have : its ≠ [] := fun z => c (by subst z; exact List.eq_nil_of_length_eq_zero hl)
    simpa using this
/-- any two data -/
def rEqU (K : PySem.W.Frag) : R2 := fun x y H Q => rEq x y H Q ∨ rEqD K x y H Q ∨ rEqE K x y H Q
def rNeU (K : PySem.W.Frag) : R2 := fun x y H Q => rNe x y H Q ∨ rNeD K x y H Q ∨ rNeE K x y H Q
def rLt : R2 := rI0 fun i j => .bl (decide (i < j))
def rLe : R2 := rI0 fun i j => .bl (decide (i ≤ j))
def rGtU : R2 := rI0 fun i j => .bl (decide (j < i))
def rGeU : R2 := rI0 fun i j => .bl (decide (j ≤ i))
def rSubI : R2 := rI0 fun i j => .int (i - j)
/-- any divisor but 0, of less than 9,000 bits -/
def CDivF (_ j : Int) : Prop := j ≠ 0 ∧ j.natAbs.log2 < 9000
def rFdiv : R2 := fun x y H Q => rI CDiv (fun i j => .int (i / j)) x y H Q ∨ rI CDivF (fun i j => .int (i.fdiv j)) x y H Q
def rMod : R2 := rI (fun _ j => 0 < j) fun i j => .int (i % j)
def rPow : R2 := rI CPow fun i j => .int (i ^ j.toNat)
def rInS : R2 := fun x y H Q => ∃ (c : Nat) (z : Str), x = .str ⟨#[c]⟩ ∧ y = .str z ∧ Q (.bl (decide (c ∈ z.cps.toList))) H
def rInU (K : PySem.W.Frag) : R2 := fun x y H Q => rIn K false x y H Q ∨ rInS x y H Q ∨ rInD K x y H Q
def rNotInS : R2 := fun x y H Q => ∃ (c : Nat) (z : Str), x = .str ⟨#[c]⟩ ∧ y = .str z ∧ Q (.bl (!decide (c ∈ z.cps.toList))) H
def rNotInU (K : PySem.W.Frag) : R2 := fun x y H Q => rIn K true x y H Q ∨ rNotInS x y H Q
def rIsNo : R2 := fun x y H Q => y = .non ∧ Q (.bl (decide (x = .non))) H
def rIsntNo : R2 := fun x y H Q => y = .non ∧ Q (.bl (!decide (x = .non))) H
section
variable {X : Cx}
theorem op_addU : OpR X (binaryOp .Add) (rAddU X.K) := op_add.or (op_add_str.or (op_catA.or op_cat))
theorem op_mulU : OpR X (binaryOp .Mult) (rMulU X.K) := op_mul.or (op_rep.or (op_repT.or (op_mulS.or op_mulW)))
theorem op_eqU {k : Nat} (hr : RoomG k X.A) : OpR X (compareOp .Eq) (rEqU X.K) := op_eq.or ((op_eqD hr.rm.units).or (op_eqE (by have := hr.rm.units; omega)))
theorem op_neU {k : Nat} (hr : RoomG k X.A) : OpR X (compareOp .NotEq) (rNeU X.K) := op_ne.or ((op_neD hr.rm.units).or (op_neE (by have := hr.rm.units; omega)))
theorem op_ltU : OpR X (compareOp .Lt) rLt := op_lt
theorem op_leU : OpR X (compareOp .LtE) rLe := op_le
theorem op_gtU : OpR X (compareOp .Gt) rGtU := op_gt
theorem op_geU : OpR X (compareOp .GtE) rGeU := op_ge
theorem op_subU : OpR X (binaryOp .Sub) rSubI := op_sub
theorem op_fdivF : OpR X (binaryOp .FloorDiv) (rI CDivF fun i j => .int (i.fdiv j)) := opI fun i j _ _ _ _ _ hc q => floordiv_int hc.1 q (.inl (PyProof.noPylong_of_log2 hc.2))
theorem op_fdivU : OpR X (binaryOp .FloorDiv) rFdiv := op_fdiv.or op_fdivF
theorem op_modU : OpR X (binaryOp .Mod) rMod := op_mod
theorem op_powU : OpR X (binaryOp .Pow) rPow := op_pow
theorem op_inU {k : Nat} (hr : RoomG k X.A) : OpR X (compareOp .In) (rInU X.K) := op_in_seq.or (op_in_sign.or (op_inD (by have := hr.rm.un; omega)))
theorem op_notInU : OpR X (compareOp .NotIn) (rNotInU X.K) := op_notIn_seq.or op_notIn_sign
theorem op_isU : OpR X (compareOp .Is) rIsNo := op_isN
theorem op_isntU : OpR X (compareOp .IsNot) rIsntNo := op_notN
end
def rNeg : V → Hp → VK → Prop := rU fun i => .int (-i)
theorem un_negU {X : Cx} : UnR X (unaryOp .USub) rNeg := un_neg

def rAbs : List V → Hp → VK → Prop := fun xs H Q => ∃ i, xs = [.int i] ∧ Q (.int (if i < 0 then -i else i)) H
/-- max, min: of two ints, or of a list of ints -/
def rMaxU (K : PySem.W.Frag) : List V → Hp → VK → Prop := fun xs H Q => (∃ i j, xs = [.int i, .int j] ∧ Q (.int (if j > i then j else i)) H) ∨ rMax K xs H Q
def rMinU (K : PySem.W.Frag) : List V → Hp → VK → Prop := fun xs H Q => (∃ i j, xs = [.int i, .int j] ∧ Q (.int (if j < i then j else i)) H) ∨ rMin K xs H Q
def rLen (K : PySem.W.Frag) : List V → Hp → VK → Prop := fun xs H Q => ∃ x n, xs = [x] ∧ LenV K x H n ∧ Q (.int n) H
def rDivmod : List V → Hp → VK → Prop := fun xs H Q => ∃ i j, xs = [.int i, .int j] ∧ CDiv i j ∧ ∀ p, H p = none → Q (.ref p) (upd H p (.tup [.int (i / j), .int (i % j)]))
def rTupOf (K : PySem.W.Frag) : List V → Hp → VK → Prop := fun xs H Q => ∃ p ys, xs = [.ref p] ∧ ((SqL K H p ys ∧ ∀ l, H l = none → Q (.ref l) (upd H l (.tup ys))) ∨ (SqT K H p ys ∧ Q (.ref p) H))
def rLstOf (K : PySem.W.Frag) : List V → Hp → VK → Prop := fun xs H Q => ∃ p ys, xs = [.ref p] ∧ (SqL K H p ys ∨ SqT K H p ys) ∧ ∀ l, H l = none → Q (.ref l) (upd H l (.lst ys))
def rIsiU (K : PySem.W.Frag) : List V → Hp → VK → Prop := fun xs H Q => rIsi K xs H Q ∨ rIsiT K xs H Q
/-- max(xs, default=d) over a list of ints -/
def rMaxD (K : PySem.W.Frag) : List V → List V → Hp → VK → Prop := fun xs zs H Q => ∃ (a : Addr) (ns : List Int) (d : V), xs = [.ref a] ∧ zs = [d] ∧ SqL K H a (ns.map V.int) ∧ (ns = [] → Q d H) ∧ ∀ y ys, ns = y :: ys → ∀ m, m ∈ ns → (∀ z, z ∈ ns → z ≤ m) → Q (.int m) H
section
variable {X : Cx}
theorem CallR.or {f : Value} {r r' : List V → Hp → VK → Prop} (h : CallR X f r) (h' : CallR X f r') : CallR X f (fun xs H Q => r xs H Q ∨ r' xs H Q) := by
  intro pins s σ H vs us Q I rv q
  rcases q with q | q
  · exact h pins s σ H vs us Q I rv q
  · exact h' pins s σ H vs us Q I rv q
theorem call_absU : CallR X (.builtin "abs") rAbs := call_abs
theorem call_maxU (hc : X.calm = true) : CallR X (.builtin "max") (rMaxU X.K) := CallR.or (call_max2 hc) (cr_max hc)
theorem call_minU (hc : X.calm = true) : CallR X (.builtin "min") (rMinU X.K) := CallR.or (call_min2 hc) (cr_min hc)
theorem call_lenU : CallR X (.builtin "len") (rLen X.K) := call_len
theorem call_divmodU : CallR X (.builtin "divmod") rDivmod := call_divmod
theorem call_tupleU : CallR X (.type "tuple") (rTupOf X.K) := call_tuple_of
theorem call_listU : CallR X (.type "list") (rLstOf X.K) := call_list_of
theorem call_isiU : CallR X (.builtin "isinstance") (rIsiU X.K) := CallR.or call_isi call_isiT
theorem max_of (ns : List Int) (y : Int) (ys : List Int) (e : ns = y :: ys) : PySem.W.maxOf y ys ∈ ns ∧ ∀ z, z ∈ ns → z ≤ PySem.W.maxOf y ys := by
  subst e
  have key : ∀ (l : List Int) (a : Int), (List.foldl (fun a y => if PySem.W.DatumOrd.lt a y = true then y else a) a l ∈ a :: l) ∧ ∀ z, z ∈ a :: l → z ≤ List.foldl (fun a y => if PySem.W.DatumOrd.lt a y = true then y else a) a l := by
    intro l
    induction l with
    | nil => intro a; exact ⟨List.mem_cons_self, fun z hz => by
        have : z = a := by simpa using hz
        subst this
        exact Int.le_refl _⟩
    | cons b l ih =>
      intro a
      rw [List.foldl_cons]
      have hlt : PySem.W.DatumOrd.lt a b = decide (a < b) := rfl
      by_cases c : a < b
      · have e1 : (if PySem.W.DatumOrd.lt a b = true then b else a) = b := by rw [hlt, if_pos (decide_eq_true c)]
        rw [e1]
        obtain ⟨h1, h2⟩ := ih b
        refine ⟨List.mem_cons_of_mem _ h1, fun z hz => ?_⟩
        rcases List.mem_cons.mp hz with e | hz
        · subst e
          exact Int.le_trans (Int.le_of_lt c) (h2 b List.mem_cons_self)
        · exact h2 z hz
      · have e1 : (if PySem.W.DatumOrd.lt a b = true then b else a) = a := by rw [hlt, decide_eq_false c, if_neg Bool.false_ne_true]
        rw [e1]
        obtain ⟨h1, h2⟩ := ih a
        refine ⟨?_, fun z hz => ?_⟩
        · rcases List.mem_cons.mp h1 with e | h1
          · rw [e]
            exact List.mem_cons_self
          · exact List.mem_cons_of_mem _ (List.mem_cons_of_mem _ h1)
        · rcases List.mem_cons.mp hz with e | hz
          · subst e
            exact h2 z List.mem_cons_self
          · rcases List.mem_cons.mp hz with e | hz
            · subst e
              exact Int.le_trans (Int.not_lt.mp c) (h2 a List.mem_cons_self)
            · exact h2 z (List.mem_cons_of_mem _ hz)
  exact key ys y
theorem ints_reads {h : Heap} : ∀ {ns : List Int} {us : List Value}, Vals (ns.map V.int) us → ReadsAll h us (ns.map PySem.W.Datum.toD) []
  | [], _, r => by cases r; exact .nil
  | n :: ns, _, r => by
    cases r with
    | cons a b =>
      obtain ⟨t, rfl⟩ := a
      exact .cons (.int n t) (ints_reads b)
theorem call_maxD {k : Nat} (hc : X.calm = true) (hr : RoomG k X.A) : CallRK X (.builtin "max") [Str.ofString "default"] (rMaxD X.K) := by
  intro pins s σ H xs zs us ws Q I r rz h
  obtain ⟨a, ns, d, rfl, rfl, hS, q0, q1⟩ := h
  cases r with
  | cons ra rn =>
    cases rn
    cases ra
    cases rz with
    | cons rd rn =>
      rename_i dv _
      cases rn
      obtain ⟨its, rv, p, hz⟩ := I.list hS
      have hA : PySem.W.HoldAll s.heap its.toArray.toList ns := ⟨[], by simpa using ints_reads rv⟩
      have hu := hr.rm.units
      refine PySem.W.max_list_datum_default (I.ok.hd hc) p.isList hA (by show X.A.units + 1 + 0 < cLine; omega) (fun e h' tk hk => ⟨d, H, I.kept hk, rd, q0 e⟩) fun y ys i v h' tk e hi hH hk => ?_
      obtain ⟨as, hR⟩ := hH
      obtain ⟨m1, m2⟩ := max_of ns y ys e
      have hR' : Reads h' v (.int (PySem.W.maxOf y ys)) as := hR
      cases hR' with
      | int i t => exact ⟨.int _, H, I.kept hk, ⟨_, rfl⟩, q1 y ys e _ m1 m2⟩
end
end Ls
end

section
set_option Elab.async false
set_option linter.all false
set_option maxRecDepth 100000
set_option maxHeartbeats 4000000
namespace Ls
open PySem PySem.Spec PyProof.Rows L2 PySem.Calls PySem.NumText
/-- the bound of digits -/
def DL : Nat := 10 ^ 4300
theorem DL_of {n k : Nat} (h : n < 10 ^ k) (hk : k ≤ 4300) : n < DL := Nat.lt_of_lt_of_le h (Nat.pow_le_pow_right (by decide) hk)
theorem Inv.nodig {X : Cx} {pins : List (Addr × Obj)} {σ : L2.St} {H : Hp} {s : Shared} (I : Inv X pins σ H s) (nd : X.base.NoDigits) : s.heap.NoDigits := nd.keeps I.bk
section
variable {prog : Program} {w : World} {A : Around} {E : Value → Shared → Prop} {s : Shared} {i : Int} {t : Tok}
/-- the number's own __repr__ -/
theorem int_repr_W {Q : Value → Shared → Prop} (nd : s.heap.NoDigits) (hi : i.natAbs < DL) (q : Q (.str (toString i) s.toks) { s with toks := s.toks + 1 }) : wpAny (model prog w) A (call (.builtin "int.__repr__") [.int i t]) Q E s := by
  refine wpAny_call_entry F.slot_int_repr (typeIs_int s i t) F.entry_int_repr (Q := Q) ?_ (F.args_int_repr_1 (.int i t))
  unfold Builtin.«int.__repr__»
  show wpAny (model prog w) _ (Builtin.overDigitLimit? i >>= _) _ _ s
  exact wpAny_bind (overDigitLimit_any nd (fun hlt => wpAny_bind (wpAny_mkStr (wpAny_pure ⟨_, rfl, q⟩) (int_text_fits10 hlt))) fun hge => absurd (show i.natAbs < 10 ^ 4300 from hi) (Nat.not_lt.mpr hge))
theorem repr_int_W {Q : Value → Shared → Prop} (nd : s.heap.NoDigits) (hu : A.units + 1 < cLine) (hi : i.natAbs < DL) (q : Q (.str (toString i) s.toks) { s with toks := s.toks + 1 }) : wpAny (model prog w) A (call (.builtin "repr") [.int i t]) Q E s :=
  call_repr_slot hu (typeIs_int s i t) F.slot_int_repr.toG (int_repr_W nd hi ⟨_, _, rfl, q⟩)
theorem pyRepr_int_W {Q : Str → Shared → Prop} (nd : s.heap.NoDigits) (hu : A.units < cLine) (hi : i.natAbs < DL) (q : Q (toString i) { s with toks := s.toks + 1 }) : wpAny (model prog w) A (pyRepr (.int i t)) Q E s := by
  unfold pyRepr
  exact wpAny_bind (wpAny_pyReprObj_slot hu (typeIs_int s i t) F.slot_int_repr.toG (int_repr_W nd hi ⟨_, _, rfl, wpAny_pure q⟩))
theorem str_int_W {Q : Value → Shared → Prop} (nd : s.heap.NoDigits) (hu : A.units + 3 < cLine) (hi : i.natAbs < DL) (q : Q (.str (toString i) s.toks) { s with toks := s.toks + 1 }) : wpAny (model prog w) A (call (.type "str") [.int i t]) Q E s :=
  callType_new F.called_str (by decide) (F.typeCall_str_1 _) (F.newCall_str_1 _) (fun obj => F.args_object_init_2 obj _) F.entry_str_new
    (meets_str_new (S := fun A' R s' => A'.units + 2 < cLine ∧ s'.heap.NoDigits ∧ R (.ok (.ret (.str (toString i) s'.toks))) { s' with toks := s'.toks + 1 })
      fun prog' w' A' R s' h => wpAny_strOf_slot (A := A'.in1) rfl (by show A'.units + 1 + 1 < cLine; exact h.1) (typeIs_int s' i t) F.slot_int_str F.slot_int_repr.toG (int_repr_W h.2.1 hi ⟨_, _, rfl, h.2.2⟩))
    ⟨by show A.units + 1 + 2 < cLine; omega, nd, typeIs_str _ _ _, q⟩
end
section
/-- a text of more than 640 signs -/
theorem text_W {M : Model} {A : Around} {E : Value → Shared → Prop} {s : Shared} {Q : Value → Shared → Prop} {v : Value} {text : List Nat} {n : Int} (nd : s.heap.NoDigits)
    (hs : ¬ (text.takeWhile (· != 0)).length ≤ 640) (hr : (int_private% "readNumeral") 4300 10 (text.takeWhile (· != 0)) = (int_private% "Numeral.value") n)
    (ha : ((text.takeWhile (· != 0)).length == text.length) = true) (h : Q (.int n s.toks) { s with toks := s.toks + 1 }) :
    wpAny M A ((int_private% "intFromText") v text 10) Q E s := by
  obtain ⟨hp, g, d, tk, os⟩ := s
  obtain ⟨mc, hns, hno⟩ := nd
  iterate 1 wp_step
  refine wpAny_ite_false (decide_eq_false hs) (wpAny_bind ?_)
  unfold Builtin.intMaxStrDigits
  refine wpAny_bind (wpAny_nsGet hns ?_)
  rw [hno]
  refine wpAny_pure ?_
  dsimp only
  rw [hr]
  dsimp only
  rw [if_pos ha]
  repeat (any_goals (first
    | assumption
    | wp_step))
theorem read_W {x : PySem.Str} {n : Int} (hz : x.length ≤ sizeLine) (hn : PySem.intText? x = some n) : (int_private% "readNumeral") 4300 10 (numSeenOf x) = (int_private% "Numeral.value") n ∧ ((numSeenOf x).length == (numTextOf x).length) = true := by
  rcases PySem.read4300 x hz with ⟨m, h1, h2, h3⟩ | ⟨h1, _⟩
  · rw [hn] at h1
    cases h1
    exact ⟨h3, h2⟩
  · rw [hn] at h1
    cases h1
theorem meets_int_W {x : PySem.Str} {u : Tok} {n : Int} (hz : x.length ≤ sizeLine) (hn : PySem.intText? x = some n) :
    Meets (Builtin.«int.__new__» ⟨[.type "int", .str x u], []⟩) (fun _ R s => s.heap.NoDigits ∧ R (.ok (.ret (.int n s.toks))) { s with toks := s.toks + 1 }) :=
  .of_wp fun prog w A R s h => by
    obtain ⟨hp, g, d, tk, os⟩ := s
    obtain ⟨nd, h⟩ := h
    have f1 := F.conv_sub_int
    have f2 := F.madeHere_int
    have f3 := PySem.W.KIN.str_int
    have f4 := PySem.W.KIN.str_idx
    have f5 := PySem.W.KIN.str_trunc
    have f6 : typeOf (.str x u) = pure (.type "str") := rfl
    have hk := PySem.W.KIN.Hid.mk (read_W hz hn)
    have key : ∀ {M : Model} {A' : Around} {E' : Value → Shared → Prop} {Q' : Value → Shared → Prop}, Q' (.int n tk) ⟨hp, g, d, tk + 1, os⟩ → wpAny M A' ((int_private% "intFromText") (.str x u) (numTextOf x) 10) Q' E' ⟨hp, g, d, tk, os⟩ := fun {M A' E' Q'} q => by
      by_cases hs : (numSeenOf x).length ≤ 640
      · rcases PySem.read0 x hs with ⟨m, h1, h2, h3⟩ | ⟨h1, _⟩
        · rw [hn] at h1
          cases h1
          exact PySem.W.KIN.wp_text hs h3 h2 q
        · rw [hn] at h1
          cases h1
      · exact text_W nd hs hk.out.1 hk.out.2 q
    clear hz hn
    repeat (any_goals (first
      | assumption
      | ((with_reducible show wpAny _ _ ((int_private% "intFromText") _ _ _) _ _ _); refine key ?_)
      | wp_step))
    all_goals first | exact ⟨_, rfl, h⟩ | exact h | skip
end
end Ls
end

section
set_option Elab.async false
set_option linter.all false
set_option maxRecDepth 100000
set_option maxHeartbeats 4000000
namespace Ls
open PySem PySem.Spec PyProof.Rows L2
mutual
def shW : PyData → Bool
  | .int i => decide (i.natAbs < DL)
  | .list ds => shWL ds
  | .tuple ds => shWL ds
  | .dict kvs => shWK kvs
  | _ => true
def shWL : List PyData → Bool
  | [] => true
  | d :: ds => shW d && shWL ds
def shWK : List (PyData × PyData) → Bool
  | [] => true
  | (k, v) :: r => shW k && (shW v && shWK r)
end
theorem shWK_two : ∀ {kvs : List (PyData × PyData)}, shWK kvs = true → shWL (kvs.map (·.1)) = true ∧ shWL (kvs.map (·.2)) = true
  | [], _ => ⟨rfl, rfl⟩
  | (k, v) :: r, h => by
    rw [shWK, Bool.and_eq_true, Bool.and_eq_true] at h
    obtain ⟨a, b⟩ := shWK_two h.2.2
    exact ⟨by rw [List.map_cons, shWL, h.1, a]; rfl, by rw [List.map_cons, shWL, h.2.1, b]; rfl⟩
theorem shWL_of : ∀ {ds : List PyData}, (∀ d, d ∈ ds → shW d = true) → shWL ds = true
  | [], _ => rfl
  | d :: ds, h => by rw [shWL, h d List.mem_cons_self, shWL_of fun e he => h e (List.mem_cons_of_mem _ he)]; rfl
theorem shWL_mem : ∀ {ds : List PyData}, shWL ds = true → ∀ {d : PyData}, d ∈ ds → shW d = true
  | d' :: ds, h, d, hd => by
    rw [shWL, Bool.and_eq_true] at h
    rcases List.mem_cons.mp hd with rfl | hd
    · exact h.1
    · exact shWL_mem h.2 hd
def RkW (prog : Program) (w : World) (h : Heap) (v : Value) (d : PyData) : Prop := ∃ bs, ReadAtMost h d.depth bs ∧ ReprK prog w bs h d.depth v d.shown
def RkWL (prog : Program) (w : World) (h : Heap) (vs : List Value) (ds : List PyData) : Prop := ∃ bs, ReadAtMost h (PyData.depthAll ds) bs ∧ ReprAllK prog w bs h (PyData.depthAll ds) vs (PyData.shownAll ds)
section
variable {prog : Program} {w : World} {h : Heap}
theorem reprK_int {i : Int} {t : Tok} (nd : h.NoDigits) (hi : i.natAbs < DL) : ReprK prog w [] h 0 (.int i t) (toString i) := by
  intro b hb A g E s Q _ _ hu hk q
  rw [pyReprUnder_leaf (v := .int i t) (Nat.le_trans (Nat.le_add_right _ _) hb) (fun _ e => nomatch e)]
  exact pyRepr_int_W (nd.keeps hk) hu hi (q s.heap _ fun _ _ e => e)
theorem rkWL_cons {v : Value} {d : PyData} {vs : List Value} {ds : List PyData} (a : RkW prog w h v d) (b : RkWL prog w h vs ds) : RkWL prog w h (v :: vs) (d :: ds) := by
  obtain ⟨b1, r1, k1⟩ := a
  obtain ⟨b2, r2, k2⟩ := b
  refine ⟨b1 ++ b2, ReadAtMost.append (r1.mono ?_) (r2.mono ?_), ?_⟩
  · rw [PyData.depthAll]; exact Nat.le_max_left _ _
  · rw [PyData.depthAll]; exact Nat.le_max_right _ _
  · rw [PyData.depthAll, PyData.shownAll]
    exact .cons ((k1.more fun x hx => List.mem_append_left _ hx).level_le (Nat.le_max_left _ _)) (k2.more_le (fun x hx => List.mem_append_right _ hx) (Nat.le_max_right _ _))
mutual
theorem rkW (nd : h.NoDigits) : ∀ {v : Value} {d : PyData}, RdS h v d → shW d = true → d.shown.length ≤ sizeLine → RkW prog w h v d
  | _, _, .none, _, _ => ⟨[], (fun _ z => nomatch z), by rw [PyData.shown]; exact .of_is .none _ _ _⟩
  | _, _, .bool b, _, _ => ⟨[], (fun _ z => nomatch z), by rw [PyData.shown]; exact .of_is (.bool b) _ _ _⟩
  | _, _, .str x t, _, z => ⟨[], (fun _ z => nomatch z), by rw [PyData.shown] at z ⊢; exact .of_is (.str x t z) _ _ _⟩
  | _, _, .int i t, s, _ => ⟨[], (fun _ z => nomatch z), by
    rw [shW, decide_eq_true_eq] at s
    rw [PyData.shown]
    exact reprK_int nd s⟩
  | _, _, .list (a := a) (vs := vs) (xs := xs) e1 e2 e3 e4, s, z => by
    rw [shW] at s
    rw [PyData.shown] at z
    obtain ⟨bs, hb, k⟩ := rkWL nd e4 s (fun t ht => Nat.le_trans (listText_mem_le ht) z)
    obtain ⟨as, e4'⟩ := e4.reads
    have rd : Reads h (.ref a) (.list xs) _ := .list e1 e2 e3 e4'
    refine ⟨a :: bs, ReadAtMost.cons rd (by rw [PyData.depth]; omega) hb, ?_⟩
    have far : a ∉ bs := not_mem_of_deeper rd (by rw [PyData.depth]; omega) hb
    rw [PyData.depth, PyData.shown]
    obtain ⟨l⟩ := vs
    cases l with
    | nil =>
      have e5 : RdSL h [] xs := e4
      cases e5
      rw [PyData.shownAll, listText_nil]
      exact .listEmpty e1 e2 e3
    | cons y l => exact .list e1 e2 e3 far (by simpa using k.length_eq) fun i u q => k.item i u (by simpa using q)
  | _, _, .tuple (a := a) (xs := xs) e1 e2 e3 e4, s, z => by
    rw [shW] at s
    rw [PyData.shown] at z
    obtain ⟨bs, hb, k⟩ := rkWL nd e4 s (fun t ht => Nat.le_trans (tupleText_mem_le ht) z)
    obtain ⟨as, e4'⟩ := e4.reads
    have rd : Reads h (.ref a) (.tuple xs) _ := .tuple e1 e2 e3 e4'
    refine ⟨a :: bs, ReadAtMost.cons rd (by rw [PyData.depth]; omega) hb, ?_⟩
    have far : a ∉ bs := not_mem_of_deeper rd (by rw [PyData.depth]; omega) hb
    rw [PyData.depth, PyData.shown]
    exact .tuple e1 e2 e3 far k
  | _, _, .dict (a := a) (es := es) (kvs := kvs) e1 e2 e3 ns e4 e5, s, z => by
    rw [shW] at s
    rw [PyData.shown] at z
    obtain ⟨s1, s2⟩ := shWK_two s
    have in1 : ∀ t ∈ PyData.shownAll (kvs.map (·.1)), t.length ≤ sizeLine := fun t ht => by
      obtain ⟨p, hp, hl⟩ := PyData.shownKv_key_le kvs t ht
      exact Nat.le_trans hl (Nat.le_trans (dictText_mem_le hp) z)
    have in2 : ∀ t ∈ PyData.shownAll (kvs.map (·.2)), t.length ≤ sizeLine := fun t ht => by
      obtain ⟨p, hp, hl⟩ := PyData.shownKv_val_le kvs t ht
      exact Nat.le_trans hl (Nat.le_trans (dictText_mem_le hp) z)
    obtain ⟨b1, r1, k1⟩ := rkWL nd e4 s1 in1
    obtain ⟨b2, r2, k2⟩ := rkWL nd e5 s2 in2
    obtain ⟨as1, e4'⟩ := e4.reads
    obtain ⟨as2, e5'⟩ := e5.reads
    have rd : Reads h (.ref a) (.dict kvs) _ := .dict e1 e2 e3 e4' e5'
    have rb : ReadAtMost h (PyData.depthKv kvs) (b1 ++ b2) := (r1.mono (PyData.depthAll_keys_le kvs)).append (r2.mono (PyData.depthAll_vals_le kvs))
    refine ⟨a :: (b1 ++ b2), ReadAtMost.cons rd (by rw [PyData.depth]; omega) rb, ?_⟩
    have far : a ∉ b1 ++ b2 := not_mem_of_deeper rd (by rw [PyData.depth]; omega) rb
    rw [PyData.depth, PyData.shown, PyData.shownKv_eq]
    exact .dict e1 e2 e3 ns far (.of_two es.toList _ _ (k1.more_le (fun x hx => List.mem_append_left _ hx) (PyData.depthAll_keys_le kvs)) (k2.more_le (fun x hx => List.mem_append_right _ hx) (PyData.depthAll_vals_le kvs)))
theorem rkWL (nd : h.NoDigits) : ∀ {vs : List Value} {ds : List PyData}, RdSL h vs ds → shWL ds = true → (∀ t ∈ PyData.shownAll ds, t.length ≤ sizeLine) → RkWL prog w h vs ds
  | _, _, .nil, _, _ => ⟨[], (fun _ z => nomatch z), by rw [PyData.shownAll]; exact .nil⟩
  | _, _, .cons (d := d) (ds := ds) a b, s, z => by
    rw [shWL, Bool.and_eq_true] at s
    exact rkWL_cons (rkW nd a s.1 (z _ (by rw [PyData.shownAll]; exact List.mem_cons_self))) (rkWL nd b s.2 fun t ht => z t (by rw [PyData.shownAll]; exact List.mem_cons_of_mem _ ht))
end
end
section
variable {prog : Program} {w : World} {A : Around} {E : Value → Shared → Prop} {s : Shared} {Q : Value → Shared → Prop}
/-- repr of an object -/
theorem repr_ref_W {a : Addr} {d : PyData} (nd : s.heap.NoDigits) (rd : RdS s.heap (.ref a) d) (sh : shW d = true) (hg : A.guards = some []) (hu : A.units + (d.depth + 1) < cLine) (z : d.shown.length ≤ sizeLine)
    (q : ∀ h' u tk, (∀ b o, s.heap.get? b = some o → h'.get? b = some o) → Q (.str d.shown u) { s with heap := h', toks := tk }) : wpAny (model prog w) A (call (.builtin "repr") [.ref a]) Q E s := by
  have self : ∀ b o, s.heap.get? b = some o → s.heap.get? b = some o := fun _ _ e => e
  have hu1 : A.in1.units + d.depth < cLine := by show A.units + 1 + d.depth < cLine; omega
  cases rd with
  | list e1 e2 e3 e4 =>
    rename_i o vs n xs
    have z' : (listText (PyData.shownAll xs)).length ≤ sizeLine := by rw [← PyData.shown]; exact z
    rw [shW] at sh
    obtain ⟨bs, hb, k⟩ := rkWL (prog := prog) (w := w) nd e4 sh (fun t ht => Nat.le_trans (listText_mem_le ht) z')
    obtain ⟨as, e4'⟩ := e4.reads
    have far : a ∉ bs := not_mem_of_deeper (.list e1 e2 e3 e4') (by rw [PyData.depth]; omega) hb
    refine call_repr_slot (by omega) ⟨o, e1, e2⟩ F.slot_list_repr.toG ?_
    rw [PyData.depth] at hu1
    rw [PyData.shown] at q
    obtain ⟨l⟩ := vs
    cases l with
    | nil =>
      have e5 : RdSL s.heap [] xs := e4
      cases e5
      rw [PyData.shownAll, listText_nil] at q
      exact call_list_repr_empty ⟨o, e1, e2⟩ e1 e3 ⟨_, _, rfl, q s.heap _ _ self⟩
    | cons y l => exact call_list_reprK e1 e2 e3 far (by simpa using k.length_eq) (fun i u x => k.item i u (by simpa using x)) hg (fun b _ => Clear.nil b) hu1 self (fun h' u tk hk => ⟨_, _, rfl, q h' u tk hk⟩) z'
  | tuple e1 e2 e3 e4 =>
    rename_i o vs n xs
    have z' : (tupleText (PyData.shownAll xs)).length ≤ sizeLine := by rw [← PyData.shown]; exact z
    rw [shW] at sh
    obtain ⟨bs, hb, k⟩ := rkWL (prog := prog) (w := w) nd e4 sh (fun t ht => Nat.le_trans (tupleText_mem_le ht) z')
    obtain ⟨as, e4'⟩ := e4.reads
    have far : a ∉ bs := not_mem_of_deeper (.tuple e1 e2 e3 e4') (by rw [PyData.depth]; omega) hb
    refine call_repr_slot (by omega) ⟨o, e1, e2⟩ F.slot_tuple_repr ?_
    rw [PyData.depth] at hu1
    rw [PyData.shown] at q
    exact call_tuple_reprK e1 e2 e3 far k hg (fun b _ => Clear.nil b) hu1 self (fun h' u tk hk => ⟨_, _, rfl, q h' u tk hk⟩) z'
  | dict e1 e2 e3 ns e4 e5 =>
    rename_i o es n kvs
    have z' : (dictText (PyData.shownKv kvs)).length ≤ sizeLine := by rw [← PyData.shown]; exact z
    rw [shW] at sh
    obtain ⟨s1, s2⟩ := shWK_two sh
    have in1 : ∀ t ∈ PyData.shownAll (kvs.map (·.1)), t.length ≤ sizeLine := fun t ht => by
      obtain ⟨p, hp, hl⟩ := PyData.shownKv_key_le kvs t ht
      exact Nat.le_trans hl (Nat.le_trans (dictText_mem_le hp) z')
    have in2 : ∀ t ∈ PyData.shownAll (kvs.map (·.2)), t.length ≤ sizeLine := fun t ht => by
      obtain ⟨p, hp, hl⟩ := PyData.shownKv_val_le kvs t ht
      exact Nat.le_trans hl (Nat.le_trans (dictText_mem_le hp) z')
    obtain ⟨b1, r1, k1⟩ := rkWL (prog := prog) (w := w) nd e4 s1 in1
    obtain ⟨b2, r2, k2⟩ := rkWL (prog := prog) (w := w) nd e5 s2 in2
    have rb : ReadAtMost s.heap (PyData.depthKv kvs) (b1 ++ b2) := (r1.mono (PyData.depthAll_keys_le kvs)).append (r2.mono (PyData.depthAll_vals_le kvs))
    obtain ⟨as1, e4'⟩ := e4.reads
    obtain ⟨as2, e5'⟩ := e5.reads
    have far : a ∉ b1 ++ b2 := not_mem_of_deeper (.dict e1 e2 e3 e4' e5') (by rw [PyData.depth]; omega) rb
    refine call_repr_slot (by omega) ⟨o, e1, e2⟩ F.slot_dict_repr ?_
    rw [PyData.depth] at hu1
    rw [PyData.shown, PyData.shownKv_eq] at q
    rw [PyData.shownKv_eq] at z'
    exact call_dict_reprK e1 e2 e3 ns far (.of_two es.toList _ _ (k1.more_le (fun x hx => List.mem_append_left _ hx) (PyData.depthAll_keys_le kvs)) (k2.more_le (fun x hx => List.mem_append_right _ hx) (PyData.depthAll_vals_le kvs))) hg (fun b _ => Clear.nil b) hu1 self (fun h' u tk hk => ⟨_, _, rfl, q h' u tk hk⟩) z'
end
/-- str(i), int(text), repr(x) -/
def rStrI : List V → Hp → VK → Prop := fun xs H Q => ∃ i, xs = [.int i] ∧ i.natAbs < DL ∧ Q (.str (toString i)) H
def rIntU : List V → Hp → VK → Prop := fun xs H Q => ((∃ i, xs = [.int i] ∧ Q (.int i) H) ∨ ∃ k, xs = [.bl k] ∧ Q (.int (if k then 1 else 0)) H) ∨ ∃ a n, xs = [.str a] ∧ PySem.intText? a = some n ∧ a.length ≤ sizeLine ∧ Q (.int n) H
def rRepr (K : PySem.W.Frag) : List V → Hp → VK → Prop := fun xs H Q => ∃ (x : V) (d : PyData), xs = [x] ∧ (Dt K H x d ∨ (Dp K H x d ∧ d.hasDict = false)) ∧ shW d = true ∧ d.shown.length ≤ sizeLine ∧ d.depth ≤ 40 ∧ Q (.str d.shown) H
section
variable {X : Cx}
theorem call_strU {k : Nat} (nd : X.base.NoDigits) (hr : RoomG k X.A) : CallR X (.type "str") rStrI := by
  intro pins s σ H xs us Q I r h
  obtain ⟨i, rfl, hz, q⟩ := h
  obtain ⟨u, rfl, t, rfl⟩ := vals1 r
  have hu := hr.rm.units
  exact str_int_W (Inv.nodig I nd) (by omega) hz ⟨.str _, H, I.tok _, ⟨_, rfl⟩, q⟩
theorem call_int_textW (nd : X.base.NoDigits) : CallR X (.type "int") (fun xs H Q => ∃ a n, xs = [.str a] ∧ PySem.intText? a = some n ∧ a.length ≤ sizeLine ∧ Q (.int n) H) := by
  intro pins s σ H xs us Q I r h
  obtain ⟨a, n, rfl, hn, hl, q⟩ := h
  obtain ⟨u, rfl, t, rfl⟩ := vals1 r
  exact PySem.call_int_1 (meets_int_W hl hn) ⟨Inv.nodig I nd, typeIs_int _ _ _, ⟨.int n, H, I.tok _, ⟨_, rfl⟩, q⟩⟩
theorem call_intU (nd : X.base.NoDigits) : CallR X (.type "int") rIntU := CallR.or call_int1 (call_int_textW nd)
theorem call_repr {k : Nat} (nd : X.base.NoDigits) (hr : RoomG k X.A) : CallR X (.builtin "repr") (rRepr X.K) := by
  intro pins s σ H xs us Q I r h
  obtain ⟨x, d, rfl, hd, sh, sz, dp, q⟩ := h
  have nd' := Inv.nodig I nd
  cases r with
  | cons rx rr =>
    cases rr
    rename_i u
    have hu := hr.rm.units
    have rd : RdS s.heap u d := by
      rcases hd with hd | ⟨hd, hn⟩
      · exact hd.reads I rx
      · obtain ⟨as, r⟩ := Dp.reads I d x u hd rx
        exact .of r hn
    have gen : ∀ {a : Addr}, RdS s.heap (.ref a) d → wpAny (model X.prog X.w) X.A (call (.builtin "repr") [.ref a]) (EP X pins σ Q) X.xe s := fun {a} rd =>
      repr_ref_W nd' rd sh hr.gd (by omega) sz fun h' u tk hk => ⟨.str d.shown, H, I.kept hk, ⟨_, rfl⟩, q⟩
    cases rd with
    | none =>
      rw [PyData.shown] at q
      exact PySem.P.repr_of_none ⟨V.str _, H, I.tok _, ⟨_, rfl⟩, q⟩
    | bool b =>
      rw [PyData.shown] at q
      exact PySem.P.repr_of_bool ⟨V.str _, H, I.tok _, ⟨_, rfl⟩, q⟩
    | int i =>
      rw [PyData.shown] at q
      rw [shW, decide_eq_true_eq] at sh
      exact repr_int_W nd' (by omega) sh ⟨V.str _, H, I.tok _, ⟨_, rfl⟩, q⟩
    | str x =>
      rw [PyData.shown] at q sz
      exact PySem.P.repr_of_str ⟨V.str _, H, I.tok _, ⟨_, rfl⟩, q⟩ sz
    | list h1 h2 h3 h4 => exact gen (.list h1 h2 h3 h4)
    | tuple h1 h2 h3 h4 => exact gen (.tuple h1 h2 h3 h4)
    | dict h1 h2 h3 h4 h5 h6 => exact gen (.dict h1 h2 h3 h4 h5 h6)
end
end Ls
end

section
set_option Elab.async false
set_option linter.all false
set_option maxRecDepth 100000
set_option maxHeartbeats 4000000
namespace Ls
open PySem PySem.Spec PyProof.Rows L2

/-- what a display asks behind its items -/
def kTup (xs : List V) (H : Hp) (Q : VK) : Prop := xs.length ≤ sizeLine ∧ ∀ p, H p = none → Q (.ref p) (upd H p (.tup xs))
def kLst (xs : List V) (H : Hp) (Q : VK) : Prop := xs.length ≤ sizeLine ∧ ∀ p, H p = none → p ≠ 1 → Q (.ref p) (upd H p (.lst xs))
def kPart (x : V) (QO : Option Int → Hp → Prop) (H1 : Hp) : Prop := ∃ i, x = .int i ∧ QO (some i) H1
def kB (x : V) (H : Hp) (Q : Bool → Hp → Prop) : Prop := ∃ k, x = .bl k ∧ Q k H
/-- what a for, a comprehension asks once it is known what is walked -/
def kFor (J : It) (g : TG) (tb : TS) (D : Ends) (σ : L2.St) (H : Hp) : Prop := ∃ W : Nat → Nat → L2.St → Hp → Prop, (∃ m, W 0 m σ H) ∧ ∀ i m σ H, W i m σ H →
  (J.stop i H ∧ D.nx σ H) ∨ (J.go i H ∧ ∃ N : L2.St → Hp → Prop, (∀ σ' H', N σ' H' → ∃ m', m' < m ∧ W (i + 1) m' σ' H') ∧ ∀ x H', J.yld i H x H' → g x σ H' fun σ2 H2 => tb { D with nx := N, ct := N, bk := D.nx } σ2 H2)
def kLc (J : It) (g : TG) (tt : TT) (te : TE) (vs : List Nat) (σ : L2.St) (H1 : Hp) (Q : VK) : Prop := ∀ D, H1 D = none → ∃ W : Nat → Nat → Hp → Prop, (∃ m, W 0 m (upd H1 D (.lst []))) ∧ ∀ i m H, W i m H →
  (J.stop i H ∧ Q (.ref D) H) ∨ (J.go i H ∧ ∃ Nx : Hp → Prop, (∀ H', Nx H' → ∃ m', m' < m ∧ W (i + 1) m' H') ∧ ∀ x H', J.yld i H x H' → g x (wipe σ vs) H' fun σ2 H2 => wipe σ2 vs = wipe σ vs ∧ tt σ2 H2 fun b H3 =>
    if b = true then te σ2 H3 fun y H4 => ∃ acc, H4 D = some (.lst acc) ∧ acc.length < sizeLine ∧ Nx (upd H4 D (.lst (acc ++ [y]))) else Nx H3)
section
variable {σ σ2 : L2.St} {H : Hp} {Q : VK} {v x y : V} {ta tb te : TE} {t : TA} {D : Ends} {K : PySem.W.Frag} {QA : List V → Hp → Prop} {tt uu : TT} {QT : Bool → Hp → Prop} {s1 s2 : TS} {g : TG} {QS : L2.St → Hp → Prop}
theorem r_var {i : Nat} (h : σ[i]? = some (some v)) (q : Q v H) : tVar i σ H Q := ⟨v, h, q⟩
theorem r_c (q : Q v H) : tC v σ H Q := q
theorem r_op {r : R2} (h : ta σ H fun x H1 => tb σ H1 fun y H2 => r x y H2 Q) : tOp r ta tb σ H Q := h
theorem r_un {r : V → Hp → VK → Prop} (h : ta σ H fun x H1 => r x H1 Q) : tUn r ta σ H Q := h
theorem r_nil (q : QA [] H) : tNil σ H QA := q
theorem r_cons (h : ta σ H fun x H1 => t σ H1 fun xs H2 => QA (x :: xs) H2) : tCons ta t σ H QA := h
theorem r_cb {r : List V → Hp → VK → Prop} (h : t σ H fun vs H1 => r vs H1 Q) : tCB r t σ H Q := h
theorem r_ckw {r : List V → List V → Hp → VK → Prop} {tk : TA} (h : t σ H fun vs H1 => tk σ H1 fun zs H2 => r vs zs H2 Q) : tCKw r t tk σ H Q := h
theorem r_cal {sp : Sp} {E : XK} (h : t σ H fun vs H1 => sp vs H1 Q E) : tCal sp E t σ H Q := h
theorem r_calK {sp : Sp} {E : XK} {perm : List V → List V} (h : t σ H fun vs H1 => sp (perm vs) H1 Q E) : tCalK sp E perm t σ H Q := h
theorem r_tup (h : t σ H fun xs H1 => kTup xs H1 Q) : tTup t σ H Q := h
theorem r_lst (h : t σ H fun xs H1 => kLst xs H1 Q) : tLstN t σ H Q := h
theorem r_if (h : tt σ H fun c H1 => if c = true then ta σ H1 Q else tb σ H1 Q) : tIf tt ta tb σ H Q := h
theorem r_andV (h : ta σ H fun x H1 => kB x H1 fun c H1 => if c = true then tb σ H1 Q else Q (.bl false) H1) : tAndV ta tb σ H Q := h
theorem r_orV (h : ta σ H fun x H1 => kB x H1 fun c H1 => if c = true then Q (.bl true) H1 else tb σ H1 Q) : tOrV ta tb σ H Q := h
theorem r_notV (h : ta σ H fun x H1 => kB x H1 fun c H1 => Q (.bl (!c)) H1) : tNotV ta σ H Q := h
theorem r_chain {r r' : R2} {tc : TE} (h : ta σ H fun x H1 => tb σ H1 fun y H2 => r x y H2 fun z H3 => kB z H3 fun k H3 => if k = true then tc σ H3 fun w' H4 => r' y w' H4 Q else Q (.bl false) H3) : tChain r r' ta tb tc σ H Q := h
theorem r_sl {r : V → Option Int → Option Int → Hp → VK → Prop} {tl th : TO} (h : te σ H fun x H1 => tl σ H1 fun l H2 => th σ H2 fun u H3 => r x l u H3 Q) : tSl r te tl th σ H Q := h
theorem r_nopart {QO : Option Int → Hp → Prop} (q : QO none H) : tNoPart σ H QO := q
theorem r_part {QO : Option Int → Hp → Prop} (h : te σ H fun x H1 => kPart x QO H1) : tPart te σ H QO := h
theorem k_part {QO : Option Int → Hp → Prop} {i : Int} (q : QO (some i) H) : kPart (.int i) QO H := ⟨i, rfl, q⟩
theorem r_bm0 {T : String} {r : V → List V → Hp → VK → Prop} (h : te σ H fun x H1 => tyV K T x H1 ∧ r x [] H1 Q) : tBM0 K T r te σ H Q := h
theorem r_bm {T : String} {r : V → List V → Hp → VK → Prop} (h : te σ H fun x H1 => tyV K T x H1 ∧ t σ H1 fun xs H2 => r x xs H2 Q) : tBM K T r te t σ H Q := h
theorem r_test (h : te σ H fun x H1 => kB x H1 QT) : tTest te σ H QT := h
theorem r_B (h : te σ H fun x H1 => kB x H1 QT) : tB te σ H QT := h
theorem k_B {b : Bool} (q : QT b H) : kB (.bl b) H QT := ⟨b, rfl, q⟩
theorem r_not (h : tt σ H fun c H1 => QT (!c) H1) : tNot tt σ H QT := h
theorem r_and (h : tt σ H fun c H1 => if c = true then uu σ H1 QT else QT false H1) : tAnd tt uu σ H QT := h
theorem r_or (h : tt σ H fun c H1 => if c = true then QT true H1 else uu σ H1 QT) : tOr tt uu σ H QT := h
theorem br {c A B : Prop} [Decidable c] (h1 : c → A) (h2 : ¬ c → B) : if decide c = true then A else B := by
  by_cases h : c
  · rw [decide_eq_true h, if_pos rfl]; exact h1 h
  · rw [decide_eq_false h, if_neg Bool.false_ne_true]; exact h2 h
theorem brN {c A B : Prop} [Decidable c] (h1 : ¬ c → A) (h2 : c → B) : if (!decide c) = true then A else B := by
  by_cases h : c
  · rw [decide_eq_true h, if_neg (by decide)]; exact h2 h
  · rw [decide_eq_false h, if_pos (by decide)]; exact h1 h
theorem brB {b : Bool} {A B : Prop} (h1 : b = true → A) (h2 : b = false → B) : if b = true then A else B := by
  cases b with
  | true => rw [if_pos rfl]; exact h1 rfl
  | false => rw [if_neg Bool.false_ne_true]; exact h2 rfl
theorem brBN {b : Bool} {A B : Prop} (h1 : b = false → A) (h2 : b = true → B) : if (!b) = true then A else B := by
  cases b with
  | true => rw [if_neg (by decide)]; exact h2 rfl
  | false => rw [if_pos (by decide)]; exact h1 rfl
theorem ifY {c A B : Prop} [Decidable c] (hc : c) (h : A) : if decide c = true then A else B := br (fun _ => h) fun n => absurd hc n
theorem ifN {c A B : Prop} [Decidable c] (hc : ¬ c) (h : B) : if decide c = true then A else B := br (fun n => absurd n hc) fun _ => h
theorem ifnY {c A B : Prop} [Decidable c] (hc : ¬ c) (h : A) : if (!decide c) = true then A else B := brN (fun _ => h) fun n => absurd n hc
theorem ifnN {c A B : Prop} [Decidable c] (hc : c) (h : B) : if (!decide c) = true then A else B := brN (fun n => absurd hc n) fun _ => h
theorem r_seq (h : s1 { D with nx := s2 D } σ H) : tSeq s1 s2 D σ H := h
theorem r_ifS (h : tt σ H fun b H1 => if b = true then s1 D σ H1 else s2 D σ H1) : tIfS tt s1 s2 D σ H := h
theorem r_next (q : D.nx σ H) : tNext D σ H := q
theorem r_brk (q : D.bk σ H) : tBreak D σ H := q
theorem r_cont (q : D.ct σ H) : tCont D σ H := q
theorem r_ret (h : te σ H D.rt) : tRet te D σ H := h
theorem r_retN (h : D.rt .non H) : tRetN D σ H := h
theorem r_drop (h : te σ H fun _ H1 => D.nx σ H1) : tDrop te D σ H := h
theorem r_asg (h : te σ H fun x H1 => g x σ H1 D.nx) : tAsg te g D σ H := h
theorem r_par {i j : Nat} (h : t σ H fun vs H1 => ∃ v w, vs = [v, w] ∧ D.nx ((σ.set i (some v)).set j (some w)) H1) : tPar i j t D σ H := h
theorem k_par {i j : Nat} (q : D.nx ((σ.set i (some x)).set j (some y)) H) : ∃ v w, [x, y] = [v, w] ∧ D.nx ((σ.set i (some v)).set j (some w)) H := ⟨x, y, rfl, q⟩
theorem r_aug {i : Nat} {ti : TIp} (h : σ[i]? = some (some x)) (q : te σ H fun y H1 => ti x y H1 fun z H2 => D.nx (σ.set i (some z)) H2) : tAug i te ti D σ H := ⟨x, h, q⟩
theorem y_ip {f : Int → Int → Int} {i j : Int} (q : Q (.int (f i j)) H) : ipI f (.int i) (.int j) H Q := ⟨i, j, rfl, rfl, q⟩
theorem g_name {i : Nat} (q : QS (σ.set i (some v)) H) : gName i v σ H QS := q
theorem g_tup {n : Nat} {gs : TGs} {a : Addr} {xs : List V} (hs : SqT K H a xs) (hl : xs.length = n) (q : gs xs σ H QS) : gTup K n gs (.ref a) σ H QS := ⟨a, xs, rfl, hs, hl, q⟩
theorem g_nil (q : QS σ H) : gNil [] σ H QS := ⟨rfl, q⟩
theorem g_cons {gs : TGs} {xs : List V} (q : g v σ H fun σ' H' => gs xs σ' H' QS) : gCons g gs (v :: xs) σ H QS := ⟨v, xs, rfl, q⟩
theorem g_sub {ts : TSet} (q : ta σ H fun o H1 => tb σ H1 fun i H2 => ts o i v H2 fun H3 => QS σ H3) : gSub ta tb ts v σ H QS := q
theorem e_nx {n b c : L2.St → Hp → Prop} {r : VK} (q : n σ H) : (Ends.mk n r b c).nx σ H := q
theorem e_rt {n b c : L2.St → Hp → Prop} {r : VK} (q : r v H) : (Ends.mk n r b c).rt v H := q
theorem e_bk {n b c : L2.St → Hp → Prop} {r : VK} (q : b σ H) : (Ends.mk n r b c).bk σ H := q
theorem e_ct {n b c : L2.St → Hp → Prop} {r : VK} (q : c σ H) : (Ends.mk n r b c).ct σ H := q
theorem r_for {wi : TI} {tb : TS} (h : wi σ H fun J H1 => kFor J g tb D σ H1) : tFor wi g tb D σ H := h
theorem r_lc {wi : TI} {vs : List Nat} (h : wi σ H fun J H1 => kLc J g tt te vs σ H1 Q) : tLc wi g tt te vs σ H Q := h
theorem k_tup {xs : List V} (q : ∀ p H', H p = none → Ex H H' → H' p = some (.tup xs) → Q (.ref p) H') (hz : xs.length ≤ 1000 := by simp) : kTup xs H Q :=
  ⟨Nat.le_trans hz (by decide), fun p n => q p _ n (Ex.new n) upd_same⟩
theorem k_lst {xs : List V} (q : ∀ p H', H p = none → p ≠ 1 → Ex H H' → H' p = some (.lst xs) → Q (.ref p) H') (hz : xs.length ≤ 1000 := by simp) : kLst xs H Q :=
  ⟨Nat.le_trans hz (by decide), fun p n m => q p _ n m (Ex.new n) upd_same⟩
theorem y_add {i j : Int} (q : Q (.int (i + j)) H) : rAddU K (.int i) (.int j) H Q := .inl ⟨i, j, rfl, rfl, q⟩
theorem y_addS {a b : Str} (hz : a.length + b.length ≤ sizeLine) (q : Q (.str (a ++ b)) H) : rAddU K (.str a) (.str b) H Q := .inr (.inl ⟨a, b, rfl, rfl, hz, q⟩)
theorem y_addT {a b : Addr} {xs ys : List V} (ha : SqT K H a xs) (hb : SqT K H b ys) (hz : xs.length + ys.length ≤ sizeLine) (q : ∀ p H', Ex H H' → SqT K H' p (xs ++ ys) → Q (.ref p) H') : rAddU K (.ref a) (.ref b) H Q :=
  .inr (.inr (.inl ⟨a, b, xs, ys, rfl, rfl, ha, hb, hz, fun e => q b H (Ex.refl H) (by rw [e]; exact hb), fun _ e => q a H (Ex.refl H) (by rw [e, List.append_nil]; exact ha), fun _ _ p n => q p _ (Ex.new n) (.of upd_same)⟩))
theorem y_addL {a b : Addr} {xs ys : List V} (ha : H a = some (.lst xs)) (hb : H b = some (.lst ys)) (hz : xs.length + ys.length ≤ sizeLine) (q : ∀ p H', H p = none → Ex H H' → H' p = some (.lst (xs ++ ys)) → Q (.ref p) H') : rAddU K (.ref a) (.ref b) H Q :=
  .inr (.inr (.inr ⟨a, b, xs, ys, rfl, rfl, ha, hb, hz, fun p n => q p _ n (Ex.new n) upd_same⟩))
theorem y_mul {i j : Int} (h : CMul i j) (q : Q (.int (i * j)) H) : rMulU K (.int i) (.int j) H Q := .inl ⟨i, j, rfl, rfl, h, q⟩
theorem y_mulL {a : Addr} {xs : List V} {k : Int} (ha : H a = some (.lst xs)) (h0 : 0 ≤ k) (h1 : k ≤ 1000) (hz : xs.length ≤ 1000) (q : ∀ p H', H p = none → Ex H H' → H' p = some (.lst (List.replicate k.toNat xs).flatten) → Q (.ref p) H') : rMulU K (.ref a) (.int k) H Q := by
  refine .inr (.inl ⟨a, k, xs, rfl, rfl, ha, by omega, by omega, ?_, fun p n => q p _ n (Ex.new n) upd_same⟩)
  have h2 : k.toNat ≤ 1000 := by omega
  exact Nat.le_trans (Nat.mul_le_mul hz h2) (by decide)
theorem y_mulT {a : Addr} {xs : List V} {k : Int} (ha : SqT K H a xs) (hn : xs ≠ []) (h0 : 2 ≤ k) (h1 : k ≤ 1000) (hz : xs.length ≤ 1000) (q : ∀ p H', H p = none → Ex H H' → H' p = some (.tup (List.replicate k.toNat xs).flatten) → Q (.ref p) H') : rMulU K (.ref a) (.int k) H Q :=
  .inr (.inr (.inl ⟨a, k, xs, rfl, rfl, ha, hn, h0, h1, hz, fun p n => q p _ n (Ex.new n) upd_same⟩))
theorem y_mulS {c n : Nat} (hn : n ≤ 100000) (q : Q (.str ⟨(List.replicate n c).toArray⟩) H) : rMulU K (.str ⟨#[c]⟩) (.int (n : Nat)) H Q := .inr (.inr (.inr (.inl ⟨c, n, rfl, rfl, hn, q⟩)))
theorem y_mulW {i j : Int} (h : CMulW i j) (q : Q (.int (i * j)) H) : rMulU K (.int i) (.int j) H Q := .inr (.inr (.inr (.inr ⟨i, j, rfl, rfl, h, q⟩)))
theorem y_sub {i j : Int} (q : Q (.int (i - j)) H) : rSubI (.int i) (.int j) H Q := ⟨i, j, rfl, rfl, q⟩
theorem y_fdiv {i j : Int} (h : CDiv i j) (q : Q (.int (i / j)) H) : rFdiv (.int i) (.int j) H Q := .inl ⟨i, j, rfl, rfl, h, q⟩
theorem y_fdivF {i j : Int} (h : CDivF i j) (q : Q (.int (i.fdiv j)) H) : rFdiv (.int i) (.int j) H Q := .inr ⟨i, j, rfl, rfl, h, q⟩
theorem y_mod {i j : Int} (h : 0 < j) (q : Q (.int (i % j)) H) : rMod (.int i) (.int j) H Q := ⟨i, j, rfl, rfl, h, q⟩
theorem y_pow {i j : Int} (h : CPow i j) (q : Q (.int (i ^ j.toNat)) H) : rPow (.int i) (.int j) H Q := ⟨i, j, rfl, rfl, h, q⟩
theorem y_neg {i : Int} (q : Q (.int (-i)) H) : rNeg (.int i) H Q := ⟨i, rfl, q⟩
theorem y_lt {i j : Int} (q : Q (.bl (decide (i < j))) H) : rLt (.int i) (.int j) H Q := ⟨i, j, rfl, rfl, q⟩
theorem y_le {i j : Int} (q : Q (.bl (decide (i ≤ j))) H) : rLe (.int i) (.int j) H Q := ⟨i, j, rfl, rfl, q⟩
theorem y_gt {i j : Int} (q : Q (.bl (decide (j < i))) H) : rGtU (.int i) (.int j) H Q := ⟨i, j, rfl, rfl, q⟩
theorem y_ge {i j : Int} (q : Q (.bl (decide (j ≤ i))) H) : rGeU (.int i) (.int j) H Q := ⟨i, j, rfl, rfl, q⟩
theorem decV {α : Type} {f : α → V} (hf : ∀ a b, f a = f b → a = b) (a b : α) [Decidable (a = b)] : decide (f a = f b) = decide (a = b) := by
  by_cases e : a = b
  · rw [decide_eq_true e, e]; simp
  · rw [decide_eq_false e]; exact decide_eq_false fun z => e (hf _ _ z)
theorem y_eqI {i j : Int} (q : Q (.bl (decide (i = j))) H) : rEqU K (.int i) (.int j) H Q := .inl ⟨rfl, by rw [decV (f := V.int) (fun _ _ e => V.int.inj e)]; exact q⟩
theorem y_eqS {i j : Str} (q : Q (.bl (decide (i = j))) H) : rEqU K (.str i) (.str j) H Q := .inl ⟨rfl, by rw [decV (f := V.str) (fun _ _ e => V.str.inj e)]; exact q⟩
theorem y_neI {i j : Int} (q : Q (.bl (!decide (i = j))) H) : rNeU K (.int i) (.int j) H Q := .inl ⟨rfl, by rw [decV (f := V.int) (fun _ _ e => V.int.inj e)]; exact q⟩
theorem y_neS {i j : Str} (q : Q (.bl (!decide (i = j))) H) : rNeU K (.str i) (.str j) H Q := .inl ⟨rfl, by rw [decV (f := V.str) (fun _ _ e => V.str.inj e)]; exact q⟩
theorem y_isNo (q : Q (.bl (decide (x = .non))) H) : rIsNo x .non H Q := ⟨rfl, q⟩
theorem y_isntNo (q : Q (.bl (!decide (x = .non))) H) : rIsntNo x .non H Q := ⟨rfl, q⟩
theorem y_inS {c : Nat} {z : Str} (q : Q (.bl (decide (c ∈ z.cps.toList))) H) : rInU K (.str ⟨#[c]⟩) (.str z) H Q := .inr (.inl ⟨c, z, rfl, rfl, q⟩)
theorem y_ixL {p : Addr} {xs : List V} {i : Int} (h : SqL K H p xs) (ha : atI xs i = some v) (q : Q v H) : rIx K (.ref p) (.int i) H Q := .inl ⟨p, xs, i, v, rfl, rfl, h, ha, q⟩
theorem y_ixT {p : Addr} {xs : List V} {i : Int} (h : SqT K H p xs) (ha : atI xs i = some v) (q : Q v H) : rIx K (.ref p) (.int i) H Q := .inr (.inl ⟨p, xs, i, v, rfl, rfl, h, ha, q⟩)
theorem y_ixS {z : Str} {i : Int} {c : Nat} (hz : z.length ≤ sizeLine) (ha : atI z.cps.toList i = some c) (q : Q (.str ⟨#[c]⟩) H) : rIx K (.str z) (.int i) H Q := .inr (.inr ⟨z, i, c, rfl, rfl, hz, ha, q⟩)
theorem y_setL {p : Addr} {xs : List V} {i : Int} {j : Nat} {QH : Hp → Prop} (h : H p = some (.lst xs)) (hj : ixN xs.length i = some j) (q : ∀ H', Em p H H' → H' p = some (.lst (xs.set j v)) → QH H') : rSetL (.ref p) (.int i) v H QH := ⟨p, xs, i, j, rfl, rfl, h, hj, q _ Em.put upd_same⟩
theorem y_abs {i : Int} (q : Q (.int (if i < 0 then -i else i)) H) : rAbs [.int i] H Q := ⟨i, rfl, q⟩
theorem y_max2 {i j : Int} (q : Q (.int (if j > i then j else i)) H) : rMaxU K [.int i, .int j] H Q := .inl ⟨i, j, rfl, q⟩
theorem y_min2 {i j : Int} (q : Q (.int (if j < i then j else i)) H) : rMinU K [.int i, .int j] H Q := .inl ⟨i, j, rfl, q⟩
theorem y_maxL {a : Addr} {ns : List Int} (h : SqL K H a (ns.map V.int)) (hn : 0 < ns.length) (q : ∀ m, m ∈ ns → (∀ z, z ∈ ns → z ≤ m) → Q (.int m) H) : rMaxU K [.ref a] H Q := .inr ⟨a, ns, rfl, h, hn, q⟩
theorem y_maxD {a : Addr} {ns : List Int} {d : Int} (h : SqL K H a (ns.map V.int)) (q : ∀ m, (ns = [] → m = d) → (ns ≠ [] → m ∈ ns ∧ ∀ z, z ∈ ns → z ≤ m) → Q (.int m) H) : rMaxD K [.ref a] [.int d] H Q :=
  ⟨a, ns, .int d, rfl, rfl, h, fun e => q d (fun _ => rfl) (fun n => absurd e n), fun y ys e m m1 m2 => q m (fun z => by rw [z] at e; cases e) fun _ => ⟨m1, m2⟩⟩
theorem y_intI {i : Int} (q : Q (.int i) H) : rIntU [.int i] H Q := .inl (.inl ⟨i, rfl, q⟩)
theorem y_intB {b : Bool} (q : Q (.int (if b then 1 else 0)) H) : rIntU [.bl b] H Q := .inl (.inr ⟨b, rfl, q⟩)
theorem y_intS {a : Str} {n : Int} (h : PySem.intText? a = some n) (hz : a.length ≤ sizeLine) (q : Q (.int n) H) : rIntU [.str a] H Q := .inr ⟨a, n, rfl, h, hz, q⟩
theorem y_str {i : Int} (h : i.natAbs < DL) (q : Q (.str (toString i)) H) : rStrI [.int i] H Q := ⟨i, rfl, h, q⟩
theorem y_lenL {p : Addr} {xs : List V} (h : SqL K H p xs) (q : Q (.int (xs.length : Nat)) H) : rLen K [.ref p] H Q := ⟨_, xs.length, rfl, .inl ⟨xs, h, rfl⟩, q⟩
theorem y_lenT {p : Addr} {xs : List V} (h : SqT K H p xs) (q : Q (.int (xs.length : Nat)) H) : rLen K [.ref p] H Q := ⟨_, xs.length, rfl, .inr ⟨xs, h, rfl⟩, q⟩
theorem y_lenS {z : Str} (hz : z.length ≤ sizeLine) (q : Q (.int (z.length : Nat)) H) : rLen K [.str z] H Q := ⟨_, z.length, rfl, ⟨hz, rfl⟩, q⟩
theorem y_divmod {i j : Int} (h : CDiv i j) (q : ∀ p H', H p = none → Ex H H' → H' p = some (.tup [.int (i / j), .int (i % j)]) → Q (.ref p) H') : rDivmod [.int i, .int j] H Q := ⟨i, j, rfl, h, fun p n => q p _ n (Ex.new n) upd_same⟩
theorem y_tupL {p : Addr} {ys : List V} (h : SqL K H p ys) (q : ∀ l H', H l = none → Ex H H' → H' l = some (.tup ys) → Q (.ref l) H') : rTupOf K [.ref p] H Q := ⟨p, ys, rfl, .inl ⟨h, fun l n => q l _ n (Ex.new n) upd_same⟩⟩
theorem y_tupT {p : Addr} {ys : List V} (h : SqT K H p ys) (q : Q (.ref p) H) : rTupOf K [.ref p] H Q := ⟨p, ys, rfl, .inr ⟨h, q⟩⟩
theorem y_sum {a : Addr} {ns : List Int} (h : SqL K H a (ns.map V.int)) (q : Q (.int ns.sum) H) : rSum K [.ref a] H Q := ⟨a, ns, rfl, h, q⟩
theorem y_all {a : Addr} {bs : List Bool} (h : SqL K H a (bs.map V.bl)) (q : Q (.bl (bs.all id)) H) : rAll K [.ref a] H Q := ⟨a, bs, rfl, h, q⟩
theorem y_any {a : Addr} {bs : List Bool} (h : SqL K H a (bs.map V.bl)) (q : Q (.bl (bs.any id)) H) : rAny K [.ref a] H Q := ⟨a, bs, rfl, h, q⟩
theorem y_repr {d : PyData} (h : Dt K H x d) (hs : shW d = true) (hz : d.shown.length ≤ sizeLine) (hd : d.depth ≤ 40) (q : Q (.str d.shown) H) : rRepr K [x] H Q := ⟨x, d, rfl, .inl h, hs, hz, hd, q⟩
theorem y_reprP {d : PyData} (h : Dp K H x d) (hn : d.hasDict = false) (hs : shW d = true) (hz : d.shown.length ≤ sizeLine) (hd : d.depth ≤ 40) (q : Q (.str d.shown) H) : rRepr K [x] H Q := ⟨x, d, rfl, .inr ⟨h, hn⟩, hs, hz, hd, q⟩
theorem y_slL {p : Addr} {xs : List V} {lo hi : Option Int} (h : SqL K H p xs) (q : ∀ l H', H l = none → Ex H H' → H' l = some (.lst (cutV xs lo hi)) → Q (.ref l) H') : rSlL K (.ref p) lo hi H Q := ⟨p, xs, rfl, h, fun l n => q l _ n (Ex.new n) upd_same⟩
theorem y_slS {z : Str} {lo hi : Option Int} (hz : z.length ≤ sizeLine) (q : Q (.str (cutS z lo hi)) H) : rSlS (.str z) lo hi H Q := ⟨z, rfl, hz, q⟩
end
def tyn : PyData → String
  | .none => "NoneType" | .bool _ => "bool" | .int _ => "int" | .str _ => "str" | .list _ => "list" | .tuple _ => "tuple" | .dict _ => "dict"
theorem Dt.ty {K : PySem.W.Frag} {H : Hp} {v : V} {d : PyData} (h : Dt K H v d) : TyX K H v (.type (tyn d)) := by
  cases h with
  | non => exact .base .non
  | bl b => exact .base (.bl b)
  | int i => exact .base (.int i)
  | str x => exact .base (.str x)
  | lst h _ =>
    rcases h with (h | ⟨o, h⟩) | ⟨o, its, n, hk, hc, _⟩
    · exact .base (.lst h)
    · exact .base (.frz h)
    · exact .kList hk hc
  | tup h _ =>
    rcases h with (h | ⟨o, h⟩) | ⟨o, its, n, hk, hc, _⟩
    · exact .base (.tup h)
    · exact .fTuple h
    · exact .kTuple hk hc
  | dct h _ =>
    rcases h with h | ⟨o, h⟩
    · exact .base (.dK h)
    · exact .fDict h
theorem y_isi {K : PySem.W.Frag} {H : Hp} {Q : VK} {v : V} {d : PyData} {T : String} {b : Bool} (h : Dt K H v d) (hb : kitB (tyn d) T = some b) (q : Q (.bl b) H) : rIsiU K [v, .ty T] H Q :=
  .inl ⟨v, .ty T, .type (tyn d), .type T, b, rfl, .ty T, h.ty, kit_ty hb, q⟩
end Ls
end

section
set_option Elab.async false
set_option linter.all false
set_option maxRecDepth 100000
set_option maxHeartbeats 4000000
namespace Ls
open PySem PySem.Spec PyProof.Rows L2
section
variable {X : Cx} {tg : Expr}
theorem pe_const {x : Str} {v : V} {pos : Pos} (h : ∃ u, X.mg x = some u ∧ RelV v u) (hg : Gl X x := by rfl) (hd : (x == ("__debug__" : Str)) = false := by decide) : PE X (.Name x pos) (tC v) := by
  obtain ⟨u, hm, r⟩ := h
  exact pe_glob hg hm r hd
def rSlU (K : PySem.W.Frag) : V → Option Int → Option Int → Hp → VK → Prop := fun x lo hi H Q => rSlL K x lo hi H Q ∨ rSlA K x lo hi H Q ∨ rSlS x lo hi H Q
theorem sl_U : SlR X (rSlU X.K) := sl_list.or (sl_tupA.or sl_str)
def kSeq (K : PySem.W.Frag) (x : V) (R : It → Hp → Prop) (H1 : Hp) : Prop := ∃ a, x = .ref a ∧ (((∃ xs, SqL K H1 a xs) ∧ R (Itl K a) H1) ∨ ((∃ xs, SqT K H1 a xs) ∧ R (Itt K a) H1))
def kRng (vs : List V) (R : It → Hp → Prop) (H1 : Hp) : Prop := ∃ j : Int, vs = [.int j] ∧ -(2 ^ 62) ≤ j ∧ j < 2 ^ 62 ∧ R (Itr 0 j.toNat) H1
/-- a list or a tuple, walked -/
def iSeq (K : PySem.W.Frag) (tl : TE) : TI := fun σ H R => tl σ H fun x H1 => kSeq K x R H1
theorem pi_seq {l : Expr} {tl : TE} (hl : PE X l tl) : PI X tg l (iSeq X.K tl) := by
  refine ⟨fun pins s σ H R I h => ?_⟩
  refine thn (hl.run pins s σ H _ I h) fun v s1 ⟨x, H1, I1, r1, a, e, q⟩ => ?_
  subst e
  cases r1
  have fr : ∀ b ∈ [s1.heap.objs.size], FpOk X pins H1 b := fun b hb => by
    have z : b = s1.heap.objs.size := by simpa using hb
    subst z
    exact I1.fpOk (Nat.le_refl _) (I1.hok.fresh (Nat.le_refl _))
  rcases q with ⟨⟨xs, hq⟩, q⟩ | ⟨⟨xs, hq⟩, q⟩
  · obtain ⟨its, rv, p, hz⟩ := I1.list hq
    exact wpAny_pyIter_list p.isList ⟨_, _, _, _, H1, rfl, I1.kept (t' := s1.toks) fun b o z => Heap.get?_push_of_some _ z, turn_list a _, ⟨_, Heap.get?_push_size _ rfl, rfl, rfl⟩, fr, q⟩
  · obtain ⟨its, rv, p, hz⟩ := I1.tuple hq
    exact wpAny_pyIter_tuple (show s1.heap.IsTuple a its.toArray from p) ⟨_, _, _, _, H1, rfl, I1.kept (t' := s1.toks) fun b o z => Heap.get?_push_of_some _ z, turn_tuple a _, ⟨_, Heap.get?_push_size _ rfl, rfl, rfl⟩, fr, q⟩
end
section
variable {σ : L2.St} {H : Hp} {Q : VK} {K : PySem.W.Frag} {tl : TE} {R : It → Hp → Prop} {g : TG} {tb : TS} {D : Ends} {tt : TT} {te : TE} {vs : List Nat} {ta : TA}
theorem i_seq (h : tl σ H fun x H1 => kSeq K x R H1) : iSeq K tl σ H R := h
theorem i_L {a : Addr} {xs : List V} (h : SqL K H a xs) (q : R (Itl K a) H) : kSeq K (.ref a) R H := ⟨a, rfl, .inl ⟨⟨xs, h⟩, q⟩⟩
theorem i_T {a : Addr} {xs : List V} (h : SqT K H a xs) (q : R (Itt K a) H) : kSeq K (.ref a) R H := ⟨a, rfl, .inr ⟨⟨xs, h⟩, q⟩⟩
theorem i_rng1 (h : ta σ H fun vs H1 => kRng vs R H1) : iRng1 ta σ H R := h
theorem i_r1 {j : Int} (h1 : -(2 ^ 62) ≤ j) (h2 : j < 2 ^ 62) (q : R (Itr 0 j.toNat) H) : kRng [.int j] R H := ⟨j, rfl, h1, h2, q⟩
theorem k_forL {a : Addr} {xs : List V} (Pv : Nat → L2.St → Hp → Prop) (h0 : Pv 0 σ H) (hl : ∀ i σ H, i ≤ xs.length → Pv i σ H → SqL K H a xs)
    (hs : ∀ i x σ H, xs[i]? = some x → Pv i σ H → g x σ H fun σ2 H2 => tb { D with nx := Pv (i + 1), ct := Pv (i + 1), bk := D.nx } σ2 H2) (hd : ∀ σ H, Pv xs.length σ H → D.nx σ H) : kFor (Itl K a) g tb D σ H := for_list Pv h0 hl hs hd
theorem k_forT {a : Addr} {xs : List V} (Pv : Nat → L2.St → Hp → Prop) (h0 : Pv 0 σ H) (hl : ∀ i σ H, i ≤ xs.length → Pv i σ H → SqT K H a xs)
    (hs : ∀ i x σ H, xs[i]? = some x → Pv i σ H → g x σ H fun σ2 H2 => tb { D with nx := Pv (i + 1), ct := Pv (i + 1), bk := D.nx } σ2 H2) (hd : ∀ σ H, Pv xs.length σ H → D.nx σ H) : kFor (Itt K a) g tb D σ H := for_tup Pv h0 hl hs hd
theorem k_forR {lo : Int} {n : Nat} (Pv : Nat → L2.St → Hp → Prop) (h0 : Pv 0 σ H)
    (hs : ∀ i σ H, i < n → Pv i σ H → g (.int (lo + i)) σ H fun σ2 H2 => tb { D with nx := Pv (i + 1), ct := Pv (i + 1), bk := D.nx } σ2 H2) (hd : ∀ σ H, Pv n σ H → D.nx σ H) : kFor (Itr lo n) g tb D σ H := for_range Pv h0 hs hd
def kTurn (D : Addr) (j : Nat) (Pv : Nat → List V → Hp → Prop) : VK := fun y H4 => ∃ acc, H4 D = some (.lst acc) ∧ acc.length < sizeLine ∧ ∃ ys, ys.length = j + 1 ∧ upd H4 D (.lst (acc ++ [y])) D = some (.lst ys) ∧ Pv (j + 1) ys (upd H4 D (.lst (acc ++ [y])))
theorem k_turn {D : Addr} {j : Nat} {Pv : Nat → List V → Hp → Prop} {ys : List V} {y : V} (h : H D = some (.lst ys)) (hl : ys.length = j) (hj : j < 100000) (q : Pv (j + 1) (ys ++ [y]) (upd H D (.lst (ys ++ [y])))) : kTurn D j Pv y H :=
  ⟨ys, h, Nat.lt_of_lt_of_le (by omega : ys.length < 100000) (by decide), ys ++ [y], by rw [List.length_append, hl]; rfl, upd_same, q⟩
theorem t_yes {A B : Hp → Prop} (h : A H) : tYes σ H (fun b H1 => if b = true then A H1 else B H1) := by
  show (if true = true then A H else B H)
  rw [if_pos rfl]
  exact h
theorem k_lcL {a : Addr} {xs : List V} {i0 : Nat} (Pv : Nat → List V → Hp → Prop) (h0 : ∀ D, H D = none → Pv 0 [] (upd H D (.lst []))) (hl : ∀ j ys H', j ≤ xs.length → Pv j ys H' → SqL K H' a xs)
    (hs : ∀ D j x ys H', H D = none → xs[j]? = some x → j < xs.length → ys.length = j → H' D = some (.lst ys) → Pv j ys H' → te ((wipe σ vs).set i0 (some x)) H' (kTurn D j Pv))
    (hw : ∀ x, wipe ((wipe σ vs).set i0 (some x)) vs = wipe σ vs) (hd : ∀ D ys H', H D = none → ys.length = xs.length → H' D = some (.lst ys) → Pv xs.length ys H' → Q (.ref D) H') : kLc (Itl K a) (gName i0) tYes te vs σ H Q := fun D hD =>
  lc_list (fun j H' => ∃ ys : List V, ys.length = j ∧ H' D = some (.lst ys) ∧ Pv j ys H') ⟨[], rfl, upd_same, h0 D hD⟩ (fun j H' hj ⟨ys, _, _, p⟩ => hl j ys H' hj p)
    (fun j x H' hx ⟨ys, hy, hHD, p⟩ => ⟨hw x, t_yes (hs D j x ys H' hD hx (List.getElem?_eq_some_iff.mp hx).1 hy hHD p)⟩) fun H' ⟨ys, hy, hHD, p⟩ => hd D ys H' hD hy hHD p
theorem k_lcT {a : Addr} {xs : List V} {i0 : Nat} (Pv : Nat → List V → Hp → Prop) (h0 : ∀ D, H D = none → Pv 0 [] (upd H D (.lst []))) (hl : ∀ j ys H', j ≤ xs.length → Pv j ys H' → SqT K H' a xs)
    (hs : ∀ D j x ys H', H D = none → xs[j]? = some x → j < xs.length → ys.length = j → H' D = some (.lst ys) → Pv j ys H' → te ((wipe σ vs).set i0 (some x)) H' (kTurn D j Pv))
    (hw : ∀ x, wipe ((wipe σ vs).set i0 (some x)) vs = wipe σ vs) (hd : ∀ D ys H', H D = none → ys.length = xs.length → H' D = some (.lst ys) → Pv xs.length ys H' → Q (.ref D) H') : kLc (Itt K a) (gName i0) tYes te vs σ H Q := fun D hD =>
  lc_tup (fun j H' => ∃ ys : List V, ys.length = j ∧ H' D = some (.lst ys) ∧ Pv j ys H') ⟨[], rfl, upd_same, h0 D hD⟩ (fun j H' hj ⟨ys, _, _, p⟩ => hl j ys H' hj p)
    (fun j x H' hx ⟨ys, hy, hHD, p⟩ => ⟨hw x, t_yes (hs D j x ys H' hD hx (List.getElem?_eq_some_iff.mp hx).1 hy hHD p)⟩) fun H' ⟨ys, hy, hHD, p⟩ => hd D ys H' hD hy hHD p
theorem k_lcR {lo : Int} {n : Nat} {i0 : Nat} (Pv : Nat → List V → Hp → Prop) (h0 : ∀ D, H D = none → Pv 0 [] (upd H D (.lst [])))
    (hs : ∀ D j ys H', H D = none → j < n → ys.length = j → H' D = some (.lst ys) → Pv j ys H' → te ((wipe σ vs).set i0 (some (.int (lo + j)))) H' (kTurn D j Pv))
    (hw : ∀ x, wipe ((wipe σ vs).set i0 (some x)) vs = wipe σ vs) (hd : ∀ D ys H', H D = none → ys.length = n → H' D = some (.lst ys) → Pv n ys H' → Q (.ref D) H') : kLc (Itr lo n) (gName i0) tYes te vs σ H Q := fun D hD =>
  lc_range (fun j H' => ∃ ys : List V, ys.length = j ∧ H' D = some (.lst ys) ∧ Pv j ys H') ⟨[], rfl, upd_same, h0 D hD⟩
    (fun j H' hj ⟨ys, hy, hHD, p⟩ => ⟨hw _, t_yes (hs D j ys H' hD hj hy hHD p)⟩) fun H' ⟨ys, hy, hHD, p⟩ => hd D ys H' hD hy hHD p
end
/-- tuples stand, and what is locked -/
def Et (H H' : Hp) : Prop := (∀ a xs, H a = some (.tup xs) → H' a = some (.tup xs)) ∧ ∀ a o u, H a = some (.frz o u) → H' a = some (.frz o u)
theorem Et.refl (H : Hp) : Et H H := ⟨fun _ _ h => h, fun _ _ _ h => h⟩
theorem Et.trans {H H1 H2 : Hp} (a : Et H H1) (b : Et H1 H2) : Et H H2 := ⟨fun x o h => b.1 _ _ (a.1 _ _ h), fun x o u h => b.2 _ _ _ (a.2 _ _ _ h)⟩
theorem Ex.et {H H' : Hp} (e : Ex H H') : Et H H' := ⟨fun _ _ h => e _ _ h, fun _ _ _ h => e _ _ h⟩
theorem Em.et {p : Addr} {xs : List V} {H H' : Hp} (e : Em p H H') (h : H p = some (.lst xs)) : Et H H' :=
  ⟨fun a ys q => e a _ (fun z => by rw [z, h] at q; cases q) q, fun a o u q => e a _ (fun z => by rw [z, h] at q; cases q) q⟩
theorem Et.putL {p : Addr} {xs ys : List V} {H : Hp} (h : H p = some (.lst xs)) : Et H (upd H p (.lst ys)) := Em.et Em.put h
theorem Ex.putN {p : Addr} {o : HO} {H H' : Hp} (e : Ex H H') (h : H p = none) : Ex H (upd H' p o) := fun a u q => by rw [upd_ne (ne_of_none q h)]; exact e a u q
theorem Em.putN {p q : Addr} {o : HO} {H H' : Hp} (e : Em q H H') (h : H p = none) : Em q H (upd H' p o) := fun a u n z => by rw [upd_ne (ne_of_none z h)]; exact e a u n z
theorem Et.st {K : PySem.W.Frag} {H H' : Hp} {a : Addr} {xs : List V} (e : Et H H') (h : SqT K H a xs) : SqT K H' a xs := by
  rcases h with (h | ⟨o, h⟩) | h
  · exact .inl (.inl (e.1 _ _ h))
  · exact .inl (.inr ⟨o, e.2 _ _ _ h⟩)
  · exact .inr h
mutual
inductive Fl (K : PySem.W.Frag) (H : Hp) : V → PyData → Prop
  | non : Fl K H .non .none
  | bl (b : Bool) : Fl K H (.bl b) (.bool b)
  | int (i : Int) : Fl K H (.int i) (.int i)
  | str (x : Str) : Fl K H (.str x) (.str x)
  | tup {a : Addr} {xs : List V} {ds : List PyData} : SqT K H a xs → FlAll K H xs ds → Fl K H (.ref a) (.tuple ds)
inductive FlAll (K : PySem.W.Frag) (H : Hp) : List V → List PyData → Prop
  | nil : FlAll K H [] []
  | cons {v : V} {vs : List V} {d : PyData} {ds : List PyData} : Fl K H v d → FlAll K H vs ds → FlAll K H (v :: vs) (d :: ds)
end
section
variable {K : PySem.W.Frag} {H H' : Hp}
mutual
theorem Fl.mono (e : Et H H') : ∀ {v : V} {d : PyData}, Fl K H v d → Fl K H' v d
  | _, _, .non => .non
  | _, _, .bl b => .bl b
  | _, _, .int i => .int i
  | _, _, .str x => .str x
  | _, _, .tup h a => .tup (e.st h) (a.mono e)
theorem FlAll.mono (e : Et H H') : ∀ {v : List V} {d : List PyData}, FlAll K H v d → FlAll K H' v d
  | _, _, .nil => .nil
  | _, _, .cons a b => .cons (a.mono e) (b.mono e)
end
mutual
theorem Fl.dt : ∀ {v : V} {d : PyData}, Fl K H v d → Dt K H v d
  | _, _, .non => .non
  | _, _, .bl b => .bl b
  | _, _, .int i => .int i
  | _, _, .str x => .str x
  | _, _, .tup h a => .tup h a.dt
theorem FlAll.dt : ∀ {v : List V} {d : List PyData}, FlAll K H v d → DtAll K H v d
  | _, _, .nil => .nil
  | _, _, .cons a b => .cons a.dt b.dt
end
mutual
theorem Fl.dp : ∀ {v : V} {d : PyData}, Fl K H v d → Dp K H v d
  | _, _, .non => .non
  | _, _, .bl b => .bl b
  | _, _, .int i => .int i
  | _, _, .str x => .str x
  | _, _, .tup h a => .tup h a.dp
theorem FlAll.dp : ∀ {v : List V} {d : List PyData}, FlAll K H v d → DpAll K H v d
  | _, _, .nil => .nil
  | _, _, .cons a b => .cons a.dp b.dp
end
theorem FlAll.length : ∀ {vs : List V} {ds : List PyData}, FlAll K H vs ds → vs.length = ds.length
  | _, _, .nil => rfl
  | _, _, .cons _ b => congrArg Nat.succ b.length
theorem FlAll.get : ∀ {vs : List V} {ds : List PyData} {i : Nat} {v : V}, FlAll K H vs ds → vs[i]? = some v → ∃ d, ds[i]? = some d ∧ Fl K H v d
  | _, _, _, _, .nil, e => by simp at e
  | _, _, 0, v, .cons a _, e => ⟨_, rfl, (Option.some.inj e : _ = v) ▸ a⟩
  | _, _, i + 1, v, .cons _ b, e => b.get (i := i) (by simpa using e)
theorem FlAll.append : ∀ {vs ws : List V} {ds es : List PyData}, FlAll K H vs ds → FlAll K H ws es → FlAll K H (vs ++ ws) (ds ++ es)
  | _, _, _, _, .nil, b => b
  | _, _, _, _, .cons x a, b => .cons x (a.append b)
theorem FlAll.take : ∀ {vs : List V} {ds : List PyData} (n : Nat), FlAll K H vs ds → FlAll K H (vs.take n) (ds.take n)
  | _, _, 0, _ => .nil
  | _, _, _ + 1, .nil => .nil
  | _, _, n + 1, .cons x a => .cons x (a.take n)
theorem FlAll.drop : ∀ {vs : List V} {ds : List PyData} (n : Nat), FlAll K H vs ds → FlAll K H (vs.drop n) (ds.drop n)
  | _, _, 0, r => r
  | _, _, _ + 1, .nil => .nil
  | _, _, n + 1, .cons _ a => a.drop n
theorem FlAll.snoc {vs : List V} {ds : List PyData} {v : V} {d : PyData} (a : FlAll K H vs ds) (b : Fl K H v d) : FlAll K H (vs ++ [v]) (ds ++ [d]) := a.append (.cons b .nil)
end
end Ls
end

section
set_option Elab.async false
set_option linter.all false
set_option maxRecDepth 100000
set_option maxHeartbeats 4000000
namespace Ls
open PySem PySem.Spec PyProof.Rows L2
/-- the pot: two numbers -/
def Pt (H : Hp) (p : Addr) : Prop := ∃ a b : Int, H p = some (.lst [.int a, .int b]) ∧ 0 ≤ a ∧ 0 ≤ b ∧ b < 2147483648
theorem Pt.ex {H H' : Hp} {p : Addr} (h : Pt H p) (e : Ex H H') : Pt H' p := let ⟨a, b, h1, h2⟩ := h; ⟨a, b, e _ _ h1, h2⟩
theorem Pt.et {H H' : Hp} {p : Addr} (h : Pt H p) (e : Em p H H') : Et H H' := let ⟨a, b, h1, _⟩ := h; e.et h1
theorem Pt.ne {H : Hp} {p q : Addr} (h : Pt H p) (n : H q = none) : p ≠ q := let ⟨a, b, h1, _⟩ := h; ne_of_none h1 n
theorem Pt.put {H : Hp} {p q : Addr} {o : HO} (h : Pt H p) (n : p ≠ q) : Pt (upd H q o) p := let ⟨a, b, h1, h2⟩ := h; ⟨a, b, by rw [upd_ne n]; exact h1, h2⟩
theorem seq_em {K : PySem.W.Frag} {p l : Addr} {xs : List V} {H H' : Hp} (h : SqL K H l xs) (n : l ≠ p) (e : Em p H H') : SqL K H' l xs := by
  rcases h with (h | ⟨o, h⟩) | h
  · exact .inl (.inl (e _ _ n h))
  · exact .inl (.inr ⟨o, e _ _ n h⟩)
  · exact .inr h
theorem seq_new {K : PySem.W.Frag} {p l : Addr} {xs : List V} {H H1 H2 : Hp} (h : SqL K H l xs) (n : H p = none) (e : Ex H H1) (m : Em p H1 H2) : SqL K H2 l xs := by
  rcases h with (h | ⟨o, h⟩) | h
  · exact .inl (.inl (m _ _ (ne_of_none h n) (e _ _ h)))
  · exact .inl (.inr ⟨o, m _ _ (ne_of_none h n) (e _ _ h)⟩)
  · exact .inr h
def sp_pot (K : PySem.W.Frag) : Sp := fun vs H Q _ => ∃ (s : Addr) (ns : List Int) (k : Nat), vs = [.ref s, .int k] ∧ SqL K H s (ns.map V.int) ∧ k ≤ 100 ∧ ∀ p H', H p = none → Ex H H' → Pt H' p → Q (.ref p) H'
def sp_digit : Sp := fun vs H Q _ => ∃ (p : Addr) (m : Int), vs = [.ref p, .int m] ∧ Pt H p ∧ 0 < m ∧ m < 1073741824 ∧ ∀ (d : Int) H', 0 ≤ d → d < m → Pt H' p → Em p H H' → Q (.int d) H'
def sp_pick (K : PySem.W.Frag) : Sp := fun vs H Q _ => ∃ (p l : Addr) (xs : List V), vs = [.ref p, .ref l] ∧ Pt H p ∧ SqL K H l xs ∧ l ≠ p ∧ 0 < xs.length ∧ xs.length ≤ 1000 ∧ ∀ (v : V) H', v ∈ xs → Pt H' p → Em p H H' → Q v H'
def sp_int : Sp := fun vs H Q _ => ∃ p : Addr, vs = [.ref p] ∧ Pt H p ∧ ∀ (i : Int) H', i.natAbs ≤ 10 ^ 21 → Pt H' p → Em p H H' → Q (.int i) H'
section
variable {σ : L2.St} {H : Hp} {Q : VK} {K : PySem.W.Frag} {te : TE} {vs : List Nat}
/-- [f(x) for x in t], t a tuple of data, f a function of the data -/
theorem k_lcDt {a : Addr} {xs : List V} {ds : List PyData} {i0 : Nat} (f : PyData → V) (hS : SqT K H a xs) (hD : DtAll K H xs ds) (hz : xs.length ≤ 99999)
    (hs : ∀ x d H1 (Q1 : VK), d ∈ ds → Ex H H1 → Dt K H1 x d → (∀ H2, Ex H1 H2 → Q1 (f d) H2) → te ((wipe σ vs).set i0 (some x)) H1 Q1)
    (hw : ∀ x, wipe ((wipe σ vs).set i0 (some x)) vs = wipe σ vs) (q : ∀ D H2, H D = none → Ex H H2 → H2 D = some (.lst (ds.map f)) → Q (.ref D) H2) : kLc (Itt K a) (gName i0) tYes te vs σ H Q := by
  refine k_lcT (xs := xs) (fun j ys H' => Ex H H' ∧ ys = (ds.take j).map f) (fun D n => ⟨Ex.new n, rfl⟩) (fun j ys H' _ p => p.1.st hS) (fun D j x ys H' n hx hj hl hHD p => ?_) hw fun D ys H' n hl hHD p => ?_
  · obtain ⟨e, rfl⟩ := p
    obtain ⟨d, hd, hf⟩ := hD.get hx
    refine hs x d H' _ (List.mem_of_getElem? hd) e (hf.mono e) fun H2 e2 => k_turn (e2 _ _ hHD) hl (by omega) ⟨Ex.putN (e.trans e2) n, ?_⟩
    rw [List.take_add_one, hd, List.map_append]
    rfl
  · obtain ⟨e, rfl⟩ := p
    refine q D H' n e ?_
    rw [hHD, hD.length, List.take_length]
/-- [draw for k in range(n)]: what each draw gives keeps G; G is kept where tuples stand -/
theorem k_lcPot {p : Addr} {lo : Int} {n : Nat} {i0 : Nat} (G : V → Hp → Prop) (gm : ∀ y H H', Et H H' → G y H → G y H') (hP : Pt H p) (hz : n ≤ 99999)
    (hs : ∀ (j : Nat) H1 (Q1 : VK), j < n → Em p H H1 → Pt H1 p → (∀ y H2, Em p H1 H2 → Pt H2 p → G y H2 → Q1 y H2) → te ((wipe σ vs).set i0 (some (.int (lo + j)))) H1 Q1)
    (hw : ∀ x, wipe ((wipe σ vs).set i0 (some x)) vs = wipe σ vs) (q : ∀ D ys H2, H D = none → Em p H H2 → Pt H2 p → H2 D = some (.lst ys) → ys.length = n → (∀ y, y ∈ ys → G y H2) → Q (.ref D) H2) : kLc (Itr lo n) (gName i0) tYes te vs σ H Q := by
  refine k_lcR (fun j ys H' => Em p H H' ∧ Pt H' p ∧ ∀ y, y ∈ ys → G y H') (fun D n => ⟨(Ex.new n).em p, hP.put (hP.ne n), fun _ h => nomatch h⟩) (fun D j ys H' nD hj hl hHD c => ?_) hw fun D ys H' nD hl hHD c => ?_
  · obtain ⟨e, hP', g⟩ := c
    have npD : D ≠ p := fun z => by obtain ⟨_, _, h, _⟩ := hP; rw [z] at nD; rw [nD] at h; cases h
    refine hs j H' _ hj e hP' fun y H2 e2 P2 gy => k_turn (e2 _ _ npD hHD) hl (by omega) ⟨(e.trans e2).putN nD, P2.put npD.symm, fun z hz => ?_⟩
    have t2 : Et H2 (upd H2 D (.lst (ys ++ [y]))) := Et.putL (e2 _ _ npD hHD)
    rcases List.mem_append.mp hz with hz | hz
    · exact gm _ _ _ ((hP'.et e2).trans t2) (g z hz)
    · have : z = y := by simpa using hz
      subst this
      exact gm _ _ _ t2 gy
  · exact q D ys H' nD c.1 c.2.1 hHD hl c.2.2
end
/-- values that bear data, one by one -/
theorem fl_all {K : PySem.W.Frag} {H : Hp} {G : PyData → Prop} : ∀ {ys : List V}, (∀ y, y ∈ ys → ∃ d, Fl K H y d ∧ G d) → ∃ ds, FlAll K H ys ds ∧ ∀ d, d ∈ ds → G d
  | [], _ => ⟨[], .nil, fun _ h => nomatch h⟩
  | y :: ys, h => by
    obtain ⟨d, h1, h2⟩ := h y List.mem_cons_self
    obtain ⟨ds, h3, h4⟩ := fl_all (ys := ys) fun z hz => h z (List.mem_cons_of_mem _ hz)
    exact ⟨d :: ds, .cons h1 h3, fun e he => (List.mem_cons.mp he).elim (fun z => z ▸ h2) (h4 e)⟩
end Ls
end

section
set_option Elab.async false
set_option linter.all false
set_option maxRecDepth 100000
set_option maxHeartbeats 4000000
namespace Ls
open PySem PySem.Spec PyProof.Rows L2
/- how deep tuples lie within tuples -/
mutual
def tdp : PyData → Nat
  | .tuple ds => 1 + tdpL ds
  | _ => 0
def tdpL : List PyData → Nat
  | [] => 0
  | d :: ds => max (tdp d) (tdpL ds)
end
mutual
/-- an integer, or a tuple of at most forty such things -/
def nsD : PyData → Bool
  | .int _ => true
  | .tuple ds => decide (ds.length ≤ 40) && nsL ds
  | _ => false
def nsL : List PyData → Bool
  | [] => true
  | d :: ds => nsD d && nsL ds
end
/-- an integer's signs -/
def szI (i : Int) : Int := ((Str.ofString (toString (if i < 0 then -i else i))).length : Nat) + (if decide (i < 0) = true then 1 else 0)
mutual
def szD : PyData → Int
  | .int i => szI i
  | .tuple ds => 1 + szL ds
  | _ => 1
def szL : List PyData → Int
  | [] => 0
  | d :: ds => szD d + szL ds
end
mutual
/-- all integers within have at most 4,300 digits -/
def smD : PyData → Bool
  | .int i => decide (i.natAbs < DL)
  | .tuple ds => smL ds
  | _ => true
def smL : List PyData → Bool
  | [] => true
  | d :: ds => smD d && smL ds
end
def isD (d : PyData) : Bool := nsD d && (decide ((tdp d : Int) ≤ 4) && decide (szD d ≤ 1000))
theorem tdp_mem : ∀ {ds : List PyData} {d : PyData}, d ∈ ds → tdp d ≤ tdpL ds
  | d' :: ds, d, h => by
    rw [tdpL]
    rcases List.mem_cons.mp h with rfl | h
    · exact Nat.le_max_left _ _
    · exact Nat.le_trans (tdp_mem h) (Nat.le_max_right _ _)
theorem tdp_tup {ds : List PyData} {d : PyData} {n : Nat} (h : tdp (.tuple ds) < n + 1) (hd : d ∈ ds) : tdp d < n := by
  rw [tdp] at h
  have := tdp_mem hd
  omega
theorem nsL_all : ∀ ds : List PyData, nsL ds = (ds.map nsD).all id
  | [] => rfl
  | d :: ds => by rw [nsL, nsL_all ds]; rfl
theorem nsL_mem {ds : List PyData} (h : nsL ds = true) {d : PyData} (hd : d ∈ ds) : nsD d = true := by
  rw [nsL_all, List.all_eq_true] at h
  exact h _ (List.mem_map.mpr ⟨d, hd, rfl⟩)
theorem smL_mem : ∀ {ds : List PyData}, smL ds = true → ∀ {d : PyData}, d ∈ ds → smD d = true
  | d' :: ds, h, d, hd => by
    rw [smL, Bool.and_eq_true] at h
    rcases List.mem_cons.mp hd with rfl | hd
    · exact h.1
    · exact smL_mem h.2 hd
theorem szL_sum : ∀ ds : List PyData, szL ds = (ds.map szD).sum
  | [] => rfl
  | d :: ds => by rw [szL, szL_sum ds]; rfl
/-- the greatest of some depths -/
theorem tdpL_max {ds : List PyData} {m : Int} (h0 : ds.map (fun d => (tdp d : Int)) = [] → m = 0) (h1 : ds.map (fun d => (tdp d : Int)) ≠ [] → m ∈ ds.map (fun d => (tdp d : Int)) ∧ ∀ z, z ∈ ds.map (fun d => (tdp d : Int)) → z ≤ m) : m = (tdpL ds : Int) := by
  have key : ∀ l : List PyData, l ≠ [] → ∃ d ∈ l, tdp d = tdpL l := by
    intro l
    induction l with
    | nil => intro h; exact absurd rfl h
    | cons a l ih =>
      intro _
      rw [tdpL]
      by_cases e : l = []
      · subst e
        exact ⟨a, List.mem_cons_self, by rw [tdpL]; omega⟩
      · obtain ⟨d, hd, he⟩ := ih e
        by_cases c : tdpL l ≤ tdp a
        · exact ⟨a, List.mem_cons_self, by omega⟩
        · exact ⟨d, List.mem_cons_of_mem _ hd, by omega⟩
  by_cases e : ds = []
  · subst e
    rw [h0 rfl]
    rfl
  · obtain ⟨hm, hle⟩ := h1 (by intro z; exact e (List.map_eq_nil_iff.mp z))
    obtain ⟨d, hd, he⟩ := key ds e
    have a1 : ((tdpL ds : Nat) : Int) ≤ m := by rw [← he]; exact hle _ (List.mem_map.mpr ⟨d, hd, rfl⟩)
    obtain ⟨d2, hd2, he2⟩ := List.mem_map.mp hm
    have := tdp_mem hd2
    omega
def sp_isint (K : PySem.W.Frag) : Sp := fun vs H Q _ => ∃ v d, vs = [v] ∧ Dt K H v d ∧ Q (.bl (match d with | .int _ => true | _ => false)) H
def sp_nested (K : PySem.W.Frag) (n : Nat) : Sp := fun vs H Q _ => ∃ v d, vs = [v] ∧ Dt K H v d ∧ tdp d < n ∧ ∀ H', Ex H H' → Q (.bl (nsD d)) H'
def sp_depth (K : PySem.W.Frag) (n : Nat) : Sp := fun vs H Q _ => ∃ v d, vs = [v] ∧ Dt K H v d ∧ nsD d = true ∧ tdp d < n ∧ ∀ H', Ex H H' → Q (.int (tdp d : Nat)) H'
def sp_dsize (K : PySem.W.Frag) (n : Nat) : Sp := fun vs H Q _ => ∃ v d, vs = [v] ∧ Dt K H v d ∧ nsD d = true ∧ smD d = true ∧ tdp d < n ∧ ∀ H', Ex H H' → Q (.int (szD d)) H'
def sp_isdatum (K : PySem.W.Frag) (n : Nat) : Sp := fun vs H Q _ => ∃ v d, vs = [v] ∧ Dt K H v d ∧ smD d = true ∧ tdp d < n ∧ ∀ H', Ex H H' → Q (.bl (isD d)) H'
/-- FAULT -/
def isF (d : PyData) : Bool := match d with | .str x => decide (x = "fault") | _ => false
def sp_isfault (K : PySem.W.Frag) : Sp := fun vs H Q _ => ∃ v d, vs = [v] ∧ Dt K H v d ∧ Q (.bl (isF d)) H
def sp_isvalue (K : PySem.W.Frag) (n : Nat) : Sp := fun vs H Q _ => ∃ v d, vs = [v] ∧ Dt K H v d ∧ smD d = true ∧ tdp d < n ∧ ∀ H', Ex H H' → Q (.bl (isF d || isD d)) H'
end Ls
end

section
set_option Elab.async false
set_option linter.all false
set_option maxRecDepth 100000
set_option maxHeartbeats 4000000
namespace Ls
open PySem PySem.Spec PyProof.Rows L2 SX
/-- the signs of a whole number -/
def intL (i : Int) : List Nat := if i < 0 then 45 :: TL.numL i.natAbs else TL.numL i.natAbs
theorem str_int (i : Int) : Str.ofString (toString i) = S (intL i) := by
  cases i with
  | ofNat n =>
    have h : ¬ (Int.ofNat n < 0) := fun z => nomatch z
    unfold intL
    rw [if_neg h]
    exact num_S n
  | negSucc n =>
    have h : Int.negSucc n < 0 := Int.negSucc_lt_zero n
    unfold intL
    rw [if_pos h]
    have e : toString (Int.negSucc n) = "-" ++ toString ((n + 1 : Nat) : Int) := by
      show Int.repr (Int.negSucc n) = "-" ++ Int.repr (Int.ofNat (n + 1))
      rfl
    have e2 : (Int.negSucc n).natAbs = n + 1 := rfl
    rw [e, e2]
    have e3 : Str.ofString ("-" ++ toString ((n + 1 : Nat) : Int)) = Str.ofString "-" ++ Str.ofString (toString ((n + 1 : Nat) : Int)) := by
      refine TL.ext_tl ?_
      rw [TL.tl_append, TL.tl_ofString, TL.tl_ofString, TL.tl_ofString]
      simp
    rw [e3, num_S]
    have e4 : Str.ofString "-" = S [45] := by decide +kernel
    rw [e4, S_cat]
    rfl
theorem abs_if (i : Int) : (if i < 0 then -i else i) = ((i.natAbs : Nat) : Int) := by
  split <;> omega
theorem intL_len (i : Int) : szI i = ((intL i).length : Nat) := by
  unfold szI
  rw [abs_if, num_S, S_len]
  unfold intL
  by_cases h : i < 0
  · rw [if_pos (decide_eq_true h), if_pos h, List.length_cons]
    omega
  · rw [if_neg (by simp [h]), if_neg h]
    omega
theorem numL_head (n : Nat) : ∃ c r, TL.numL n = c :: r ∧ 48 ≤ c ∧ c ≤ 57 ∧ (c = 48 → r = []) := by
  induction n using Nat.strongRecOn with
  | _ n ih =>
    by_cases h : n < 10
    · exact ⟨48 + n, [], TL.numL_lt h, by omega, by omega, fun _ => rfl⟩
    · obtain ⟨c, r, e, h1, h2, h3⟩ := ih (n / 10) (by omega)
      refine ⟨c, r ++ [48 + n % 10], by rw [TL.numL_step (by omega), e]; rfl, h1, h2, fun z => ?_⟩
      exfalso
      subst z
      rw [h3 rfl] at e
      have v := congrArg PySem.NumText.digitsVal e
      rw [TL.numL_val] at v
      have : PySem.NumText.digitsVal [48] = 0 := by decide
      omega
theorem intL_head (i : Int) : ∃ c r, intL i = c :: r ∧ (c = 45 ∨ (48 ≤ c ∧ c ≤ 57)) := by
  obtain ⟨c, r, e, h1, h2, _⟩ := numL_head i.natAbs
  unfold intL
  split
  · exact ⟨45, _, rfl, .inl rfl⟩
  · exact ⟨c, r, e, .inr ⟨h1, h2⟩⟩
/- the text of data -/
mutual
def txD : PyData → List Nat
  | .int i => intL i
  | .tuple ds => 91 :: (txL ds ++ [93])
  | _ => [102, 97, 117, 108, 116]
def txL : List PyData → List Nat
  | [] => []
  | d :: ds => txD d ++ txM ds
def txM : List PyData → List Nat
  | [] => []
  | d :: ds => 44 :: (txD d ++ txM ds)
end
theorem txD_head (d : PyData) : ∃ c r, txD d = c :: r ∧ c ≠ 93 ∧ c ≠ 44 ∧ (nsD d = true → c ≠ 102) := by
  cases d with
  | int i =>
    obtain ⟨c, r, e, h⟩ := intL_head i
    exact ⟨c, r, by rw [txD, e], by omega, by omega, fun _ => by omega⟩
  | tuple ds => exact ⟨91, _, rfl, by decide, by decide, fun _ => by decide⟩
  | none => exact ⟨102, _, rfl, by decide, by decide, fun h => by simp [nsD] at h⟩
  | bool b => exact ⟨102, _, rfl, by decide, by decide, fun h => by simp [nsD] at h⟩
  | str x => exact ⟨102, _, rfl, by decide, by decide, fun h => by simp [nsD] at h⟩
  | list x => exact ⟨102, _, rfl, by decide, by decide, fun h => by simp [nsD] at h⟩
  | dict x => exact ⟨102, _, rfl, by decide, by decide, fun h => by simp [nsD] at h⟩
theorem txL_join : ∀ ds : List PyData, txL ds = TL.joinL [44] (ds.map txD)
  | [] => by rw [txL]; rfl
  | d :: ds => by
    have key : ∀ (es : List PyData) (d : PyData), txD d ++ txM es = TL.joinL [44] ((d :: es).map txD) := by
      intro es
      induction es with
      | nil => intro d; rw [txM, List.append_nil]; rfl
      | cons e es ih =>
        intro d
        rw [txM, ih e]
        rfl
    rw [txL]
    exact key ds d
mutual
theorem szD_pos : ∀ d : PyData, nsD d = true → 1 ≤ szD d
  | .int i, _ => by
    rw [szD, intL_len]
    obtain ⟨c, r, e, _⟩ := intL_head i
    rw [e, List.length_cons]
    omega
  | .tuple ds, h => by
    rw [nsD, Bool.and_eq_true] at h
    rw [szD]
    have := szL_nn ds h.2
    omega
  | .none, h => by simp [nsD] at h
  | .bool _, h => by simp [nsD] at h
  | .str _, h => by simp [nsD] at h
  | .list _, h => by simp [nsD] at h
  | .dict _, h => by simp [nsD] at h
theorem szL_nn : ∀ ds : List PyData, nsL ds = true → 0 ≤ szL ds
  | [], _ => by rw [szL]; exact Int.le_refl _
  | d :: ds, h => by
    rw [nsL, Bool.and_eq_true] at h
    rw [szL]
    have := szD_pos d h.1
    have := szL_nn ds h.2
    omega
end
theorem szL_mem {ds : List PyData} (h : nsL ds = true) : ∀ {d : PyData}, d ∈ ds → szD d ≤ szL ds := by
  induction ds with
  | nil => intro d hd; cases hd
  | cons e ds ih =>
    intro d hd
    rw [nsL, Bool.and_eq_true] at h
    rw [szL]
    have h1 := szD_pos e h.1
    have h2 := szL_nn ds h.2
    rcases List.mem_cons.mp hd with rfl | hd
    · omega
    · have := ih h.2 hd
      omega
mutual
theorem txD_len : ∀ d : PyData, nsD d = true → ((txD d).length : Int) + 1 ≤ 3 * szD d
  | .int i, h => by
    have := szD_pos (.int i) h
    rw [szD] at this ⊢
    rw [txD, ← intL_len]
    omega
  | .tuple ds, h => by
    rw [nsD, Bool.and_eq_true] at h
    rw [szD, txD, List.length_cons, List.length_append, List.length_singleton]
    have := txL_len ds h.2
    omega
  | .none, h => by simp [nsD] at h
  | .bool _, h => by simp [nsD] at h
  | .str _, h => by simp [nsD] at h
  | .list _, h => by simp [nsD] at h
  | .dict _, h => by simp [nsD] at h
theorem txL_len : ∀ ds : List PyData, nsL ds = true → ((txL ds).length : Int) ≤ 3 * szL ds
  | [], _ => by rw [txL, szL]; exact Int.le_refl _
  | d :: ds, h => by
    rw [nsL, Bool.and_eq_true] at h
    rw [txL, szL, List.length_append]
    have := txD_len d h.1
    have := txM_len ds h.2
    omega
theorem txM_len : ∀ ds : List PyData, nsL ds = true → ((txM ds).length : Int) ≤ 3 * szL ds
  | [], _ => by rw [txM, szL]; exact Int.le_refl _
  | d :: ds, h => by
    rw [nsL, Bool.and_eq_true] at h
    rw [txM, szL, List.length_cons, List.length_append]
    have := txD_len d h.1
    have := txM_len ds h.2
    omega
end
theorem int_digits {n : Nat} (h : n < DL) : (TL.numL n).length ≤ 4300 := TL.numL_len (by decide) (show n < 10 ^ 4300 from h)
/-- slices of codes -/
theorem cut_mid {l : List Nat} {i j : Nat} : cutS (S l) (some (i : Int)) (some (j : Int)) = S ((l.drop i).take (j - i)) := by
  refine TL.ext_tl ?_
  show ((S l).cps.toList.drop (HT.sIx (S l).length 0 (some (i : Int)))).take (HT.sIx (S l).length (S l).length (some (j : Int)) - HT.sIx (S l).length 0 (some (i : Int))) = (l.drop i).take (j - i)
  rw [HT.sIx_nat, HT.sIx_nat, S_len]
  show (l.drop (min i l.length)).take (min j l.length - min i l.length) = _
  by_cases h : i ≤ l.length
  · rw [Nat.min_eq_left h]
    by_cases h2 : j ≤ l.length
    · rw [Nat.min_eq_left h2]
    · rw [Nat.min_eq_right (by omega), List.take_of_length_le (by rw [List.length_drop]; exact Nat.le_refl _), List.take_of_length_le (by rw [List.length_drop]; omega)]
  · have e : min i l.length = l.length := Nat.min_eq_right (by omega)
    rw [e, List.drop_eq_nil_of_le (Nat.le_refl _), List.drop_eq_nil_of_le (by omega : l.length ≤ i)]
    simp
theorem int_back {i : Int} (h : (intL i).length ≤ 4300) : PySem.intText? (S (intL i)) = some i := by
  unfold intL at h ⊢
  by_cases hi : i < 0
  · rw [if_pos hi] at h ⊢
    rw [List.length_cons] at h
    have e := PySem.intText_neg (x := S (45 :: TL.numL i.natAbs)) (cs := TL.numL i.natAbs) rfl (TL.numL_digits _) (TL.numL_ne _) (by rw [S_len, List.length_cons]; omega)
    rw [TL.numL_val] at e
    rw [e]
    congr 1
    omega
  · rw [if_neg hi] at h ⊢
    have e := int_S (a := TL.numL i.natAbs) (List.all_eq_true.mpr fun c hc => by
      have z := TL.numL_digits i.natAbs c hc
      simpa using z) (TL.numL_ne _) (by omega)
    rw [TL.numL_val] at e
    rw [e]
    congr 1
    omega
end Ls
end

section
set_option Elab.async false
set_option linter.all false
set_option maxRecDepth 100000
set_option maxHeartbeats 4000000
namespace Ls
open PySem PySem.Spec PyProof.Rows L2
theorem meets_enum_new {l : Addr} {o : Obj} {H : Heap → Prop} (B : Begins (.ref l) o H) :
    Meets (Builtin.«enumerate.__new__» ⟨[.type "enumerate", .ref l], []⟩) (fun _ R s => H s.heap ∧
      R (.ok (.ret (.ref (s.heap.push o).objs.size))) { s with heap := (s.heap.push o).push { cls := .type "enumerate", data := .fields #[.none, .bool false, .ref s.heap.objs.size, rawInt 0, .none, .none] } }) :=
  .of_wp fun prog w A R s h => by
    obtain ⟨hp, g, d, tk, os⟩ := s; obtain ⟨h1, h⟩ := h
    have hsub := sub_enumerate
    have q1 : ∀ {A' : Around} {E : Value → Shared → Prop} {Q : Value → Shared → Prop}, Q (.ref hp.objs.size) ⟨hp.push o, g, d, tk, os⟩ → wpAny (model prog w) A' (pyIter (.ref l)) Q E ⟨hp, g, d, tk, os⟩ :=
      fun q => B.iter prog w _ _ ⟨hp, g, d, tk, os⟩ _ h1 q
    wp_walk using q1
    refine wpAny_stack_any fun st => wpAny_pure ?_
    split
    · rename_i c _ _ _ _ _
      cases (c == Value.type "enumerate")
      · wp_walk using q1
        exact ⟨_, rfl, h⟩
      · wp_walk using q1
        exact ⟨_, rfl, h⟩
    · wp_walk using q1
      exact ⟨_, rfl, h⟩
theorem enum_new {prog : Program} {w : World} {A : Around} {E : Value → Shared → Prop} {s : Shared} {l : Addr} {o : Obj} {H : Heap → Prop} {Q : Value → Shared → Prop} (B : Begins (.ref l) o H) (h1 : H s.heap)
    (h : ∀ h', IsEnum h' (s.heap.objs.size + 1) s.heap.objs.size 0 .none → h'.get? s.heap.objs.size = some o → h'.objs.size = s.heap.objs.size + 2 →
      (∀ b o, s.heap.get? b = some o → h'.get? b = some o) → Q (.ref (s.heap.objs.size + 1)) { s with heap := h' }) :
    wpAny (model prog w) A (call (.type "enumerate") [.ref l]) Q E s := by
  refine callType_new F.called_enumerate (by decide) (F.typeCall_enumerate_1 _) (F.newCall_enumerate_1 _) (fun obj => F.args_object_init_2 obj _) F.entry_enumerate_new
    (meets_enum_new B) ⟨h1, ?_⟩
  have hz : (s.heap.push o).objs.size = s.heap.objs.size + 1 := Heap.size_push ..
  show _ ∧ _
  rw [hz]
  have he : IsEnum ((s.heap.push o).push { cls := .type "enumerate", data := .fields #[.none, .bool false, .ref s.heap.objs.size, rawInt 0, .none, .none] }) (s.heap.objs.size + 1) s.heap.objs.size 0 .none := by
    have := Heap.get?_push_size (s.heap.push o) (o := { cls := .type "enumerate", data := .fields #[.none, .bool false, .ref s.heap.objs.size, rawInt 0, .none, .none] }) rfl
    rw [hz] at this; exact this
  refine ⟨⟨_, he, rfl⟩, h _ he (Heap.get?_push_of_some _ (Heap.get?_push_size _ B.free)) (by rw [Heap.size_push, hz]) fun b o x => Heap.get?_push_of_some _ (Heap.get?_push_of_some _ x)⟩
/-- the tuple at a, each item in a new pair -/
def Iteu (K : PySem.W.Frag) (a : Addr) : It :=
  ⟨fun i H => ∃ (xs : List V) (x : V), SqT K H a xs ∧ xs[i]? = some x, fun i H v H' => ∃ T x, v = .ref T ∧ H T = none ∧ H' = upd H T (.tup [.int (i : Nat), x]) ∧ ∀ xs, SqT K H a xs → xs[i]? = some x, fun i H => ∃ xs : List V, SqT K H a xs ∧ xs.length ≤ i⟩
theorem tup_not_iter {h : Heap} {a it : Addr} {i : Nat} {items : Array Value} (st : h.IsTupleIter it a i) (p : h.IsTuple a items) : a ≠ it := by
  intro e
  subst e
  obtain ⟨o, ho, hc, hd⟩ := st
  obtain ⟨o', ho', hc', _⟩ := p
  rw [ho] at ho'
  cases ho'
  rw [hc] at hc'
  exact absurd hc' (by decide)
theorem turn_enumT {P : Program} {w : World} {K : PySem.W.Frag} {elts : List Expr} {kk : Nat} {tpos : Pos} (a e it : Addr) :
    Turn P w K (.Tuple elts kk tpos) (Iteu K a) [e, it] e (fun i h => (∃ old, IsEnum h e it ((i : Nat) : Int) old) ∧ h.IsTupleIter it a i ∧ e ≠ it) where
  mem := by simp
  obj := fun i h st b hb => by
    obtain ⟨⟨old, he⟩, ⟨o, ho, hc, hd⟩, _⟩ := st
    have e' : b = e ∨ b = it := by simpa using hb
    rcases e' with z | z
    · rw [z]; exact ⟨_, he, fun v q => nomatch q⟩
    · rw [z]; exact ⟨o, ho, fun v q => by rw [hd] at q; cases q⟩
  keep := fun i h h' st k => let ⟨⟨old, he⟩, hi, hne⟩ := st; ⟨⟨old, k e (by simp) _ he⟩, hi.at fun o q => k it (by simp) o q, hne⟩
  item := by
    intro X hP hw hK hc i pins s σ H E I hf st hg
    subst hP hw hK
    obtain ⟨⟨old, he⟩, hit, hne⟩ := st
    obtain ⟨xs, x, hq, hx⟩ := hg
    obtain ⟨its, rv, p, hz⟩ := I.tuple hq
    obtain ⟨u, hu, ru⟩ := rv.get hx
    have hel : e < s.heap.objs.size := Heap.lt_size he
    have hil : it < s.heap.objs.size := by obtain ⟨_, q, _⟩ := hit; exact Heap.lt_size q
    have pt : s.heap.IsTuple a its.toArray := p
    have ni : a ≠ it := tup_not_iter hit pt
    have nea : e ≠ a := by
      intro z
      subst z
      obtain ⟨o', ho', hc', _⟩ := pt
      have he' := he
      unfold IsEnum at he'
      rw [he'] at ho'
      cases ho'
      have z2 : Value.type "enumerate" = Value.type "tuple" := hc'
      exact absurd z2 (by decide)
    have hi : i < its.toArray.size := by
      have := (List.getElem?_eq_some_iff.mp hu).1
      simpa using this
    refine wpAny_pyNext_enum_itemD (Draws.tuple (A := X.A.in1) (show X.A.in1.handled = none from I.ok.hd hc) it a ni its.toArray) he ⟨hit, pt⟩ hi hne (by simp [hne, nea]) fun x' h' tk hx' ho st' hT hsz hk => ?_
    have : x' = u := by
      have : its.toArray[i]? = some u := by simpa using hu
      rw [this] at hx'
      exact (Option.some.inj hx').symm
    subst this
    obtain ⟨hit', pt'⟩ := st'
    refine ⟨_, rfl, wpAny_letOwnedTupleGo_enum (s := { s with heap := h', toks := tk + 1 }) ho fun h'' he' sb => ?_⟩
    have hT2 : h''.get? s.heap.objs.size = some { cls := .type "tuple", data := .seq #[.int i tk, x'] } := (sb.2 _ (Nat.ne_of_gt hel)).trans hT
    have new : ObjOk X.prog X.w (upd H s.heap.objs.size (.tup [.int (i : Nat), x])) h'' s.heap.objs.size (.tup [.int (i : Nat), x]) :=
      ⟨by show 2 ≤ sizeLine; decide, [.int i tk, x'], .cons ⟨_, rfl⟩ (.cons ru .nil), ⟨_, hT2, rfl, _, rfl⟩⟩
    have I1 : Inv X pins σ (upd H s.heap.objs.size (.tup [.int (i : Nat), x])) { s with heap := h'', toks := tk + 1 } :=
      I.turnedNew (ch := [e, it]) (fun b ob hb q => (sb.2 b (fun z => hb (by simp [z]))).trans (hk b ob (fun z => hb (by simp [z])) (fun z => hb (by simp [z])) q)) hf (Nat.le_refl _) new
    refine ⟨.ref s.heap.objs.size, _, I1, rfl, ⟨_, x, rfl, I.hok.fresh (Nat.le_refl _), rfl, fun ys hy => by rw [I.tuple_inj hy hq]; exact hx⟩, ⟨⟨x', ?_⟩, hit'.at fun o q => (sb.2 it (Ne.symm hne)).trans q, hne⟩, fun b hb => ?_⟩
    · have e1 : ((i + 1 : Nat) : Int) = (i : Int) + 1 := by omega
      rw [e1]; exact he'
    · have hb' : b < s.heap.objs.size := by
        have e' : b = e ∨ b = it := by simpa using hb
        rcases e' with z | z
        · rw [z]; exact hel
        · rw [z]; exact hil
      rw [upd_ne (Nat.ne_of_lt hb')]
      exact (hf b hb).1
  done := by
    intro X hP hw hK hc i pins s σ H E I hf st hg
    subst hP hw hK
    obtain ⟨⟨old, he⟩, hit, hne⟩ := st
    obtain ⟨xs, hq, hx⟩ := hg
    obtain ⟨its, rv, p, hz⟩ := I.tuple hq
    have pt : s.heap.IsTuple a its.toArray := p
    obtain ⟨f0, f1, f2, f3, f4, f5⟩ := hf it (by simp)
    have hl := rv.length
    have ni : a ≠ it := tup_not_iter hit pt
    have hn : its.toArray[i]? = none := by simp; omega
    have hT : s.TypeIs (.ref e) "enumerate" := ⟨_, he, rfl⟩
    unfold pyNext
    refine wpAny_bind (wpAny_attempt (wpAny_callSpecial?_slot (name := Str.ofString "__next__") hT F.slot_enumerate_next
      (wpAny_call_entry F.slot_enumerate_next hT F.entry_enumerate_next ?_ (F.args_enumerate_next_1 _))))
    show wpAny _ _ (field (.ref e) 2 >>= _) _ _ _
    refine wpAny_bind (wpAny_field he rfl (x := .ref it) rfl ?_)
    refine wpAny_bind (wpAny_nextOf_tuple_end (show X.A.in1.handled = none from I.ok.hd hc) hit pt hn fun h' x he' hx' => ?_)
    obtain ⟨o, ho, hc⟩ := hx'
    refine wpAny_bind (wpAny_isInstance (T := "StopIteration") (b := true) ⟨o, ho, hc⟩ isSubtype_stop ?_)
    exact wpAny_pure ⟨rfl, I.turned (t' := s.toks) (fun b o hb q => he' b o hb q) f0 f1 f3 f4 f5⟩
  self := fun A i s Q E st h => let ⟨⟨_, he⟩, _⟩ := st; wpAny_pyIter_enum he h
def kEnum (K : PySem.W.Frag) (vs : List V) (R : It → Hp → Prop) (H1 : Hp) : Prop := ∃ a, vs = [.ref a] ∧ (((∃ xs, SqL K H1 a xs) ∧ R (Ite K a) H1) ∨ ((∃ xs, SqT K H1 a xs) ∧ R (Iteu K a) H1))
def iEnumU (K : PySem.W.Frag) (ta : TA) : TI := fun σ H R => ta σ H fun vs H1 => kEnum K vs R H1
theorem pi_enumU {X : Cx} {e : Expr} {ta : TA} {p pos tpos : Pos} {elts : List Expr} {kk : Nat} (hg : Gl X "enumerate") (hm : X.mg "enumerate" = none) (ha : PA X [e] ta) (hs : starEach [e] X.env = [(false, eval e X.env)] := by rfl) :
    PI X (.Tuple elts kk tpos) (.Call (.Name "enumerate" p) [e] [] pos) (iEnumU X.K ta) := by
  refine ⟨fun pins s σ H R I h => ?_⟩
  refine Call_ (ld_blt I hg hm boot_enumerate (PyProof.Rows.callWith_type1 (thn (ha.run pos pins s σ H _ I h) fun us s1 ⟨vs, H1, I1, r1, q1⟩ => ?_) hs rfl))
  obtain ⟨a, ex, q⟩ := q1
  subst ex
  cases r1 with
  | cons r rr =>
    cases rr
    cases r
    have fp : ∀ b ∈ [s1.heap.objs.size + 1, s1.heap.objs.size], FpOk X pins H1 b := fun b hb => by
      have e' : b = s1.heap.objs.size + 1 ∨ b = s1.heap.objs.size := by simpa using hb
      have hle : s1.heap.objs.size ≤ b := by
        rcases e' with z | z
        · rw [z]; exact Nat.le_add_right _ _
        · rw [z]; exact Nat.le_refl _
      exact I1.fpOk hle (I1.hok.fresh hle)
    rcases q with ⟨⟨xs, hq⟩, q⟩ | ⟨⟨xs, hq⟩, q⟩
    · obtain ⟨its, rv, p', hz⟩ := I1.list hq
      refine call_enumerate_list p'.isList fun h' he hit hsz hk => wpAny_pyIter_enum he ?_
      have I2 : Inv X pins σ H1 { s1 with heap := h' } := I1.kept (t' := s1.toks) hk
      exact ⟨s1.heap.objs.size + 1, [s1.heap.objs.size + 1, s1.heap.objs.size], _, _, H1, rfl, I2, turn_enum a (s1.heap.objs.size + 1) s1.heap.objs.size, ⟨⟨.none, he⟩, hit, Nat.succ_ne_self _⟩, fp, q⟩
    · obtain ⟨its, rv, p', hz⟩ := I1.tuple hq
      have pt : s1.heap.IsTuple a its.toArray := p'
      refine enum_new (begins_tuple a its.toArray) pt fun h' he ho hsz hk => wpAny_pyIter_enum he ?_
      have I2 : Inv X pins σ H1 { s1 with heap := h' } := I1.kept (t' := s1.toks) hk
      exact ⟨s1.heap.objs.size + 1, [s1.heap.objs.size + 1, s1.heap.objs.size], _, _, H1, rfl, I2, turn_enumT a (s1.heap.objs.size + 1) s1.heap.objs.size, ⟨⟨.none, he⟩, ⟨_, ho, rfl, rfl⟩, Nat.succ_ne_self _⟩, fp, q⟩
section
variable {σ : L2.St} {H : Hp} {K : PySem.W.Frag} {R : It → Hp → Prop} {g : TG} {tb : TS} {D : Ends} {ta : TA}
theorem i_enum (h : ta σ H fun vs H1 => kEnum K vs R H1) : iEnumU K ta σ H R := h
theorem i_eT {a : Addr} {xs : List V} (h : SqT K H a xs) (q : R (Iteu K a) H) : kEnum K [.ref a] R H := ⟨a, rfl, .inr ⟨⟨xs, h⟩, q⟩⟩
theorem i_eL {a : Addr} {xs : List V} (h : SqL K H a xs) (q : R (Ite K a) H) : kEnum K [.ref a] R H := ⟨a, rfl, .inl ⟨⟨xs, h⟩, q⟩⟩
theorem walk_enumT {a : Addr} {xs : List V} : Walk (Iteu K a) xs.length (fun H => SqT K H a xs) (YPair (fun i => some (.int (i : Nat))) (fun i => xs[i]?)) := by
  refine ⟨fun i _ hi q => ⟨xs, xs[i], q, by simp [hi]⟩, fun _ q => ⟨xs, q, Nat.le_refl _⟩, fun i H v H' _ q y => ?_⟩
  obtain ⟨T, x, h1, h2, h3, h4⟩ := y
  exact ⟨T, .int (i : Nat), x, h1, h2, h3, rfl, h4 xs q⟩
/-- for i, x in enumerate(a tuple): the pair is new -/
theorem k_forEU {a : Addr} {xs : List V} (Pv : Nat → L2.St → Hp → Prop) (h0 : Pv 0 σ H) (hl : ∀ i σ H, i ≤ xs.length → Pv i σ H → SqT K H a xs)
    (hs : ∀ i x T σ H H', xs[i]? = some x → Pv i σ H → H T = none → Ex H H' → H' T = some (.tup [.int (i : Nat), x]) → g (.ref T) σ H' fun σ2 H2 => tb { D with nx := Pv (i + 1), ct := Pv (i + 1), bk := D.nx } σ2 H2) (hd : ∀ σ H, Pv xs.length σ H → D.nx σ H) : kFor (Iteu K a) g tb D σ H :=
  for_it walk_enumT Pv h0 hl (fun i v σ H H' hi p y => by
    obtain ⟨T, x, z, h1, h2, h3, h4, h5⟩ := y
    subst h1 h3
    have e : V.int (i : Nat) = x := Option.some.inj h4
    subst e
    exact hs i z T σ H _ h5 p h2 (Ex.new h2) upd_same) hd
end
end Ls
end

section
set_option Elab.async false
set_option linter.all false
set_option maxRecDepth 100000
set_option maxHeartbeats 4000000
namespace Ls
open PySem PySem.Spec PyProof.Rows L2 SX
def kBody (Pv : Nat → L2.St → Hp → Prop) (m : Nat) (tb : TS) (D : Ends) (σ : L2.St) (H : Hp) : Prop := ∃ N : L2.St → Hp → Prop, (∀ σ' H', N σ' H' → ∃ m', m' < m ∧ Pv m' σ' H') ∧ tb { D with nx := N, ct := N, bk := D.nx } σ H
/-- sep.join(texts) -/
def rJoin (K : PySem.W.Frag) : V → List V → Hp → VK → Prop := fun x xs H Q => ∃ a p, ∃ ys : List Str, x = .str a ∧ xs = [.ref p] ∧ (SqL K H p (ys.map V.str) ∨ SqT K H p (ys.map V.str)) ∧ (ys.map (·.length)).sum + ys.length * a.length ≤ 16777216 ∧ Q (.str (Txt.join a ys)) H
theorem pe_joinU {X : Cx} {o e : Expr} {to te : TE} {apos pos : Pos} (ho : PE X o to) (he : PE X e te) (hs : starEach [e] X.env = [(false, eval e X.env)] := by rfl) (hbase : attributeBase o "join" X.env (eval o X.env) = eval o X.env := by rfl) (hline : (apos.endLine == pos.line) = true := by rfl) :
    PE X (.Call (.Attribute o "join" apos) [e] [] pos) (tM1 (rJoin X.K) to te) := pe_m1 F.slot_str_join F.type_str_join mt_join ho he hs hbase hline
section
variable {σ : L2.St} {H : Hp} {Q : VK} {K : PySem.W.Frag} {to te : TE} {D : Ends} {c : TT} {tb : TS} {t : TA} {v : V}
theorem r_m0 {r : V → List V → Hp → VK → Prop} (h : to σ H fun x H1 => (∃ a, x = .str a) ∧ r x [] H1 Q) : tM0 r to σ H Q := h
theorem r_m1 {r : V → List V → Hp → VK → Prop} (h : to σ H fun x H1 => (∃ a, x = .str a) ∧ te σ H1 fun y H2 => r x [y] H2 Q) : tM1 r to te σ H Q := h
theorem k_isS {z : Str} {A : Prop} (q : A) : (∃ a, V.str z = .str a) ∧ A := ⟨⟨z, rfl⟩, q⟩
theorem k_isL {p : Addr} {xs : List V} {A : Prop} (h : SqL K H p xs) (q : A) : tyV K "list" (.ref p) H ∧ A := ⟨.inl ⟨rfl, xs, h⟩, q⟩
theorem y_append {p : Addr} {xs : List V} (h : H p = some (.lst xs)) (hz : xs.length < sizeLine) (q : ∀ H', Em p H H' → H' p = some (.lst (xs ++ [v])) → Q .non H') : rAppend (.ref p) [v] H Q := ⟨p, xs, v, rfl, rfl, h, hz, q _ Em.put upd_same⟩
theorem y_join {a : Str} {p : Addr} {ys : List Str} (h : SqL K H p (ys.map V.str)) (hz : (ys.map (·.length)).sum + ys.length * a.length ≤ 16777216) (q : Q (.str (Txt.join a ys)) H) : rJoin K (.str a) [.ref p] H Q := ⟨a, p, ys, rfl, rfl, .inl h, hz, q⟩
/-- while, by a word with a measure -/
theorem k_while (Pv : Nat → L2.St → Hp → Prop) {m0 : Nat} (h0 : Pv m0 σ H) (hs : ∀ m σ H, Pv m σ H → c σ H fun b H1 => if b = true then kBody Pv m tb D σ H1 else D.nx σ H1) : tWhile c tb D σ H := ⟨Pv, ⟨m0, h0⟩, hs⟩
theorem k_body {Pv : Nat → L2.St → Hp → Prop} {m : Nat} (h : tb { D with nx := fun σ' H' => ∃ m', m' < m ∧ Pv m' σ' H', ct := fun σ' H' => ∃ m', m' < m ∧ Pv m' σ' H', bk := D.nx } σ H) : kBody Pv m tb D σ H := ⟨_, fun _ _ q => q, h⟩
theorem y_eqD {x y : V} {d e : PyData} (h1 : Dp K H x d) (h2 : Dp K H y e) (s1 : SeqAt.shaped d = true) (s2 : SeqAt.shaped e = true) (q : Q (.bl (PyData.eqv d e)) H) : rEqU K x y H Q := .inr (.inl ⟨d, e, h1, h2, s1, s2, q⟩)
theorem y_eqE {a b : Addr} {xs : List V} (h1 : SqL K H a xs) (h2 : SqL K H b []) (q : Q (.bl (decide (xs = []))) H) : rEqU K (.ref a) (.ref b) H Q := .inr (.inr ⟨a, b, xs, rfl, rfl, h1, h2, q⟩)
theorem y_neE {a b : Addr} {xs : List V} (h1 : SqL K H a xs) (h2 : SqL K H b []) (q : Q (.bl (!decide (xs = []))) H) : rNeU K (.ref a) (.ref b) H Q := .inr (.inr ⟨a, b, xs, rfl, rfl, h1, h2, q⟩)
theorem y_neD {x y : V} {d e : PyData} (h1 : Dp K H x d) (h2 : Dp K H y e) (s1 : SeqAt.shaped d = true) (s2 : SeqAt.shaped e = true) (q : Q (.bl (!PyData.eqv d e)) H) : rNeU K x y H Q := .inr (.inl ⟨d, e, h1, h2, s1, s2, q⟩)
theorem y_notInS {c : Nat} {z : Str} (q : Q (.bl (!decide (c ∈ z.cps.toList))) H) : rNotInU K (.str ⟨#[c]⟩) (.str z) H Q := .inr ⟨c, z, rfl, rfl, q⟩
/-- a slice of codes -/
theorem y_cut {l : List Nat} {i j : Int} {a b : Nat} (hz : l.length ≤ sizeLine) (ha : i = (a : Nat)) (hb : j = (b : Nat)) (q : Q (.str (S ((l.drop a).take (b - a)))) H) : rSlU K (.str (S l)) (some i) (some j) H Q := by
  subst ha hb
  refine .inr (.inr (y_slS (by rw [S_len]; exact hz) ?_))
  rw [cut_mid]
  exact q
theorem y_lenC {l : List Nat} (hz : l.length ≤ sizeLine) (q : Q (.int (l.length : Nat)) H) : rLen K [.str (S l)] H Q := y_lenS (by rw [S_len]; exact hz) (by rw [S_len]; exact q)
theorem y_ixC {l : List Nat} {i : Int} {c : Nat} (hz : l.length ≤ sizeLine) {a : Nat} (hi : i = (a : Nat)) (ha : l[a]? = some c) (q : Q (.str (S [c])) H) : rIx K (.str (S l)) (.int i) H Q := by
  subst hi
  exact y_ixS (by rw [S_len]; exact hz) (atI_nat ha) q
theorem y_inC {c : Nat} {l : List Nat} (q : Q (.bl (decide (c ∈ l))) H) : rInU K (.str (S [c])) (.str (S l)) H Q := y_inS q
theorem y_addC {a b : List Nat} (hz : a.length + b.length ≤ sizeLine) (q : Q (.str (S (a ++ b))) H) : rAddU K (.str (S a)) (.str (S b)) H Q := y_addS (by rw [S_len, S_len]; exact hz) (by rw [S_cat]; exact q)
theorem S_dec (a b : List Nat) : decide (S a = S b) = decide (a = b) := by
  by_cases h : a = b
  · rw [decide_eq_true h, h]; simp
  · rw [decide_eq_false h]; exact decide_eq_false fun z => h (S_inj z)
theorem y_eqC {a b : List Nat} (q : Q (.bl (decide (a = b))) H) : rEqU K (.str (S a)) (.str (S b)) H Q := y_eqS (by rw [S_dec]; exact q)
theorem y_neC {a b : List Nat} (q : Q (.bl (!decide (a = b))) H) : rNeU K (.str (S a)) (.str (S b)) H Q := y_neS (by rw [S_dec]; exact q)
/-- str(i), in codes -/
theorem y_strC {i : Int} (h : i.natAbs < DL) (q : Q (.str (S (intL i))) H) : rStrI [.int i] H Q := y_str h (by rw [show ((toString i : String) : Str) = S (intL i) from str_int i]; exact q)
theorem y_intC {l : List Nat} {n : Int} (h : PySem.intText? (S l) = some n) (hz : l.length ≤ sizeLine) (q : Q (.int n) H) : rIntU [.str (S l)] H Q := y_intS h (by rw [S_len]; exact hz) q
end
theorem iteNF {A B : Prop} (q : B) : if (!true) = true then A else B := by rw [if_neg (by decide)]; exact q
theorem iteNT {A B : Prop} (q : A) : if (!false) = true then A else B := by rw [if_pos (by decide)]; exact q
theorem ite_f {b : Bool} {A B : Prop} (h : b = false) (q : B) : if b = true then A else B := by rw [h, if_neg Bool.false_ne_true]; exact q
theorem ite_t {b : Bool} {A B : Prop} (h : b = true) (q : A) : if b = true then A else B := by rw [h, if_pos rfl]; exact q
theorem log2_of {n k : Nat} (hk : k ≠ 0) (h : n < 2 ^ k) : n.log2 < k := by
  by_cases z : n = 0
  · subst z
    rw [Nat.log2_zero]
    omega
  · exact (Nat.log2_lt z).mpr h
end Ls
end

section
set_option Elab.async false
set_option linter.all false
set_option maxRecDepth 100000
set_option maxHeartbeats 4000000
namespace Ls
open PySem PySem.Spec PyProof.Rows L2 SX
/-- a value of the package -/
def okV (n : Nat) (d : PyData) : Prop := smD d = true ∧ tdp d < n ∧ (isF d || isD d) = true
def sp_check (K : PySem.W.Frag) (n : Nat) : Sp := fun vs H Q _ => ∃ v d, vs = [v] ∧ Dt K H v d ∧ okV n d ∧ ∀ H', Ex H H' → Q .non H'
def sp_sizeof (K : PySem.W.Frag) (n : Nat) : Sp := fun vs H Q _ => ∃ v d, vs = [v] ∧ Dt K H v d ∧ okV n d ∧ ∀ H', Ex H H' → Q (.int (szD d)) H'
def sp_dtext (K : PySem.W.Frag) (n : Nat) : Sp := fun vs H Q _ => ∃ v d, vs = [v] ∧ Dt K H v d ∧ nsD d = true ∧ smD d = true ∧ szD d ≤ 1000 ∧ tdp d < n ∧ ∀ H', Ex H H' → Q (.str (S (txD d))) H'
def sp_format (K : PySem.W.Frag) (n : Nat) : Sp := fun vs H Q _ => ∃ v d, vs = [v] ∧ Dt K H v d ∧ okV n d ∧ ∀ H', Ex H H' → Q (.str (S (txD d))) H'
/-- what follows a number is no digit -/
def noDig (r : List Nat) : Prop := ∀ c, r.head? = some c → c < 48 ∨ 57 < c
def sp_rint : Sp := fun vs H Q _ => ∃ (p r : List Nat) (i : Int), vs = [.str (S (p ++ (intL i ++ r))), .int (p.length : Nat)] ∧ (p ++ (intL i ++ r)).length ≤ 10000 ∧ (intL i).length ≤ 4300 ∧ noDig r ∧
  ∀ q H', Ex H H' → H' q = some (.tup [.int i, .int ((p.length + (intL i).length : Nat) : Int)]) → Q (.ref q) H'
def sp_rdat (K : PySem.W.Frag) (n : Nat) : Sp := fun vs H Q _ => ∃ (p r : List Nat) (d : PyData) (k : Nat), vs = [.str (S (p ++ (txD d ++ r))), .int (p.length : Nat), .int (k : Nat)] ∧ (p ++ (txD d ++ r)).length ≤ 10000 ∧ smD d = true ∧ nsD d = true ∧ tdp d < n ∧ k + tdp d ≤ 4 ∧ noDig r ∧
  ∀ v q H', Ex H H' → Fl K H' v d → H' q = some (.tup [v, .int ((p.length + (txD d).length : Nat) : Int)]) → Q (.ref q) H'
def sp_rtup (K : PySem.W.Frag) (n : Nat) : Sp := fun vs H Q _ => ∃ (p r : List Nat) (ds : List PyData) (k : Nat), vs = [.str (S (p ++ (txD (.tuple ds) ++ r))), .int (p.length : Nat), .int (k : Nat)] ∧ (p ++ (txD (.tuple ds) ++ r)).length ≤ 10000 ∧ smL ds = true ∧ nsD (.tuple ds) = true ∧ tdpL ds < n ∧ k + tdpL ds ≤ 4 ∧
  ∀ v q H', Ex H H' → Fl K H' v (.tuple ds) → H' q = some (.tup [v, .int ((p.length + (txD (.tuple ds)).length : Nat) : Int)]) → Q (.ref q) H'
def sp_parse (K : PySem.W.Frag) (n : Nat) : Sp := fun vs H Q _ => ∃ d, vs = [.str (S (txD d))] ∧ okV n d ∧ ∀ v H', Ex H H' → Fl K H' v d → Q v H'
theorem q_minus : Str.ofString "-" = S [45] := by decide +kernel
theorem q_empty : Str.ofString "" = S [] := by decide +kernel
theorem q_zero : Str.ofString "0" = S [48] := by decide +kernel
theorem q_digits : Str.ofString "0123456789" = S [48, 49, 50, 51, 52, 53, 54, 55, 56, 57] := by decide +kernel
theorem q_comma : Str.ofString "," = S [44] := by decide +kernel
theorem q_open : Str.ofString "[" = S [91] := by decide +kernel
theorem q_close : Str.ofString "]" = S [93] := by decide +kernel
theorem q_fault : Str.ofString "fault" = S [102, 97, 117, 108, 116] := by decide +kernel
theorem isF_inv {d : PyData} (h : isF d = true) : d = .str (Str.ofString "fault") := by
  cases d with
  | str x =>
    have : decide (x = "fault") = true := h
    rw [of_decide_eq_true this]
  | _ => cases h
theorem isF_tx {d : PyData} (h : isF d = true) : txD d = [102, 97, 117, 108, 116] := by rw [isF_inv h]; rfl
theorem isF_sz {d : PyData} (h : isF d = true) : szD d = 1 := by rw [isF_inv h]; rfl
theorem isD_of {n : Nat} {d : PyData} (h : okV n d) (hf : isF d = false) : nsD d = true ∧ tdp d ≤ 4 ∧ szD d ≤ 1000 := by
  have z := h.2.2
  rw [hf, Bool.false_or] at z
  unfold isD at z
  simp only [Bool.and_eq_true, decide_eq_true_eq] at z
  exact ⟨z.1, by omega, z.2.2⟩
theorem txL_sum : ∀ {ds : List PyData}, nsL ds = true → (((ds.map txD).map (·.length)).sum : Nat) ≤ 3 * szL ds
  | [], _ => by rw [szL]; decide
  | d :: ds, h => by
    rw [nsL, Bool.and_eq_true] at h
    rw [szL, List.map_cons, List.map_cons, List.sum_cons]
    have := txD_len d h.1
    have := txL_sum h.2
    omega
theorem join_tx (ds : List PyData) : Txt.join (S [44]) (ds.map fun d => S (txD d)) = S (txL ds) := by
  have e := join_S [44] (ds.map txD)
  rw [List.map_map] at e
  rw [txL_join]
  exact e
theorem lens_tx (ds : List PyData) : (ds.map fun d => S (txD d)).map (·.length) = (ds.map txD).map (·.length) := by
  rw [← lens (ds.map txD), List.map_map, List.map_map, List.map_map]
  rfl
theorem Ex.lstN {H H1 H2 : Hp} {l : Addr} (e : Ex H H1) (n : H l = none) (m : Em l H1 H2) : Ex H H2 := fun a o h => m a o (ne_of_none h n) (e a o h)
theorem noDig_M (fs : List PyData) (r : List Nat) : noDig (txM fs ++ 93 :: r) := by
  intro c h
  cases fs with
  | nil =>
    rw [txM] at h
    have : 93 = c := by simpa using h
    omega
  | cons f fs =>
    rw [txM] at h
    have : 44 = c := by simpa using h
    omega
theorem one_M (fs : List PyData) (r : List Nat) : (txM fs ++ 93 :: r).take 1 = if fs = [] then [93] else [44] := by
  cases fs with
  | nil => rw [txM]; rfl
  | cons f fs => rw [txM]; rfl
theorem one_L (fs : List PyData) (r : List Nat) : decide ((txL fs ++ 93 :: r).take 1 = [93]) = decide (fs = []) := by
  cases fs with
  | nil => rw [txL]; rfl
  | cons f fs =>
    obtain ⟨c, t, e, h, _⟩ := txD_head f
    rw [txL, e]
    show decide ([c] = [93]) = _
    rw [decide_eq_false (by simpa using h), decide_eq_false (by simp)]
theorem Fl.dtx {K : PySem.W.Frag} {H : Hp} {v : V} {d : PyData} (h : Fl K H v d) : Dt K H v d := h.dt
end Ls
end

section
set_option Elab.async false
set_option linter.all false
set_option maxRecDepth 100000
set_option maxHeartbeats 4000000
namespace Ls
open PySem PySem.Spec PyProof.Rows L2 SX
mutual
def gdD : PyData → Bool
  | .int i => decide (i.natAbs < 10 ^ 62)
  | .tuple ds => decide (ds.length ≤ 60) && gdL ds
  | _ => false
def gdL : List PyData → Bool
  | [] => true
  | d :: ds => gdD d && gdL ds
end
mutual
def ftD : PyData → Bool
  | .int i => decide (szI i ≤ 1000)
  | .tuple ds => (decide (ds.length ≤ 40) && ftL ds) && (decide ((tdpL ds : Nat) ≤ 3) && decide (1 + szL ds ≤ 1000))
  | _ => false
def ftL : List PyData → Bool
  | [] => true
  | d :: ds => ftD d && ftL ds
end
theorem gdL_mem : ∀ {ds : List PyData}, gdL ds = true → ∀ {d : PyData}, d ∈ ds → gdD d = true
  | d' :: ds, h, d, hd => by
    rw [gdL, Bool.and_eq_true] at h
    rcases List.mem_cons.mp hd with rfl | hd
    · exact h.1
    · exact gdL_mem h.2 hd
theorem gdL_of : ∀ {ds : List PyData}, (∀ d, d ∈ ds → gdD d = true) → gdL ds = true
  | [], _ => rfl
  | d :: ds, h => by rw [gdL, h d List.mem_cons_self, gdL_of fun e he => h e (List.mem_cons_of_mem _ he)]; rfl
theorem tdpL_le {m : Nat} : ∀ {ds : List PyData}, (∀ d, d ∈ ds → tdp d ≤ m) → tdpL ds ≤ m
  | [], _ => Nat.zero_le _
  | d :: ds, h => by
    rw [tdpL]
    exact Nat.max_le.mpr ⟨h d List.mem_cons_self, tdpL_le fun e he => h e (List.mem_cons_of_mem _ he)⟩
theorem ftL_all : ∀ ds : List PyData, ftL ds = (ds.map ftD).all id
  | [] => rfl
  | d :: ds => by rw [ftL, ftL_all ds]; rfl
theorem gd_log {i : Int} (h : i.natAbs < 10 ^ 62) : i.natAbs < DL := DL_of h (by decide)
mutual
theorem gd_sm : ∀ d : PyData, gdD d = true → smD d = true
  | .int i, h => by
    rw [gdD, decide_eq_true_eq] at h
    rw [smD, decide_eq_true_eq]
    exact gd_log h
  | .tuple ds, h => by
    rw [gdD, Bool.and_eq_true] at h
    rw [smD]
    exact gdL_sm ds h.2
  | .none, h => by simp [gdD] at h
  | .bool _, h => by simp [gdD] at h
  | .str _, h => by simp [gdD] at h
  | .list _, h => by simp [gdD] at h
  | .dict _, h => by simp [gdD] at h
theorem gdL_sm : ∀ d : List PyData, gdL d = true → smL d = true
  | [], _ => rfl
  | d :: ds, h => by
    rw [gdL, Bool.and_eq_true] at h
    rw [smL, gd_sm d h.1, gdL_sm ds h.2]
    rfl
end
mutual
theorem gd_lay : ∀ d : PyData, gdD d = true → PyData.canLay0 d = true ∧ PyData.depth d = tdp d ∧ shW d = true
  | .int i, h => by
    rw [gdD, decide_eq_true_eq] at h
    refine ⟨rfl, rfl, ?_⟩
    rw [shW, decide_eq_true_eq]
    exact gd_log h
  | .tuple ds, h => by
    rw [gdD, Bool.and_eq_true] at h
    obtain ⟨a, b, c⟩ := gdL_lay ds h.2
    refine ⟨by rw [PyData.canLay0]; exact a, ?_, by rw [shW]; exact c⟩
    rw [PyData.depth, tdp, b]
    omega
  | .none, h => by simp [gdD] at h
  | .bool _, h => by simp [gdD] at h
  | .str _, h => by simp [gdD] at h
  | .list _, h => by simp [gdD] at h
  | .dict _, h => by simp [gdD] at h
theorem gdL_lay : ∀ d : List PyData, gdL d = true → PyData.canLayAll0 d = true ∧ PyData.depthAll d = tdpL d ∧ shWL d = true
  | [], _ => ⟨rfl, rfl, rfl⟩
  | d :: ds, h => by
    rw [gdL, Bool.and_eq_true] at h
    obtain ⟨a, b, c⟩ := gd_lay d h.1
    obtain ⟨a2, b2, c2⟩ := gdL_lay ds h.2
    refine ⟨by rw [PyData.canLayAll0, a, a2]; rfl, ?_, by rw [shWL, c, c2]; rfl⟩
    rw [PyData.depthAll, tdpL, b, b2]
end
mutual
theorem ft_ns : ∀ d : PyData, ftD d = true → nsD d = true
  | .int i, _ => rfl
  | .tuple ds, h => by
    rw [ftD] at h
    simp only [Bool.and_eq_true] at h
    rw [nsD, h.1.1, ftL_ns ds h.1.2]
    rfl
  | .none, h => by simp [ftD] at h
  | .bool _, h => by simp [ftD] at h
  | .str _, h => by simp [ftD] at h
  | .list _, h => by simp [ftD] at h
  | .dict _, h => by simp [ftD] at h
theorem ftL_ns : ∀ ds : List PyData, ftL ds = true → nsL ds = true
  | [], _ => rfl
  | d :: ds, h => by
    rw [ftL, Bool.and_eq_true] at h
    rw [nsL, ft_ns d h.1, ftL_ns ds h.2]
    rfl
end
theorem ft_is {d : PyData} (h : ftD d = true) : isD d = true := by
  have hn := ft_ns d h
  unfold isD
  rw [hn, Bool.true_and, Bool.and_eq_true, decide_eq_true_eq, decide_eq_true_eq]
  cases d with
  | int i =>
    rw [ftD, decide_eq_true_eq] at h
    exact ⟨(by decide : (0 : Int) ≤ 4), by rw [szD]; exact h⟩
  | tuple ds =>
    rw [ftD] at h
    simp only [Bool.and_eq_true, decide_eq_true_eq] at h
    exact ⟨by rw [tdp]; omega, by rw [szD]; exact h.2.2⟩
  | none => simp [ftD] at h
  | bool _ => simp [ftD] at h
  | str _ => simp [ftD] at h
  | list _ => simp [ftD] at h
  | dict _ => simp [ftD] at h
theorem len_app (x y : Str) : (x ++ y).length = x.length + y.length := by rw [TL.len_tl, TL.tl_append, List.length_append, ← TL.len_tl, ← TL.len_tl]
theorem join_len (sep : Str) : ∀ ts : List Str, (Str.join sep ts).length ≤ (ts.map (·.length)).sum + (ts.length - 1) * sep.length
  | [] => by
    rw [TL.len_tl, TL.tl_join]
    exact Nat.zero_le _
  | [t] => by
    rw [TL.len_tl, TL.tl_join]
    show (TL.tl t).length ≤ _
    rw [← TL.len_tl]
    simp
  | t :: u :: ts => by
    have ih := join_len sep (u :: ts)
    rw [TL.len_tl, TL.tl_join] at ih ⊢
    show (TL.tl t ++ (TL.tl sep ++ TL.joinL (TL.tl sep) ((u :: ts).map TL.tl))).length ≤ _
    rw [List.length_append, List.length_append, ← TL.len_tl, ← TL.len_tl]
    simp only [List.map_cons, List.sum_cons, List.length_cons, Nat.add_sub_cancel] at ih ⊢
    have : (ts.length + 1) * sep.length = ts.length * sep.length + sep.length := Nat.succ_mul _ _
    omega
theorem lit_open : (Str.ofString "(").length = 1 := by decide +kernel
theorem lit_close : (Str.ofString ")").length = 1 := by decide +kernel
theorem lit_close1 : (Str.ofString ",)").length = 2 := by decide +kernel
theorem lit_sep : (Str.ofString ", ").length = 2 := by decide +kernel
theorem lit_lo : (Str.ofString "[").length = 1 := by decide +kernel
theorem lit_lc : (Str.ofString "]").length = 1 := by decide +kernel
mutual
theorem shown_len : ∀ d : PyData, nsD d = true → ((PyData.shown d).length : Int) + 2 ≤ 4 * szD d
  | .int i, h => by
    have := szD_pos (.int i) h
    rw [szD] at this ⊢
    rw [PyData.shown_int, show ((toString i : String) : Str) = S (intL i) from str_int i, S_len, ← intL_len]
    omega
  | .tuple ds, h => by
    rw [nsD, Bool.and_eq_true] at h
    have ih := shownL_len ds h.2
    have hj := join_len (Str.ofString ", ") (PyData.shownAll ds)
    have hz := szL_nn ds h.2
    rw [lit_sep, PyData.shownAll_length] at hj
    rw [PyData.shown_tuple, len_app, len_app, szD, lit_open]
    by_cases h1 : ds.length = 1
    · rw [if_pos (by simpa using h1), lit_close1]
      omega
    · rw [if_neg (by simpa using h1), lit_close]
      by_cases h0 : ds.length = 0
      · omega
      · omega
  | .none, h => by simp [nsD] at h
  | .bool _, h => by simp [nsD] at h
  | .str _, h => by simp [nsD] at h
  | .list _, h => by simp [nsD] at h
  | .dict _, h => by simp [nsD] at h
theorem shownL_len : ∀ ds : List PyData, nsL ds = true → ((((PyData.shownAll ds).map (·.length)).sum : Nat) : Int) + 2 * ds.length ≤ 4 * szL ds
  | [], _ => by rw [PyData.shownAll_nil, szL]; decide
  | d :: ds, h => by
    rw [nsL, Bool.and_eq_true] at h
    have h1 := shown_len d h.1
    have h2 := shownL_len ds h.2
    rw [PyData.shownAll_cons, szL, List.map_cons, List.sum_cons, List.length_cons]
    omega
end
theorem fault_shown : (PyData.shown (.str (Str.ofString "fault"))).length ≤ 7 := by rw [PyData.shown_str]; decide +kernel
/-- what a law draws: FAULT, or data that fits -/
def drawn (d : PyData) : Bool := isF d || (gdD d && ftD d)
theorem drawn_ok {d : PyData} (h : drawn d = true) (n : Nat) (hn : 5 ≤ n) : okV n d := by
  unfold drawn at h
  cases hf : isF d with
  | true =>
    have e := isF_inv hf
    subst e
    exact ⟨rfl, (by omega : 0 < n), by rw [hf]; rfl⟩
  | false =>
    rw [hf, Bool.false_or, Bool.and_eq_true] at h
    have hd := ft_is h.2
    refine ⟨gd_sm d h.1, ?_, by rw [hd, Bool.or_true]⟩
    unfold isD at hd
    simp only [Bool.and_eq_true, decide_eq_true_eq] at hd
    omega
theorem drawn_repr {d : PyData} (h : drawn d = true) : shW d = true ∧ (PyData.shown d).length ≤ 4000 ∧ PyData.depth d ≤ 4 ∧ PyData.canLay0 d = true := by
  unfold drawn at h
  cases hf : isF d with
  | true =>
    have e := isF_inv hf
    subst e
    exact ⟨rfl, Nat.le_trans fault_shown (by decide), by rw [PyData.depth]; decide, by rw [PyData.canLay0]; decide +kernel⟩
  | false =>
    rw [hf, Bool.false_or, Bool.and_eq_true] at h
    have hd := ft_is h.2
    obtain ⟨a, b, c⟩ := gd_lay d h.1
    unfold isD at hd
    simp only [Bool.and_eq_true, decide_eq_true_eq] at hd
    have := shown_len d hd.1
    exact ⟨c, by omega, by omega, a⟩
def sp_ldatum (K : PySem.W.Frag) (n : Nat) : Sp := fun vs H Q _ => ∃ (p : Addr) (m : Nat), vs = [.ref p, .int (m : Nat)] ∧ Pt H p ∧ m < n ∧ ∀ v d H', Fl K H' v d → gdD d = true → tdp d ≤ m → Pt H' p → Em p H H' → Q v H'
def sp_lsize (K : PySem.W.Frag) (n : Nat) : Sp := fun vs H Q _ => ∃ v d, vs = [v] ∧ Fl K H v d ∧ (isF d || gdD d) = true ∧ tdp d < n ∧ tdp d ≤ 60 ∧ ∀ H', Ex H H' → Q (.int (szD d)) H'
def sp_ldeep (K : PySem.W.Frag) (n : Nat) : Sp := fun vs H Q _ => ∃ v d, vs = [v] ∧ Fl K H v d ∧ gdD d = true ∧ tdp d < n ∧ ∀ H', Ex H H' → Q (.int (tdp d : Nat)) H'
def sp_lfits (K : PySem.W.Frag) (n : Nat) : Sp := fun vs H Q _ => ∃ v d, vs = [v] ∧ Fl K H v d ∧ gdD d = true ∧ tdp d < n ∧ tdp d ≤ 60 ∧ ∀ H', Ex H H' → Q (.bl (ftD d)) H'
def sp_llong : Sp := fun vs H Q _ => ∃ (p : Addr) (k : Nat), vs = [.ref p, .int (k : Nat)] ∧ Pt H p ∧ 1 ≤ k ∧ k ≤ 61 ∧ ∀ (i : Int) H', i.natAbs < 10 ^ 61 → Pt H' p → Em p H H' → Q (.int i) H'
def sp_ldraw (K : PySem.W.Frag) : Sp := fun vs H Q _ => ∃ p : Addr, vs = [.ref p] ∧ Pt H p ∧ ∀ v d H', Fl K H' v d → (isF d || gdD d) = true → tdp d ≤ 4 → Pt H' p → Em p H H' → Q v H'
def sp_ltext (K : PySem.W.Frag) (n : Nat) : Sp := fun vs H Q _ => ∃ v d, vs = [v] ∧ Fl K H v d ∧ drawn d = true ∧ tdp d < n ∧ ∀ H', Ex H H' → Q (.str (S (txD d))) H'
def sp_lright : Sp := fun vs H Q _ => ∃ p : Addr, vs = [.ref p] ∧ Pt H p ∧ ∀ H', Pt H' p → Em p H H' → Q (.bl true) H'
section
variable {σ : L2.St} {H : Hp} {Q : VK} {K : PySem.W.Frag} {te : TE} {vs : List Nat}
/-- [f(x) for x in t], t a tuple of flat data -/
theorem k_lcFl {a : Addr} {xs : List V} {ds : List PyData} {i0 : Nat} (f : PyData → V) (hS : SqT K H a xs) (hD : FlAll K H xs ds) (hz : xs.length ≤ 99999)
    (hs : ∀ x d H1 (Q1 : VK), d ∈ ds → Ex H H1 → Fl K H1 x d → (∀ H2, Ex H1 H2 → Q1 (f d) H2) → te ((wipe σ vs).set i0 (some x)) H1 Q1)
    (hw : ∀ x, wipe ((wipe σ vs).set i0 (some x)) vs = wipe σ vs) (q : ∀ D H2, H D = none → Ex H H2 → H2 D = some (.lst (ds.map f)) → Q (.ref D) H2) : kLc (Itt K a) (gName i0) tYes te vs σ H Q := by
  refine k_lcT (xs := xs) (fun j ys H' => Ex H H' ∧ ys = (ds.take j).map f) (fun D n => ⟨Ex.new n, rfl⟩) (fun j ys H' _ p => p.1.st hS) (fun D j x ys H' n hx hj hl hHD p => ?_) hw fun D ys H' n hl hHD p => ?_
  · obtain ⟨e, rfl⟩ := p
    obtain ⟨d, hd, hf⟩ := hD.get hx
    refine hs x d H' _ (List.mem_of_getElem? hd) e (hf.mono e.et) fun H2 e2 => k_turn (e2 _ _ hHD) hl (by omega) ⟨Ex.putN (e.trans e2) n, ?_⟩
    rw [List.take_add_one, hd, List.map_append]
    rfl
  · obtain ⟨e, rfl⟩ := p
    refine q D H' n e ?_
    rw [hHD, hD.length, List.take_length]
end
end Ls
end

section
set_option Elab.async false
set_option linter.all false
set_option maxRecDepth 100000
set_option maxHeartbeats 4000000
namespace Ls
open PySem PySem.Spec PyProof.Rows L2 SX
/-- data that repr shows within bounds -/
structure Rp (d : PyData) : Prop where
  sh : shW d = true
  len : (PyData.shown d).length ≤ 40000
  dep : PyData.depth d ≤ 10
  lay : PyData.canLay0 d = true
theorem Rp.drawn {d : PyData} (h : drawn d = true) : Rp d := by
  obtain ⟨a, b, c, e⟩ := drawn_repr h
  exact ⟨a, by omega, by omega, e⟩
theorem Rp.int {i : Int} (h : i.natAbs < DL) : Rp (.int i) := by
  refine ⟨by rw [shW, decide_eq_true_eq]; exact h, ?_, by rw [PyData.depth]; exact Nat.zero_le _, by rw [PyData.canLay0]⟩
  rw [PyData.shown_int, show ((toString i : String) : Str) = S (intL i) from str_int i, S_len]
  have := int_digits h
  unfold intL
  split
  · rw [List.length_cons]; omega
  · omega
theorem Rp.bool (b : Bool) : Rp (.bool b) := ⟨rfl, by cases b <;> (rw [PyData.shown_bool]; decide +kernel), by rw [PyData.depth]; exact Nat.zero_le _, by rw [PyData.canLay0]⟩
theorem Rp.none : Rp .none := ⟨rfl, by rw [PyData.shown_none]; decide +kernel, by rw [PyData.depth]; exact Nat.zero_le _, by rw [PyData.canLay0]⟩
theorem Rp.str {l : List Nat} (hl : l.length ≤ 3999) (ha : ∀ c ∈ l, c < 128) : Rp (.str (S l)) := by
  refine ⟨rfl, ?_, by rw [PyData.depth]; exact Nat.zero_le _, ?_⟩
  · rw [PyData.shown_str]
    have := StrLaws.reprText_len (S l) (fun c hc => Nat.lt_trans (ha c hc) (by decide))
    have e := S_len l
    omega
  · rw [PyData.canLay0]
    show (S l).cps.all (· < 0x110000) = true
    rw [← Array.all_toList, List.all_eq_true]
    intro c hc
    exact decide_eq_true (Nat.lt_trans (ha c hc) (by decide))
theorem intL_ascii (i : Int) : ∀ c ∈ intL i, c < 128 := by
  intro c hc
  have h : ∀ c ∈ TL.numL i.natAbs, c < 128 := fun c hc => by
    have := TL.numL_digits i.natAbs c hc
    omega
  unfold intL at hc
  split at hc
  · rcases List.mem_cons.mp hc with rfl | hc
    · decide
    · exact h c hc
  · exact h c hc
mutual
theorem txD_ascii : ∀ (d : PyData), ∀ c ∈ txD d, c < 128
  | .int i, c, h => by rw [txD] at h; exact intL_ascii i c h
  | .tuple ds, c, h => by
    rw [txD] at h
    rcases List.mem_cons.mp h with rfl | h
    · decide
    · rcases List.mem_append.mp h with h | h
      · exact txL_ascii ds c h
      · have : c = 93 := by simpa using h
        omega
  | .none, c, h => fault_ascii c h
  | .bool _, c, h => fault_ascii c h
  | .str _, c, h => fault_ascii c h
  | .list _, c, h => fault_ascii c h
  | .dict _, c, h => fault_ascii c h
theorem txL_ascii : ∀ (ds : List PyData), ∀ c ∈ txL ds, c < 128
  | [], c, h => by rw [txL] at h; cases h
  | d :: ds, c, h => by
    rw [txL] at h
    rcases List.mem_append.mp h with h | h
    · exact txD_ascii d c h
    · exact txM_ascii ds c h
theorem txM_ascii : ∀ (ds : List PyData), ∀ c ∈ txM ds, c < 128
  | [], c, h => by rw [txM] at h; cases h
  | d :: ds, c, h => by
    rw [txM] at h
    rcases List.mem_cons.mp h with rfl | h
    · decide
    · rcases List.mem_append.mp h with h | h
      · exact txD_ascii d c h
      · exact txM_ascii ds c h
theorem fault_ascii : ∀ c ∈ [102, 97, 117, 108, 116], c < 128 := by decide
end
theorem drawn_len {d : PyData} (h : drawn d = true) : (txD d).length ≤ 2999 := by
  have ho := drawn_ok h 5 (Nat.le_refl _)
  cases hf : isF d with
  | true => rw [isF_tx hf]; decide
  | false =>
    obtain ⟨a, b, c⟩ := isD_of ho hf
    have := txD_len d a
    omega
theorem drawn_size {d : PyData} (h : drawn d = true) : 0 ≤ szD d ∧ szD d ≤ 1000 := by
  have ho := drawn_ok h 5 (Nat.le_refl _)
  cases hf : isF d with
  | true => rw [isF_sz hf]; decide
  | false =>
    obtain ⟨a, b, c⟩ := isD_of ho hf
    have := szD_pos d a
    omega
theorem Rp.text {d : PyData} (h : Ls.drawn d = true) : Rp (.str (S (txD d))) := .str (Nat.le_trans (drawn_len h) (by decide)) (txD_ascii d)
theorem Rp.size {d : PyData} (h : Ls.drawn d = true) : Rp (.int (szD d)) := by
  have := drawn_size h
  exact .int (DL_of (k := 4) (by omega) (by decide))
section
variable {H : Hp} {Q : VK} {K : PySem.W.Frag} {x y : V} {d e : PyData}
theorem y_rep (h : Fl K H x d) (r : Rp d) (q : Q (.str d.shown) H) : rRepr K [x] H Q :=
  y_reprP h.dp (PyData.hasDict_of_canLay d r.lay) r.sh (Nat.le_trans r.len (by decide)) (by have := r.dep; omega) q
/-- repr([x, y]) -/
theorem y_rep2 {p : Addr} (hp : H p = some (.lst [x, y])) (h : Fl K H x d) (h2 : Fl K H y e) (r : Rp d) (r2 : Rp e) (q : Q (.str (PyData.list [d, e]).shown) H) : rRepr K [.ref p] H Q := by
  refine y_reprP (.lst (.of hp) (.cons h.dp (.cons h2.dp .nil))) ?_ ?_ ?_ ?_ q
  · have a := PyData.hasDict_of_canLay d r.lay
    have b := PyData.hasDict_of_canLay e r2.lay
    simp [PyData.hasDict, PyData.hasDictAll, a, b]
  · simp [shW, shWL, r.sh, r2.sh]
  · rw [PyData.shown_list, len_app, len_app, lit_lo, lit_lc]
    have hj := join_len (Str.ofString ", ") (PyData.shownAll [d, e])
    rw [lit_sep, PyData.shownAll_length, PyData.shownAll_cons, PyData.shownAll_cons, PyData.shownAll_nil] at hj
    simp only [List.map_cons, List.map_nil, List.sum_cons, List.sum_nil, List.length_cons, List.length_nil] at hj
    have := r.len
    have := r2.len
    have h2 : sizeLine = 16777216 := rfl
    rw [PyData.shownAll_cons, PyData.shownAll_cons, PyData.shownAll_nil]
    omega
  · have := r.dep
    have := r2.dep
    simp only [PyData.depth, PyData.depthAll]
    omega
theorem rp_shaped {d : PyData} (r : Rp d) : SeqAt.shaped d = true := by
  unfold SeqAt.shaped
  rw [r.lay, Bool.true_and, decide_eq_true_eq]
  have := r.dep
  omega
theorem gd_shaped {d : PyData} (h : gdD d = true) (ht : tdp d ≤ 60) : SeqAt.shaped d = true := by
  obtain ⟨a, b, _⟩ := gd_lay d h
  unfold SeqAt.shaped
  rw [a, Bool.true_and, decide_eq_true_eq]
  omega
theorem fault_shaped : SeqAt.shaped (.str (Str.ofString "fault")) = true := by decide +kernel
/-- drawn data == "fault" -/
theorem y_eqFault (h : Fl K H x d) (hg : gdD d = true) (ht : tdp d ≤ 60) (q : Q (.bl false) H) : rEqU K x (.str (Str.ofString "fault")) H Q := by
  refine y_eqD h.dp (.str _) (gd_shaped hg ht) fault_shaped ?_
  cases d with
  | int i => exact q
  | tuple ds => exact q
  | none => simp [gdD] at hg
  | bool _ => simp [gdD] at hg
  | str _ => simp [gdD] at hg
  | list _ => simp [gdD] at hg
  | dict _ => simp [gdD] at hg
end
def isTup : PyData → Bool
  | .tuple _ => true
  | _ => false
def isInt : PyData → Bool
  | .int _ => true
  | _ => false
theorem y_isStr {K : PySem.W.Frag} {H : Hp} {Q : VK} {x : V} {d : PyData} (h : Fl K H x d) (hg : (isF d || gdD d) = true) (q : Q (.bl (isF d)) H) : rIsiU K [x, .ty "str"] H Q := by
  cases d with
  | str z =>
    have e : isF (.str z) = true := by simpa [gdD] using hg
    rw [e] at q
    exact y_isi h.dt (b := true) rfl q
  | int i => exact y_isi h.dt (b := false) rfl q
  | tuple ds => exact y_isi h.dt (b := false) rfl q
  | none => simp [gdD, isF] at hg
  | bool _ => simp [gdD, isF] at hg
  | list _ => simp [gdD, isF] at hg
  | dict _ => simp [gdD, isF] at hg
theorem y_isTup {K : PySem.W.Frag} {H : Hp} {Q : VK} {x : V} {d : PyData} (h : Fl K H x d) (hg : (isF d || gdD d) = true) (q : Q (.bl (isTup d)) H) : rIsiU K [x, .ty "tuple"] H Q := by
  cases d with
  | str z => exact y_isi h.dt (b := false) rfl q
  | int i => exact y_isi h.dt (b := false) rfl q
  | tuple ds => exact y_isi h.dt (b := true) rfl q
  | none => simp [gdD, isF] at hg
  | bool _ => simp [gdD, isF] at hg
  | list _ => simp [gdD, isF] at hg
  | dict _ => simp [gdD, isF] at hg
theorem isTup_inv {d : PyData} (h : isTup d = true) : ∃ ds, d = .tuple ds := by
  cases d with
  | tuple ds => exact ⟨ds, rfl⟩
  | _ => cases h
theorem Fl.tup_inv {K : PySem.W.Frag} {H : Hp} {v : V} {ds : List PyData} (h : Fl K H v (.tuple ds)) : ∃ a xs, v = .ref a ∧ SqT K H a xs ∧ FlAll K H xs ds := by
  cases h with | tup hS hA => exact ⟨_, _, rfl, hS, hA⟩
theorem drawn_w {d : PyData} (h : drawn d = true) : (isF d || gdD d) = true := by
  unfold drawn at h
  cases hf : isF d with
  | true => rfl
  | false =>
    rw [hf, Bool.false_or, Bool.and_eq_true] at h
    rw [h.1, Bool.or_true]
theorem drawn_dp {d : PyData} (h : drawn d = true) : tdp d ≤ 4 := by
  have ho := drawn_ok h 5 (Nat.le_refl _)
  have := ho.2.1
  omega
theorem drawn_mem {ds : List PyData} (h : drawn (.tuple ds) = true) {d : PyData} (hd : d ∈ ds) : drawn d = true := by
  unfold drawn at h ⊢
  have e : isF (.tuple ds) = false := rfl
  rw [e, Bool.false_or, Bool.and_eq_true, gdD, ftD] at h
  simp only [Bool.and_eq_true, decide_eq_true_eq] at h
  have h2 := h.2.1.2
  rw [ftL_all, List.all_eq_true] at h2
  have h3 : ftD d = true := h2 _ (List.mem_map.mpr ⟨d, hd, rfl⟩)
  rw [gdL_mem h.1.2 hd, h3, Bool.and_self, Bool.or_true]
theorem drawn_tup {ds : List PyData} (h : drawn (.tuple ds) = true) : ds.length ≤ 40 ∧ nsL ds = true ∧ 1 + szL ds ≤ 1000 := by
  unfold drawn at h
  have e : isF (.tuple ds) = false := rfl
  rw [e, Bool.false_or, Bool.and_eq_true, gdD, ftD] at h
  simp only [Bool.and_eq_true, decide_eq_true_eq] at h
  exact ⟨h.2.1.1, ftL_ns ds h.2.1.2, h.2.2.2⟩
/-- the greatest of 0 and some depths -/
theorem tdpL_max0 {ds : List PyData} {m : Int} (h1 : m ∈ (0 : Int) :: ds.map (fun d => (tdp d : Int))) (h2 : ∀ z, z ∈ (0 : Int) :: ds.map (fun d => (tdp d : Int)) → z ≤ m) : m = (tdpL ds : Int) := by
  by_cases e : ds = []
  · subst e
    have : m = 0 := by simpa using h1
    rw [this]; rfl
  · refine tdpL_max (fun z => absurd (List.map_eq_nil_iff.mp z) e) fun _ => ⟨?_, fun z hz => h2 z (List.mem_cons_of_mem _ hz)⟩
    rcases List.mem_cons.mp h1 with h | h
    · obtain ⟨d, hd⟩ := List.exists_mem_of_ne_nil ds e
      have h3 := h2 (tdp d : Int) (List.mem_cons_of_mem _ (List.mem_map.mpr ⟨d, hd, rfl⟩))
      have : (tdp d : Int) = m := by omega
      exact List.mem_map.mpr ⟨d, hd, this⟩
    · exact h
/-- the texts so far -/
theorem txL_snoc (es : List PyData) (d : PyData) : txL (es ++ [d]) = txL es ++ (if es = [] then [] else [44]) ++ txD d := by
  cases es with
  | nil => simp [txL, txM]
  | cons e es =>
    have key : ∀ l : List PyData, txM (l ++ [d]) = txM l ++ (44 :: txD d) := by
      intro l
      induction l with
      | nil => simp [txM]
      | cons a l ih => rw [List.cons_append, txM, ih, txM]; simp
    rw [List.cons_append, txL, key, txL, if_neg (List.cons_ne_nil _ _)]
    simp
section
variable {H : Hp} {Q : VK} {K : PySem.W.Frag}
theorem y_sliceL {p : Addr} {xs : List V} {lo hi : Option Int} (h : SqL K H p xs) (q : ∀ l H', H l = none → Ex H H' → H' l = some (.lst (cutV xs lo hi)) → Q (.ref l) H') : rSlU K (.ref p) lo hi H Q := .inl (y_slL h q)
theorem FlAll.cut {vs : List V} {ds : List PyData} (lo hi : Option Int) (h : FlAll K H vs ds) : ∃ es, FlAll K H (cutV vs lo hi) es ∧ ∀ d ∈ es, d ∈ ds := by
  refine ⟨_, (h.drop _).take _, fun d hd => List.mem_of_mem_drop (List.mem_of_mem_take hd)⟩
theorem FlAll.rep {v : V} {d : PyData} (h : Fl K H v d) : ∀ n : Nat, FlAll K H (List.replicate n [v]).flatten (List.replicate n d)
  | 0 => .nil
  | n + 1 => by
    rw [List.replicate_succ, List.replicate_succ, List.flatten_cons]
    exact .cons h (FlAll.rep h n)
end
end Ls
end

section
set_option Elab.async false
set_option linter.all false
set_option maxRecDepth 100000
set_option maxHeartbeats 4000000
namespace Ls
open PySem PySem.Spec PyProof.Rows L2
/-- an own exception class at C over a built-in one -/
structure Xc (K : PySem.W.Frag) (bmB : List Value) (newId : String) (C : Addr) : Prop where
  ii : PySem.W.excInitIn K C bmB newId = true
  ov : PySem.W.excOver K C bmB = true
  hd : PySem.W.hasDictIn K C = true
  sa : PySem.W.findIn K (.ref C) "__setattr__" = some (some (.builtin "object.__setattr__"))
  exC : PySem.W.subIn K (.ref C) (.type "BaseException") = some true
  tyC : PySem.W.typeIn K (.ref C) = some (.type "type")
  kC : PySem.W.keepIn K (.ref C) = true
/-- the built-in class that it stands over -/
structure Xb (bmB : List Value) (B newId initId : String) : Prop where
  F : ExcBaseFacts B newId initId bmB
  SF : StoreFacts B bmB "object.__setattr__" "object"
theorem xb_value : Xb [.type "ValueError", .type "Exception", .type "BaseException", .type "object"] "ValueError" "ValueError.__new__" "ValueError.__init__" := ⟨F.excBase_ValueError, F.store_ValueError⟩
theorem xb_lookup : Xb [.type "LookupError", .type "Exception", .type "BaseException", .type "object"] "LookupError" "LookupError.__new__" "LookupError.__init__" := ⟨F.excBase_LookupError, F.store_LookupError⟩
theorem xb_runtime : Xb [.type "RuntimeError", .type "Exception", .type "BaseException", .type "object"] "RuntimeError" "RuntimeError.__new__" "RuntimeError.__init__" := ⟨F.excBase_RuntimeError, F.store_RuntimeError⟩
theorem xb_arith : Xb [.type "ArithmeticError", .type "Exception", .type "BaseException", .type "object"] "ArithmeticError" "ArithmeticError.__new__" "ArithmeticError.__init__" := ⟨F.excBase_ArithmeticError, F.store_ArithmeticError⟩
section
open Builtin Builtin.ObjectAttr
variable {prog : Program} {w : World} {A : Around} {R : Result → Shared → Prop} {K : PySem.W.Frag} {bmB : List Value} {B newId initId : String} {hp : Heap} {g : Array GenState} {d : Drawn} {t : Nat} {os : OsState}
theorem cls_dict {C : Addr} (h : PySem.W.hasDictIn K C = true) : ∃ cd, PySem.W.clsIn K C = some cd ∧ cd.hasDict = true := by
  obtain ⟨cd, a, b⟩ := PySem.W.any_some h
  exact ⟨cd, a, b⟩
/-- object.__setattr__, the dict is made -/
theorem put_first {name : Str} {tk : Tok} {v : Value} {x C : Addr} {fv : Array Value} (T : Xc K bmB newId C) (b : Xb bmB B newId initId) (KX : K.In hp) (hx : hp.get? x = some { cls := .ref C, data := .fields fv }) (hno : PySem.W.takerIn K C name = some none)
    (hq : ∀ h' tk' dx, (∀ b o, b ≠ x → hp.get? b = some o → h'.get? b = some o) → hp.objs.size ≤ dx → dx ≠ x → h'.get? x = some { cls := .ref C, dict := some dx, data := .fields fv } →
      h'.Ns1 dx (fun y => if y = name then some v else none) → R (.ok (.ret .none)) ⟨h', g, d, tk', os⟩) :
    codeAny (model prog w) A (.call (.builtin "object.__setattr__") ⟨[.ref x, .str name tk, v], []⟩) R ⟨hp, g, d, t, os⟩ := by
  have far : x ≠ hp.objs.size := Nat.ne_of_lt (Heap.lt_size hx)
  refine PySem.W.osa_openX (s := ⟨hp, g, d, t, os⟩) (ox := { cls := .ref C, data := .fields fv }) (od := none) b.SF KX ⟨hx, rfl, rfl, trivial⟩ T.ov hno fun bb => ?_
  obtain ⟨cd, hcd, hh⟩ := cls_dict T.hd
  have LC : PySem.W.Looks (model prog w) hp (classData C) cd := PySem.W.looks_clsIn KX hcd
  obtain ⟨nm, bs, mro, ns, qn, hd, sn, sb, ab, col, del⟩ := cd
  dsimp only at hh
  subst hh
  dsimp only
  unfold storeInOwnDict ownDictForStores
  repeat (first | with_reducible refine HandSPX.store_in_new ?_ ?_ | with_reducible refine wpAny_loadPart_at hx ?_ | with_reducible refine LC.at ?_ | wp_step)
  · exact ⟨_, #[], _, (Heap.get?_update_ne _ _ _ _ far.symm).trans (Heap.get?_push_at rfl rfl), rfl, fun e he => absurd he (by simp), fun _ => rfl⟩
  · intro h' tk' hn' hs
    have hx1 : (hp.push { cls := .type "dict", data := .dict #[] }).get? x = some { cls := .ref C, data := .fields fv } := Heap.get?_push_of_some _ hx
    refine hq h' tk' hp.objs.size (fun c o hb ho => ?_) (Nat.le_refl _) far.symm ?_ hn'
    · have far2 : c ≠ hp.objs.size := Nat.ne_of_lt (Heap.lt_size ho)
      exact (hs.2 c far2).trans ((Heap.get?_update_ne _ _ _ _ hb).trans (Heap.get?_push_of_some _ ho))
    · exact (hs.2 x far).trans (Heap.get?_update_self _ hx1 rfl)
/-- .., the dict stands -/
theorem put_more {name : Str} {tk : Tok} {v : Value} {x C dx : Addr} {fv : Array Value} {m0 : Str → Option Value} {nl : List Str} (T : Xc K bmB newId C) (b : Xb bmB B newId initId) (KX : K.In hp) (hx : hp.get? x = some { cls := .ref C, dict := some dx, data := .fields fv })
    (hns : hp.Ns1 dx m0) (hw : Within m0 nl) (hz : nl.length ≤ 1000) (hno : PySem.W.takerIn K C name = some none)
    (hq : ∀ h' tk', (∀ b o, b ≠ dx → hp.get? b = some o → h'.get? b = some o) → h'.Ns1 dx (fun y => if y = name then some v else m0 y) → R (.ok (.ret .none)) ⟨h', g, d, tk', os⟩) :
    codeAny (model prog w) A (.call (.builtin "object.__setattr__") ⟨[.ref x, .str name tk, v], []⟩) R ⟨hp, g, d, t, os⟩ := by
  obtain ⟨oD, esD, epD, hoD, hdD, _⟩ := hns.count hw
  refine PySem.W.osa_openX (s := ⟨hp, g, d, t, os⟩) (ox := { cls := .ref C, dict := some dx, data := .fields fv }) (od := some oD) b.SF KX ⟨hx, rfl, rfl, hoD⟩ T.ov hno fun bb => ?_
  obtain ⟨cd, hcd, hh⟩ := cls_dict T.hd
  have LC : PySem.W.Looks (model prog w) hp (classData C) cd := PySem.W.looks_clsIn KX hcd
  obtain ⟨nm, bs, mro, ns, qn, hd, sn, sb, ab, col, del⟩ := cd
  dsimp only at hh
  subst hh
  dsimp only
  unfold storeInOwnDict ownDictForStores
  repeat (first | with_reducible refine OEX.store_in_old hns hw hz ?_ | with_reducible refine wpAny_loadPart_at hx ?_ | with_reducible refine LC.at ?_ | wp_step)
  intro h' tk' hn' hs
  exact hq h' tk' (fun c o hc ho => (hs.2 c hc).trans ho) hn'
end
section
variable {X : Cx} {pins : List (Addr × Obj)} {σ : L2.St} {H : Hp} {s : Shared} {a C dx : Addr} {f : Str} {y : V} {u : Value} {fs : List (Str × V)} {Q : Unit → Shared → Prop} {E : Value → Shared → Prop} {A : Around} {bmB : List Value} {B newId initId : String}
/-- an object told by the heap alone becomes another, a further one is laid -/
theorem inv_graft {φ : Heap → Prop} {h' : Heap} {t' : Nat} {o1 o2 : HO} (I : Inv X pins σ H s) (e : H a = some (.ext φ)) (k : ∀ c o, c ≠ a → s.heap.get? c = some o → h'.get? c = some o) (far : s.heap.objs.size ≤ dx) (ha : ∃ o, h'.get? a = some o)
    (x1 : ObjOk X.prog X.w (upd (upd H dx o1) a o2) h' dx o1) (x2 : ObjOk X.prog X.w (upd (upd H dx o1) a o2) h' a o2) : Inv X pins σ (upd (upd H dx o1) a o2) { s with heap := h', toks := t' } := by
  have free : H dx = none := I.hok.fresh far
  have below : ∀ {c : Addr} {o : Obj}, s.heap.get? c = some o → c ≠ dx := fun {c o} q => Nat.ne_of_lt (Nat.lt_of_lt_of_le (Heap.lt_size q) far)
  have un : ∀ {c : Addr}, H c = none → c ≠ a := fun {c} n z => by rw [z, e] at n; cases n
  have same : ∀ {c : Addr} {v : HO}, H c = some v → c ≠ a → upd (upd H dx o1) a o2 c = some v := fun {c v} q n => by rw [upd_ne n, upd_ne (ne_of_none q free)]; exact q
  have other : ∀ {c : Addr} {v : HO}, H c = some v → (∀ ψ, v ≠ .ext ψ) → c ≠ a := fun {c v} q n z => by
    rw [z, e] at q
    exact n φ (Option.some.inj q).symm
  refine I.un (t' := t') ⟨fun c o q n _ _ => k c o (un n) q, fun c o q n _ _ => ⟨o.slots, k c o (un n) q⟩, fun c o q n _ => ?_, fun c o q _ => ?_, fun c xs q => same q (other q fun _ => nofun), fun c o v q => same q (other q fun _ => nofun), fun c ps q => ⟨#[], ?_⟩⟩ fun c o q => ?_
  · rw [upd_ne (un n), upd_ne (below q)]
    exact n
  · by_cases z : c = a
    · rw [z]
      exact ha
    · exact ⟨o, k c o z q⟩
  · rw [same q (other q fun _ => nofun)]
    simp
  · by_cases z : c = a
    · subst z
      rw [upd_same] at q
      cases q
      exact x2
    rw [upd_ne z] at q
    by_cases z2 : c = dx
    · subst z2
      rw [upd_same] at q
      cases q
      exact x1
    rw [upd_ne z2] at q
    refine (I.hok c o q).stay (fun b v hb hv => k b v ?_ hv) (fun b hb => same hb (other hb fun _ => nofun)) fun b xs hb => same hb (other hb fun _ => nofun)
    rcases hb with hb | hb
    · rw [hb]
      exact z
    · exact other hb fun _ => nofun
theorem xput_new (T : Xc X.K bmB newId C) (b : Xb bmB B newId initId) (I : Inv X pins σ H s) (e : H a = some (exo a C none)) (hno : PySem.W.takerIn X.K C f = some none) (ry : RelV y u)
    (h : ∀ dx s', H dx = none → dx ≠ a → Inv X pins σ (upd (upd H dx (exd dx [(f, y)])) a (exo a C (some dx))) s' → Q () s') : wpAny (model X.prog X.w) A (setAttr (.ref a) f u) Q E s := by
  obtain ⟨t1, ho⟩ := exo_at I.hok e
  obtain ⟨hp, g, d, t, os⟩ := s
  refine PySem.W.set_plain I.kIn (ox := { cls := .ref C, dict := none, data := .fields #[.ref t1, .none, .none, .none, .bool false, .none] }) (od := none) ⟨ho, rfl, rfl, trivial⟩ T.sa ?_
  refine put_first T b I.kIn ho hno fun h' tk' dx k far ne hx hn => ?_
  exact h dx _ (I.hok.fresh far) ne (inv_graft I e k far ⟨_, hx⟩ (exd_ok hn (relO_put (fs := []) ry fun _ => True.intro)) (exo_ok hx))
theorem xput_more (T : Xc X.K bmB newId C) (b : Xb bmB B newId initId) (I : Inv X pins σ H s) (e : H a = some (exo a C (some dx))) (ed : H dx = some (exd dx fs)) (hl : fs.length ≤ 900) (hno : PySem.W.takerIn X.K C f = some none) (ry : RelV y u)
    (h : ∀ s', Inv X pins σ (upd H dx (exd dx ((f, y) :: fs))) s' → Q () s') : wpAny (model X.prog X.w) A (setAttr (.ref a) f u) Q E s := by
  obtain ⟨t1, ho⟩ := exo_at I.hok e
  obtain ⟨mA, hns, rel⟩ := exd_at I.hok ed
  have hw := within_of rel
  obtain ⟨hp, g, d, t, os⟩ := s
  obtain ⟨oD, _, _, hoD, _, _⟩ := hns.count hw
  refine PySem.W.set_plain I.kIn (ox := { cls := .ref C, dict := some dx, data := .fields #[.ref t1, .none, .none, .none, .bool false, .none] }) (od := some oD) ⟨ho, rfl, rfl, hoD⟩ T.sa ?_
  refine put_more T b I.kIn ho hns hw (by rw [List.length_map]; omega) hno fun h' tk' k hn => ?_
  have there : ∃ o, h'.get? dx = some o := let ⟨o, _, _, z, _⟩ := hn; ⟨o, z⟩
  refine h _ (I.write (t' := tk') (x := dx) (e := dx) (o := exd dx ((f, y) :: fs)) ?_ (.inl rfl) k there (exd_ok hn (relO_put ry rel)))
  rw [ed]
  exact True.intro
/-- the built-in __init__ of a made exception -/
theorem xinit {us : List Value} {Q : Value → Shared → Prop} (T : Xc X.K bmB newId C) (b : Xb bmB B newId initId) (I : Inv X pins σ H s) (e : H a = some (exo a C none)) (hl : us.length ≤ sizeLine) (h : ∀ s', Inv X pins σ H s' → Q .none s') :
    wpAny (model X.prog X.w) A (call (.builtin initId) (.ref a :: us)) Q E s := by
  obtain ⟨nm, N, qn, bs, bm, hdct, sn, sub, ab, col, dd, k0, k1, k2, k3, k5, hC, hT⟩ := PySem.W.excInit_of I.kIn T.ii
  obtain ⟨t1, ho⟩ := exo_at I.hok e
  obtain ⟨hp, g, d, t, os⟩ := s
  refine wpAny_call (HandSPX.init_base b.F hT hC ho hl fun h' t2 k hx => ?_)
  have J := I.write (t' := t) (x := a) (e := a) (o := exo a C none) (by rw [e]; exact True.intro) (.inl rfl) k ⟨_, hx⟩ (exo_ok hx)
  have back : upd H a (exo a C none) = H := funext fun c => by
    by_cases z : c = a
    · rw [z, upd_same, e]
    · exact upd_ne z
  rw [back] at J
  exact h _ J
end
/-- the base class's name, whose __init__ is the built-in one -/
structure Xn (K : PySem.W.Frag) (mg : Str → Option Value) (x : Str) (initId : String) (D : Addr) : Prop where
  m : mg x = some (.ref D)
  rd : PySem.W.readsIn K D (.type "type") = true
  fc : PySem.W.findCls K (.ref D) (.type "type") "__init__" = some (.val (.builtin initId))
  ga : PySem.W.specialIn K (.ref D) "__getattribute__" = some (some (.builtin "type.__getattribute__"))
def tXi (K : PySem.W.Frag) (bmB : List Value) (newId : String) (ta : TA) : TE := fun σ H Q => ta σ H fun vs H1 => ∃ (a C : Addr) (ws : List V), vs = .ref a :: ws ∧ ws.length ≤ 1000 ∧ Xc K bmB newId C ∧ H1 a = some (exo a C none) ∧ Q .non H1
def tXo (K : PySem.W.Frag) (bmB : List Value) (newId : String) (f : Str) (to te : TE) : TS := fun D σ H => te σ H fun y H1 => to σ H1 fun x H2 => ∃ a C : Addr, x = .ref a ∧ Xc K bmB newId C ∧ PySem.W.takerIn K C f = some none ∧
  ((H2 a = some (exo a C none) ∧ ∀ dx, H2 dx = none → dx ≠ a → D.nx σ (upd (upd H2 dx (exd dx [(f, y)])) a (exo a C (some dx)))) ∨
    ∃ (dx : Addr) (fs : List (Str × V)), H2 a = some (exo a C (some dx)) ∧ H2 dx = some (exd dx fs) ∧ fs.length ≤ 900 ∧ D.nx σ (upd H2 dx (exd dx ((f, y) :: fs))))
section
variable {X : Cx} {o e : Expr} {es : List Expr} {to te : TE} {ta : TA} {f x : Str} {p p' p1 p2 pos : Pos} {bmB : List Value} {B newId initId : String} {C D : Addr}
/-- B.__init__(self, ..) -/
theorem pe_xi {pl : Sem Bool} (b : Xb bmB B newId initId) (n : Xn X.K X.mg x initId D) (ha : PA X (e :: es) ta) (hh : PySem.W.handedIn (.builtin initId) = true) (hg : Gl X x := by rfl) (hdb : (x == ("__debug__" : Str)) = false := by decide)
    (hc : eval (.Call (.Attribute (.Name x p1) "__init__" p2) (e :: es) [] pos) X.env = (do
      let ov ← eval (.Name x p1) X.env
      standAt p2.atName
      let (m, first) ← holding [ov] (getMethod ov "__init__" pl)
      callWith pos m first (backTo pos (starEach (e :: es) X.env)) (backToKw pos (keywordEach [] X.env))) := by rfl)
    (hs : starEach (e :: es) X.env = (false, eval e X.env) :: starEach es X.env := by rfl) (hpl : (backTo pos (starEach es X.env)).any (·.1) = false := by rfl) :
    PE X (.Call (.Attribute (.Name x p1) "__init__" p2) (e :: es) [] pos) (tXi X.K bmB newId ta) := by
  refine ⟨fun pins s σ H Q I h => ?_⟩
  refine PySem.W.methodCall_KW (ld_glob I hg n.m ?_ hdb) hc
  refine PySem.W.method_cls I.kIn n.ga (PySem.W.cls_value I.kIn n.rd n.fc hh ?_)
  show wpAny _ _ (callWith pos (Value.builtin initId) [] (backTo pos (starEach (e :: es) X.env)) []) _ _ _
  refine PyProof.Rows.callWith_method1 (thn (ha.run pos pins _ σ H _ (I.tok _) h) fun us s1 ⟨vs, H1, I1, r1, a, C, ws, ev, hl, T, ea, q⟩ => ?_) hs hpl
  subst ev
  cases r1 with
  | @cons _ u0 _ ur ra rr =>
    cases ra
    exact xinit T b I1 ea (by rw [← Paired.length rr]; exact Nat.le_trans hl (by decide)) fun s' J => ⟨.non, H1, J, rfl, q⟩
/-- self.f = e -/
theorem ps_xo (b : Xb bmB B newId initId) (ho : PE X o to) (he : PE X e te) (hs : swapsWith e (some (.Attribute o f p')) pos.line X.env = pure false := by rfl) : PS X (.Assign [.Attribute o f p'] e pos) (tXo X.K bmB newId f to te) := by
  refine ⟨fun pins s σ H D I h => ?_⟩
  refine plainObj_wpAny_Assign_Attribute (thn (he.run pins s σ H _ I h) fun v s1 ⟨y, H1, I1, r1, q1⟩ => thn (ho.run pins s1 σ H1 _ I1 q1) fun u s2 ⟨x, H2, I2, r2, a, C, ex, T, hno, q⟩ => ?_) hs
  subst ex
  cases r2
  rcases q with ⟨ea, q⟩ | ⟨dx, fs, ea, ed, hl, q⟩
  · exact xput_new T b I2 ea hno r1 fun dx s' n ne J => ⟨σ, _, J, q dx n ne⟩
  · exact xput_more T b I2 ea ed hl hno r1 fun s' J => ⟨σ, _, J, q⟩
end
/-- the promise of an exception's __init__: its values become its fields fl -/
def sp_xini (C : Addr) (fl : List Str) : Sp := fun vs H Q _ => ∃ (a : Addr) (ws : List V), vs = .ref a :: ws ∧ ws.length = fl.length ∧ H a = some (exo a C none) ∧
  ∀ dx H', H dx = none → dx ≠ a → (∀ b, b ≠ a → b ≠ dx → H' b = H b) → H' a = some (exo a C (some dx)) → H' dx = some (exd dx (fl.zip ws).reverse) → Q .non H'
/-- a class of the module's own, whose objects may be raised -/
structure Xk (P : Program) (w : World) (K : PySem.W.Frag) (mg : Str → Option Value) (base : Heap) (k : Nat) (x : Str) (C : Addr) (fl : List Str) : Prop where
  ex : ∃ (bmB : List Value) (B newId initId : String) (fI : Addr) (fd : FuncData) (ps : List Str), Xb bmB B newId initId ∧ Xc K bmB newId C ∧ PySem.W.findIn K (.ref C) "__init__" = some (some (.ref fI)) ∧ PySem.W.typeIn K (.ref fI) = some (.type "function") ∧
    FnOk P w K mg base (L2.CX P w) k fI fd ps (sp_xini C fl) ∧ Binds K fd ps [] ∧ mg x = some (.ref C)
def tMkX (C : Addr) (fl : List Str) (ta : TA) : L2.St → Hp → XK → Prop := fun σ H Q => ta σ H fun vs H1 => vs.length = fl.length ∧ vs.length ≤ 1000 ∧ ∀ d H2, H1 d = none → (∀ b, b ≠ d → H2 b = H1 b) → H2 d = some (.xd (fl.zip vs).reverse) → Q (.ref C) (some d) H2
theorem pmk_x {X : Cx} {e : Expr} {es : List Expr} {ta : TA} {x : Str} {p pos : Pos} {C : Addr} {fl : List Str} {k j : Nat} (c : Xk X.prog X.w X.K X.mg X.base k x C fl) (hr : RoomG j X.A) (hk : k + 1 ≤ j) (ha : PA X (e :: es) ta) (hg : Gl X x := by rfl)
    (hdb : (x == ("__debug__" : Str)) = false := by decide) (hs : starEach (e :: es) X.env = (false, eval e X.env) :: starEach es X.env := by rfl) (hpl : (backTo pos (starEach es X.env)).any (·.1) = false := by rfl) :
    PMk X (.Call (.Name x p) (e :: es) [] pos) (tMkX C fl ta) := by
  intro pins s σ H Q I h
  obtain ⟨bmB, B, newId, initId, fI, fd, ps, b, T, iC, tI, F1, hb, hm⟩ := c.ex
  refine wpAny_Call_Name_kw (ld_glob I hg hm ?_ hdb)
  refine PySem.W.callWith_K (h₀ := X.base) I.ok.mod.kin T.kC (thn (ha.run pos pins s σ H _ I h) fun us s1 ⟨vs, H1, I1, r1, hz, hz2, q1⟩ => ⟨I1.kIn, ?_⟩) hs hpl
  show wpAny _ _ (call (.ref C) us) _ _ _
  obtain ⟨nm, N, qn, bs, bm, hdct, sn, sub, ab, col, dd, k0, k1, k2, k3, k5, hC, hT⟩ := PySem.W.excInit_of I1.kIn T.ii
  obtain ⟨hp, g, dr, tk, os⟩ := s1
  have next : hp.objs.size ≤ hp.objs.size + 1 := Nat.le_succ _
  have new : H1 (hp.objs.size + 1) = none := I1.hok.fresh next
  have keeps : ∀ c o, hp.get? c = some o → ((hp.push (PySem.W.kdv_tup us)).push (HandSPX.excO C hp.objs.size)).get? c = some o := fun c o z => Heap.get?_push_of_some _ (Heap.get?_push_of_some _ z)
  have there : ((hp.push (PySem.W.kdv_tup us)).push (HandSPX.excO C hp.objs.size)).get? (hp.objs.size + 1) = some (HandSPX.excO C hp.objs.size) := by heap_get
  have I2 := I1.laid (t' := tk) (a := hp.objs.size + 1) (o := exo (hp.objs.size + 1) C none) (h' := (hp.push (PySem.W.kdv_tup us)).push (HandSPX.excO C hp.objs.size)) keeps next (exo_ok there)
  have hsp : sp_xini C fl (.ref (hp.objs.size + 1) :: vs) (upd H1 (hp.objs.size + 1) (exo (hp.objs.size + 1) C none)) (fun v H2 => v = .non ∧ ∃ (d : Addr) (fs : List (Str × V)), H2 (hp.objs.size + 1) = some (exo (hp.objs.size + 1) C (some d)) ∧ H2 d = some (exd d fs) ∧ H1 d = none ∧ Q (.ref C) (some d) (upd (L2.del H2 (hp.objs.size + 1)) d (.xd fs))) (fun _ _ _ => False) := by
    refine ⟨_, vs, rfl, hz, upd_same, fun dx H' n1 n2 same ea ed => ⟨rfl, dx, _, ea, ed, ?_, ?_⟩⟩
    · rw [upd_ne n2] at n1
      exact n1
    · rw [upd_ne n2] at n1
      refine q1 dx _ n1 (fun c nc => ?_) upd_same
      rw [upd_ne nc]
      by_cases z : c = hp.objs.size + 1
      · rw [z, del_same, new]
      · rw [del_ne z, same c z nc, upd_ne z]
  have r2 : Vals (V.ref (hp.objs.size + 1) :: vs) (Value.ref (hp.objs.size + 1) :: us) := .cons rfl r1
  have hl : (Value.ref (hp.objs.size + 1) :: us).length = ps.length := by
    have z := F1.len _ _ _ _ hsp
    rw [r2.length] at z
    exact z
  have hus : us.length ≤ sizeLine := by rw [← Paired.length r1]; exact Nat.le_trans hz2 (by decide)
  have hbn := hb _ (Value.ref (hp.objs.size + 1) :: us) I2.kIn (by rw [List.append_nil]; exact hl)
  rw [List.append_nil] at hbn
  refine wpAny_call (HandSPX.call_own b.F hT hC (PySem.W.looks_findIn I1.kIn iC) (fun self => PySem.W.bind_fn I1.kIn self tI) hus
    (codeAny_mono (F1.run _ X.stack _ _ ⟨Value.ref (hp.objs.size + 1) :: us, []⟩ _ _ _ _ ((hr.mono hk).rm.make C us []) (I2.env0.make C us []) hbn r2 hsp) fun r s' hq' => ?_))
  cases r with
  | error er =>
    obtain ⟨_, _, _, _, _, _, _, _, _, _, _, _, z⟩ := hq'
    exact z.elim
  | ok fl' =>
    cases fl' with
    | ret u =>
      obtain ⟨v, H2, os2, bare2, un2, hok2, rv, ev, d, fs, ea, ed, hd1, q2⟩ := hq'
      subst ev
      obtain ⟨h2, g2, d2, t2, os'⟩ := s'
      exact ⟨rv, mk_end (raises_own T.exC T.tyC) I1 next keeps un2 hok2 os2 bare2 ea ed hd1 q2⟩
    | next => exact False.elim hq'
    | brk => exact False.elim hq'
    | cont => exact False.elim hq'
end Ls
end

section
set_option Elab.async false
set_option linter.all false
set_option maxRecDepth 100000
set_option maxHeartbeats 4000000
namespace Ls
open PySem PySem.Spec PyProof.Rows L2
open PySem.W in
/-- an exception's class, asked of itself -/
theorem exc_class {prog : Program} {w : World} {A : Around} {E : Value → Shared → Prop} {s : Shared} {K : PySem.W.Frag} {x D : Addr} {ox : Obj} {od : Option Obj} {Q : Option Value → Shared → Prop} (c : ExcC K D) (KX : K.In s.heap) (I : InstAt s.heap x ox D od) (h : Q (some (.ref D)) { s with toks := s.toks + 1 }) :
    wpAny (model prog w) A (getAttr? (.ref x) "__class__") Q E s := by
  have found : findObj K D od "__class__" = some (.bind (.builtin "getset_descriptor.__get__") (.builtin "object.__class__")) := by
    obtain ⟨cd, q, _⟩ := any_some c.hd
    unfold findObj
    rw [q, Option.bind_some, c.ha, Option.bind_some]
    simp [c.hn, c.ht]
  obtain ⟨hp, g, d, t, os⟩ := s
  have ofT := I.type (M := model prog w)
  have base : Looks (model prog w) hp (isInstance (.ref x) (.type "BaseException")) true := ofT.andThen (looks_subIn KX c.hs)
  have nob : (Value.builtin "BaseException.__getattribute__" == Value.builtin "object.__getattribute__") = false := by decide +kernel
  unfold getAttr? getAttrBy? getAttrBy
  refine wpAny_bind (wpAny_mkText (wpAny_bind (wpAny_attempt (wpAny_holding (wpAny_bind (ofT.at (wpAny_bind ((looks_findIn (M := model prog w) KX c.hg).at ?_))))))))
  show wpAny _ _ (if (onTheHeap (Value.ref D) && Value.builtin "BaseException.__getattribute__" == Value.builtin "object.__getattribute__") = true then _ else _) _ _ _
  rw [nob, Bool.and_false, if_neg Bool.false_ne_true]
  unfold getAttrByItsOwn hookBefore
  refine wpAny_bind ?_
  rw [if_pos (show onTheHeap (Value.ref D) = true from rfl)]
  refine (looks_findIn (M := model prog w) KX c.hk).at (wpAny_bind (wpAny_attempt (wpAny_holding ?_)))
  unfold callGetattribute
  rw [Bool.false_and, if_neg Bool.false_ne_true]
  unfold boundAndCalled
  rw [F.excAttr_ValueError.ga.bind (.ref x)]
  refine wpAny_bind (wpAny_pure ?_)
  show wpAny _ _ (call (.builtin "BaseException.__getattribute__") [.ref x, .str "__class__" t]) _ _ _
  refine wpAny_call (codeAny_call_builtin F.excAttr_ValueError.ga.plain F.entry_bexc_ga ?_)
  refine @check_slot (model prog w) _ _ ⟨hp, g, d, t + 1, os⟩ "BaseException.__getattribute__" "BaseException" "__getattribute__" (.ref x) [.str "__class__" t] [] _ (by decide +kernel) (by decide +kernel) base (F.args_bexc_ga (.ref x) (.str "__class__" t)) ?_
  unfold Builtin.«object.__getattribute__»
  refine wpAny_bind (wpAny_of_eq (a := ((Value.ref x : Value), [Value.str "__class__" t])) (by first | rfl | (simp only [slotArgs]; rfl)) ?_)
  refine wpAny_bind (wpAny_pure (wpAny_bind (ofT.at (wpAny_bind ((looks_find (M := model prog w) KX I found).at ?_)))))
  show wpAny _ _ (holding [Value.builtin "object.__class__"] (call (.builtin "getset_descriptor.__get__") [.builtin "object.__class__", .ref x, .ref D]) >>= ret) _ _ _
  refine wpAny_bind (wpAny_holding (wpAny_call (class_get (s := ⟨hp, g, d, t + 1, os⟩) (ox := ox) (od := od) KX I c.hm (wpAny_pure ?_))))
  show wpAny _ _ (handedOut (.ref D)) _ _ _
  rw [handedOut_of (v := .ref D) rfl]
  first
    | exact wpAny_pure (wpAny_pure h)
    | exact wpAny_pure h
    | exact wpAny_pure (wpAny_bind (wpAny_pure (wpAny_pure h)))
open PySem.W in
theorem kitx_exc {K : PySem.W.Frag} {x D : Addr} {ox : Obj} (c : ExcC K D) : KitX K (.ref x) (.ref D) (fun h => ∃ od, InstAt h x ox D od) where
  ty := fun _ _ _ ⟨_, I⟩ => I.type
  it := fun _ _ KX _ A' Q' E' s' k q => by
    obtain ⟨cd, hcd, _⟩ := any_some c.hd
    unfold clsIn at hcd
    split at hcd
    · rename_i ho
      unfold isType loadHead
      exact wpAny_bind (wpAny_loadPart (k _ _ (KX _ _ ho)) (wpAny_pure q))
    · cases hcd
  ne := fun h tp dd its n sl KX htp => by
    obtain ⟨cd, hcd, _⟩ := any_some c.hd
    cases z : (Value.ref D == .ref tp) with
    | false => rfl
    | true =>
      have e : D = tp := Value.ref.inj (beq_iff_eq.mp z)
      subst e
      unfold clsIn at hcd
      split at hcd
      · rename_i ho
        have z := (KX _ _ ho).symm.trans htp
        cases z
      · cases hcd
  ca := fun KX ⟨_, I⟩ k => exc_class c KX I k
/-- a class as a value -/
def clsV : V → Value
  | .ref a => .ref a
  | .ty T => .type T
  | _ => .none
def isCls : V → Bool
  | .ref _ => true
  | .ty _ => true
  | _ => false
theorem clsV_rel {c : V} {u : Value} (h : isCls c = true) (r : RelV c u) : u = clsV c := by
  cases c <;> first | exact r | cases h
theorem clsV_vals : ∀ {cs : List V} {us : List Value}, cs.all isCls = true → Vals cs us → us = cs.map clsV
  | [], _, _, r => by cases r; rfl
  | c :: cs, _, h, r => by
    cases r with
    | cons a b =>
      rw [List.all_cons, Bool.and_eq_true] at h
      rw [clsV_rel h.1 a, clsV_vals h.2 b]
      rfl
/-- an instance of D, asked of one class or of several -/
def isAsk (K : PySem.W.Frag) (D : Addr) (c : V) (H : Hp) (b : Bool) : Prop := (isCls c = true ∧ PySem.W.kitOne K (.ref D) (clsV c) = some b) ∨ ∃ tp cs, c = .ref tp ∧ SqT K H tp cs ∧ cs.all isCls = true ∧ PySem.W.kitAny K (.ref D) (cs.map clsV) = some b
/-- isinstance(e, c), e the exception that the suite holds -/
def rIsS (K : PySem.W.Frag) (a : Addr) (cls : Value) (d : Option Addr) : List V → Hp → VK → Prop := fun xs H Q => ∃ (c : V) (D dd : Addr) (fs : List (Str × V)) (b : Bool), xs = [.ref a, c] ∧ cls = .ref D ∧ d = some dd ∧ H dd = some (.xd fs) ∧ ExcC K D ∧ isAsk K D c H b ∧ Q (.bl b) H
theorem isinst_x {X : Cx} {pins : List (Addr × Obj)} {σ : L2.St} {H : Hp} {s : Shared} {Q : VK} {x D : Addr} {ox : Obj} {c : V} {u : Value} {b : Bool} (I : Inv X pins σ H s) (J : ∃ od, PySem.W.InstAt s.heap x ox D od) (T : ExcC X.K D) (rc : RelV c u) (ask : isAsk X.K D c H b) (q : Q (.bl b) H) :
    wpAny (model X.prog X.w) X.A (call (.builtin "isinstance") [.ref x, u]) (EP X pins σ Q) X.xe s := by
  have fin : ∀ tk, EP X pins σ Q (.bool b) { s with toks := tk } := fun tk => ⟨.bl b, H, I.kept (t' := tk) fun _ _ z => z, rfl, q⟩
  rcases ask with ⟨h1, h2⟩ | ⟨tp, cs, rfl, hS, hc, h2⟩
  · have e := clsV_rel h1 rc
    subst e
    exact PySem.W.kia_one (kitx_exc (ox := ox) T) I.kIn J h2 (fun z => nomatch z) fin
  · cases rc
    obtain ⟨its, rv, ⟨o, ho, hcl, n, hd⟩, _⟩ := I.tuple hS
    have e := clsV_vals hc rv
    subst e
    obtain ⟨oc, od, dt, sl⟩ := o
    dsimp only at hcl hd
    subst hcl hd
    exact PySem.W.kia_tup (kitx_exc (ox := ox) T) I.kIn J ho h2 (fun z => nomatch z) fin
theorem call_isS {X : Cx} {a : Addr} {oe : Obj} {cls : Value} {d : Option Addr} {pn : List (Addr × Obj)} (hz : Zc cls d oe) (hf : ∃ vs, oe.data = .fields vs) : CallR (X.suite a ((a, oe) :: pn)) (.builtin "isinstance") (rIsS X.K a cls d) := by
  intro pins s σ H xs us Q I r h
  obtain ⟨c, D, dd, fs, b, rfl, rfl, rfl, hx, T, ask, q⟩ := h
  cases r with
  | cons rx rr =>
    cases rr with
    | cons rc rr =>
      cases rr
      cases rx
      obtain ⟨hget, _⟩ := I.pin (a, oe) (List.mem_append_left _ List.mem_cons_self)
      obtain ⟨vs, hv⟩ := hf
      obtain ⟨mA, ⟨od, es, ep, ho, _⟩, _⟩ := (show ObjOk X.prog X.w H s.heap dd (.xd fs) from I.hok dd _ hx)
      refine isinst_x (ox := oe) I ⟨some od, hget, hz.1, ?_, ?_⟩ T rc ask q
      · unfold PySem.W.notCls
        rw [hv]
      · rw [hz.2]
        exact ho
end Ls
end

section
set_option Elab.async false
set_option linter.all false
set_option maxRecDepth 100000
set_option maxHeartbeats 4000000
namespace Ls
open PySem PySem.Spec PyProof.Rows L2 LamX
theorem RoomG.deeper {k : Nat} {A : Around} (r : RoomG (k + 1) A) (e : Env) : RoomG k (A.deeper e) := ⟨r.rm.deeper e, r.gd⟩
section
variable {X : Cx} {pins : List (Addr × Obj)} {σ : L2.St} {H : Hp} {s : Shared}
/-- a(), a the lambda f, in the def that got it -/
theorem pe_actG {Eg : XK} {Ng : List Str} {qg : Str} {sg : Scope} {g f c' : Addr} {cdg pm ctv : Value} {params : Arguments} {body : Expr} {scope : Scope} {k i : Nat} {a : Str} {pn : List (Addr × Obj)} {xe : Value → Shared → Prop} {W : WX} {E : XK} {tb : TE} {p1 p2 : Pos}
    (I : Inv X pins σ H s) (L : LamS X.env.scope scope) (of : s.heap.get? f = some (PySem.W.kla_obj "<lambda>" (X.env.qual ++ "<lambda>") params body scope (cloFrom X.env.cells scope.names []) pm c' ctv)) (nf : H f = none) (nfr : f ∉ frs X.stack)
    (bnd : bindArgs (PySem.W.kla_fn "<lambda>" (X.env.qual ++ "<lambda>") params body scope (cloFrom X.env.cells scope.names []) pm (.ref c') ctv) ⟨[], []⟩ = pure [])
    (tk : Takes ((cxOf (L2.CX X.prog X.w) X.prog X.w X.K X.mg X.base Ng qg sg g cdg X.A X.stack s H Eg).tr pn xe) W) (hr : RoomG (k + 1) (X.A.deeper (envOfC qg sg s.heap.objs.size g cdg)))
    (hb : ∀ (A : Around) (outer : List Env) (s : Shared) (H : Hp), RoomG k (A.deeper (lamEnv X scope s.heap.objs.size f c')) → PE (lamCx X A outer s H E scope f c') body tb)
    (hN : Ng[i]? = some a) (hv : Vis sg a) (hd : (a == ("__debug__" : Str)) = false := by decide) (hcd : (a == ("__classdict__" : Str)) = false := by decide) :
    PE ((cxOf (L2.CX X.prog X.w) X.prog X.w X.K X.mg X.base Ng qg sg g cdg X.A X.stack s H Eg).tr pn xe) (.Call (.Name a p1) [] [] p2)
      (fun σ1 H1 Q => (∀ cls d H', E cls d H' → W cls d σ1 H') ∧ σ1[i]? = some (some (.ref f)) ∧ H1 c' = some (CodeO c' (X.env.qual ++ "<lambda>")) ∧ tb σ H1 Q) := by
  refine ⟨fun pins1 s1 σ1 H1 Q I1 ⟨hW, hs, hc, ht⟩ => ?_⟩
  refine wpAny_Call_Name_kw (thn ((pe_var (pos := p1) (i := i) hN hv hd hcd).run pins1 s1 σ1 H1 (fun v H2 => v = .ref f ∧ H2 = H1) I1 ⟨.ref f, hs, rfl, rfl⟩) fun u s2 ⟨v, H2, I2, r2, ev, eH⟩ => ?_)
  subst ev eH
  cases r2
  have stands : s2.heap.get? f = some (PySem.W.kla_obj "<lambda>" (X.env.qual ++ "<lambda>") params body scope (cloFrom X.env.cells scope.names []) pm c' ctv) := I2.base.keep f _ of nf nfr nofun
  refine PySem.W.callWith_F0 ⟨_, _, _, _, stands⟩ (wpAny_call (codeAny_mono (R := CR (L2.CX X.prog X.w) (envOfC qg sg s.heap.objs.size g cdg :: X.stack) X.prog X.w H2 s2 Q E) ?_ fun r s' hq => ?_))
  · obtain ⟨⟨oc, vs, t, hoc, hdc, hvc⟩, _, _⟩ := I2.hok c' _ hc
    refine PySem.W.kla_callFunE hr.rm.depth stands rfl L.co L.gen rfl ⟨c', oc, vs, t, rfl, hoc, hdc, hvc⟩ ?_
    rw [show ([] : List Value) ++ [] = [] from rfl, bnd]
    refine wpAny_pure (wpAny_newFunctionEnv (fun y hy => (L.own y hy).2) (fun y hy => nomatch hy) (fun h1 hns hsb => ⟨I2.nolimit.fresh _ hsb, ?_⟩) L.kind)
    have keeps : ∀ b o, s2.heap.get? b = some o → h1.get? b = some o := fun b o z => hsb.extBut b o (Nat.ne_of_lt (Heap.lt_size z)) (Heap.get?_push_of_some _ z)
    have J := lam_start2 (E := E) (f := f) (c' := c') (tk := s2.toks + ([] : List (Str × Value)).length) I L I2.env0 hr.rm.hd I2.base hns keeps
    show codeAny _ _ (.expr body (lamEnv X scope s2.heap.objs.size f c')) _ _
    refine PySem.W.kla_codeExpr (wpAny_mono ((hb _ _ s2 H2 (hr.deeper _)).run [] _ _ H2 Q J ht) (fun v s' ⟨x, H', J', rv, q⟩ => ?_) fun _ _ z => z)
    exact ⟨x, H', J'.os, J'.bare, J'.base, J'.hok, rv, q⟩
  · cases r with
    | error e => exact tk e s' (XE.of_call I2 (fun cls d H' z => hW cls d H' z) hq)
    | ok fl =>
      cases fl with
      | ret u => exact I2.after hq
      | next => exact False.elim hq
      | brk => exact False.elim hq
      | cont => exact False.elim hq
end
/-- what a def that calls its one argument makes of a lambda's reading -/
def Giv (P : Program) (w : World) (K : PySem.W.Frag) (mg : Str → Option Value) (base : Heap) (k : Nat) (x : Str) (st : Stmt) (a : Str) (Ng : List Str) (TT : (XK → Hp → VK → Prop) → Hp → VK → Prop) : Prop :=
  ∀ (g : Addr) (cdv : Value) (A : Around) (outer : List Env) (s : Shared) (H : Hp) (Q : VK) (f c' : Addr) (q : Str) (tl : XK → Hp → VK → Prop), RoomG k (A.deeper (envOfC x (defScope st) s.heap.objs.size g cdv)) →
    (∀ (W : WX) (pn : List (Addr × Obj)) (xe : Value → Shared → Prop) (E : XK) (p1 p2 : Pos), Takes ((cxOf (L2.CX P w) P w K mg base Ng x (defScope st) g cdv A outer s H E0).tr pn xe) W →
      PE ((cxOf (L2.CX P w) P w K mg base Ng x (defScope st) g cdv A outer s H E0).tr pn xe) (.Call (.Name a p1) [] [] p2) (fun σ1 H1 Q => (∀ cls d H', E cls d H' → W cls d σ1 H') ∧ σ1[0]? = some (some (.ref f)) ∧ H1 c' = some (CodeO c' q) ∧ tl E H1 Q)) →
    H c' = some (CodeO c' q) → TT tl H Q →
    ∃ t, PSs (cxOf (L2.CX P w) P w K mg base Ng x (defScope st) g cdv A outer s H E0) (defBody st) t ∧ t { nx := fun _ H' => Q .non H', rt := Q } (L2.start Ng [.ref f]) H
/-- x(lambda: body) -/
theorem pe_lamG {X : Cx} {T : List (Addr × Str)} {TT : (XK → Hp → VK → Prop) → Hp → VK → Prop} {x a : Str} {st : Stmt} {c P : Addr} {k : Nat} {Ng : List Str} {params : Arguments} {body : Expr} {scope : Scope} {t : XK → TE} {p lpos pos : Pos}
    (D : Df X.K X.mg x st [a]) (S : FnScope Ng [a] (defScope st)) (G : Giv X.prog X.w X.K X.mg X.base (k + 1) x st a Ng TT) (TB : TabB X.base X.mg c P) (hcode : X.env.code = .ref c) (hmT : (P, X.env.qual ++ "<lambda>") ∈ T) (hu : ∀ p ∈ T, p.1 = P → p.2 = X.env.qual ++ "<lambda>") (hr : RoomG (k + 2) X.A)
    (L : LamS X.env.scope scope) (hb : ∀ (A : Around) (outer : List Env) (s : Shared) (H : Hp) (E : XK) (f c' : Addr), RoomG k (A.deeper (lamEnv X scope s.heap.objs.size f c')) → PE (lamCx X A outer s H E scope f c') body (t E))
    (hNg : Ng[0]? = some a := by rfl) (hva : Vis (defScope st) a := by exact .inl rfl) (hdef : defaultsOf params X.env = ([], []) := by rfl)
    (hbind : ∀ (q : Str) (cl : List (Str × Addr)) (pm cv ctv : Value), bindArgs (PySem.W.kla_fn "<lambda>" q params body scope cl pm cv ctv) ⟨[], []⟩ = pure [] := by intros; rfl)
    (hg : Gl X x := by rfl) (hdb : (x == ("__debug__" : Str)) = false := by decide) (hd : (a == ("__debug__" : Str)) = false := by decide) (hcd : (a == ("__classdict__" : Str)) = false := by decide) :
    PE X (.Call (.Name x p) [.Lambda params body scope lpos] [] pos) (tLam T TT t) := by
  obtain ⟨g, fd, F, hm, bnd⟩ := D.ex
  obtain ⟨oc, od, kV, doc, pm, an, cdv, ct, osl, rfl, lk, hcg⟩ := F.ex
  refine ⟨fun pins s σ H Q I ⟨hT, h⟩ => ?_⟩
  refine wpAny_Call_Name_kw (ld_glob I hg hm ?_ hdb)
  refine PySem.W.callWith_K (h₀ := X.base) I.ok.mod.kin F.kp ?_ (by rfl) (by rfl)
  show wpAny _ _ (spliced ((false, eval (.Lambda params body scope lpos) X.env) :: backTo pos (starEach [] X.env))) _ _ s
  refine Calls.spliced_cons (lam_make2 I TB hcode hmT hu hT hdef (L.has I.ok) fun f c' pm' ctv H1 s' I1 eN T1 hf hfn hfr hco => Calls.spliced_nil ⟨I1.kIn, ?_⟩)
  refine wpAny_call (codeAny_mono (R := CR (L2.CX X.prog X.w) X.stack X.prog X.w H1 s' Q E0) ?_ fun r s2 hq => ?_)
  · refine run_ofS (N := Ng) (ps := [a]) (us := [.ref f]) (vs := [.ref f]) lk hcg S hr.rm I1.env0 (.of_eq (bnd [.ref f] rfl)) (.cons rfl .nil) rfl fun hr' => ?_
    refine G g cdv X.A X.stack s' H1 Q f c' _ (fun E H' Q' => t E σ H' Q') ⟨hr', hr.gd⟩ (fun W pn xe E p1 p2 tk => ?_) hco (h H1 eN T1)
    exact pe_actG (i := 0) I1 L hf hfn hfr (hbind _ _ _ _ _) tk ⟨hr', hr.gd⟩ (fun A outer s H hr2 => hb A outer s H E f c' hr2) hNg hva hd hcd
  · cases r with
    | error e =>
      obtain ⟨_, _, _, _, _, _, _, _, _, _, _, _, z⟩ := hq
      exact z.elim
    | ok fl =>
      cases fl with
      | ret u => exact I1.after hq
      | next => exact False.elim hq
      | brk => exact False.elim hq
      | cont => exact False.elim hq
end Ls
end

section
set_option Elab.async false
set_option linter.all false
set_option maxRecDepth 100000
set_option maxHeartbeats 4000000
namespace Ls
open PySem PySem.Spec PyProof.Rows L2 LamX
/-- a module's def, its code object, that one's table -/
def fA (mg : Str → Option Value) (x : Str) : Addr := match mg x with | some (.ref a) => a | _ => 0
def kA (K : PySem.W.Frag) (mg : Str → Option Value) (x : Str) : Addr := match K.lookup (fA mg x) with | some ⟨_, _, .func fd, _⟩ => (match fd.code with | .ref c => c | _ => 0) | _ => 0
def pA (K : PySem.W.Frag) (mg : Str → Option Value) (x : Str) : Addr := match K.lookup (kA K mg x) with | some ⟨_, _, .fields vs, _⟩ => (match (vs[11]? : Option Value) with | some (Value.ref P) => P | _ => 0) | _ => 0
structure Tb (K : PySem.W.Frag) (mg : Str → Option Value) (x : Str) : Prop where
  m : mg x = some (.ref (fA mg x))
  ex : ∃ (oc : Value) (od : Option Addr) (fd : FuncData) (sl : Array (Option Value)) (e : Value) (dd : Option Addr) (vs : Array Value) (sl2 : Array (Option Value)), K.lookup (fA mg x) = some ⟨oc, od, .func fd, sl⟩ ∧ fd.code = .ref (kA K mg x) ∧
    K.lookup (kA K mg x) = some ⟨e, dd, .fields vs, sl2⟩ ∧ vs[11]? = some (.ref (pA K mg x))
  nP : K.lookup (pA K mg x) = none
theorem tb_mk {K : PySem.W.Frag} {mg : Str → Option Value} {x : Str} {f c P : Addr} {oc e : Value} {od dd : Option Addr} {fd : FuncData} {sl sl2 : Array (Option Value)} {vs : Array Value} (m : mg x = some (.ref f)) (l : K.lookup f = some ⟨oc, od, .func fd, sl⟩) (hc : fd.code = .ref c)
    (lc : K.lookup c = some ⟨e, dd, .fields vs, sl2⟩) (hv : vs[11]? = some (.ref P)) (n : K.lookup P = none) : Tb K mg x := by
  have e1 : fA mg x = f := by unfold fA; rw [m]
  have e2 : kA K mg x = c := by unfold kA; rw [e1, l]; dsimp only; rw [hc]
  have e3 : pA K mg x = P := by unfold pA; rw [e2, lc]; dsimp only; rw [hv]
  exact ⟨by rw [e1]; exact m, ⟨oc, od, fd, sl, e, dd, vs, sl2, by rw [e1]; exact l, by rw [e2]; exact hc, by rw [e2]; exact lc, by rw [e3]; exact hv⟩, by rw [e3]; exact n⟩
/-- what the tracked heap holds at the start -/
noncomputable def scrT (K : PySem.W.Frag) (a : Addr) (vs : List Value) (ns : List Int) (ts : List Addr) : Hp := fun b => if b ∈ ts then some (.tbl #[]) else scrH K a vs ns b
section
variable {K : PySem.W.Frag} {a b : Addr} {vs : List Value} {ns : List Int} {ts : List Addr} {u : HO}
theorem scrT_in (h : b ∈ ts) : scrT K a vs ns ts b = some (.tbl #[]) := if_pos h
theorem scrT_out (h : b ∉ ts) : scrT K a vs ns ts b = scrH K a vs ns b := if_neg h
end
theorem law_gT {P : Program} {w : World} {K : PySem.W.Frag} {mg mb : Str → Option Value} {k : Nat} {fa a : Addr} {x nm : Str} {st : Stmt} {sp : Sp} {s1 : Shared} {vs : List Value} {ns : List Int} {nms : List Str}
    (KX : K.In s1.heap) (hns : s1.heap.Ns mainGlobals mg) (hb : s1.heap.Ns builtinsNs mb) (hbb : ∀ x : Str, x ≠ "__name__" → mb x = bootBuiltins x) (hlim : s1.heap.NoLimit) (hdig : s1.heap.NoDigits) (hg : s1.gens = #[])
    (TB : ∀ y ∈ nms, Tb K mg y) (C : ∀ y ∈ nms, PySem.W.CodeHd s1.heap (kA K mg y) (pA K mg y) ∧ s1.heap.get? (pA K mg y) = some { cls := .none, data := .fields #[] })
    (bm : ∃ (bm : Addr) (ob : Obj), mg "__builtins__" = some (.ref bm) ∧ bm ≠ builtinsNs ∧ s1.heap.get? bm = some ob ∧ ob.cls = .type "module" ∧ ob.dict = some builtinsNs ∧ ob.data = .plain)
    (ha : s1.heap.get? a = some (scrO vs)) (hi : IntsAre vs ns) (hl : ns.length ≤ sizeLine) (hr : Room k callerA) (hfa : mg nm = some (.ref fa))
    (F : ∀ base : Heap, K.In base → base.Ns mainGlobals mg → (∀ y ∈ nms, TabB base mg (kA K mg y) (pA K mg y)) → base.NoDigits → Cal P w K mg base k nm st [x] sp)
    (hsp : ∀ H : Hp, (∀ y ∈ nms, H (pA K mg y) = some (.tbl #[])) → SqL K H a (ns.map V.int) → sp [.ref a] H (fun v _ => v = .bl true) fun _ _ _ => False) :
    codeAny (model P w) callerA (.call (.ref fa) ⟨[.ref a], []⟩) (fun r s' => r = .ok (.ret (.bool true)) ∧ OldK s1.heap s'.heap ∧ s'.os = s1.os ∧ AllBare s'.gens) s1 := by
  have rv := vals_ints hi
  have len : vs.length = ns.length := hi.length
  obtain ⟨ts, hts⟩ : ∃ ts, ts = nms.map (pA K mg) := ⟨_, rfl⟩
  have tabs : ∀ b, b ∈ ts → s1.heap.get? b = some { cls := .none, data := .fields #[] } ∧ K.lookup b = none := fun b h => by
    rw [hts] at h
    obtain ⟨y, hy, rfl⟩ := List.mem_map.mp h
    exact ⟨(C y hy).2, (TB y hy).nP⟩
  have isT : ∀ y ∈ nms, pA K mg y ∈ ts := fun y hy => by rw [hts]; exact List.mem_map.mpr ⟨y, hy, rfl⟩
  have nota : a ∉ ts := fun h => by
    have q := (tabs a h).1
    rw [ha] at q
    have z := congrArg Obj.data (Option.some.inj q)
    cases z
  let H := scrT K a vs ns ts
  have atA : H a = scrH K a vs ns a := scrT_out nota
  have kinds : ∀ {b : Addr} {u : HO}, H b = some u → (b ∈ ts ∧ u = .tbl #[]) ∨ (b = a ∧ K.lookup a = none ∧ u = .frz (scrO vs) (.lst (ns.map V.int))) := fun {b u} h => by
    by_cases z : b ∈ ts
    · exact .inl ⟨z, Option.some.inj (h.symm.trans (scrT_in z))⟩
    · exact .inr (scrH_some ((scrT_out z).symm.trans h))
  have seq : SqL K H a (ns.map V.int) := by
    cases e : K.lookup a with
    | none => exact .inl (.inr ⟨_, atA.trans (scrH_at e)⟩)
    | some o =>
      have q := KX a o e
      rw [ha] at q
      cases q
      exact .inr ⟨_, vs.toArray, _, e, rfl, rfl, rfl, by rw [List.size_toArray, len]; exact hl, by simpa using rv⟩
  have hok : HOk P w H s1.heap := fun b u e => by
    rcases kinds e with ⟨h, rfl⟩ | ⟨rfl, _, rfl⟩
    · exact (tabs b h).1
    · exact ⟨ha, by rw [List.length_map]; exact hl, vs, _, rv, ha⟩
  -- what is no list and no table stands apart
  have apart : ∀ {b : Addr} {o : Obj}, s1.heap.get? b = some o → o ≠ scrO vs → o ≠ { cls := .none, data := .fields #[] } → (hidT s1.heap H).get? b = some o := fun {b o} e n1 n2 => by
    refine hidT_get e ?_
    cases q : H b with
    | none => rfl
    | some u =>
      rcases kinds q with ⟨h, _⟩ | ⟨rfl, _, _⟩
      · exact absurd (Option.some.inj (e.symm.trans (tabs b h).1)) n2
      · exact absurd (Option.some.inj (e.symm.trans ha)) n1
  have dicts : ∀ {o : Obj} {es : Array DictEntry} {n : Nat}, o.data = .dict es n → o ≠ scrO vs ∧ o ≠ { cls := .none, data := .fields #[] } := fun {o es n} d => by
    constructor
    · intro z
      rw [z] at d
      cases d
    · intro z
      rw [z] at d
      cases d
  have own : ∀ {b : Addr} {m : Str → Option Value}, s1.heap.Ns b m → (hidT s1.heap H).Ns b m := fun ⟨o, es, n, e, d, r⟩ => ⟨o, es, n, apart e (dicts d).1 (dicts d).2, d, r⟩
  have kin : K.In (hidT s1.heap H) := fun b o e => hidT_get (KX b o e) (by
    cases q : H b with
    | none => rfl
    | some u =>
      rcases kinds q with ⟨h, _⟩ | ⟨rfl, n, _⟩
      · rw [(tabs b h).2] at e
        cases e
      · rw [n] at e
        cases e)
  have M : Mod K mg (hidT s1.heap H) := ⟨kin, own hns, ⟨mb, own hb, hbb⟩, let ⟨mc, h1, h2⟩ := hlim; ⟨mc, own h1, h2⟩⟩
  have tb : ∀ y ∈ nms, TabB (hidT s1.heap H) mg (kA K mg y) (pA K mg y) := fun y hy => by
    have hP := (C y hy).2
    refine ⟨?_, ?_, fun z => ?_⟩
    · obtain ⟨o, us, file, tf, flags, tg, inF, text, tt, e1, r1, r2, r3, r⟩ := (C y hy).1
      refine ⟨o, us, file, tf, flags, tg, inF, text, tt, apart e1 (fun z => ?_) (fun z => ?_), r1, r2, r3, r⟩
      · rw [z] at r2
        cases r2
      · rw [z] at r2
        cases r2
        simp at r3
    · obtain ⟨bm, ob, b1, b2, b3, b4, b5, b6⟩ := bm
      refine ⟨bm, ob, b1, b2, fun q => ?_, fun q => ?_, apart b3 (fun z => ?_) (fun z => ?_), b4, b5, b6⟩
      · obtain ⟨o, es, ep, e, hd, _⟩ := hns
        rw [q, e] at b3
        cases b3
        rw [hd] at b6
        cases b6
      · rw [q, hP] at b3
        cases b3
        cases b6
      · rw [z] at b6
        cases b6
      · rw [z] at b6
        cases b6
    · obtain ⟨o, es, ep, e, hd, _⟩ := hns
      rw [z, hP] at e
      cases e
      cases hd
  have e0 : Env0 P w K mg (hidT s1.heap H) callerA [] s1 H := ⟨rfl, M, fun b o e => of_hidT e, Nat.le_of_eq (hidT_size _ _), trivial, fun b z => (nomatch z), hok, .of_eq hg⟩
  obtain ⟨f, fd, Cc, g, _, bnd⟩ := (F _ kin (own hns) tb (let ⟨mc, h1, h2⟩ := hdig; ⟨mc, own h1, h2⟩)).ex
  rw [hfa] at g
  cases g
  refine codeAny_mono (Cc.run callerA [] s1 H ⟨[.ref a], []⟩ [.ref a] [.ref a] _ _ ⟨hr, rfl⟩ e0 (.of_eq (bnd _ rfl)) (.cons rfl .nil) (hsp H (fun y hy => scrT_in (isT y hy)) seq)) fun r s' q => ?_
  cases r with
  | error e =>
    obtain ⟨_, _, _, _, _, _, _, _, _, _, _, _, z⟩ := q
    exact z.elim
  | ok fl =>
    cases fl with
    | next => exact False.elim q
    | brk => exact False.elim q
    | cont => exact False.elim q
    | ret u =>
      obtain ⟨v, H', os, bare, un, hok', rv', rfl⟩ := q
      obtain rfl : u = Value.bool true := rv'
      have keep : ∀ b o, b ∉ ts → s1.heap.get? b = some o → s'.heap.get? b = some o := fun b o nb e => by
        cases z : H b with
        | none => exact un.keep b o e z nofun nofun
        | some u =>
          rcases kinds z with ⟨h, _⟩ | ⟨rfl, _, rfl⟩
          · exact absurd h nb
          · rw [ha] at e
            cases e
            exact (hok' b _ (un.frzs b _ _ z)).1
      have grown : ∀ b, b ∈ ts → ∃ more : Array Value, s'.heap.get? b = some { cls := .none, data := .fields more } := fun b h => by
        obtain ⟨more, z⟩ := un.tbls b #[] (scrT_in h)
        exact ⟨_, hok' b _ z⟩
      refine ⟨rfl, ⟨fun b o e => ?_, fun b o e => ?_⟩, os, bare⟩
      · by_cases h : b ∈ ts
        · obtain ⟨more, hm⟩ := grown b h
          rw [hts] at h
          obtain ⟨y, hy, rfl⟩ := List.mem_map.mp h
          obtain ⟨hC, hP⟩ := C y hy
          rw [hP] at e
          cases e
          exact .inr (.inl ⟨(hC.tab hP).isCodeTable, rfl, #[], more, rfl, by rw [Array.empty_append]; exact hm⟩)
        · exact .inl (keep b o h e)
      · by_cases h : b ∈ ts
        · obtain ⟨more, hm⟩ := grown b h
          exact ⟨_, hm⟩
        · exact ⟨o, keep b o h e⟩
/-- the goal that k_head leaves, from the law's promise, where the defs nms make lambdas -/
theorem walk_gT {l : PySem.W.OpenLaw} {n k : Nat} {q : Program} {loose : List Str} {XP : (Str → Option Value) → Heap → Prop} {YP : World → Heap → Prop} {d : DefRec} {K : Params → PySem.W.Frag} {sp : PySem.W.Frag → (Str → Option Value) → Sp} {x : Str} {st : Stmt} {nms : List Str}
    (hn : l.most = some n) (hn2 : n ≤ sizeLine) (hdf : d.params.defaults = []) (hr : Room k callerA) (hq : nms.all (fun y => (recsOf q).any fun e => e.name == y) = true)
    (hY : ∀ (w : World) (h : Heap), YP w h → (K w.params).In h)
    (T : ∀ (w : World) (mg : Str → Option Value) (h : Heap), (K w.params).In h → h.Ns mainGlobals mg → ∀ y ∈ nms, Tb (K w.params) mg y)
    (F : ∀ (w : World) (mg : Str → Option Value) (fa : Addr) (h : Heap), (K w.params).In h → h.Ns mainGlobals mg → mg d.name = some (.ref fa) → (∀ y ∈ nms, Tb (K w.params) mg y) →
      ∀ base : Heap, (K w.params).In base → base.Ns mainGlobals mg → (∀ y ∈ nms, TabB base mg (kA (K w.params) mg y) (pA (K w.params) mg y)) → base.NoDigits → Cal l.prog w (K w.params) mg base k d.name st [x] (sp (K w.params) mg))
    (hsp : ∀ (K : PySem.W.Frag) (mg : Str → Option Value) (H : Hp) (a : Addr) (ns : List Int), ns.length ≤ n → (∀ y ∈ nms, H (pA K mg y) = some (.tbl #[])) → SqL K H a (ns.map V.int) → sp K mg [.ref a] H (fun v _ => v = .bl true) fun _ _ _ => False) :
    PySem.W.WalkO q loose XP YP l.row.toRowW d [] (fun f vs => PySem.call f vs) := by
  refine Att.attach_call hn hdf fun w s0 s1 mg mb fa o pm cd doc a vs ns G Y ho hd hcd hmg hobj hints hlen hg => ?_
  have KX := hY w _ Y
  have TB := T w mg _ KX G.T.g
  refine law_gT KX G.T.g G.T.b G.T.builtins G.T.nolimit G.T.nodigits hg TB (fun y hy => ?_) G.T.bmain hobj hints (Nat.le_trans hlen hn2) hr hmg (fun base h1 h2 h3 h4 => F w mg fa _ KX G.T.g hmg TB base h1 h2 h3 h4) fun H hT hS => hsp _ _ H a ns hlen hT hS
  obtain ⟨dL, hm, hn1⟩ := List.any_eq_true.mp (List.all_eq_true.mp hq y hy)
  have hn2 : dL.name = y := beq_iff_eq.mp hn1
  obtain ⟨a', o', fd', c', P', h1, h2, h3, h4, h5, h6⟩ := G.T.tab dL hm
  obtain ⟨oc, od, fd, sl, e, dd, us, sl2, k1, k2, k3, k4⟩ := (TB y hy).ex
  rw [hn2, (TB y hy).m] at h1
  cases h1
  have g1 := KX _ _ k1
  rw [g1] at h2
  cases h2
  cases h3
  rw [k2] at h4
  cases h4
  have hd := PySem.W.CodeHd.of h5 h6
  obtain ⟨⟨oc2, vc, e1, _, e3, e4⟩, hP⟩ := h6
  have g2 := KX _ _ k3
  rw [g2] at e1
  cases e1
  cases e3
  rw [k4] at e4
  cases e4
  exact ⟨hd, hP⟩
end Ls
end

section
set_option Elab.async false
set_option linter.all false
set_option maxRecDepth 100000
set_option maxHeartbeats 4000000
namespace Ls
open PySem PySem.Spec PyProof.Rows L2 LamX
abbrev bm_ValueError : List Value := [.type "ValueError", .type "Exception", .type "BaseException", .type "object"]
abbrev bm_LookupError : List Value := [.type "LookupError", .type "Exception", .type "BaseException", .type "object"]
abbrev bm_RuntimeError : List Value := [.type "RuntimeError", .type "Exception", .type "BaseException", .type "object"]
abbrev bm_ArithmeticError : List Value := [.type "ArithmeticError", .type "Exception", .type "BaseException", .type "object"]
/-- an exception class with its own __init__ -/
structure Xd (K : PySem.W.Frag) (mg : Str → Option Value) (x : Str) (bmB : List Value) (newId : String) (st : Stmt) (ps : List Str) : Prop where
  m : mg x = some (.ref (fA mg x))
  T : Xc K bmB newId (fA mg x)
  ex : ∃ (fI : Addr) (fd : FuncData), PySem.W.findIn K (.ref (fA mg x)) "__init__" = some (some (.ref fI)) ∧ PySem.W.typeIn K (.ref fI) = some (.type "function") ∧ Fun K "__init__" (x ++ ".__init__") st fI fd ∧
    ∀ (us : List Value), us.length = ps.length → bindArgs fd ⟨us, []⟩ = pure (ps.zip us)
theorem fA_eq {mg : Str → Option Value} {x : Str} {C : Addr} (m : mg x = some (.ref C)) : fA mg x = C := by unfold fA; rw [m]
theorem xd_mk {K : PySem.W.Frag} {mg : Str → Option Value} {x : Str} {bmB : List Value} {newId : String} {st : Stmt} {ps : List Str} {C fI : Addr} {oc : Value} {od an : Option Addr} {osl : Array (Option Value)} {kV doc pm cdv ct : Value}
    (m : mg x = some (.ref C)) (h1 : PySem.W.excInitIn K C bmB newId = true) (h2 : PySem.W.excOver K C bmB = true) (h3 : PySem.W.hasDictIn K C = true) (h4 : PySem.W.findIn K (.ref C) "__setattr__" = some (some (.builtin "object.__setattr__")))
    (h5 : PySem.W.subIn K (.ref C) (.type "BaseException") = some true) (h6 : PySem.W.typeIn K (.ref C) = some (.type "type")) (h7 : PySem.W.keepIn K (.ref C) = true) (hi : PySem.W.findIn K (.ref C) "__init__" = some (some (.ref fI))) (ht : PySem.W.typeIn K (.ref fI) = some (.type "function"))
    (l : K.lookup fI = some ⟨oc, od, .func (PySem.W.fnOf "__init__" (x ++ ".__init__") (defArgs st) (defBody st) (defScope st) .none kV doc pm an cdv ct), osl⟩) (c : PySem.W.codeIn K cdv (x ++ ".__init__") = true) (k : PySem.W.keepIn K (.ref fI) = true)
    (h : ∀ (kV doc pm : Value) (an : Option Addr) (cdv ct : Value) (us : List Value), us.length = ps.length → bindArgs (PySem.W.fnOf "__init__" (x ++ ".__init__") (defArgs st) (defBody st) (defScope st) .none kV doc pm an cdv ct) ⟨us, []⟩ = pure (ps.zip us)) : Xd K mg x bmB newId st ps := by
  have e := fA_eq m
  refine ⟨by rw [e]; exact m, by rw [e]; exact ⟨h1, h2, h3, h4, h5, h6, h7⟩, fI, _, by rw [e]; exact hi, ht, fun_mk l c k, h kV doc pm an cdv ct⟩
section
variable {P : Program} {w : World} {K : PySem.W.Frag} {mg : Str → Option Value} {base : Heap} {x : Str} {bmB : List Value} {B newId initId : String} {st : Stmt} {ps fl N : List Str} {k : Nat}
theorem Xd.ok (D : Xd K mg x bmB newId st ps) (b : Xb bmB B newId initId) (S : FnScope N ps (defScope st)) (hl : fl.length + 1 = ps.length)
    (body : ∀ (f : Addr) (cdv : Value) (A : Around) (outer : List Env) (s : Shared) (H : Hp) (a : Addr) (ws : List V) (Q : VK) (E : XK), ws.length = fl.length → H a = some (exo a (fA mg x) none) →
      (∀ dx H', H dx = none → dx ≠ a → (∀ b, b ≠ a → b ≠ dx → H' b = H b) → H' a = some (exo a (fA mg x) (some dx)) → H' dx = some (exd dx (fl.zip ws).reverse) → Q .non H') →
      ∃ t, PSs (cxOf (L2.CX P w) P w K mg base N (x ++ ".__init__") (defScope st) f cdv A outer s H E) (defBody st) t ∧ t { nx := fun _ H' => Q .non H', rt := Q } (L2.start N (.ref a :: ws)) H) :
    Xk P w K mg base (k + 1) x (fA mg x) fl := by
  obtain ⟨fI, fd, hi, ht, F, bnd⟩ := D.ex
  obtain ⟨oc, od, kV, doc, pm, an, cdv, ct, osl, rfl, lk, hcd⟩ := F.ex
  have len : ∀ vs H Q E, sp_xini (fA mg x) fl vs H Q E → vs.length = ps.length := fun vs H Q E h => by
    obtain ⟨a, ws, rfl, hw, _⟩ := h
    rw [List.length_cons, hw]
    exact hl
  refine ⟨bmB, B, newId, initId, fI, PySem.W.fnOf "__init__" (x ++ ".__init__") (defArgs st) (defBody st) (defScope st) .none kV doc pm an cdv ct, ps, b, D.T, hi, ht, ⟨len, fun A outer s H args us vs Q E hr e0 hb r hsp => ?_⟩, fun s us _ h => ?_, D.m⟩
  · refine LamX.run_ofS lk hcd S hr e0 hb r (len _ _ _ _ hsp) fun _ => ?_
    obtain ⟨a, ws, rfl, hw, ha, q⟩ := hsp
    exact body fI cdv A outer s H a ws Q E hw ha q
  · rw [List.append_nil] at h ⊢
    exact .of_eq (bnd us h)
end
/-- one field -/
theorem xd_one {f : Str} {a C : Addr} {y : V} {H : Hp} {σ : L2.St} {D : Ends} (q : ∀ dx H', H dx = none → dx ≠ a → (∀ b, b ≠ a → b ≠ dx → H' b = H b) → H' a = some (exo a C (some dx)) → H' dx = some (exd dx [(f, y)]) → D.nx σ H') :
    ∀ dx, H dx = none → dx ≠ a → D.nx σ (upd (upd H dx (exd dx [(f, y)])) a (exo a C (some dx))) := fun dx n ne =>
  q dx _ n ne (fun b n1 n2 => by rw [upd_ne n1, upd_ne n2]) upd_same (by rw [upd_ne ne, upd_same])
section
variable {σ : L2.St} {H : Hp} {Q : VK} {K : PySem.W.Frag} {bmB : List Value} {newId : String} {ta : TA} {to te : TE} {D : Ends} {f : Str}
theorem r_xi (h : ta σ H fun vs H1 => ∃ (a C : Addr) (ws : List V), vs = .ref a :: ws ∧ ws.length ≤ 1000 ∧ Xc K bmB newId C ∧ H1 a = some (exo a C none) ∧ Q .non H1) : tXi K bmB newId ta σ H Q := h
theorem r_xo (h : te σ H fun y H1 => to σ H1 fun x H2 => ∃ a C : Addr, x = .ref a ∧ Xc K bmB newId C ∧ PySem.W.takerIn K C f = some none ∧
  ((H2 a = some (exo a C none) ∧ ∀ dx, H2 dx = none → dx ≠ a → D.nx σ (upd (upd H2 dx (exd dx [(f, y)])) a (exo a C (some dx)))) ∨
    ∃ (dx : Addr) (fs : List (Str × V)), H2 a = some (exo a C (some dx)) ∧ H2 dx = some (exd dx fs) ∧ fs.length ≤ 900 ∧ D.nx σ (upd H2 dx (exd dx ((f, y) :: fs))))) : tXo K bmB newId f to te D σ H := h
end
theorem r_never {D : Ends} {σ : L2.St} {H : Hp} (h : False) : tNever D σ H := h
/-- all but one new object stands -/
theorem ex_same {H H' : Hp} {d : Addr} (n : H d = none) (h : ∀ b, b ≠ d → H' b = H b) : Ex H H' := fun a o e => by rw [h a (ne_of_none e n)]; exact e
/-- check_value, whatever it is given -/
def sp_checkX (K : PySem.W.Frag) (C : Addr) (n : Nat) : Sp := fun vs H Q E => ∃ v d, vs = [v] ∧ Dt K H v d ∧ smD d = true ∧ tdp d < n ∧ ((isF d || isD d) = true → ∀ H', Ex H H' → Q .non H') ∧
  ((isF d || isD d) = false → ∀ dd H', Ex H H' → H' dd = some (.xd [("value", v)]) → E (.ref C) (some dd) H')
/-- .., what gives r of a value, and raises otherwise -/
def sp_onV (K : PySem.W.Frag) (C : Addr) (n : Nat) (r : PyData → V) : Sp := fun vs H Q E => ∃ v d, vs = [v] ∧ Dt K H v d ∧ smD d = true ∧ tdp d < n ∧ ((isF d || isD d) = true → ∀ H', Ex H H' → Q (r d) H') ∧
  ((isF d || isD d) = false → ∀ dd H', Ex H H' → H' dd = some (.xd [("value", v)]) → E (.ref C) (some dd) H')
section
variable {σ : L2.St} {H : Hp} {C : Addr} {fl : List Str} {ta : TA} {Q : XK}
theorem r_mk (h : ta σ H fun vs H1 => vs.length = fl.length ∧ vs.length ≤ 1000 ∧ ∀ d H2, H1 d = none → (∀ b, b ≠ d → H2 b = H1 b) → H2 d = some (.xd (fl.zip vs).reverse) → Q (.ref C) (some d) H2) : tMkX C fl ta σ H Q := h
end
def tAct (W : WX) (f c' : Addr) (q : Str) (tl : XK → Hp → VK → Prop) : TS := fun D σ H => ∃ E : XK, (∀ cls d H', E cls d H' → W cls d σ H') ∧ σ[0]? = some (some (.ref f)) ∧ H c' = some (CodeO c' q) ∧ tl E H fun _ H1 => D.nx σ H1
theorem pss_act {X : Cx} {W : WX} {f c' : Addr} {q a : Str} {tl : XK → Hp → VK → Prop} {p1 p2 p3 : Pos}
    (h : ∀ (E : XK) (p1 p2 : Pos), PE X (.Call (.Name a p1) [] [] p2) (fun σ1 H1 Q => (∀ cls d H', E cls d H' → W cls d σ1 H') ∧ σ1[0]? = some (some (.ref f)) ∧ H1 c' = some (CodeO c' q) ∧ tl E H1 Q)) :
    PSs X [.Expr (.Call (.Name a p1) [] [] p2) p3] (tAct W f c' q tl) := by
  refine ⟨fun pins s σ H D I h' => ?_⟩
  obtain ⟨E, hW, h1, h2, h3⟩ := h'
  exact (pss_one (ps_expr (pos := p3) (h E p1 p2))).run pins s σ H D I ⟨hW, h1, h2, h3⟩
/-- data that repr shows, dicts too -/
structure Rq (d : PyData) : Prop where
  sh : shW d = true
  len : (PyData.shown d).length ≤ 100000
  dep : PyData.depth d ≤ 10
theorem Rp.rq {d : PyData} (r : Rp d) : Rq d := ⟨r.sh, Nat.le_trans r.len (by decide), r.dep⟩
section
variable {H : Hp} {Q : VK} {K : PySem.W.Frag} {x y : V} {d e : PyData}
theorem y_repD (h : Dt K H x d) (r : Rq d) (q : Q (.str d.shown) H) : rRepr K [x] H Q := y_repr h r.sh (Nat.le_trans r.len (by decide)) (by have := r.dep; omega) q
theorem y_rep2D {p : Addr} (hp : H p = some (.lst [x, y])) (np : p ≠ 1) (h : Dt K H x d) (h2 : Dt K H y e) (r : Rq d) (r2 : Rq e) (q : Q (.str (PyData.list [d, e]).shown) H) : rRepr K [.ref p] H Q := by
  refine y_repr (.lst (.of hp) (.cons h (.cons h2 .nil))) ?_ ?_ ?_ q
  · simp [shW, shWL, r.sh, r2.sh]
  · rw [PyData.shown_list, len_app, len_app, lit_lo, lit_lc]
    have hj := join_len (Str.ofString ", ") (PyData.shownAll [d, e])
    rw [lit_sep, PyData.shownAll_length, PyData.shownAll_cons, PyData.shownAll_cons, PyData.shownAll_nil] at hj
    simp only [List.map_cons, List.map_nil, List.sum_cons, List.sum_nil, List.length_cons, List.length_nil] at hj
    have := r.len
    have := r2.len
    have h2 : sizeLine = 16777216 := rfl
    rw [PyData.shownAll_cons, PyData.shownAll_cons, PyData.shownAll_nil]
    omega
  · have := r.dep
    have := r2.dep
    simp only [PyData.depth, PyData.depthAll]
    omega
end
/-- what a def makes of a call that gives anything, or raises C with its value: the shown error, or 'None' -/
def TTref (K : PySem.W.Frag) (C : Addr) (tl : XK → Hp → VK → Prop) (H : Hp) (Q : VK) : Prop := ∀ (E : XK) (Qn : VK),
  (∀ (H' : Hp) (dd : Addr) (v : V) (dat : PyData), H' dd = some (.xd [("value", v)]) → Dt K H' v dat → Rq dat → (∀ H2, Ex H' H2 → Q (.str (PyData.list [dat, .bool true]).shown) H2) → E (.ref C) (some dd) H') →
  (∀ v H', (∀ H2, Ex H' H2 → Q (.str PyData.none.shown) H2) → Qn v H') → tl E H Qn
section
variable {σ : L2.St} {H : Hp} {Q : VK} {K : PySem.W.Frag} {a : Addr} {cls : Value} {d : Option Addr} {C : Addr} {f : Str} {te : TE}
theorem r_xf (h : te σ H fun x H1 => x = .ref a ∧ cls = .ref C ∧ ∃ (dd : Addr) (fs : List (Str × V)) (v : V), d = some dd ∧ H1 dd = some (.xd fs) ∧ fs.lookup f = some v ∧ Q v H1) : tXf a cls d C f te σ H Q := h
end
end Ls
end

section
set_option Elab.async false
set_option linter.all false
set_option maxRecDepth 100000
set_option maxHeartbeats 4000000
namespace Ls
open PySem PySem.Spec PyProof.Rows L2 SX LamX
/-- without p, without tables -/
def mo (H : Hp) (p : Addr) : Hp := fun a => if a = p then none else match H a with | some (.tbl _) => none | o => o
section
variable {H H1 H2 : Hp} {p a : Addr} {o : HO}
theorem mo_some (h : mo H p a = some o) : a ≠ p ∧ H a = some o ∧ ∀ ps, o ≠ .tbl ps := by
  unfold mo at h
  split at h
  · cases h
  · rename_i n
    split at h
    · cases h
    · rename_i z
      refine ⟨n, h, fun ps e => ?_⟩
      subst e
      exact z ps h
theorem mo_of (n : a ≠ p) (h : H a = some o) (z : ∀ ps, o ≠ .tbl ps) : mo H p a = some o := by
  unfold mo
  rw [if_neg n, h]
  split
  · rename_i ps e
    exact absurd (Option.some.inj e) (z ps)
  · rfl
theorem mo_ex : Ex (mo H p) H := fun a o h => (mo_some h).2.1
/-- all stands but p and tables -/
def Eo (p : Addr) (H H' : Hp) : Prop := Ex (mo H p) (mo H' p)
theorem Eo.refl (p : Addr) (H : Hp) : Eo p H H := Ex.refl _
theorem Eo.trans (a : Eo p H H1) (b : Eo p H1 H2) : Eo p H H2 := Ex.trans a b
theorem Em.eo (e : Em p H H1) : Eo p H H1 := fun a o h => let ⟨n, h1, z⟩ := mo_some h; mo_of n (e a o n h1) z
theorem Ex.eo (p : Addr) (e : Ex H H1) : Eo p H H1 := (e.em p).eo
theorem extN_eo (p : Addr) (e : ExtN H H1) : Eo p H H1 := fun a o h => let ⟨n, h1, z⟩ := mo_some h; mo_of n (e a o h1 z) z
theorem Pt.extN (h : Pt H p) (e : ExtN H H1) : Pt H1 p := let ⟨a, b, h1, h2⟩ := h; ⟨a, b, e _ _ h1 (fun _ z => nomatch z), h2⟩
theorem mo_none (h : H a = none) : mo H p a = none := by
  unfold mo
  split
  · rfl
  · rw [h]
theorem tabs_em {T : List (Addr × Str)} {xs : List V} (t : Tabs T H) (hp : H p = some (.lst xs)) (e : Em p H H1) : Tabs T H1 := fun q hq => by
  obtain ⟨ps, h1, h2, h3⟩ := t q hq
  have n1 : q.1 ≠ p := fun z => by rw [z, hp] at h1; cases h1
  refine ⟨ps, e _ _ n1 h1, h2, fun pos cv hc => ?_⟩
  obtain ⟨c, e1, e2⟩ := h3 pos cv hc
  exact ⟨c, e1, e _ _ (fun z => by rw [z, hp] at e2; cases e2) e2⟩
theorem Pt.tabs {T : List (Addr × Str)} (h : Pt H p) (t : Tabs T H) (e : Em p H H1) : Tabs T H1 := let ⟨_, _, h1, _⟩ := h; tabs_em t h1 e
theorem mo_sq {K : PySem.W.Frag} {xs : List V} (n : a ≠ p) (h : SqL K H a xs) : SqL K (mo H p) a xs := by
  rcases h with (h | ⟨o, h⟩) | h
  · exact .inl (.inl (mo_of n h fun _ z => nomatch z))
  · exact .inl (.inr ⟨o, mo_of n h fun _ z => nomatch z⟩)
  · exact .inr h
theorem Eo.lst {xs : List V} (e : Eo p H H1) (n : a ≠ p) (h : H a = some (.lst xs)) : H1 a = some (.lst xs) := (mo_some (e _ _ (mo_of n h fun _ z => nomatch z))).2.1
end
mutual
def plD : PyData → Bool
  | .int _ => true
  | .tuple ds => decide (ds.length < 41) && plL ds
  | _ => false
def plL : List PyData → Bool
  | [] => true
  | d :: ds => plD d && plL ds
end
theorem plL_all : ∀ ds : List PyData, plL ds = (ds.map plD).all id
  | [] => rfl
  | d :: ds => by rw [plL, plL_all ds]; rfl
mutual
theorem pl_fl {K : PySem.W.Frag} {H : Hp} : ∀ (d : PyData) {v : V}, plD d = true → Dt K H v d → Fl K H v d
  | .int i, _, _, hd => by cases hd; exact .int i
  | .tuple ds, _, h, hd => by
    cases hd with
    | tup s a =>
      rw [plD, Bool.and_eq_true] at h
      exact .tup s (plL_fl ds h.2 a)
  | .none, _, h, _ => by simp [plD] at h
  | .bool _, _, h, _ => by simp [plD] at h
  | .str _, _, h, _ => by simp [plD] at h
  | .list _, _, h, _ => by simp [plD] at h
  | .dict _, _, h, _ => by simp [plD] at h
theorem plL_fl {K : PySem.W.Frag} {H : Hp} : ∀ (ds : List PyData) {vs : List V}, plL ds = true → DtAll K H vs ds → FlAll K H vs ds
  | [], _, _, hd => by cases hd; exact .nil
  | d :: ds, _, h, hd => by
    cases hd with
    | cons a b =>
      rw [plL, Bool.and_eq_true] at h
      exact .cons (pl_fl d h.1 a) (plL_fl ds h.2 b)
end
end Ls
end

section
set_option Elab.async false
set_option linter.all false
set_option maxRecDepth 100000
set_option maxHeartbeats 4000000
namespace Ls
open PySem PySem.Spec PyProof.Rows L2 SX LamX
mutual
/-- integers within tuples are small -/
def inD : PyData → Bool
  | .int i => decide (i.natAbs < 10 ^ 62)
  | .tuple ds => inL ds
  | _ => true
def inL : List PyData → Bool
  | [] => true
  | d :: ds => inD d && inL ds
end
theorem inL_mem : ∀ {ds : List PyData}, inL ds = true → ∀ {d : PyData}, d ∈ ds → inD d = true
  | d' :: ds, h, d, hd => by
    rw [inL, Bool.and_eq_true] at h
    rcases List.mem_cons.mp hd with rfl | hd
    · exact h.1
    · exact inL_mem h.2 hd
theorem inL_of : ∀ {ds : List PyData}, (∀ d, d ∈ ds → inD d = true) → inL ds = true
  | [], _ => rfl
  | d :: ds, h => by rw [inL, h d List.mem_cons_self, inL_of fun e he => h e (List.mem_cons_of_mem _ he)]; rfl
mutual
theorem in_sm : ∀ d : PyData, inD d = true → smD d = true
  | .int i, h => by
    rw [inD, decide_eq_true_eq] at h
    rw [smD, decide_eq_true_eq]
    exact gd_log h
  | .tuple ds, h => by rw [inD] at h; rw [smD]; exact inL_sm ds h
  | .none, _ => rfl
  | .bool _, _ => rfl
  | .str _, _ => rfl
  | .list _, _ => rfl
  | .dict _, _ => rfl
theorem inL_sm : ∀ d : List PyData, inL d = true → smL d = true
  | [], _ => rfl
  | d :: ds, h => by
    rw [inL, Bool.and_eq_true] at h
    rw [smL, in_sm d h.1, inL_sm ds h.2]
    rfl
end
mutual
theorem in_gd : ∀ d : PyData, inD d = true → plD d = true → gdD d = true
  | .int i, h, _ => by rw [inD] at h; rw [gdD]; exact h
  | .tuple ds, h, p => by
    rw [inD] at h
    rw [plD, Bool.and_eq_true, decide_eq_true_eq] at p
    rw [gdD, inL_gd ds h p.2, Bool.and_true, decide_eq_true_eq]
    omega
  | .none, _, h => by simp [plD] at h
  | .bool _, _, h => by simp [plD] at h
  | .str _, _, h => by simp [plD] at h
  | .list _, _, h => by simp [plD] at h
  | .dict _, _, h => by simp [plD] at h
theorem inL_gd : ∀ d : List PyData, inL d = true → plL d = true → gdL d = true
  | [], _, _ => rfl
  | d :: ds, h, p => by
    rw [inL, Bool.and_eq_true] at h
    rw [plL, Bool.and_eq_true] at p
    rw [gdL, in_gd d h.1 p.1, inL_gd ds h.2 p.2]
    rfl
end
mutual
theorem ns_pl : ∀ d : PyData, nsD d = true → plD d = true
  | .int _, _ => rfl
  | .tuple ds, h => by
    rw [nsD, Bool.and_eq_true, decide_eq_true_eq] at h
    rw [plD, nsL_pl ds h.2, Bool.and_true, decide_eq_true_eq]
    omega
  | .none, h => by simp [nsD] at h
  | .bool _, h => by simp [nsD] at h
  | .str _, h => by simp [nsD] at h
  | .list _, h => by simp [nsD] at h
  | .dict _, h => by simp [nsD] at h
theorem nsL_pl : ∀ d : List PyData, nsL d = true → plL d = true
  | [], _ => rfl
  | d :: ds, h => by
    rw [nsL, Bool.and_eq_true] at h
    rw [plL, ns_pl d h.1, nsL_pl ds h.2]
    rfl
end
mutual
theorem is_ft : ∀ d : PyData, nsD d = true → tdp d ≤ 4 → szD d ≤ 1000 → ftD d = true
  | .int i, _, _, h => by rw [szD] at h; rw [ftD, decide_eq_true_eq]; exact h
  | .tuple ds, h, ht, hz => by
    rw [nsD, Bool.and_eq_true] at h
    rw [tdp] at ht
    rw [szD] at hz
    rw [ftD, h.1, isL_ft ds h.2 (by omega) (by omega), decide_eq_true (by omega : tdpL ds ≤ 3), decide_eq_true hz]
    rfl
  | .none, h, _, _ => by simp [nsD] at h
  | .bool _, h, _, _ => by simp [nsD] at h
  | .str _, h, _, _ => by simp [nsD] at h
  | .list _, h, _, _ => by simp [nsD] at h
  | .dict _, h, _, _ => by simp [nsD] at h
theorem isL_ft : ∀ ds : List PyData, nsL ds = true → tdpL ds ≤ 4 → szL ds ≤ 1000 → ftL ds = true
  | [], _, _, _ => rfl
  | d :: ds, h, ht, hz => by
    rw [nsL, Bool.and_eq_true] at h
    rw [tdpL] at ht
    rw [szL] at hz
    have h1 := szD_pos d h.1
    have h2 := szL_nn ds h.2
    rw [ftL, is_ft d h.1 (Nat.le_trans (Nat.le_max_left _ _) ht) (by omega), isL_ft ds h.2 (Nat.le_trans (Nat.le_max_right _ _) ht) (by omega)]
    rfl
end
theorem is_due (d : PyData) : isD d = (plD d && ftD d) := by
  cases h : isD d with
  | true =>
    unfold isD at h
    simp only [Bool.and_eq_true, decide_eq_true_eq] at h
    rw [ns_pl d h.1, is_ft d h.1 (by omega) h.2.2]
    rfl
  | false =>
    cases p : ftD d with
    | true => rw [ft_is p] at h; cases h
    | false => rw [Bool.and_false]
structure Bd (b k : Nat) (d : PyData) : Prop where
  sh : shW d = true
  len : (PyData.shown d).length ≤ b
  dep : PyData.depth d ≤ k
  inn : inD d = true
theorem Bd.mono {b k b' k' : Nat} {d : PyData} (h : Bd b k d) (h1 : b ≤ b') (h2 : k ≤ k') : Bd b' k' d := ⟨h.sh, Nat.le_trans h.len h1, Nat.le_trans h.dep h2, h.inn⟩
theorem Bd.rq {b k : Nat} {d : PyData} (h : Bd b k d) (h1 : b ≤ 100000) (h2 : k ≤ 10) : Rq d := ⟨h.sh, Nat.le_trans h.len h1, Nat.le_trans h.dep h2⟩
theorem Bd.int {i : Int} (h : i.natAbs < 10 ^ 62) : Bd 64 0 (.int i) := by
  have hl := gd_log h
  refine ⟨by rw [shW, decide_eq_true_eq]; exact hl, ?_, by rw [PyData.depth]; exact Nat.le_refl _, by rw [inD, decide_eq_true_eq]; exact h⟩
  rw [PyData.shown_int, show ((toString i : String) : Str) = S (intL i) from str_int i, S_len]
  have := TL.numL_len (n := i.natAbs) (k := 62) (by decide) h
  unfold intL
  split
  · rw [List.length_cons]; omega
  · omega
theorem Bd.i21 {i : Int} (h : i.natAbs ≤ 10 ^ 21) : Bd 23 0 (.int i) := by
  have hl : i.natAbs < 10 ^ 22 := Nat.lt_of_le_of_lt h (by decide)
  have hg : i.natAbs < 10 ^ 62 := Nat.lt_trans hl (by decide +kernel)
  refine ⟨by rw [shW, decide_eq_true_eq]; exact gd_log hg, ?_, by rw [PyData.depth]; exact Nat.le_refl _, by rw [inD, decide_eq_true_eq]; exact hg⟩
  rw [PyData.shown_int, show ((toString i : String) : Str) = S (intL i) from str_int i, S_len]
  have := TL.numL_len (n := i.natAbs) (k := 22) (by decide) hl
  unfold intL
  split
  · rw [List.length_cons]; omega
  · omega
theorem shownAll_sum {b : Nat} : ∀ {ds : List PyData}, (∀ d ∈ ds, (PyData.shown d).length ≤ b) → ((PyData.shownAll ds).map (·.length)).sum ≤ ds.length * b
  | [], _ => by rw [PyData.shownAll_nil]; simp
  | d :: ds, h => by
    have h1 := h d List.mem_cons_self
    have h2 := shownAll_sum fun e he => h e (List.mem_cons_of_mem _ he)
    rw [PyData.shownAll_cons, List.map_cons, List.sum_cons, List.length_cons, Nat.succ_mul]
    omega
theorem showAll_of : ∀ {ds : List PyData}, (∀ d ∈ ds, shW d = true) → shWL ds = true
  | [], _ => by simp only [shWL]
  | d :: ds, h => by rw [shWL, h d List.mem_cons_self, showAll_of fun e he => h e (List.mem_cons_of_mem _ he)]; rfl
theorem depAll_of {k : Nat} : ∀ {ds : List PyData}, (∀ d ∈ ds, PyData.depth d ≤ k) → PyData.depthAll ds ≤ k
  | [], _ => by simp only [PyData.depthAll]; exact Nat.zero_le _
  | d :: ds, h => by
    rw [PyData.depthAll]
    exact Nat.max_le.mpr ⟨h d List.mem_cons_self, depAll_of fun e he => h e (List.mem_cons_of_mem _ he)⟩
theorem Bd.tup {b k n : Nat} {ds : List PyData} (h : ∀ d ∈ ds, Bd b k d) (hn : ds.length ≤ n) : Bd (n * (b + 2) + 3) (k + 1) (.tuple ds) := by
  refine ⟨by rw [shW]; exact showAll_of fun d hd => (h d hd).sh, ?_, by rw [PyData.depth]; exact Nat.succ_le_succ (depAll_of fun d hd => (h d hd).dep), by rw [inD]; exact inL_of fun d hd => (h d hd).inn⟩
  have hs := shownAll_sum fun d hd => (h d hd).len
  have hj := join_len (Str.ofString ", ") (PyData.shownAll ds)
  rw [lit_sep, PyData.shownAll_length] at hj
  have hm : ds.length * b + 2 * ds.length ≤ n * (b + 2) := by
    rw [Nat.mul_comm 2, ← Nat.mul_add]
    exact Nat.mul_le_mul_right _ hn
  rw [PyData.shown_tuple, len_app, len_app, lit_open]
  split
  · rw [lit_close1]; omega
  · rw [lit_close]; omega
theorem Bd.lst {b k n : Nat} {ds : List PyData} (h : ∀ d ∈ ds, Bd b k d) (hn : ds.length ≤ n) : Bd (n * (b + 2) + 3) (k + 1) (.list ds) := by
  refine ⟨by rw [shW]; exact showAll_of fun d hd => (h d hd).sh, ?_, by rw [PyData.depth]; exact Nat.succ_le_succ (depAll_of fun d hd => (h d hd).dep), rfl⟩
  have hs := shownAll_sum fun d hd => (h d hd).len
  have hj := join_len (Str.ofString ", ") (PyData.shownAll ds)
  rw [lit_sep, PyData.shownAll_length] at hj
  have hm : ds.length * b + 2 * ds.length ≤ n * (b + 2) := by
    rw [Nat.mul_comm 2, ← Nat.mul_add]
    exact Nat.mul_le_mul_right _ hn
  rw [PyData.shown_list, len_app, len_app, lit_lo, lit_lc]
  omega
theorem Bd.bool (b : Bool) : Bd 5 0 (.bool b) := ⟨rfl, by cases b <;> (rw [PyData.shown_bool]; decide +kernel), by rw [PyData.depth]; exact Nat.le_refl _, rfl⟩
theorem Bd.none : Bd 5 0 .none := ⟨rfl, by rw [PyData.shown_none]; decide +kernel, by rw [PyData.depth]; exact Nat.le_refl _, rfl⟩
mutual
theorem tdp_dep : ∀ d : PyData, tdp d ≤ PyData.depth d
  | .tuple ds => by rw [tdp, PyData.depth]; have := tdpL_dep ds; omega
  | .int _ => Nat.zero_le _
  | .none => Nat.zero_le _
  | .bool _ => Nat.zero_le _
  | .str _ => Nat.zero_le _
  | .list _ => Nat.zero_le _
  | .dict _ => Nat.zero_le _
theorem tdpL_dep : ∀ ds : List PyData, tdpL ds ≤ PyData.depthAll ds
  | [] => Nat.zero_le _
  | d :: ds => by
    rw [tdpL, PyData.depthAll]
    have := tdp_dep d
    have := tdpL_dep ds
    omega
end
section
variable {σ : L2.St} {H : Hp} {Q : VK}
theorem r_dn (q : ∀ p H', H p = none → Ex H H' → H' p = some (.dK []) → Q (.ref p) H') : tDNewK σ H Q := fun p n => q p _ n (Ex.new n) upd_same
theorem r_d1 {i j : Int} (q : ∀ p H', H p = none → Ex H H' → H' p = some (.dK [(.inl i, .int j)]) → Q (.ref p) H') : tDisp [(tC (.int i), tC (.int j))] σ H Q := fun p n => by
  unfold tPairs
  refine ⟨upd_same, [(.inl i, .int j)], rfl, by simp, ?_⟩
  refine q p _ n (fun a o e => ?_) upd_same
  rw [upd_ne (ne_of_none e n), upd_ne (ne_of_none e n)]
  exact e
end
/-- what a def draws, of any kind: bounded, apart from the pot -/
def sp_odraw (K : PySem.W.Frag) (b k : Nat) : Sp := fun vs H Q _ => ∃ p : Addr, vs = [.ref p] ∧ Pt H p ∧ ∀ v d H', Dt K (mo H' p) v d → Bd b k d → Pt H' p → Em p H H' → Q v H'
theorem mo_st {K : PySem.W.Frag} {H : Hp} {p a : Addr} {xs : List V} (hP : Pt H p) (h : SqT K H a xs) : SqT K (mo H p) a xs := by
  obtain ⟨_, _, hp, _⟩ := hP
  rcases h with (h | ⟨o, h⟩) | h
  · exact .inl (.inl (mo_of (fun z => by rw [z, hp] at h; cases h) h fun _ z => nomatch z))
  · exact .inl (.inr ⟨o, mo_of (fun z => by rw [z, hp] at h; cases h) h fun _ z => nomatch z⟩)
  · exact .inr h
mutual
theorem Fl.mo {K : PySem.W.Frag} {H : Hp} {p : Addr} (hP : Pt H p) : ∀ {v : V} {d : PyData}, Fl K H v d → Fl K (mo H p) v d
  | _, _, .non => .non
  | _, _, .bl b => .bl b
  | _, _, .int i => .int i
  | _, _, .str x => .str x
  | _, _, .tup h a => .tup (mo_st hP h) (a.mo hP)
theorem FlAll.mo {K : PySem.W.Frag} {H : Hp} {p : Addr} (hP : Pt H p) : ∀ {v : List V} {d : List PyData}, FlAll K H v d → FlAll K (Ls.mo H p) v d
  | _, _, .nil => .nil
  | _, _, .cons a b => .cons (a.mo hP) (b.mo hP)
end
def Bm : Nat → Nat
  | 0 => 40
  | m + 1 => 4 * (Bm m + 2) + 3
def lv : Nat → PyData → Prop
  | 0, d => (∃ i : Int, d = .int i ∧ i.natAbs ≤ 10 ^ 21) ∨ d = .tuple []
  | m + 1, d => (∃ i : Int, d = .int i ∧ i.natAbs ≤ 10 ^ 21) ∨ ∃ ds, d = .tuple ds ∧ ds.length ≤ 4 ∧ ∀ e ∈ ds, lv m e
theorem Bm_pos : ∀ m, 40 ≤ Bm m
  | 0 => Nat.le_refl _
  | m + 1 => by
    have := Bm_pos m
    show 40 ≤ 4 * (Bm m + 2) + 3
    omega
theorem lv_bd : ∀ {m : Nat} {d : PyData}, lv m d → Bd (Bm m) (m + 1) d ∧ plD d = true
  | 0, d, .inl ⟨i, e, h⟩ => by subst e; exact ⟨(Bd.i21 h).mono (by decide) (by decide), rfl⟩
  | 0, d, .inr e => by subst e; exact ⟨⟨by decide, by decide +kernel, by decide, by decide⟩, rfl⟩
  | m + 1, d, .inl ⟨i, e, h⟩ => by subst e; exact ⟨(Bd.i21 h).mono (Nat.le_trans (by decide) (Bm_pos _)) (Nat.zero_le _), rfl⟩
  | m + 1, d, .inr ⟨ds, e, hl, h⟩ => by
    subst e
    refine ⟨Bd.tup (fun d hd => (lv_bd (h d hd)).1) hl, ?_⟩
    rw [plD, plL_all, decide_eq_true (by omega : ds.length < 41), Bool.true_and, List.all_eq_true]
    intro b hb
    obtain ⟨d, hd, rfl⟩ := List.mem_map.mp hb
    exact (lv_bd (h d hd)).2
theorem lv_int {i : Int} (h : i.natAbs ≤ 10 ^ 21) : ∀ m, lv m (.int i)
  | 0 => .inl ⟨i, rfl, h⟩
  | _ + 1 => .inl ⟨i, rfl, h⟩
theorem lv_nil : ∀ m, lv m (.tuple [])
  | 0 => .inr rfl
  | _ + 1 => .inr ⟨[], rfl, by decide, fun _ h => nomatch h⟩
def sp_ldatumL (K : PySem.W.Frag) (n : Nat) : Sp := fun vs H Q _ => ∃ (p : Addr) (m : Nat), vs = [.ref p, .int (m : Nat)] ∧ Pt H p ∧ m < n ∧ ∀ v d H', Fl K H' v d → lv m d → Pt H' p → Em p H H' → Q v H'
def sp_bent (K : PySem.W.Frag) (n : Nat) : Sp := fun vs H Q _ => ∃ (p : Addr) (v : V) (d : PyData) (m : Nat), vs = [.ref p, v] ∧ Pt H p ∧ Fl K H v d ∧ lv m d ∧ m < n ∧ m ≤ 40 ∧ ∀ v' d' H', Dt K (mo H' p) v' d' → Bd (Bm m) (m + 3) d' → Pt H' p → Em p H H' → Q v' H'
theorem DtAll.app {K : PySem.W.Frag} {H : Hp} {vs ws : List V} {ds es : List PyData} (a : DtAll K H vs ds) (b : DtAll K H ws es) : DtAll K H (vs ++ ws) (ds ++ es) := a.append b
section
variable {H : Hp} {Q : VK} {K : PySem.W.Frag}
theorem y_slT {a : Addr} {xs : List V} {lo hi : Option Int} (h : SqT K H a xs) (q : ∀ b H', Ex H H' → SqT K H' b (cutV xs lo hi) → Q (.ref b) H') : rSlU K (.ref a) lo hi H Q := by
  refine .inr (.inl ⟨a, xs, rfl, h, fun e => q a H (Ex.refl H) ?_, fun _ p n => q p _ (Ex.new n) (.of upd_same)⟩)
  unfold cutV
  rw [e.1, e.2, List.drop_zero, Nat.sub_zero, List.take_length]
  exact h
theorem cutV_to (xs : List V) {k : Nat} (h : k ≤ xs.length) : cutV xs none (some (k : Nat)) = xs.take k := by
  unfold cutV
  rw [HT.sIx_none, HT.sIx_nat, List.drop_zero, Nat.sub_zero, Nat.min_eq_left h]
theorem cutV_from (xs : List V) {k : Nat} (h : k ≤ xs.length) : cutV xs (some (k : Nat)) none = xs.drop k := by
  unfold cutV
  rw [HT.sIx_none, HT.sIx_nat, Nat.min_eq_left h]
  exact List.take_of_length_le (by rw [List.length_drop]; exact Nat.le_refl _)
end
theorem fl_ints {K : PySem.W.Frag} {H : Hp} : ∀ ns : List Int, FlAll K H (ns.map V.int) (ns.map PyData.int)
  | [] => .nil
  | n :: ns => .cons (.int n) (fl_ints ns)
def sp_nest (K : PySem.W.Frag) : Sp := fun vs H Q _ => ∃ (p : Addr) (m : Nat), vs = [.ref p, .int (m : Nat)] ∧ Pt H p ∧ m ≤ 5 ∧ ∀ v d H', Fl K H' v d → lv m d → Pt H' p → Em p H H' → Q v H'
def sp_heav (K : PySem.W.Frag) : Sp := fun vs H Q _ => ∃ (p : Addr) (m : Nat), vs = [.ref p, .int (m : Nat)] ∧ Pt H p ∧ 36 ≤ m ∧ m ≤ 42 ∧ ∀ v d H', Fl K H' v d → Bd 1200 1 d → plD d = true → Pt H' p → Em p H H' → Q v H'
/-- '1', then k times '0' -/
theorem ten_pow : ∀ k, k ≤ 42 → PySem.intText? (S (49 :: List.replicate k 48)) = some ((10 : Int) ^ k) := by
  have key : ∀ k : Fin 43, S (intL ((10 : Int) ^ k.val)) = S (49 :: List.replicate k.val 48) ∧ (intL ((10 : Int) ^ k.val)).length ≤ 4300 := by decide +kernel
  intro k hk
  obtain ⟨h1, h2⟩ := key ⟨k, by omega⟩
  rw [← h1]
  exact int_back h2
def kRev (K : PySem.W.Frag) (x : V) (H1 : Hp) (Q : VK) : Prop := ∃ a xs, x = .ref a ∧ SqL K H1 a xs ∧ ∀ p, H1 p = none → Q (.ref p) (upd H1 p (.lst xs.reverse))
section
variable {σ : L2.St} {H : Hp} {Q : VK} {K : PySem.W.Frag} {te : TE}
theorem r_revL (h : te σ H fun x H1 => kRev K x H1 Q) : tRevL K te σ H Q := h
theorem k_rev {a : Addr} {xs : List V} (h : SqL K H a xs) (q : ∀ p H', H p = none → Ex H H' → H' p = some (.lst xs.reverse) → Q (.ref p) H') : kRev K (.ref a) H Q := ⟨a, xs, rfl, h, fun p n => q p _ n (Ex.new n) upd_same⟩
end
def sp_plain (K : PySem.W.Frag) (n : Nat) : Sp := fun vs H Q _ => ∃ v d, vs = [v] ∧ Dt K H v d ∧ tdp d < n ∧ ∀ H', Ex H H' → Q (.bl (plD d)) H'
end Ls
end

section
set_option Elab.async false
set_option linter.all false
set_option maxRecDepth 100000
set_option maxHeartbeats 4000000
namespace Ls
open PySem PySem.Spec PyProof.Rows L2 SX LamX
section
variable {P : Program} {w : World} {K : PySem.W.Frag} {mg : Str → Option Value} {base : Heap} {x : Str} {st : Stmt} {ps : List Str}
theorem Df.okT {N : List Str} {k : Nat} {sp : Sp} (D : Df K mg x st ps) (B : Tb K mg x) (S : FnScope N ps (defScope st)) (len : ∀ vs H Q E, sp vs H Q E → vs.length = ps.length)
    (body : ∀ (f : Addr) (A : Around) (outer : List Env) (s : Shared) (H : Hp) (vs : List V) (Q : VK) (E : XK), RoomG k (A.deeper (envOfC x (defScope st) s.heap.objs.size f (.ref (kA K mg x)))) → sp vs H Q E →
      ∃ t, PSs (cxOf (L2.CX P w) P w K mg base N x (defScope st) f (.ref (kA K mg x)) A outer s H E) (defBody st) t ∧ t { nx := fun _ H' => Q .non H', rt := Q } (L2.start N vs) H) : Cal P w K mg base (k + 1) x st ps sp := by
  obtain ⟨f, fd, F, g, b⟩ := D.ex
  obtain ⟨oc, od, kV, doc, pm, an, cdv, ct, osl, rfl, lk, hcd⟩ := F.ex
  have hc : cdv = .ref (kA K mg x) := by
    obtain ⟨oc', od', fd', sl', _, _, _, _, l, hk, _⟩ := B.ex
    have e := B.m
    rw [g] at e
    have e2 : f = fA mg x := Value.ref.inj (Option.some.inj e)
    rw [← e2, lk] at l
    cases l
    exact hk
  subst hc
  refine ⟨f, _, ⟨len, fun A outer s H args us vs Q E hr e0 hb r hsp => ?_⟩, g, F, b⟩
  exact LamX.run_ofS lk hcd S hr.rm e0 hb r (len _ _ _ _ hsp) fun hr' => body f A outer s H vs Q E ⟨hr', hr.gd⟩ hsp
theorem Giv.up {j k : Nat} {a : Str} {Ng : List Str} {TT : (XK → Hp → VK → Prop) → Hp → VK → Prop} (h : Giv P w K mg base j x st a Ng TT) (hk : j ≤ k) : Giv P w K mg base k x st a Ng TT :=
  fun g cdv A outer s H Q f c' q tl hr => h g cdv A outer s H Q f c' q tl (hr.mono hk)
end
def lamQ (x : Str) : Str := x ++ ".<locals>." ++ "<lambda>"
/-- .., tables tracked -/
def sp_tright (Ts : List (Addr × Str)) : Sp := fun vs H Q _ => ∃ p : Addr, vs = [.ref p] ∧ Pt H p ∧ Tabs Ts H ∧ ∀ H', Pt H' p → Tabs Ts H' → Eo p H H' → Q (.bl true) H'
section
variable {σ : L2.St} {H : Hp} {Q : VK} {K : PySem.W.Frag}
theorem r_lam {T : List (Addr × Str)} {TT : (XK → Hp → VK → Prop) → Hp → VK → Prop} {t : XK → TE} (hT : Tabs T H) (h : ∀ H1, ExtN H H1 → Tabs T H1 → TT (fun E H' Q' => t E σ H' Q') H1 Q) : tLam T TT t σ H Q := ⟨hT, h⟩
/-- repr of a list of truths -/
theorem y_repB {p : Addr} {bs : List Bool} (hp : H p = some (.lst (bs.map V.bl))) (hl : bs.length ≤ 100) (q : Q (.str (PyData.list (bs.map PyData.bool)).shown) H) : rRepr K [.ref p] H Q := by
  have hall : DpAll K H (bs.map V.bl) (bs.map PyData.bool) := by
    induction bs with
    | nil => exact .nil
    | cons b bs ih =>
      have key : ∀ l : List Bool, DpAll K H (l.map V.bl) (l.map PyData.bool) := by
        intro l
        induction l with
        | nil => exact .nil
        | cons a l ih => exact .cons (.bl a) ih
      exact key _
  have bd : Bd (100 * 7 + 3) 1 (.list (bs.map PyData.bool)) := Bd.lst (b := 5) (k := 0) (fun d hd => by obtain ⟨b, _, rfl⟩ := List.mem_map.mp hd; exact Bd.bool b) (by rw [List.length_map]; exact hl)
  refine y_reprP (.lst (.of hp) hall) ?_ bd.sh (Nat.le_trans bd.len (by decide)) (Nat.le_trans bd.dep (by decide)) q
  exact PyData.hasDict_of_canLay _ (by
    rw [PyData.canLay0]
    have key : ∀ l : List Bool, PyData.canLayAll0 (l.map PyData.bool) = true := by
      intro l
      induction l with
      | nil => rfl
      | cons a l ih => rw [List.map_cons, PyData.canLayAll0, ih]; rfl
    exact key bs)
end
section
variable {σ : L2.St} {H : Hp} {Q : VK} {K : PySem.W.Frag}
theorem y_isStrD {v : V} {d : PyData} (h : Dt K H v d) (h1 : ∀ z, d = .str z → v = .str z → Q (.bl true) H) (h0 : isF d = false → Q (.bl false) H) : rIsiU K [v, .ty "str"] H Q := by
  cases d with
  | str z =>
    refine y_isi h (b := true) rfl (h1 z rfl ?_)
    cases h
    rfl
  | none => exact y_isi h (b := false) rfl (h0 rfl)
  | bool _ => exact y_isi h (b := false) rfl (h0 rfl)
  | int _ => exact y_isi h (b := false) rfl (h0 rfl)
  | list _ => exact y_isi h (b := false) rfl (h0 rfl)
  | tuple _ => exact y_isi h (b := false) rfl (h0 rfl)
  | dict _ => exact y_isi h (b := false) rfl (h0 rfl)
theorem y_eqSv {v : V} {z y : Str} (e : v = .str z) (q : Q (.bl (decide (z = y))) H) : rEqU K v (.str y) H Q := by
  subst e
  exact y_eqS q
end
end Ls
end

section
set_option Elab.async false
set_option linter.all false
set_option maxRecDepth 100000
set_option maxHeartbeats 4000000
namespace Ls
open PySem PySem.Spec PyProof.Rows L2 SX LamX
theorem Eo.putN {p D : Addr} {o : HO} {H H' : Hp} (e : Eo p H H') (h : H D = none) : Eo p H (upd H' D o) := fun a u q => by
  have n : a ≠ D := fun z => by
    subst z
    rw [mo_none h] at q
    cases q
  obtain ⟨n1, h1, z⟩ := mo_some (e a u q)
  exact mo_of n1 (by rw [upd_ne n]; exact h1) z
theorem seq_newO {K : PySem.W.Frag} {p l : Addr} {xs : List V} {H H1 H2 : Hp} (h : SqL K H l xs) (n : H p = none) (e : Ex H H1) (m : Eo p H1 H2) : SqL K H2 l xs := by
  rcases h with (h | ⟨o, h⟩) | h
  · exact .inl (.inl (mo_some (m _ _ (mo_of (ne_of_none h n) (e _ _ h) fun _ z => nomatch z))).2.1)
  · exact .inl (.inr ⟨o, (mo_some (m _ _ (mo_of (ne_of_none h n) (e _ _ h) fun _ z => nomatch z))).2.1⟩)
  · exact .inr h
section
variable {σ : L2.St} {H : Hp} {Q : VK} {K : PySem.W.Frag} {te : TE} {vs : List Nat}
theorem k_lcPotT {p : Addr} {lo : Int} {n i0 : Nat} {Ts : List (Addr × Str)} (G : V → Prop) (hP : Pt H p) (hT : Tabs Ts H) (hz : n ≤ 99999)
    (hs : ∀ (j : Nat) H1 (Q1 : VK), j < n → Eo p H H1 → Pt H1 p → Tabs Ts H1 → (∀ y H2, Eo p H1 H2 → Pt H2 p → Tabs Ts H2 → G y → Q1 y H2) → te ((wipe σ vs).set i0 (some (.int (lo + j)))) H1 Q1)
    (hw : ∀ x, wipe ((wipe σ vs).set i0 (some x)) vs = wipe σ vs) (q : ∀ D ys H2, H D = none → Eo p H H2 → Pt H2 p → Tabs Ts H2 → H2 D = some (.lst ys) → ys.length = n → (∀ y, y ∈ ys → G y) → Q (.ref D) H2) : kLc (Itr lo n) (gName i0) tYes te vs σ H Q := by
  refine k_lcR (fun j ys H' => Eo p H H' ∧ Pt H' p ∧ Tabs Ts H' ∧ ∀ y, y ∈ ys → G y) (fun D n => ⟨(Ex.new n).eo p, hP.put (hP.ne n), hT.ext (Ex.new n), fun _ h => nomatch h⟩) (fun D j ys H' nD hj hl hHD c => ?_) hw fun D ys H' nD hl hHD c => ?_
  · obtain ⟨e, hP', hT', g⟩ := c
    have npD : D ≠ p := fun z => by obtain ⟨_, _, h, _⟩ := hP; rw [z] at nD; rw [nD] at h; cases h
    refine hs j H' _ hj e hP' hT' fun y H2 e2 P2 T2 gy => k_turn (e2.lst npD hHD) hl (by omega) ⟨(e.trans e2).putN nD, P2.put npD.symm, tabs_em T2 (e2.lst npD hHD) Em.put, fun z hz => ?_⟩
    rcases List.mem_append.mp hz with hz | hz
    · exact g z hz
    · have : z = y := by simpa using hz
      subst this
      exact gy
  · exact q D ys H' nD c.1 c.2.1 c.2.2.1 hHD hl c.2.2.2
end
/-- the law's promise, where tables are tracked -/
def sp_lawT (K : PySem.W.Frag) (Ts : List (Addr × Str)) : Sp := fun vs H Q _ => ∃ (a : Addr) (ns : List Int), vs = [.ref a] ∧ SqL K H a (ns.map V.int) ∧ ns.length ≤ 63 ∧ Tabs Ts H ∧ ∀ H', Q (.bl true) H'
theorem lawT_start {nms : List Str} (K : PySem.W.Frag) (mg : Str → Option Value) (H : Hp) (a : Addr) (ns : List Int) (hn : ns.length ≤ 63) (ht : ∀ y ∈ nms, H (pA K mg y) = some (.tbl #[])) (h : SqL K H a (ns.map V.int)) :
    sp_lawT K (nms.map fun x => (pA K mg x, lamQ x)) [.ref a] H (fun v _ => v = .bl true) fun _ _ _ => False := by
  refine ⟨a, ns, rfl, h, hn, fun q hq => ?_, fun _ => rfl⟩
  obtain ⟨y, hy, rfl⟩ := List.mem_map.mp hq
  exact TabS.nil (ht y hy)
end Ls
end

section
set_option Elab.async false
set_option linter.all false
set_option maxRecDepth 100000
set_option maxHeartbeats 4000000
namespace Ls
open PySem PySem.Spec PyProof.Rows L2
section
variable {K : PySem.W.Frag} {C D : Addr} {t y : Value} {b : Bool} {r : List Value}
theorem kit_own (i : PySem.W.isClsIn K C = true) (h : PySem.W.typeIn K (.ref C) = some (.type "type")) (s : PySem.W.subIn K t (.ref C) = some b) : PySem.W.kitCls K t (.ref C) = some b := by
  unfold PySem.W.kitCls
  have i' : (PySem.W.clsIn K C).isSome = true := i
  simp only [i', h, s]
  rfl
theorem kit_bi {T : String} (m : PySem.W.kitMeta T = true) (s : PySem.W.subIn K t (.type T) = some b) : PySem.W.kitCls K t (.type T) = some b := by
  unfold PySem.W.kitCls
  simp only [m, s, if_true]
theorem kit_one (k : PySem.W.kitCls K (.ref D) y = some b) (z : PySem.W.subIn K (.ref D) (.ref D) = some true) (s : PySem.W.subIn K (.ref D) y = some b) : PySem.W.kitOne K (.ref D) y = some b := by
  unfold PySem.W.kitOne
  by_cases e : (Value.ref D == y) = true
  · have e' := beq_iff_eq.mp e
    rw [← e', z] at s
    rw [if_pos e]
    exact s
  · rw [if_neg e]
    exact k
theorem kit_exm (k : PySem.W.kitCls K t y = some b) (s : PySem.W.subIn K y (.type "BaseException") = some true) : PySem.W.exmOne K t y = some b := by
  unfold PySem.W.exmOne
  rw [s]
  exact k
theorem any_t (h : PySem.W.kitOne K t y = some true) : PySem.W.kitAny K t (y :: r) = some true := by
  unfold PySem.W.kitAny
  rw [h]
theorem any_f (h : PySem.W.kitOne K t y = some false) (h2 : PySem.W.kitAny K t r = some b) : PySem.W.kitAny K t (y :: r) = some b := by
  unfold PySem.W.kitAny
  rw [h]
  exact h2
theorem any_0 : PySem.W.kitAny K t [] = some false := rfl
end
end Ls
end

section
set_option Elab.async false
set_option linter.all false
set_option maxRecDepth 100000
set_option maxHeartbeats 4000000
namespace Ls
open PySem PySem.Spec PyProof.Rows L2
section
variable {prog : Program} {w : World} {A : Around} {E : Value → Shared → Prop} {s : Shared}
/-- where a slice without bounds goes backwards -/
theorem applied_back {sl : Addr} {vl vu vk : Value} {n : Nat} {Q : Int × Int × Nat → Shared → Prop} (hs : s.heap.IsSliceOf sl vl vu vk) (pl : IsPart vl none) (pu : IsPart vu none) (pk : IsPart vk (some (-1)))
    (h : Q ((n : Int) - 1, -1, n) s) : wpAny (model prog w) A (Builtin.Slice.sliceApplied (.ref sl) (pure (n : Int))) Q E s := by
  obtain ⟨o, ho, hc, hd⟩ := id hs
  unfold Builtin.Slice.sliceApplied Builtin.Slice.sliceFields
  refine wpAny_bind (wpAny_bind (wpAny_field ho hd (x := vl) rfl (wpAny_bind (wpAny_field ho hd (x := vu) rfl (wpAny_bind (wpAny_field ho hd (x := vk) rfl (wpAny_pure ?_)))))))
  refine wpAny_bind (HT.slicePart_ pk ?_)
  show wpAny (model prog w) A (if ((-1 : Int) == 0) = true then _ else _) Q E s
  rw [if_neg (by decide)]
  refine wpAny_bind (HT.slicePart_ pl (wpAny_bind (HT.slicePart_ pu (wpAny_bind (wpAny_pure ?_)))))
  show wpAny (model prog w) A (match Builtin.Slice.sliceAdjust none none (-1) (n : Int) with | (lo, hi) => pure (lo, (-1 : Int), Builtin.Slice.slicePlaces lo hi (-1))) Q E s
  have e1 : Builtin.Slice.sliceAdjust none none (-1) (n : Int) = ((n : Int) - 1, -1) := by
    unfold Builtin.Slice.sliceAdjust
    simp
  rw [e1]
  show wpAny (model prog w) A (pure ((n : Int) - 1, (-1 : Int), Builtin.Slice.slicePlaces ((n : Int) - 1) (-1) (-1))) Q E s
  have e2 : Builtin.Slice.slicePlaces ((n : Int) - 1) (-1) (-1) = n := by
    unfold Builtin.Slice.slicePlaces
    simp
    try omega
  rw [e2]
  exact wpAny_pure h
theorem pick_all : ∀ r : List Value, (List.range r.length).filterMap (fun k : Nat => r[k]?) = r
  | [] => rfl
  | a :: r => by
    rw [List.length_cons, List.range_succ_eq_map, List.filterMap_cons]
    simp only [List.getElem?_cons_zero, List.filterMap_map]
    congr 1
    exact pick_all r
theorem pick_same {f g : Nat → Option Value} : ∀ {l : List Nat}, (∀ k ∈ l, f k = g k) → l.filterMap f = l.filterMap g
  | [], _ => rfl
  | k :: l, h => by rw [List.filterMap_cons, List.filterMap_cons, h k List.mem_cons_self, pick_same fun j hj => h j (List.mem_cons_of_mem _ hj)]
theorem pick_back (xs : Array Value) : ((List.range xs.size).filterMap fun (k : Nat) => xs[(((xs.size : Nat) : Int) - 1 + (k : Int) * (-1)).toNat]?).toArray = xs.toList.reverse.toArray := by
  obtain ⟨l⟩ := xs
  show ((List.range l.length).filterMap fun (k : Nat) => l.toArray[(((l.length : Nat) : Int) - 1 + (k : Int) * (-1)).toNat]?).toArray = l.reverse.toArray
  have e : (List.range l.length).filterMap (fun k : Nat => l.toArray[(((l.length : Nat) : Int) - 1 + (k : Int) * (-1)).toNat]?) = (List.range l.length).filterMap (fun k : Nat => l.reverse[k]?) := by
    refine pick_same fun k hk => ?_
    have hk' := List.mem_range.mp hk
    rw [List.getElem?_reverse hk', List.getElem?_toArray]
    congr 1
    omega
  have e2 := pick_all l.reverse
  rw [List.length_reverse] at e2
  rw [e, e2]
theorem item_back {t sl : Addr} {items : Array Value} {vl vu vk : Value} {Q : Value → Shared → Prop} (ht : IsTup s.heap t items) (hs : s.heap.IsSliceOf sl vl vu vk) (pl : IsPart vl none) (pu : IsPart vu none) (pk : IsPart vk (some (-1)))
    (hz : items.size ≤ sizeLine) (h : Q (.ref s.heap.objs.size) { s with heap := s.heap.push { cls := .type "tuple", data := .seq items.toList.reverse.toArray } }) : wpAny (model prog w) A (getItem (.ref t) (.ref sl)) Q E s := by
  have fits : sizeOk (.seq items.toList.reverse.toArray) := by
    show items.toList.reverse.toArray.size ≤ sizeLine
    rw [List.size_toArray, List.length_reverse, Array.length_toList]
    exact hz
  obtain ⟨o, ho, hc, hd⟩ := id hs
  have hT : s.TypeIs (.ref sl) "slice" := ⟨o, ho, hc⟩
  unfold getItem
  try with_reducible refine wpAny_holding ?_
  first | refine wpAny_bind (wpAny_pure ?_) | skip
  refine wpAny_bind (wpAny_sequenceKey ht.typeIs (by decide) ?_)
  refine wpAny_bind (wpAny_callSpecial?_slot (name := Str.ofString "__getitem__") ht.typeIs PyProof.Rows.slot_tuple_getitem (wpAny_call_entry PyProof.Rows.slot_tuple_getitem ht.typeIs entry_tuple_getitem (Q := _) ?_ (args_tuple_getitem _ _)))
  show wpAny (model prog w) _ (Builtin.Tuple.tupleItemsOf (.ref t) >>= _) _ _ s
  refine wpAny_bind (tupleItemsOf_ ht (wpAny_bind (wpAny_typeOf hT ?_)))
  rw [if_pos (by decide)]
  refine wpAny_bind (applied_back hs pl pu pk ?_)
  have no : ¬ (((((items.size : Nat) : Int) - 1 == 0) && ((-1 : Int) == 1) && (items.size == items.size)) = true) := by simp
  show wpAny (model prog w) _ (if ((((items.size : Nat) : Int) - 1 == 0) && ((-1 : Int) == 1) && (items.size == items.size)) = true then _ else _) _ _ s
  rw [if_neg no, pick_back items]
  first
    | exact wpAny_bind (m := Builtin.Tuple.tupleExact _) (wpAny_newObj_type (wpAny_pure ⟨_, rfl, wpAny_pure h⟩) fits)
    | exact wpAny_bind (m := Builtin.Tuple.tupleExact _) (wpAny_newObj_type (wpAny_bind (wpAny_pure (wpAny_pure ⟨_, rfl, wpAny_pure h⟩))) fits)
    | exact wpAny_bind (wpAny_bind (m := Builtin.Tuple.tupleExact _) (wpAny_newObj_type (wpAny_pure (wpAny_pure ⟨_, rfl, wpAny_pure h⟩)) fits))
/-- sorted(t), t a tuple of ints -/
theorem sorted_tup {l : Addr} {vs : List Value} {ns : List Int} {Q : Value → Shared → Prop} (hl : s.heap.IsTuple l vs.toArray) (hi : IntsAre vs ns) (hz : vs.length ≤ sizeLine)
    (h : ∀ (h1 h2 : Heap) (out : List Value), (∀ b o, s.heap.get? b = some o → h1.get? b = some o) → (∀ b o, h1.get? b = some o → h2.get? b = some o) → SrtO.Srtd SrtO.ltIv out → SrtO.Stb SrtO.ltIv out vs → (∃ ep, h2.get? h1.objs.size = some (seqObj "list" out.toArray ep)) → Q (.ref h1.objs.size) { s with heap := h2 }) :
    wpAny (model prog w) A (call (.builtin "sorted") [.ref l]) Q E s := by
  obtain ⟨o, ho, hc, n, hd⟩ := id hl
  refine Calls.call_function_entry kind_sorted plain_sorted entry_sorted (args_sorted1 (.ref l)) (Q := Q) ?_
  unfold Builtin.«sorted»
  refine wpAny_bind (m := checkCount "sorted" 1 1 _) (wpAny_pure (wpAny_bind (wpAny_collect_seq l (.inr rfl) ho hc hd (fun h' hk => ?_) (by rw [List.size_toArray]; exact hz))))
  refine wpAny_bind (wpAny_newList (items := vs) ?_ hz)
  have at_ : (h'.push (seqObj "list" vs.toArray 0)).get? h'.objs.size = some (seqObj "list" vs.toArray 0) := Heap.get?_push_size _ rfl
  refine wpAny_bind (wpAny_holding (wpAny_call_entry slot_list_sort ⟨_, at_, rfl⟩ entry_list_sort (SrtO.list_sort_ord SrtO.swo_int at_ hz (fun h2 => SrtO.ints_sortable hi h2) fun out h1 h2 => ⟨_, rfl, ?_⟩) (args_list_sort (.ref h'.objs.size))))
  refine wpAny_pure ⟨_, rfl, h h' _ out hk (fun b o z => ?_) h1 h2 ?_⟩
  · have hb := Heap.lt_size z
    rw [PyProof.Rows.sortedHeap_old (Nat.ne_of_lt hb) (Nat.lt_trans hb (by rw [Heap.size_push]; exact Nat.lt_succ_self _))]
    exact Heap.get?_push_of_some _ z
  · obtain ⟨ep, z⟩ := PyProof.Rows.sortedHeap_at (vs := vs) (out := out.toArray) at_
    exact ⟨ep, z⟩
end
def rSumU (K : PySem.W.Frag) : List V → Hp → VK → Prop := fun vs H Q => rSum K vs H Q ∨ ∃ (a : Addr) (ns : List Int), vs = [.ref a] ∧ SqT K H a (ns.map V.int) ∧ Q (.int ns.sum) H
def rSortedU (K : PySem.W.Frag) : List V → Hp → VK → Prop := fun vs H Q => rSortedI K vs H Q ∨ ∃ (a : Addr) (ns : List Int), vs = [.ref a] ∧ SqT K H a (ns.map V.int) ∧ ∀ (ns' : List Int) (p : Addr), ns'.Perm ns → ns'.Pairwise (· ≤ ·) → H p = none → Q (.ref p) (upd H p (.lst (ns'.map V.int)))
section
variable {X : Cx}
theorem call_sumT (hc : X.calm = true) : CallR X (.builtin "sum") (fun vs H Q => ∃ (a : Addr) (ns : List Int), vs = [.ref a] ∧ SqT X.K H a (ns.map V.int) ∧ Q (.int ns.sum) H) := by
  intro pins s σ H vs us Q I r h
  obtain ⟨a, ns, rfl, hS, q⟩ := h
  rw [Vals.ref1 r]
  obtain ⟨its, rv, ht, hz⟩ := I.tuple hS
  have hi := rv.ints
  obtain ⟨xs, e⟩ := hi.allInts.items
  have hn : numsOf (intItems xs).toList = ns := by rw [← e]; exact hi.numsOf
  rw [nums_intItems] at hn
  have ht' : s.heap.IsTuple a its.toArray := ht
  rw [e] at ht'
  refine PySem.W.ktm_sumG (I.ok.hd hc) ht' fun h' tk t' hk => ?_
  rw [preSum_eq, List.take_of_length_le (by simp), hn]
  exact ⟨.int ns.sum, H, I.kept hk, ⟨_, rfl⟩, q⟩
theorem call_sumU (hc : X.calm = true) : CallR X (.builtin "sum") (rSumU X.K) := CallR.or (cr_sum hc) (call_sumT hc)
theorem call_sortedT : CallR X (.builtin "sorted") (fun vs H Q => ∃ (a : Addr) (ns : List Int), vs = [.ref a] ∧ SqT X.K H a (ns.map V.int) ∧ ∀ (ns' : List Int) (p : Addr), ns'.Perm ns → ns'.Pairwise (· ≤ ·) → H p = none → Q (.ref p) (upd H p (.lst (ns'.map V.int)))) := by
  intro pins s σ H vs us Q I r h
  obtain ⟨a, ns, rfl, hS, q⟩ := h
  rw [Vals.ref1 r]
  obtain ⟨its, rv, ht, hz⟩ := I.tuple hS
  have hi := rv.ints
  have hz' : its.length ≤ sizeLine := by rw [← rv.length]; exact hz
  refine sorted_tup (show s.heap.IsTuple a its.toArray from ht) hi hz' fun h1 h2 out k1 k2 o1 o2 hob => ?_
  obtain ⟨j1, j2, j3⟩ := SrtO.ints_out hi o1 o2
  obtain ⟨ep, he⟩ := hob
  have I1 : Inv X pins σ H { s with heap := h1 } := I.kept (t' := s.toks) k1
  have hlen : ((out.map SrtO.iv).map V.int).length ≤ sizeLine := by
    rw [List.length_map, j2.length_eq]
    rw [List.length_map] at hz
    exact hz
  exact ⟨.ref _, upd H h1.objs.size (.lst ((out.map SrtO.iv).map V.int)), I1.laid (t' := s.toks) k2 (Nat.le_refl _) ⟨hlen, out, ep, vals_of_ints j1, he⟩, rfl, q _ _ j2 j3 (I1.hok.fresh (Nat.le_refl _))⟩
theorem call_sortedU : CallR X (.builtin "sorted") (rSortedU X.K) := CallR.or cr_sortedI call_sortedT
/-- x[::-1] -/
def kRevU (K : PySem.W.Frag) (x : V) (H1 : Hp) (Q : VK) : Prop := ∃ a xs, x = .ref a ∧ ((SqL K H1 a xs ∧ ∀ p, H1 p = none → Q (.ref p) (upd H1 p (.lst xs.reverse))) ∨ (SqT K H1 a xs ∧ ∀ p, H1 p = none → Q (.ref p) (upd H1 p (.tup xs.reverse))))
def tRevU (K : PySem.W.Frag) (te : TE) : TE := fun σ H Q => te σ H fun x H1 => kRevU K x H1 Q
theorem pe_revU {e : Expr} {te : TE} {k : Nat} {p1 p2 p3 pos : Pos} (he : PE X e te) : PE X (.Subscript e (.Slice none none (some (.UnaryOp .USub (.Constant (.int 1) k p1) p2)) p3) pos) (tRevU X.K te) := by
  refine ⟨fun pins s σ H Q I h => Subscript_ (thn (he.run pins s σ H _ I h) fun v s1 ⟨x, H1, I1, r1, a, xs, ex, q⟩ => ?_)⟩
  subst ex
  cases r1
  have hst : PO X (some (.UnaryOp .USub (.Constant (.int 1) k p1) p2)) (tPart (tUn (rU fun i => .int (-i)) (tC (.int 1)))) := po_some (pe_un un_neg pe_int)
  refine wpAny_Slice (thn (po_none.run pins s1 σ H1 (fun o H2 => o = none ∧ H2 = H1) I1 ⟨rfl, rfl⟩) fun vl s2 ⟨l, H2, I2, pl, el, e2⟩ => ?_)
  subst el e2
  refine thn (po_none.run pins s2 σ H2 (fun o H3 => o = none ∧ H3 = H2) I2 ⟨rfl, rfl⟩) fun vu s3 ⟨u, H3, I3, pu, eu, e3⟩ => ?_
  subst eu e3
  refine thn (hst.run pins s3 σ H3 (fun o H4 => o = some (-1) ∧ H4 = H3) I3 ⟨1, rfl, -1, rfl, rfl, rfl⟩) fun vs s4 ⟨o, H4, I4, ps, eo, e4⟩ => ?_
  subst eo e4
  have I5 : Inv X pins σ H4 { s4 with heap := s4.heap.push { cls := .type "slice", data := .fields #[vl, vu, vs] } } := I4.kept (t' := s4.toks) fun b ob z => Heap.get?_push_of_some _ z
  show wpAny (model X.prog X.w) X.A (subscriptTail e _ (.ref a) (.ref s4.heap.objs.size)) (EP X pins σ Q) X.xe _
  rcases q with ⟨hx, q⟩ | ⟨hx, q⟩
  · obtain ⟨its, r, ht, hz⟩ := I5.list hx
    have hlen := r.length
    refine tail_any (ops := [.ref a, .ref s4.heap.objs.size]) ht.isList.typeIs PySem.slot_list_getitem.lookup (wpAny_getItem_list_slice ht.isList (Heap.IsSliceOf.new _ vl vu vs) pl pu ps (by decide) ?_ (by rw [List.size_toArray]; omega)) (by with_unfolding_all rfl)
    rw [PySem.W.krv_pick]
    exact ⟨.ref _, _, I5.laid (t' := s4.toks) (o := .lst xs.reverse) (fun b ob z => Heap.get?_push_of_some _ z) (Nat.le_refl _) ⟨by rw [List.length_reverse]; exact hz, _, 0, r.reverse, Heap.get?_push_size _ rfl⟩, rfl, q _ (I5.hok.fresh (Nat.le_refl _))⟩
  · obtain ⟨its, r, ht, hz⟩ := I5.tuple hx
    have hlen := r.length
    refine tail_any (ops := [.ref a, .ref s4.heap.objs.size]) ht.typeIs PyProof.Rows.slot_tuple_getitem.lookup (item_back ht (Heap.IsSliceOf.new _ vl vu vs) pl pu ps (by rw [List.size_toArray]; omega) ?_) (by with_unfolding_all rfl)
    exact ⟨.ref _, _, I5.laid (t' := s4.toks) (o := .tup xs.reverse) (fun b ob z => Heap.get?_push_of_some _ z) (Nat.le_refl _) ⟨by rw [List.length_reverse]; exact hz, its.reverse, r.reverse, _, Heap.get?_push_size _ rfl, rfl, 0, rfl⟩, rfl, q _ (I5.hok.fresh (Nat.le_refl _))⟩
end
end Ls
end

section
set_option Elab.async false
set_option linter.all false
set_option maxRecDepth 100000
set_option maxHeartbeats 4000000
namespace Ls
open PySem PySem.Spec PyProof.Rows L2 StX
/-- a promise by positional values, however they are bound, where no repr is under way -/
def FnRG (P : Program) (w : World) (K : PySem.W.Frag) (mg : Str → Option Value) (base : Heap) (k : Nat) (f : Addr) (sp : Sp) : Prop :=
  ∀ (A : Around) (outer : List Env) (s : Shared) (H : Hp) (us : List Value) (vs : List V) (Q : VK) (E : XK), RoomG k A → Env0 P w K mg base A outer s H → Vals vs us → sp vs H Q E → codeAny (model P w) A (.call (.ref f) ⟨us, []⟩) (CR (L2.CX P w) outer P w H s Q E) s
structure CalS (P : Program) (w : World) (K : PySem.W.Frag) (mg : Str → Option Value) (base : Heap) (k : Nat) (x : Str) (sp : Sp) : Prop where
  ex : ∃ f : Addr, FnRG P w K mg base k f sp ∧ mg x = some (.ref f) ∧ PySem.W.keepIn K (.ref f) = true
/-- def x(ps, *pv) -/
structure DfS (K : PySem.W.Frag) (mg : Str → Option Value) (x : Str) (st : Stmt) (ps : List Str) (pv : Str) : Prop where
  ex : ∃ (f : Addr) (fd : FuncData), Fun K x x st f fd ∧ mg x = some (.ref f) ∧ ∀ us rest : List Value, us.length = ps.length → bindArgs fd ⟨us ++ rest, []⟩ = (newTuple rest >>= fun t => pure (ps.zip us ++ [(pv, t)]))
/-- what a def with *pv promises: the rest is a new tuple -/
def spStar (n : Nat) (sp : Sp) : Sp := fun vs H Q E => ∃ ws rest, vs = ws ++ rest ∧ ws.length = n ∧ rest.length ≤ sizeLine ∧ ∀ p, H p = none → sp (ws ++ [V.ref p]) (upd H p (.tup rest)) Q E
/-- an object that stands, whatever: a def that may be called by its values -/
structure HeldG (P : Program) (w : World) (K : PySem.W.Frag) (mg : Str → Option Value) (base : Heap) (k : Nat) (f : Addr) (sp : Sp) : Prop where
  run : FnRG P w K mg base k f sp
  kp : PySem.W.keepIn K (.ref f) = true
section
variable {P : Program} {w : World} {K : PySem.W.Frag} {mg : Str → Option Value} {base : Heap} {x : Str} {st : Stmt} {ps : List Str} {pv : Str} {j k : Nat} {sp : Sp}
theorem FnRG.mono {f : Addr} (F : FnRG P w K mg base j f sp) (h : j ≤ k) : FnRG P w K mg base k f sp := fun A outer s H us vs Q E hr => F A outer s H us vs Q E (hr.mono h)
theorem CalS.up (c : CalS P w K mg base j x sp) (h : j ≤ k) : CalS P w K mg base k x sp := let ⟨f, F, a, b⟩ := c.ex; ⟨f, F.mono h, a, b⟩
theorem Cal.held (c : Cal P w K mg base k x st ps sp) : HeldG P w K mg base k (fA mg x) sp := by
  obtain ⟨f, fd, F, g, l, b⟩ := c.ex
  have e : fA mg x = f := by unfold fA; rw [g]
  rw [e]
  refine ⟨fun A outer s H us vs Q E hr e0 r h => ?_, l.kp⟩
  have hl : us.length = ps.length := by rw [← r.length]; exact F.len _ _ _ _ h
  exact F.run A outer s H ⟨us, []⟩ us vs Q E hr e0 (.of_eq (b us hl)) r h
theorem HeldG.up {f : Addr} (h : HeldG P w K mg base j f sp) (l : j ≤ k) : HeldG P w K mg base k f sp := ⟨h.run.mono l, h.kp⟩
theorem DfS.make {f : Addr} {oc : Value} {od an : Option Addr} {osl : Array (Option Value)} {kV doc pm cdv ct : Value}
    (g : mg x = some (.ref f)) (l : K.lookup f = some ⟨oc, od, .func (PySem.W.fnOf x x (defArgs st) (defBody st) (defScope st) .none kV doc pm an cdv ct), osl⟩)
    (c : PySem.W.codeIn K cdv x = true) (k : PySem.W.keepIn K (.ref f) = true)
    (h : ∀ (kV doc pm : Value) (an : Option Addr) (cdv ct : Value) (us rest : List Value), us.length = ps.length → bindArgs (PySem.W.fnOf x x (defArgs st) (defBody st) (defScope st) .none kV doc pm an cdv ct) ⟨us ++ rest, []⟩ = (newTuple rest >>= fun t => pure (ps.zip us ++ [(pv, t)]))) : DfS K mg x st ps pv :=
  ⟨f, _, fun_mk l c k, g, h kV doc pm an cdv ct⟩
theorem DfS.ok {N : List Str} (D : DfS K mg x st ps pv) (S : FnScope N (ps ++ [pv]) (defScope st))
    (body : ∀ (f : Addr) (cdv : Value) (A : Around) (outer : List Env) (s : Shared) (H : Hp) (vs : List V) (Q : VK) (E : XK), RoomG k (A.deeper (envOfC x (defScope st) s.heap.objs.size f cdv)) → sp vs H Q E →
      ∃ t, PSs (cxOf (L2.CX P w) P w K mg base N x (defScope st) f cdv A outer s H E) (defBody st) t ∧ t { nx := fun _ H' => Q .non H', rt := Q } (L2.start N vs) H) : CalS P w K mg base (k + 1) x (spStar ps.length sp) := by
  obtain ⟨f, fd, F, g, b⟩ := D.ex
  have kp := F.kp
  obtain ⟨oc, od, kV, doc, pm, an, cdv, ct, osl, rfl, lk, hcd⟩ := F.ex
  refine ⟨f, fun A outer s H us vs Q E hr e0 r hsp => ?_, g, kp⟩
  obtain ⟨ws, rest, ev, hl, hz, hq⟩ := hsp
  subst ev
  obtain ⟨u1, u2, eu, r1, r2⟩ := vals_split r
  subst eu
  have free : H s.heap.objs.size = none := e0.hok.fresh (Nat.le_refl _)
  have hl1 : u1.length = ps.length := by rw [← r1.length]; exact hl
  have hl2 : u2.length ≤ sizeLine := by rw [← r2.length]; exact hz
  refine run_bnd lk hcd S hr.rm e0 (G := fun xs H2 => ∃ p, H p = none ∧ xs = ws ++ [V.ref p] ∧ H2 = upd H p (.tup rest)) (fun A' Ex Q' h => ?_) fun s2 H2 xs ⟨p, hp, ex, eH⟩ hr' => ?_
  · rw [b u1 u2 hl1]
    refine wpAny_bind (wpAny_newTuple (wpAny_pure ?_) hl2)
    have un := un_laid (fs := frs outer) (s := s) (o := ({ cls := .type "tuple", data := .seq u2.toArray } : Obj)) (u := .tup rest) free
    have z := h _ _ (ws ++ [V.ref s.heap.objs.size]) (u1 ++ [Value.ref s.heap.objs.size]) (env0_laid e0 (o := ({ cls := .type "tuple", data := .seq u2.toArray } : Obj)) (u := .tup rest) ⟨hz, u2, r2, ⟨_, Heap.get?_push_size _ rfl, rfl, _, rfl⟩⟩) un rfl (fun e s' => cxUp outer s H _ _ E e s' un (fun c o q => Heap.get?_push_of_some _ q) rfl) (r1.append (.cons rfl .nil))
      (by rw [List.length_append, List.length_append, hl] <;> rfl) ⟨_, free, rfl, rfl⟩
    rw [List.zip_append hl1.symm] at z
    exact z
  · subst ex eH
    exact body f cdv A outer s2 _ _ Q E ⟨hr', hr.gd⟩ (hq p hp)
end
def tCalL (P : Program) (w : World) (K : PySem.W.Frag) (mg : Str → Option Value) (base : Heap) (k : Nat) (i : Nat) (E : XK) (t : TA) : TE := fun σ H Q => ∃ (f : Addr) (sp : Sp), σ[i]? = some (some (.ref f)) ∧ HeldG P w K mg base k f sp ∧ t σ H fun vs H1 => sp vs H1 Q E
section
variable {X : Cx} {k i : Nat} {sp : Sp} {E : XK} {x : Str} {p pos : Pos} {e : Expr} {es : List Expr} {t : TA}
theorem run_r {pins : List (Addr × Obj)} {σ : L2.St} {H : Hp} {s : Shared} {Q : VK} {us : List Value} {vs : List V} {f : Addr}
    (F : FnRG X.prog X.w X.K X.mg X.base k f sp) (hr : RoomG k X.A) (hx : Passes (L2.CX X.prog X.w) X E) (I : Inv X pins σ H s) (r : Vals vs us) (h : sp vs H Q E) : wpAny (model X.prog X.w) X.A (call (.ref f) us []) (EP X pins σ Q) X.xe s := by
  refine call_g (codeAny_mono (F X.A X.stack s H us vs Q E hr I.env0 r h) fun z s' hq => ?_)
  cases z with
  | error e => exact hx pins σ H s e s' I hq
  | ok fl =>
    cases fl with
    | ret u => exact I.after hq
    | next => exact False.elim hq
    | brk => exact False.elim hq
    | cont => exact False.elim hq
/-- x(e, ..), x a def with *args -/
theorem pe_gS (c : CalS X.prog X.w X.K X.mg X.base k x sp) (hr : RoomG k X.A) (hx : Passes (L2.CX X.prog X.w) X E) (ha : PA X (e :: es) t) (hg : Gl X x := by rfl)
    (hdb : (x == ("__debug__" : Str)) = false := by decide) (he : starEach (e :: es) X.env = (false, eval e X.env) :: starEach es X.env := by rfl) (hpl : (backTo pos (starEach es X.env)).any (·.1) = false := by rfl) :
    PE X (.Call (.Name x p) (e :: es) [] pos) (tCal sp E t) := by
  obtain ⟨f, F, hm, kp⟩ := c.ex
  refine ⟨fun pins s σ H Q I h => wpAny_Call_Name_kw (ld_glob I hg hm ?_ hdb)⟩
  exact PySem.W.callWith_K (h₀ := X.base) I.ok.mod.kin kp (thn (ha.run pos pins s σ H _ I h) fun us s1 ⟨vs, H1, I1, r, q⟩ => ⟨I1.kIn, run_r F hr hx I1 r q⟩) he hpl
/-- a(e, ..), a a local name that holds a def -/
theorem pe_gL (hr : RoomG k X.A) (hx : Passes (L2.CX X.prog X.w) X E) (hN : X.N[i]? = some x) (hv : Vis X.env.scope x) (ha : PA X (e :: es) t)
    (hdb : (x == ("__debug__" : Str)) = false := by decide) (hcd : (x == ("__classdict__" : Str)) = false := by decide)
    (he : starEach (e :: es) X.env = (false, eval e X.env) :: starEach es X.env := by rfl) (hpl : (backTo pos (starEach es X.env)).any (·.1) = false := by rfl) :
    PE X (.Call (.Name x p) (e :: es) [] pos) (tCalL X.prog X.w X.K X.mg X.base k i E t) := by
  refine ⟨fun pins s σ H Q I h => ?_⟩
  obtain ⟨f, sp, hs, F, ht⟩ := h
  refine wpAny_Call_Name_kw (thn ((pe_var (pos := p) hN hv hdb hcd).run pins s σ H (fun v H1 => v = .ref f ∧ H1 = H) I ⟨.ref f, hs, rfl, rfl⟩) fun u s1 ⟨v, H1, I1, r1, e1, e2⟩ => ?_)
  subst e1 e2
  cases r1
  exact PySem.W.callWith_K (h₀ := X.base) I1.ok.mod.kin F.kp (thn (ha.run pos pins s1 σ _ _ I1 ht) fun us s2 ⟨vs, H2, I2, r, q⟩ => ⟨I2.kIn, run_r F.run hr hx I2 r q⟩) he hpl
end
section
variable {σ : L2.St} {H : Hp} {Q : VK} {K : PySem.W.Frag} {P : Program} {w : World} {mg : Str → Option Value} {base : Heap} {k i : Nat} {E : XK} {t : TA} {te : TE}
theorem r_calL {f : Addr} {sp : Sp} (h1 : σ[i]? = some (some (.ref f))) (h2 : HeldG P w K mg base k f sp) (h : t σ H fun vs H1 => sp vs H1 Q E) : tCalL P w K mg base k i E t σ H Q := ⟨f, sp, h1, h2, h⟩
theorem r_revU (h : te σ H fun x H1 => kRevU K x H1 Q) : tRevU K te σ H Q := h
theorem k_revL {a : Addr} {xs : List V} (h : SqL K H a xs) (q : ∀ p H', H p = none → Ex H H' → H' p = some (.lst xs.reverse) → Q (.ref p) H') : kRevU K (.ref a) H Q := ⟨a, xs, rfl, .inl ⟨h, fun p n => q p _ n (Ex.new n) upd_same⟩⟩
theorem k_revT {a : Addr} {xs : List V} (h : SqT K H a xs) (q : ∀ p H', H p = none → Ex H H' → H' p = some (.tup xs.reverse) → Q (.ref p) H') : kRevU K (.ref a) H Q := ⟨a, xs, rfl, .inr ⟨h, fun p n => q p _ n (Ex.new n) upd_same⟩⟩
theorem y_sumL {a : Addr} {ns : List Int} (h : SqL K H a (ns.map V.int)) (q : Q (.int ns.sum) H) : rSumU K [.ref a] H Q := .inl ⟨a, ns, rfl, h, q⟩
theorem y_sumT {a : Addr} {ns : List Int} (h : SqT K H a (ns.map V.int)) (q : Q (.int ns.sum) H) : rSumU K [.ref a] H Q := .inr ⟨a, ns, rfl, h, q⟩
theorem y_sortL {a : Addr} {ns : List Int} (h : SqL K H a (ns.map V.int)) (q : ∀ (ns' : List Int) (p : Addr) H', ns'.Perm ns → ns'.Pairwise (· ≤ ·) → H p = none → Ex H H' → H' p = some (.lst (ns'.map V.int)) → Q (.ref p) H') : rSortedU K [.ref a] H Q :=
  .inl ⟨a, ns, rfl, h, fun ns' p h1 h2 n => q ns' p _ h1 h2 n (Ex.new n) upd_same⟩
theorem y_sortT {a : Addr} {ns : List Int} (h : SqT K H a (ns.map V.int)) (q : ∀ (ns' : List Int) (p : Addr) H', ns'.Perm ns → ns'.Pairwise (· ≤ ·) → H p = none → Ex H H' → H' p = some (.lst (ns'.map V.int)) → Q (.ref p) H') : rSortedU K [.ref a] H Q :=
  .inr ⟨a, ns, rfl, h, fun ns' p h1 h2 n => q ns' p _ h1 h2 n (Ex.new n) upd_same⟩
/-- d[k], d a dict of the module -/
def rIxU (K : PySem.W.Frag) (w : World) : R2 := fun x y H Q => rIx K x y H Q ∨ rIxD K w x y H Q
theorem y_ixD {a : Addr} {z : Str} {v : V} (h : KDct K w a z v) (q : Q v H) : rIxU K w (.ref a) (.str z) H Q := .inr ⟨a, z, v, rfl, rfl, h, q⟩
theorem y_ix {x y : V} (h : rIx K x y H Q) : rIxU K w x y H Q := .inl h
end
/-- a tuple of the module -/
def TupK (K : PySem.W.Frag) (a : Addr) (xs : List V) : Prop := ∃ (o : Obj) (its : Array Value) (n : Nat), K.lookup a = some o ∧ o.cls = .type "tuple" ∧ o.data = .seq its n ∧ its.size ≤ sizeLine ∧ Vals xs its.toList
theorem TupK.sq {K : PySem.W.Frag} {H : Hp} {a : Addr} {xs : List V} (h : TupK K a xs) : SqT K H a xs := .inr h
theorem y_ixK {K : PySem.W.Frag} {w : World} {H : Hp} {Q : VK} {a : Addr} {z : Str} {v : V} (h : KDct K w a z v) (q : Q v H) : rIxD K w (.ref a) (.str z) H Q := ⟨a, z, v, rfl, rfl, h, q⟩
theorem ix_U {X : Cx} : IxR X (rIxU X.K X.w) := by
  intro value slice pins s σ H x y v u Q I rx ry h hs
  rcases h with h | h
  · exact ix_seq value slice pins s σ H x y v u Q I rx ry h hs
  · exact ix_kdict value slice pins s σ H x y v u Q I rx ry h hs
end Ls
end

section
set_option Elab.async false
set_option linter.all false
set_option maxRecDepth 100000
set_option maxHeartbeats 4000000
namespace Ls
open PySem PySem.Spec PyProof.Rows L2 SX
inductive Fn
  | add | sub | mul | div | neg | min | max | less | same | length | item | pack | join | take | drop | sort | total | turn
deriving DecidableEq
def Fn.text : Fn → String
  | .add => "add" | .sub => "sub" | .mul => "mul" | .div => "div" | .neg => "neg" | .min => "min" | .max => "max" | .less => "less" | .same => "same" | .length => "length" | .item => "item" | .pack => "pack" | .join => "join"
  | .take => "take" | .drop => "drop" | .sort => "sort" | .total => "total" | .turn => "turn"
def Fn.all : List Fn := [.add, .sub, .mul, .div, .neg, .min, .max, .less, .same, .length, .item, .pack, .join, .take, .drop, .sort, .total, .turn]
def Fn.nm (f : Fn) : Str := Str.ofString f.text
/-- the function of a name -/
def fnD : PyData → Option Fn
  | .str x => Fn.all.find? fun f => decide (f.nm = x)
  | _ => none
def Fn.lo : Fn → Nat
  | .add | .sub | .mul | .div | .less | .same | .item | .take | .drop => 2
  | .pack | .join => 0
  | _ => 1
def Fn.hi : Fn → Nat
  | .add | .sub | .mul | .div | .less | .same | .item | .take | .drop => 2
  | .pack | .join | .min | .max => 6
  | _ => 1
def toI : PyData → Int
  | .int i => i
  | _ => 0
def toL : PyData → List PyData
  | .tuple ds => ds
  | _ => []
def at0 (ds : List PyData) : PyData := ds.getD 0 .none
def at1 (ds : List PyData) : PyData := ds.getD 1 .none
def minL : List Int → Int
  | [] => 0
  | a :: r => r.foldl (fun m z => if z < m then z else m) a
def maxL : List Int → Int
  | [] => 0
  | a :: r => r.foldl (fun m z => if m < z then z else m) a
/-- an insertion sort -/
def insL (a : Int) : List Int → List Int
  | [] => [a]
  | b :: r => if a ≤ b then a :: b :: r else b :: insL a r
def sortL : List Int → List Int
  | [] => []
  | a :: r => insL a (sortL r)
def canCount (ds : List PyData) : Bool := isTup (at0 ds) && (isInt (at1 ds) && decide (0 ≤ toI (at1 ds)))
/-- whether as many arguments as wanted have a datum as their result, but for its size -/
def Fn.check : Fn → List PyData → Bool
  | .add, ds | .sub, ds | .mul, ds | .neg, ds | .min, ds | .max, ds | .less, ds => ds.all isInt
  | .div, ds => ds.all isInt && !decide (toI (at1 ds) = 0)
  | .same, ds | .pack, ds => ds.all isD
  | .length, ds | .join, ds | .turn, ds => ds.all isTup
  | .item, ds => canCount ds && decide (toI (at1 ds) < ((toL (at0 ds)).length : Nat))
  | .take, ds | .drop, ds => canCount ds
  | .sort, ds | .total, ds => isTup (at0 ds) && (toL (at0 ds)).all isInt
def Fn.raw : Fn → List PyData → PyData
  | .add, ds => .int (toI (at0 ds) + toI (at1 ds))
  | .sub, ds => .int (toI (at0 ds) - toI (at1 ds))
  | .mul, ds => .int (toI (at0 ds) * toI (at1 ds))
  | .div, ds => .int ((toI (at0 ds)).fdiv (toI (at1 ds)))
  | .neg, ds => .int (-toI (at0 ds))
  | .min, ds => .int (minL (ds.map toI))
  | .max, ds => .int (maxL (ds.map toI))
  | .less, ds => .int (if toI (at0 ds) < toI (at1 ds) then 1 else 0)
  | .same, ds => .int (if PyData.eqv (at0 ds) (at1 ds) = true then 1 else 0)
  | .length, ds => .int ((toL (at0 ds)).length : Nat)
  | .item, ds => (toL (at0 ds)).getD (toI (at1 ds)).toNat .none
  | .pack, ds => .tuple ds
  | .join, ds => .tuple (ds.map toL).flatten
  | .take, ds => .tuple ((toL (at0 ds)).take (toI (at1 ds)).toNat)
  | .drop, ds => .tuple ((toL (at0 ds)).drop (toI (at1 ds)).toNat)
  | .sort, ds => .tuple ((sortL ((toL (at0 ds)).map toI)).map PyData.int)
  | .total, ds => .int ((toL (at0 ds)).map toI).sum
  | .turn, ds => .tuple (toL (at0 ds)).reverse
def faultD : PyData := .str (Str.ofString "fault")
def Fn.app (f : Fn) (ds : List PyData) : PyData :=
  if f.lo ≤ ds.length ∧ ds.length ≤ f.hi then (if f.check ds = true then (if isD (f.raw ds) = true then f.raw ds else faultD) else faultD) else faultD
def isV (d : PyData) : Bool := isF d || isD d
theorem Fn.mem (f : Fn) : f ∈ Fn.all := by cases f <;> decide
theorem Fn.nm_inj : ∀ {f g : Fn}, f.nm = g.nm → f = g := by
  have key : ∀ a b : Fn, a.nm = b.nm → a = b := by
    intro a b
    cases a <;> cases b <;> first | (intro _; rfl) | (intro h; exfalso; revert h; decide +kernel)
  exact fun {f g} h => key f g h
theorem fnD_nm (f : Fn) : fnD (.str f.nm) = some f := by
  show (Fn.all.find? fun g => decide (g.nm = f.nm)) = some f
  cases h : Fn.all.find? fun g => decide (g.nm = f.nm) with
  | none =>
    have := List.find?_eq_none.mp h f f.mem
    simp at this
  | some g =>
    have := List.find?_some h
    rw [Fn.nm_inj (of_decide_eq_true this)]
theorem fnD_some {d : PyData} {f : Fn} (h : fnD d = some f) : d = .str f.nm := by
  unfold fnD at h
  split at h
  · have := List.find?_some h
    rw [of_decide_eq_true this]
  · cases h
theorem fnD_none {x : Str} (h : fnD (.str x) = none) : ∀ f : Fn, f.nm ≠ x := fun f e => by
  have := List.find?_eq_none.mp (show Fn.all.find? (fun g => decide (g.nm = x)) = none from h) f f.mem
  simp [e] at this
theorem minL_of {ns : List Int} {m : Int} (h : m ∈ ns) (h2 : ∀ z, z ∈ ns → m ≤ z) : minL ns = m := by
  have key : ∀ (l : List Int) (a : Int), (l.foldl (fun m z => if z < m then z else m) a ∈ a :: l) ∧ ∀ z, z ∈ a :: l → l.foldl (fun m z => if z < m then z else m) a ≤ z := by
    intro l
    induction l with
    | nil =>
      intro a
      refine ⟨List.mem_cons_self, fun z hz => ?_⟩
      have e : z = a := by simpa using hz
      rw [e]
      exact Int.le_refl _
    | cons b l ih =>
      intro a
      rw [List.foldl_cons]
      have hc : (if b < a then b else a) ≤ a ∧ (if b < a then b else a) ≤ b ∧ ((if b < a then b else a) = a ∨ (if b < a then b else a) = b) := by split <;> omega
      generalize (if b < a then b else a) = c at hc ⊢
      obtain ⟨i1, i2⟩ := ih c
      refine ⟨?_, fun z hz => ?_⟩
      · rcases List.mem_cons.mp i1 with e | e
        · rw [e]
          rcases hc.2.2 with e | e
          · rw [e]; exact List.mem_cons_self
          · rw [e]; exact List.mem_cons_of_mem _ List.mem_cons_self
        · exact List.mem_cons_of_mem _ (List.mem_cons_of_mem _ e)
      · have h0 := i2 _ List.mem_cons_self
        rcases List.mem_cons.mp hz with e | hz
        · rw [e]
          omega
        · rcases List.mem_cons.mp hz with e | hz
          · rw [e]
            omega
          · exact i2 z (List.mem_cons_of_mem _ hz)
  cases ns with
  | nil => cases h
  | cons a r =>
    obtain ⟨k1, k2⟩ := key r a
    have a1 := h2 _ k1
    have a2 := k2 _ h
    show List.foldl _ a r = m
    omega
theorem maxL_of {ns : List Int} {m : Int} (h : m ∈ ns) (h2 : ∀ z, z ∈ ns → z ≤ m) : maxL ns = m := by
  have key : ∀ (l : List Int) (a : Int), (l.foldl (fun m z => if m < z then z else m) a ∈ a :: l) ∧ ∀ z, z ∈ a :: l → z ≤ l.foldl (fun m z => if m < z then z else m) a := by
    intro l
    induction l with
    | nil =>
      intro a
      refine ⟨List.mem_cons_self, fun z hz => ?_⟩
      have e : z = a := by simpa using hz
      rw [e]
      exact Int.le_refl _
    | cons b l ih =>
      intro a
      rw [List.foldl_cons]
      have hc : a ≤ (if a < b then b else a) ∧ b ≤ (if a < b then b else a) ∧ ((if a < b then b else a) = a ∨ (if a < b then b else a) = b) := by split <;> omega
      generalize (if a < b then b else a) = c at hc ⊢
      obtain ⟨i1, i2⟩ := ih c
      refine ⟨?_, fun z hz => ?_⟩
      · rcases List.mem_cons.mp i1 with e | e
        · rw [e]
          rcases hc.2.2 with e | e
          · rw [e]; exact List.mem_cons_self
          · rw [e]; exact List.mem_cons_of_mem _ List.mem_cons_self
        · exact List.mem_cons_of_mem _ (List.mem_cons_of_mem _ e)
      · have h0 := i2 _ List.mem_cons_self
        rcases List.mem_cons.mp hz with e | hz
        · rw [e]
          omega
        · rcases List.mem_cons.mp hz with e | hz
          · rw [e]
            omega
          · exact i2 z (List.mem_cons_of_mem _ hz)
  cases ns with
  | nil => cases h
  | cons a r =>
    obtain ⟨k1, k2⟩ := key r a
    have a1 := h2 _ k1
    have a2 := k2 _ h
    show List.foldl _ a r = m
    omega
theorem insL_perm (a : Int) : ∀ l, (insL a l).Perm (a :: l)
  | [] => .refl _
  | b :: r => by
    unfold insL
    split
    · exact .refl _
    · exact ((insL_perm a r).cons b).trans (.swap a b r)
theorem sortL_perm : ∀ l, (sortL l).Perm l
  | [] => .refl _
  | a :: r => (insL_perm a _).trans ((sortL_perm r).cons a)
theorem insL_sorted {a : Int} : ∀ {l : List Int}, l.Pairwise (· ≤ ·) → (insL a l).Pairwise (· ≤ ·)
  | [], _ => by unfold insL; exact .cons (fun _ h => nomatch h) .nil
  | b :: r, h => by
    unfold insL
    cases h with
    | cons h1 h2 =>
      split
      · rename_i c
        exact .cons (fun z hz => (List.mem_cons.mp hz).elim (fun e => by omega) fun hz => by have := h1 z hz; omega) (.cons h1 h2)
      · rename_i c
        refine .cons (fun z hz => ?_) (insL_sorted h2)
        rcases List.mem_cons.mp ((insL_perm a r).mem_iff.mp hz) with e | hz
        · omega
        · exact h1 z hz
theorem sortL_sorted : ∀ l : List Int, (sortL l).Pairwise (· ≤ ·)
  | [] => .nil
  | a :: r => insL_sorted (sortL_sorted r)
theorem sorted_one : ∀ {l m : List Int}, l.Perm m → l.Pairwise (· ≤ ·) → m.Pairwise (· ≤ ·) → l = m
  | [], m, p, _, _ => by rw [List.nil_perm.mp p]
  | a :: l, [], p, _, _ => absurd p.length_eq (by simp)
  | a :: l, b :: m, p, h, k => by
    cases h with
    | cons h1 h2 =>
      cases k with
      | cons k1 k2 =>
        have e : a = b := by
          have ma : a ∈ b :: m := p.mem_iff.mp List.mem_cons_self
          have mb : b ∈ a :: l := p.mem_iff.mpr List.mem_cons_self
          rcases List.mem_cons.mp ma with e | ma
          · exact e
          · rcases List.mem_cons.mp mb with e | mb
            · exact e.symm
            · have := h1 b mb
              have := k1 a ma
              omega
        subst e
        rw [sorted_one (List.perm_cons a |>.mp p) h2 k2]
theorem sortL_of {ns ns' : List Int} (p : ns'.Perm ns) (s : ns'.Pairwise (· ≤ ·)) : sortL ns = ns' := sorted_one ((sortL_perm ns).trans p.symm) (sortL_sorted ns) s
theorem ints_of : ∀ {ds : List PyData}, ds.all isInt = true → ds = (ds.map toI).map PyData.int
  | [], _ => rfl
  | d :: ds, h => by
    rw [List.all_cons, Bool.and_eq_true] at h
    have e := ints_of h.2
    cases d with
    | int i => rw [List.map_cons, List.map_cons, ← e]; rfl
    | _ => cases h.1
theorem fl_intsV {K : PySem.W.Frag} {H : Hp} : ∀ {vs : List V} {ds : List PyData}, FlAll K H vs ds → ds.all isInt = true → vs = (ds.map toI).map V.int
  | _, _, .nil, _ => rfl
  | _, _, .cons a b, h => by
    rw [List.all_cons, Bool.and_eq_true] at h
    have e := fl_intsV b h.2
    cases a with
    | int i => rw [List.map_cons, List.map_cons, ← e]; rfl
    | non => cases h.1
    | bl => cases h.1
    | str => cases h.1
    | tup => cases h.1
theorem isV_fl {K : PySem.W.Frag} {H : Hp} {v : V} {d : PyData} (h : isV d = true) (hd : Dt K H v d) : Fl K H v d := by
  unfold isV at h
  cases hf : isF d with
  | true =>
    have e := isF_inv hf
    subst e
    cases hd
    exact .str _
  | false =>
    rw [hf, Bool.false_or] at h
    refine pl_fl d (ns_pl d ?_) hd
    unfold isD at h
    rw [Bool.and_eq_true] at h
    exact h.1
theorem isV_flL {K : PySem.W.Frag} {H : Hp} : ∀ {vs : List V} {ds : List PyData}, ds.all isV = true → DtAll K H vs ds → FlAll K H vs ds
  | _, _, _, .nil => .nil
  | _, _, h, .cons a b => by
    rw [List.all_cons, Bool.and_eq_true] at h
    exact .cons (isV_fl h.1 a) (isV_flL h.2 b)
theorem isD_parts {d : PyData} (h : isD d = true) : nsD d = true ∧ tdp d ≤ 4 ∧ szD d ≤ 1000 := by
  unfold isD at h
  simp only [Bool.and_eq_true, decide_eq_true_eq] at h
  exact ⟨h.1, by omega, h.2.2⟩
theorem lt_numL (n : Nat) : n < 10 ^ (TL.numL n).length := by
  induction n using Nat.strongRecOn with
  | _ n ih =>
    by_cases h : n < 10
    · rw [TL.numL_lt h]
      exact h
    · have := ih (n / 10) (by omega)
      rw [TL.numL_step (by omega), List.length_append, List.length_singleton, Nat.pow_succ]
      omega
theorem szI_abs {i : Int} {k : Nat} (h : szI i ≤ k) : i.natAbs < 10 ^ k := by
  rw [intL_len] at h
  have h2 : (TL.numL i.natAbs).length ≤ k := by
    unfold intL at h
    split at h
    · rw [List.length_cons] at h; omega
    · omega
  exact Nat.lt_of_lt_of_le (lt_numL _) (Nat.pow_le_pow_right (by decide) h2)
end Ls
end

section
set_option Elab.async false
set_option linter.all false
set_option maxRecDepth 100000
set_option maxHeartbeats 4000000
namespace Ls
open PySem PySem.Spec PyProof.Rows L2 SX
def sp_chk (K : PySem.W.Frag) (b : List PyData → Bool) (dom : List PyData → Prop) : Sp := fun vs H Q _ => ∃ p ws ds, vs = [.ref p] ∧ SqT K H p ws ∧ FlAll K H ws ds ∧ ws.length ≤ 1000 ∧ dom ds ∧ ∀ H', Ex H H' → Q (.bl (b ds)) H'
def sp_rw (K : PySem.W.Frag) (f : Fn) : Sp := fun vs H Q _ => ∃ p ws ds, vs = [.ref p] ∧ SqT K H p ws ∧ FlAll K H ws ds ∧ ds.all isV = true ∧ f.lo ≤ ds.length ∧ ds.length ≤ f.hi ∧ f.check ds = true ∧ ∀ v H', Ex H H' → Fl K H' v (f.raw ds) → Q v H'
def sp_iscount (K : PySem.W.Frag) : Sp := fun vs H Q _ => ∃ v d, vs = [v] ∧ Dt K H v d ∧ Q (.bl (isInt d && decide (0 ≤ toI d))) H
section
variable {K : PySem.W.Frag} {H : Hp} {Q : VK}
theorem y_lstT {p : Addr} {ys : List V} (h : SqT K H p ys) (q : ∀ l H', H l = none → Ex H H' → H' l = some (.lst ys) → Q (.ref l) H') : rLstOf K [.ref p] H Q := ⟨p, ys, rfl, .inr h, fun l n => q l _ n (Ex.new n) upd_same⟩
theorem y_lstL {p : Addr} {ys : List V} (h : SqL K H p ys) (q : ∀ l H', H l = none → Ex H H' → H' l = some (.lst ys) → Q (.ref l) H') : rLstOf K [.ref p] H Q := ⟨p, ys, rfl, .inl h, fun l n => q l _ n (Ex.new n) upd_same⟩
theorem y_minL {a : Addr} {ns : List Int} (h : SqL K H a (ns.map V.int)) (hn : 0 < ns.length) (q : ∀ m, m ∈ ns → (∀ z, z ∈ ns → m ≤ z) → Q (.int m) H) : rMinU K [.ref a] H Q := .inr ⟨a, ns, rfl, h, hn, q⟩
theorem y_isTupF {x : V} {d : PyData} (h : Fl K H x d) (q : Q (.bl (isTup d)) H) : rIsiU K [x, .ty "tuple"] H Q := by
  cases d with
  | str z => exact y_isi h.dt (b := false) rfl q
  | int i => exact y_isi h.dt (b := false) rfl q
  | tuple ds => exact y_isi h.dt (b := true) rfl q
  | none => exact y_isi h.dt (b := false) rfl q
  | bool _ => exact y_isi h.dt (b := false) rfl q
  | list _ => cases h
  | dict _ => cases h
theorem cutV_take (xs : List V) (k : Nat) : cutV xs none (some (k : Nat)) = xs.take k := by
  unfold cutV
  rw [HT.sIx_none, HT.sIx_nat, List.drop_zero, Nat.sub_zero]
  by_cases h : k ≤ xs.length
  · rw [Nat.min_eq_left h]
  · rw [Nat.min_eq_right (by omega), List.take_length, List.take_of_length_le (by omega)]
theorem cutV_drop (xs : List V) (k : Nat) : cutV xs (some (k : Nat)) none = xs.drop k := by
  unfold cutV
  rw [HT.sIx_none, HT.sIx_nat]
  by_cases h : k ≤ xs.length
  · rw [Nat.min_eq_left h]
    exact List.take_of_length_le (by rw [List.length_drop]; exact Nat.le_refl _)
  · rw [Nat.min_eq_right (by omega), List.drop_eq_nil_of_le (Nat.le_refl _), List.drop_eq_nil_of_le (by omega), List.take_nil]
end
mutual
theorem ns_lay : ∀ d : PyData, nsD d = true → PyData.canLay0 d = true ∧ PyData.depth d = tdp d
  | .int i, _ => ⟨rfl, rfl⟩
  | .tuple ds, h => by
    rw [nsD, Bool.and_eq_true] at h
    obtain ⟨a, b⟩ := nsL_lay ds h.2
    refine ⟨by rw [PyData.canLay0]; exact a, ?_⟩
    rw [PyData.depth, tdp, b]
    omega
  | .none, h => by simp [nsD] at h
  | .bool _, h => by simp [nsD] at h
  | .str _, h => by simp [nsD] at h
  | .list _, h => by simp [nsD] at h
  | .dict _, h => by simp [nsD] at h
theorem nsL_lay : ∀ ds : List PyData, nsL ds = true → PyData.canLayAll0 ds = true ∧ PyData.depthAll ds = tdpL ds
  | [], _ => ⟨rfl, rfl⟩
  | d :: ds, h => by
    rw [nsL, Bool.and_eq_true] at h
    obtain ⟨a, b⟩ := ns_lay d h.1
    obtain ⟨a2, b2⟩ := nsL_lay ds h.2
    refine ⟨by rw [PyData.canLayAll0, a, a2]; rfl, ?_⟩
    rw [PyData.depthAll, tdpL, b, b2]
end
theorem isD_shaped {d : PyData} (h : isD d = true) : SeqAt.shaped d = true := by
  obtain ⟨h1, h2, _⟩ := isD_parts h
  obtain ⟨a, b⟩ := ns_lay d h1
  unfold SeqAt.shaped
  rw [a, Bool.true_and, decide_eq_true_eq]
  omega
mutual
theorem sz_sm : ∀ d : PyData, nsD d = true → szD d ≤ 1000 → smD d = true
  | .int i, _, h => by
    rw [szD] at h
    rw [smD, decide_eq_true_eq]
    exact DL_of (szI_abs h) (by decide)
  | .tuple ds, h, z => by
    rw [nsD, Bool.and_eq_true] at h
    rw [szD] at z
    rw [smD]
    exact szL_sm ds h.2 (by omega)
  | .none, h, _ => by simp [nsD] at h
  | .bool _, h, _ => by simp [nsD] at h
  | .str _, h, _ => by simp [nsD] at h
  | .list _, h, _ => by simp [nsD] at h
  | .dict _, h, _ => by simp [nsD] at h
theorem szL_sm : ∀ ds : List PyData, nsL ds = true → szL ds ≤ 1000 → smL ds = true
  | [], _, _ => rfl
  | d :: ds, h, z => by
    rw [nsL, Bool.and_eq_true] at h
    rw [szL] at z
    have h1 := szD_pos d h.1
    have h2 := szL_nn ds h.2
    rw [smL, sz_sm d h.1 (by omega), szL_sm ds h.2 (by omega)]
    rfl
end
theorem isD_sm {d : PyData} (h : isD d = true) : smD d = true := let ⟨a, _, c⟩ := isD_parts h; sz_sm d a c
theorem isV_sm {d : PyData} (h : isV d = true) : smD d = true ∧ tdp d ≤ 4 := by
  unfold isV at h
  cases hf : isF d with
  | true =>
    have e := isF_inv hf
    subst e
    exact ⟨rfl, Nat.zero_le _⟩
  | false =>
    rw [hf, Bool.false_or] at h
    exact ⟨isD_sm h, (isD_parts h).2.1⟩
theorem isV_int {i : Int} (h : isV (.int i) = true) : i.natAbs < 10 ^ 1000 := by
  have h2 : isD (.int i) = true := by
    unfold isV at h
    exact h
  have := (isD_parts h2).2.2
  rw [szD] at this
  exact szI_abs this
theorem dig_bits {n : Nat} (h : n < 10 ^ 1000) : n < 2 ^ 3400 := Nat.lt_trans h (by decide +kernel)
theorem tdpL_all {ds : List PyData} {m : Nat} (h : ∀ d ∈ ds, tdp d ≤ m) : tdpL ds ≤ m := tdpL_le h
section
variable {K : PySem.W.Frag} {H : Hp}
theorem two_of {ds : List PyData} (h1 : 2 ≤ ds.length) (h2 : ds.length ≤ 2) : ∃ a b, ds = [a, b] := by
  match ds, h1, h2 with
  | [a, b], _, _ => exact ⟨a, b, rfl⟩
theorem one_of {ds : List PyData} (h1 : 1 ≤ ds.length) (h2 : ds.length ≤ 1) : ∃ a, ds = [a] := by
  match ds, h1, h2 with
  | [a], _, _ => exact ⟨a, rfl⟩
theorem fl_two {ws : List V} {a b : PyData} (h : FlAll K H ws [a, b]) : ∃ x y, ws = [x, y] ∧ Fl K H x a ∧ Fl K H y b := by
  cases h with | cons h1 h2 => cases h2 with | cons h3 h4 => cases h4; exact ⟨_, _, rfl, h1, h3⟩
theorem fl_one {ws : List V} {a : PyData} (h : FlAll K H ws [a]) : ∃ x, ws = [x] ∧ Fl K H x a := by
  cases h with | cons h1 h2 => cases h2; exact ⟨_, rfl, h1⟩
theorem isInt_inv {d : PyData} (h : isInt d = true) : ∃ i, d = .int i := by
  cases d with
  | int i => exact ⟨i, rfl⟩
  | _ => cases h
theorem two_ints {ws : List V} {ds : List PyData} (hF : FlAll K H ws ds) (h1 : 2 ≤ ds.length) (h2 : ds.length ≤ 2) (hc : ds.all isInt = true) : ∃ a b : Int, ds = [.int a, .int b] ∧ ws = [.int a, .int b] := by
  obtain ⟨a, b, rfl⟩ := two_of h1 h2
  rw [List.all_cons, List.all_cons, List.all_nil, Bool.and_true, Bool.and_eq_true] at hc
  obtain ⟨i, rfl⟩ := isInt_inv hc.1
  obtain ⟨j, rfl⟩ := isInt_inv hc.2
  have e := fl_intsV hF rfl
  exact ⟨i, j, rfl, e⟩
theorem one_int {ws : List V} {ds : List PyData} (hF : FlAll K H ws ds) (h1 : 1 ≤ ds.length) (h2 : ds.length ≤ 1) (hc : ds.all isInt = true) : ∃ a : Int, ds = [.int a] ∧ ws = [.int a] := by
  obtain ⟨a, rfl⟩ := one_of h1 h2
  rw [List.all_cons, List.all_nil, Bool.and_true] at hc
  obtain ⟨i, rfl⟩ := isInt_inv hc
  exact ⟨i, rfl, fl_intsV hF rfl⟩
theorem fl_tup {x : V} {d : PyData} (h : Fl K H x d) (ht : isTup d = true) : ∃ a xs ds, d = .tuple ds ∧ x = .ref a ∧ SqT K H a xs ∧ FlAll K H xs ds := by
  obtain ⟨ds, rfl⟩ := isTup_inv ht
  obtain ⟨a, xs, e, hS, hF⟩ := h.tup_inv
  exact ⟨a, xs, ds, rfl, e, hS, hF⟩
theorem isV_tup {ds : List PyData} (h : isV (.tuple ds) = true) : ds.length ≤ 40 ∧ nsL ds = true ∧ 1 + szL ds ≤ 1000 ∧ 1 + tdpL ds ≤ 4 := by
  have h2 : isD (.tuple ds) = true := by
    unfold isV at h
    exact h
  obtain ⟨a, b, c⟩ := isD_parts h2
  rw [nsD, Bool.and_eq_true, decide_eq_true_eq] at a
  rw [szD] at c
  rw [tdp] at b
  exact ⟨a.1, a.2, c, b⟩
theorem all_map {b : PyData → Bool} (ds : List PyData) : (ds.map b).all id = ds.all b := by
  rw [List.all_map]
  rfl
theorem FlAll.rev : ∀ {vs : List V} {ds : List PyData}, FlAll K H vs ds → FlAll K H vs.reverse ds.reverse
  | _, _, .nil => .nil
  | _, _, .cons a b => by rw [List.reverse_cons, List.reverse_cons]; exact (FlAll.rev b).snoc a
theorem fl_str {x : V} {z : Str} (h : Fl K H x (.str z)) : x = .str z := by cases h; rfl
end
end Ls
end

section
set_option Elab.async false
set_option linter.all false
set_option maxRecDepth 100000
set_option maxHeartbeats 4000000
namespace Ls
open PySem PySem.Spec PyProof.Rows L2 SX
def namesV : List V := Fn.all.map fun f => .str f.nm
theorem names_in (x : Str) : inV (.str x) namesV = (fnD (.str x)).isSome := by
  have key : ∀ l : List Fn, inV (.str x) (l.map fun f => V.str f.nm) = (l.find? fun f => decide (f.nm = x)).isSome := by
    intro l
    induction l with
    | nil => rfl
    | cons f l ih =>
      have e : inV (.str x) ((f :: l).map fun f => V.str f.nm) = (eqV (.str f.nm) (.str x) || inV (.str x) (l.map fun f => V.str f.nm)) := rfl
      rw [e, ih, List.find?_cons]
      have e2 : eqV (.str f.nm) (.str x) = decide (f.nm = x) := by
        show (f.nm == x) = _
        by_cases c : f.nm = x
        · rw [decide_eq_true c, c]; simp
        · rw [decide_eq_false c]; simpa using c
      rw [e2]
      cases decide (f.nm = x) <;> rfl
  exact key Fn.all
theorem names_flat : namesV.all flatV = true := by decide
def sp_isfun (K : PySem.W.Frag) : Sp := fun vs H Q _ => ∃ v d, vs = [v] ∧ Dt K H v d ∧ Q (.bl (fnD d).isSome) H
def sp_arity (K : PySem.W.Frag) (C : Addr) : Sp := fun vs H Q E => ∃ v d, vs = [v] ∧ Dt K H v d ∧ (∀ f p, fnD d = some f → TupK K p [.int (f.lo : Nat), .int (f.hi : Nat)] → Q (.ref p) H) ∧
  (fnD d = none → ∀ dd H', Ex H H' → H' dd = some (.xd [("value", v)]) → E (.ref C) (some dd) H')
/-- the first that is no value -/
def firstBad : List PyData → Option Nat
  | [] => none
  | d :: ds => if isV d = true then (firstBad ds).map (· + 1) else some 0
theorem firstBad_none : ∀ {ds : List PyData}, firstBad ds = none → ds.all isV = true
  | [], _ => rfl
  | d :: ds, h => by
    unfold firstBad at h
    split at h
    · rename_i c
      rw [List.all_cons, c, firstBad_none (by simpa using h)]
      rfl
    · cases h
theorem firstBad_all : ∀ {ds : List PyData}, ds.all isV = true → firstBad ds = none
  | [], _ => rfl
  | d :: ds, h => by
    rw [List.all_cons, Bool.and_eq_true] at h
    unfold firstBad
    rw [if_pos h.1, firstBad_all h.2]
    rfl
theorem firstBad_at : ∀ {ds : List PyData} {j : Nat} {d : PyData}, (∀ e ∈ ds.take j, isV e = true) → ds[j]? = some d → isV d = false → firstBad ds = some j
  | [], j, d, _, h, _ => by simp at h
  | e :: ds, 0, d, _, h, b => by
    have : e = d := by simpa using h
    subst this
    unfold firstBad
    rw [if_neg (by rw [b]; exact Bool.false_ne_true)]
  | e :: ds, j + 1, d, a, h, b => by
    unfold firstBad
    rw [if_pos (a e (by simp)), firstBad_at (j := j) (fun x hx => a x (by rw [List.take_succ_cons]; exact List.mem_cons_of_mem _ hx)) (by simpa using h) b]
    rfl
/-- apply(v, *ws): what it gives, what it raises -/
def sp_app (K : PySem.W.Frag) (CF CV : Addr) : Sp := fun vs H Q E => ∃ (v : V) (d : PyData) (p : Addr) (ws : List V) (ds : List PyData), vs = [v, .ref p] ∧ Dt K H v d ∧ SqT K H p ws ∧ DtAll K H ws ds ∧ ws.length ≤ 1000 ∧ (∀ e ∈ ds, smD e = true ∧ tdp e < 10) ∧
  (fnD d = none → ∀ dd H', Ex H H' → H' dd = some (.xd [("value", v)]) → E (.ref CF) (some dd) H') ∧
  (∀ f j w, fnD d = some f → firstBad ds = some j → ws[j]? = some w → ∀ dd H', Ex H H' → H' dd = some (.xd [("value", w)]) → E (.ref CV) (some dd) H') ∧
  (∀ f, fnD d = some f → ds.all isV = true → ∀ r H', Ex H H' → Fl K H' r (f.app ds) → Q r H')
theorem app_V (f : Fn) (ds : List PyData) : isV (f.app ds) = true := by
  unfold Fn.app
  have hf : isV faultD = true := by decide +kernel
  split
  · split
    · split
      · rename_i h
        unfold isV
        rw [h, Bool.or_true]
      · exact hf
    · exact hf
  · exact hf
theorem dig_int {i : Int} {k : Nat} (h : i.natAbs < 10 ^ k) (hk : k ≤ 4300) : smD (.int i) = true := by
  rw [smD, decide_eq_true_eq]
  exact DL_of h hk
theorem sum_bound : ∀ {ns : List Int} {b : Nat}, (∀ n ∈ ns, n.natAbs ≤ b) → ns.sum.natAbs ≤ ns.length * b
  | [], b, _ => Nat.zero_le _
  | n :: ns, b, h => by
    have h1 := h n List.mem_cons_self
    have h2 := sum_bound (ns := ns) (b := b) fun m hm => h m (List.mem_cons_of_mem _ hm)
    rw [List.sum_cons, List.length_cons, Nat.succ_mul]
    omega
theorem mem_isV {ds : List PyData} (h : ds.all isV = true) {d : PyData} (hd : d ∈ ds) : isV d = true := List.all_eq_true.mp h d hd
theorem nsL_all2 {ds : List PyData} (h : nsL ds = true) {d : PyData} (hd : d ∈ ds) : nsD d = true := nsL_mem h hd
theorem smL_of : ∀ {ds : List PyData}, (∀ d, d ∈ ds → smD d = true) → smL ds = true
  | [], _ => rfl
  | d :: ds, h => by rw [smL, h d List.mem_cons_self, smL_of fun e he => h e (List.mem_cons_of_mem _ he)]; rfl
/-- an item of a value -/
theorem item_sm {es : List PyData} (h : isV (.tuple es) = true) {d : PyData} (hd : d ∈ es) : smD d = true ∧ tdp d ≤ 3 := by
  obtain ⟨v1, v2, v3, v4⟩ := isV_tup h
  have := tdp_mem hd
  exact ⟨smL_mem (szL_sm es v2 (by omega)) hd, by omega⟩
theorem item_int {es : List PyData} (h : isV (.tuple es) = true) {i : Int} (hd : PyData.int i ∈ es) : i.natAbs < 10 ^ 1000 := by
  obtain ⟨v1, v2, v3, v4⟩ := isV_tup h
  have h1 := szL_mem v2 hd
  rw [szD] at h1
  exact szI_abs (show szI i ≤ (1000 : Nat) by omega)
theorem isV_tupOf {ds : List PyData} (h : ds.all isV = true) : isTup (at0 ds) = true → isV (.tuple (toL (at0 ds))) = true := fun ht => by
  cases ds with
  | nil => cases ht
  | cons d ds =>
    rw [List.all_cons, Bool.and_eq_true] at h
    obtain ⟨es, e⟩ := isTup_inv (show isTup d = true from ht)
    subst e
    exact h.1
theorem fold_mem (c : Int → Int → Bool) : ∀ (l : List Int) (a : Int), l.foldl (fun m z => if c m z = true then z else m) a ∈ a :: l
  | [], a => List.mem_cons_self
  | b :: l, a => by
    rw [List.foldl_cons]
    have h := fold_mem c l (if c a b = true then b else a)
    rcases List.mem_cons.mp h with e | e
    · rw [e]
      split
      · exact List.mem_cons_of_mem _ List.mem_cons_self
      · exact List.mem_cons_self
    · exact List.mem_cons_of_mem _ (List.mem_cons_of_mem _ e)
theorem minL_mem {ns : List Int} (h : 0 < ns.length) : minL ns ∈ ns := by
  cases ns with
  | nil => cases h
  | cons a r =>
    have z := fold_mem (fun m z => decide (z < m)) r a
    simp only [decide_eq_true_eq] at z
    exact z
theorem maxL_mem {ns : List Int} (h : 0 < ns.length) : maxL ns ∈ ns := by
  cases ns with
  | nil => cases h
  | cons a r =>
    have z := fold_mem (fun m z => decide (m < z)) r a
    simp only [decide_eq_true_eq] at z
    exact z
theorem p2 : 10 ^ 1000 + 10 ^ 1000 ≤ 10 ^ 1001 := by decide +kernel
theorem raw_sm (f : Fn) {ds : List PyData} (hV : ds.all isV = true) (h1 : f.lo ≤ ds.length) (h2 : ds.length ≤ f.hi) (hc : f.check ds = true) : smD (f.raw ds) = true ∧ tdp (f.raw ds) < 10 := by
  have ints2 : 2 ≤ ds.length → ds.length ≤ 2 → ds.all isInt = true → ∃ a b : Int, ds = [.int a, .int b] ∧ a.natAbs < 10 ^ 1000 ∧ b.natAbs < 10 ^ 1000 := fun k1 k2 k3 => by
    obtain ⟨x, y, e⟩ := two_of k1 k2
    subst e
    rw [List.all_cons, List.all_cons, List.all_nil, Bool.and_true, Bool.and_eq_true] at k3
    obtain ⟨i, e1⟩ := isInt_inv k3.1
    obtain ⟨j, e2⟩ := isInt_inv k3.2
    subst e1 e2
    exact ⟨i, j, rfl, isV_int (mem_isV hV (by simp)), isV_int (mem_isV hV (by simp))⟩
  have small : ∀ i : Int, i.natAbs < 10 ^ 3 → smD (.int i) = true ∧ tdp (.int i) < 10 := fun i hi => ⟨dig_int hi (by decide), (show 0 < 10 by decide)⟩
  have big : ∀ (i : Int) (k : Nat), i.natAbs < 10 ^ k → k ≤ 4300 → smD (.int i) = true ∧ tdp (.int i) < 10 := fun i k hi hk => ⟨dig_int hi hk, (show 0 < 10 by decide)⟩
  have flat1 : ∀ es : List PyData, (∀ d ∈ es, smD d = true ∧ tdp d ≤ 4) → smD (.tuple es) = true ∧ tdp (.tuple es) < 10 := fun es h => by
    refine ⟨by rw [smD]; exact smL_of fun d hd => (h d hd).1, ?_⟩
    rw [tdp]
    have := tdpL_le (m := 4) fun d hd => (h d hd).2
    omega
  have pp := p2
  cases f with
  | add =>
    obtain ⟨a, b, rfl, ha, hb⟩ := ints2 h1 h2 hc
    exact big (a + b) 1001 (by generalize 10 ^ 1000 = M at *; generalize 10 ^ 1001 = N at *; omega) (by decide)
  | sub =>
    obtain ⟨a, b, rfl, ha, hb⟩ := ints2 h1 h2 hc
    exact big (a - b) 1001 (by generalize 10 ^ 1000 = M at *; generalize 10 ^ 1001 = N at *; omega) (by decide)
  | mul =>
    obtain ⟨a, b, rfl, ha, hb⟩ := ints2 h1 h2 hc
    refine big (a * b) 2000 ?_ (by decide)
    rw [Int.natAbs_mul]
    exact Nat.lt_of_lt_of_le (Nat.mul_lt_mul'' ha hb) (by rw [← Nat.pow_add]; exact Nat.le_refl _)
  | div =>
    have hc' : (ds.all isInt && !decide (toI (at1 ds) = 0)) = true := hc
    rw [Bool.and_eq_true] at hc'
    obtain ⟨a, b, rfl, ha, hb⟩ := ints2 h1 h2 hc'.1
    have h0 : b ≠ 0 := by
      have e : toI (at1 [PyData.int a, PyData.int b]) = b := rfl
      rw [e] at hc'
      simpa using hc'.2
    refine big (a.fdiv b) 1001 ?_ (by decide)
    have h3 : (a.fdiv b).natAbs ≤ a.natAbs + 1 := by
      have e := Int.fdiv_eq_ediv (a := a) (b := b)
      have z := Int.natAbs_ediv_le_natAbs a b
      split at e <;> omega
    generalize 10 ^ 1000 = M at *
    generalize 10 ^ 1001 = N at *
    omega
  | neg =>
    obtain ⟨x, rfl⟩ := one_of h1 h2
    obtain ⟨i, rfl⟩ := isInt_inv (by simpa using (show List.all [x] isInt = true from hc))
    have := isV_int (mem_isV hV (List.mem_singleton.mpr rfl))
    exact big (-i) 1000 (by rw [Int.natAbs_neg]; exact this) (by decide)
  | min =>
    have hi : ds.all isInt = true := hc
    have hm : minL (ds.map toI) ∈ ds.map toI := minL_mem (by rw [List.length_map]; exact h1)
    obtain ⟨d, hd, e⟩ := List.mem_map.mp hm
    obtain ⟨i, rfl⟩ := isInt_inv (List.all_eq_true.mp hi d hd)
    have e0 : Fn.raw .min ds = .int i := by
      show PyData.int (minL (ds.map toI)) = _
      rw [← e]
      rfl
    rw [e0]
    exact big i 1000 (isV_int (mem_isV hV hd)) (by decide)
  | max =>
    have hi : ds.all isInt = true := hc
    have hm : maxL (ds.map toI) ∈ ds.map toI := maxL_mem (by rw [List.length_map]; exact h1)
    obtain ⟨d, hd, e⟩ := List.mem_map.mp hm
    obtain ⟨i, rfl⟩ := isInt_inv (List.all_eq_true.mp hi d hd)
    have e0 : Fn.raw .max ds = .int i := by
      show PyData.int (maxL (ds.map toI)) = _
      rw [← e]
      rfl
    rw [e0]
    exact big i 1000 (isV_int (mem_isV hV hd)) (by decide)
  | less =>
    refine small _ ?_
    split <;> decide
  | same =>
    refine small _ ?_
    split <;> decide
  | length =>
    obtain ⟨x, rfl⟩ := one_of h1 h2
    obtain ⟨es, rfl⟩ := isTup_inv (by simpa using (show List.all [x] isTup = true from hc))
    have := (isV_tup (mem_isV hV (List.mem_singleton.mpr rfl))).1
    exact small _ (by show ((es.length : Nat) : Int).natAbs < 10 ^ 3; omega)
  | item =>
    have hc' : (canCount ds && decide (toI (at1 ds) < ((toL (at0 ds)).length : Nat))) = true := hc
    rw [Bool.and_eq_true, decide_eq_true_eq] at hc'
    have hk : (isTup (at0 ds) && (isInt (at1 ds) && decide (0 ≤ toI (at1 ds)))) = true := hc'.1
    simp only [Bool.and_eq_true, decide_eq_true_eq] at hk
    have hv := isV_tupOf hV hk.1
    have hlt : (toI (at1 ds)).toNat < (toL (at0 ds)).length := by omega
    have e : Fn.raw .item ds = (toL (at0 ds))[(toI (at1 ds)).toNat] := by
      show (toL (at0 ds)).getD (toI (at1 ds)).toNat .none = _
      rw [List.getD_eq_getElem?_getD, List.getElem?_eq_getElem hlt]
      rfl
    rw [e]
    have := item_sm hv (List.getElem_mem hlt)
    exact ⟨this.1, by omega⟩
  | pack => exact flat1 ds fun d hd => isV_sm (mem_isV hV hd)
  | join =>
    refine flat1 _ fun d hd => ?_
    obtain ⟨l, hl, hd⟩ := List.mem_flatten.mp hd
    obtain ⟨t, ht, rfl⟩ := List.mem_map.mp hl
    obtain ⟨es, rfl⟩ := isTup_inv (List.all_eq_true.mp (show ds.all isTup = true from hc) t ht)
    have := item_sm (mem_isV hV ht) hd
    exact ⟨this.1, by omega⟩
  | take =>
    have hk : (isTup (at0 ds) && (isInt (at1 ds) && decide (0 ≤ toI (at1 ds)))) = true := hc
    simp only [Bool.and_eq_true, decide_eq_true_eq] at hk
    exact flat1 _ fun d hd => let z := item_sm (isV_tupOf hV hk.1) (List.mem_of_mem_take hd); ⟨z.1, by have := z.2; omega⟩
  | drop =>
    have hk : (isTup (at0 ds) && (isInt (at1 ds) && decide (0 ≤ toI (at1 ds)))) = true := hc
    simp only [Bool.and_eq_true, decide_eq_true_eq] at hk
    exact flat1 _ fun d hd => let z := item_sm (isV_tupOf hV hk.1) (List.mem_of_mem_drop hd); ⟨z.1, by have := z.2; omega⟩
  | sort =>
    have hk : (isTup (at0 ds) && (toL (at0 ds)).all isInt) = true := hc
    rw [Bool.and_eq_true] at hk
    have hv := isV_tupOf hV hk.1
    refine flat1 _ fun d hd => ?_
    obtain ⟨i, hi, rfl⟩ := List.mem_map.mp hd
    have hi2 := (sortL_perm _).mem_iff.mp hi
    have hd2 : PyData.int i ∈ toL (at0 ds) := by
      rw [ints_of hk.2]
      exact List.mem_map.mpr ⟨i, hi2, rfl⟩
    have := item_sm hv hd2
    exact ⟨this.1, by omega⟩
  | total =>
    have hk : (isTup (at0 ds) && (toL (at0 ds)).all isInt) = true := hc
    rw [Bool.and_eq_true] at hk
    have hv := isV_tupOf hV hk.1
    have h40 := (isV_tup hv).1
    have hb : ∀ n ∈ (toL (at0 ds)).map toI, n.natAbs ≤ 10 ^ 1000 := fun n hn => by
      obtain ⟨d, hd, rfl⟩ := List.mem_map.mp hn
      obtain ⟨i, rfl⟩ := isInt_inv (List.all_eq_true.mp hk.2 d hd)
      exact Nat.le_of_lt (item_int hv hd)
    have hs := sum_bound hb
    rw [List.length_map] at hs
    refine big _ 1002 (Nat.lt_of_le_of_lt hs (Nat.lt_of_le_of_lt (Nat.mul_le_mul_right _ h40) (by decide +kernel))) (by decide)
  | turn =>
    obtain ⟨x, rfl⟩ := one_of h1 h2
    obtain ⟨es, rfl⟩ := isTup_inv (by simpa using (show List.all [x] isTup = true from hc))
    have hv := mem_isV hV (List.mem_singleton.mpr rfl)
    exact flat1 _ fun d hd => let z := item_sm hv (List.mem_reverse.mp hd); ⟨z.1, by have := z.2; omega⟩
end Ls
end

section
set_option Elab.async false
set_option linter.all false
set_option maxRecDepth 100000
set_option maxHeartbeats 4000000
namespace Ls
open PySem PySem.Spec PyProof.Rows L2
/-- one clause: its class, the slot of its name, its suite -/
structure Cl where
  c : Value
  i : Option Nat
  ts : Addr → Value → Option Addr → TS
/-- the ends of a named clause's suite: the name is gone -/
def endN (i : Nat) (D : Ends) : Ends := { nx := fun σ H => D.nx (σ.set i none) H, rt := D.rt, bk := fun σ H => D.bk (σ.set i none) H, ct := fun σ H => D.ct (σ.set i none) H }
def goN (q : Cl) (a : Addr) (cls : Value) (d : Option Addr) (D : Ends) (σ : L2.St) (H : Hp) : Prop :=
  match q.i with
  | none => q.ts a cls d D σ H
  | some i => q.ts a cls d (endN i D) (σ.set i (some (.ref a))) H
/-- what the clauses wish of an exception of the body, one after the other -/
def wCls (K : PySem.W.Frag) (Wo : WX) (D : Ends) : List Cl → WX
  | [] => Wo
  | q :: r => fun cls d σ H => ∃ b, PySem.W.exmOne K cls q.c = some b ∧ (b = true → ∀ a, H a = none → goN q a cls d D σ H) ∧ (b = false → wCls K Wo D r cls d σ H)
def suiteOk (Y : Cx) (st : List Stmt) (ts : Addr → Value → Option Addr → TS) : Prop :=
  ∀ (a : Addr) (oe : Obj) (cls : Value) (d : Option Addr) (pn : List (Addr × Obj)), Zc cls d oe → (∃ vs, oe.data = .fields vs) → PSs (Y.suite a ((a, oe) :: pn)) st (ts a cls d)
inductive Cls (Y : Cx) : List ExceptHandler → List Cl → Prop
  | nil : Cls Y [] []
  | bare {x : Str} {c : Value} {ts : Addr → Value → Option Addr → TS} {b0 : Stmt} {su : List Stmt} {np ps : Pos} {hs : List ExceptHandler} {l : List Cl} (hc : Names Y x c) (h : suiteOk Y (b0 :: su) ts) (r : Cls Y hs l) :
      Cls Y (.ExceptHandler (some (.Name x np)) none (b0 :: su) ps :: hs) (⟨c, none, ts⟩ :: l)
  | named {x n : Str} {i : Nat} {c : Value} {ts : Addr → Value → Option Addr → TS} {b0 : Stmt} {su : List Stmt} {np ps : Pos} {hs : List ExceptHandler} {l : List Cl} (hN : Y.N.Nodup) (hi : Y.N[i]? = some n) (hk : Y.env.kindOf n = some .local) (hc : Names Y x c)
      (h : suiteOk Y (b0 :: su) ts) (r : Cls Y hs l) : Cls Y (.ExceptHandler (some (.Name x np)) (some n) (b0 :: su) ps :: hs) (⟨c, some i, ts⟩ :: l)
section
variable {Y : Cx} {body : List Stmt} {h0 : ExceptHandler} {hs : List ExceptHandler} {l : List Cl} {pos : Pos} {tb : WX → TS} {Wo : WX}
theorem ps_try_cls (hst : Y.stack = Y.env :: Y.outer) (hfr : Y.env.frame = some Y.env.locals) (tk : Takes Y Wo)
    (hb : ∀ (W : WX) (pn : List (Addr × Obj)) (xe : Value → Shared → Prop), Takes (Y.tr pn xe) W → PassesOwn (model Y.prog Y.w) Y.A Y.env xe → PSs (Y.tr pn xe) body (tb W))
    (hh : Cls Y (h0 :: hs) l) : PS Y (.Try body (h0 :: hs) [] [] pos) (fun D σ H => tb (wCls Y.K Wo D l) D σ H) := by
  refine ⟨fun pins s σ H D I h => wpAny_Try_except ?_⟩
  have okI := I.ok
  have framesI : Y.A.frames = some (Y.env :: Y.outer) := by rw [okI.frames, hst]
  refine wpAny_mono ((hb (wCls Y.K Wo D l) (Y.pn ++ pins) (fun e s1 => wpAny (model Y.prog Y.w) Y.A (noteFrame e Y.env) (fun _ s2 => wpAny (model Y.prog Y.w) Y.A (setFlight e none) (fun _ s3 => wpAny (model Y.prog Y.w) Y.A (handleBy e Y.env (h0 :: hs)) (SP Y pins D) Y.xe s3) Y.xe s2) Y.xe s1)
    (fun u sx caught => ?_) PassesOwn.looking).run [] s σ H D (I.toTry _) h) (fun f s1 done => ?_) (fun e s1 z => z)
  · obtain ⟨ae, B, sI, pins2, σx, Hx, cls, d, rfl, Jt, nb, up, sky, na, os, ag, w⟩ := caught
    have J : Inv Y pins σx Hx sI := Jt.ofTry okI
    have sky2 : Sky B (Y.env :: Y.outer) ae (Zc cls d) Y.env.locals sx.heap := by rw [← hst]; exact sky
    show wpAny (model Y.prog Y.w) Y.A (noteFrame (.ref ae) Y.env) _ _ _
    refine Sky.land Zc.steady framesI hfr sky2 fun h3 fl3 up3 => ?_
    have J3 : Inv Y pins σx Hx { sx with heap := h3 } := J.landed nb fl3.1 (up.trans up3) os ag
    obtain ⟨o3, v3, he3, hz3, hd3⟩ := fl3.there
    have out : ae ∉ frs (Y.env :: Y.outer) := fun hm => by
      obtain ⟨_, o4, e4, hnf⟩ := fl3.2.2.1.mem hm
      rw [he3] at e4
      cases e4
      exact hnf _ hd3
    have nL : ae ≠ Y.env.locals := fun z => out (List.mem_filterMap.mpr ⟨Y.env, List.mem_cons_self, by rw [hfr, z]⟩)
    have nF : ae ∉ Y.fs := fun hm => by
      obtain ⟨e, he, q⟩ := List.mem_filterMap.mp hm
      exact out (List.mem_filterMap.mpr ⟨e, List.mem_cons_of_mem _ he, q⟩)
    have S3 := J3.suite he3 hd3 na nL nF
    have looks : ∀ {c : Value} {b : Bool}, PySem.W.exmOne Y.K cls c = some b → PySem.W.Looks (model Y.prog Y.w) h3 (excMatches (.ref ae) c) b := fun {c b} hb1 =>
      PySem.W.exm_one (J3.kIn) (fun A Q E s k q => wpAny_typeOf_ref (k _ _ he3) (by rw [hz3.1]; exact q)) hb1
    have asks : ∀ {x : Str} {c : Value} {np : Pos} {Q E : Value → Shared → Prop}, Names Y x c → Q c { sx with heap := h3 } → wpAny (model Y.prog Y.w) (Y.A.mark (some (.ref ae))) (eval (.Name x np) Y.env) Q E { sx with heap := h3 } := fun {x c np Q E} hc q => by
      obtain ⟨hg, hdb, hm | ⟨hm, hv, hn⟩⟩ := hc
      · exact ld_glob (X := Y.suite ae ((ae, o3) :: (Y.pn ++ pins))) S3 hg hm q hdb
      · exact ld_blt (X := Y.suite ae ((ae, o3) :: (Y.pn ++ pins))) S3 hg hm hv q hn hdb
    have go : ∀ {hs2 : List ExceptHandler} {l2 : List Cl}, Cls Y hs2 l2 → wCls Y.K Wo D l2 cls d σx Hx → wpAny (model Y.prog Y.w) Y.A (handleBy (.ref ae) Y.env hs2) (SP Y pins D) Y.xe { sx with heap := h3 } := by
      intro hs2 l2 hk
      induction hk with
      | nil =>
        intro w
        refine wpAny_handleBy_nil ?_
        obtain ⟨k1, k2, k3, oe, vs, T, oT, ts', he, hz, hd, h1, hr⟩ := id fl3
        unfold PySem.passOn
        refine wpAny_bind (wpAny_field he hd h1 ?_)
        rw [if_neg (show ¬ ((Value.ref T == Value.none) = true) from fun z => by cases beq_iff_eq.mp z)]
        have fin : wpAny (model Y.prog Y.w) Y.A (setFlight (.ref ae) Y.env.frame) (fun _ s4 => wpAny (model Y.prog Y.w) Y.A (throw (.ref ae) : Sem Flow) (SP Y pins D) Y.xe s4) Y.xe { sx with heap := h3 } := by
          rw [hfr]
          exact HandSPX.setFlight_upZ fl3 fun h4 hh4 up4 => wpAny_throw (tk _ _ ⟨ae, B, sI, pins, σx, Hx, cls, d, rfl, J, nb, (up.trans up3).trans up4, .inr (.inr (by rw [hst]; exact hh4)), na, os, ag, w⟩)
        first
          | exact wpAny_bind (wpAny_pure (wpAny_bind fin))
          | exact wpAny_bind fin
      | @bare x c ts b0 su np ps hs3 l3 hc hsu r ih =>
        intro ⟨b, hb1, hyes, hno⟩
        refine wpAny_handleBy_cons (codeAny_handlers_test (asks hc ((looks hb1).here ?_))) (by intro q; cases q)
        cases b with
        | true =>
          refine codeAny_handlers_suite (HandSPX.lands_againZ fl3 fun h4 fl4 up4 => ?_)
          have J4 : Inv Y pins σx Hx { sx with heap := h4 } := J.landed nb fl4.1 ((up.trans up3).trans up4) os ag
          obtain ⟨o4, v4, he4, hz4, hd4⟩ := fl4.there
          refine wpAny_mono ((hsu ae o4 cls d (Y.pn ++ pins) hz4 ⟨_, hd4⟩).run [] _ _ Hx _ (J4.suite he4 hd4 na nL nF) (hyes rfl ae na)) (fun f s6 z6 => ?_) (fun _ _ z => False.elim z)
          cases f with
          | ret u =>
            obtain ⟨v6, σ6, H6, S6, r6, q6⟩ := z6
            exact ⟨_, _, _, S6.unsuite okI, r6, q6⟩
          | _ =>
            obtain ⟨σ6, H6, S6, q6⟩ := z6
            exact ⟨_, _, S6.unsuite okI, q6⟩
        | false =>
          show wpAny _ Y.A (handleBy (.ref ae) Y.env hs3) _ _ _
          exact ih (hno rfl)
      | @named x n i c ts b0 su np ps hs3 l3 hN hi hk1 hc hsu r ih =>
        intro ⟨b, hb1, hyes, hno⟩
        refine wpAny_handleBy_cons (codeAny_handlers_test (asks hc ((looks hb1).here ?_))) (by intro q; cases q)
        cases b with
        | true =>
          refine codeAny_handlers_suite_as (HandSPX.lands_againZ fl3 fun h4 fl4 up4 => ?_)
          have J4 : Inv Y pins σx Hx { sx with heap := h4 } := J.landed nb fl4.1 ((up.trans up3).trans up4) os ag
          obtain ⟨o4, v4, he4, hz4, hd4⟩ := fl4.there
          refine store_ok (X := Y.suite ae ((ae, o4) :: (Y.pn ++ pins))) (v := .ref ae) (J4.suite he4 hd4 na nL nF) hN hi (.inl hk1) rfl (fun s5 S5 => ?_) (.inr hk1)
          refine wpAny_mono ((hsu ae o4 cls d (Y.pn ++ pins) hz4 ⟨_, hd4⟩).run [] s5 _ Hx _ S5 (hyes rfl ae na)) (fun f s6 z6 => ?_) (fun _ _ z => False.elim z)
          have last : ∀ {σ6 : L2.St} {H6 : Hp} {Q : Shared → Prop}, Inv (Y.suite ae ((ae, o4) :: (Y.pn ++ pins))) [] σ6 H6 s6 → (∀ s7, Inv Y pins (σ6.set i none) H6 s7 → Q s7) →
              wpAny (model Y.prog Y.w) Y.A (do bindName Y.env n .none; unbindBehindTheSuite Y.env n ps) (fun _ s7 => Q s7) Y.xe s6 := fun {σ6 H6 Q} S6 hq => gone_ok (S6.unsuite okI) hN hi hk1 hq
          cases f with
          | next =>
            obtain ⟨σ6, H6, S6, q6⟩ := z6
            exact last S6 fun s7 J7 => ⟨_, _, J7, q6⟩
          | brk =>
            obtain ⟨σ6, H6, S6, q6⟩ := z6
            exact last S6 fun s7 J7 => ⟨_, _, J7, q6⟩
          | cont =>
            obtain ⟨σ6, H6, S6, q6⟩ := z6
            exact last S6 fun s7 J7 => ⟨_, _, J7, q6⟩
          | ret u =>
            obtain ⟨v6, σ6, H6, S6, r6, q6⟩ := z6
            exact last S6 fun s7 J7 => ⟨_, _, _, J7, r6, q6⟩
        | false =>
          show wpAny _ Y.A (handleBy (.ref ae) Y.env hs3) _ _ _
          exact ih (hno rfl)
    exact go hh w
  · cases f with
    | next =>
      obtain ⟨σ2, H2, J2, q⟩ := done
      exact wpAny_execs_nil ⟨σ2, H2, J2.ofTry okI, q⟩
    | brk =>
      obtain ⟨σ2, H2, J2, q⟩ := done
      exact ⟨σ2, H2, J2.ofTry okI, q⟩
    | cont =>
      obtain ⟨σ2, H2, J2, q⟩ := done
      exact ⟨σ2, H2, J2.ofTry okI, q⟩
    | ret u =>
      obtain ⟨v, σ2, H2, J2, r, q⟩ := done
      exact ⟨v, σ2, H2, J2.ofTry okI, r, q⟩
end
section
open LamX
def tActE (W : WX) (f c' : Addr) (q : Str) (tl : XK → Hp → VK → Prop) : TE := fun σ H Q => ∃ E : XK, (∀ cls d H', E cls d H' → W cls d σ H') ∧ σ[0]? = some (some (.ref f)) ∧ H c' = some (CodeO c' q) ∧ tl E H Q
theorem pe_actE {X : Cx} {W : WX} {f c' : Addr} {q a : Str} {tl : XK → Hp → VK → Prop} {p1 p2 : Pos}
    (h : ∀ (E : XK) (p1 p2 : Pos), PE X (.Call (.Name a p1) [] [] p2) (fun σ1 H1 Q => (∀ cls d H', E cls d H' → W cls d σ1 H') ∧ σ1[0]? = some (some (.ref f)) ∧ H1 c' = some (CodeO c' q) ∧ tl E H1 Q)) :
    PE X (.Call (.Name a p1) [] [] p2) (tActE W f c' q tl) := by
  refine ⟨fun pins s σ H Q I ⟨E, hW, h1, h2, h3⟩ => ?_⟩
  exact (h E p1 p2).run pins s σ H Q I ⟨hW, h1, h2, h3⟩
end
theorem go_named {c : Value} {i : Nat} {ts : Addr → Value → Option Addr → TS} {a : Addr} {cls : Value} {d : Option Addr} {D : Ends} {σ : L2.St} {H : Hp} (h : ts a cls d (endN i D) (σ.set i (some (.ref a))) H) : goN ⟨c, some i, ts⟩ a cls d D σ H := h
theorem go_bare {c : Value} {ts : Addr → Value → Option Addr → TS} {a : Addr} {cls : Value} {d : Option Addr} {D : Ends} {σ : L2.St} {H : Hp} (h : ts a cls d D σ H) : goN ⟨c, none, ts⟩ a cls d D σ H := h
theorem e_end {i : Nat} {n b c : L2.St → Hp → Prop} {r : VK} {σ : L2.St} {H : Hp} (q : n (σ.set i none) H) : (endN i ⟨n, r, b, c⟩).nx σ H := q
theorem e_endr {i : Nat} {n b c : L2.St → Hp → Prop} {r : VK} {v : V} {H : Hp} (q : r v H) : (endN i ⟨n, r, b, c⟩).rt v H := q
/-- a try that nothing leaves but by its clauses -/
theorem w_yes {K : PySem.W.Frag} {Wo : WX} {D : Ends} {q : Cl} {r : List Cl} {cls : Value} {d : Option Addr} {σ : L2.St} {H : Hp} (e : PySem.W.exmOne K cls q.c = some true) (h : ∀ a, H a = none → goN q a cls d D σ H) : wCls K Wo D (q :: r) cls d σ H :=
  ⟨true, e, fun _ => h, fun z => absurd z.symm Bool.false_ne_true⟩
theorem w_no {K : PySem.W.Frag} {Wo : WX} {D : Ends} {q : Cl} {r : List Cl} {cls : Value} {d : Option Addr} {σ : L2.St} {H : Hp} (e : PySem.W.exmOne K cls q.c = some false) (h : wCls K Wo D r cls d σ H) : wCls K Wo D (q :: r) cls d σ H :=
  ⟨false, e, fun z => absurd z Bool.false_ne_true, fun _ => h⟩
end Ls
end

section
set_option Elab.async false
set_option linter.all false
set_option maxRecDepth 100000
set_option maxHeartbeats 4000000
namespace Ls
open PySem PySem.Spec PyProof.Rows L2 SX LamX
/-- what is new -/
def nw (H H' : Hp) : Hp := fun a => match H a with
  | some _ => none
  | none => match H' a with
    | some (.tbl _) => none
    | o => o
section
variable {H H1 H2 : Hp} {a p : Addr} {o : HO}
theorem nw_some (h : nw H H1 a = some o) : H a = none ∧ H1 a = some o ∧ ∀ ps, o ≠ .tbl ps := by
  unfold nw at h
  split at h
  · cases h
  · rename_i n
    split at h
    · cases h
    · rename_i z
      exact ⟨n, h, fun ps e => by subst e; exact z ps h⟩
theorem nw_of (n : H a = none) (h : H1 a = some o) (z : ∀ ps, o ≠ .tbl ps) : nw H H1 a = some o := by
  unfold nw
  rw [n]
  dsimp only
  rw [h]
  split
  · rename_i ps e
    exact absurd (Option.some.inj e) (z ps)
  · rfl
theorem nw_ex : Ex (nw H H1) H1 := fun _ _ h => (nw_some h).2.1
theorem nw_on (e : Ex H1 H2) : Ex (nw H H1) (nw H H2) := fun a o h => let ⟨n, h1, z⟩ := nw_some h; nw_of n (e a o h1) z
theorem nw_back (e : Ex H H1) : Ex (nw H1 H2) (nw H H2) := fun a o h => let ⟨n, h1, z⟩ := nw_some h; nw_of (e.back n) h1 z
theorem nw_em (hp : H p ≠ none) (e : Em p H1 H2) : Ex (nw H H1) (nw H H2) := fun a o h => let ⟨n, h1, z⟩ := nw_some h; nw_of n (e a o (fun q => hp (q ▸ n)) h1) z
theorem nw_mo (hp : H p ≠ none) : Ex (nw H H1) (mo H1 p) := fun a o h => let ⟨n, h1, z⟩ := nw_some h; mo_of (fun q => hp (q ▸ n)) h1 z
theorem nw_eo (hp : H p ≠ none) (e : Eo p H1 H2) : Ex (nw H H1) (nw H H2) := fun a o h => by
  obtain ⟨n, h1, z⟩ := nw_some h
  exact nw_of n (mo_some (e a o (mo_of (fun q => hp (q ▸ n)) h1 z))).2.1 z
theorem Pt.is (h : Pt H p) : H p ≠ none := let ⟨_, _, e, _⟩ := h; by rw [e]; exact fun z => nomatch z
end
/-- an expression that makes the datum d, of new objects -/
def Lit (K : PySem.W.Frag) (te : TE) (d : PyData) : Prop := ∀ (σ : L2.St) (H : Hp) (Q : VK), (∀ v H', Ex H H' → Dt K (nw H H') v d → Q v H') → te σ H Q
def LitA (K : PySem.W.Frag) (ta : TA) (ds : List PyData) : Prop := ∀ (σ : L2.St) (H : Hp) (Q : List V → Hp → Prop), (∀ vs H', Ex H H' → DtAll K (nw H H') vs ds → Q vs H') → ta σ H Q
section
variable {K : PySem.W.Frag} {te : TE} {ta : TA} {d : PyData} {ds : List PyData}
theorem lit_non : Lit K (tC .non) .none := fun _ H _ q => q _ H (Ex.refl H) .non
theorem lit_bl {b : Bool} : Lit K (tC (.bl b)) (.bool b) := fun _ H _ q => q _ H (Ex.refl H) (.bl b)
theorem lit_int {i : Int} : Lit K (tC (.int i)) (.int i) := fun _ H _ q => q _ H (Ex.refl H) (.int i)
theorem lit_str {x : Str} : Lit K (tC (.str x)) (.str x) := fun _ H _ q => q _ H (Ex.refl H) (.str x)
theorem lit_neg {i : Int} : Lit K (tUn rNeg (tC (.int i))) (.int (-i)) := fun _ H _ q => ⟨i, rfl, q _ H (Ex.refl H) (.int _)⟩
theorem lit_nil : LitA K tNil [] := fun _ H _ q => q [] H (Ex.refl H) .nil
theorem lit_cons (h : Lit K te d) (h2 : LitA K ta ds) : LitA K (tCons te ta) (d :: ds) := fun σ H Q q =>
  h σ H _ fun v H1 e1 d1 => h2 σ H1 _ fun vs H2 e2 d2 => q (v :: vs) H2 (e1.trans e2) (.cons (d1.mono (nw_on e2)) (d2.mono (nw_back e1)))
theorem lit_tup (h : LitA K ta ds) (hz : ds.length ≤ 1000) : Lit K (tTup ta) (.tuple ds) := fun σ H Q q =>
  h σ H _ fun vs H1 e1 d1 => ⟨Nat.le_trans (by rw [d1.length]; exact hz) (by decide), fun a n => q _ _ (e1.trans (Ex.new n)) (.tup (.of (nw_of (e1.back n) upd_same fun _ z => nomatch z)) (d1.mono (nw_on (Ex.new n))))⟩
theorem lit_lst (h : LitA K ta ds) (hz : ds.length ≤ 1000) : Lit K (tLstN ta) (.list ds) := fun σ H Q q =>
  h σ H _ fun vs H1 e1 d1 => ⟨Nat.le_trans (by rw [d1.length]; exact hz) (by decide), fun a n _ => q _ _ (e1.trans (Ex.new n)) (.lst (.of (nw_of (e1.back n) upd_same fun _ z => nomatch z)) (d1.mono (nw_on (Ex.new n))))⟩
theorem lit_dn : Lit K tDNewK (.dict []) := fun σ H Q q => r_dn fun a H1 n e h => q _ _ e (.dct (kvs := []) (ds := []) (.inl (nw_of n h fun _ z => nomatch z)) .nil)
theorem lit_d1 {i j : Int} : Lit K (tDisp [(tC (.int i), tC (.int j))]) (.dict [(.int i, .int j)]) := fun σ H Q q => r_d1 fun a H1 n e h =>
  q _ _ e (.dct (kvs := [(.inl i, .int j)]) (ds := [.int j]) (.inl (nw_of n h fun _ z => nomatch z)) (.cons (.int j) .nil))
theorem r_d1s {σ : L2.St} {H : Hp} {Q : VK} {x : Str} {j : Int} (q : ∀ p H', H p = none → Ex H H' → H' p = some (.dK [(.inr x, .int j)]) → Q (.ref p) H') : tDisp [(tC (.str x), tC (.int j))] σ H Q := fun p n => by
  unfold tPairs
  refine ⟨upd_same, [(.inr x, .int j)], rfl, by simp, ?_⟩
  refine q p _ n (fun a o e => ?_) upd_same
  rw [upd_ne (ne_of_none e n), upd_ne (ne_of_none e n)]
  exact e
theorem lit_d1s {x : Str} {j : Int} : Lit K (tDisp [(tC (.str x), tC (.int j))]) (.dict [(.str x, .int j)]) := fun σ H Q q => r_d1s fun a H1 n e h =>
  q _ _ e (.dct (kvs := [(.inr x, .int j)]) (ds := [.int j]) (.inl (nw_of n h fun _ z => nomatch z)) (.cons (.int j) .nil))
/-- the display of a list, made -/
theorem lits {σ : L2.St} {H : Hp} {Q : VK} (h : LitA K ta ds) (hz : ds.length ≤ 1000) (q : ∀ a vs H', H a = none → Ex H H' → H' a = some (.lst vs) → DtAll K (nw H H') vs ds → Q (.ref a) H') : tLstN ta σ H Q :=
  h σ H _ fun vs H1 e1 d1 => ⟨Nat.le_trans (by rw [d1.length]; exact hz) (by decide), fun a n _ => q a vs _ (e1.back n) (e1.trans (Ex.new n)) upd_same (d1.mono (nw_on (Ex.new n)))⟩
/-- one goal for two ways -/
theorem cut {σ : L2.St} {H : Hp} {Q : VK} (P : V → Hp → Prop) (h : ∀ Q', (∀ v H', P v H' → Q' v H') → te σ H Q') (k : ∀ v H', P v H' → Q v H') : te σ H Q := h Q k
theorem cutS {ts : TS} {D : Ends} {σ : L2.St} {H : Hp} (P : L2.St → Hp → Prop) (h : ∀ N : L2.St → Hp → Prop, (∀ σ' H', P σ' H' → N σ' H') → ts { D with nx := N } σ H) (k : ∀ σ' H', P σ' H' → D.nx σ' H') : ts D σ H := h D.nx k
end
theorem DtAll.mem {K : PySem.W.Frag} {H : Hp} : ∀ {vs : List V} {ds : List PyData}, DtAll K H vs ds → ∀ {v : V}, v ∈ vs → ∃ d, d ∈ ds ∧ Dt K H v d
  | _, _, .cons a b, v, h => by
    rcases List.mem_cons.mp h with rfl | h
    · exact ⟨_, List.mem_cons_self, a⟩
    · obtain ⟨d, h1, h2⟩ := b.mem h
      exact ⟨d, List.mem_cons_of_mem _ h1, h2⟩
/-- bounds, looked at -/
def bdB (b k : Nat) (d : PyData) : Bool := (shW d && decide (d.shown.length ≤ b)) && (decide (d.depth ≤ k) && inD d)
theorem bdB_ok {b k : Nat} {d : PyData} (h : bdB b k d = true) : Bd b k d := by
  unfold bdB at h
  simp only [Bool.and_eq_true, decide_eq_true_eq] at h
  exact ⟨h.1.1, h.1.2, h.2.1, h.2.2⟩
/-- what a def picks from a list of written things: of the kind g -/
def sp_pickD (K : PySem.W.Frag) (g : PyData → Bool) : Sp := fun vs H Q _ => ∃ p : Addr, vs = [.ref p] ∧ Pt H p ∧ ∀ v d H', Dt K (nw H H') v d → g d = true → Pt H' p → Em p H H' → Q v H'
end Ls
end

section
set_option Elab.async false
set_option linter.all false
set_option maxRecDepth 100000
set_option maxHeartbeats 4000000
namespace Ls
open PySem PySem.Spec PyProof.Rows L2 SX LamX
theorem szI_21 {i : Int} (h : i.natAbs ≤ 10 ^ 21) : szI i ≤ 23 := by
  rw [intL_len]
  have := TL.numL_len (n := i.natAbs) (k := 22) (by decide) (Nat.lt_of_le_of_lt h (by decide))
  unfold intL
  split
  · rw [List.length_cons]; omega
  · omega
def lvSz : Nat → Int
  | 0 => 23
  | m + 1 => 1 + 4 * lvSz m
theorem lvSz_pos : ∀ m, 23 ≤ lvSz m
  | 0 => by decide
  | m + 1 => by
    have := lvSz_pos m
    rw [lvSz]
    omega
theorem szL_le {c : Int} (hc : 0 ≤ c) : ∀ {ds : List PyData} {n : Nat}, (∀ e ∈ ds, szD e ≤ c) → ds.length ≤ n → szL ds ≤ (n : Int) * c
  | [], n, _, _ => by rw [szL]; exact Int.mul_nonneg (by omega) hc
  | d :: ds, 0, _, hn => by simp at hn
  | d :: ds, n + 1, h, hn => by
    have h1 := h d List.mem_cons_self
    have h2 := szL_le hc (ds := ds) (n := n) (fun e he => h e (List.mem_cons_of_mem _ he)) (by simpa using hn)
    rw [szL, show ((n + 1 : Nat) : Int) * c = (n : Int) * c + c by rw [Int.natCast_add, Int.add_mul]; simp]
    omega
theorem nsL_ofE : ∀ {ds : List PyData}, (∀ e ∈ ds, nsD e = true) → nsL ds = true
  | [], _ => rfl
  | d :: ds, h => by rw [nsL, h d List.mem_cons_self, nsL_ofE fun e he => h e (List.mem_cons_of_mem _ he)]; rfl
theorem lv_ns : ∀ {m : Nat} {d : PyData}, lv m d → nsD d = true ∧ szD d ≤ lvSz m
  | 0, d, .inl ⟨i, e, h⟩ => by subst e; exact ⟨rfl, by rw [szD]; exact szI_21 h⟩
  | 0, d, .inr e => by subst e; exact ⟨rfl, by decide⟩
  | m + 1, d, .inl ⟨i, e, h⟩ => by subst e; exact ⟨rfl, by rw [szD]; exact Int.le_trans (szI_21 h) (lvSz_pos _)⟩
  | m + 1, d, .inr ⟨ds, e, hl, h⟩ => by
    subst e
    refine ⟨?_, ?_⟩
    · rw [nsD, nsL_ofE fun e he => (lv_ns (h e he)).1, decide_eq_true (by omega : ds.length ≤ 40)]
      rfl
    · rw [szD, lvSz]
      have := szL_le (c := lvSz m) (by have := lvSz_pos m; omega) (fun e he => (lv_ns (h e he)).2) hl
      omega
theorem lv2_V {d : PyData} (h : lv 2 d) : isV d = true := by
  obtain ⟨h1, h2⟩ := lv_ns h
  have hb := (lv_bd h).1.dep
  have ht := tdp_dep d
  have h3 : szD d ≤ 373 := h2
  unfold isV isD
  rw [h1, decide_eq_true (by omega : (tdp d : Int) ≤ 4), decide_eq_true (by omega : szD d ≤ 1000), Bool.and_true, Bool.and_true, Bool.or_true]
/-- what the law gives a function -/
def goodD (d : PyData) : Prop := lv 2 d ∨ d = .str (Str.ofString "fault") ∨ d = .int 1
theorem good_V {d : PyData} (h : goodD d) : isV d = true := by
  rcases h with h | rfl | rfl
  · exact lv2_V h
  · decide +kernel
  · decide +kernel
theorem good_bd {d : PyData} (h : goodD d) : Bd 695 3 d := by
  rcases h with h | rfl | rfl
  · exact (lv_bd h).1
  · exact bdB_ok (by decide +kernel)
  · exact bdB_ok (by decide +kernel)
theorem bd_ask {b k : Nat} {d : PyData} (h : Bd b k d) (hk : k ≤ 9) : smD d = true ∧ tdp d < 10 := ⟨in_sm d h.inn, by have := tdp_dep d; have := h.dep; omega⟩
theorem FlAll.dtA {K : PySem.W.Frag} {H : Hp} : ∀ {vs : List V} {ds : List PyData}, FlAll K H vs ds → DtAll K H vs ds
  | _, _, .nil => .nil
  | _, _, .cons a b => .cons a.dt b.dtA
theorem DtAll.set {K : PySem.W.Frag} {H : Hp} {v : V} {d : PyData} (hv : Dt K H v d) : ∀ {vs : List V} {ds : List PyData}, DtAll K H vs ds → ∀ j, DtAll K H (vs.set j v) (ds.set j d)
  | _, _, .nil, _ => .nil
  | _, _, .cons a b, 0 => .cons hv b
  | _, _, .cons a b, j + 1 => .cons a (b.set hv j)
theorem DtAll.at {K : PySem.W.Frag} {H : Hp} : ∀ {vs : List V} {ds : List PyData}, DtAll K H vs ds → ∀ {j : Nat} {v : V}, vs[j]? = some v → ∃ d, ds[j]? = some d ∧ Dt K H v d
  | _, _, .nil, j, v, h => by simp at h
  | _, _, .cons (v := u) (d := e) a b, 0, v, h => by
    have : u = v := by simpa using h
    subst this
    exact ⟨e, rfl, a⟩
  | _, _, .cons a b, j + 1, v, h => by
    obtain ⟨d, h1, h2⟩ := b.at (j := j) (v := v) (by simpa using h)
    exact ⟨d, by simpa using h1, h2⟩
theorem two_bad {ys : List V} {ds : List PyData} {w1 w2 : V} {d1 d2 : PyData} {a t : Nat} (ha : a < ys.length) (ht : t < ys.length) (hl : ds.length = ys.length) (hV : ∀ e ∈ ds, isV e = true) (b1 : isV d1 = false) (b2 : isV d2 = false) :
    firstBad ((ds.set a d1).set t d2) = some (if t < a then t else a) ∧ ∃ w, ((ys.set a w1).set t w2)[if t < a then t else a]? = some w := by
  by_cases c : t < a
  · rw [if_pos c]
    refine ⟨firstBad_at (d := d2) (fun e he => ?_) (by rw [List.getElem?_set_self (by rw [List.length_set]; omega)]) b2, w2, by rw [List.getElem?_set_self (by rw [List.length_set]; omega)]⟩
    rw [List.take_set_of_le (Nat.le_refl t), List.take_set_of_le (by omega)] at he
    exact hV e (List.mem_of_mem_take he)
  · rw [if_neg c]
    by_cases q : a = t
    · subst q
      refine ⟨firstBad_at (d := d2) (fun e he => ?_) (by rw [List.getElem?_set_self (by rw [List.length_set]; omega)]) b2, w2, by rw [List.getElem?_set_self (by rw [List.length_set]; omega)]⟩
      rw [List.take_set_of_le (Nat.le_refl a), List.take_set_of_le (Nat.le_refl a)] at he
      exact hV e (List.mem_of_mem_take he)
    · refine ⟨firstBad_at (d := d1) (fun e he => ?_) (by rw [List.getElem?_set_ne (fun z => q z.symm), List.getElem?_set_self (by omega)]) b1, w1, by rw [List.getElem?_set_ne (fun z => q z.symm), List.getElem?_set_self (by omega)]⟩
      rw [List.take_set_of_le (by omega : a ≤ t), List.take_set_of_le (Nat.le_refl a)] at he
      exact hV e (List.mem_of_mem_take he)
theorem eo_late {p l : Addr} {H1 H2 H3 : Hp} (n : H1 l = none) (e : Eo p H1 H2) (f : Em l H2 H3) : Eo p H1 H3 := fun a o h => by
  obtain ⟨n1, h1, z⟩ := mo_some h
  exact mo_of n1 (f _ _ (ne_of_none h1 n) (mo_some (e a o h)).2.1) z
theorem min_nat {a t : Nat} : (if (t : Int) < (a : Int) then (t : Int) else (a : Int)) = ((if t < a then t else a : Nat) : Int) := by
  by_cases c : t < a
  · rw [if_pos c, if_pos (by omega)]
  · rw [if_neg c, if_neg (by omega)]
/-- what is due of a call -/
def due2 (d : PyData) (ds : List PyData) : PyData := match fnD d with
  | none => .list [.str (Str.ofString "no word"), d, .bool true]
  | some f => match firstBad ds with
    | some j => .list [.str (Str.ofString "worth"), ds.getD j .none, .bool true]
    | none => .list [.str (Str.ofString "told"), f.app ds]
theorem due2_n {d : PyData} {ds : List PyData} (h : fnD d = none) : due2 d ds = .list [.str (Str.ofString "no word"), d, .bool true] := by unfold due2; rw [h]
theorem due2_w {d e : PyData} {ds : List PyData} {f : Fn} {j : Nat} (h : fnD d = some f) (b : firstBad ds = some j) (he : ds[j]? = some e) : due2 d ds = .list [.str (Str.ofString "worth"), e, .bool true] := by
  unfold due2
  rw [h]
  dsimp only
  rw [b]
  dsimp only
  rw [List.getD_eq_getElem?_getD, he]
  rfl
theorem due2_t {d : PyData} {ds : List PyData} {f : Fn} (h : fnD d = some f) (b : ds.all isV = true) : due2 d ds = .list [.str (Str.ofString "told"), f.app ds] := by
  unfold due2
  rw [h]
  dsimp only
  rw [firstBad_all b]
/-- a list that tells of a call: at r -/
def Told2 (K : PySem.W.Frag) (v : V) (d : PyData) (xs : List V) (ds : List PyData) (r : Addr) (H : Hp) : Prop :=
  (fnD d = none ∧ H r = some (.lst [.str (Str.ofString "no word"), v, .bl true])) ∨
  (∃ f j w, fnD d = some f ∧ firstBad ds = some j ∧ xs[j]? = some w ∧ H r = some (.lst [.str (Str.ofString "worth"), w, .bl true])) ∨
  (∃ f x, fnD d = some f ∧ ds.all isV = true ∧ Fl K H x (f.app ds) ∧ H r = some (.lst [.str (Str.ofString "told"), x]))
theorem Told2.dt {K : PySem.W.Frag} {v : V} {d : PyData} {xs : List V} {ds : List PyData} {r : Addr} {H : Hp} (h : Told2 K v d xs ds r H) (hv : Dt K H v d) (hx : DtAll K H xs ds) : Dt K H (.ref r) (due2 d ds) := by
  rcases h with ⟨hf, h⟩ | ⟨f, j, w, hf, hb, hw, h⟩ | ⟨f, x, hf, hb, hF, h⟩
  · rw [due2_n hf]
    exact .lst (.of h) (.cons (.str _) (.cons hv (.cons (.bl _) .nil)))
  · obtain ⟨e, he, hd⟩ := hx.at hw
    rw [due2_w hf hb he]
    exact .lst (.of h) (.cons (.str _) (.cons hd (.cons (.bl _) .nil)))
  · rw [due2_t hf hb]
    exact .lst (.of h) (.cons (.str _) (.cons hF.dt .nil))
theorem Told2.fst {K : PySem.W.Frag} {v : V} {d : PyData} {xs : List V} {ds : List PyData} {r : Addr} {H : Hp} (h : Told2 K v d xs ds r H) : ∃ z ys, H r = some (.lst (.str z :: ys)) := by
  rcases h with ⟨_, h⟩ | ⟨_, _, _, _, _, _, h⟩ | ⟨_, _, _, _, _, h⟩ <;> exact ⟨_, _, h⟩
theorem Told2.on {K : PySem.W.Frag} {v : V} {d : PyData} {xs : List V} {ds : List PyData} {r : Addr} {H H' : Hp} (h : Told2 K v d xs ds r H) (e : ∀ ys, H r = some (.lst ys) → H' r = some (.lst ys)) (t : Et H H') : Told2 K v d xs ds r H' := by
  rcases h with ⟨hf, h⟩ | ⟨f, j, w, hf, hb, hw, h⟩ | ⟨f, x, hf, hb, hF, h⟩
  · exact .inl ⟨hf, e _ h⟩
  · exact .inr (.inl ⟨f, j, w, hf, hb, hw, e _ h⟩)
  · exact .inr (.inr ⟨f, x, hf, hb, hF.mono t, e _ h⟩)
theorem due2_bd {d : PyData} {ds : List PyData} (hd : Bd 40 3 d) (hs : ∀ e ∈ ds, Bd 695 3 e) (ht : ∀ f, fnD d = some f → ds.all isV = true → f.app ds = faultD) : Bd 2094 4 (due2 d ds) := by
  cases hf : fnD d with
  | none =>
    rw [due2_n hf]
    refine Bd.lst (b := 695) (k := 3) (n := 3) (fun e he => ?_) (by simp)
    simp only [List.mem_cons, List.not_mem_nil, or_false] at he
    rcases he with rfl | rfl | rfl
    · exact bdB_ok (by decide +kernel)
    · exact hd.mono (by decide) (by decide)
    · exact bdB_ok (by decide +kernel)
  | some f =>
    cases hb : firstBad ds with
    | none =>
      have ha := firstBad_none hb
      rw [due2_t hf ha, ht f hf ha]
      exact bdB_ok (by decide +kernel)
    | some j =>
      unfold due2
      rw [hf]
      dsimp only
      rw [hb]
      dsimp only
      refine Bd.lst (b := 695) (k := 3) (n := 3) (fun e he => ?_) (by simp)
      simp only [List.mem_cons, List.not_mem_nil, or_false] at he
      rcases he with rfl | rfl | rfl
      · exact bdB_ok (by decide +kernel)
      · rw [List.getD_eq_getElem?_getD]
        cases hj : ds[j]? with
        | none => exact bdB_ok (by decide +kernel)
        | some e => exact hs e (List.mem_of_getElem? hj)
      · exact bdB_ok (by decide +kernel)
theorem rq2 {b k : Nat} {d : PyData} (h : Bd b k d) (hb : b ≤ 49000) (hk : k ≤ 9) : Rq (.list [d, d]) :=
  (Bd.lst (b := b) (k := k) (n := 2) (fun e he => by
    simp only [List.mem_cons, List.not_mem_nil, or_false] at he
    rcases he with rfl | rfl <;> exact h) (by simp)).rq (by omega) (by omega)
theorem ix_nat {k j : Nat} (hk : j < k) : ixN k (Int.ofNat j) = some j := by
  have h : ((j : Nat) : Int) < (k : Int) := Int.ofNat_lt.mpr hk
  have z : (0 : Int) ≤ ((j : Nat) : Int) := Int.natCast_nonneg j
  show (if (0 : Int) ≤ ((j : Nat) : Int) then (if ((j : Nat) : Int) < (k : Int) then some ((j : Nat) : Int).toNat else none) else _) = some j
  rw [if_pos z, if_pos h, Int.toNat_natCast]
theorem eo_et {p : Addr} {H H' : Hp} (hP : Pt H p) (e : Eo p H H') : Et H H' := by
  have key : ∀ a o, H a = some o → (∀ ys, o ≠ .lst ys) → (∀ ps, o ≠ .tbl ps) → H' a = some o := fun a o h n z =>
    (mo_some (e a o (mo_of (fun q => by
      obtain ⟨_, _, hp, _⟩ := hP
      rw [q, hp] at h
      exact n _ (Option.some.inj h).symm) h z))).2.1
  exact ⟨fun a xs h => key a _ h (fun _ q => nomatch q) (fun _ q => nomatch q), fun a o xs h => key a _ h (fun _ q => nomatch q) (fun _ q => nomatch q)⟩
end Ls
end

section
set_option Elab.async false
set_option linter.all false
set_option maxRecDepth 100000
set_option maxHeartbeats 4000000
namespace Ls
open PySem PySem.Spec PyProof.Rows L2 SX LamX
mutual
/-- integers of at most 4300 digits, and tuples of at most a thousand such things -/
def gwD : PyData → Bool
  | .int i => decide (i.natAbs < DL)
  | .tuple ds => decide (ds.length ≤ 1000) && gwL ds
  | _ => false
def gwL : List PyData → Bool
  | [] => true
  | d :: ds => gwD d && gwL ds
end
theorem gwL_mem : ∀ {ds : List PyData}, gwL ds = true → ∀ {d : PyData}, d ∈ ds → gwD d = true
  | d' :: ds, h, d, hd => by
    rw [gwL, Bool.and_eq_true] at h
    exact (List.mem_cons.mp hd).elim (fun z => z ▸ h.1) fun z => gwL_mem h.2 z
theorem gwL_of : ∀ {ds : List PyData}, (∀ d, d ∈ ds → gwD d = true) → gwL ds = true
  | [], _ => rfl
  | d :: ds, h => by rw [gwL, gwL_of fun e he => h e (List.mem_cons_of_mem _ he), Bool.and_true]; exact h d List.mem_cons_self
mutual
theorem gw_lay : ∀ d : PyData, gwD d = true → PyData.canLay0 d = true ∧ PyData.depth d = tdp d ∧ smD d = true
  | .int i, h => ⟨rfl, rfl, h⟩
  | .tuple ds, h => by
    rw [gwD, Bool.and_eq_true] at h
    obtain ⟨a, b, c⟩ := gwL_lay ds h.2
    exact ⟨by rw [PyData.canLay0]; exact a, by rw [PyData.depth, tdp, b]; omega, by rw [smD]; exact c⟩
  | .none, h => by simp [gwD] at h
  | .bool _, h => by simp [gwD] at h
  | .str _, h => by simp [gwD] at h
  | .list _, h => by simp [gwD] at h
  | .dict _, h => by simp [gwD] at h
theorem gwL_lay : ∀ d : List PyData, gwL d = true → PyData.canLayAll0 d = true ∧ PyData.depthAll d = tdpL d ∧ smL d = true
  | [], _ => ⟨rfl, rfl, rfl⟩
  | d :: ds, h => by
    rw [gwL, Bool.and_eq_true] at h
    obtain ⟨a, b, c⟩ := gw_lay d h.1
    obtain ⟨a2, b2, c2⟩ := gwL_lay ds h.2
    exact ⟨by rw [PyData.canLayAll0, a, a2]; rfl, by rw [PyData.depthAll, tdpL, b, b2], by rw [smL, c, c2]; rfl⟩
end
theorem gw_shaped {d : PyData} (h : gwD d = true) (ht : tdp d ≤ 60) : SeqAt.shaped d = true := by
  obtain ⟨a, b, _⟩ := gw_lay d h
  unfold SeqAt.shaped
  rw [a, Bool.true_and, decide_eq_true_eq]
  omega
theorem y_eqFaultW {K : PySem.W.Frag} {H : Hp} {Q : VK} {x : V} {d : PyData} (h : Fl K H x d) (hg : gwD d = true) (ht : tdp d ≤ 60) (q : Q (.bl false) H) : rEqU K x (.str (Str.ofString "fault")) H Q := by
  refine y_eqD h.dp (.str _) (gw_shaped hg ht) fault_shaped ?_
  cases d <;> first | exact q | simp [gwD] at hg
mutual
/-- what is a datum fits -/
theorem ns_ft : ∀ d : PyData, nsD d = true → tdp d ≤ 4 → szD d ≤ 1000 → ftD d = true
  | .int i, _, _, h => by rw [szD] at h; rw [ftD, decide_eq_true_eq]; exact h
  | .tuple ds, h, ht, hz => by
    rw [nsD, Bool.and_eq_true] at h
    rw [tdp] at ht
    rw [szD] at hz
    rw [ftD, h.1, nsL_ft ds h.2 (by omega) (by omega), decide_eq_true (by omega : tdpL ds ≤ 3), decide_eq_true hz]
    rfl
  | .none, h, _, _ => by simp [nsD] at h
  | .bool _, h, _, _ => by simp [nsD] at h
  | .str _, h, _, _ => by simp [nsD] at h
  | .list _, h, _, _ => by simp [nsD] at h
  | .dict _, h, _, _ => by simp [nsD] at h
theorem nsL_ft : ∀ ds : List PyData, nsL ds = true → tdpL ds ≤ 4 → szL ds ≤ 1000 → ftL ds = true
  | [], _, _, _ => rfl
  | d :: ds, h, ht, hz => by
    rw [nsL, Bool.and_eq_true] at h
    rw [tdpL] at ht
    rw [szL] at hz
    have h1 := szD_pos d h.1
    have h2 := szL_nn ds h.2
    rw [ftL, ns_ft d h.1 (by omega) (by omega), nsL_ft ds h.2 (by omega) (by omega)]
    rfl
end
theorem ft_eq (d : PyData) : ftD d = isD d := by
  cases h : isD d with
  | true =>
    unfold isD at h
    simp only [Bool.and_eq_true, decide_eq_true_eq] at h
    exact ns_ft d h.1 (by omega) h.2.2
  | false =>
    cases g : ftD d with
    | false => rfl
    | true => rw [ft_is g] at h; cases h
def sp_lsizeW (K : PySem.W.Frag) (n : Nat) : Sp := fun vs H Q _ => ∃ v d, vs = [v] ∧ Fl K H v d ∧ (isF d || gwD d) = true ∧ tdp d < n ∧ tdp d ≤ 60 ∧ ∀ H', Ex H H' → Q (.int (szD d)) H'
def sp_ldeepW (K : PySem.W.Frag) (n : Nat) : Sp := fun vs H Q _ => ∃ v d, vs = [v] ∧ Fl K H v d ∧ gwD d = true ∧ tdp d < n ∧ ∀ H', Ex H H' → Q (.int (tdp d : Nat)) H'
def sp_lfitsW (K : PySem.W.Frag) (n : Nat) : Sp := fun vs H Q _ => ∃ v d, vs = [v] ∧ Fl K H v d ∧ gwD d = true ∧ tdp d < n ∧ tdp d ≤ 60 ∧ ∀ H', Ex H H' → Q (.bl (ftD d)) H'
def lawRaw (f : Fn) (ds : List PyData) : PyData := if (f.lo ≤ ds.length ∧ ds.length ≤ f.hi) ∧ f.check ds = true then f.raw ds else faultD
theorem lawRaw_y {f : Fn} {ds : List PyData} (h1 : f.lo ≤ ds.length) (h2 : ds.length ≤ f.hi) (h3 : f.check ds = true) : lawRaw f ds = f.raw ds := if_pos ⟨⟨h1, h2⟩, h3⟩
theorem lawRaw_n {f : Fn} {ds : List PyData} (h : ¬ ((f.lo ≤ ds.length ∧ ds.length ≤ f.hi) ∧ f.check ds = true)) : lawRaw f ds = faultD := if_neg h
theorem fault_no : isD faultD = false := by decide +kernel
theorem app_raw (f : Fn) (ds : List PyData) : f.app ds = if isD (lawRaw f ds) = true then lawRaw f ds else faultD := by
  by_cases h1 : f.lo ≤ ds.length ∧ ds.length ≤ f.hi
  · by_cases h2 : f.check ds = true
    · rw [lawRaw_y h1.1 h1.2 h2]
      unfold Fn.app
      rw [if_pos h1, if_pos h2]
    · rw [lawRaw_n fun z => h2 z.2, fault_no]
      unfold Fn.app
      rw [if_pos h1, if_neg h2]
      rfl
  · rw [lawRaw_n fun z => h1 z.1, fault_no]
    unfold Fn.app
    rw [if_neg h1]
    rfl
theorem fl_fault {K : PySem.W.Frag} {H : Hp} : Fl K H (.str (Str.ofString "fault")) faultD := .str _
section
variable {K : PySem.W.Frag} {H : Hp} {Q : VK}
theorem y_isIntF {x : V} {d : PyData} (h : Fl K H x d) (hv : isV d = true) (q : Q (.bl (isInt d)) H) : rIsiU K [x, .ty "int"] H Q := by
  cases d with
  | str z => exact y_isi h.dt (b := false) rfl q
  | int i => exact y_isi h.dt (b := true) rfl q
  | tuple ds => exact y_isi h.dt (b := false) rfl q
  | none => exact absurd hv (by decide)
  | bool b => exact absurd hv (by cases b <;> decide)
  | list _ => cases h
  | dict _ => cases h
theorem isD_V {d : PyData} (h : isD d = true) : isV d = true := by
  unfold isV
  rw [h, Bool.or_true]
theorem k_lcFlL {σ : L2.St} {te : TE} {vs : List Nat} {a : Addr} {xs : List V} {ds : List PyData} {i0 : Nat} (f : PyData → V) (hS : SqL K H a xs) (hD : FlAll K H xs ds) (hz : xs.length ≤ 99999)
    (hs : ∀ x d H1 (Q1 : VK), d ∈ ds → Ex H H1 → Fl K H1 x d → (∀ H2, Ex H1 H2 → Q1 (f d) H2) → te ((wipe σ vs).set i0 (some x)) H1 Q1)
    (hw : ∀ x, wipe ((wipe σ vs).set i0 (some x)) vs = wipe σ vs) (q : ∀ D H2, H D = none → Ex H H2 → H2 D = some (.lst (ds.map f)) → Q (.ref D) H2) : kLc (Itl K a) (gName i0) tYes te vs σ H Q := by
  refine k_lcL (xs := xs) (fun j ys H' => Ex H H' ∧ ys = (ds.take j).map f) (fun D n => ⟨Ex.new n, rfl⟩) (fun j ys H' _ p => p.1.sl hS) (fun D j x ys H' n hx hj hl hHD p => ?_) hw fun D ys H' n hl hHD p => ?_
  · obtain ⟨e, rfl⟩ := p
    obtain ⟨d, hd, hf⟩ := hD.get hx
    refine hs x d H' _ (List.mem_of_getElem? hd) e (hf.mono e.et) fun H2 e2 => k_turn (e2 _ _ hHD) hl (by omega) ⟨Ex.putN (e.trans e2) n, ?_⟩
    rw [List.take_add_one, hd, List.map_append]
    rfl
  · obtain ⟨e, rfl⟩ := p
    refine q D H' n e ?_
    rw [hHD, hD.length, List.take_length]
end
theorem any_map {b : PyData → Bool} (ds : List PyData) : (ds.map b).any id = ds.any b := by
  rw [List.any_map]
  rfl
theorem isD_cases {d : PyData} (h : isD d = true) : isInt d = !isTup d := by
  obtain ⟨h1, _⟩ := isD_parts h
  cases d <;> first | rfl | simp [nsD] at h1
theorem no_ints {ds : List PyData} (h : ∀ d ∈ ds, isD d = true) : ds.any isInt = !ds.all isTup := by
  induction ds with
  | nil => rfl
  | cons d ds ih =>
    rw [List.any_cons, List.all_cons, ih fun e he => h e (List.mem_cons_of_mem _ he), isD_cases (h d List.mem_cons_self), Bool.not_and]
def sp_lglued (K : PySem.W.Frag) : Sp := fun vs H Q _ => ∃ g ws ds, vs = [.ref g] ∧ SqL K H g ws ∧ FlAll K H ws ds ∧ (∀ d ∈ ds, isD d = true) ∧ ws.length ≤ 100 ∧ ∀ v H', Ex H H' → Fl K H' v (lawRaw .join ds) → Q v H'
def two5 : Fn → Bool
  | .add | .sub | .mul | .div | .less => true
  | _ => false
def sp_lof2 (K : PySem.W.Frag) : Sp := fun vs H Q _ => ∃ (f : Fn) (a b : Int), vs = [.str f.nm, .int a, .int b] ∧ two5 f = true ∧ a.natAbs < 10 ^ 1000 ∧ b.natAbs < 10 ^ 1000 ∧ ∀ v, Fl K H v (lawRaw f [.int a, .int b]) → Q v H
def tup7 : Fn → Bool
  | .item | .take | .drop | .length | .sort | .total | .turn => true
  | _ => false
def sp_lofT (K : PySem.W.Frag) : Sp := fun vs H Q _ => ∃ (f : Fn) (t l : Addr) (xs ys : List V) (es rs : List PyData), vs = [.str f.nm, .ref t, .ref l] ∧ tup7 f = true ∧ SqT K H t xs ∧ FlAll K H xs es ∧ isD (.tuple es) = true ∧ SqL K H l ys ∧ FlAll K H ys rs ∧ (∀ d ∈ rs, isD d = true) ∧ ys.length ≤ 100 ∧
  ∀ v H', Ex H H' → Fl K H' v (lawRaw f (.tuple es :: rs)) → Q v H'
def sp_lraw (K : PySem.W.Frag) : Sp := fun vs H Q _ => ∃ (f : Fn) (g : Addr) (ws : List V) (ds : List PyData), vs = [.str f.nm, .ref g] ∧ SqL K H g ws ∧ FlAll K H ws ds ∧ (∀ d ∈ ds, isD d = true) ∧ ws.length ≤ 100 ∧ ∀ v H', Ex H H' → Fl K H' v (lawRaw f ds) → Q v H'
def sp_lresult (K : PySem.W.Frag) : Sp := fun vs H Q _ => ∃ (f : Fn) (g : Addr) (ws : List V) (ds : List PyData), vs = [.str f.nm, .ref g] ∧ SqL K H g ws ∧ FlAll K H ws ds ∧ (∀ d ∈ ds, isV d = true) ∧ ws.length ≤ 100 ∧ ∀ v H', Ex H H' → Fl K H' v (f.app ds) → Q v H'
theorem cnt_check (es : List PyData) (r : PyData) : canCount [.tuple es, r] = (isInt r && decide (0 ≤ toI r)) := rfl
theorem isV_nsm {es : List PyData} (h2 : nsL es = true) (h3 : 1 + szL es ≤ 1000) (h4 : 1 + tdpL es ≤ 4) {d : PyData} (hd : d ∈ es) : isV d = true := by
  have a := szL_mem h2 hd
  have b := tdp_mem hd
  refine isD_V ?_
  unfold isD
  rw [nsL_mem h2 hd, decide_eq_true (by omega : (tdp d : Int) ≤ 4), decide_eq_true (by omega : szD d ≤ 1000)]
  rfl
theorem raw_int (f : Fn) (i : Int) (dr : List PyData) (h : tup7 f = true) : ¬ f.check (.int i :: dr) = true := by
  cases f <;> first | (cases h; done) | (intro z; exact Bool.noConfusion z)
theorem cut_tail (x : V) (xs : List V) : cutV (x :: xs) (some 1) none = xs := by
  rw [show (some 1 : Option Int) = some ((1 : Nat) : Int) from rfl, cutV_drop]
  rfl
theorem min_sorted {ns r : List Int} {a : Int} (p : (a :: r).Perm ns) (s : (a :: r).Pairwise (· ≤ ·)) : minL ns = a :=
  minL_of (p.mem_iff.mp List.mem_cons_self) fun z hz => by
    rcases List.mem_cons.mp (p.mem_iff.mpr hz) with rfl | h
    · exact Int.le_refl _
    · exact (List.pairwise_cons.mp s).1 z h
theorem max_sorted {ns r : List Int} {a : Int} (p : (r ++ [a]).Perm ns) (s : (r ++ [a]).Pairwise (· ≤ ·)) : maxL ns = a :=
  maxL_of (p.mem_iff.mp (by simp)) fun z hz => by
    rcases List.mem_append.mp (p.mem_iff.mpr hz) with h | h
    · exact (List.pairwise_append.mp s).2.2 z h a (by simp)
    · rw [List.mem_singleton.mp h]; exact Int.le_refl _
theorem FlAll.dpA {K : PySem.W.Frag} {H : Hp} : ∀ {vs : List V} {ds : List PyData}, FlAll K H vs ds → DpAll K H vs ds
  | _, _, .nil => .nil
  | _, _, .cons a b => .cons a.dp b.dpA
theorem V_lay {d : PyData} (h : isV d = true) : PyData.canLay0 d = true ∧ PyData.depth d ≤ 4 := by
  unfold isV at h
  cases hf : isF d with
  | true =>
    have e := isF_inv hf
    subst e
    exact ⟨by rw [PyData.canLay0]; decide +kernel, by rw [PyData.depth]; decide⟩
  | false =>
    rw [hf, Bool.false_or] at h
    obtain ⟨a, b, _⟩ := isD_parts h
    obtain ⟨c, e⟩ := ns_lay d a
    exact ⟨c, by omega⟩
theorem VL_lay : ∀ {ds : List PyData}, (∀ d ∈ ds, isV d = true) → PyData.canLayAll0 ds = true ∧ PyData.depthAll ds ≤ 4
  | [], _ => ⟨rfl, Nat.zero_le _⟩
  | d :: ds, h => by
    obtain ⟨a, b⟩ := V_lay (h d List.mem_cons_self)
    obtain ⟨c, e⟩ := VL_lay (ds := ds) fun x hx => h x (List.mem_cons_of_mem _ hx)
    exact ⟨by rw [PyData.canLayAll0, a, c]; rfl, by rw [PyData.depthAll]; exact Nat.max_le.mpr ⟨b, e⟩⟩
theorem VL_shaped {ds : List PyData} (h : ∀ d ∈ ds, isV d = true) : SeqAt.shaped (.list ds) = true := by
  obtain ⟨a, b⟩ := VL_lay h
  unfold SeqAt.shaped
  rw [PyData.canLay0, a, Bool.true_and, decide_eq_true_eq, PyData.depth]
  omega
/-- 'fault' in a list of values -/
theorem y_inFault {K : PySem.W.Frag} {H : Hp} {Q : VK} {g : Addr} {ws : List V} {ds : List PyData} (hS : SqL K H g ws) (hF : FlAll K H ws ds) (hV : ∀ d ∈ ds, isV d = true) (q : Q (.bl (ds.any fun z => PyData.eqv z faultD)) H) : rInU K (.str (Str.ofString "fault")) (.ref g) H Q :=
  .inr (.inr ⟨faultD, ds, .str _, .lst hS hF.dpA, fault_shaped, VL_shaped hV, q⟩)
theorem eqv_fault {d : PyData} (h : isV d = true) : PyData.eqv d faultD = isF d := by
  unfold isV at h
  cases hf : isF d with
  | true =>
    have e := isF_inv hf
    subst e
    decide +kernel
  | false =>
    rw [hf, Bool.false_or] at h
    obtain ⟨a, _⟩ := isD_parts h
    cases d <;> first | rfl | simp [nsD] at a
theorem any_fault {ds : List PyData} (hV : ∀ d ∈ ds, isV d = true) : (ds.any fun z => PyData.eqv z faultD) = ds.any isF := by
  induction ds with
  | nil => rfl
  | cons d ds ih => rw [List.any_cons, List.any_cons, eqv_fault (hV d List.mem_cons_self), ih fun e he => hV e (List.mem_cons_of_mem _ he)]
theorem no_fault {ds : List PyData} (hV : ∀ d ∈ ds, isV d = true) (h : ds.any isF = false) : ∀ d ∈ ds, isD d = true := fun d hd => by
  have a := hV d hd
  unfold isV at a
  have b : isF d = false := by
    cases c : isF d with
    | false => rfl
    | true => rw [List.any_eq_true.mpr ⟨d, hd, c⟩] at h; cases h
  rw [b, Bool.false_or] at a
  exact a
theorem fault_kinds {d : PyData} (h : isF d = true) : isInt d = false ∧ isTup d = false ∧ isD d = false := by
  have e := isF_inv h
  subst e
  exact ⟨rfl, rfl, fault_no⟩
theorem all_no {b : PyData → Bool} (hb : ∀ d, isF d = true → b d = false) {ds : List PyData} (h : ds.any isF = true) : ds.all b = false := by
  obtain ⟨d, hd, hf⟩ := List.any_eq_true.mp h
  cases c : ds.all b with
  | false => rfl
  | true =>
    have := List.all_eq_true.mp c d hd
    rw [hb d hf] at this
    cases this
theorem check_fault (f : Fn) {ds : List PyData} (h1 : f.lo ≤ ds.length) (h2 : ds.length ≤ f.hi) (h : ds.any isF = true) : f.check ds = false := by
  have hi := all_no (b := isInt) (fun d q => (fault_kinds q).1) h
  have ht := all_no (b := isTup) (fun d q => (fault_kinds q).2.1) h
  have hD := all_no (b := isD) (fun d q => (fault_kinds q).2.2) h
  have two : 2 ≤ ds.length → ds.length ≤ 2 → canCount ds = false := fun k1 k2 => by
    obtain ⟨a, b, rfl⟩ := two_of k1 k2
    have e0 : canCount [a, b] = (isTup a && (isInt b && decide (0 ≤ toI b))) := rfl
    rw [e0]
    simp only [List.any_cons, List.any_nil, Bool.or_false, Bool.or_eq_true] at h
    rcases h with h | h
    · rw [(fault_kinds h).2.1]; rfl
    · rw [(fault_kinds h).1, Bool.false_and, Bool.and_false]
  have one : 1 ≤ ds.length → ds.length ≤ 1 → isTup (at0 ds) = false := fun k1 k2 => by
    obtain ⟨a, rfl⟩ := one_of k1 k2
    simp only [List.any_cons, List.any_nil, Bool.or_false] at h
    exact (fault_kinds h).2.1
  cases f with
  | add | sub | mul | neg | min | max | less => exact hi
  | div => show (ds.all isInt && _) = false; rw [hi]; rfl
  | same | pack => exact hD
  | length | join | turn => exact ht
  | item => show (canCount ds && _) = false; rw [two h1 h2]; rfl
  | take | drop => exact two h1 h2
  | sort | total => show (isTup (at0 ds) && _) = false; rw [one h1 h2]; rfl
theorem app_fault (f : Fn) {ds : List PyData} (h : ds.any isF = true) : f.app ds = faultD := by
  rw [app_raw, lawRaw_n fun z => by rw [check_fault f z.1.1 z.1.2 h] at z; exact Bool.noConfusion z.2]
  rw [fault_no]
  rfl
end Ls
end

section
set_option Elab.async false
set_option linter.all false
set_option maxRecDepth 100000
set_option maxHeartbeats 4000000
namespace Ls
open PySem PySem.Spec PyProof.Rows L2 SX LamX
mutual
theorem ns_shown : ∀ d : PyData, nsD d = true → ((PyData.shown d).length : Int) + 2 ≤ 5 * szD d
  | .int i, h => by
    have e : (PyData.shown (.int i)).length = (intL i).length := by
      rw [PyData.shown_int, show ((toString i : String) : Str) = S (intL i) from str_int i, S_len]
    rw [e]
    have h1 := szD_pos (.int i) rfl
    rw [szD, intL_len] at h1 ⊢
    omega
  | .tuple ds, h => by
    rw [nsD, Bool.and_eq_true] at h
    have h2 := nsL_shown ds h.2
    have hj := join_len (Str.ofString ", ") (PyData.shownAll ds)
    rw [lit_sep, PyData.shownAll_length] at hj
    rw [szD, PyData.shown_tuple, len_app, len_app, lit_open]
    split
    · rw [lit_close1]; omega
    · rw [lit_close]; omega
  | .none, h => by simp [nsD] at h
  | .bool _, h => by simp [nsD] at h
  | .str _, h => by simp [nsD] at h
  | .list _, h => by simp [nsD] at h
  | .dict _, h => by simp [nsD] at h
theorem nsL_shown : ∀ ds : List PyData, nsL ds = true → ((((PyData.shownAll ds).map (·.length)).sum : Nat) : Int) + 2 * ds.length ≤ 5 * szL ds
  | [], _ => by rw [PyData.shownAll_nil, szL]; decide
  | d :: ds, h => by
    rw [nsL, Bool.and_eq_true] at h
    have h1 := ns_shown d h.1
    have h2 := nsL_shown ds h.2
    rw [szL, PyData.shownAll_cons, List.map_cons, List.sum_cons, List.length_cons]
    omega
end
mutual
theorem ns_shW : ∀ d : PyData, nsD d = true → smD d = true → shW d = true
  | .int i, _, h => by rw [smD] at h; rw [shW]; exact h
  | .tuple ds, h, g => by
    rw [nsD, Bool.and_eq_true] at h
    rw [smD] at g
    rw [shW]
    exact nsL_shW ds h.2 g
  | .none, h, _ => by simp [nsD] at h
  | .bool _, h, _ => by simp [nsD] at h
  | .str _, h, _ => by simp [nsD] at h
  | .list _, h, _ => by simp [nsD] at h
  | .dict _, h, _ => by simp [nsD] at h
theorem nsL_shW : ∀ ds : List PyData, nsL ds = true → smL ds = true → shWL ds = true
  | [], _, _ => rfl
  | d :: ds, h, g => by
    rw [nsL, Bool.and_eq_true] at h
    rw [smL, Bool.and_eq_true] at g
    rw [shWL, ns_shW d h.1 g.1, nsL_shW ds h.2 g.2]
    rfl
end
/-- shown within bounds -/
structure Bs (b k : Nat) (d : PyData) : Prop where
  sh : shW d = true
  len : (PyData.shown d).length ≤ b
  dep : PyData.depth d ≤ k
theorem V_bs {d : PyData} (h : isV d = true) : Bs 5000 4 d := by
  have hl := (V_lay h).2
  unfold isV at h
  cases hf : isF d with
  | true =>
    have e := isF_inv hf
    subst e
    exact ⟨rfl, by decide +kernel, hl⟩
  | false =>
    rw [hf, Bool.false_or] at h
    obtain ⟨a, b, c⟩ := isD_parts h
    have := ns_shown d a
    exact ⟨ns_shW d a (isD_sm h), by omega, hl⟩
theorem Bs.lst {b k n : Nat} {ds : List PyData} (h : ∀ d ∈ ds, Bs b k d) (hn : ds.length ≤ n) : Bs (n * (b + 2) + 3) (k + 1) (.list ds) := by
  refine ⟨by rw [shW]; exact showAll_of fun d hd => (h d hd).sh, ?_, by rw [PyData.depth]; exact Nat.succ_le_succ (depAll_of fun d hd => (h d hd).dep)⟩
  have hs := shownAll_sum fun d hd => (h d hd).len
  have hj := join_len (Str.ofString ", ") (PyData.shownAll ds)
  rw [lit_sep, PyData.shownAll_length] at hj
  have hm : ds.length * b + 2 * ds.length ≤ n * (b + 2) := by
    rw [Nat.mul_comm 2, ← Nat.mul_add]
    exact Nat.mul_le_mul_right _ hn
  rw [PyData.shown_list, len_app, len_app, lit_lo, lit_lc]
  omega
theorem Bs.rq {b k : Nat} {d : PyData} (h : Bs b k d) (h1 : b ≤ 100000) (h2 : k ≤ 10) : Rq d := ⟨h.sh, Nat.le_trans h.len h1, Nat.le_trans h.dep h2⟩
theorem VL_rq {ds : List PyData} (h : ∀ d ∈ ds, isV d = true) (hn : ds.length ≤ 15) : Rq (.list ds) := (Bs.lst (fun d hd => V_bs (h d hd)) hn).rq (by decide) (by decide)
def lwSz : Nat → Int
  | 0 => 23
  | m + 1 => 1 + 3 * lwSz m
theorem lwSz_pos : ∀ m, 23 ≤ lwSz m
  | 0 => by decide
  | m + 1 => by
    have := lwSz_pos m
    rw [lwSz]
    omega
def lw : Nat → PyData → Prop
  | 0, d => ∃ i : Int, d = .int i ∧ i.natAbs ≤ 10 ^ 21
  | m + 1, d => (∃ i : Int, d = .int i ∧ i.natAbs ≤ 10 ^ 21) ∨ ∃ ds, d = .tuple ds ∧ ds.length ≤ 3 ∧ ∀ e ∈ ds, lw m e
theorem lw_int {i : Int} (h : i.natAbs ≤ 10 ^ 21) : ∀ m, lw m (.int i)
  | 0 => ⟨i, rfl, h⟩
  | _ + 1 => .inl ⟨i, rfl, h⟩
theorem lw_ns : ∀ {m : Nat} {d : PyData}, lw m d → nsD d = true ∧ szD d ≤ lwSz m ∧ tdp d ≤ m
  | 0, d, ⟨i, e, h⟩ => by subst e; exact ⟨rfl, by rw [szD]; exact szI_21 h, Nat.le_refl _⟩
  | m + 1, d, .inl ⟨i, e, h⟩ => by subst e; exact ⟨rfl, by rw [szD]; exact Int.le_trans (szI_21 h) (lwSz_pos _), Nat.zero_le _⟩
  | m + 1, d, .inr ⟨ds, e, hl, h⟩ => by
    subst e
    refine ⟨?_, ?_, ?_⟩
    · rw [nsD, nsL_ofE fun e he => (lw_ns (h e he)).1, decide_eq_true (by omega : ds.length ≤ 40)]
      rfl
    · rw [szD, lwSz]
      have := szL_le (c := lwSz m) (by have := lwSz_pos m; omega) (fun e he => (lw_ns (h e he)).2.1) hl
      omega
    · rw [tdp]
      have := tdpL_all (ds := ds) (m := m) fun e he => (lw_ns (h e he)).2.2
      omega
theorem lw_V {m : Nat} (hm : m ≤ 3) {d : PyData} (h : lw m d) : isV d = true := by
  obtain ⟨h1, h2, h3⟩ := lw_ns h
  have h4 : lwSz m ≤ 1000 := by
    match m, hm with
    | 0, _ => decide
    | 1, _ => decide
    | 2, _ => decide
    | 3, _ => decide
  refine isD_V ?_
  unfold isD
  rw [h1, decide_eq_true (by omega : (tdp d : Int) ≤ 4), decide_eq_true (by omega : szD d ≤ 1000)]
  rfl
def sp_ldatumW (K : PySem.W.Frag) (n : Nat) : Sp := fun vs H Q _ => ∃ (p : Addr) (m : Nat), vs = [.ref p, .int (m : Nat)] ∧ Pt H p ∧ m < n ∧ ∀ v d H', Fl K H' v d → lw m d → Pt H' p → Em p H H' → Q v H'
theorem int_V {i : Int} (h : i.natAbs ≤ 10 ^ 21) : isV (.int i) = true := lw_V (m := 0) (by decide) ⟨i, rfl, h⟩
theorem ints_V {ds : List PyData} (hl : ds.length ≤ 40) (h : ∀ d ∈ ds, ∃ i : Int, d = .int i ∧ i.natAbs ≤ 10 ^ 21) : isV (.tuple ds) = true := by
  refine isD_V ?_
  have h1 : nsL ds = true := nsL_ofE fun e he => by obtain ⟨i, e1, _⟩ := h e he; subst e1; rfl
  have h2 := szL_le (c := 23) (by decide) (ds := ds) (fun e he => by obtain ⟨i, e1, hi⟩ := h e he; subst e1; rw [szD]; exact szI_21 hi) hl
  have h3 := tdpL_all (ds := ds) (m := 0) fun e he => by obtain ⟨i, e1, _⟩ := h e he; subst e1; exact Nat.le_refl _
  unfold isD
  rw [nsD, h1, szD, tdp, decide_eq_true hl, decide_eq_true (by omega : ((1 + tdpL ds : Nat) : Int) ≤ 4), decide_eq_true (by omega : 1 + szL ds ≤ 1000)]
  rfl
mutual
theorem ns_gw : ∀ d : PyData, nsD d = true → smD d = true → gwD d = true
  | .int i, _, h => h
  | .tuple ds, h, g => by
    rw [nsD, Bool.and_eq_true, decide_eq_true_eq] at h
    rw [smD] at g
    rw [gwD, nsL_gw ds h.2 g, decide_eq_true (by omega : ds.length ≤ 1000)]
    rfl
  | .none, h, _ => by simp [nsD] at h
  | .bool _, h, _ => by simp [nsD] at h
  | .str _, h, _ => by simp [nsD] at h
  | .list _, h, _ => by simp [nsD] at h
  | .dict _, h, _ => by simp [nsD] at h
theorem nsL_gw : ∀ ds : List PyData, nsL ds = true → smL ds = true → gwL ds = true
  | [], _, _ => rfl
  | d :: ds, h, g => by
    rw [nsL, Bool.and_eq_true] at h
    rw [smL, Bool.and_eq_true] at g
    rw [gwL, ns_gw d h.1 g.1, nsL_gw ds h.2 g.2]
    rfl
end
theorem D_gw {d : PyData} (h : isD d = true) : gwD d = true := ns_gw d (isD_parts h).1 (isD_sm h)
theorem tup_gw {ds : List PyData} (h : isD (.tuple ds) = true) : ∀ d ∈ ds, gwD d = true := by
  have := D_gw h
  rw [gwD, Bool.and_eq_true] at this
  exact fun d hd => gwL_mem this.2 hd
theorem gw_tup {ds : List PyData} (hl : ds.length ≤ 1000) (h : ∀ d ∈ ds, gwD d = true) : gwD (.tuple ds) = true := by
  rw [gwD, decide_eq_true hl, gwL_of h]
  rfl
theorem flat_len {ds : List PyData} (h : ∀ d ∈ ds, (toL d).length ≤ 40) : (ds.map toL).flatten.length ≤ 40 * ds.length := by
  induction ds with
  | nil => exact Nat.zero_le _
  | cons d ds ih =>
    have h1 := h d List.mem_cons_self
    have h2 := ih fun e he => h e (List.mem_cons_of_mem _ he)
    rw [List.map_cons, List.flatten_cons, List.length_append, List.length_cons]
    omega
theorem raw_gw (f : Fn) {ds : List PyData} (hV : ∀ d ∈ ds, isD d = true) (h1 : f.lo ≤ ds.length) (h2 : ds.length ≤ f.hi) (hc : f.check ds = true) : gwD (f.raw ds) = true := by
  have hs := (raw_sm f (List.all_eq_true.mpr fun d hd => isD_V (hV d hd)) h1 h2 hc).1
  have tup0 : isTup (at0 ds) = true → isD (.tuple (toL (at0 ds))) = true := fun ht => by
    cases ds with
    | nil => cases ht
    | cons d ds =>
      obtain ⟨es, e⟩ := isTup_inv (show isTup d = true from ht)
      subst e
      exact hV _ List.mem_cons_self
  have len0 : isTup (at0 ds) = true → (toL (at0 ds)).length ≤ 40 := fun ht => (isV_tup (isD_V (tup0 ht))).1
  cases f with
  | add | sub | mul | div | neg | min | max | less | same | length | total => exact hs
  | item =>
    have hc' : (canCount ds && decide (toI (at1 ds) < ((toL (at0 ds)).length : Nat))) = true := hc
    rw [Bool.and_eq_true, decide_eq_true_eq] at hc'
    have hk : (isTup (at0 ds) && (isInt (at1 ds) && decide (0 ≤ toI (at1 ds)))) = true := hc'.1
    simp only [Bool.and_eq_true, decide_eq_true_eq] at hk
    have hlt : (toI (at1 ds)).toNat < (toL (at0 ds)).length := by omega
    have e : Fn.raw .item ds = (toL (at0 ds))[(toI (at1 ds)).toNat] := by
      show (toL (at0 ds)).getD (toI (at1 ds)).toNat .none = _
      rw [List.getD_eq_getElem?_getD, List.getElem?_eq_getElem hlt]
      rfl
    rw [e]
    exact tup_gw (tup0 hk.1) _ (List.getElem_mem hlt)
  | pack => exact gw_tup (Nat.le_trans h2 (by decide)) fun d hd => D_gw (hV d hd)
  | join =>
    have ht : ds.all isTup = true := hc
    have hb : ∀ d ∈ ds, (toL d).length ≤ 40 := fun d hd => by
      obtain ⟨es, rfl⟩ := isTup_inv (List.all_eq_true.mp ht d hd)
      exact (isV_tup (isD_V (hV _ hd))).1
    have h2' : ds.length ≤ 6 := h2
    refine gw_tup (by have := flat_len hb; omega) fun d hd => ?_
    obtain ⟨l, hl, hd⟩ := List.mem_flatten.mp hd
    obtain ⟨t, htt, rfl⟩ := List.mem_map.mp hl
    obtain ⟨es, rfl⟩ := isTup_inv (List.all_eq_true.mp ht t htt)
    exact tup_gw (hV _ htt) d hd
  | take =>
    have hk : (isTup (at0 ds) && (isInt (at1 ds) && decide (0 ≤ toI (at1 ds)))) = true := hc
    rw [Bool.and_eq_true] at hk
    refine gw_tup ?_ fun d hd => tup_gw (tup0 hk.1) d (List.mem_of_mem_take hd)
    have := len0 hk.1
    rw [List.length_take]
    omega
  | drop =>
    have hk : (isTup (at0 ds) && (isInt (at1 ds) && decide (0 ≤ toI (at1 ds)))) = true := hc
    rw [Bool.and_eq_true] at hk
    refine gw_tup ?_ fun d hd => tup_gw (tup0 hk.1) d (List.mem_of_mem_drop hd)
    have := len0 hk.1
    rw [List.length_drop]
    omega
  | sort =>
    have hk : (isTup (at0 ds) && (toL (at0 ds)).all isInt) = true := hc
    rw [Bool.and_eq_true] at hk
    have := len0 hk.1
    refine gw_tup ?_ fun d hd => ?_
    · rw [List.length_map, (sortL_perm _).length_eq, List.length_map]
      omega
    · obtain ⟨i, hi, rfl⟩ := List.mem_map.mp hd
      have hi2 := (sortL_perm _).mem_iff.mp hi
      refine tup_gw (tup0 hk.1) _ ?_
      rw [ints_of hk.2]
      exact List.mem_map.mpr ⟨i, hi2, rfl⟩
  | turn =>
    obtain ⟨x, rfl⟩ := one_of h1 h2
    obtain ⟨es, rfl⟩ := isTup_inv (by simpa using (show List.all [x] isTup = true from hc))
    have ht : isTup (at0 [PyData.tuple es]) = true := rfl
    refine gw_tup ?_ fun d hd => tup_gw (tup0 ht) d (List.mem_reverse.mp hd)
    have := len0 ht
    rw [List.length_reverse]
    omega
section
variable {K : PySem.W.Frag} {H : Hp} {Q : VK}
theorem y_neFaultW {x : V} {d : PyData} (h : Fl K H x d) (hg : gwD d = true) (ht : tdp d ≤ 60) (q : Q (.bl true) H) : rNeU K x (.str (Str.ofString "fault")) H Q := by
  refine y_neD h.dp (.str _) (gw_shaped hg ht) fault_shaped ?_
  cases d <;> first | exact q | simp [gwD] at hg
/-- [g(x) for x in l] over data -/
theorem k_lcG {σ : L2.St} {te : TE} {vs : List Nat} {a : Addr} {xs : List V} {ds : List PyData} {i0 : Nat} (g : PyData → PyData) (hS : SqL K H a xs) (hD : FlAll K H xs ds) (hz : xs.length ≤ 99999)
    (hs : ∀ x d H1 (Q1 : VK), d ∈ ds → Ex H H1 → Fl K H1 x d → (∀ y H2, Ex H1 H2 → Fl K H2 y (g d) → Q1 y H2) → te ((wipe σ vs).set i0 (some x)) H1 Q1)
    (hw : ∀ x, wipe ((wipe σ vs).set i0 (some x)) vs = wipe σ vs) (q : ∀ D ys H2, H D = none → Ex H H2 → H2 D = some (.lst ys) → FlAll K H2 ys (ds.map g) → Q (.ref D) H2) : kLc (Itl K a) (gName i0) tYes te vs σ H Q := by
  refine k_lcL (xs := xs) (fun j ys H' => Ex H H' ∧ FlAll K H' ys ((ds.take j).map g)) (fun D n => ⟨Ex.new n, .nil⟩) (fun j ys H' _ p => p.1.sl hS) (fun D j x ys H' n hx hj hl hHD p => ?_) hw fun D ys H' n hl hHD p => ?_
  · obtain ⟨e, hF⟩ := p
    obtain ⟨d, hd, hf⟩ := hD.get hx
    refine hs x d H' _ (List.mem_of_getElem? hd) e (hf.mono e.et) fun y H2 e2 hy => k_turn (e2 _ _ hHD) hl (by omega) ⟨Ex.putN (e.trans e2) n, ?_⟩
    have t2 : Et H2 (upd H2 D (.lst (ys ++ [y]))) := Et.putL (e2 _ _ hHD)
    rw [List.take_add_one, hd, List.map_append]
    exact (hF.mono (e2.et.trans t2)).append (.cons (hy.mono t2) .nil)
  · obtain ⟨e, hF⟩ := p
    rw [hD.length, List.take_length] at hF
    exact q D ys H' n e hHD hF
theorem y_inT {t : Addr} {x : Str} {ys : List V} (h : H t = some (.tup ys)) (hf : ys.all flatV = true) (q : Q (.bl (inV (.str x) ys)) H) : rInU K (.str x) (.ref t) H Q := by
  refine .inl ⟨t, ys, rfl, .inr (.of h), rfl, hf, ?_⟩
  rw [if_neg Bool.false_ne_true]
  exact q
end
def sp_lapplied (K : PySem.W.Frag) : Sp := fun vs H Q _ => ∃ (f : Fn) (g : Addr) (ws : List V) (ds : List PyData), vs = [.str f.nm, .ref g] ∧ SqL K H g ws ∧ FlAll K H ws ds ∧ (∀ d ∈ ds, isV d = true) ∧ ws.length ≤ 7 ∧ ∀ v H', Ex H H' → Fl K H' v (f.app ds) → Q v H'
def sp_lints (K : PySem.W.Frag) : Sp := fun vs H Q _ => ∃ (p : Addr) (m : Nat), vs = [.ref p, .int (m : Nat)] ∧ Pt H p ∧ m ≤ 20 ∧ ∀ v d H', Fl K H' v d → isV d = true → Pt H' p → Em p H H' → Q v H'
def sp_lgiven (K : PySem.W.Frag) : Sp := fun vs H Q _ => ∃ (p l : Addr) (f : Fn) (xs : List V) (ds : List PyData), vs = [.ref p, .str f.nm, .ref l] ∧ Pt H p ∧ SqL K H l xs ∧ l ≠ p ∧ FlAll K H xs ds ∧ (∀ d ∈ ds, isV d = true) ∧ 0 < xs.length ∧ xs.length ≤ 100 ∧
  ∀ g ws es H', H g = none → H' g = some (.lst ws) → FlAll K H' ws es → (∀ d ∈ es, isV d = true) → ws.length ≤ 7 → Pt H' p → Em p H H' → Q (.ref g) H'
def sp_lright15 : Sp := fun vs H Q _ => ∃ p : Addr, vs = [.ref p] ∧ Pt H p ∧ ∀ H', Pt H' p → Em p H H' → Q (.bl true) H'
/-- a function's call with values -/
theorem app_val {K : PySem.W.Frag} {CF CV : Addr} {H : Hp} {Q : VK} {E : XK} {f : Fn} {ws : List V} {ds : List PyData} (hF : FlAll K H ws ds) (hV : ∀ d ∈ ds, isV d = true) (hz : ws.length ≤ 100)
    (q : ∀ v H', Ex H H' → Fl K H' v (f.app ds) → Q v H') : spStar 1 (sp_app K CF CV) (.str f.nm :: ws) H Q E := by
  have hA : ds.all isV = true := List.all_eq_true.mpr hV
  refine ⟨[.str f.nm], ws, rfl, rfl, Nat.le_trans hz (by decide), fun t nt => ⟨.str f.nm, .str f.nm, t, ws, ds, rfl, .str _, .of upd_same, hF.dtA.mono (Ex.new nt), by omega, fun e he => by have := isV_sm (hV e he); exact ⟨this.1, by omega⟩, fun h => ?_, fun g j w hg hj => ?_, fun g hg _ r H' e h => ?_⟩⟩
  · rw [fnD_nm] at h; cases h
  · rw [firstBad_all hA] at hj; cases hj
  · rw [fnD_nm] at hg
    cases hg
    exact q r H' ((Ex.new nt).trans e) h
end Ls
end

section
set_option Elab.async false
set_option linter.all false
set_option maxRecDepth 100000
set_option maxHeartbeats 4000000
namespace My
open PySem PySem.Spec PyProof.Rows L2 Ls
def topS (i : Nat) : Stmt := PySem.Challenge.pw_leastsession_k15_whole_functions.main.body.getD i (.Pass ⟨0, 0, 0, 0⟩)
abbrev s_is_int : Stmt := topS 10
abbrev N_is_int : List Str := ["value"]
abbrev P_is_int : List Str := ["value"]
theorem sc_is_int : FnScope N_is_int (P_is_int) (defScope s_is_int) := ⟨rfl, rfl, rfl, by decide +kernel, rfl, by decide +kernel, by decide +kernel⟩
abbrev s_is_count : Stmt := topS 11
abbrev N_is_count : List Str := ["value"]
abbrev P_is_count : List Str := ["value"]
theorem sc_is_count : FnScope N_is_count (P_is_count) (defScope s_is_count) := ⟨rfl, rfl, rfl, by decide +kernel, rfl, by decide +kernel, by decide +kernel⟩
abbrev s_is_nested : Stmt := topS 12
abbrev N_is_nested : List Str := ["value", "item"]
abbrev P_is_nested : List Str := ["value"]
theorem sc_is_nested : FnScope N_is_nested (P_is_nested) (defScope s_is_nested) := ⟨rfl, rfl, rfl, by decide +kernel, rfl, by decide +kernel, by decide +kernel⟩
abbrev s_depth_of : Stmt := topS 13
abbrev N_depth_of : List Str := ["datum", "item"]
abbrev P_depth_of : List Str := ["datum"]
theorem sc_depth_of : FnScope N_depth_of (P_depth_of) (defScope s_depth_of) := ⟨rfl, rfl, rfl, by decide +kernel, rfl, by decide +kernel, by decide +kernel⟩
abbrev s_datum_size : Stmt := topS 14
abbrev N_datum_size : List Str := ["datum", "item"]
abbrev P_datum_size : List Str := ["datum"]
theorem sc_datum_size : FnScope N_datum_size (P_datum_size) (defScope s_datum_size) := ⟨rfl, rfl, rfl, by decide +kernel, rfl, by decide +kernel, by decide +kernel⟩
abbrev s_is_datum : Stmt := topS 15
abbrev N_is_datum : List Str := ["value"]
abbrev P_is_datum : List Str := ["value"]
theorem sc_is_datum : FnScope N_is_datum (P_is_datum) (defScope s_is_datum) := ⟨rfl, rfl, rfl, by decide +kernel, rfl, by decide +kernel, by decide +kernel⟩
abbrev s_is_fault : Stmt := topS 16
abbrev N_is_fault : List Str := ["value"]
abbrev P_is_fault : List Str := ["value"]
theorem sc_is_fault : FnScope N_is_fault (P_is_fault) (defScope s_is_fault) := ⟨rfl, rfl, rfl, by decide +kernel, rfl, by decide +kernel, by decide +kernel⟩
abbrev s_is_value : Stmt := topS 17
abbrev N_is_value : List Str := ["value"]
abbrev P_is_value : List Str := ["value"]
theorem sc_is_value : FnScope N_is_value (P_is_value) (defScope s_is_value) := ⟨rfl, rfl, rfl, by decide +kernel, rfl, by decide +kernel, by decide +kernel⟩
abbrev s_are_integers : Stmt := topS 21
abbrev N_are_integers : List Str := ["arguments", "argument"]
abbrev P_are_integers : List Str := ["arguments"]
theorem sc_are_integers : FnScope N_are_integers (P_are_integers) (defScope s_are_integers) := ⟨rfl, rfl, rfl, by decide +kernel, rfl, by decide +kernel, by decide +kernel⟩
abbrev s_are_tuples : Stmt := topS 22
abbrev N_are_tuples : List Str := ["arguments", "argument"]
abbrev P_are_tuples : List Str := ["arguments"]
theorem sc_are_tuples : FnScope N_are_tuples (P_are_tuples) (defScope s_are_tuples) := ⟨rfl, rfl, rfl, by decide +kernel, rfl, by decide +kernel, by decide +kernel⟩
abbrev s_are_data : Stmt := topS 23
abbrev N_are_data : List Str := ["arguments", "argument"]
abbrev P_are_data : List Str := ["arguments"]
theorem sc_are_data : FnScope N_are_data (P_are_data) (defScope s_are_data) := ⟨rfl, rfl, rfl, by decide +kernel, rfl, by decide +kernel, by decide +kernel⟩
abbrev s_can_divide : Stmt := topS 24
abbrev N_can_divide : List Str := ["arguments"]
abbrev P_can_divide : List Str := ["arguments"]
theorem sc_can_divide : FnScope N_can_divide (P_can_divide) (defScope s_can_divide) := ⟨rfl, rfl, rfl, by decide +kernel, rfl, by decide +kernel, by decide +kernel⟩
abbrev s_can_count : Stmt := topS 25
abbrev N_can_count : List Str := ["arguments"]
abbrev P_can_count : List Str := ["arguments"]
theorem sc_can_count : FnScope N_can_count (P_can_count) (defScope s_can_count) := ⟨rfl, rfl, rfl, by decide +kernel, rfl, by decide +kernel, by decide +kernel⟩
abbrev s_can_index : Stmt := topS 26
abbrev N_can_index : List Str := ["arguments"]
abbrev P_can_index : List Str := ["arguments"]
theorem sc_can_index : FnScope N_can_index (P_can_index) (defScope s_can_index) := ⟨rfl, rfl, rfl, by decide +kernel, rfl, by decide +kernel, by decide +kernel⟩
abbrev s_is_integer_tuple : Stmt := topS 27
abbrev N_is_integer_tuple : List Str := ["arguments"]
abbrev P_is_integer_tuple : List Str := ["arguments"]
theorem sc_is_integer_tuple : FnScope N_is_integer_tuple (P_is_integer_tuple) (defScope s_is_integer_tuple) := ⟨rfl, rfl, rfl, by decide +kernel, rfl, by decide +kernel, by decide +kernel⟩
abbrev s_do_add : Stmt := topS 28
abbrev N_do_add : List Str := ["arguments"]
abbrev P_do_add : List Str := ["arguments"]
theorem sc_do_add : FnScope N_do_add (P_do_add) (defScope s_do_add) := ⟨rfl, rfl, rfl, by decide +kernel, rfl, by decide +kernel, by decide +kernel⟩
abbrev s_do_sub : Stmt := topS 29
abbrev N_do_sub : List Str := ["arguments"]
abbrev P_do_sub : List Str := ["arguments"]
theorem sc_do_sub : FnScope N_do_sub (P_do_sub) (defScope s_do_sub) := ⟨rfl, rfl, rfl, by decide +kernel, rfl, by decide +kernel, by decide +kernel⟩
abbrev s_do_mul : Stmt := topS 30
abbrev N_do_mul : List Str := ["arguments"]
abbrev P_do_mul : List Str := ["arguments"]
theorem sc_do_mul : FnScope N_do_mul (P_do_mul) (defScope s_do_mul) := ⟨rfl, rfl, rfl, by decide +kernel, rfl, by decide +kernel, by decide +kernel⟩
abbrev s_do_div : Stmt := topS 31
abbrev N_do_div : List Str := ["arguments"]
abbrev P_do_div : List Str := ["arguments"]
theorem sc_do_div : FnScope N_do_div (P_do_div) (defScope s_do_div) := ⟨rfl, rfl, rfl, by decide +kernel, rfl, by decide +kernel, by decide +kernel⟩
abbrev s_do_neg : Stmt := topS 32
abbrev N_do_neg : List Str := ["arguments"]
abbrev P_do_neg : List Str := ["arguments"]
theorem sc_do_neg : FnScope N_do_neg (P_do_neg) (defScope s_do_neg) := ⟨rfl, rfl, rfl, by decide +kernel, rfl, by decide +kernel, by decide +kernel⟩
abbrev s_do_min : Stmt := topS 33
abbrev N_do_min : List Str := ["arguments"]
abbrev P_do_min : List Str := ["arguments"]
theorem sc_do_min : FnScope N_do_min (P_do_min) (defScope s_do_min) := ⟨rfl, rfl, rfl, by decide +kernel, rfl, by decide +kernel, by decide +kernel⟩
abbrev s_do_max : Stmt := topS 34
abbrev N_do_max : List Str := ["arguments"]
abbrev P_do_max : List Str := ["arguments"]
theorem sc_do_max : FnScope N_do_max (P_do_max) (defScope s_do_max) := ⟨rfl, rfl, rfl, by decide +kernel, rfl, by decide +kernel, by decide +kernel⟩
abbrev s_do_less : Stmt := topS 35
abbrev N_do_less : List Str := ["arguments"]
abbrev P_do_less : List Str := ["arguments"]
theorem sc_do_less : FnScope N_do_less (P_do_less) (defScope s_do_less) := ⟨rfl, rfl, rfl, by decide +kernel, rfl, by decide +kernel, by decide +kernel⟩
abbrev s_do_same : Stmt := topS 36
abbrev N_do_same : List Str := ["arguments"]
abbrev P_do_same : List Str := ["arguments"]
theorem sc_do_same : FnScope N_do_same (P_do_same) (defScope s_do_same) := ⟨rfl, rfl, rfl, by decide +kernel, rfl, by decide +kernel, by decide +kernel⟩
abbrev s_do_length : Stmt := topS 37
abbrev N_do_length : List Str := ["arguments"]
abbrev P_do_length : List Str := ["arguments"]
theorem sc_do_length : FnScope N_do_length (P_do_length) (defScope s_do_length) := ⟨rfl, rfl, rfl, by decide +kernel, rfl, by decide +kernel, by decide +kernel⟩
abbrev s_do_item : Stmt := topS 38
abbrev N_do_item : List Str := ["arguments"]
abbrev P_do_item : List Str := ["arguments"]
theorem sc_do_item : FnScope N_do_item (P_do_item) (defScope s_do_item) := ⟨rfl, rfl, rfl, by decide +kernel, rfl, by decide +kernel, by decide +kernel⟩
abbrev s_do_pack : Stmt := topS 39
abbrev N_do_pack : List Str := ["arguments"]
abbrev P_do_pack : List Str := ["arguments"]
theorem sc_do_pack : FnScope N_do_pack (P_do_pack) (defScope s_do_pack) := ⟨rfl, rfl, rfl, by decide +kernel, rfl, by decide +kernel, by decide +kernel⟩
abbrev s_do_join : Stmt := topS 40
abbrev N_do_join : List Str := ["arguments", "found", "argument"]
abbrev P_do_join : List Str := ["arguments"]
theorem sc_do_join : FnScope N_do_join (P_do_join) (defScope s_do_join) := ⟨rfl, rfl, rfl, by decide +kernel, rfl, by decide +kernel, by decide +kernel⟩
abbrev s_do_take : Stmt := topS 41
abbrev N_do_take : List Str := ["arguments"]
abbrev P_do_take : List Str := ["arguments"]
theorem sc_do_take : FnScope N_do_take (P_do_take) (defScope s_do_take) := ⟨rfl, rfl, rfl, by decide +kernel, rfl, by decide +kernel, by decide +kernel⟩
abbrev s_do_drop : Stmt := topS 42
abbrev N_do_drop : List Str := ["arguments"]
abbrev P_do_drop : List Str := ["arguments"]
theorem sc_do_drop : FnScope N_do_drop (P_do_drop) (defScope s_do_drop) := ⟨rfl, rfl, rfl, by decide +kernel, rfl, by decide +kernel, by decide +kernel⟩
abbrev s_do_sort : Stmt := topS 43
abbrev N_do_sort : List Str := ["arguments"]
abbrev P_do_sort : List Str := ["arguments"]
theorem sc_do_sort : FnScope N_do_sort (P_do_sort) (defScope s_do_sort) := ⟨rfl, rfl, rfl, by decide +kernel, rfl, by decide +kernel, by decide +kernel⟩
abbrev s_do_total : Stmt := topS 44
abbrev N_do_total : List Str := ["arguments"]
abbrev P_do_total : List Str := ["arguments"]
theorem sc_do_total : FnScope N_do_total (P_do_total) (defScope s_do_total) := ⟨rfl, rfl, rfl, by decide +kernel, rfl, by decide +kernel, by decide +kernel⟩
abbrev s_do_turn : Stmt := topS 45
abbrev N_do_turn : List Str := ["arguments"]
abbrev P_do_turn : List Str := ["arguments"]
theorem sc_do_turn : FnScope N_do_turn (P_do_turn) (defScope s_do_turn) := ⟨rfl, rfl, rfl, by decide +kernel, rfl, by decide +kernel, by decide +kernel⟩
abbrev s_is_function : Stmt := topS 48
abbrev N_is_function : List Str := ["value"]
abbrev P_is_function : List Str := ["value"]
theorem sc_is_function : FnScope N_is_function (P_is_function) (defScope s_is_function) := ⟨rfl, rfl, rfl, by decide +kernel, rfl, by decide +kernel, by decide +kernel⟩
abbrev s_arity : Stmt := topS 49
abbrev N_arity : List Str := ["function"]
abbrev P_arity : List Str := ["function"]
theorem sc_arity : FnScope N_arity (P_arity) (defScope s_arity) := ⟨rfl, rfl, rfl, by decide +kernel, rfl, by decide +kernel, by decide +kernel⟩
abbrev s_apply : Stmt := topS 50
abbrev N_apply : List Str := ["function", "arguments", "least", "most", "argument", "check", "make", "result"]
abbrev P_apply : List Str := ["function"]
theorem sc_apply : FnScope N_apply (P_apply ++ (["arguments"] : List Str)) (defScope s_apply) := ⟨rfl, rfl, rfl, by decide +kernel, rfl, by decide +kernel, by decide +kernel⟩
abbrev s_law_pot : Stmt := topS 52
abbrev N_law_pot : List Str := ["_law_script", "_law_index", "_law_cell"]
abbrev P_law_pot : List Str := ["_law_script", "_law_index"]
theorem sc_law_pot : FnScope N_law_pot (P_law_pot) (defScope s_law_pot) := ⟨rfl, rfl, rfl, by decide +kernel, rfl, by decide +kernel, by decide +kernel⟩
abbrev s_law_digit : Stmt := topS 53
abbrev N_law_digit : List Str := ["_law_pot_here", "_law_many", "_law_digit_here"]
abbrev P_law_digit : List Str := ["_law_pot_here", "_law_many"]
theorem sc_law_digit : FnScope N_law_digit (P_law_digit) (defScope s_law_digit) := ⟨rfl, rfl, rfl, by decide +kernel, rfl, by decide +kernel, by decide +kernel⟩
abbrev s_law_pick : Stmt := topS 54
abbrev N_law_pick : List Str := ["_law_pot_here", "_law_some"]
abbrev P_law_pick : List Str := ["_law_pot_here", "_law_some"]
theorem sc_law_pick : FnScope N_law_pick (P_law_pick) (defScope s_law_pick) := ⟨rfl, rfl, rfl, by decide +kernel, rfl, by decide +kernel, by decide +kernel⟩
abbrev s_law_int : Stmt := topS 55
abbrev N_law_int : List Str := ["_law_pot_here", "_law_way", "_law_great"]
abbrev P_law_int : List Str := ["_law_pot_here"]
theorem sc_law_int : FnScope N_law_int (P_law_int) (defScope s_law_int) := ⟨rfl, rfl, rfl, by decide +kernel, rfl, by decide +kernel, by decide +kernel⟩
abbrev s_law_datum : Stmt := topS 56
abbrev N_law_datum : List Str := ["_law_pot_here", "_law_deep_here", "_law_k"]
abbrev P_law_datum : List Str := ["_law_pot_here", "_law_deep_here"]
theorem sc_law_datum : FnScope N_law_datum (P_law_datum) (defScope s_law_datum) := ⟨rfl, rfl, rfl, by decide +kernel, rfl, by decide +kernel, by decide +kernel⟩
abbrev s_law_size : Stmt := topS 57
abbrev N_law_size : List Str := ["_law_thing", "_law_each"]
abbrev P_law_size : List Str := ["_law_thing"]
theorem sc_law_size : FnScope N_law_size (P_law_size) (defScope s_law_size) := ⟨rfl, rfl, rfl, by decide +kernel, rfl, by decide +kernel, by decide +kernel⟩
abbrev s_law_deep : Stmt := topS 58
abbrev N_law_deep : List Str := ["_law_thing", "_law_each"]
abbrev P_law_deep : List Str := ["_law_thing"]
theorem sc_law_deep : FnScope N_law_deep (P_law_deep) (defScope s_law_deep) := ⟨rfl, rfl, rfl, by decide +kernel, rfl, by decide +kernel, by decide +kernel⟩
abbrev s_law_fits : Stmt := topS 59
abbrev N_law_fits : List Str := ["_law_thing", "_law_each"]
abbrev P_law_fits : List Str := ["_law_thing"]
theorem sc_law_fits : FnScope N_law_fits (P_law_fits) (defScope s_law_fits) := ⟨rfl, rfl, rfl, by decide +kernel, rfl, by decide +kernel, by decide +kernel⟩
abbrev s_law_arity : Stmt := topS 60
abbrev N_law_arity : List Str := ["_law_word"]
abbrev P_law_arity : List Str := ["_law_word"]
theorem sc_law_arity : FnScope N_law_arity (P_law_arity) (defScope s_law_arity) := ⟨rfl, rfl, rfl, by decide +kernel, rfl, by decide +kernel, by decide +kernel⟩
abbrev s_law_words : Stmt := topS 61
abbrev N_law_words : List Str := []
abbrev P_law_words : List Str := []
theorem sc_law_words : FnScope N_law_words (P_law_words) (defScope s_law_words) := ⟨rfl, rfl, rfl, by decide +kernel, rfl, by decide +kernel, by decide +kernel⟩
abbrev s_law_result : Stmt := topS 62
abbrev N_law_result : List Str := ["_law_word", "_law_given_here", "_law_found"]
abbrev P_law_result : List Str := ["_law_word", "_law_given_here"]
theorem sc_law_result : FnScope N_law_result (P_law_result) (defScope s_law_result) := ⟨rfl, rfl, rfl, by decide +kernel, rfl, by decide +kernel, by decide +kernel⟩
abbrev s_law_raw : Stmt := topS 63
abbrev N_law_raw : List Str := ["_law_word", "_law_given_here", "_law_many", "_law_ints_here", "_law_each"]
abbrev P_law_raw : List Str := ["_law_word", "_law_given_here"]
theorem sc_law_raw : FnScope N_law_raw (P_law_raw) (defScope s_law_raw) := ⟨rfl, rfl, rfl, by decide +kernel, rfl, by decide +kernel, by decide +kernel⟩
abbrev s_law_glued : Stmt := topS 64
abbrev N_law_glued : List Str := ["_law_given_here", "_law_each", "_law_found"]
abbrev P_law_glued : List Str := ["_law_given_here"]
theorem sc_law_glued : FnScope N_law_glued (P_law_glued) (defScope s_law_glued) := ⟨rfl, rfl, rfl, by decide +kernel, rfl, by decide +kernel, by decide +kernel⟩
abbrev s_law_of_two : Stmt := topS 65
abbrev N_law_of_two : List Str := ["_law_word", "_law_one", "_law_other"]
abbrev P_law_of_two : List Str := ["_law_word", "_law_one", "_law_other"]
theorem sc_law_of_two : FnScope N_law_of_two (P_law_of_two) (defScope s_law_of_two) := ⟨rfl, rfl, rfl, by decide +kernel, rfl, by decide +kernel, by decide +kernel⟩
abbrev s_law_of_tuple : Stmt := topS 66
abbrev N_law_of_tuple : List Str := ["_law_word", "_law_items", "_law_rest", "_law_each"]
abbrev P_law_of_tuple : List Str := ["_law_word", "_law_items", "_law_rest"]
theorem sc_law_of_tuple : FnScope N_law_of_tuple (P_law_of_tuple) (defScope s_law_of_tuple) := ⟨rfl, rfl, rfl, by decide +kernel, rfl, by decide +kernel, by decide +kernel⟩
abbrev s_law_applied : Stmt := topS 67
abbrev N_law_applied : List Str := ["_law_word", "_law_given_here", "_law_one", "_law_two", "_law_three", "_law_four", "_law_five"]
abbrev P_law_applied : List Str := ["_law_word", "_law_given_here"]
theorem sc_law_applied : FnScope N_law_applied (P_law_applied) (defScope s_law_applied) := ⟨rfl, rfl, rfl, by decide +kernel, rfl, by decide +kernel, by decide +kernel⟩
abbrev s_law_ints : Stmt := topS 68
abbrev N_law_ints : List Str := ["_law_pot_here", "_law_most", "_law_turn"]
abbrev P_law_ints : List Str := ["_law_pot_here", "_law_most"]
theorem sc_law_ints : FnScope N_law_ints (P_law_ints) (defScope s_law_ints) := ⟨rfl, rfl, rfl, by decide +kernel, rfl, by decide +kernel, by decide +kernel⟩
abbrev s_law_given : Stmt := topS 69
abbrev N_law_given : List Str := ["_law_pot_here", "_law_word", "_law_pool", "_law_least", "_law_most", "_law_many", "_law_found", "_law_at", "_law_way", "_law_count"]
abbrev P_law_given : List Str := ["_law_pot_here", "_law_word", "_law_pool"]
theorem sc_law_given : FnScope N_law_given (P_law_given) (defScope s_law_given) := ⟨rfl, rfl, rfl, by decide +kernel, rfl, by decide +kernel, by decide +kernel⟩
abbrev s_law_right : Stmt := topS 70
abbrev N_law_right : List Str := ["_law_pot_here", "_law_pool", "_law_turn", "_law_word", "_law_given_here", "_law_due", "_law_kept", "_law_told"]
abbrev P_law_right : List Str := ["_law_pot_here"]
theorem sc_law_right : FnScope N_law_right (P_law_right) (defScope s_law_right) := ⟨rfl, rfl, rfl, by decide +kernel, rfl, by decide +kernel, by decide +kernel⟩
abbrev s_law : Stmt := topS 71
abbrev N_law : List Str := ["_law_script", "_law_word", "_law_k"]
abbrev P_law : List Str := ["_law_script"]
theorem sc_law : FnScope N_law (P_law) (defScope s_law) := ⟨rfl, rfl, rfl, by decide +kernel, rfl, by decide +kernel, by decide +kernel⟩
abbrev i_UnknownFunction : Stmt := (C8.clsBody (topS 4)).getD 0 (.Pass ⟨0, 0, 0, 0⟩)
abbrev P_i_UnknownFunction : List Str := ["self", "value"]
theorem sc_i_UnknownFunction : FnScope P_i_UnknownFunction P_i_UnknownFunction (defScope i_UnknownFunction) := ⟨rfl, rfl, rfl, by decide +kernel, rfl, by decide +kernel, by decide +kernel⟩
abbrev i_InvalidValue : Stmt := (C8.clsBody (topS 2)).getD 0 (.Pass ⟨0, 0, 0, 0⟩)
abbrev P_i_InvalidValue : List Str := ["self", "value"]
theorem sc_i_InvalidValue : FnScope P_i_InvalidValue P_i_InvalidValue (defScope i_InvalidValue) := ⟨rfl, rfl, rfl, by decide +kernel, rfl, by decide +kernel, by decide +kernel⟩
structure Tx (K : PySem.W.Frag) (mg : Str → Option Value) (w : World) : Prop where
  n_abs : mg "abs" = none
  n_all : mg "all" = none
  n_any : mg "any" = none
  n_bool : mg "bool" = none
  n_divmod : mg "divmod" = none
  n_int : mg "int" = none
  n_isinstance : mg "isinstance" = none
  n_len : mg "len" = none
  n_list : mg "list" = none
  n_max : mg "max" = none
  n_min : mg "min" = none
  n_range : mg "range" = none
  n_repr : mg "repr" = none
  n_sorted : mg "sorted" = none
  n_str : mg "str" = none
  n_sum : mg "sum" = none
  n_tuple : mg "tuple" = none
  c_FAULT : ∃ u, mg "FAULT" = some u ∧ RelV (.str "fault") u
  c_MOST_ITEMS : ∃ u, mg "MOST_ITEMS" = some u ∧ RelV (.int 40) u
  c_MOST_DEPTH : ∃ u, mg "MOST_DEPTH" = some u ∧ RelV (.int 4) u
  c_MOST_SIZE : ∃ u, mg "MOST_SIZE" = some u ∧ RelV (.int 1000) u
  m_FUNCTIONS : mg "FUNCTIONS" = some (.ref (fA mg "FUNCTIONS"))
  t_FUNCTIONS : TupK K (fA mg "FUNCTIONS") [.str "add", .str "sub", .str "mul", .str "div", .str "neg", .str "min", .str "max", .str "less", .str "same", .str "length", .str "item", .str "pack", .str "join", .str "take", .str "drop", .str "sort", .str "total", .str "turn"]
  m_ARITIES : mg "ARITIES" = some (.ref (fA mg "ARITIES"))
  k_ARITIES_0 : ∃ p, KDct K w (fA mg "ARITIES") "add" (.ref p) ∧ TupK K p [.int 2, .int 2]
  k_ARITIES_1 : ∃ p, KDct K w (fA mg "ARITIES") "sub" (.ref p) ∧ TupK K p [.int 2, .int 2]
  k_ARITIES_2 : ∃ p, KDct K w (fA mg "ARITIES") "mul" (.ref p) ∧ TupK K p [.int 2, .int 2]
  k_ARITIES_3 : ∃ p, KDct K w (fA mg "ARITIES") "div" (.ref p) ∧ TupK K p [.int 2, .int 2]
  k_ARITIES_4 : ∃ p, KDct K w (fA mg "ARITIES") "neg" (.ref p) ∧ TupK K p [.int 1, .int 1]
  k_ARITIES_5 : ∃ p, KDct K w (fA mg "ARITIES") "min" (.ref p) ∧ TupK K p [.int 1, .int 6]
  k_ARITIES_6 : ∃ p, KDct K w (fA mg "ARITIES") "max" (.ref p) ∧ TupK K p [.int 1, .int 6]
  k_ARITIES_7 : ∃ p, KDct K w (fA mg "ARITIES") "less" (.ref p) ∧ TupK K p [.int 2, .int 2]
  k_ARITIES_8 : ∃ p, KDct K w (fA mg "ARITIES") "same" (.ref p) ∧ TupK K p [.int 2, .int 2]
  k_ARITIES_9 : ∃ p, KDct K w (fA mg "ARITIES") "length" (.ref p) ∧ TupK K p [.int 1, .int 1]
  k_ARITIES_10 : ∃ p, KDct K w (fA mg "ARITIES") "item" (.ref p) ∧ TupK K p [.int 2, .int 2]
  k_ARITIES_11 : ∃ p, KDct K w (fA mg "ARITIES") "pack" (.ref p) ∧ TupK K p [.int 0, .int 6]
  k_ARITIES_12 : ∃ p, KDct K w (fA mg "ARITIES") "join" (.ref p) ∧ TupK K p [.int 0, .int 6]
  k_ARITIES_13 : ∃ p, KDct K w (fA mg "ARITIES") "take" (.ref p) ∧ TupK K p [.int 2, .int 2]
  k_ARITIES_14 : ∃ p, KDct K w (fA mg "ARITIES") "drop" (.ref p) ∧ TupK K p [.int 2, .int 2]
  k_ARITIES_15 : ∃ p, KDct K w (fA mg "ARITIES") "sort" (.ref p) ∧ TupK K p [.int 1, .int 1]
  k_ARITIES_16 : ∃ p, KDct K w (fA mg "ARITIES") "total" (.ref p) ∧ TupK K p [.int 1, .int 1]
  k_ARITIES_17 : ∃ p, KDct K w (fA mg "ARITIES") "turn" (.ref p) ∧ TupK K p [.int 1, .int 1]
  m_CHECKS : mg "CHECKS" = some (.ref (fA mg "CHECKS"))
  k_CHECKS_0 : KDct K w (fA mg "CHECKS") "add" (.ref (fA mg "are_integers"))
  k_CHECKS_1 : KDct K w (fA mg "CHECKS") "sub" (.ref (fA mg "are_integers"))
  k_CHECKS_2 : KDct K w (fA mg "CHECKS") "mul" (.ref (fA mg "are_integers"))
  k_CHECKS_3 : KDct K w (fA mg "CHECKS") "div" (.ref (fA mg "can_divide"))
  k_CHECKS_4 : KDct K w (fA mg "CHECKS") "neg" (.ref (fA mg "are_integers"))
  k_CHECKS_5 : KDct K w (fA mg "CHECKS") "min" (.ref (fA mg "are_integers"))
  k_CHECKS_6 : KDct K w (fA mg "CHECKS") "max" (.ref (fA mg "are_integers"))
  k_CHECKS_7 : KDct K w (fA mg "CHECKS") "less" (.ref (fA mg "are_integers"))
  k_CHECKS_8 : KDct K w (fA mg "CHECKS") "same" (.ref (fA mg "are_data"))
  k_CHECKS_9 : KDct K w (fA mg "CHECKS") "length" (.ref (fA mg "are_tuples"))
  k_CHECKS_10 : KDct K w (fA mg "CHECKS") "item" (.ref (fA mg "can_index"))
  k_CHECKS_11 : KDct K w (fA mg "CHECKS") "pack" (.ref (fA mg "are_data"))
  k_CHECKS_12 : KDct K w (fA mg "CHECKS") "join" (.ref (fA mg "are_tuples"))
  k_CHECKS_13 : KDct K w (fA mg "CHECKS") "take" (.ref (fA mg "can_count"))
  k_CHECKS_14 : KDct K w (fA mg "CHECKS") "drop" (.ref (fA mg "can_count"))
  k_CHECKS_15 : KDct K w (fA mg "CHECKS") "sort" (.ref (fA mg "is_integer_tuple"))
  k_CHECKS_16 : KDct K w (fA mg "CHECKS") "total" (.ref (fA mg "is_integer_tuple"))
  k_CHECKS_17 : KDct K w (fA mg "CHECKS") "turn" (.ref (fA mg "are_tuples"))
  m_RESULTS : mg "RESULTS" = some (.ref (fA mg "RESULTS"))
  k_RESULTS_0 : KDct K w (fA mg "RESULTS") "add" (.ref (fA mg "do_add"))
  k_RESULTS_1 : KDct K w (fA mg "RESULTS") "sub" (.ref (fA mg "do_sub"))
  k_RESULTS_2 : KDct K w (fA mg "RESULTS") "mul" (.ref (fA mg "do_mul"))
  k_RESULTS_3 : KDct K w (fA mg "RESULTS") "div" (.ref (fA mg "do_div"))
  k_RESULTS_4 : KDct K w (fA mg "RESULTS") "neg" (.ref (fA mg "do_neg"))
  k_RESULTS_5 : KDct K w (fA mg "RESULTS") "min" (.ref (fA mg "do_min"))
  k_RESULTS_6 : KDct K w (fA mg "RESULTS") "max" (.ref (fA mg "do_max"))
  k_RESULTS_7 : KDct K w (fA mg "RESULTS") "less" (.ref (fA mg "do_less"))
  k_RESULTS_8 : KDct K w (fA mg "RESULTS") "same" (.ref (fA mg "do_same"))
  k_RESULTS_9 : KDct K w (fA mg "RESULTS") "length" (.ref (fA mg "do_length"))
  k_RESULTS_10 : KDct K w (fA mg "RESULTS") "item" (.ref (fA mg "do_item"))
  k_RESULTS_11 : KDct K w (fA mg "RESULTS") "pack" (.ref (fA mg "do_pack"))
  k_RESULTS_12 : KDct K w (fA mg "RESULTS") "join" (.ref (fA mg "do_join"))
  k_RESULTS_13 : KDct K w (fA mg "RESULTS") "take" (.ref (fA mg "do_take"))
  k_RESULTS_14 : KDct K w (fA mg "RESULTS") "drop" (.ref (fA mg "do_drop"))
  k_RESULTS_15 : KDct K w (fA mg "RESULTS") "sort" (.ref (fA mg "do_sort"))
  k_RESULTS_16 : KDct K w (fA mg "RESULTS") "total" (.ref (fA mg "do_total"))
  k_RESULTS_17 : KDct K w (fA mg "RESULTS") "turn" (.ref (fA mg "do_turn"))
  d_is_int : Df K mg "is_int" s_is_int P_is_int
  d_is_count : Df K mg "is_count" s_is_count P_is_count
  d_is_nested : Df K mg "is_nested" s_is_nested P_is_nested
  d_depth_of : Df K mg "depth_of" s_depth_of P_depth_of
  d_datum_size : Df K mg "datum_size" s_datum_size P_datum_size
  d_is_datum : Df K mg "is_datum" s_is_datum P_is_datum
  d_is_fault : Df K mg "is_fault" s_is_fault P_is_fault
  d_is_value : Df K mg "is_value" s_is_value P_is_value
  d_are_integers : Df K mg "are_integers" s_are_integers P_are_integers
  d_are_tuples : Df K mg "are_tuples" s_are_tuples P_are_tuples
  d_are_data : Df K mg "are_data" s_are_data P_are_data
  d_can_divide : Df K mg "can_divide" s_can_divide P_can_divide
  d_can_count : Df K mg "can_count" s_can_count P_can_count
  d_can_index : Df K mg "can_index" s_can_index P_can_index
  d_is_integer_tuple : Df K mg "is_integer_tuple" s_is_integer_tuple P_is_integer_tuple
  d_do_add : Df K mg "do_add" s_do_add P_do_add
  d_do_sub : Df K mg "do_sub" s_do_sub P_do_sub
  d_do_mul : Df K mg "do_mul" s_do_mul P_do_mul
  d_do_div : Df K mg "do_div" s_do_div P_do_div
  d_do_neg : Df K mg "do_neg" s_do_neg P_do_neg
  d_do_min : Df K mg "do_min" s_do_min P_do_min
  d_do_max : Df K mg "do_max" s_do_max P_do_max
  d_do_less : Df K mg "do_less" s_do_less P_do_less
  d_do_same : Df K mg "do_same" s_do_same P_do_same
  d_do_length : Df K mg "do_length" s_do_length P_do_length
  d_do_item : Df K mg "do_item" s_do_item P_do_item
  d_do_pack : Df K mg "do_pack" s_do_pack P_do_pack
  d_do_join : Df K mg "do_join" s_do_join P_do_join
  d_do_take : Df K mg "do_take" s_do_take P_do_take
  d_do_drop : Df K mg "do_drop" s_do_drop P_do_drop
  d_do_sort : Df K mg "do_sort" s_do_sort P_do_sort
  d_do_total : Df K mg "do_total" s_do_total P_do_total
  d_do_turn : Df K mg "do_turn" s_do_turn P_do_turn
  d_is_function : Df K mg "is_function" s_is_function P_is_function
  d_arity : Df K mg "arity" s_arity P_arity
  d_apply : DfS K mg "apply" s_apply P_apply "arguments"
  d_law_pot : Df K mg "_law_pot" s_law_pot P_law_pot
  d_law_digit : Df K mg "_law_digit" s_law_digit P_law_digit
  d_law_pick : Df K mg "_law_pick" s_law_pick P_law_pick
  d_law_int : Df K mg "_law_int" s_law_int P_law_int
  d_law_datum : Df K mg "_law_datum" s_law_datum P_law_datum
  d_law_size : Df K mg "_law_size" s_law_size P_law_size
  d_law_deep : Df K mg "_law_deep" s_law_deep P_law_deep
  d_law_fits : Df K mg "_law_fits" s_law_fits P_law_fits
  d_law_arity : Df K mg "_law_arity" s_law_arity P_law_arity
  d_law_words : Df K mg "_law_words" s_law_words P_law_words
  d_law_result : Df K mg "_law_result" s_law_result P_law_result
  d_law_raw : Df K mg "_law_raw" s_law_raw P_law_raw
  d_law_glued : Df K mg "_law_glued" s_law_glued P_law_glued
  d_law_of_two : Df K mg "_law_of_two" s_law_of_two P_law_of_two
  d_law_of_tuple : Df K mg "_law_of_tuple" s_law_of_tuple P_law_of_tuple
  d_law_applied : Df K mg "_law_applied" s_law_applied P_law_applied
  d_law_ints : Df K mg "_law_ints" s_law_ints P_law_ints
  d_law_given : Df K mg "_law_given" s_law_given P_law_given
  d_law_right : Df K mg "_law_right" s_law_right P_law_right
  d_law : Df K mg "law" s_law P_law
  m_UnknownFunction : mg "UnknownFunction" = some (.ref (fA mg "UnknownFunction"))
  m_MissingError : mg "MissingError" = some (.ref (fA mg "MissingError"))
  m_InvalidValue : mg "InvalidValue" = some (.ref (fA mg "InvalidValue"))
  m_SessionError : mg "SessionError" = some (.ref (fA mg "SessionError"))
  k_UnknownFunction : Xd K mg "UnknownFunction" bm_LookupError "LookupError.__new__" i_UnknownFunction P_i_UnknownFunction
  f_UnknownFunction_value : PySem.W.takerIn K (fA mg "UnknownFunction") "value" = some none
  g_UnknownFunction_value : PySem.W.findIn K (.ref (fA mg "UnknownFunction")) "value" = some none
  x_UnknownFunction : ExcC K (fA mg "UnknownFunction")
  v_UnknownFunction : XfC K (fA mg "UnknownFunction")
  k_InvalidValue : Xd K mg "InvalidValue" bm_ValueError "ValueError.__new__" i_InvalidValue P_i_InvalidValue
  f_InvalidValue_value : PySem.W.takerIn K (fA mg "InvalidValue") "value" = some none
  g_InvalidValue_value : PySem.W.findIn K (.ref (fA mg "InvalidValue")) "value" = some none
  x_InvalidValue : ExcC K (fA mg "InvalidValue")
  v_InvalidValue : XfC K (fA mg "InvalidValue")
  n_MissingError : Xn K mg "MissingError" "LookupError.__init__" (fA mg "MissingError")
  n_SessionError : Xn K mg "SessionError" "ValueError.__init__" (fA mg "SessionError")
end My
end

section
set_option Elab.async false
set_option linter.all false
set_option maxRecDepth 100000
set_option maxHeartbeats 4000000
namespace My
open PySem PySem.Spec PyProof.Rows L2 Ls SX
local macro_rules | `(tactic| walk_at "rd1") => `(tactic| (first | ((with_reducible refine' Ls.r_var ?hV ?_); (case hV => exact rfl)) | (with_reducible refine Ls.r_c ?_) | (with_reducible refine Ls.r_op ?_) | (with_reducible refine Ls.r_un ?_) | (with_reducible refine Ls.r_nil ?_) | (with_reducible refine Ls.r_cons ?_) | (with_reducible refine Ls.r_cb ?_) | (with_reducible refine Ls.r_ckw ?_) | (with_reducible refine Ls.r_cal ?_) | (with_reducible refine Ls.r_calK ?_) | (with_reducible refine Ls.r_tup ?_) | (with_reducible refine Ls.r_lst ?_) | (with_reducible refine Ls.r_if ?_) | (with_reducible refine Ls.r_andV ?_) | (with_reducible refine Ls.r_orV ?_) | (with_reducible refine Ls.r_notV ?_) | (with_reducible refine Ls.r_chain ?_) | (with_reducible refine Ls.r_sl ?_) | (with_reducible refine Ls.r_nopart ?_) | (with_reducible refine Ls.r_part ?_) | (with_reducible refine Ls.k_part ?_) | (with_reducible refine Ls.r_test ?_) | (with_reducible refine Ls.r_B ?_) | (with_reducible refine Ls.k_B ?_) | (with_reducible refine Ls.r_not ?_) | (with_reducible refine Ls.r_and ?_) | (with_reducible refine Ls.r_or ?_) | (with_reducible refine Ls.r_seq ?_) | (with_reducible refine Ls.r_ifS ?_) | (with_reducible refine Ls.r_next ?_) | (with_reducible refine Ls.r_brk ?_) | (with_reducible refine Ls.r_cont ?_) | (with_reducible refine Ls.r_ret ?_) | (with_reducible refine Ls.r_retN ?_) | (with_reducible refine Ls.r_drop ?_) | (with_reducible refine Ls.r_asg ?_) | (with_reducible refine Ls.r_par ?_) | (with_reducible refine Ls.k_par ?_) | ((with_reducible refine' Ls.r_aug ?hV ?_); (case hV => exact rfl)) | (with_reducible refine Ls.y_ip ?_) | (with_reducible refine Ls.g_name ?_) | (with_reducible refine Ls.g_nil ?_) | (with_reducible refine Ls.g_cons ?_) | (with_reducible refine Ls.g_sub ?_) | (with_reducible refine Ls.e_end ?_) | (with_reducible refine Ls.e_endr ?_) | (with_reducible refine Ls.e_nx ?_) | (with_reducible refine Ls.e_rt ?_) | (with_reducible refine Ls.e_bk ?_) | (with_reducible refine Ls.e_ct ?_) | (with_reducible refine Ls.r_for ?_) | (with_reducible refine Ls.i_seq ?_) | (with_reducible refine Ls.r_xi ?_) | (with_reducible refine Ls.r_xo ?_) | (with_reducible refine Ls.r_mk ?_) | (with_reducible refine Ls.r_xf ?_) | (with_reducible refine Ls.i_enum ?_) | (with_reducible refine Ls.i_rng1 ?_) | (with_reducible refine Ls.r_m1 ?_) | (with_reducible refine Ls.r_m0 ?_) | (with_reducible refine Ls.k_isS ?_) | (with_reducible refine Ls.r_bm ?_) | (with_reducible refine Ls.r_lc ?_) | (with_reducible refine Ls.y_add ?_) | (with_reducible refine Ls.y_sub ?_) | (with_reducible refine Ls.y_neg ?_) | (with_reducible refine Ls.y_lt ?_) | (with_reducible refine Ls.y_le ?_) | (with_reducible refine Ls.y_gt ?_) | (with_reducible refine Ls.y_ge ?_) | (with_reducible refine Ls.y_eqI ?_) | (with_reducible refine Ls.y_eqS ?_) | (with_reducible refine Ls.y_neI ?_) | (with_reducible refine Ls.y_neS ?_) | (with_reducible refine Ls.y_isNo ?_) | (with_reducible refine Ls.y_isntNo ?_) | (with_reducible refine Ls.y_abs ?_) | (with_reducible refine Ls.y_max2 ?_) | (with_reducible refine Ls.y_min2 ?_) | (with_reducible refine Ls.y_intI ?_) | (with_reducible refine Ls.y_intB ?_) | ((with_reducible refine' Ls.y_ixL ?hS ?hA ?_); (case hS => first | assumption | exact L2.SqL.of (by assumption)); (case hA => rfl)) | ((with_reducible refine' Ls.y_ixT ?hS ?hA ?_); (case hS => first | assumption | exact L2.SqT.of (by assumption)); (case hA => rfl)) | ((with_reducible refine' Ls.y_mod ?hC ?_); (case hC => first | decide | omega)) | ((with_reducible refine' Ls.y_fdiv ?hC ?_); (case hC => first | decide | (constructor <;> omega))) | ((with_reducible refine' Ls.y_pow ?hC ?_); (case hC => exact ⟨by decide, by decide, by decide⟩)) | ((with_reducible refine' Ls.y_mul ?hC ?_); (case hC => first | exact .inr ⟨by decide, by decide⟩ | exact .inl ⟨by decide, by decide⟩ | exact .inr ⟨by omega, by omega⟩ | exact .inl ⟨by omega, by omega⟩)) | (with_reducible refine L2.iteT ?_) | (with_reducible refine L2.iteF ?_) | (with_reducible refine Ls.iteNF ?_) | (with_reducible refine Ls.iteNT ?_)))
local macro_rules | `(tactic| walk_at "rd") => `(tactic| (repeat walk_at "rd1"))
local macro_rules | `(tactic| walk_at "lits") => `(tactic| (first | exact Ls.lit_nil | (refine' Ls.lit_cons ?hL ?hR; (case hL => walk_at "lits"); (case hR => walk_at "lits")) | exact Ls.lit_non | exact Ls.lit_bl | exact Ls.lit_int | exact Ls.lit_str | exact Ls.lit_neg | exact Ls.lit_dn | exact Ls.lit_d1 | exact Ls.lit_d1s | (refine' Ls.lit_tup ?hA ?hZ; (case hA => walk_at "lits"); (case hZ => first | decide | simp)) | (refine' Ls.lit_lst ?hA ?hZ; (case hA => walk_at "lits"); (case hZ => first | decide | simp))))

section
variable {P : Program} {w : World} {K : PySem.W.Frag} {mg : Str → Option Value} {base : Heap}
theorem xk_UnknownFunction (T : Tx K mg w) : Xk P w K mg base 1 "UnknownFunction" (fA mg "UnknownFunction") ["value"] := by
  refine T.k_UnknownFunction.ok xb_lookup sc_i_UnknownFunction rfl fun f cdv A outer s H a ws Q E hw ha q => ?_
  obtain ⟨y, rfl⟩ : ∃ y, ws = [y] := by
    match ws, hw with
    | [y], _ => exact ⟨y, rfl⟩
  refine ⟨_, (pss_cons (ps_expr (pe_xi xb_lookup T.n_MissingError (pa_cons (pv 0) (pa_cons pe_str pa_nil)) (by decide +kernel))) (pss_one (ps_xo xb_lookup (pv 0) (pv 1)))), ?_⟩
  walk_at "rd"
  refine ⟨a, _, _, rfl, by simp, T.k_UnknownFunction.T, ha, ?_⟩
  walk_at "rd"
  refine ⟨a, _, rfl, T.k_UnknownFunction.T, T.f_UnknownFunction_value, .inl ⟨ha, ?_⟩⟩
  exact xd_one q
theorem xk_InvalidValue (T : Tx K mg w) : Xk P w K mg base 1 "InvalidValue" (fA mg "InvalidValue") ["value"] := by
  refine T.k_InvalidValue.ok xb_value sc_i_InvalidValue rfl fun f cdv A outer s H a ws Q E hw ha q => ?_
  obtain ⟨y, rfl⟩ : ∃ y, ws = [y] := by
    match ws, hw with
    | [y], _ => exact ⟨y, rfl⟩
  refine ⟨_, (pss_cons (ps_expr (pe_xi xb_value T.n_SessionError (pa_cons (pv 0) (pa_cons pe_str pa_nil)) (by decide +kernel))) (pss_one (ps_xo xb_value (pv 0) (pv 1)))), ?_⟩
  walk_at "rd"
  refine ⟨a, _, _, rfl, by simp, T.k_InvalidValue.T, ha, ?_⟩
  walk_at "rd"
  refine ⟨a, _, rfl, T.k_InvalidValue.T, T.f_InvalidValue_value, .inl ⟨ha, ?_⟩⟩
  exact xd_one q
end
section
variable {P : Program} {w : World} {K : PySem.W.Frag} {mg : Str → Option Value} {base : Heap} (nd : base.NoDigits)
include nd
theorem ok_is_int (T : Tx K mg w) : Cal P w K mg base 1 "is_int" s_is_int P_is_int (sp_isint K) := by
  refine T.d_is_int.ok sc_is_int (fun vs H Q E h => ?_) (fun f cdv A outer s H vs Q E hr h => ?_)
  · obtain ⟨v, d, rfl, _⟩ := h; rfl
  obtain ⟨v, d, rfl, hd, q⟩ := h
  refine ⟨_, PSs.nox (pss_one (ps_ret (pe_and (pe_callB call_isiU (by rfl) T.n_isinstance (by decide +kernel) (pa_cons (pv 0) (pa_cons (pe_bltn (v := .ty "int") (u := .type "int") (by rfl) T.n_int (by decide +kernel) rfl) pa_nil))) (pe_one (pe_not (pe_callB call_isiU (by rfl) T.n_isinstance (by decide +kernel) (pa_cons (pv 0) (pa_cons (pe_bltn (v := .ty "bool") (u := .type "bool") (by rfl) T.n_bool (by decide +kernel) rfl) pa_nil)))))))), ?_⟩
  walk_at "rd"
  cases d with
  | int i =>
    refine y_isi hd (b := true) rfl ?_
    walk_at "rd"
    refine y_isi hd (b := false) rfl ?_
    walk_at "rd"
    exact q
  | bool i =>
    refine y_isi hd (b := true) rfl ?_
    walk_at "rd"
    refine y_isi hd (b := true) rfl ?_
    walk_at "rd"
    exact q
  | none => exact y_isi hd (b := false) rfl (by walk_at "rd"; exact q)
  | str x => exact y_isi hd (b := false) rfl (by walk_at "rd"; exact q)
  | list x => exact y_isi hd (b := false) rfl (by walk_at "rd"; exact q)
  | tuple x => exact y_isi hd (b := false) rfl (by walk_at "rd"; exact q)
  | dict x => exact y_isi hd (b := false) rfl (by walk_at "rd"; exact q)
theorem ok_is_nested (T : Tx K mg w) (C_is_int : Cal P w K mg base 1 "is_int" s_is_int P_is_int (sp_isint K)) : ∀ n, Cal P w K mg base (n + 2) "is_nested" s_is_nested P_is_nested (sp_nested K n)
  | 0 => (T.d_is_nested.never fun vs H Q E h => by obtain ⟨v, d, _, _, z, _⟩ := h; omega).up (by omega)
  | n + 1 => by
    have C_is_nested := ok_is_nested T C_is_int n
    refine T.d_is_nested.ok sc_is_nested (fun vs H Q E h => ?_) (fun f cdv A outer s H vs Q E hr h => ?_)
    · obtain ⟨v, d, rfl, _⟩ := h; rfl
    obtain ⟨v, d, rfl, hd, hn, q⟩ := h
    refine ⟨_, PSs.nox (pss_cons (ps_if (pt_val (pe_g C_is_int (hr.mono (by omega)) px0 (pa_cons (pv 0) pa_nil))) (pss_one (ps_ret pe_bl)) pss_nil)
      (pss_one (ps_ret (pe_and (pe_callB call_isiU (by rfl) T.n_isinstance (by decide +kernel) (pa_cons (pv 0) (pa_cons (pe_bltn (v := .ty "tuple") (u := .type "tuple") (by rfl) T.n_tuple (by decide +kernel) rfl) pa_nil))) (pe_and (pe_cmpR op_leU (pe_callB call_lenU (by rfl) T.n_len (by decide +kernel) (pa_cons (pv 0) pa_nil)) (pe_const T.c_MOST_ITEMS) (nomark _)) (pe_one (pe_callB (cr_all rfl) (by rfl) T.n_all (by decide +kernel) (pa_cons (pe_lc (own := [("item", 1)]) rfl sc_is_nested.nd (pi_seq (pv 0)) (blkOk_by (own := [("item", 1)]) (N := N_is_nested) (sc := defScope s_is_nested) (by decide +kernel)) (fun _ _ _ _ _ => (pg_name (i := 1) sc_is_nested.nd rfl (Or.inl rfl))) (fun _ _ _ _ _ => pts_nil) (fun _ _ _ _ _ => (pe_g C_is_nested (hr.mono (by omega)) px0 (pa_cons (pv 1) pa_nil)))) pa_nil)))))))), ?_⟩
    walk_at "rd"
    refine ⟨v, d, rfl, hd, ?_⟩
    cases d with
    | int i =>
      walk_at "rd"
      exact q H (Ex.refl H)
    | tuple ds =>
      walk_at "rd"
      refine y_isi hd (b := true) rfl ?_
      walk_at "rd"
      cases hd with | tup hS hA =>
      refine y_lenT hS ?_
      walk_at "rd"
      have hl := hA.length
      refine br (fun hle => ?_) fun hle => ?_
      · walk_at "rd"
        refine i_T hS ?_
        refine k_lcDt (fun d => .bl (nsD d)) hS hA (by omega) (fun x d H1 Q1 hm e hx hq => ?_) (fun x => rfl) fun D H2 nD e hD => ?_
        · walk_at "rd"
          exact ⟨x, d, rfl, hx, tdp_tup hn hm, hq⟩
        · walk_at "rd"
          refine y_all (bs := ds.map nsD) (.of (by rw [hD, List.map_map]; rfl)) ?_
          rw [← nsL_all]
          have z := q H2 e
          rw [nsD, decide_eq_true (by omega : ds.length ≤ 40), Bool.true_and] at z
          exact z
      · have z := q H (Ex.refl H)
        rw [nsD, decide_eq_false (by omega : ¬ ds.length ≤ 40), Bool.false_and] at z
        exact z
    | none => walk_at "rd"; exact y_isi hd (b := false) rfl (by walk_at "rd"; exact q H (Ex.refl H))
    | bool b => walk_at "rd"; exact y_isi hd (b := false) rfl (by walk_at "rd"; exact q H (Ex.refl H))
    | str x => walk_at "rd"; exact y_isi hd (b := false) rfl (by walk_at "rd"; exact q H (Ex.refl H))
    | list x => walk_at "rd"; exact y_isi hd (b := false) rfl (by walk_at "rd"; exact q H (Ex.refl H))
    | dict x => walk_at "rd"; exact y_isi hd (b := false) rfl (by walk_at "rd"; exact q H (Ex.refl H))
theorem ok_depth_of (T : Tx K mg w) (C_is_int : Cal P w K mg base 1 "is_int" s_is_int P_is_int (sp_isint K)) : ∀ n, Cal P w K mg base (n + 2) "depth_of" s_depth_of P_depth_of (sp_depth K n)
  | 0 => (T.d_depth_of.never fun vs H Q E h => by obtain ⟨v, d, _, _, _, z, _⟩ := h; omega).up (by omega)
  | n + 1 => by
    have C_depth_of := ok_depth_of T C_is_int n
    refine T.d_depth_of.ok sc_depth_of (fun vs H Q E h => ?_) (fun f cdv A outer s H vs Q E hr h => ?_)
    · obtain ⟨v, d, rfl, _⟩ := h; rfl
    obtain ⟨v, d, rfl, hd, hs, hn, q⟩ := h
    refine ⟨_, PSs.nox (pss_one (ps_ret (pe_ifExp (pt_val (pe_g C_is_int (hr.mono (by omega)) px0 (pa_cons (pv 0) pa_nil))) pe_int (pe_op op_addU pe_int (pe_callBK (call_maxD rfl hr) (by rfl) T.n_max (by decide +kernel) (pa_cons (pe_lc (own := [("item", 1)]) rfl sc_depth_of.nd (pi_seq (pv 0)) (blkOk_by (own := [("item", 1)]) (N := N_depth_of) (sc := defScope s_depth_of) (by decide +kernel)) (fun _ _ _ _ _ => (pg_name (i := 1) sc_depth_of.nd rfl (Or.inl rfl))) (fun _ _ _ _ _ => pts_nil) (fun _ _ _ _ _ => (pe_g C_depth_of (hr.mono (by omega)) px0 (pa_cons (pv 1) pa_nil)))) pa_nil) (pk_cons pe_int pk_nil)))))), ?_⟩
    walk_at "rd"
    refine ⟨v, d, rfl, hd, ?_⟩
    cases d with
    | int i =>
      walk_at "rd"
      exact q H (Ex.refl H)
    | tuple ds =>
      walk_at "rd"
      cases hd with | tup hS hA =>
      rw [nsD, Bool.and_eq_true, decide_eq_true_eq] at hs
      have hl := hA.length
      refine i_T hS ?_
      refine k_lcDt (fun d => .int (tdp d : Nat)) hS hA (by omega) (fun x d H1 Q1 hm e hx hq => ?_) (fun x => rfl) fun D H2 nD e hD => ?_
      · walk_at "rd"
        exact ⟨x, d, rfl, hx, nsL_mem hs.2 hm, tdp_tup hn hm, hq⟩
      · walk_at "rd"
        refine y_maxD (ns := ds.map fun d => (tdp d : Int)) (.of (by rw [hD, List.map_map]; rfl)) fun m m0 m1 => ?_
        walk_at "rd"
        have z := q H2 e
        rw [tdpL_max m0 m1]
        rw [tdp] at z
        have e2 : ((1 + tdpL ds : Nat) : Int) = 1 + (tdpL ds : Int) := by omega
        rw [e2] at z
        exact z
    | none => simp [nsD] at hs
    | bool b => simp [nsD] at hs
    | str x => simp [nsD] at hs
    | list x => simp [nsD] at hs
    | dict x => simp [nsD] at hs
theorem ok_datum_size (T : Tx K mg w) (C_is_int : Cal P w K mg base 1 "is_int" s_is_int P_is_int (sp_isint K)) : ∀ n, Cal P w K mg base (n + 2) "datum_size" s_datum_size P_datum_size (sp_dsize K n)
  | 0 => (T.d_datum_size.never fun vs H Q E h => by obtain ⟨v, d, _, _, _, _, z, _⟩ := h; omega).up (by omega)
  | n + 1 => by
    have C_datum_size := ok_datum_size T C_is_int n
    refine T.d_datum_size.ok sc_datum_size (fun vs H Q E h => ?_) (fun f cdv A outer s H vs Q E hr h => ?_)
    · obtain ⟨v, d, rfl, _⟩ := h; rfl
    obtain ⟨v, d, rfl, hd, hs, hm, hn, q⟩ := h
    refine ⟨_, PSs.nox (pss_cons (ps_if (pt_val (pe_g C_is_int (hr.mono (by omega)) px0 (pa_cons (pv 0) pa_nil))) (pss_one (ps_ret (pe_op op_addU (pe_callB call_lenU (by rfl) T.n_len (by decide +kernel) (pa_cons (pe_callTy (call_strU nd hr) (by rfl) T.n_str (by decide +kernel) (pa_cons (pe_callB call_absU (by rfl) T.n_abs (by decide +kernel) (pa_cons (pv 0) pa_nil)) pa_nil)) pa_nil)) (pe_callTy (call_intU nd) (by rfl) T.n_int (by decide +kernel) (pa_cons (pe_cmpR op_ltU (pv 0) pe_int (nomark _)) pa_nil))))) pss_nil)
      (pss_one (ps_ret (pe_op op_addU pe_int (pe_callB (call_sumU rfl) (by rfl) T.n_sum (by decide +kernel) (pa_cons (pe_lc (own := [("item", 1)]) rfl sc_datum_size.nd (pi_seq (pv 0)) (blkOk_by (own := [("item", 1)]) (N := N_datum_size) (sc := defScope s_datum_size) (by decide +kernel)) (fun _ _ _ _ _ => (pg_name (i := 1) sc_datum_size.nd rfl (Or.inl rfl))) (fun _ _ _ _ _ => pts_nil) (fun _ _ _ _ _ => (pe_g C_datum_size (hr.mono (by omega)) px0 (pa_cons (pv 1) pa_nil)))) pa_nil)))))), ?_⟩
    walk_at "rd"
    refine ⟨v, d, rfl, hd, ?_⟩
    cases d with
    | int i =>
      walk_at "rd"
      cases hd
      walk_at "rd"
      have hm' : i.natAbs < DL := by rw [smD, decide_eq_true_eq] at hm; exact hm
      refine y_str (by rw [abs_if, Int.natAbs_natCast]; exact hm') ?_
      walk_at "rd"
      refine y_lenS ?_ ?_
      · rw [abs_if, num_S, S_len]
        have := int_digits hm'
        exact Nat.le_trans this (by decide)
      walk_at "rd"
      exact q H (Ex.refl H)
    | tuple ds =>
      walk_at "rd"
      cases hd with | tup hS hA =>
      rw [nsD, Bool.and_eq_true, decide_eq_true_eq] at hs
      rw [smD] at hm
      have hl := hA.length
      refine i_T hS ?_
      refine k_lcDt (fun d => .int (szD d)) hS hA (by omega) (fun x d H1 Q1 hmm e hx hq => ?_) (fun x => rfl) fun D H2 nD e hD => ?_
      · walk_at "rd"
        exact ⟨x, d, rfl, hx, nsL_mem hs.2 hmm, smL_mem hm hmm, tdp_tup hn hmm, hq⟩
      · walk_at "rd"
        refine y_sumL (ns := ds.map szD) (.of (by rw [hD, List.map_map]; rfl)) ?_
        walk_at "rd"
        have z := q H2 e
        rw [szD, szL_sum] at z
        exact z
    | none => simp [nsD] at hs
    | bool b => simp [nsD] at hs
    | str x => simp [nsD] at hs
    | list x => simp [nsD] at hs
    | dict x => simp [nsD] at hs
theorem ok_is_datum (T : Tx K mg w) {n : Nat} (C_is_nested : Cal P w K mg base (n + 2) "is_nested" s_is_nested P_is_nested (sp_nested K n)) (C_depth_of : Cal P w K mg base (n + 2) "depth_of" s_depth_of P_depth_of (sp_depth K n)) (C_datum_size : Cal P w K mg base (n + 2) "datum_size" s_datum_size P_datum_size (sp_dsize K n)) :
    Cal P w K mg base (n + 3) "is_datum" s_is_datum P_is_datum (sp_isdatum K n) := by
  refine T.d_is_datum.ok sc_is_datum (fun vs H Q E h => ?_) (fun f cdv A outer s H vs Q E hr h => ?_)
  · obtain ⟨v, d, rfl, _⟩ := h; rfl
  obtain ⟨v, d, rfl, hd, hm, hn, q⟩ := h
  refine ⟨_, PSs.nox (pss_one (ps_ret (pe_and (pe_g C_is_nested (hr.mono (by omega)) px0 (pa_cons (pv 0) pa_nil)) (pe_and (pe_cmpR op_leU (pe_g C_depth_of (hr.mono (by omega)) px0 (pa_cons (pv 0) pa_nil)) (pe_const T.c_MOST_DEPTH) (nomark _)) (pe_one (pe_cmpR op_leU (pe_g C_datum_size (hr.mono (by omega)) px0 (pa_cons (pv 0) pa_nil)) (pe_const T.c_MOST_SIZE) (nomark _))))))), ?_⟩
  walk_at "rd"
  refine ⟨v, d, rfl, hd, hn, fun H1 e1 => ?_⟩
  walk_at "rd"
  unfold isD at q
  refine brB (fun h1 => ?_) fun h1 => ?_
  · walk_at "rd"
    refine ⟨v, d, rfl, hd.mono e1, h1, hn, fun H2 e2 => ?_⟩
    walk_at "rd"
    refine br (fun h2 => ?_) fun h2 => ?_
    · walk_at "rd"
      refine ⟨v, d, rfl, hd.mono (e1.trans e2), h1, hm, hn, fun H3 e3 => ?_⟩
      walk_at "rd"
      have z := q H3 (e1.trans (e2.trans e3))
      rw [h1, decide_eq_true h2, Bool.true_and, Bool.true_and] at z
      exact z
    · have z := q H2 (e1.trans e2)
      rw [h1, decide_eq_false h2, Bool.false_and, Bool.and_false] at z
      exact z
  · have z := q H1 e1
    rw [h1, Bool.false_and] at z
    exact z
theorem ok_is_fault (T : Tx K mg w) : Cal P w K mg base 1 "is_fault" s_is_fault P_is_fault (sp_isfault K) := by
  refine T.d_is_fault.ok sc_is_fault (fun vs H Q E h => ?_) (fun f cdv A outer s H vs Q E hr h => ?_)
  · obtain ⟨v, d, rfl, _⟩ := h; rfl
  obtain ⟨v, d, rfl, hd, q⟩ := h
  refine ⟨_, PSs.nox (pss_one (ps_ret (pe_and (pe_callB call_isiU (by rfl) T.n_isinstance (by decide +kernel) (pa_cons (pv 0) (pa_cons (pe_bltn (v := .ty "str") (u := .type "str") (by rfl) T.n_str (by decide +kernel) rfl) pa_nil))) (pe_one (pe_cmpR (op_eqU hr) (pv 0) (pe_const T.c_FAULT) (nomark _)))))), ?_⟩
  walk_at "rd"
  cases d with
  | str x =>
    refine y_isi hd (b := true) rfl ?_
    walk_at "rd"
    cases hd
    walk_at "rd"
    exact q
  | int i => exact y_isi hd (b := false) rfl (by walk_at "rd"; exact q)
  | bool i => exact y_isi hd (b := false) rfl (by walk_at "rd"; exact q)
  | none => exact y_isi hd (b := false) rfl (by walk_at "rd"; exact q)
  | list x => exact y_isi hd (b := false) rfl (by walk_at "rd"; exact q)
  | tuple x => exact y_isi hd (b := false) rfl (by walk_at "rd"; exact q)
  | dict x => exact y_isi hd (b := false) rfl (by walk_at "rd"; exact q)
theorem ok_is_value (T : Tx K mg w) {n : Nat} (C_is_fault : Cal P w K mg base 1 "is_fault" s_is_fault P_is_fault (sp_isfault K)) (C_is_datum : Cal P w K mg base (n + 3) "is_datum" s_is_datum P_is_datum (sp_isdatum K n)) :
    Cal P w K mg base (n + 4) "is_value" s_is_value P_is_value (sp_isvalue K n) := by
  refine T.d_is_value.ok sc_is_value (fun vs H Q E h => ?_) (fun f cdv A outer s H vs Q E hr h => ?_)
  · obtain ⟨v, d, rfl, _⟩ := h; rfl
  obtain ⟨v, d, rfl, hd, hm, hn, q⟩ := h
  refine ⟨_, PSs.nox (pss_one (ps_ret (pe_or (pe_g C_is_fault (hr.mono (by omega)) px0 (pa_cons (pv 0) pa_nil)) (pe_one (pe_g C_is_datum (hr.mono (by omega)) px0 (pa_cons (pv 0) pa_nil)))))), ?_⟩
  walk_at "rd"
  refine ⟨v, d, rfl, hd, ?_⟩
  walk_at "rd"
  refine brB (fun h1 => ?_) fun h1 => ?_
  · have z := q H (Ex.refl H)
    rw [h1, Bool.true_or] at z
    exact z
  · walk_at "rd"
    refine ⟨v, d, rfl, hd, hm, hn, fun H1 e1 => ?_⟩
    walk_at "rd"
    have z := q H1 e1
    rw [h1, Bool.false_or] at z
    exact z
end

end My
end

section
set_option Elab.async false
set_option linter.all false
set_option maxRecDepth 100000
set_option maxHeartbeats 4000000
namespace My
open PySem PySem.Spec PyProof.Rows L2 Ls SX
local macro_rules | `(tactic| walk_at "rd1") => `(tactic| (first | ((with_reducible refine' Ls.r_var ?hV ?_); (case hV => exact rfl)) | (with_reducible refine Ls.r_c ?_) | (with_reducible refine Ls.r_op ?_) | (with_reducible refine Ls.r_un ?_) | (with_reducible refine Ls.r_nil ?_) | (with_reducible refine Ls.r_cons ?_) | (with_reducible refine Ls.r_cb ?_) | (with_reducible refine Ls.r_ckw ?_) | (with_reducible refine Ls.r_cal ?_) | (with_reducible refine Ls.r_calK ?_) | (with_reducible refine Ls.r_tup ?_) | (with_reducible refine Ls.r_lst ?_) | (with_reducible refine Ls.r_if ?_) | (with_reducible refine Ls.r_andV ?_) | (with_reducible refine Ls.r_orV ?_) | (with_reducible refine Ls.r_notV ?_) | (with_reducible refine Ls.r_chain ?_) | (with_reducible refine Ls.r_sl ?_) | (with_reducible refine Ls.r_nopart ?_) | (with_reducible refine Ls.r_part ?_) | (with_reducible refine Ls.k_part ?_) | (with_reducible refine Ls.r_test ?_) | (with_reducible refine Ls.r_B ?_) | (with_reducible refine Ls.k_B ?_) | (with_reducible refine Ls.r_not ?_) | (with_reducible refine Ls.r_and ?_) | (with_reducible refine Ls.r_or ?_) | (with_reducible refine Ls.r_seq ?_) | (with_reducible refine Ls.r_ifS ?_) | (with_reducible refine Ls.r_next ?_) | (with_reducible refine Ls.r_brk ?_) | (with_reducible refine Ls.r_cont ?_) | (with_reducible refine Ls.r_ret ?_) | (with_reducible refine Ls.r_retN ?_) | (with_reducible refine Ls.r_drop ?_) | (with_reducible refine Ls.r_asg ?_) | (with_reducible refine Ls.r_par ?_) | (with_reducible refine Ls.k_par ?_) | ((with_reducible refine' Ls.r_aug ?hV ?_); (case hV => exact rfl)) | (with_reducible refine Ls.y_ip ?_) | (with_reducible refine Ls.g_name ?_) | (with_reducible refine Ls.g_nil ?_) | (with_reducible refine Ls.g_cons ?_) | (with_reducible refine Ls.g_sub ?_) | (with_reducible refine Ls.e_end ?_) | (with_reducible refine Ls.e_endr ?_) | (with_reducible refine Ls.e_nx ?_) | (with_reducible refine Ls.e_rt ?_) | (with_reducible refine Ls.e_bk ?_) | (with_reducible refine Ls.e_ct ?_) | (with_reducible refine Ls.r_for ?_) | (with_reducible refine Ls.i_seq ?_) | (with_reducible refine Ls.r_xi ?_) | (with_reducible refine Ls.r_xo ?_) | (with_reducible refine Ls.r_mk ?_) | (with_reducible refine Ls.r_xf ?_) | (with_reducible refine Ls.i_enum ?_) | (with_reducible refine Ls.i_rng1 ?_) | (with_reducible refine Ls.r_m1 ?_) | (with_reducible refine Ls.r_m0 ?_) | (with_reducible refine Ls.k_isS ?_) | (with_reducible refine Ls.r_bm ?_) | (with_reducible refine Ls.r_lc ?_) | (with_reducible refine Ls.y_add ?_) | (with_reducible refine Ls.y_sub ?_) | (with_reducible refine Ls.y_neg ?_) | (with_reducible refine Ls.y_lt ?_) | (with_reducible refine Ls.y_le ?_) | (with_reducible refine Ls.y_gt ?_) | (with_reducible refine Ls.y_ge ?_) | (with_reducible refine Ls.y_eqI ?_) | (with_reducible refine Ls.y_eqS ?_) | (with_reducible refine Ls.y_neI ?_) | (with_reducible refine Ls.y_neS ?_) | (with_reducible refine Ls.y_isNo ?_) | (with_reducible refine Ls.y_isntNo ?_) | (with_reducible refine Ls.y_abs ?_) | (with_reducible refine Ls.y_max2 ?_) | (with_reducible refine Ls.y_min2 ?_) | (with_reducible refine Ls.y_intI ?_) | (with_reducible refine Ls.y_intB ?_) | ((with_reducible refine' Ls.y_ixL ?hS ?hA ?_); (case hS => first | assumption | exact L2.SqL.of (by assumption)); (case hA => rfl)) | ((with_reducible refine' Ls.y_ixT ?hS ?hA ?_); (case hS => first | assumption | exact L2.SqT.of (by assumption)); (case hA => rfl)) | ((with_reducible refine' Ls.y_mod ?hC ?_); (case hC => first | decide | omega)) | ((with_reducible refine' Ls.y_fdiv ?hC ?_); (case hC => first | decide | (constructor <;> omega))) | ((with_reducible refine' Ls.y_pow ?hC ?_); (case hC => exact ⟨by decide, by decide, by decide⟩)) | ((with_reducible refine' Ls.y_mul ?hC ?_); (case hC => first | exact .inr ⟨by decide, by decide⟩ | exact .inl ⟨by decide, by decide⟩ | exact .inr ⟨by omega, by omega⟩ | exact .inl ⟨by omega, by omega⟩)) | (with_reducible refine L2.iteT ?_) | (with_reducible refine L2.iteF ?_) | (with_reducible refine Ls.iteNF ?_) | (with_reducible refine Ls.iteNT ?_)))
local macro_rules | `(tactic| walk_at "rd") => `(tactic| (repeat walk_at "rd1"))
local macro_rules | `(tactic| walk_at "lits") => `(tactic| (first | exact Ls.lit_nil | (refine' Ls.lit_cons ?hL ?hR; (case hL => walk_at "lits"); (case hR => walk_at "lits")) | exact Ls.lit_non | exact Ls.lit_bl | exact Ls.lit_int | exact Ls.lit_str | exact Ls.lit_neg | exact Ls.lit_dn | exact Ls.lit_d1 | exact Ls.lit_d1s | (refine' Ls.lit_tup ?hA ?hZ; (case hA => walk_at "lits"); (case hZ => first | decide | simp)) | (refine' Ls.lit_lst ?hA ?hZ; (case hA => walk_at "lits"); (case hZ => first | decide | simp))))

section
variable {P : Program} {w : World} {K : PySem.W.Frag} {mg : Str → Option Value} {base : Heap} (nd : base.NoDigits)
include nd
theorem ok_is_count (T : Tx K mg w) (C_is_int : Cal P w K mg base 1 "is_int" s_is_int P_is_int (sp_isint K)) : Cal P w K mg base 2 "is_count" s_is_count P_is_count (sp_iscount K) := by
  refine T.d_is_count.ok sc_is_count (fun vs H Q E h => ?_) (fun f cdv A outer s H vs Q E hr h => ?_)
  · obtain ⟨v, d, rfl, _⟩ := h; rfl
  obtain ⟨v, d, rfl, hd, q⟩ := h
  refine ⟨_, PSs.nox (pss_one (ps_ret (pe_and (pe_g C_is_int (hr.mono (by omega)) px0 (pa_cons (pv 0) pa_nil)) (pe_one (pe_cmpR op_geU (pv 0) pe_int (nomark _)))))), ?_⟩
  walk_at "rd"
  refine ⟨v, d, rfl, hd, ?_⟩
  cases d with
  | int i =>
    walk_at "rd"
    cases hd
    walk_at "rd"
    exact q
  | none => walk_at "rd"; exact q
  | bool b => walk_at "rd"; exact q
  | str x => walk_at "rd"; exact q
  | list x => walk_at "rd"; exact q
  | tuple x => walk_at "rd"; exact q
  | dict x => walk_at "rd"; exact q
theorem ok_are_integers (T : Tx K mg w) (C_is_int : Cal P w K mg base 1 "is_int" s_is_int P_is_int (sp_isint K)) : Cal P w K mg base (2) "are_integers" s_are_integers P_are_integers (sp_chk K (fun ds => ds.all isInt) (fun _ => True)) := by
  refine T.d_are_integers.ok sc_are_integers (fun vs H Q E h => ?_) (fun f cdv A outer s H vs Q E hr h => ?_)
  · obtain ⟨p, ws, ds, rfl, _⟩ := h; rfl
  obtain ⟨p, ws, ds, rfl, hS, hF, hz, hd, q⟩ := h
  refine ⟨_, PSs.nox (pss_one (ps_ret (pe_callB (cr_all rfl) (by rfl) T.n_all (by decide +kernel) (pa_cons (pe_lc (own := [("argument", 1)]) rfl sc_are_integers.nd (pi_seq (pv 0)) (blkOk_by (own := [("argument", 1)]) (N := N_are_integers) (sc := defScope s_are_integers) (by decide +kernel)) (fun _ _ _ _ _ => (pg_name (i := 1) sc_are_integers.nd rfl (Or.inl rfl))) (fun _ _ _ _ _ => pts_nil) (fun _ _ _ _ _ => (pe_g C_is_int (hr.mono (by omega)) px0 (pa_cons (pv 1) pa_nil)))) pa_nil)))), ?_⟩
  walk_at "rd"
  refine i_T hS ?_
  refine k_lcFl (fun d => .bl (isInt d)) hS hF (by omega) (fun x d H1 Q1 hm e hx hq => ?_) (fun x => rfl) fun D H2 nD e hD => ?_
  · walk_at "rd"
    exact ⟨x, d, rfl, hx.dt, hq H1 (Ex.refl H1)⟩
  · walk_at "rd"
    refine y_all (bs := ds.map isInt) (.of (by rw [hD, List.map_map]; rfl)) ?_
    rw [all_map]
    exact q H2 e
theorem ok_are_tuples (T : Tx K mg w)  : Cal P w K mg base (1) "are_tuples" s_are_tuples P_are_tuples (sp_chk K (fun ds => ds.all isTup) (fun _ => True)) := by
  refine T.d_are_tuples.ok sc_are_tuples (fun vs H Q E h => ?_) (fun f cdv A outer s H vs Q E hr h => ?_)
  · obtain ⟨p, ws, ds, rfl, _⟩ := h; rfl
  obtain ⟨p, ws, ds, rfl, hS, hF, hz, hd, q⟩ := h
  refine ⟨_, PSs.nox (pss_one (ps_ret (pe_callB (cr_all rfl) (by rfl) T.n_all (by decide +kernel) (pa_cons (pe_lc (own := [("argument", 1)]) rfl sc_are_tuples.nd (pi_seq (pv 0)) (blkOk_by (own := [("argument", 1)]) (N := N_are_tuples) (sc := defScope s_are_tuples) (by decide +kernel)) (fun _ _ _ _ _ => (pg_name (i := 1) sc_are_tuples.nd rfl (Or.inl rfl))) (fun _ _ _ _ _ => pts_nil) (fun _ _ _ _ _ => (pe_callB (id := "isinstance") (r := rIsiU K) call_isiU (by rfl) T.n_isinstance (by decide +kernel) (pa_cons (pv 1) (pa_cons (pe_bltn (v := .ty "tuple") (u := .type "tuple") (by rfl) T.n_tuple (by decide +kernel) rfl) pa_nil))))) pa_nil)))), ?_⟩
  walk_at "rd"
  refine i_T hS ?_
  refine k_lcFl (fun d => .bl (isTup d)) hS hF (by omega) (fun x d H1 Q1 hm e hx hq => ?_) (fun x => rfl) fun D H2 nD e hD => ?_
  · walk_at "rd"
    exact y_isTupF hx (hq H1 (Ex.refl H1))
  · walk_at "rd"
    refine y_all (bs := ds.map isTup) (.of (by rw [hD, List.map_map]; rfl)) ?_
    rw [all_map]
    exact q H2 e
theorem ok_are_data (T : Tx K mg w) {n : Nat} (hn : 5 ≤ n) (C_is_datum : Cal P w K mg base (n + 3) "is_datum" s_is_datum P_is_datum (sp_isdatum K n)) : Cal P w K mg base (n + 4) "are_data" s_are_data P_are_data (sp_chk K (fun ds => ds.all isD) (fun ds => ds.all isV = true)) := by
  refine T.d_are_data.ok sc_are_data (fun vs H Q E h => ?_) (fun f cdv A outer s H vs Q E hr h => ?_)
  · obtain ⟨p, ws, ds, rfl, _⟩ := h; rfl
  obtain ⟨p, ws, ds, rfl, hS, hF, hz, hd, q⟩ := h
  refine ⟨_, PSs.nox (pss_one (ps_ret (pe_callB (cr_all rfl) (by rfl) T.n_all (by decide +kernel) (pa_cons (pe_lc (own := [("argument", 1)]) rfl sc_are_data.nd (pi_seq (pv 0)) (blkOk_by (own := [("argument", 1)]) (N := N_are_data) (sc := defScope s_are_data) (by decide +kernel)) (fun _ _ _ _ _ => (pg_name (i := 1) sc_are_data.nd rfl (Or.inl rfl))) (fun _ _ _ _ _ => pts_nil) (fun _ _ _ _ _ => (pe_g C_is_datum (hr.mono (by omega)) px0 (pa_cons (pv 1) pa_nil)))) pa_nil)))), ?_⟩
  walk_at "rd"
  refine i_T hS ?_
  refine k_lcFl (fun d => .bl (isD d)) hS hF (by omega) (fun x d H1 Q1 hm e hx hq => ?_) (fun x => rfl) fun D H2 nD e hD => ?_
  · walk_at "rd"
    exact ⟨x, d, rfl, hx.dt, (isV_sm (List.all_eq_true.mp hd d hm)).1, by have := (isV_sm (List.all_eq_true.mp hd d hm)).2; omega, hq⟩
  · walk_at "rd"
    refine y_all (bs := ds.map isD) (.of (by rw [hD, List.map_map]; rfl)) ?_
    rw [all_map]
    exact q H2 e
theorem ok_can_divide (T : Tx K mg w) (C_are_integers : Cal P w K mg base 2 "are_integers" s_are_integers P_are_integers (sp_chk K (fun ds => ds.all isInt) (fun _ => True))) : Cal P w K mg base (3) "can_divide" s_can_divide P_can_divide (sp_chk K (fun ds => ds.all isInt && !decide (toI (at1 ds) = 0)) (fun ds => 2 ≤ ds.length ∧ ds.length ≤ 2)) := by
  refine T.d_can_divide.ok sc_can_divide (fun vs H Q E h => ?_) (fun f cdv A outer s H vs Q E hr h => ?_)
  · obtain ⟨p, ws, ds, rfl, _⟩ := h; rfl
  obtain ⟨p, ws, ds, rfl, hS, hF, hz, hd, q⟩ := h
  refine ⟨_, PSs.nox (pss_one (ps_ret (pe_and (pe_g C_are_integers (hr.mono (by omega)) px0 (pa_cons (pv 0) pa_nil)) (pe_one (pe_cmpR (op_neU hr) (pe_ix ix_seq (pv 0) pe_int (fun _ _ => rfl)) pe_int (nomark _)))))), ?_⟩
  walk_at "rd"
  refine ⟨p, ws, ds, rfl, hS, hF, hz, trivial, fun H1 e1 => ?_⟩
  walk_at "rd"
  have z := q H1 e1
  dsimp only at z
  refine brB (fun hi => ?_) fun hi => ?_
  · dsimp only at hi
    obtain ⟨a, b, rfl, rfl⟩ := two_ints hF hd.1 hd.2 hi
    have hS1 := e1.st hS
    walk_at "rd"
    rw [hi, Bool.true_and] at z
    exact z
  · dsimp only at hi
    rw [hi, Bool.false_and] at z
    exact z
theorem ok_can_count (T : Tx K mg w) (C_is_count : Cal P w K mg base 2 "is_count" s_is_count P_is_count (sp_iscount K)) : Cal P w K mg base (3) "can_count" s_can_count P_can_count (sp_chk K canCount (fun ds => 2 ≤ ds.length ∧ ds.length ≤ 2)) := by
  refine T.d_can_count.ok sc_can_count (fun vs H Q E h => ?_) (fun f cdv A outer s H vs Q E hr h => ?_)
  · obtain ⟨p, ws, ds, rfl, _⟩ := h; rfl
  obtain ⟨p, ws, ds, rfl, hS, hF, hz, hd, q⟩ := h
  refine ⟨_, PSs.nox (pss_one (ps_ret (pe_and (pe_callB call_isiU (by rfl) T.n_isinstance (by decide +kernel) (pa_cons (pe_ix ix_seq (pv 0) pe_int (fun _ _ => rfl)) (pa_cons (pe_bltn (v := .ty "tuple") (u := .type "tuple") (by rfl) T.n_tuple (by decide +kernel) rfl) pa_nil))) (pe_one (pe_g C_is_count (hr.mono (by omega)) px0 (pa_cons (pe_ix ix_seq (pv 0) pe_int (fun _ _ => rfl)) pa_nil)))))), ?_⟩
  obtain ⟨a, b, rfl⟩ := two_of hd.1 hd.2
  obtain ⟨x, y, rfl, hx, hy⟩ := fl_two hF
  walk_at "rd"
  refine y_isTupF hx ?_
  walk_at "rd"
  have z := q H (Ex.refl H)
  have e0 : canCount [a, b] = (isTup a && (isInt b && decide (0 ≤ toI b))) := rfl
  rw [e0] at z
  refine brB (fun hi => ?_) fun hi => ?_
  · walk_at "rd"
    refine ⟨y, b, rfl, hy.dt, ?_⟩
    rw [hi, Bool.true_and] at z
    exact z
  · rw [hi, Bool.false_and] at z
    exact z
theorem ok_can_index (T : Tx K mg w) (C_can_count : Cal P w K mg base 3 "can_count" s_can_count P_can_count (sp_chk K canCount (fun ds => 2 ≤ ds.length ∧ ds.length ≤ 2))) : Cal P w K mg base (4) "can_index" s_can_index P_can_index (sp_chk K (fun ds => canCount ds && decide (toI (at1 ds) < ((toL (at0 ds)).length : Nat))) (fun ds => 2 ≤ ds.length ∧ ds.length ≤ 2)) := by
  refine T.d_can_index.ok sc_can_index (fun vs H Q E h => ?_) (fun f cdv A outer s H vs Q E hr h => ?_)
  · obtain ⟨p, ws, ds, rfl, _⟩ := h; rfl
  obtain ⟨p, ws, ds, rfl, hS, hF, hz, hd, q⟩ := h
  refine ⟨_, PSs.nox (pss_one (ps_ret (pe_and (pe_g C_can_count (hr.mono (by omega)) px0 (pa_cons (pv 0) pa_nil)) (pe_one (pe_cmpR op_ltU (pe_ix ix_seq (pv 0) pe_int (fun _ _ => rfl)) (pe_callB call_lenU (by rfl) T.n_len (by decide +kernel) (pa_cons (pe_ix ix_seq (pv 0) pe_int (fun _ _ => rfl)) pa_nil)) (nomark _)))))), ?_⟩
  walk_at "rd"
  refine ⟨p, ws, ds, rfl, hS, hF, hz, hd, fun H1 e1 => ?_⟩
  walk_at "rd"
  have z := q H1 e1
  dsimp only at z
  refine brB (fun hi => ?_) fun hi => ?_
  · rw [hi, Bool.true_and] at z
    obtain ⟨a, b, rfl⟩ := two_of hd.1 hd.2
    obtain ⟨x, y, rfl, hx, hy⟩ := fl_two hF
    have e0 : canCount [a, b] = (isTup a && (isInt b && decide (0 ≤ toI b))) := rfl
    rw [e0] at hi
    simp only [Bool.and_eq_true] at hi
    obtain ⟨i, rfl⟩ := isInt_inv hi.2.1
    obtain ⟨t, xs, es, rfl, rfl, hT, hE⟩ := fl_tup hx hi.1
    cases hy
    have hS1 := e1.st hS
    have hT1 := e1.st hT
    walk_at "rd"
    refine y_lenT hT1 ?_
    walk_at "rd"
    rw [hE.length]
    exact z
  · rw [hi, Bool.false_and] at z
    exact z
theorem ok_is_integer_tuple (T : Tx K mg w) (C_are_integers : Cal P w K mg base 2 "are_integers" s_are_integers P_are_integers (sp_chk K (fun ds => ds.all isInt) (fun _ => True))) : Cal P w K mg base (3) "is_integer_tuple" s_is_integer_tuple P_is_integer_tuple (sp_chk K (fun ds => isTup (at0 ds) && (toL (at0 ds)).all isInt) (fun ds => (1 ≤ ds.length ∧ ds.length ≤ 1) ∧ ds.all isV = true)) := by
  refine T.d_is_integer_tuple.ok sc_is_integer_tuple (fun vs H Q E h => ?_) (fun f cdv A outer s H vs Q E hr h => ?_)
  · obtain ⟨p, ws, ds, rfl, _⟩ := h; rfl
  obtain ⟨p, ws, ds, rfl, hS, hF, hz, hd, q⟩ := h
  refine ⟨_, PSs.nox (pss_one (ps_ret (pe_and (pe_callB call_isiU (by rfl) T.n_isinstance (by decide +kernel) (pa_cons (pe_ix ix_seq (pv 0) pe_int (fun _ _ => rfl)) (pa_cons (pe_bltn (v := .ty "tuple") (u := .type "tuple") (by rfl) T.n_tuple (by decide +kernel) rfl) pa_nil))) (pe_one (pe_g C_are_integers (hr.mono (by omega)) px0 (pa_cons (pe_ix ix_seq (pv 0) pe_int (fun _ _ => rfl)) pa_nil)))))), ?_⟩
  obtain ⟨a, rfl⟩ := one_of hd.1.1 hd.1.2
  obtain ⟨x, rfl, hx⟩ := fl_one hF
  walk_at "rd"
  refine y_isTupF hx ?_
  walk_at "rd"
  have z := q H (Ex.refl H)
  have e0 : (isTup (at0 [a]) && (toL (at0 [a])).all isInt) = (isTup a && (toL a).all isInt) := rfl
  dsimp only at z
  rw [e0] at z
  refine brB (fun hi => ?_) fun hi => ?_
  · obtain ⟨t, xs, es, rfl, rfl, hT, hE⟩ := fl_tup hx hi
    walk_at "rd"
    have hv := hd.2
    rw [List.all_cons, List.all_nil, Bool.and_true] at hv
    have h40 := (isV_tup hv).1
    have hl := hE.length
    refine ⟨t, xs, es, rfl, hT, hE, by omega, trivial, fun H1 e1 => ?_⟩
    have z1 := q H1 e1
    dsimp only at z1
    rw [e0, hi, Bool.true_and] at z1
    exact z1
  · rw [hi, Bool.false_and] at z
    exact z
theorem ok_do_add (T : Tx K mg w) : Cal P w K mg base 1 "do_add" s_do_add P_do_add (sp_rw K .add) := by
  refine T.d_do_add.ok sc_do_add (fun vs H Q E h => ?_) (fun f cdv A outer s H vs Q E hr h => ?_)
  · obtain ⟨p, ws, ds, rfl, _⟩ := h; rfl
  obtain ⟨p, ws, ds, rfl, hS, hF, hV, h1, h2, hc, q⟩ := h
  refine ⟨_, PSs.nox (pss_one (ps_ret (pe_op op_addU (pe_ix ix_seq (pv 0) pe_int (fun _ _ => rfl)) (pe_ix ix_seq (pv 0) pe_int (fun _ _ => rfl))))), ?_⟩
  obtain ⟨a, b, rfl, rfl⟩ := two_ints hF h1 h2 hc
  walk_at "rd"
  exact q _ H (Ex.refl H) (.int _)
theorem ok_do_sub (T : Tx K mg w) : Cal P w K mg base 1 "do_sub" s_do_sub P_do_sub (sp_rw K .sub) := by
  refine T.d_do_sub.ok sc_do_sub (fun vs H Q E h => ?_) (fun f cdv A outer s H vs Q E hr h => ?_)
  · obtain ⟨p, ws, ds, rfl, _⟩ := h; rfl
  obtain ⟨p, ws, ds, rfl, hS, hF, hV, h1, h2, hc, q⟩ := h
  refine ⟨_, PSs.nox (pss_one (ps_ret (pe_op op_subU (pe_ix ix_seq (pv 0) pe_int (fun _ _ => rfl)) (pe_ix ix_seq (pv 0) pe_int (fun _ _ => rfl))))), ?_⟩
  obtain ⟨a, b, rfl, rfl⟩ := two_ints hF h1 h2 hc
  walk_at "rd"
  exact q _ H (Ex.refl H) (.int _)
theorem ok_do_mul (T : Tx K mg w) : Cal P w K mg base 1 "do_mul" s_do_mul P_do_mul (sp_rw K .mul) := by
  refine T.d_do_mul.ok sc_do_mul (fun vs H Q E h => ?_) (fun f cdv A outer s H vs Q E hr h => ?_)
  · obtain ⟨p, ws, ds, rfl, _⟩ := h; rfl
  obtain ⟨p, ws, ds, rfl, hS, hF, hV, h1, h2, hc, q⟩ := h
  refine ⟨_, PSs.nox (pss_one (ps_ret (pe_op op_mulU (pe_ix ix_seq (pv 0) pe_int (fun _ _ => rfl)) (pe_ix ix_seq (pv 0) pe_int (fun _ _ => rfl))))), ?_⟩
  obtain ⟨a, b, rfl, rfl⟩ := two_ints hF h1 h2 hc
  walk_at "rd"
  have ha := dig_bits (isV_int (List.all_eq_true.mp hV (.int a) (by simp)))
  have hb := dig_bits (isV_int (List.all_eq_true.mp hV (.int b) (by simp)))
  exact y_mulW (wide_mul ha hb (by decide) (by decide) (by decide)) (q _ H (Ex.refl H) (.int _))
theorem ok_do_div (T : Tx K mg w) : Cal P w K mg base 1 "do_div" s_do_div P_do_div (sp_rw K .div) := by
  refine T.d_do_div.ok sc_do_div (fun vs H Q E h => ?_) (fun f cdv A outer s H vs Q E hr h => ?_)
  · obtain ⟨p, ws, ds, rfl, _⟩ := h; rfl
  obtain ⟨p, ws, ds, rfl, hS, hF, hV, h1, h2, hc, q⟩ := h
  refine ⟨_, PSs.nox (pss_one (ps_ret (pe_op op_fdivU (pe_ix ix_seq (pv 0) pe_int (fun _ _ => rfl)) (pe_ix ix_seq (pv 0) pe_int (fun _ _ => rfl))))), ?_⟩
  have hc' : (ds.all isInt && !decide (toI (at1 ds) = 0)) = true := hc
  rw [Bool.and_eq_true] at hc'
  obtain ⟨a, b, rfl, rfl⟩ := two_ints hF h1 h2 hc'.1
  have hb0 : b ≠ 0 := by
    have z := hc'.2
    have e0 : toI (at1 [PyData.int a, PyData.int b]) = b := rfl
    rw [e0] at z
    simpa using z
  walk_at "rd"
  have ha := dig_bits (isV_int (List.all_eq_true.mp hV (.int a) (by simp)))
  have hb := dig_bits (isV_int (List.all_eq_true.mp hV (.int b) (by simp)))
  exact y_fdivF ⟨hb0, Nat.lt_trans (log2_of (by decide) hb) (by decide)⟩ (q _ H (Ex.refl H) (.int _))
theorem ok_do_neg (T : Tx K mg w) : Cal P w K mg base 1 "do_neg" s_do_neg P_do_neg (sp_rw K .neg) := by
  refine T.d_do_neg.ok sc_do_neg (fun vs H Q E h => ?_) (fun f cdv A outer s H vs Q E hr h => ?_)
  · obtain ⟨p, ws, ds, rfl, _⟩ := h; rfl
  obtain ⟨p, ws, ds, rfl, hS, hF, hV, h1, h2, hc, q⟩ := h
  refine ⟨_, PSs.nox (pss_one (ps_ret (pe_un un_negU (pe_ix ix_seq (pv 0) pe_int (fun _ _ => rfl))))), ?_⟩
  obtain ⟨a, rfl, rfl⟩ := one_int hF h1 h2 hc
  walk_at "rd"
  exact q _ H (Ex.refl H) (.int _)
theorem ok_do_min (T : Tx K mg w) : Cal P w K mg base 1 "do_min" s_do_min P_do_min (sp_rw K .min) := by
  refine T.d_do_min.ok sc_do_min (fun vs H Q E h => ?_) (fun f cdv A outer s H vs Q E hr h => ?_)
  · obtain ⟨p, ws, ds, rfl, _⟩ := h; rfl
  obtain ⟨p, ws, ds, rfl, hS, hF, hV, h1, h2, hc, q⟩ := h
  refine ⟨_, PSs.nox (pss_one (ps_ret (pe_callB (call_minU rfl) (by rfl) T.n_min (by decide +kernel) (pa_cons (pe_callTy call_listU (by rfl) T.n_list (by decide +kernel) (pa_cons (pv 0) pa_nil)) pa_nil)))), ?_⟩
  have ei := ints_of (show ds.all isInt = true from hc)
  have ew := fl_intsV hF (show ds.all isInt = true from hc)
  walk_at "rd"
  refine y_lstT hS fun l H1 n1 e1 hl => ?_
  walk_at "rd"
  refine y_minL (ns := ds.map toI) (.of (by rw [hl, ew])) (by rw [List.length_map]; exact h1) fun m m1 m2 => ?_
  have z := q (.int m) H1 e1
  have e0 : Fn.raw .min ds = .int (minL (ds.map toI)) := rfl
  rw [e0, minL_of m1 m2] at z
  exact z (.int m)
theorem ok_do_max (T : Tx K mg w) : Cal P w K mg base 1 "do_max" s_do_max P_do_max (sp_rw K .max) := by
  refine T.d_do_max.ok sc_do_max (fun vs H Q E h => ?_) (fun f cdv A outer s H vs Q E hr h => ?_)
  · obtain ⟨p, ws, ds, rfl, _⟩ := h; rfl
  obtain ⟨p, ws, ds, rfl, hS, hF, hV, h1, h2, hc, q⟩ := h
  refine ⟨_, PSs.nox (pss_one (ps_ret (pe_callB (call_maxU rfl) (by rfl) T.n_max (by decide +kernel) (pa_cons (pe_callTy call_listU (by rfl) T.n_list (by decide +kernel) (pa_cons (pv 0) pa_nil)) pa_nil)))), ?_⟩
  have ei := ints_of (show ds.all isInt = true from hc)
  have ew := fl_intsV hF (show ds.all isInt = true from hc)
  walk_at "rd"
  refine y_lstT hS fun l H1 n1 e1 hl => ?_
  walk_at "rd"
  refine y_maxL (ns := ds.map toI) (.of (by rw [hl, ew])) (by rw [List.length_map]; exact h1) fun m m1 m2 => ?_
  have z := q (.int m) H1 e1
  have e0 : Fn.raw .max ds = .int (maxL (ds.map toI)) := rfl
  rw [e0, maxL_of m1 m2] at z
  exact z (.int m)
theorem ok_do_less (T : Tx K mg w) : Cal P w K mg base 1 "do_less" s_do_less P_do_less (sp_rw K .less) := by
  refine T.d_do_less.ok sc_do_less (fun vs H Q E h => ?_) (fun f cdv A outer s H vs Q E hr h => ?_)
  · obtain ⟨p, ws, ds, rfl, _⟩ := h; rfl
  obtain ⟨p, ws, ds, rfl, hS, hF, hV, h1, h2, hc, q⟩ := h
  refine ⟨_, PSs.nox (pss_one (ps_ret (pe_callTy (call_intU nd) (by rfl) T.n_int (by decide +kernel) (pa_cons (pe_cmpR op_ltU (pe_ix ix_seq (pv 0) pe_int (fun _ _ => rfl)) (pe_ix ix_seq (pv 0) pe_int (fun _ _ => rfl)) (nomark _)) pa_nil)))), ?_⟩
  obtain ⟨a, b, rfl, rfl⟩ := two_ints hF h1 h2 hc
  walk_at "rd"
  have z := q (.int (if decide (a < b) = true then 1 else 0)) H (Ex.refl H)
  have e0 : Fn.raw .less [PyData.int a, PyData.int b] = .int (if a < b then 1 else 0) := rfl
  rw [e0] at z
  have e1 : (if decide (a < b) = true then (1 : Int) else 0) = (if a < b then 1 else 0) := by
    by_cases c : a < b
    · rw [decide_eq_true c, if_pos rfl, if_pos c]
    · rw [decide_eq_false c, if_neg Bool.false_ne_true, if_neg c]
  rw [e1] at z ⊢
  exact z (.int _)
theorem ok_do_same (T : Tx K mg w) : Cal P w K mg base 1 "do_same" s_do_same P_do_same (sp_rw K .same) := by
  refine T.d_do_same.ok sc_do_same (fun vs H Q E h => ?_) (fun f cdv A outer s H vs Q E hr h => ?_)
  · obtain ⟨p, ws, ds, rfl, _⟩ := h; rfl
  obtain ⟨p, ws, ds, rfl, hS, hF, hV, h1, h2, hc, q⟩ := h
  refine ⟨_, PSs.nox (pss_one (ps_ret (pe_callTy (call_intU nd) (by rfl) T.n_int (by decide +kernel) (pa_cons (pe_cmpR (op_eqU hr) (pe_ix ix_seq (pv 0) pe_int (fun _ _ => rfl)) (pe_ix ix_seq (pv 0) pe_int (fun _ _ => rfl)) (nomark _)) pa_nil)))), ?_⟩
  obtain ⟨a, b, rfl⟩ := two_of h1 h2
  obtain ⟨x, y, rfl, hx, hy⟩ := fl_two hF
  have hc' : (isD a && (isD b && true)) = true := hc
  simp only [Bool.and_true, Bool.and_eq_true] at hc'
  walk_at "rd"
  refine y_eqD hx.dp hy.dp (isD_shaped hc'.1) (isD_shaped hc'.2) ?_
  walk_at "rd"
  exact q _ H (Ex.refl H) (.int _)
theorem ok_do_length (T : Tx K mg w) : Cal P w K mg base 1 "do_length" s_do_length P_do_length (sp_rw K .length) := by
  refine T.d_do_length.ok sc_do_length (fun vs H Q E h => ?_) (fun f cdv A outer s H vs Q E hr h => ?_)
  · obtain ⟨p, ws, ds, rfl, _⟩ := h; rfl
  obtain ⟨p, ws, ds, rfl, hS, hF, hV, h1, h2, hc, q⟩ := h
  refine ⟨_, PSs.nox (pss_one (ps_ret (pe_callB call_lenU (by rfl) T.n_len (by decide +kernel) (pa_cons (pe_ix ix_seq (pv 0) pe_int (fun _ _ => rfl)) pa_nil)))), ?_⟩
  obtain ⟨a, rfl⟩ := one_of h1 h2
  obtain ⟨x, rfl, hx⟩ := fl_one hF
  have hv := hV
  rw [List.all_cons, List.all_nil, Bool.and_true] at hv
  obtain ⟨t, xs, es, rfl, rfl, hT, hE⟩ := fl_tup hx (by simpa using (show List.all [a] isTup = true from hc))
  obtain ⟨v1, v2, v3, v4⟩ := isV_tup hv
  have hl := hE.length
  walk_at "rd"
  refine y_lenT hT ?_
  rw [hl]
  exact q _ H (Ex.refl H) (.int _)
theorem ok_do_item (T : Tx K mg w) : Cal P w K mg base 1 "do_item" s_do_item P_do_item (sp_rw K .item) := by
  refine T.d_do_item.ok sc_do_item (fun vs H Q E h => ?_) (fun f cdv A outer s H vs Q E hr h => ?_)
  · obtain ⟨p, ws, ds, rfl, _⟩ := h; rfl
  obtain ⟨p, ws, ds, rfl, hS, hF, hV, h1, h2, hc, q⟩ := h
  refine ⟨_, PSs.nox (pss_one (ps_ret (pe_ix ix_seq (pe_ix ix_seq (pv 0) pe_int (fun _ _ => rfl)) (pe_ix ix_seq (pv 0) pe_int (fun _ _ => rfl)) (fun _ _ => rfl)))), ?_⟩
  have hb : (canCount ds && decide (toI (at1 ds) < ((toL (at0 ds)).length : Nat))) = true := hc
  rw [Bool.and_eq_true] at hb
  obtain ⟨a, b, rfl⟩ := two_of h1 h2
  obtain ⟨x, y, rfl, hx, hy⟩ := fl_two hF
  have hv := hV
  rw [List.all_cons, Bool.and_eq_true] at hv
  have hk : canCount [a, b] = true := hb.1
  have e0 : canCount [a, b] = (isTup a && (isInt b && decide (0 ≤ toI b))) := rfl
  rw [e0] at hk
  simp only [Bool.and_eq_true, decide_eq_true_eq] at hk
  obtain ⟨i, rfl⟩ := isInt_inv hk.2.1
  have h0 : 0 ≤ i := hk.2.2
  obtain ⟨k, rfl⟩ : ∃ k : Nat, i = (k : Nat) := ⟨i.toNat, by omega⟩
  obtain ⟨t, xs, es, rfl, rfl, hT, hE⟩ := fl_tup hx hk.1
  cases hy
  obtain ⟨v1, v2, v3, v4⟩ := isV_tup hv.1
  have hl := hE.length
  walk_at "rd"
  have hlt : ((k : Nat) : Int) < (es.length : Nat) := of_decide_eq_true hb.2
  have hk2 : k < xs.length := by omega
  obtain ⟨d, hd, hf⟩ := hE.get (List.getElem?_eq_getElem hk2)
  refine y_ixT (v := xs[k]) hT (atI_nat (List.getElem?_eq_getElem hk2)) ?_
  refine q _ H (Ex.refl H) ?_
  have e3 : Fn.raw .item [PyData.tuple es, PyData.int (k : Nat)] = es.getD k .none := by
    show es.getD ((k : Nat) : Int).toNat .none = _
    rw [Int.toNat_natCast]
  rw [e3, List.getD_eq_getElem?_getD, hd]
  exact hf
theorem ok_do_pack (T : Tx K mg w) : Cal P w K mg base 1 "do_pack" s_do_pack P_do_pack (sp_rw K .pack) := by
  refine T.d_do_pack.ok sc_do_pack (fun vs H Q E h => ?_) (fun f cdv A outer s H vs Q E hr h => ?_)
  · obtain ⟨p, ws, ds, rfl, _⟩ := h; rfl
  obtain ⟨p, ws, ds, rfl, hS, hF, hV, h1, h2, hc, q⟩ := h
  refine ⟨_, PSs.nox (pss_one (ps_ret (pe_callTy call_tupleU (by rfl) T.n_tuple (by decide +kernel) (pa_cons (pv 0) pa_nil)))), ?_⟩
  walk_at "rd"
  exact y_tupT hS (q _ H (Ex.refl H) (.tup hS hF))
theorem ok_do_join (T : Tx K mg w) : Cal P w K mg base 1 "do_join" s_do_join P_do_join (sp_rw K .join) := by
  refine T.d_do_join.ok sc_do_join (fun vs H Q E h => ?_) (fun f cdv A outer s H vs Q E hr h => ?_)
  · obtain ⟨p, ws, ds, rfl, _⟩ := h; rfl
  obtain ⟨p, ws, ds, rfl, hS, hF, hV, h1, h2, hc, q⟩ := h
  refine ⟨_, PSs.nox (pss_cons (ps_set (i := 1) sc_do_join.nd rfl (by first | exact .inl rfl | exact .inr rfl) (pe_tup pa_nil))
      (pss_cons (ps_for PassesOwn.never rfl (pi_seq (pv 0)) (pg_name (i := 2) sc_do_join.nd rfl (by first | exact .inl rfl | exact .inr rfl)) (pss_one (ps_set (i := 1) sc_do_join.nd rfl (by first | exact .inl rfl | exact .inr rfl) (pe_op op_addU (pv 1) (pv 2)))))
      (pss_one (ps_ret (pv 1))))), ?_⟩
  walk_at "rd"
  refine k_tup fun t0 H0 n0 e0 h0 => ?_
  walk_at "rd"
  refine i_T (e0.st hS) ?_
  have hl := hF.length
  have hc' : ds.all isTup = true := hc
  have h6 : ds.length ≤ 6 := h2
  refine k_forT (xs := ws) (fun j σ' H' => Ex H H' ∧ ∃ (a : Addr) (ys : List V) (o : Option V), σ' = [some (.ref p), some (.ref a), o] ∧ SqT K H' a ys ∧ FlAll K H' ys ((ds.take j).map toL).flatten ∧ ys.length ≤ 40 * j) ⟨e0, t0, [], none, rfl, .of h0, .nil, Nat.le_refl _⟩ (fun j σ' H' _ ⟨e, _⟩ => e.st hS) ?_ ?_
  · rintro j x σ' H1 hx ⟨e1, a, ys, o, rfl, hA, hY, hz⟩
    obtain ⟨d, hd, hf⟩ := hF.get hx
    have hm := List.mem_of_getElem? hd
    obtain ⟨t, xs, es, rfl, rfl, hT, hE⟩ := fl_tup hf (List.all_eq_true.mp hc' d hm)
    obtain ⟨v1, _⟩ := isV_tup (List.all_eq_true.mp hV _ hm)
    have hle := hE.length
    have hj : j < ds.length := (List.getElem?_eq_some_iff.mp hd).1
    walk_at "rd"
    refine y_addT hA (e1.st hT) (Nat.le_trans (show ys.length + xs.length ≤ 40 * j + 40 by omega) (Nat.le_trans (show 40 * j + 40 ≤ 300 by omega) (by decide))) fun t2 H2 e2 hS2 => ?_
    walk_at "rd"
    refine ⟨e1.trans e2, t2, _, _, rfl, hS2, ?_, by rw [List.length_append]; omega⟩
    rw [List.take_add_one, hd]
    have ee : (List.map toL (ds.take j ++ (some (PyData.tuple es)).toList)).flatten = ((ds.take j).map toL).flatten ++ es := by
      rw [List.map_append, List.flatten_append]
      show _ ++ ([es] : List (List PyData)).flatten = _
      simp
    rw [ee]
    exact (hY.mono e2.et).append (hE.mono (e1.trans e2).et)
  · rintro σ' H1 ⟨e1, a, ys, o, rfl, hA, hY, hz⟩
    walk_at "rd"
    rw [hl, List.take_length] at hY
    exact q _ H1 e1 (.tup hA hY)
theorem ok_do_take (T : Tx K mg w) : Cal P w K mg base 1 "do_take" s_do_take P_do_take (sp_rw K .take) := by
  refine T.d_do_take.ok sc_do_take (fun vs H Q E h => ?_) (fun f cdv A outer s H vs Q E hr h => ?_)
  · obtain ⟨p, ws, ds, rfl, _⟩ := h; rfl
  obtain ⟨p, ws, ds, rfl, hS, hF, hV, h1, h2, hc, q⟩ := h
  refine ⟨_, PSs.nox (pss_one (ps_ret (pe_slice sl_U (pe_ix ix_seq (pv 0) pe_int (fun _ _ => rfl)) po_none (po_some (pe_ix ix_seq (pv 0) pe_int (fun _ _ => rfl)))))), ?_⟩
  obtain ⟨a, b, rfl⟩ := two_of h1 h2
  obtain ⟨x, y, rfl, hx, hy⟩ := fl_two hF
  have hv := hV
  rw [List.all_cons, Bool.and_eq_true] at hv
  have hk : canCount [a, b] = true := hc
  have e0 : canCount [a, b] = (isTup a && (isInt b && decide (0 ≤ toI b))) := rfl
  rw [e0] at hk
  simp only [Bool.and_eq_true, decide_eq_true_eq] at hk
  obtain ⟨i, rfl⟩ := isInt_inv hk.2.1
  have h0 : 0 ≤ i := hk.2.2
  obtain ⟨k, rfl⟩ : ∃ k : Nat, i = (k : Nat) := ⟨i.toNat, by omega⟩
  obtain ⟨t, xs, es, rfl, rfl, hT, hE⟩ := fl_tup hx hk.1
  cases hy
  obtain ⟨v1, v2, v3, v4⟩ := isV_tup hv.1
  have hl := hE.length
  walk_at "rd"
  refine y_slT hT fun b H1 e1 hB => ?_
  walk_at "rd"
  rw [cutV_take] at hB
  refine q _ H1 e1 ?_
  have e3 : Fn.raw .take [PyData.tuple es, PyData.int (k : Nat)] = .tuple (es.take k) := by
    show PyData.tuple (es.take ((k : Nat) : Int).toNat) = _
    rw [Int.toNat_natCast]
  rw [e3]
  exact .tup hB ((hE.take k).mono e1.et)
theorem ok_do_drop (T : Tx K mg w) : Cal P w K mg base 1 "do_drop" s_do_drop P_do_drop (sp_rw K .drop) := by
  refine T.d_do_drop.ok sc_do_drop (fun vs H Q E h => ?_) (fun f cdv A outer s H vs Q E hr h => ?_)
  · obtain ⟨p, ws, ds, rfl, _⟩ := h; rfl
  obtain ⟨p, ws, ds, rfl, hS, hF, hV, h1, h2, hc, q⟩ := h
  refine ⟨_, PSs.nox (pss_one (ps_ret (pe_slice sl_U (pe_ix ix_seq (pv 0) pe_int (fun _ _ => rfl)) (po_some (pe_ix ix_seq (pv 0) pe_int (fun _ _ => rfl))) po_none))), ?_⟩
  obtain ⟨a, b, rfl⟩ := two_of h1 h2
  obtain ⟨x, y, rfl, hx, hy⟩ := fl_two hF
  have hv := hV
  rw [List.all_cons, Bool.and_eq_true] at hv
  have hk : canCount [a, b] = true := hc
  have e0 : canCount [a, b] = (isTup a && (isInt b && decide (0 ≤ toI b))) := rfl
  rw [e0] at hk
  simp only [Bool.and_eq_true, decide_eq_true_eq] at hk
  obtain ⟨i, rfl⟩ := isInt_inv hk.2.1
  have h0 : 0 ≤ i := hk.2.2
  obtain ⟨k, rfl⟩ : ∃ k : Nat, i = (k : Nat) := ⟨i.toNat, by omega⟩
  obtain ⟨t, xs, es, rfl, rfl, hT, hE⟩ := fl_tup hx hk.1
  cases hy
  obtain ⟨v1, v2, v3, v4⟩ := isV_tup hv.1
  have hl := hE.length
  walk_at "rd"
  refine y_slT hT fun b H1 e1 hB => ?_
  walk_at "rd"
  rw [cutV_drop] at hB
  refine q _ H1 e1 ?_
  have e3 : Fn.raw .drop [PyData.tuple es, PyData.int (k : Nat)] = .tuple (es.drop k) := by
    show PyData.tuple (es.drop ((k : Nat) : Int).toNat) = _
    rw [Int.toNat_natCast]
  rw [e3]
  exact .tup hB ((hE.drop k).mono e1.et)
theorem ok_do_sort (T : Tx K mg w) : Cal P w K mg base 1 "do_sort" s_do_sort P_do_sort (sp_rw K .sort) := by
  refine T.d_do_sort.ok sc_do_sort (fun vs H Q E h => ?_) (fun f cdv A outer s H vs Q E hr h => ?_)
  · obtain ⟨p, ws, ds, rfl, _⟩ := h; rfl
  obtain ⟨p, ws, ds, rfl, hS, hF, hV, h1, h2, hc, q⟩ := h
  refine ⟨_, PSs.nox (pss_one (ps_ret (pe_callTy call_tupleU (by rfl) T.n_tuple (by decide +kernel) (pa_cons (pe_callB call_sortedU (by rfl) T.n_sorted (by decide +kernel) (pa_cons (pe_ix ix_seq (pv 0) pe_int (fun _ _ => rfl)) pa_nil)) pa_nil)))), ?_⟩
  have hb : (isTup (at0 ds) && (toL (at0 ds)).all isInt) = true := hc
  rw [Bool.and_eq_true] at hb
  obtain ⟨a, rfl⟩ := one_of h1 h2
  obtain ⟨x, rfl, hx⟩ := fl_one hF
  have hv := hV
  rw [List.all_cons, List.all_nil, Bool.and_true] at hv
  obtain ⟨t, xs, es, rfl, rfl, hT, hE⟩ := fl_tup hx hb.1
  obtain ⟨v1, v2, v3, v4⟩ := isV_tup hv
  have hl := hE.length
  have hI : es.all isInt = true := hb.2
  have ew := fl_intsV hE hI
  walk_at "rd"
  refine y_sortT (ns := es.map toI) (by rw [← ew]; exact hT) fun ns' l H1 p1 p2 n1 e1 hL => ?_
  walk_at "rd"
  refine y_tupL (.of hL) fun t2 H2 n2 e2 h2 => ?_
  refine q _ H2 (e1.trans e2) ?_
  have e3 : Fn.raw .sort [PyData.tuple es] = .tuple ((sortL (es.map toI)).map PyData.int) := rfl
  rw [e3, sortL_of p1 p2]
  exact .tup (.of h2) (fl_ints ns')
theorem ok_do_total (T : Tx K mg w) : Cal P w K mg base 1 "do_total" s_do_total P_do_total (sp_rw K .total) := by
  refine T.d_do_total.ok sc_do_total (fun vs H Q E h => ?_) (fun f cdv A outer s H vs Q E hr h => ?_)
  · obtain ⟨p, ws, ds, rfl, _⟩ := h; rfl
  obtain ⟨p, ws, ds, rfl, hS, hF, hV, h1, h2, hc, q⟩ := h
  refine ⟨_, PSs.nox (pss_one (ps_ret (pe_callB (call_sumU rfl) (by rfl) T.n_sum (by decide +kernel) (pa_cons (pe_ix ix_seq (pv 0) pe_int (fun _ _ => rfl)) pa_nil)))), ?_⟩
  have hb : (isTup (at0 ds) && (toL (at0 ds)).all isInt) = true := hc
  rw [Bool.and_eq_true] at hb
  obtain ⟨a, rfl⟩ := one_of h1 h2
  obtain ⟨x, rfl, hx⟩ := fl_one hF
  have hv := hV
  rw [List.all_cons, List.all_nil, Bool.and_true] at hv
  obtain ⟨t, xs, es, rfl, rfl, hT, hE⟩ := fl_tup hx hb.1
  obtain ⟨v1, v2, v3, v4⟩ := isV_tup hv
  have hl := hE.length
  have hI : es.all isInt = true := hb.2
  have ew := fl_intsV hE hI
  walk_at "rd"
  refine y_sumT (ns := es.map toI) (by rw [← ew]; exact hT) ?_
  exact q _ H (Ex.refl H) (.int _)
theorem ok_do_turn (T : Tx K mg w) : Cal P w K mg base 1 "do_turn" s_do_turn P_do_turn (sp_rw K .turn) := by
  refine T.d_do_turn.ok sc_do_turn (fun vs H Q E h => ?_) (fun f cdv A outer s H vs Q E hr h => ?_)
  · obtain ⟨p, ws, ds, rfl, _⟩ := h; rfl
  obtain ⟨p, ws, ds, rfl, hS, hF, hV, h1, h2, hc, q⟩ := h
  refine ⟨_, PSs.nox (pss_one (ps_ret (pe_revU (pe_ix ix_seq (pv 0) pe_int (fun _ _ => rfl))))), ?_⟩
  obtain ⟨a, rfl⟩ := one_of h1 h2
  obtain ⟨x, rfl, hx⟩ := fl_one hF
  have hv := hV
  rw [List.all_cons, List.all_nil, Bool.and_true] at hv
  obtain ⟨t, xs, es, rfl, rfl, hT, hE⟩ := fl_tup hx (by simpa using (show List.all [a] isTup = true from hc))
  obtain ⟨v1, v2, v3, v4⟩ := isV_tup hv
  have hl := hE.length
  walk_at "rd"
  refine r_revU ?_
  walk_at "rd"
  refine k_revT hT fun t2 H2 n2 e2 h2 => ?_
  refine q _ H2 e2 ?_
  exact .tup (.of h2) ((FlAll.rev hE).mono e2.et)
end

end My
end

section
set_option Elab.async false
set_option linter.all false
set_option maxRecDepth 100000
set_option maxHeartbeats 4000000
namespace My
open PySem PySem.Spec PyProof.Rows L2 Ls SX
local macro_rules | `(tactic| walk_at "rd1") => `(tactic| (first | ((with_reducible refine' Ls.r_var ?hV ?_); (case hV => exact rfl)) | (with_reducible refine Ls.r_c ?_) | (with_reducible refine Ls.r_op ?_) | (with_reducible refine Ls.r_un ?_) | (with_reducible refine Ls.r_nil ?_) | (with_reducible refine Ls.r_cons ?_) | (with_reducible refine Ls.r_cb ?_) | (with_reducible refine Ls.r_ckw ?_) | (with_reducible refine Ls.r_cal ?_) | (with_reducible refine Ls.r_calK ?_) | (with_reducible refine Ls.r_tup ?_) | (with_reducible refine Ls.r_lst ?_) | (with_reducible refine Ls.r_if ?_) | (with_reducible refine Ls.r_andV ?_) | (with_reducible refine Ls.r_orV ?_) | (with_reducible refine Ls.r_notV ?_) | (with_reducible refine Ls.r_chain ?_) | (with_reducible refine Ls.r_sl ?_) | (with_reducible refine Ls.r_nopart ?_) | (with_reducible refine Ls.r_part ?_) | (with_reducible refine Ls.k_part ?_) | (with_reducible refine Ls.r_test ?_) | (with_reducible refine Ls.r_B ?_) | (with_reducible refine Ls.k_B ?_) | (with_reducible refine Ls.r_not ?_) | (with_reducible refine Ls.r_and ?_) | (with_reducible refine Ls.r_or ?_) | (with_reducible refine Ls.r_seq ?_) | (with_reducible refine Ls.r_ifS ?_) | (with_reducible refine Ls.r_next ?_) | (with_reducible refine Ls.r_brk ?_) | (with_reducible refine Ls.r_cont ?_) | (with_reducible refine Ls.r_ret ?_) | (with_reducible refine Ls.r_retN ?_) | (with_reducible refine Ls.r_drop ?_) | (with_reducible refine Ls.r_asg ?_) | (with_reducible refine Ls.r_par ?_) | (with_reducible refine Ls.k_par ?_) | ((with_reducible refine' Ls.r_aug ?hV ?_); (case hV => exact rfl)) | (with_reducible refine Ls.y_ip ?_) | (with_reducible refine Ls.g_name ?_) | (with_reducible refine Ls.g_nil ?_) | (with_reducible refine Ls.g_cons ?_) | (with_reducible refine Ls.g_sub ?_) | (with_reducible refine Ls.e_end ?_) | (with_reducible refine Ls.e_endr ?_) | (with_reducible refine Ls.e_nx ?_) | (with_reducible refine Ls.e_rt ?_) | (with_reducible refine Ls.e_bk ?_) | (with_reducible refine Ls.e_ct ?_) | (with_reducible refine Ls.r_for ?_) | (with_reducible refine Ls.i_seq ?_) | (with_reducible refine Ls.r_xi ?_) | (with_reducible refine Ls.r_xo ?_) | (with_reducible refine Ls.r_mk ?_) | (with_reducible refine Ls.r_xf ?_) | (with_reducible refine Ls.i_enum ?_) | (with_reducible refine Ls.i_rng1 ?_) | (with_reducible refine Ls.r_m1 ?_) | (with_reducible refine Ls.r_m0 ?_) | (with_reducible refine Ls.k_isS ?_) | (with_reducible refine Ls.r_bm ?_) | (with_reducible refine Ls.r_lc ?_) | (with_reducible refine Ls.y_add ?_) | (with_reducible refine Ls.y_sub ?_) | (with_reducible refine Ls.y_neg ?_) | (with_reducible refine Ls.y_lt ?_) | (with_reducible refine Ls.y_le ?_) | (with_reducible refine Ls.y_gt ?_) | (with_reducible refine Ls.y_ge ?_) | (with_reducible refine Ls.y_eqI ?_) | (with_reducible refine Ls.y_eqS ?_) | (with_reducible refine Ls.y_neI ?_) | (with_reducible refine Ls.y_neS ?_) | (with_reducible refine Ls.y_isNo ?_) | (with_reducible refine Ls.y_isntNo ?_) | (with_reducible refine Ls.y_abs ?_) | (with_reducible refine Ls.y_max2 ?_) | (with_reducible refine Ls.y_min2 ?_) | (with_reducible refine Ls.y_intI ?_) | (with_reducible refine Ls.y_intB ?_) | ((with_reducible refine' Ls.y_ixL ?hS ?hA ?_); (case hS => first | assumption | exact L2.SqL.of (by assumption)); (case hA => rfl)) | ((with_reducible refine' Ls.y_ixT ?hS ?hA ?_); (case hS => first | assumption | exact L2.SqT.of (by assumption)); (case hA => rfl)) | ((with_reducible refine' Ls.y_mod ?hC ?_); (case hC => first | decide | omega)) | ((with_reducible refine' Ls.y_fdiv ?hC ?_); (case hC => first | decide | (constructor <;> omega))) | ((with_reducible refine' Ls.y_pow ?hC ?_); (case hC => exact ⟨by decide, by decide, by decide⟩)) | ((with_reducible refine' Ls.y_mul ?hC ?_); (case hC => first | exact .inr ⟨by decide, by decide⟩ | exact .inl ⟨by decide, by decide⟩ | exact .inr ⟨by omega, by omega⟩ | exact .inl ⟨by omega, by omega⟩)) | (with_reducible refine L2.iteT ?_) | (with_reducible refine L2.iteF ?_) | (with_reducible refine Ls.iteNF ?_) | (with_reducible refine Ls.iteNT ?_)))
local macro_rules | `(tactic| walk_at "rd") => `(tactic| (repeat walk_at "rd1"))
local macro_rules | `(tactic| walk_at "lits") => `(tactic| (first | exact Ls.lit_nil | (refine' Ls.lit_cons ?hL ?hR; (case hL => walk_at "lits"); (case hR => walk_at "lits")) | exact Ls.lit_non | exact Ls.lit_bl | exact Ls.lit_int | exact Ls.lit_str | exact Ls.lit_neg | exact Ls.lit_dn | exact Ls.lit_d1 | exact Ls.lit_d1s | (refine' Ls.lit_tup ?hA ?hZ; (case hA => walk_at "lits"); (case hZ => first | decide | simp)) | (refine' Ls.lit_lst ?hA ?hZ; (case hA => walk_at "lits"); (case hZ => first | decide | simp))))

section
variable {P : Program} {w : World} {K : PySem.W.Frag} {mg : Str → Option Value} {base : Heap} (nd : base.NoDigits)
include nd
theorem ar_k (T : Tx K mg w) : ∀ f : Fn, ∃ p, KDct K w (fA mg "ARITIES") f.nm (.ref p) ∧ TupK K p [.int (f.lo : Nat), .int (f.hi : Nat)]
  | .add => T.k_ARITIES_0 | .sub => T.k_ARITIES_1 | .mul => T.k_ARITIES_2 | .div => T.k_ARITIES_3 | .neg => T.k_ARITIES_4 | .min => T.k_ARITIES_5 | .max => T.k_ARITIES_6 | .less => T.k_ARITIES_7 | .same => T.k_ARITIES_8
  | .length => T.k_ARITIES_9 | .item => T.k_ARITIES_10 | .pack => T.k_ARITIES_11 | .join => T.k_ARITIES_12 | .take => T.k_ARITIES_13 | .drop => T.k_ARITIES_14 | .sort => T.k_ARITIES_15 | .total => T.k_ARITIES_16 | .turn => T.k_ARITIES_17
theorem ok_is_function (T : Tx K mg w) : Cal P w K mg base 1 "is_function" s_is_function P_is_function (sp_isfun K) := by
  refine T.d_is_function.ok sc_is_function (fun vs H Q E h => ?_) (fun f cdv A outer s H vs Q E hr h => ?_)
  · obtain ⟨v, d, rfl, _⟩ := h; rfl
  obtain ⟨v, d, rfl, hd, q⟩ := h
  refine ⟨_, PSs.nox (pss_one (ps_ret (pe_and (pe_callB call_isiU (by rfl) T.n_isinstance (by decide +kernel) (pa_cons (pv 0) (pa_cons (pe_bltn (v := .ty "str") (u := .type "str") (by rfl) T.n_str (by decide +kernel) rfl) pa_nil))) (pe_one (pe_cmpR (op_inU hr) (pv 0) (pe_const (v := .ref (fA mg "FUNCTIONS")) ⟨_, T.m_FUNCTIONS, rfl⟩) (by rfl)))))), ?_⟩
  walk_at "rd"
  cases d with
  | str x =>
    refine y_isi hd (b := true) rfl ?_
    walk_at "rd"
    cases hd
    refine .inl ⟨_, namesV, rfl, .inr T.t_FUNCTIONS.sq, rfl, names_flat, ?_⟩
    rw [names_in]
    exact q
  | int i => exact y_isi hd (b := false) rfl (by walk_at "rd"; exact q)
  | bool i => exact y_isi hd (b := false) rfl (by walk_at "rd"; exact q)
  | none => exact y_isi hd (b := false) rfl (by walk_at "rd"; exact q)
  | list x => exact y_isi hd (b := false) rfl (by walk_at "rd"; exact q)
  | tuple x => exact y_isi hd (b := false) rfl (by walk_at "rd"; exact q)
  | dict x => exact y_isi hd (b := false) rfl (by walk_at "rd"; exact q)
theorem ok_arity (T : Tx K mg w) (X_UnknownFunction : Xk P w K mg base 1 "UnknownFunction" (fA mg "UnknownFunction") ["value"]) (C_is_function : Cal P w K mg base 1 "is_function" s_is_function P_is_function (sp_isfun K)) :
    Cal P w K mg base 3 "arity" s_arity P_arity (sp_arity K (fA mg "UnknownFunction")) := by
  refine T.d_arity.ok sc_arity (fun vs H Q E h => ?_) (fun f cdv A outer s H vs Q E hr h => ?_)
  · obtain ⟨v, d, rfl, _⟩ := h; rfl
  obtain ⟨v, d, rfl, hd, q, qe⟩ := h
  refine ⟨_, (pss_cons (ps_if (pt_not (pt_val (pe_g C_is_function (hr.mono (by omega)) px0 (pa_cons (pv 0) pa_nil)))) (pss_one (ps_raise rfl (takes_of rfl rfl rfl rfl) (pmk_x X_UnknownFunction hr (by omega) (pa_cons (pv 0) pa_nil)))) pss_nil)
      (pss_one (ps_ret (pe_ix ix_kdict (pe_const (v := .ref (fA mg "ARITIES")) ⟨_, T.m_ARITIES, rfl⟩) (pv 0) (fun _ _ => rfl))))), ?_⟩
  walk_at "rd"
  refine ⟨v, d, rfl, hd, ?_⟩
  walk_at "rd"
  refine brBN (fun ho => ?_) fun ho => ?_
  · walk_at "rd"
    refine ⟨rfl, by simp, fun dd H2 n2 same hx => ?_⟩
    exact qe (by simpa using ho) dd H2 (ex_same n2 same) hx
  · obtain ⟨f, hf⟩ := Option.isSome_iff_exists.mp ho
    have e := fnD_some hf
    subst e
    cases hd
    obtain ⟨p, hk, ht⟩ := ar_k nd T f
    walk_at "rd"
    exact y_ixK hk (q f p hf ht)
theorem ch_k (T : Tx K mg w) {n : Nat} (hn : 5 ≤ n) (C_is_int : Cal P w K mg base 1 "is_int" s_is_int P_is_int (sp_isint K)) (C_is_datum : Cal P w K mg base (n + 3) "is_datum" s_is_datum P_is_datum (sp_isdatum K n)) (f : Fn) :
    ∃ a, KDct K w (fA mg "CHECKS") f.nm (.ref a) ∧ HeldG P w K mg base (n + 4) a (sp_chk K f.check (fun ds => f.lo ≤ ds.length ∧ ds.length ≤ f.hi ∧ ds.all isV = true)) := by
  have C1 := ok_are_integers (P := P) (w := w) (base := base) nd T C_is_int
  have C2 := ok_are_tuples (P := P) (w := w) (base := base) nd T
  have C3 := ok_are_data (P := P) (w := w) (base := base) nd T hn C_is_datum
  have C4 := ok_can_divide (P := P) (w := w) (base := base) nd T C1
  have C5 := ok_is_count (P := P) (w := w) (base := base) nd T C_is_int
  have C6 := ok_can_count (P := P) (w := w) (base := base) nd T C5
  have C7 := ok_can_index (P := P) (w := w) (base := base) nd T C6
  have C8 := ok_is_integer_tuple (P := P) (w := w) (base := base) nd T C1
  have I1 : ∀ g : Fn, (∀ ds, g.check ds = ds.all isInt) → HeldG P w K mg base (n + 4) (fA mg "are_integers") (sp_chk K g.check (fun ds => g.lo ≤ ds.length ∧ ds.length ≤ g.hi ∧ ds.all isV = true)) := fun g hg =>
    ((C1.imp fun vs H Q E ⟨p, ws, ds, a, b, c, d, _, q⟩ => ⟨p, ws, ds, a, b, c, d, trivial, fun H' e => by have z := q H' e; rw [hg] at z; exact z⟩).held).up (by omega)
  have I2 : ∀ g : Fn, (∀ ds, g.check ds = ds.all isTup) → HeldG P w K mg base (n + 4) (fA mg "are_tuples") (sp_chk K g.check (fun ds => g.lo ≤ ds.length ∧ ds.length ≤ g.hi ∧ ds.all isV = true)) := fun g hg =>
    ((C2.imp fun vs H Q E ⟨p, ws, ds, a, b, c, d, _, q⟩ => ⟨p, ws, ds, a, b, c, d, trivial, fun H' e => by have z := q H' e; rw [hg] at z; exact z⟩).held).up (by omega)
  have I3 : ∀ g : Fn, (∀ ds, g.check ds = ds.all isD) → HeldG P w K mg base (n + 4) (fA mg "are_data") (sp_chk K g.check (fun ds => g.lo ≤ ds.length ∧ ds.length ≤ g.hi ∧ ds.all isV = true)) := fun g hg =>
    ((C3.imp fun vs H Q E ⟨p, ws, ds, a, b, c, d, z2, q⟩ => ⟨p, ws, ds, a, b, c, d, z2.2.2, fun H' e => by have z := q H' e; rw [hg] at z; exact z⟩).held).up (by omega)
  have I6 : ∀ g : Fn, g.lo = 2 → g.hi = 2 → (∀ ds, g.check ds = canCount ds) → HeldG P w K mg base (n + 4) (fA mg "can_count") (sp_chk K g.check (fun ds => g.lo ≤ ds.length ∧ ds.length ≤ g.hi ∧ ds.all isV = true)) := fun g h1 h2 hg =>
    ((C6.imp fun vs H Q E ⟨p, ws, ds, a, b, c, d, z2, q⟩ => ⟨p, ws, ds, a, b, c, d, ⟨by rw [h1] at z2; exact z2.1, by rw [h2] at z2; exact z2.2.1⟩, fun H' e => by have z := q H' e; rw [hg] at z; exact z⟩).held).up (by omega)
  have I8 : ∀ g : Fn, g.lo = 1 → g.hi = 1 → (∀ ds, g.check ds = (isTup (at0 ds) && (toL (at0 ds)).all isInt)) → HeldG P w K mg base (n + 4) (fA mg "is_integer_tuple") (sp_chk K g.check (fun ds => g.lo ≤ ds.length ∧ ds.length ≤ g.hi ∧ ds.all isV = true)) := fun g h1 h2 hg =>
    ((C8.imp fun vs H Q E ⟨p, ws, ds, a, b, c, d, z2, q⟩ => ⟨p, ws, ds, a, b, c, d, ⟨⟨by rw [h1] at z2; exact z2.1, by rw [h2] at z2; exact z2.2.1⟩, z2.2.2⟩, fun H' e => by have z := q H' e; rw [hg] at z; exact z⟩).held).up (by omega)
  have I4 : HeldG P w K mg base (n + 4) (fA mg "can_divide") (sp_chk K (Fn.check .div) (fun ds => Fn.lo .div ≤ ds.length ∧ ds.length ≤ Fn.hi .div ∧ ds.all isV = true)) :=
    ((C4.imp fun vs H Q E ⟨p, ws, ds, a, b, c, d, z2, q⟩ => ⟨p, ws, ds, a, b, c, d, ⟨z2.1, z2.2.1⟩, q⟩).held).up (by omega)
  have I7 : HeldG P w K mg base (n + 4) (fA mg "can_index") (sp_chk K (Fn.check .item) (fun ds => Fn.lo .item ≤ ds.length ∧ ds.length ≤ Fn.hi .item ∧ ds.all isV = true)) :=
    ((C7.imp fun vs H Q E ⟨p, ws, ds, a, b, c, d, z2, q⟩ => ⟨p, ws, ds, a, b, c, d, ⟨z2.1, z2.2.1⟩, q⟩).held).up (by omega)
  cases f with
  | add => exact ⟨_, T.k_CHECKS_0, I1 _ fun _ => rfl⟩
  | sub => exact ⟨_, T.k_CHECKS_1, I1 _ fun _ => rfl⟩
  | mul => exact ⟨_, T.k_CHECKS_2, I1 _ fun _ => rfl⟩
  | div => exact ⟨_, T.k_CHECKS_3, I4⟩
  | neg => exact ⟨_, T.k_CHECKS_4, I1 _ fun _ => rfl⟩
  | min => exact ⟨_, T.k_CHECKS_5, I1 _ fun _ => rfl⟩
  | max => exact ⟨_, T.k_CHECKS_6, I1 _ fun _ => rfl⟩
  | less => exact ⟨_, T.k_CHECKS_7, I1 _ fun _ => rfl⟩
  | same => exact ⟨_, T.k_CHECKS_8, I3 _ fun _ => rfl⟩
  | length => exact ⟨_, T.k_CHECKS_9, I2 _ fun _ => rfl⟩
  | item => exact ⟨_, T.k_CHECKS_10, I7⟩
  | pack => exact ⟨_, T.k_CHECKS_11, I3 _ fun _ => rfl⟩
  | join => exact ⟨_, T.k_CHECKS_12, I2 _ fun _ => rfl⟩
  | take => exact ⟨_, T.k_CHECKS_13, I6 _ rfl rfl fun _ => rfl⟩
  | drop => exact ⟨_, T.k_CHECKS_14, I6 _ rfl rfl fun _ => rfl⟩
  | sort => exact ⟨_, T.k_CHECKS_15, I8 _ rfl rfl fun _ => rfl⟩
  | total => exact ⟨_, T.k_CHECKS_16, I8 _ rfl rfl fun _ => rfl⟩
  | turn => exact ⟨_, T.k_CHECKS_17, I2 _ fun _ => rfl⟩
theorem rs_k (T : Tx K mg w) (f : Fn) : ∃ a, KDct K w (fA mg "RESULTS") f.nm (.ref a) ∧ HeldG P w K mg base 1 a (sp_rw K f) := by
  cases f with
  | add => exact ⟨_, T.k_RESULTS_0, (ok_do_add nd T).held⟩
  | sub => exact ⟨_, T.k_RESULTS_1, (ok_do_sub nd T).held⟩
  | mul => exact ⟨_, T.k_RESULTS_2, (ok_do_mul nd T).held⟩
  | div => exact ⟨_, T.k_RESULTS_3, (ok_do_div nd T).held⟩
  | neg => exact ⟨_, T.k_RESULTS_4, (ok_do_neg nd T).held⟩
  | min => exact ⟨_, T.k_RESULTS_5, (ok_do_min nd T).held⟩
  | max => exact ⟨_, T.k_RESULTS_6, (ok_do_max nd T).held⟩
  | less => exact ⟨_, T.k_RESULTS_7, (ok_do_less nd T).held⟩
  | same => exact ⟨_, T.k_RESULTS_8, (ok_do_same nd T).held⟩
  | length => exact ⟨_, T.k_RESULTS_9, (ok_do_length nd T).held⟩
  | item => exact ⟨_, T.k_RESULTS_10, (ok_do_item nd T).held⟩
  | pack => exact ⟨_, T.k_RESULTS_11, (ok_do_pack nd T).held⟩
  | join => exact ⟨_, T.k_RESULTS_12, (ok_do_join nd T).held⟩
  | take => exact ⟨_, T.k_RESULTS_13, (ok_do_take nd T).held⟩
  | drop => exact ⟨_, T.k_RESULTS_14, (ok_do_drop nd T).held⟩
  | sort => exact ⟨_, T.k_RESULTS_15, (ok_do_sort nd T).held⟩
  | total => exact ⟨_, T.k_RESULTS_16, (ok_do_total nd T).held⟩
  | turn => exact ⟨_, T.k_RESULTS_17, (ok_do_turn nd T).held⟩
theorem ok_apply (T : Tx K mg w) (X_InvalidValue : Xk P w K mg base 1 "InvalidValue" (fA mg "InvalidValue") ["value"]) (C_is_int : Cal P w K mg base 1 "is_int" s_is_int P_is_int (sp_isint K)) (C_is_datum : Cal P w K mg base 13 "is_datum" s_is_datum P_is_datum (sp_isdatum K 10))
    (C_is_value : Cal P w K mg base 14 "is_value" s_is_value P_is_value (sp_isvalue K 10)) (C_arity : Cal P w K mg base 3 "arity" s_arity P_arity (sp_arity K (fA mg "UnknownFunction"))) :
    CalS P w K mg base 16 "apply" (spStar 1 (sp_app K (fA mg "UnknownFunction") (fA mg "InvalidValue"))) := by
  refine T.d_apply.ok sc_apply (fun f cdv A outer s H vs Q E hr h => ?_)
  obtain ⟨v, d, p, ws, ds, rfl, hd, hS, hD, hz, hsm, qF, qV, q⟩ := h
  refine ⟨_, (pss_cons (ps_asg (pe_g C_arity (hr.mono (by omega)) (pxE (takes_of rfl rfl rfl rfl) (fun _ _ _ _ h => h)) (pa_cons (pv 0) pa_nil)) (pg_tup rfl (pgs_cons (pg_name (i := 2) sc_apply.nd rfl (by first | exact .inl rfl | exact .inr rfl)) (pgs_cons (pg_name (i := 3) sc_apply.nd rfl (by first | exact .inl rfl | exact .inr rfl)) pgs_nil))))
      (pss_cons (ps_for (passes_of rfl) rfl (pi_seq (pv 1)) (pg_name (i := 4) sc_apply.nd rfl (by first | exact .inl rfl | exact .inr rfl)) (pss_one (ps_if (pt_not (pt_val (pe_g C_is_value (hr.mono (by omega)) px0 (pa_cons (pv 4) pa_nil)))) (pss_one (ps_raise rfl (takes_of rfl rfl rfl rfl) (pmk_x X_InvalidValue hr (by omega) (pa_cons (pv 4) pa_nil)))) pss_nil)))
      (pss_cons (ps_if (pt_not (pt_chain op_leU op_leU (pv 2) (pe_callB call_lenU (by rfl) T.n_len (by decide +kernel) (pa_cons (pv 1) pa_nil)) (pv 3))) (pss_one (ps_ret (pe_const T.c_FAULT))) pss_nil)
      (pss_cons (ps_par (i := 5) (j := 6) rfl sc_apply.nd rfl rfl (by decide) rfl rfl (pa_cons (pe_ix ix_kdict (pe_const (v := .ref (fA mg "CHECKS")) ⟨_, T.m_CHECKS, rfl⟩) (pv 0) (fun _ _ => rfl)) (pa_cons (pe_ix ix_kdict (pe_const (v := .ref (fA mg "RESULTS")) ⟨_, T.m_RESULTS, rfl⟩) (pv 0) (fun _ _ => rfl)) pa_nil)) (by rfl))
      (pss_cons (ps_if (pt_not (pt_val (pe_gL (i := 5) hr px0 rfl (by first | exact .inl rfl | exact .inr rfl) (pa_cons (pv 1) pa_nil)))) (pss_one (ps_ret (pe_const T.c_FAULT))) pss_nil)
      (pss_cons (ps_set (i := 7) sc_apply.nd rfl (by first | exact .inl rfl | exact .inr rfl) (pe_gL (i := 6) hr px0 rfl (by first | exact .inl rfl | exact .inr rfl) (pa_cons (pv 1) pa_nil)))
      (pss_one (ps_ret (pe_ifExp (pt_val (pe_g C_is_datum (hr.mono (by omega)) px0 (pa_cons (pv 7) pa_nil))) (pv 7) (pe_const T.c_FAULT)))))))))), ?_⟩
  walk_at "rd"
  refine ⟨v, d, rfl, hd, fun f t hf ht => ?_, qF⟩
  have e := fnD_some hf
  subst e
  cases hd
  refine g_tup ht.sq rfl ?_
  walk_at "rd"
  refine i_T hS ?_
  have hl := hD.length
  refine k_forT (xs := ws) (fun j σ' H' => Ex H H' ∧ (∀ e ∈ ds.take j, isV e = true) ∧ ∃ o, σ' = [some (.str f.nm), some (.ref p), some (.int (f.lo : Nat)), some (.int (f.hi : Nat)), o, none, none, none]) ⟨Ex.refl H, fun _ h => (nomatch h), none, rfl⟩ (fun j σ' H' _ ⟨e, _⟩ => e.st hS) ?_ ?_
  · rintro j x σ' H1 hx ⟨e1, hg, o, rfl⟩
    obtain ⟨c, hc, hcd⟩ := hD.get hx
    have hm := List.mem_of_getElem? hc
    walk_at "rd"
    refine ⟨x, c, rfl, hcd.mono e1, (hsm c hm).1, (hsm c hm).2, fun H2 e2 => ?_⟩
    walk_at "rd"
    refine brBN (fun hv => ?_) fun hv => ?_
    · walk_at "rd"
      refine ⟨rfl, by simp, fun dd H3 n3 same hxd => ?_⟩
      exact qV f j x hf (firstBad_at hg hc hv) hx dd H3 ((e1.trans e2).trans (ex_same n3 same)) hxd
    · walk_at "rd"
      refine ⟨e1.trans e2, fun e he => ?_, _, rfl⟩
      rw [List.take_add_one, hc] at he
      rcases List.mem_append.mp he with he | he
      · exact hg e he
      · have : e = c := by simpa using he
        rw [this]
        exact hv
  · rintro σ' H1 ⟨e1, hg, o, rfl⟩
    rw [hl, List.take_length] at hg
    have hV : ds.all isV = true := List.all_eq_true.mpr hg
    have hF := isV_flL hV (hD.mono e1)
    have hS1 := e1.st hS
    walk_at "rd"
    refine y_lenT hS1 ?_
    walk_at "rd"
    have fin : ∀ H', Ex H H' → f.app ds = faultD → Q (.str (Str.ofString "fault")) H' := fun H' e h => q f hf hV _ H' e (by rw [h]; exact .str _)
    refine br (fun h1 => ?_) fun h1 => ?_
    · walk_at "rd"
      refine brN (fun h2 => ?_) fun h2 => ?_
      · walk_at "rd"
        exact fin H1 e1 (if_neg fun z => h2 (by omega))
      · have hlo : f.lo ≤ ds.length := by omega
        have hhi : ds.length ≤ f.hi := by omega
        obtain ⟨a, ka, ha⟩ := ch_k (P := P) (w := w) (base := base) nd T (n := 10) (by decide) C_is_int C_is_datum f
        obtain ⟨b, kb, hb⟩ := rs_k (P := P) (w := w) (base := base) nd T f
        walk_at "rd"
        refine y_ixK ka ?_
        walk_at "rd"
        refine y_ixK kb ?_
        walk_at "rd"
        refine r_calL rfl (ha.up (by omega)) ?_
        walk_at "rd"
        refine ⟨p, ws, ds, rfl, hS1, hF, hz, ⟨hlo, hhi, hV⟩, fun H2 e2 => ?_⟩
        walk_at "rd"
        refine brBN (fun hc => ?_) fun hc => ?_
        · walk_at "rd"
          refine fin H2 (e1.trans e2) ?_
          unfold Fn.app
          rw [if_pos ⟨hlo, hhi⟩, if_neg (by rw [hc]; exact Bool.false_ne_true)]
        · walk_at "rd"
          refine r_calL rfl (hb.up (by omega)) ?_
          walk_at "rd"
          refine ⟨p, ws, ds, rfl, e2.st hS1, hF.mono e2.et, hV, hlo, hhi, hc, fun r H3 e3 hr3 => ?_⟩
          have hsm3 := raw_sm f hV hlo hhi hc
          walk_at "rd"
          refine ⟨r, _, rfl, hr3.dt, hsm3.1, hsm3.2, fun H4 e4 => ?_⟩
          walk_at "rd"
          have e5 := e1.trans (e2.trans (e3.trans e4))
          have ea : f.app ds = if isD (f.raw ds) = true then f.raw ds else faultD := by
            unfold Fn.app
            rw [if_pos ⟨hlo, hhi⟩, if_pos hc]
          refine brB (fun hD => ?_) fun hD => ?_
          · walk_at "rd"
            refine q f hf hV r H4 e5 ?_
            rw [ea, if_pos hD]
            exact hr3.mono e4.et
          · walk_at "rd"
            refine fin H4 e5 ?_
            rw [ea, if_neg (by rw [hD]; exact Bool.false_ne_true)]
    · walk_at "rd"
      exact fin H1 e1 (if_neg fun z => h1 (by omega))
end

end My
end

section
set_option Elab.async false
set_option linter.all false
set_option maxRecDepth 100000
set_option maxHeartbeats 4000000
namespace My
open PySem PySem.Spec PyProof.Rows L2 Ls SX LamX
local macro_rules | `(tactic| walk_at "rd1") => `(tactic| (first | ((with_reducible refine' Ls.r_var ?hV ?_); (case hV => exact rfl)) | (with_reducible refine Ls.r_c ?_) | (with_reducible refine Ls.r_op ?_) | (with_reducible refine Ls.r_un ?_) | (with_reducible refine Ls.r_nil ?_) | (with_reducible refine Ls.r_cons ?_) | (with_reducible refine Ls.r_cb ?_) | (with_reducible refine Ls.r_ckw ?_) | (with_reducible refine Ls.r_cal ?_) | (with_reducible refine Ls.r_calK ?_) | (with_reducible refine Ls.r_tup ?_) | (with_reducible refine Ls.r_lst ?_) | (with_reducible refine Ls.r_if ?_) | (with_reducible refine Ls.r_andV ?_) | (with_reducible refine Ls.r_orV ?_) | (with_reducible refine Ls.r_notV ?_) | (with_reducible refine Ls.r_chain ?_) | (with_reducible refine Ls.r_sl ?_) | (with_reducible refine Ls.r_nopart ?_) | (with_reducible refine Ls.r_part ?_) | (with_reducible refine Ls.k_part ?_) | (with_reducible refine Ls.r_test ?_) | (with_reducible refine Ls.r_B ?_) | (with_reducible refine Ls.k_B ?_) | (with_reducible refine Ls.r_not ?_) | (with_reducible refine Ls.r_and ?_) | (with_reducible refine Ls.r_or ?_) | (with_reducible refine Ls.r_seq ?_) | (with_reducible refine Ls.r_ifS ?_) | (with_reducible refine Ls.r_next ?_) | (with_reducible refine Ls.r_brk ?_) | (with_reducible refine Ls.r_cont ?_) | (with_reducible refine Ls.r_ret ?_) | (with_reducible refine Ls.r_retN ?_) | (with_reducible refine Ls.r_drop ?_) | (with_reducible refine Ls.r_asg ?_) | (with_reducible refine Ls.r_par ?_) | (with_reducible refine Ls.k_par ?_) | ((with_reducible refine' Ls.r_aug ?hV ?_); (case hV => exact rfl)) | (with_reducible refine Ls.y_ip ?_) | (with_reducible refine Ls.g_name ?_) | (with_reducible refine Ls.g_nil ?_) | (with_reducible refine Ls.g_cons ?_) | (with_reducible refine Ls.g_sub ?_) | (with_reducible refine Ls.e_end ?_) | (with_reducible refine Ls.e_endr ?_) | (with_reducible refine Ls.e_nx ?_) | (with_reducible refine Ls.e_rt ?_) | (with_reducible refine Ls.e_bk ?_) | (with_reducible refine Ls.e_ct ?_) | (with_reducible refine Ls.r_for ?_) | (with_reducible refine Ls.i_seq ?_) | (with_reducible refine Ls.r_xi ?_) | (with_reducible refine Ls.r_xo ?_) | (with_reducible refine Ls.r_mk ?_) | (with_reducible refine Ls.r_xf ?_) | (with_reducible refine Ls.i_enum ?_) | (with_reducible refine Ls.i_rng1 ?_) | (with_reducible refine Ls.r_m1 ?_) | (with_reducible refine Ls.r_m0 ?_) | (with_reducible refine Ls.k_isS ?_) | (with_reducible refine Ls.r_bm ?_) | (with_reducible refine Ls.r_lc ?_) | (with_reducible refine Ls.y_add ?_) | (with_reducible refine Ls.y_sub ?_) | (with_reducible refine Ls.y_neg ?_) | (with_reducible refine Ls.y_lt ?_) | (with_reducible refine Ls.y_le ?_) | (with_reducible refine Ls.y_gt ?_) | (with_reducible refine Ls.y_ge ?_) | (with_reducible refine Ls.y_eqI ?_) | (with_reducible refine Ls.y_eqS ?_) | (with_reducible refine Ls.y_neI ?_) | (with_reducible refine Ls.y_neS ?_) | (with_reducible refine Ls.y_isNo ?_) | (with_reducible refine Ls.y_isntNo ?_) | (with_reducible refine Ls.y_abs ?_) | (with_reducible refine Ls.y_max2 ?_) | (with_reducible refine Ls.y_min2 ?_) | (with_reducible refine Ls.y_intI ?_) | (with_reducible refine Ls.y_intB ?_) | ((with_reducible refine' Ls.y_ixL ?hS ?hA ?_); (case hS => first | assumption | exact L2.SqL.of (by assumption)); (case hA => rfl)) | ((with_reducible refine' Ls.y_ixT ?hS ?hA ?_); (case hS => first | assumption | exact L2.SqT.of (by assumption)); (case hA => rfl)) | ((with_reducible refine' Ls.y_mod ?hC ?_); (case hC => first | decide | omega)) | ((with_reducible refine' Ls.y_fdiv ?hC ?_); (case hC => first | decide | (constructor <;> omega))) | ((with_reducible refine' Ls.y_pow ?hC ?_); (case hC => exact ⟨by decide, by decide, by decide⟩)) | ((with_reducible refine' Ls.y_mul ?hC ?_); (case hC => first | exact .inr ⟨by decide, by decide⟩ | exact .inl ⟨by decide, by decide⟩ | exact .inr ⟨by omega, by omega⟩ | exact .inl ⟨by omega, by omega⟩)) | (with_reducible refine L2.iteT ?_) | (with_reducible refine L2.iteF ?_) | (with_reducible refine Ls.iteNF ?_) | (with_reducible refine Ls.iteNT ?_)))
local macro_rules | `(tactic| walk_at "rd") => `(tactic| (repeat walk_at "rd1"))
local macro_rules | `(tactic| walk_at "lits") => `(tactic| (first | exact Ls.lit_nil | (refine' Ls.lit_cons ?hL ?hR; (case hL => walk_at "lits"); (case hR => walk_at "lits")) | exact Ls.lit_non | exact Ls.lit_bl | exact Ls.lit_int | exact Ls.lit_str | exact Ls.lit_neg | exact Ls.lit_dn | exact Ls.lit_d1 | exact Ls.lit_d1s | (refine' Ls.lit_tup ?hA ?hZ; (case hA => walk_at "lits"); (case hZ => first | decide | simp)) | (refine' Ls.lit_lst ?hA ?hZ; (case hA => walk_at "lits"); (case hZ => first | decide | simp))))

section
variable {P : Program} {w : World} {K : PySem.W.Frag} {mg : Str → Option Value} {base : Heap} (nd : base.NoDigits)
include nd
theorem ok_pot (T : Tx K mg w) : Cal P w K mg base 1 "_law_pot" s_law_pot P_law_pot (sp_pot K) := by
  refine T.d_law_pot.ok sc_law_pot (fun vs H Q E h => ?_) (fun f cdv A outer s H vs Q E hr h => ?_)
  · obtain ⟨p, m, k, rfl, _⟩ := h; rfl
  obtain ⟨sa, ns, k, rfl, hS, hk, q⟩ := h
  refine ⟨_, PSs.nox (pss_cons (ps_set (i := 2) sc_law_pot.nd rfl (by first | exact .inl rfl | exact .inr rfl) (pe_ifExp (pt_cmpR op_ltU (pv 1) (pe_callB call_lenU (by rfl) T.n_len (by decide +kernel) (pa_cons (pv 0) pa_nil)) (nomark _)) (pe_callB call_absU (by rfl) T.n_abs (by decide +kernel) (pa_cons (pe_ix ix_seq (pv 0) (pv 1) (fun _ _ => rfl)) pa_nil)) pe_int))
      (pss_one (ps_ret (pe_lstN (pa_cons (pe_callB (call_maxU rfl) (by rfl) T.n_max (by decide +kernel) (pa_cons pe_int (pa_cons (pe_op op_subU (pv 2) (pe_op op_powU pe_int pe_int)) pa_nil))) (pa_cons (pe_op op_modU (pe_op op_addU (pe_op op_addU (pe_op op_mulU (pe_op op_modU (pv 2) pe_int) pe_int) (pe_op op_mulU pe_int (pv 1))) pe_int) pe_int) pa_nil)))))), ?_⟩
  walk_at "rd"
  refine y_lenL hS ?_
  walk_at "rd"
  rw [List.length_map]
  have fin : ∀ c : Int, 0 ≤ c → 0 ≤ (if c - 10 ^ (18 : Int).toNat > 0 then c - 10 ^ (18 : Int).toNat else 0) := fun c hc => by split <;> omega
  have m0 : ∀ z : Int, 0 ≤ z % 2147483647 := fun z => Int.emod_nonneg _ (by decide)
  have m1 : ∀ z : Int, z % 2147483647 < 2147483648 := fun z => Int.lt_trans (Int.emod_lt_of_pos _ (by decide)) (by decide)
  refine br (fun hlt => ?_) fun hge => ?_
  · have hlt' : k < ns.length := by omega
    walk_at "rd"
    refine y_ixL (v := .int ns[k]) hS (atI_nat (by rw [List.getElem?_map, List.getElem?_eq_getElem hlt']; rfl)) ?_
    walk_at "rd"
    refine k_lst fun p H1 n _ e h1 => ?_
    exact q p H1 n e ⟨_, _, h1, fin _ (by split <;> omega), m0 _, m1 _⟩
  · walk_at "rd"
    refine k_lst fun p H1 n _ e h1 => ?_
    exact q p H1 n e ⟨_, _, h1, fin _ (by decide), m0 _, m1 _⟩
theorem ok_digit (T : Tx K mg w) : Cal P w K mg base 1 "_law_digit" s_law_digit P_law_digit sp_digit := by
  refine T.d_law_digit.ok sc_law_digit (fun vs H Q E h => ?_) (fun f cdv A outer s H vs Q E hr h => ?_)
  · obtain ⟨p, m, rfl, _⟩ := h; rfl
  obtain ⟨p, m, rfl, ⟨a, b, hp, a0, b0, b1⟩, m0, m1, q⟩ := h
  refine ⟨_, PSs.nox (pss_cons (ps_if (pt_cmpR op_gtU (pe_ix ix_seq (pv 0) pe_int (fun _ _ => rfl)) pe_int (nomark _)) (pss_cons (ps_asg (pe_callB call_divmodU (by rfl) T.n_divmod (by decide +kernel) (pa_cons (pe_ix ix_seq (pv 0) pe_int (fun _ _ => rfl)) (pa_cons (pv 1) pa_nil))) (pg_tup rfl (pgs_cons (pg_sub (pv 0) pe_int set_list) (pgs_cons (pg_name (i := 2) sc_law_digit.nd rfl (by first | exact .inl rfl | exact .inr rfl)) pgs_nil))))
      (pss_one (ps_ret (pv 2)))) pss_nil)
      (pss_cons (ps_asg (pe_op op_modU (pe_op op_addU (pe_op op_mulU (pe_ix ix_seq (pv 0) pe_int (fun _ _ => rfl)) pe_int) pe_int) pe_int) (pg_sub (pv 0) pe_int set_list))
      (pss_one (ps_ret (pe_op op_modU (pe_op op_fdivU (pe_op op_modU (pe_op op_mulU (pe_ix ix_seq (pv 0) pe_int (fun _ _ => rfl)) (pe_ix ix_seq (pv 0) pe_int (fun _ _ => rfl))) pe_int) pe_int) (pv 1)))))), ?_⟩
  walk_at "rd"
  refine br (fun ha => ?_) fun ha => ?_
  · walk_at "rd"
    refine y_divmod ⟨m0, m1⟩ fun t H1 nt e1 ht => ?_
    refine g_tup (.of ht) rfl ?_
    walk_at "rd"
    refine y_setL (e1 _ _ hp) rfl fun H2 e2 h2 => ?_
    walk_at "rd"
    exact q _ H2 (Int.emod_nonneg _ (by omega)) (Int.emod_lt_of_pos _ m0) ⟨_, _, h2, Int.ediv_nonneg a0 (by omega), b0, b1⟩ ((e1.em p).trans e2)
  · walk_at "rd"
    refine y_setL hp rfl fun H2 e2 h2 => ?_
    have c0 : 0 ≤ (b * 39373 + 12227) % 2147483629 := Int.emod_nonneg _ (by decide)
    have c1 : (b * 39373 + 12227) % 2147483629 < 2147483629 := Int.emod_lt_of_pos _ (by decide)
    walk_at "rd"
    exact q _ H2 (Int.emod_nonneg _ (by omega)) (Int.emod_lt_of_pos _ m0) ⟨_, _, h2, a0, c0, by omega⟩ e2
theorem ok_int (T : Tx K mg w) (C_law_digit : Cal P w K mg base 1 "_law_digit" s_law_digit P_law_digit sp_digit) : Cal P w K mg base 2 "_law_int" s_law_int P_law_int sp_int := by
  refine T.d_law_int.ok sc_law_int (fun vs H Q E h => ?_) (fun f cdv A outer s H vs Q E hr h => ?_)
  · obtain ⟨p, rfl, _⟩ := h; rfl
  obtain ⟨p, rfl, hP, q⟩ := h
  refine ⟨_, PSs.nox (pss_cons (ps_set (i := 1) sc_law_int.nd rfl (by first | exact .inl rfl | exact .inr rfl) (pe_g C_law_digit (hr.mono (by omega)) px0 (pa_cons (pv 0) (pa_cons pe_int pa_nil))))
      (pss_cons (ps_if (pt_cmpR op_ltU (pv 1) pe_int (nomark _)) (pss_one (ps_ret (pe_ix ix_seq (pe_lstN (pa_cons pe_int (pa_cons pe_int (pa_cons pe_int (pa_cons (pe_un un_negU pe_int) pa_nil))))) (pv 1) (fun _ _ => rfl)))) pss_nil)
      (pss_cons (ps_set (i := 2) sc_law_int.nd rfl (by first | exact .inl rfl | exact .inr rfl) (pe_lstN (pa_cons (pe_g C_law_digit (hr.mono (by omega)) px0 (pa_cons (pv 0) (pa_cons pe_int pa_nil))) (pa_cons (pe_un un_negU (pe_g C_law_digit (hr.mono (by omega)) px0 (pa_cons (pv 0) (pa_cons pe_int pa_nil)))) (pa_cons (pe_g C_law_digit (hr.mono (by omega)) px0 (pa_cons (pv 0) (pa_cons (pe_op op_powU pe_int pe_int) pa_nil))) (pa_cons (pe_op op_addU (pe_op op_powU pe_int pe_int) (pe_g C_law_digit (hr.mono (by omega)) px0 (pa_cons (pv 0) (pa_cons pe_int pa_nil)))) pa_nil))))))
      (pss_one (ps_ret (pe_ix ix_seq (pv 2) (pe_op op_subU (pv 1) pe_int) (fun _ _ => rfl))))))), ?_⟩
  walk_at "rd"
  refine ⟨p, 8, rfl, hP, by decide, by decide, fun w1 H1 w0 w8 P1 e1 => ?_⟩
  walk_at "rd"
  refine br (fun hw => ?_) fun hw => ?_
  · walk_at "rd"
    refine k_lst fun l H2 n2 _ x2 h2 => ?_
    walk_at "rd"
    have fin : ∀ i : Int, i.natAbs ≤ 10 ^ 21 → Q (.int i) H2 := fun i hi => q i H2 hi (P1.ex x2) (e1.trans (x2.em p))
    rcases (show w1 = 0 ∨ w1 = 1 ∨ w1 = 2 ∨ w1 = 3 by omega) with rfl | rfl | rfl | rfl
    · exact y_ixL (.of h2) rfl (fin _ (by decide))
    · exact y_ixL (.of h2) rfl (fin _ (by decide))
    · exact y_ixL (.of h2) rfl (fin _ (by decide))
    · exact y_ixL (.of h2) rfl (fin _ (by decide))
  · walk_at "rd"
    refine ⟨p, 10, rfl, P1, by decide, by decide, fun a H2 a0 a1 P2 e2 => ?_⟩
    walk_at "rd"
    refine ⟨p, 100, rfl, P2, by decide, by decide, fun b H3 b0 b1 P3 e3 => ?_⟩
    walk_at "rd"
    refine ⟨p, 100000, rfl, P3, by decide, by decide, fun c H4 c0 c1 P4 e4 => ?_⟩
    walk_at "rd"
    refine ⟨p, 1000, rfl, P4, by decide, by decide, fun d H5 d0 d1 P5 e5 => ?_⟩
    walk_at "rd"
    refine k_lst fun l H6 n6 _ x6 h6 => ?_
    walk_at "rd"
    have fin : ∀ i : Int, i.natAbs ≤ 10 ^ 21 → Q (.int i) H6 := fun i hi => q i H6 hi (P5.ex x6) ((e1.trans (e2.trans (e3.trans (e4.trans e5)))).trans (x6.em p))
    have p20 : (10 : Int) ^ (20 : Int).toNat = 100000000000000000000 := by decide
    rcases (show w1 = 4 ∨ w1 = 5 ∨ w1 = 6 ∨ w1 = 7 by omega) with rfl | rfl | rfl | rfl
    · exact y_ixL (.of h6) rfl (fin _ (by omega))
    · exact y_ixL (.of h6) rfl (fin _ (by omega))
    · exact y_ixL (.of h6) rfl (fin _ (by omega))
    · exact y_ixL (.of h6) rfl (fin _ (by rw [p20]; omega))
end

section
variable {P : Program} {w : World} {K : PySem.W.Frag} {mg : Str → Option Value} {base : Heap} (nd : base.NoDigits)
include nd
theorem ok_pick (T : Tx K mg w) (C_law_digit : Cal P w K mg base 1 "_law_digit" s_law_digit P_law_digit sp_digit) : Cal P w K mg base 2 "_law_pick" s_law_pick P_law_pick (sp_pick K) := by
  refine T.d_law_pick.ok sc_law_pick (fun vs H Q E h => ?_) (fun f cdv A outer s H vs Q E hr h => ?_)
  · obtain ⟨p, l, xs, rfl, _⟩ := h; rfl
  obtain ⟨p, l, xs, rfl, hP, hS, nl, h0, h1, q⟩ := h
  refine ⟨_, PSs.nox (pss_one (ps_ret (pe_ix ix_seq (pv 1) (pe_g C_law_digit (hr.mono (by omega)) px0 (pa_cons (pv 0) (pa_cons (pe_callB call_lenU (by rfl) T.n_len (by decide +kernel) (pa_cons (pv 1) pa_nil)) pa_nil))) (fun _ _ => rfl)))), ?_⟩
  walk_at "rd"
  refine y_lenL hS ?_
  walk_at "rd"
  refine ⟨p, _, rfl, hP, by omega, by omega, fun d H1 d0 d1 P1 e1 => ?_⟩
  obtain ⟨i, rfl⟩ : ∃ i : Nat, d = (i : Nat) := ⟨d.toNat, by omega⟩
  have hd : i < xs.length := by omega
  exact y_ixL (v := xs[i]) (seq_em hS nl e1) (atI_nat (List.getElem?_eq_getElem hd)) (q _ H1 (List.getElem_mem hd) P1 e1)
end

section
variable {P : Program} {w : World} {K : PySem.W.Frag} {mg : Str → Option Value} {base : Heap} (nd : base.NoDigits)
include nd
theorem ok_datumL (T : Tx K mg w) (C_law_digit : Cal P w K mg base 1 "_law_digit" s_law_digit P_law_digit sp_digit) (C_law_int : Cal P w K mg base 2 "_law_int" s_law_int P_law_int sp_int) : ∀ n, Cal P w K mg base (n + 3) "_law_datum" s_law_datum P_law_datum (sp_ldatumL K n)
  | 0 => (T.d_law_datum.never fun vs H Q E h => by obtain ⟨p, m, _, _, z, _⟩ := h; omega).up (by omega)
  | n + 1 => by
    have C_law_datum := ok_datumL T C_law_digit C_law_int n
    refine T.d_law_datum.ok sc_law_datum (fun vs H Q E h => ?_) (fun f cdv A outer s H vs Q E hr h => ?_)
    · obtain ⟨p, m, rfl, _⟩ := h; rfl
    obtain ⟨p, m, rfl, hP, hm, q⟩ := h
    refine ⟨_, PSs.nox (pss_cons (ps_if (PW.pt (pw_or (pt_cmpR (op_eqU hr) (pv 1) pe_int (nomark _)) (pw_or1 (pt_cmpR op_gtU (pe_g C_law_digit (hr.mono (by omega)) px0 (pa_cons (pv 0) (pa_cons pe_int pa_nil))) pe_int (nomark _))))) (pss_one (ps_ret (pe_g C_law_int (hr.mono (by omega)) px0 (pa_cons (pv 0) pa_nil)))) pss_nil)
      (pss_one (ps_ret (pe_callTy call_tupleU (by rfl) T.n_tuple (by decide +kernel) (pa_cons (pe_lc (own := [("_law_k", 2)]) rfl sc_law_datum.nd (pi_range1 rfl T.n_range (pa_cons (pe_g C_law_digit (hr.mono (by omega)) px0 (pa_cons (pv 0) (pa_cons pe_int pa_nil))) pa_nil)) (blkOk_by (own := [("_law_k", 2)]) (N := N_law_datum) (sc := defScope s_law_datum) (by decide +kernel)) (fun _ _ _ _ _ => (pg_name (i := 2) sc_law_datum.nd rfl (Or.inl rfl))) (fun _ _ _ _ _ => pts_nil) (fun _ _ _ _ _ => (pe_g C_law_datum (hr.mono (by omega)) px0 (pa_cons (pv 0) (pa_cons (pe_op op_subU (pv 1) pe_int) pa_nil))))) pa_nil))))), ?_⟩
    have leaf : ∀ (i : Int) H', i.natAbs ≤ 10 ^ 21 → Pt H' p → Em p H H' → Q (.int i) H' := fun i H' hi P1 e1 => q (.int i) (.int i) H' (.int i) (lv_int hi m) P1 e1
    walk_at "rd"
    refine br (fun h0 => ?_) fun h0 => ?_
    · walk_at "rd"
      exact ⟨p, rfl, hP, leaf⟩
    · walk_at "rd"
      refine ⟨p, 3, rfl, hP, by decide, by decide, fun w1 H1 w0 w3 P1 e1 => ?_⟩
      walk_at "rd"
      refine br (fun hw => ?_) fun hw => ?_
      · walk_at "rd"
        exact ⟨p, rfl, P1, fun i H' hi P2 e2 => leaf i H' hi P2 (e1.trans e2)⟩
      · walk_at "rd"
        refine ⟨p, _, rfl, P1, by decide, by decide, fun c H2 c0 c5 P2 e2 => ?_⟩
        walk_at "rd"
        refine i_r1 (by omega) (by omega) ?_
        obtain ⟨m, rfl⟩ : ∃ k, m = k + 1 := ⟨m - 1, by omega⟩
        have hm1 : ((m + 1 : Nat) : Int) - 1 = ((m : Nat) : Int) := by omega
        refine k_lcPot (fun y H' => ∃ d, Fl K H' y d ∧ lv m d) (fun y H H' e ⟨d, h1, h2⟩ => ⟨d, h1.mono e, h2⟩) P2 (by omega) (fun j H3 Q1 hj e3 P3 hq => ?_) (fun x => rfl) fun D ys H3 nD e3 P3 hD hl hy => ?_
        · walk_at "rd"
          rw [hm1]
          exact ⟨p, m, rfl, P3, by omega, fun v d H4 hv hg P4 e4 => hq v H4 e4 P4 ⟨d, hv, hg⟩⟩
        · walk_at "rd"
          obtain ⟨ds, hF, hG⟩ := fl_all hy
          refine y_tupL (.of hD) fun l H4 nl e4 h4 => ?_
          have hl2 := hF.length
          exact q (.ref l) (.tuple ds) H4 (.tup (.of h4) (hF.mono e4.et)) (.inr ⟨ds, rfl, by omega, hG⟩) (P3.ex e4) ((e1.trans (e2.trans e3)).trans (e4.em p))
end

def sp_larity : Sp := fun vs H Q _ => ∃ f : Fn, vs = [.str f.nm] ∧ ∀ a H', Ex H H' → H' a = some (.tup [.int (f.lo : Nat), .int (f.hi : Nat)]) → Q (.ref a) H'
section
variable {P : Program} {w : World} {K : PySem.W.Frag} {mg : Str → Option Value} {base : Heap} (nd : base.NoDigits)
include nd
theorem ok_larity (T : Tx K mg w) : Cal P w K mg base 1 "_law_arity" s_law_arity P_law_arity sp_larity := by
  refine T.d_law_arity.ok sc_law_arity (fun vs H Q E h => ?_) (fun f cdv A outer s H vs Q E hr h => ?_)
  · obtain ⟨f, rfl, _⟩ := h; rfl
  obtain ⟨f, rfl, q⟩ := h
  refine ⟨_, PSs.nox (pss_cons (ps_if (pt_cmpR (op_inU hr) (pv 0) (pe_tup (pa_cons pe_str (pa_cons pe_str pa_nil))) (by rfl)) (pss_one (ps_ret (pe_tup (pa_cons pe_int (pa_cons pe_int pa_nil))))) pss_nil)
      (pss_cons (ps_if (pt_cmpR (op_inU hr) (pv 0) (pe_tup (pa_cons pe_str (pa_cons pe_str pa_nil))) (by rfl)) (pss_one (ps_ret (pe_tup (pa_cons pe_int (pa_cons pe_int pa_nil))))) pss_nil)
      (pss_one (ps_ret (pe_ifExp (pt_cmpR (op_inU hr) (pv 0) (pe_tup (pa_cons pe_str (pa_cons pe_str (pa_cons pe_str (pa_cons pe_str (pa_cons pe_str pa_nil)))))) (by rfl)) (pe_tup (pa_cons pe_int (pa_cons pe_int pa_nil))) (pe_tup (pa_cons pe_int (pa_cons pe_int pa_nil)))))))), ?_⟩
  have e1 : inV (.str f.nm) [.str (Str.ofString "pack"), .str (Str.ofString "join")] = decide (f.lo = 0) := by cases f <;> decide +kernel
  have e2 : inV (.str f.nm) [.str (Str.ofString "min"), .str (Str.ofString "max")] = decide (f = .min ∨ f = .max) := by cases f <;> decide +kernel
  have e3 : inV (.str f.nm) [.str (Str.ofString "neg"), .str (Str.ofString "length"), .str (Str.ofString "sort"), .str (Str.ofString "total"), .str (Str.ofString "turn")] = decide (f.lo = 1 ∧ f.hi = 1) := by cases f <;> decide +kernel
  walk_at "rd"
  refine k_tup fun t1 H1 n1 x1 h1 => ?_
  walk_at "rd"
  refine .inl ⟨t1, _, rfl, .inr (.of h1), rfl, rfl, ?_⟩
  rw [if_neg Bool.false_ne_true, e1]
  walk_at "rd"
  refine br (fun c1 => ?_) fun c1 => ?_
  · walk_at "rd"
    refine k_tup fun t2 H2 n2 x2 h2 => ?_
    refine q t2 H2 (x1.trans x2) ?_
    rw [h2]
    have : f.hi = 6 := by revert c1; cases f <;> decide
    rw [c1, this]
    rfl
  · walk_at "rd"
    refine k_tup fun t2 H2 n2 x2 h2 => ?_
    walk_at "rd"
    refine .inl ⟨t2, _, rfl, .inr (.of h2), rfl, rfl, ?_⟩
    rw [if_neg Bool.false_ne_true, e2]
    walk_at "rd"
    refine br (fun c2 => ?_) fun c2 => ?_
    · walk_at "rd"
      refine k_tup fun t3 H3 n3 x3 h3 => ?_
      refine q t3 H3 (x1.trans (x2.trans x3)) ?_
      rw [h3]
      rcases c2 with rfl | rfl <;> rfl
    · walk_at "rd"
      refine k_tup fun t3 H3 n3 x3 h3 => ?_
      walk_at "rd"
      refine .inl ⟨t3, _, rfl, .inr (.of h3), rfl, rfl, ?_⟩
      rw [if_neg Bool.false_ne_true, e3]
      walk_at "rd"
      refine br (fun c3 => ?_) fun c3 => ?_
      · walk_at "rd"
        refine k_tup fun t4 H4 n4 x4 h4 => ?_
        refine q t4 H4 (x1.trans (x2.trans (x3.trans x4))) ?_
        rw [h4, c3.1, c3.2]
        rfl
      · walk_at "rd"
        refine k_tup fun t4 H4 n4 x4 h4 => ?_
        refine q t4 H4 (x1.trans (x2.trans (x3.trans x4))) ?_
        have : f.lo = 2 ∧ f.hi = 2 := by revert c1 c2 c3; cases f <;> decide
        rw [h4, this.1, this.2]
        rfl
end

def sp_lwords : Sp := fun vs H Q _ => vs = [] ∧ ∀ a H', H a = none → Ex H H' → H' a = some (.lst namesV) → Q (.ref a) H'
section
variable {P : Program} {w : World} {K : PySem.W.Frag} {mg : Str → Option Value} {base : Heap} (nd : base.NoDigits)
include nd
theorem ok_lwords (T : Tx K mg w) : Cal P w K mg base 1 "_law_words" s_law_words P_law_words sp_lwords := by
  refine T.d_law_words.ok sc_law_words (fun vs H Q E h => ?_) (fun f cdv A outer s H vs Q E hr h => ?_)
  · obtain ⟨rfl, _⟩ := h; rfl
  obtain ⟨rfl, q⟩ := h
  refine ⟨_, PSs.nox (pss_one (ps_ret (pe_lstN (pa_cons pe_str (pa_cons pe_str (pa_cons pe_str (pa_cons pe_str (pa_cons pe_str (pa_cons pe_str (pa_cons pe_str (pa_cons pe_str (pa_cons pe_str (pa_cons pe_str (pa_cons pe_str (pa_cons pe_str (pa_cons pe_str (pa_cons pe_str (pa_cons pe_str (pa_cons pe_str (pa_cons pe_str (pa_cons pe_str pa_nil))))))))))))))))))))), ?_⟩
  walk_at "rd"
  refine k_lst fun l1 H1 n1 _ x1 h1 => ?_
  exact q l1 H1 n1 x1 h1
end

section
variable {P : Program} {w : World} {K : PySem.W.Frag} {mg : Str → Option Value} {base : Heap} (nd : base.NoDigits)
include nd
theorem ok_lsize (T : Tx K mg w) : ∀ n, Cal P w K mg base (n + 1) "_law_size" s_law_size P_law_size (sp_lsizeW K n)
  | 0 => (T.d_law_size.never fun vs H Q E h => by obtain ⟨v, d, _, _, _, z, _⟩ := h; omega).up (by omega)
  | n + 1 => by
    have C_law_size := ok_lsize T n
    refine T.d_law_size.ok sc_law_size (fun vs H Q E h => ?_) (fun f cdv A outer s H vs Q E hr h => ?_)
    · obtain ⟨v, d, rfl, _⟩ := h; rfl
    obtain ⟨v, d, rfl, hd, hg, hn, h60, q⟩ := h
    refine ⟨_, PSs.nox (pss_cons (ps_if (pt_cmpR (op_eqU hr) (pv 0) pe_str (nomark _)) (pss_one (ps_ret pe_int)) pss_nil)
      (pss_cons (ps_if (pt_val (pe_callB call_isiU (by rfl) T.n_isinstance (by decide +kernel) (pa_cons (pv 0) (pa_cons (pe_bltn (v := .ty "int") (u := .type "int") (by rfl) T.n_int (by decide +kernel) rfl) pa_nil)))) (pss_one (ps_ret (pe_op op_addU (pe_callB call_lenU (by rfl) T.n_len (by decide +kernel) (pa_cons (pe_callTy (call_strU nd hr) (by rfl) T.n_str (by decide +kernel) (pa_cons (pe_callB call_absU (by rfl) T.n_abs (by decide +kernel) (pa_cons (pv 0) pa_nil)) pa_nil)) pa_nil)) (pe_callTy (call_intU nd) (by rfl) T.n_int (by decide +kernel) (pa_cons (pe_cmpR op_ltU (pv 0) pe_int (nomark _)) pa_nil))))) pss_nil)
      (pss_one (ps_ret (pe_op op_addU pe_int (pe_callB (call_sumU rfl) (by rfl) T.n_sum (by decide +kernel) (pa_cons (pe_lc (own := [("_law_each", 1)]) rfl sc_law_size.nd (pi_seq (pv 0)) (blkOk_by (own := [("_law_each", 1)]) (N := N_law_size) (sc := defScope s_law_size) (by decide +kernel)) (fun _ _ _ _ _ => (pg_name (i := 1) sc_law_size.nd rfl (Or.inl rfl))) (fun _ _ _ _ _ => pts_nil) (fun _ _ _ _ _ => (pe_g C_law_size (hr.mono (by omega)) px0 (pa_cons (pv 1) pa_nil)))) pa_nil))))))), ?_⟩
    cases hF : isF d with
    | true =>
      have e := isF_inv hF
      subst e
      cases hd
      walk_at "rd"
      refine ifY rfl ?_
      walk_at "rd"
      exact q H (Ex.refl H)
    | false =>
    rw [hF, Bool.false_or] at hg
    cases d with
    | int i =>
      cases hd
      walk_at "rd"
      refine y_eqFaultW (.int i) hg (Nat.zero_le _) ?_
      walk_at "rd"
      refine y_isi (.int i) (b := true) rfl ?_
      walk_at "rd"
      have hm' : i.natAbs < DL := by rw [gwD, decide_eq_true_eq] at hg; exact hg
      refine y_str (by rw [abs_if, Int.natAbs_natCast]; exact hm') ?_
      walk_at "rd"
      refine y_lenS ?_ ?_
      · rw [abs_if, num_S, S_len]
        have := int_digits hm'
        exact Nat.le_trans this (by decide)
      walk_at "rd"
      exact q H (Ex.refl H)
    | tuple ds =>
      cases hd with | tup hS hA =>
      walk_at "rd"
      refine y_eqFaultW (.tup hS hA) hg h60 ?_
      walk_at "rd"
      refine y_isi (Fl.dt (.tup hS hA)) (b := false) rfl ?_
      walk_at "rd"
      rw [gwD, Bool.and_eq_true, decide_eq_true_eq] at hg
      have hl := hA.length
      refine i_T hS ?_
      refine k_lcFl (fun d => .int (szD d)) hS hA (by omega) (fun x d H1 Q1 hmm e hx hq => ?_) (fun x => rfl) fun D H2 nD e hD => ?_
      · walk_at "rd"
        exact ⟨x, d, rfl, hx, by rw [gwL_mem hg.2 hmm, Bool.or_true], tdp_tup hn hmm, Nat.le_of_lt (tdp_tup (Nat.lt_succ_of_le h60) hmm), hq⟩
      · walk_at "rd"
        refine y_sumL (ns := ds.map szD) (.of (by rw [hD, List.map_map]; rfl)) ?_
        walk_at "rd"
        have z := q H2 e
        rw [szD, szL_sum] at z
        exact z
    | none => simp [gwD] at hg
    | bool b => simp [gwD] at hg
    | str x => simp [gwD] at hg
    | list x => simp [gwD] at hg
    | dict x => simp [gwD] at hg
theorem ok_ldeep (T : Tx K mg w) : ∀ n, Cal P w K mg base (n + 1) "_law_deep" s_law_deep P_law_deep (sp_ldeepW K n)
  | 0 => (T.d_law_deep.never fun vs H Q E h => by obtain ⟨v, d, _, _, _, z, _⟩ := h; omega).up (by omega)
  | n + 1 => by
    have C_law_deep := ok_ldeep T n
    refine T.d_law_deep.ok sc_law_deep (fun vs H Q E h => ?_) (fun f cdv A outer s H vs Q E hr h => ?_)
    · obtain ⟨v, d, rfl, _⟩ := h; rfl
    obtain ⟨v, d, rfl, hd, hg, hn, q⟩ := h
    refine ⟨_, PSs.nox (pss_cons (ps_if (pt_val (pe_callB call_isiU (by rfl) T.n_isinstance (by decide +kernel) (pa_cons (pv 0) (pa_cons (pe_bltn (v := .ty "int") (u := .type "int") (by rfl) T.n_int (by decide +kernel) rfl) pa_nil)))) (pss_one (ps_ret pe_int)) pss_nil)
      (pss_one (ps_ret (pe_op op_addU pe_int (pe_callB (call_maxU rfl) (by rfl) T.n_max (by decide +kernel) (pa_cons (pe_op op_addU (pe_lstN (pa_cons pe_int pa_nil)) (pe_lc (own := [("_law_each", 1)]) rfl sc_law_deep.nd (pi_seq (pv 0)) (blkOk_by (own := [("_law_each", 1)]) (N := N_law_deep) (sc := defScope s_law_deep) (by decide +kernel)) (fun _ _ _ _ _ => (pg_name (i := 1) sc_law_deep.nd rfl (Or.inl rfl))) (fun _ _ _ _ _ => pts_nil) (fun _ _ _ _ _ => (pe_g C_law_deep (hr.mono (by omega)) px0 (pa_cons (pv 1) pa_nil))))) pa_nil)))))), ?_⟩
    cases d with
    | int i =>
      cases hd
      walk_at "rd"
      refine y_isi (.int i) (b := true) rfl ?_
      walk_at "rd"
      exact q H (Ex.refl H)
    | tuple ds =>
      cases hd with | tup hS hA =>
      walk_at "rd"
      refine y_isi (Fl.dt (.tup hS hA)) (b := false) rfl ?_
      walk_at "rd"
      rw [gwD, Bool.and_eq_true, decide_eq_true_eq] at hg
      have hl := hA.length
      refine k_lst fun Z H1 nZ _ e1 hZ => ?_
      walk_at "rd"
      refine i_T (e1.st hS) ?_
      refine k_lcFl (fun d => .int (tdp d : Nat)) (e1.st hS) (hA.mono e1.et) (by omega) (fun x d H2 Q1 hmm e hx hq => ?_) (fun x => rfl) fun D H2 nD e hD => ?_
      · walk_at "rd"
        exact ⟨x, d, rfl, hx, gwL_mem hg.2 hmm, tdp_tup hn hmm, hq⟩
      · walk_at "rd"
        refine y_addL (e _ _ hZ) hD (by have h2 : sizeLine = 16777216 := rfl; simp only [List.length_singleton, List.length_map]; omega) fun L H3 nL e3 hL => ?_
        walk_at "rd"
        refine y_maxL (ns := 0 :: ds.map fun d => (tdp d : Int)) (.of (by rw [hL, List.map_cons, List.map_map]; rfl)) (Nat.succ_pos _) fun m m1 m2 => ?_
        walk_at "rd"
        have z := q H3 (e1.trans (e.trans e3))
        rw [tdpL_max0 m1 m2]
        rw [tdp] at z
        have e2 : ((1 + tdpL ds : Nat) : Int) = 1 + (tdpL ds : Int) := by omega
        rw [e2] at z
        exact z
    | none => simp [gwD] at hg
    | bool b => simp [gwD] at hg
    | str x => simp [gwD] at hg
    | list x => simp [gwD] at hg
    | dict x => simp [gwD] at hg
theorem ok_lfits (T : Tx K mg w) (C_size : ∀ n, Cal P w K mg base (n + 1) "_law_size" s_law_size P_law_size (sp_lsizeW K n)) (C_deep : ∀ n, Cal P w K mg base (n + 1) "_law_deep" s_law_deep P_law_deep (sp_ldeepW K n)) : ∀ n, Cal P w K mg base (n + 2) "_law_fits" s_law_fits P_law_fits (sp_lfitsW K n)
  | 0 => (T.d_law_fits.never fun vs H Q E h => by obtain ⟨v, d, _, _, _, z, _⟩ := h; omega).up (by omega)
  | n + 1 => by
    have C_law_fits := ok_lfits T C_size C_deep n
    have C_law_size := C_size (n + 1)
    have C_law_deep := C_deep (n + 1)
    refine T.d_law_fits.ok sc_law_fits (fun vs H Q E h => ?_) (fun f cdv A outer s H vs Q E hr h => ?_)
    · obtain ⟨v, d, rfl, _⟩ := h; rfl
    obtain ⟨v, d, rfl, hd, hg, hn, h60, q⟩ := h
    refine ⟨_, PSs.nox (pss_cons (ps_if (pt_val (pe_callB call_isiU (by rfl) T.n_isinstance (by decide +kernel) (pa_cons (pv 0) (pa_cons (pe_bltn (v := .ty "int") (u := .type "int") (by rfl) T.n_int (by decide +kernel) rfl) pa_nil)))) (pss_one (ps_ret (pe_cmpR op_leU (pe_g C_law_size (hr.mono (by omega)) px0 (pa_cons (pv 0) pa_nil)) pe_int (nomark _)))) pss_nil)
      (pss_cons (ps_if (PW.pt (pw_or (pt_cmpR op_gtU (pe_callB call_lenU (by rfl) T.n_len (by decide +kernel) (pa_cons (pv 0) pa_nil)) pe_int (nomark _)) (pw_or1 (pt_not (pt_val (pe_callB (cr_all rfl) (by rfl) T.n_all (by decide +kernel) (pa_cons (pe_lc (own := [("_law_each", 1)]) rfl sc_law_fits.nd (pi_seq (pv 0)) (blkOk_by (own := [("_law_each", 1)]) (N := N_law_fits) (sc := defScope s_law_fits) (by decide +kernel)) (fun _ _ _ _ _ => (pg_name (i := 1) sc_law_fits.nd rfl (Or.inl rfl))) (fun _ _ _ _ _ => pts_nil) (fun _ _ _ _ _ => (pe_g C_law_fits (hr.mono (by omega)) px0 (pa_cons (pv 1) pa_nil)))) pa_nil))))))) (pss_one (ps_ret pe_bl)) pss_nil)
      (pss_one (ps_ret (pe_and (pe_cmpR op_leU (pe_g C_law_deep (hr.mono (by omega)) px0 (pa_cons (pv 0) pa_nil)) pe_int (nomark _)) (pe_one (pe_cmpR op_leU (pe_g C_law_size (hr.mono (by omega)) px0 (pa_cons (pv 0) pa_nil)) pe_int (nomark _)))))))), ?_⟩
    cases d with
    | int i =>
      cases hd
      walk_at "rd"
      refine y_isi (.int i) (b := true) rfl ?_
      walk_at "rd"
      refine ⟨.int i, .int i, rfl, .int i, by rw [hg, Bool.or_true], hn, h60, fun H1 e1 => ?_⟩
      walk_at "rd"
      exact q H1 e1
    | tuple ds =>
      have hg0 := hg
      cases hd with | tup hS hA =>
      walk_at "rd"
      refine y_isi (Fl.dt (.tup hS hA)) (b := false) rfl ?_
      walk_at "rd"
      rw [gwD, Bool.and_eq_true, decide_eq_true_eq] at hg
      have hl := hA.length
      refine y_lenT hS ?_
      walk_at "rd"
      refine br (fun h40 => ?_) fun h40 => ?_
      · walk_at "rd"
        have z := q H (Ex.refl H)
        rw [ftD, decide_eq_false (by omega : ¬ ds.length ≤ 40), Bool.false_and, Bool.false_and] at z
        exact z
      · walk_at "rd"
        refine i_T hS ?_
        refine k_lcFl (fun d => .bl (ftD d)) hS hA (by omega) (fun x d H1 Q1 hmm e hx hq => ?_) (fun x => rfl) fun D H2 nD e hD => ?_
        · walk_at "rd"
          exact ⟨x, d, rfl, hx, gwL_mem hg.2 hmm, tdp_tup hn hmm, Nat.le_of_lt (tdp_tup (Nat.lt_succ_of_le h60) hmm), hq⟩
        · walk_at "rd"
          refine y_all (bs := ds.map ftD) (.of (by rw [hD, List.map_map]; rfl)) ?_
          rw [← ftL_all]
          walk_at "rd"
          refine brBN (fun hf => ?_) fun hf => ?_
          · walk_at "rd"
            have z := q H2 e
            rw [ftD, hf, Bool.and_false, Bool.false_and] at z
            exact z
          · walk_at "rd"
            refine ⟨_, .tuple ds, rfl, .tup (e.st hS) (hA.mono e.et), hg0, hn, fun H3 e3 => ?_⟩
            walk_at "rd"
            have fin : ∀ H', Ex H H' → Q (.bl (decide (tdpL ds ≤ 3) && decide (1 + szL ds ≤ 1000))) H' := fun H' e' => by
              have z := q H' e'
              rw [ftD, hf, decide_eq_true (by omega : ds.length ≤ 40), Bool.true_and, Bool.true_and] at z
              exact z
            refine br (fun h4 => ?_) fun h4 => ?_
            · rw [tdp] at h4
              walk_at "rd"
              refine ⟨_, .tuple ds, rfl, .tup ((e.trans e3).st hS) (hA.mono (e.trans e3).et), by rw [hg0, Bool.or_true], hn, h60, fun H4 e4 => ?_⟩
              walk_at "rd"
              have z := fin H4 (e.trans (e3.trans e4))
              rw [decide_eq_true (by omega : tdpL ds ≤ 3), Bool.true_and] at z
              rw [szD]
              exact z
            · rw [tdp] at h4
              have z := fin H3 (e.trans e3)
              rw [decide_eq_false (by omega : ¬ tdpL ds ≤ 3), Bool.false_and] at z
              exact z
    | none => simp [gwD] at hg
    | bool b => simp [gwD] at hg
    | str x => simp [gwD] at hg
    | list x => simp [gwD] at hg
    | dict x => simp [gwD] at hg
end

end My
end

section
set_option Elab.async false
set_option linter.all false
set_option maxRecDepth 100000
set_option maxHeartbeats 4000000
namespace My
open PySem PySem.Spec PyProof.Rows L2 Ls SX LamX
local macro_rules | `(tactic| walk_at "rd1") => `(tactic| (first | ((with_reducible refine' Ls.r_var ?hV ?_); (case hV => exact rfl)) | (with_reducible refine Ls.r_c ?_) | (with_reducible refine Ls.r_op ?_) | (with_reducible refine Ls.r_un ?_) | (with_reducible refine Ls.r_nil ?_) | (with_reducible refine Ls.r_cons ?_) | (with_reducible refine Ls.r_cb ?_) | (with_reducible refine Ls.r_ckw ?_) | (with_reducible refine Ls.r_cal ?_) | (with_reducible refine Ls.r_calK ?_) | (with_reducible refine Ls.r_tup ?_) | (with_reducible refine Ls.r_lst ?_) | (with_reducible refine Ls.r_if ?_) | (with_reducible refine Ls.r_andV ?_) | (with_reducible refine Ls.r_orV ?_) | (with_reducible refine Ls.r_notV ?_) | (with_reducible refine Ls.r_chain ?_) | (with_reducible refine Ls.r_sl ?_) | (with_reducible refine Ls.r_nopart ?_) | (with_reducible refine Ls.r_part ?_) | (with_reducible refine Ls.k_part ?_) | (with_reducible refine Ls.r_test ?_) | (with_reducible refine Ls.r_B ?_) | (with_reducible refine Ls.k_B ?_) | (with_reducible refine Ls.r_not ?_) | (with_reducible refine Ls.r_and ?_) | (with_reducible refine Ls.r_or ?_) | (with_reducible refine Ls.r_seq ?_) | (with_reducible refine Ls.r_ifS ?_) | (with_reducible refine Ls.r_next ?_) | (with_reducible refine Ls.r_brk ?_) | (with_reducible refine Ls.r_cont ?_) | (with_reducible refine Ls.r_ret ?_) | (with_reducible refine Ls.r_retN ?_) | (with_reducible refine Ls.r_drop ?_) | (with_reducible refine Ls.r_asg ?_) | (with_reducible refine Ls.r_par ?_) | (with_reducible refine Ls.k_par ?_) | ((with_reducible refine' Ls.r_aug ?hV ?_); (case hV => exact rfl)) | (with_reducible refine Ls.y_ip ?_) | (with_reducible refine Ls.g_name ?_) | (with_reducible refine Ls.g_nil ?_) | (with_reducible refine Ls.g_cons ?_) | (with_reducible refine Ls.g_sub ?_) | (with_reducible refine Ls.e_end ?_) | (with_reducible refine Ls.e_endr ?_) | (with_reducible refine Ls.e_nx ?_) | (with_reducible refine Ls.e_rt ?_) | (with_reducible refine Ls.e_bk ?_) | (with_reducible refine Ls.e_ct ?_) | (with_reducible refine Ls.r_for ?_) | (with_reducible refine Ls.i_seq ?_) | (with_reducible refine Ls.r_xi ?_) | (with_reducible refine Ls.r_xo ?_) | (with_reducible refine Ls.r_mk ?_) | (with_reducible refine Ls.r_xf ?_) | (with_reducible refine Ls.i_enum ?_) | (with_reducible refine Ls.i_rng1 ?_) | (with_reducible refine Ls.r_m1 ?_) | (with_reducible refine Ls.r_m0 ?_) | (with_reducible refine Ls.k_isS ?_) | (with_reducible refine Ls.r_bm ?_) | (with_reducible refine Ls.r_lc ?_) | (with_reducible refine Ls.y_add ?_) | (with_reducible refine Ls.y_sub ?_) | (with_reducible refine Ls.y_neg ?_) | (with_reducible refine Ls.y_lt ?_) | (with_reducible refine Ls.y_le ?_) | (with_reducible refine Ls.y_gt ?_) | (with_reducible refine Ls.y_ge ?_) | (with_reducible refine Ls.y_eqI ?_) | (with_reducible refine Ls.y_eqS ?_) | (with_reducible refine Ls.y_neI ?_) | (with_reducible refine Ls.y_neS ?_) | (with_reducible refine Ls.y_isNo ?_) | (with_reducible refine Ls.y_isntNo ?_) | (with_reducible refine Ls.y_abs ?_) | (with_reducible refine Ls.y_max2 ?_) | (with_reducible refine Ls.y_min2 ?_) | (with_reducible refine Ls.y_intI ?_) | (with_reducible refine Ls.y_intB ?_) | ((with_reducible refine' Ls.y_ixL ?hS ?hA ?_); (case hS => first | assumption | exact L2.SqL.of (by assumption)); (case hA => rfl)) | ((with_reducible refine' Ls.y_ixT ?hS ?hA ?_); (case hS => first | assumption | exact L2.SqT.of (by assumption)); (case hA => rfl)) | ((with_reducible refine' Ls.y_mod ?hC ?_); (case hC => first | decide | omega)) | ((with_reducible refine' Ls.y_fdiv ?hC ?_); (case hC => first | decide | (constructor <;> omega))) | ((with_reducible refine' Ls.y_pow ?hC ?_); (case hC => exact ⟨by decide, by decide, by decide⟩)) | ((with_reducible refine' Ls.y_mul ?hC ?_); (case hC => first | exact .inr ⟨by decide, by decide⟩ | exact .inl ⟨by decide, by decide⟩ | exact .inr ⟨by omega, by omega⟩ | exact .inl ⟨by omega, by omega⟩)) | (with_reducible refine L2.iteT ?_) | (with_reducible refine L2.iteF ?_) | (with_reducible refine Ls.iteNF ?_) | (with_reducible refine Ls.iteNT ?_)))
local macro_rules | `(tactic| walk_at "rd") => `(tactic| (repeat walk_at "rd1"))
local macro_rules | `(tactic| walk_at "lits") => `(tactic| (first | exact Ls.lit_nil | (refine' Ls.lit_cons ?hL ?hR; (case hL => walk_at "lits"); (case hR => walk_at "lits")) | exact Ls.lit_non | exact Ls.lit_bl | exact Ls.lit_int | exact Ls.lit_str | exact Ls.lit_neg | exact Ls.lit_dn | exact Ls.lit_d1 | exact Ls.lit_d1s | (refine' Ls.lit_tup ?hA ?hZ; (case hA => walk_at "lits"); (case hZ => first | decide | simp)) | (refine' Ls.lit_lst ?hA ?hZ; (case hA => walk_at "lits"); (case hZ => first | decide | simp))))

section
variable {P : Program} {w : World} {K : PySem.W.Frag} {mg : Str → Option Value} {base : Heap} (nd : base.NoDigits)
include nd
theorem ok_lglued (T : Tx K mg w) : Cal P w K mg base 1 "_law_glued" s_law_glued P_law_glued (sp_lglued K) := by
  refine T.d_law_glued.ok sc_law_glued (fun vs H Q E h => ?_) (fun f cdv A outer s H vs Q E hr h => ?_)
  · obtain ⟨g, ws, ds, rfl, _⟩ := h; rfl
  obtain ⟨g, ws, ds, rfl, hS, hF, hV, hz, q⟩ := h
  refine ⟨_, PSs.nox (pss_cons (ps_if (PW.pt (pw_or (pt_cmpR op_gtU (pe_callB call_lenU (by rfl) T.n_len (by decide +kernel) (pa_cons (pv 0) pa_nil)) pe_int (nomark _)) (pw_or1 (pt_val (pe_callB (cr_any rfl) (by rfl) T.n_any (by decide +kernel) (pa_cons (pe_lc (own := [("_law_each", 1)]) rfl sc_law_glued.nd (pi_seq (pv 0)) (blkOk_by (own := [("_law_each", 1)]) (N := N_law_glued) (sc := defScope s_law_glued) (by decide +kernel)) (fun _ _ _ _ _ => (pg_name (i := 1) sc_law_glued.nd rfl (Or.inl rfl))) (fun _ _ _ _ _ => pts_nil) (fun _ _ _ _ _ => (pe_callB (id := "isinstance") (r := rIsiU K) call_isiU (by rfl) T.n_isinstance (by decide +kernel) (pa_cons (pv 1) (pa_cons (pe_bltn (v := .ty "int") (u := .type "int") (by rfl) T.n_int (by decide +kernel) rfl) pa_nil))))) pa_nil)))))) (pss_one (ps_ret pe_str)) pss_nil)
      (pss_cons (ps_set (i := 2) sc_law_glued.nd rfl (by first | exact .inl rfl | exact .inr rfl) (pe_tup pa_nil))
      (pss_cons (ps_for PassesOwn.never rfl (pi_seq (pv 0)) (pg_name (i := 1) sc_law_glued.nd rfl (by first | exact .inl rfl | exact .inr rfl)) (pss_one (ps_set (i := 2) sc_law_glued.nd rfl (by first | exact .inl rfl | exact .inr rfl) (pe_op op_addU (pv 2) (pv 1)))))
      (pss_one (ps_ret (pv 2)))))), ?_⟩
  have hl := hF.length
  walk_at "rd"
  refine y_lenL hS ?_
  walk_at "rd"
  refine br (fun h6 => ?_) fun h6 => ?_
  · walk_at "rd"
    refine q _ H (Ex.refl H) ?_
    rw [lawRaw_n fun z => by have := z.1.2; have e : Fn.hi .join = 6 := rfl; omega]
    exact fl_fault
  · walk_at "rd"
    refine i_L hS ?_
    refine k_lcFlL (fun d => .bl (isInt d)) hS hF (by omega) (fun x d H1 Q1 hm e hx hq => ?_) (fun x => rfl) fun D H2 nD e2 hD => ?_
    · walk_at "rd"
      exact y_isIntF hx (isD_V (hV _ hm)) (hq H1 (Ex.refl H1))
    walk_at "rd"
    refine y_any (bs := ds.map isInt) (.of (by rw [hD, List.map_map]; rfl)) ?_
    rw [any_map, no_ints hV]
    walk_at "rd"
    refine brBN (fun hc => ?_) fun hc => ?_
    · walk_at "rd"
      refine q _ H2 e2 ?_
      rw [lawRaw_n fun z => by have := z.2; have e : Fn.check .join ds = ds.all isTup := rfl; rw [e, hc] at this; cases this]
      exact fl_fault
    · walk_at "rd"
      refine k_tup fun t0 H0 n0 e0 h0 => ?_
      walk_at "rd"
      have e20 := e2.trans e0
      refine i_L (e20.sl hS) ?_
      refine k_forL (xs := ws) (fun j σ' H' => Ex H H' ∧ ∃ (a : Addr) (ys : List V) (o : Option V), σ' = [some (.ref g), o, some (.ref a)] ∧ SqT K H' a ys ∧ FlAll K H' ys ((ds.take j).map toL).flatten ∧ ys.length ≤ 40 * j) ⟨e20, t0, [], none, rfl, .of h0, .nil, Nat.le_refl _⟩ (fun j σ' H' _ ⟨e, _⟩ => e.sl hS) ?_ ?_
      · rintro j x σ' H1 hx ⟨e1, a, ys, o, rfl, hA, hY, hz⟩
        obtain ⟨d, hd, hf⟩ := hF.get hx
        have hm := List.mem_of_getElem? hd
        obtain ⟨t, xs, es, rfl, rfl, hT, hE⟩ := fl_tup hf (List.all_eq_true.mp hc d hm)
        obtain ⟨v1, _⟩ := isV_tup (show isV (.tuple es) = true by unfold isV; rw [hV _ hm, Bool.or_true])
        have hle := hE.length
        have hj : j < ds.length := (List.getElem?_eq_some_iff.mp hd).1
        walk_at "rd"
        refine y_addT hA (e1.st hT) (Nat.le_trans (show ys.length + xs.length ≤ 40 * j + 40 by omega) (Nat.le_trans (show 40 * j + 40 ≤ 300 by omega) (by decide))) fun t2 H2 e2 hS2 => ?_
        walk_at "rd"
        refine ⟨e1.trans e2, t2, _, _, rfl, hS2, ?_, by rw [List.length_append]; omega⟩
        rw [List.take_add_one, hd]
        have ee : (List.map toL (ds.take j ++ (some (PyData.tuple es)).toList)).flatten = ((ds.take j).map toL).flatten ++ es := by
          rw [List.map_append, List.flatten_append]
          show _ ++ ([es] : List (List PyData)).flatten = _
          simp
        rw [ee]
        exact (hY.mono e2.et).append (hE.mono (e1.trans e2).et)
      · rintro σ' H1 ⟨e1, a, ys, o, rfl, hA, hY, hz⟩
        walk_at "rd"
        rw [hl, List.take_length] at hY
        refine q _ H1 e1 ?_
        rw [lawRaw_y (f := .join) (Nat.zero_le _) (show ds.length ≤ 6 by omega) hc]
        exact .tup hA hY
theorem ok_lof2 (T : Tx K mg w) : Cal P w K mg base 1 "_law_of_two" s_law_of_two P_law_of_two (sp_lof2 K) := by
  refine T.d_law_of_two.ok sc_law_of_two (fun vs H Q E h => ?_) (fun f cdv A outer s H vs Q E hr h => ?_)
  · obtain ⟨f, a, b, rfl, _⟩ := h; rfl
  obtain ⟨f, a, b, rfl, hf, ha, hb, q⟩ := h
  refine ⟨_, PSs.nox (pss_cons (ps_if (pt_cmpR (op_eqU hr) (pv 0) pe_str (nomark _)) (pss_one (ps_ret (pe_ifExp (pt_cmpR (op_neU hr) (pv 2) pe_int (nomark _)) (pe_op op_fdivU (pv 1) (pv 2)) pe_str))) pss_nil)
      (pss_cons (ps_if (pt_cmpR (op_eqU hr) (pv 0) pe_str (nomark _)) (pss_one (ps_ret (pe_ifExp (pt_cmpR op_ltU (pv 1) (pv 2) (nomark _)) pe_int pe_int))) pss_nil)
      (pss_one (ps_ret (pe_ifExp (pt_cmpR (op_eqU hr) (pv 0) pe_str (nomark _)) (pe_op op_mulU (pv 1) (pv 2)) (pe_ifExp (pt_cmpR (op_eqU hr) (pv 0) pe_str (nomark _)) (pe_op op_addU (pv 1) (pv 2)) (pe_op op_subU (pv 1) (pv 2)))))))), ?_⟩
  have ha2 := dig_bits ha
  have hb2 := dig_bits hb
  cases f with
  | div =>
    walk_at "rd"
    refine ifY (by decide +kernel) ?_
    walk_at "rd"
    refine brN (fun h0 => ?_) fun h0 => ?_
    · walk_at "rd"
      refine y_fdivF ⟨h0, Nat.lt_trans (log2_of (by decide) hb2) (by decide)⟩ ?_
      refine q _ ?_
      rw [lawRaw_y (f := .div) (ds := [.int a, .int b]) (Nat.le_refl 2) (Nat.le_refl 2) (by show (true && !decide (b = 0)) = true; rw [decide_eq_false h0]; rfl)]
      exact .int _
    · walk_at "rd"
      refine q _ ?_
      rw [lawRaw_n (f := .div) fun z => by have z2 : (true && !decide (b = 0)) = true := z.2; rw [decide_eq_true h0] at z2; cases z2]
      exact fl_fault
  | less =>
    walk_at "rd"
    refine ifN (by decide +kernel) ?_
    walk_at "rd"
    refine ifY (by decide +kernel) ?_
    walk_at "rd"
    refine br (fun h0 => ?_) fun h0 => ?_
    · walk_at "rd"
      refine q _ ?_
      rw [lawRaw_y (f := .less) (ds := [.int a, .int b]) (Nat.le_refl 2) (Nat.le_refl 2) rfl, show Fn.raw .less [PyData.int a, PyData.int b] = .int (if a < b then 1 else 0) from rfl, if_pos h0]
      exact .int _
    · walk_at "rd"
      refine q _ ?_
      rw [lawRaw_y (f := .less) (ds := [.int a, .int b]) (Nat.le_refl 2) (Nat.le_refl 2) rfl, show Fn.raw .less [PyData.int a, PyData.int b] = .int (if a < b then 1 else 0) from rfl, if_neg h0]
      exact .int _
  | mul =>
    walk_at "rd"
    refine ifN (by decide +kernel) ?_
    walk_at "rd"
    refine ifN (by decide +kernel) ?_
    walk_at "rd"
    refine ifY (by decide +kernel) ?_
    walk_at "rd"
    exact y_mulW (wide_mul ha2 hb2 (by decide) (by decide) (by decide)) (q _ (by rw [lawRaw_y (f := .mul) (ds := [.int a, .int b]) (Nat.le_refl 2) (Nat.le_refl 2) rfl]; exact .int _))
  | add =>
    walk_at "rd"
    refine ifN (by decide +kernel) ?_
    walk_at "rd"
    refine ifN (by decide +kernel) ?_
    walk_at "rd"
    refine ifN (by decide +kernel) ?_
    walk_at "rd"
    refine ifY (by decide +kernel) ?_
    walk_at "rd"
    exact q _ (by rw [lawRaw_y (f := .add) (ds := [.int a, .int b]) (Nat.le_refl 2) (Nat.le_refl 2) rfl]; exact .int _)
  | sub =>
    walk_at "rd"
    refine ifN (by decide +kernel) ?_
    walk_at "rd"
    refine ifN (by decide +kernel) ?_
    walk_at "rd"
    refine ifN (by decide +kernel) ?_
    walk_at "rd"
    refine ifN (by decide +kernel) ?_
    walk_at "rd"
    exact q _ (by rw [lawRaw_y (f := .sub) (ds := [.int a, .int b]) (Nat.le_refl 2) (Nat.le_refl 2) rfl]; exact .int _)
  | _ => cases hf
end

end My
end

section
set_option Elab.async false
set_option linter.all false
set_option maxRecDepth 100000
set_option maxHeartbeats 4000000
namespace My
open PySem PySem.Spec PyProof.Rows L2 Ls SX LamX
local macro_rules | `(tactic| walk_at "rd1") => `(tactic| (first | ((with_reducible refine' Ls.r_var ?hV ?_); (case hV => exact rfl)) | (with_reducible refine Ls.r_c ?_) | (with_reducible refine Ls.r_op ?_) | (with_reducible refine Ls.r_un ?_) | (with_reducible refine Ls.r_nil ?_) | (with_reducible refine Ls.r_cons ?_) | (with_reducible refine Ls.r_cb ?_) | (with_reducible refine Ls.r_ckw ?_) | (with_reducible refine Ls.r_cal ?_) | (with_reducible refine Ls.r_calK ?_) | (with_reducible refine Ls.r_tup ?_) | (with_reducible refine Ls.r_lst ?_) | (with_reducible refine Ls.r_if ?_) | (with_reducible refine Ls.r_andV ?_) | (with_reducible refine Ls.r_orV ?_) | (with_reducible refine Ls.r_notV ?_) | (with_reducible refine Ls.r_chain ?_) | (with_reducible refine Ls.r_sl ?_) | (with_reducible refine Ls.r_nopart ?_) | (with_reducible refine Ls.r_part ?_) | (with_reducible refine Ls.k_part ?_) | (with_reducible refine Ls.r_test ?_) | (with_reducible refine Ls.r_B ?_) | (with_reducible refine Ls.k_B ?_) | (with_reducible refine Ls.r_not ?_) | (with_reducible refine Ls.r_and ?_) | (with_reducible refine Ls.r_or ?_) | (with_reducible refine Ls.r_seq ?_) | (with_reducible refine Ls.r_ifS ?_) | (with_reducible refine Ls.r_next ?_) | (with_reducible refine Ls.r_brk ?_) | (with_reducible refine Ls.r_cont ?_) | (with_reducible refine Ls.r_ret ?_) | (with_reducible refine Ls.r_retN ?_) | (with_reducible refine Ls.r_drop ?_) | (with_reducible refine Ls.r_asg ?_) | (with_reducible refine Ls.r_par ?_) | (with_reducible refine Ls.k_par ?_) | ((with_reducible refine' Ls.r_aug ?hV ?_); (case hV => exact rfl)) | (with_reducible refine Ls.y_ip ?_) | (with_reducible refine Ls.g_name ?_) | (with_reducible refine Ls.g_nil ?_) | (with_reducible refine Ls.g_cons ?_) | (with_reducible refine Ls.g_sub ?_) | (with_reducible refine Ls.e_end ?_) | (with_reducible refine Ls.e_endr ?_) | (with_reducible refine Ls.e_nx ?_) | (with_reducible refine Ls.e_rt ?_) | (with_reducible refine Ls.e_bk ?_) | (with_reducible refine Ls.e_ct ?_) | (with_reducible refine Ls.r_for ?_) | (with_reducible refine Ls.i_seq ?_) | (with_reducible refine Ls.r_xi ?_) | (with_reducible refine Ls.r_xo ?_) | (with_reducible refine Ls.r_mk ?_) | (with_reducible refine Ls.r_xf ?_) | (with_reducible refine Ls.i_enum ?_) | (with_reducible refine Ls.i_rng1 ?_) | (with_reducible refine Ls.r_m1 ?_) | (with_reducible refine Ls.r_m0 ?_) | (with_reducible refine Ls.k_isS ?_) | (with_reducible refine Ls.r_bm ?_) | (with_reducible refine Ls.r_lc ?_) | (with_reducible refine Ls.y_add ?_) | (with_reducible refine Ls.y_sub ?_) | (with_reducible refine Ls.y_neg ?_) | (with_reducible refine Ls.y_lt ?_) | (with_reducible refine Ls.y_le ?_) | (with_reducible refine Ls.y_gt ?_) | (with_reducible refine Ls.y_ge ?_) | (with_reducible refine Ls.y_eqI ?_) | (with_reducible refine Ls.y_eqS ?_) | (with_reducible refine Ls.y_neI ?_) | (with_reducible refine Ls.y_neS ?_) | (with_reducible refine Ls.y_isNo ?_) | (with_reducible refine Ls.y_isntNo ?_) | (with_reducible refine Ls.y_abs ?_) | (with_reducible refine Ls.y_max2 ?_) | (with_reducible refine Ls.y_min2 ?_) | (with_reducible refine Ls.y_intI ?_) | (with_reducible refine Ls.y_intB ?_) | ((with_reducible refine' Ls.y_ixL ?hS ?hA ?_); (case hS => first | assumption | exact L2.SqL.of (by assumption)); (case hA => rfl)) | ((with_reducible refine' Ls.y_ixT ?hS ?hA ?_); (case hS => first | assumption | exact L2.SqT.of (by assumption)); (case hA => rfl)) | ((with_reducible refine' Ls.y_mod ?hC ?_); (case hC => first | decide | omega)) | ((with_reducible refine' Ls.y_fdiv ?hC ?_); (case hC => first | decide | (constructor <;> omega))) | ((with_reducible refine' Ls.y_pow ?hC ?_); (case hC => exact ⟨by decide, by decide, by decide⟩)) | ((with_reducible refine' Ls.y_mul ?hC ?_); (case hC => first | exact .inr ⟨by decide, by decide⟩ | exact .inl ⟨by decide, by decide⟩ | exact .inr ⟨by omega, by omega⟩ | exact .inl ⟨by omega, by omega⟩)) | (with_reducible refine L2.iteT ?_) | (with_reducible refine L2.iteF ?_) | (with_reducible refine Ls.iteNF ?_) | (with_reducible refine Ls.iteNT ?_)))
local macro_rules | `(tactic| walk_at "rd") => `(tactic| (repeat walk_at "rd1"))
local macro_rules | `(tactic| walk_at "lits") => `(tactic| (first | exact Ls.lit_nil | (refine' Ls.lit_cons ?hL ?hR; (case hL => walk_at "lits"); (case hR => walk_at "lits")) | exact Ls.lit_non | exact Ls.lit_bl | exact Ls.lit_int | exact Ls.lit_str | exact Ls.lit_neg | exact Ls.lit_dn | exact Ls.lit_d1 | exact Ls.lit_d1s | (refine' Ls.lit_tup ?hA ?hZ; (case hA => walk_at "lits"); (case hZ => first | decide | simp)) | (refine' Ls.lit_lst ?hA ?hZ; (case hA => walk_at "lits"); (case hZ => first | decide | simp))))

section
variable {P : Program} {w : World} {K : PySem.W.Frag} {mg : Str → Option Value} {base : Heap} (nd : base.NoDigits)
include nd
theorem ok_lofT (T : Tx K mg w) : Cal P w K mg base 1 "_law_of_tuple" s_law_of_tuple P_law_of_tuple (sp_lofT K) := by
  refine T.d_law_of_tuple.ok sc_law_of_tuple (fun vs H Q E h => ?_) (fun ff cdv A outer s H vs Q E hr h => ?_)
  · obtain ⟨f, t, l, xs, ys, es, rs, rfl, _⟩ := h; rfl
  obtain ⟨f, t, l, xs, ys, es, rs, rfl, hf, hT, hE, hV, hR, hF, hW, hz, q⟩ := h
  refine ⟨_, PSs.nox (pss_cons (ps_if (pt_cmpR (op_inU hr) (pv 0) (pe_tup (pa_cons pe_str (pa_cons pe_str (pa_cons pe_str pa_nil)))) (by rfl)) (pss_cons (ps_if (PW.pt (pw_or (pt_cmpR (op_neU hr) (pe_callB call_lenU (by rfl) T.n_len (by decide +kernel) (pa_cons (pv 2) pa_nil)) pe_int (nomark _)) (pw_or (pt_not (pt_val (pe_callB call_isiU (by rfl) T.n_isinstance (by decide +kernel) (pa_cons (pe_ix ix_seq (pv 2) pe_int (fun _ _ => rfl)) (pa_cons (pe_bltn (v := .ty "int") (u := .type "int") (by rfl) T.n_int (by decide +kernel) rfl) pa_nil))))) (pw_or1 (pt_cmpR op_ltU (pe_ix ix_seq (pv 2) pe_int (fun _ _ => rfl)) pe_int (nomark _)))))) (pss_one (ps_ret pe_str)) pss_nil)
      (pss_cons (ps_if (pt_cmpR (op_eqU hr) (pv 0) pe_str (nomark _)) (pss_one (ps_ret (pe_ifExp (pt_cmpR op_ltU (pe_ix ix_seq (pv 2) pe_int (fun _ _ => rfl)) (pe_callB call_lenU (by rfl) T.n_len (by decide +kernel) (pa_cons (pv 1) pa_nil)) (nomark _)) (pe_ix ix_seq (pv 1) (pe_ix ix_seq (pv 2) pe_int (fun _ _ => rfl)) (fun _ _ => rfl)) pe_str))) pss_nil)
      (pss_one (ps_ret (pe_ifExp (pt_cmpR (op_eqU hr) (pv 0) pe_str (nomark _)) (pe_slice sl_U (pv 1) po_none (po_some (pe_ix ix_seq (pv 2) pe_int (fun _ _ => rfl)))) (pe_slice sl_U (pv 1) (po_some (pe_ix ix_seq (pv 2) pe_int (fun _ _ => rfl))) po_none)))))) pss_nil)
      (pss_cons (ps_if (PW.pt (pw_or (pt_cmpR (op_neU hr) (pv 2) (pe_lstN pa_nil) (nomark _)) (pw_or1 (PW.pt (pw_and (pt_cmpR (op_inU hr) (pv 0) (pe_tup (pa_cons pe_str (pa_cons pe_str pa_nil))) (by rfl)) (pw_and1 (pt_not (pt_val (pe_callB (cr_all rfl) (by rfl) T.n_all (by decide +kernel) (pa_cons (pe_lc (own := [("_law_each", 3)]) rfl sc_law_of_tuple.nd (pi_seq (pv 1)) (blkOk_by (own := [("_law_each", 3)]) (N := N_law_of_tuple) (sc := defScope s_law_of_tuple) (by decide +kernel)) (fun _ _ _ _ _ => (pg_name (i := 3) sc_law_of_tuple.nd rfl (Or.inl rfl))) (fun _ _ _ _ _ => pts_nil) (fun _ _ _ _ _ => (pe_callB (id := "isinstance") (r := rIsiU K) call_isiU (by rfl) T.n_isinstance (by decide +kernel) (pa_cons (pv 3) (pa_cons (pe_bltn (v := .ty "int") (u := .type "int") (by rfl) T.n_int (by decide +kernel) rfl) pa_nil))))) pa_nil)))))))))) (pss_one (ps_ret pe_str)) pss_nil)
      (pss_cons (ps_if (pt_cmpR (op_eqU hr) (pv 0) pe_str (nomark _)) (pss_one (ps_ret (pe_callB call_lenU (by rfl) T.n_len (by decide +kernel) (pa_cons (pv 1) pa_nil)))) pss_nil)
      (pss_cons (ps_if (pt_cmpR (op_eqU hr) (pv 0) pe_str (nomark _)) (pss_one (ps_ret (pe_callTy call_tupleU (by rfl) T.n_tuple (by decide +kernel) (pa_cons (pe_callB call_sortedU (by rfl) T.n_sorted (by decide +kernel) (pa_cons (pv 1) pa_nil)) pa_nil)))) pss_nil)
      (pss_one (ps_ret (pe_ifExp (pt_cmpR (op_eqU hr) (pv 0) pe_str (nomark _)) (pe_callB (call_sumU rfl) (by rfl) T.n_sum (by decide +kernel) (pa_cons (pv 1) pa_nil)) (pe_revU (pv 1))))))))), ?_⟩
  have hl := hE.length
  have hlr := hF.length
  obtain ⟨v1, v2, v3, v4⟩ := isV_tup (isD_V hV)
  cases f with
  | item =>
    walk_at "rd"
    refine k_tup fun t1 H1 n1 x1 h1 => ?_
    walk_at "rd"
    refine .inl ⟨t1, _, rfl, .inr (.of h1), rfl, rfl, ?_⟩
    rw [if_neg Bool.false_ne_true, show inV (V.str (Fn.nm .item)) [V.str (Str.ofString "item"), V.str (Str.ofString "take"), V.str (Str.ofString "drop")] = true from by decide +kernel]
    walk_at "rd"
    refine y_lenL (x1.sl hR) ?_
    walk_at "rd"
    refine brN (fun c1 => ?_) fun c1 => ?_
    · walk_at "rd"
      refine q _ H1 x1 ?_
      rw [lawRaw_n fun z => by have a1 : 2 ≤ rs.length + 1 := z.1.1; have a2 : rs.length + 1 ≤ 2 := z.1.2; omega]
      exact fl_fault
    · obtain ⟨r, rfl⟩ : ∃ r, rs = [r] := by
        rcases rs with _ | ⟨r, _ | ⟨r2, rs⟩⟩
        · simp only [List.length_nil] at hlr; omega
        · exact ⟨r, rfl⟩
        · simp only [List.length_cons] at hlr; omega
      obtain ⟨y, rfl, hy⟩ := fl_one hF
      have hR1 := x1.sl hR
      have hrV := isD_V (hW r List.mem_cons_self)
      walk_at "rd"
      refine y_isIntF (hy.mono x1.et) hrV ?_
      walk_at "rd"
      refine brBN (fun c2 => ?_) fun c2 => ?_
      · walk_at "rd"
        refine q _ H1 x1 ?_
        rw [lawRaw_n fun z => by have a := ((Bool.and_eq_true _ _).mp z.2).1; rw [cnt_check, c2] at a; cases a]
        exact fl_fault
      · obtain ⟨i, rfl⟩ := isInt_inv c2
        cases hy
        walk_at "rd"
        refine br (fun c3 => ?_) fun c3 => ?_
        · walk_at "rd"
          refine q _ H1 x1 ?_
          rw [lawRaw_n fun z => by have a := ((Bool.and_eq_true _ _).mp z.2).1; rw [cnt_check, Bool.and_eq_true, decide_eq_true_eq] at a; have a2 : 0 ≤ i := a.2; omega]
          exact fl_fault
        · obtain ⟨k, rfl⟩ : ∃ k : Nat, i = (k : Nat) := ⟨i.toNat, by omega⟩
          have hcc : canCount [PyData.tuple es, PyData.int (k : Nat)] = true := by rw [cnt_check]; exact decide_eq_true (by show (0 : Int) ≤ (k : Nat); omega)
          walk_at "rd"
          refine ifY (by decide +kernel) ?_
          walk_at "rd"
          refine y_lenT (x1.st hT) ?_
          walk_at "rd"
          refine br (fun c4 => ?_) fun c4 => ?_
          · have hk2 : k < xs.length := by omega
            obtain ⟨d, hd, hf⟩ := hE.get (List.getElem?_eq_getElem hk2)
            walk_at "rd"
            refine y_ixT (v := xs[k]) (x1.st hT) (atI_nat (List.getElem?_eq_getElem hk2)) ?_
            refine q _ H1 x1 ?_
            rw [lawRaw_y (f := .item) (ds := [.tuple es, .int (k : Nat)]) (Nat.le_refl 2) (Nat.le_refl 2) (by show (canCount [PyData.tuple es, PyData.int (k : Nat)] && decide (((k : Nat) : Int) < (es.length : Nat))) = true; rw [hcc, decide_eq_true (by omega)]; rfl)]
            have e3 : Fn.raw .item [PyData.tuple es, PyData.int (k : Nat)] = es.getD k .none := by
              show es.getD ((k : Nat) : Int).toNat .none = _
              rw [Int.toNat_natCast]
            rw [e3, List.getD_eq_getElem?_getD, hd]
            exact hf.mono x1.et
          · walk_at "rd"
            refine q _ H1 x1 ?_
            rw [lawRaw_n fun z => by have a : (canCount [PyData.tuple es, PyData.int (k : Nat)] && decide (((k : Nat) : Int) < (es.length : Nat))) = true := z.2; rw [Bool.and_eq_true, decide_eq_true_eq] at a; have a2 := a.2; omega]
            exact fl_fault
  | take =>
    walk_at "rd"
    refine k_tup fun t1 H1 n1 x1 h1 => ?_
    walk_at "rd"
    refine .inl ⟨t1, _, rfl, .inr (.of h1), rfl, rfl, ?_⟩
    rw [if_neg Bool.false_ne_true, show inV (V.str (Fn.nm .take)) [V.str (Str.ofString "item"), V.str (Str.ofString "take"), V.str (Str.ofString "drop")] = true from by decide +kernel]
    walk_at "rd"
    refine y_lenL (x1.sl hR) ?_
    walk_at "rd"
    refine brN (fun c1 => ?_) fun c1 => ?_
    · walk_at "rd"
      refine q _ H1 x1 ?_
      rw [lawRaw_n fun z => by have a1 : 2 ≤ rs.length + 1 := z.1.1; have a2 : rs.length + 1 ≤ 2 := z.1.2; omega]
      exact fl_fault
    · obtain ⟨r, rfl⟩ : ∃ r, rs = [r] := by
        rcases rs with _ | ⟨r, _ | ⟨r2, rs⟩⟩
        · simp only [List.length_nil] at hlr; omega
        · exact ⟨r, rfl⟩
        · simp only [List.length_cons] at hlr; omega
      obtain ⟨y, rfl, hy⟩ := fl_one hF
      have hR1 := x1.sl hR
      have hrV := isD_V (hW r List.mem_cons_self)
      walk_at "rd"
      refine y_isIntF (hy.mono x1.et) hrV ?_
      walk_at "rd"
      refine brBN (fun c2 => ?_) fun c2 => ?_
      · walk_at "rd"
        refine q _ H1 x1 ?_
        rw [lawRaw_n fun z => by have a : canCount [PyData.tuple es, r] = true := z.2; rw [cnt_check, c2] at a; cases a]
        exact fl_fault
      · obtain ⟨i, rfl⟩ := isInt_inv c2
        cases hy
        walk_at "rd"
        refine br (fun c3 => ?_) fun c3 => ?_
        · walk_at "rd"
          refine q _ H1 x1 ?_
          rw [lawRaw_n fun z => by have a : canCount [PyData.tuple es, PyData.int i] = true := z.2; rw [cnt_check, Bool.and_eq_true, decide_eq_true_eq] at a; have a2 : 0 ≤ i := a.2; omega]
          exact fl_fault
        · obtain ⟨k, rfl⟩ : ∃ k : Nat, i = (k : Nat) := ⟨i.toNat, by omega⟩
          have hcc : canCount [PyData.tuple es, PyData.int (k : Nat)] = true := by rw [cnt_check]; exact decide_eq_true (by show (0 : Int) ≤ (k : Nat); omega)
          walk_at "rd"
          refine ifN (by decide +kernel) ?_
          walk_at "rd"
          refine ifY (by decide +kernel) ?_
          walk_at "rd"
          refine y_slT (x1.st hT) fun b H2 e2 hB => ?_
          walk_at "rd"
          rw [cutV_take] at hB
          refine q _ H2 (x1.trans e2) ?_
          rw [lawRaw_y (f := .take) (ds := [.tuple es, .int (k : Nat)]) (Nat.le_refl 2) (Nat.le_refl 2) hcc]
          have e3 : Fn.raw .take [PyData.tuple es, PyData.int (k : Nat)] = .tuple (es.take k) := by
            show PyData.tuple (es.take ((k : Nat) : Int).toNat) = _
            rw [Int.toNat_natCast]
          rw [e3]
          exact .tup hB (FlAll.take k (hE.mono (x1.trans e2).et))
  | drop =>
    walk_at "rd"
    refine k_tup fun t1 H1 n1 x1 h1 => ?_
    walk_at "rd"
    refine .inl ⟨t1, _, rfl, .inr (.of h1), rfl, rfl, ?_⟩
    rw [if_neg Bool.false_ne_true, show inV (V.str (Fn.nm .drop)) [V.str (Str.ofString "item"), V.str (Str.ofString "take"), V.str (Str.ofString "drop")] = true from by decide +kernel]
    walk_at "rd"
    refine y_lenL (x1.sl hR) ?_
    walk_at "rd"
    refine brN (fun c1 => ?_) fun c1 => ?_
    · walk_at "rd"
      refine q _ H1 x1 ?_
      rw [lawRaw_n fun z => by have a1 : 2 ≤ rs.length + 1 := z.1.1; have a2 : rs.length + 1 ≤ 2 := z.1.2; omega]
      exact fl_fault
    · obtain ⟨r, rfl⟩ : ∃ r, rs = [r] := by
        rcases rs with _ | ⟨r, _ | ⟨r2, rs⟩⟩
        · simp only [List.length_nil] at hlr; omega
        · exact ⟨r, rfl⟩
        · simp only [List.length_cons] at hlr; omega
      obtain ⟨y, rfl, hy⟩ := fl_one hF
      have hR1 := x1.sl hR
      have hrV := isD_V (hW r List.mem_cons_self)
      walk_at "rd"
      refine y_isIntF (hy.mono x1.et) hrV ?_
      walk_at "rd"
      refine brBN (fun c2 => ?_) fun c2 => ?_
      · walk_at "rd"
        refine q _ H1 x1 ?_
        rw [lawRaw_n fun z => by have a : canCount [PyData.tuple es, r] = true := z.2; rw [cnt_check, c2] at a; cases a]
        exact fl_fault
      · obtain ⟨i, rfl⟩ := isInt_inv c2
        cases hy
        walk_at "rd"
        refine br (fun c3 => ?_) fun c3 => ?_
        · walk_at "rd"
          refine q _ H1 x1 ?_
          rw [lawRaw_n fun z => by have a : canCount [PyData.tuple es, PyData.int i] = true := z.2; rw [cnt_check, Bool.and_eq_true, decide_eq_true_eq] at a; have a2 : 0 ≤ i := a.2; omega]
          exact fl_fault
        · obtain ⟨k, rfl⟩ : ∃ k : Nat, i = (k : Nat) := ⟨i.toNat, by omega⟩
          have hcc : canCount [PyData.tuple es, PyData.int (k : Nat)] = true := by rw [cnt_check]; exact decide_eq_true (by show (0 : Int) ≤ (k : Nat); omega)
          walk_at "rd"
          refine ifN (by decide +kernel) ?_
          walk_at "rd"
          refine ifN (by decide +kernel) ?_
          walk_at "rd"
          refine y_slT (x1.st hT) fun b H2 e2 hB => ?_
          walk_at "rd"
          rw [cutV_drop] at hB
          refine q _ H2 (x1.trans e2) ?_
          rw [lawRaw_y (f := .drop) (ds := [.tuple es, .int (k : Nat)]) (Nat.le_refl 2) (Nat.le_refl 2) hcc]
          have e3 : Fn.raw .drop [PyData.tuple es, PyData.int (k : Nat)] = .tuple (es.drop k) := by
            show PyData.tuple (es.drop ((k : Nat) : Int).toNat) = _
            rw [Int.toNat_natCast]
          rw [e3]
          exact .tup hB (FlAll.drop k (hE.mono (x1.trans e2).et))
  | length =>
    walk_at "rd"
    refine k_tup fun t1 H1 n1 x1 h1 => ?_
    walk_at "rd"
    refine .inl ⟨t1, _, rfl, .inr (.of h1), rfl, rfl, ?_⟩
    rw [if_neg Bool.false_ne_true, show inV (V.str (Fn.nm .length)) [V.str (Str.ofString "item"), V.str (Str.ofString "take"), V.str (Str.ofString "drop")] = false from by decide +kernel]
    walk_at "rd"
    refine k_lst fun l2 H2 n2 _ x2 h2 => ?_
    walk_at "rd"
    refine y_neE ((x1.trans x2).sl hR) (.of h2) ?_
    walk_at "rd"
    refine brN (fun c1 => ?_) fun c1 => ?_
    · walk_at "rd"
      refine q _ H2 (x1.trans x2) ?_
      rw [lawRaw_n fun z => by have a2 : rs.length + 1 ≤ 1 := z.1.2; have := List.length_pos_iff.mpr c1; omega]
      exact fl_fault
    · subst c1
      obtain rfl : rs = [] := by cases hF; rfl
      walk_at "rd"
      refine k_tup fun t3 H3 n3 x3 h3 => ?_
      have x123 := x1.trans (x2.trans x3)
      walk_at "rd"
      refine .inl ⟨t3, _, rfl, .inr (.of h3), rfl, rfl, ?_⟩
      rw [if_neg Bool.false_ne_true, show inV (V.str (Fn.nm .length)) [V.str (Str.ofString "sort"), V.str (Str.ofString "total")] = false from by decide +kernel]
      walk_at "rd"
      refine ifY (by decide +kernel) ?_
      walk_at "rd"
      refine y_lenT (x123.st hT) ?_
      walk_at "rd"
      refine q _ H3 x123 ?_
      rw [lawRaw_y (f := .length) (ds := [.tuple es]) (Nat.le_refl 1) (Nat.le_refl 1) rfl, hl]
      exact .int _
  | sort =>
    walk_at "rd"
    refine k_tup fun t1 H1 n1 x1 h1 => ?_
    walk_at "rd"
    refine .inl ⟨t1, _, rfl, .inr (.of h1), rfl, rfl, ?_⟩
    rw [if_neg Bool.false_ne_true, show inV (V.str (Fn.nm .sort)) [V.str (Str.ofString "item"), V.str (Str.ofString "take"), V.str (Str.ofString "drop")] = false from by decide +kernel]
    walk_at "rd"
    refine k_lst fun l2 H2 n2 _ x2 h2 => ?_
    walk_at "rd"
    refine y_neE ((x1.trans x2).sl hR) (.of h2) ?_
    walk_at "rd"
    refine brN (fun c1 => ?_) fun c1 => ?_
    · walk_at "rd"
      refine q _ H2 (x1.trans x2) ?_
      rw [lawRaw_n fun z => by have a2 : rs.length + 1 ≤ 1 := z.1.2; have := List.length_pos_iff.mpr c1; omega]
      exact fl_fault
    · subst c1
      obtain rfl : rs = [] := by cases hF; rfl
      walk_at "rd"
      refine k_tup fun t3 H3 n3 x3 h3 => ?_
      have x123 := x1.trans (x2.trans x3)
      walk_at "rd"
      refine .inl ⟨t3, _, rfl, .inr (.of h3), rfl, rfl, ?_⟩
      rw [if_neg Bool.false_ne_true, show inV (V.str (Fn.nm .sort)) [V.str (Str.ofString "sort"), V.str (Str.ofString "total")] = true from by decide +kernel]
      walk_at "rd"
      refine i_T (x123.st hT) ?_
      refine k_lcFl (fun d => .bl (isInt d)) (x123.st hT) (hE.mono x123.et) (by omega) (fun x d H1 Q1 hm e hx hq => ?_) (fun x => rfl) fun D H4 nD e4 hD => ?_
      · walk_at "rd"
        exact y_isIntF hx (isV_nsm v2 v3 v4 hm) (hq H1 (Ex.refl H1))
      have x4 := x123.trans e4
      walk_at "rd"
      refine y_all (bs := es.map isInt) (.of (by rw [hD, List.map_map]; rfl)) ?_
      rw [all_map]
      walk_at "rd"
      refine brBN (fun c2 => ?_) fun c2 => ?_
      · walk_at "rd"
        refine q _ H4 x4 ?_
        rw [lawRaw_n fun z => by have a : (true && es.all isInt) = true := z.2; rw [c2] at a; cases a]
        exact fl_fault
      · have ew := fl_intsV hE c2
        walk_at "rd"
        refine ifN (by decide +kernel) ?_
        walk_at "rd"
        refine ifY (by decide +kernel) ?_
        walk_at "rd"
        refine y_sortT (ns := es.map toI) (by rw [← ew]; exact x4.st hT) fun ns' l H5 p1 p2 n5 e5 hL => ?_
        walk_at "rd"
        refine y_tupL (.of hL) fun t6 H6 n6 e6 h6 => ?_
        refine q _ H6 (x4.trans (e5.trans e6)) ?_
        rw [lawRaw_y (f := .sort) (ds := [.tuple es]) (Nat.le_refl 1) (Nat.le_refl 1) (show (true && es.all isInt) = true by rw [c2]; rfl)]
        have e3 : Fn.raw .sort [PyData.tuple es] = .tuple ((sortL (es.map toI)).map PyData.int) := rfl
        rw [e3, sortL_of p1 p2]
        exact .tup (.of h6) (fl_ints ns')
  | total =>
    walk_at "rd"
    refine k_tup fun t1 H1 n1 x1 h1 => ?_
    walk_at "rd"
    refine .inl ⟨t1, _, rfl, .inr (.of h1), rfl, rfl, ?_⟩
    rw [if_neg Bool.false_ne_true, show inV (V.str (Fn.nm .total)) [V.str (Str.ofString "item"), V.str (Str.ofString "take"), V.str (Str.ofString "drop")] = false from by decide +kernel]
    walk_at "rd"
    refine k_lst fun l2 H2 n2 _ x2 h2 => ?_
    walk_at "rd"
    refine y_neE ((x1.trans x2).sl hR) (.of h2) ?_
    walk_at "rd"
    refine brN (fun c1 => ?_) fun c1 => ?_
    · walk_at "rd"
      refine q _ H2 (x1.trans x2) ?_
      rw [lawRaw_n fun z => by have a2 : rs.length + 1 ≤ 1 := z.1.2; have := List.length_pos_iff.mpr c1; omega]
      exact fl_fault
    · subst c1
      obtain rfl : rs = [] := by cases hF; rfl
      walk_at "rd"
      refine k_tup fun t3 H3 n3 x3 h3 => ?_
      have x123 := x1.trans (x2.trans x3)
      walk_at "rd"
      refine .inl ⟨t3, _, rfl, .inr (.of h3), rfl, rfl, ?_⟩
      rw [if_neg Bool.false_ne_true, show inV (V.str (Fn.nm .total)) [V.str (Str.ofString "sort"), V.str (Str.ofString "total")] = true from by decide +kernel]
      walk_at "rd"
      refine i_T (x123.st hT) ?_
      refine k_lcFl (fun d => .bl (isInt d)) (x123.st hT) (hE.mono x123.et) (by omega) (fun x d H1 Q1 hm e hx hq => ?_) (fun x => rfl) fun D H4 nD e4 hD => ?_
      · walk_at "rd"
        exact y_isIntF hx (isV_nsm v2 v3 v4 hm) (hq H1 (Ex.refl H1))
      have x4 := x123.trans e4
      walk_at "rd"
      refine y_all (bs := es.map isInt) (.of (by rw [hD, List.map_map]; rfl)) ?_
      rw [all_map]
      walk_at "rd"
      refine brBN (fun c2 => ?_) fun c2 => ?_
      · walk_at "rd"
        refine q _ H4 x4 ?_
        rw [lawRaw_n fun z => by have a : (true && es.all isInt) = true := z.2; rw [c2] at a; cases a]
        exact fl_fault
      · have ew := fl_intsV hE c2
        walk_at "rd"
        refine ifN (by decide +kernel) ?_
        walk_at "rd"
        refine ifN (by decide +kernel) ?_
        walk_at "rd"
        refine ifY (by decide +kernel) ?_
        walk_at "rd"
        refine y_sumT (ns := es.map toI) (by rw [← ew]; exact x4.st hT) ?_
        walk_at "rd"
        refine q _ H4 x4 ?_
        rw [lawRaw_y (f := .total) (ds := [.tuple es]) (Nat.le_refl 1) (Nat.le_refl 1) (show (true && es.all isInt) = true by rw [c2]; rfl)]
        exact .int _
  | turn =>
    walk_at "rd"
    refine k_tup fun t1 H1 n1 x1 h1 => ?_
    walk_at "rd"
    refine .inl ⟨t1, _, rfl, .inr (.of h1), rfl, rfl, ?_⟩
    rw [if_neg Bool.false_ne_true, show inV (V.str (Fn.nm .turn)) [V.str (Str.ofString "item"), V.str (Str.ofString "take"), V.str (Str.ofString "drop")] = false from by decide +kernel]
    walk_at "rd"
    refine k_lst fun l2 H2 n2 _ x2 h2 => ?_
    walk_at "rd"
    refine y_neE ((x1.trans x2).sl hR) (.of h2) ?_
    walk_at "rd"
    refine brN (fun c1 => ?_) fun c1 => ?_
    · walk_at "rd"
      refine q _ H2 (x1.trans x2) ?_
      rw [lawRaw_n fun z => by have a2 : rs.length + 1 ≤ 1 := z.1.2; have := List.length_pos_iff.mpr c1; omega]
      exact fl_fault
    · subst c1
      obtain rfl : rs = [] := by cases hF; rfl
      walk_at "rd"
      refine k_tup fun t3 H3 n3 x3 h3 => ?_
      have x123 := x1.trans (x2.trans x3)
      walk_at "rd"
      refine .inl ⟨t3, _, rfl, .inr (.of h3), rfl, rfl, ?_⟩
      rw [if_neg Bool.false_ne_true, show inV (V.str (Fn.nm .turn)) [V.str (Str.ofString "sort"), V.str (Str.ofString "total")] = false from by decide +kernel]
      walk_at "rd"
      refine ifN (by decide +kernel) ?_
      walk_at "rd"
      refine ifN (by decide +kernel) ?_
      walk_at "rd"
      refine ifN (by decide +kernel) ?_
      walk_at "rd"
      refine r_revU ?_
      walk_at "rd"
      refine k_revT (x123.st hT) fun t4 H4 n4 e4 h4 => ?_
      refine q _ H4 (x123.trans e4) ?_
      rw [lawRaw_y (f := .turn) (ds := [.tuple es]) (Nat.le_refl 1) (Nat.le_refl 1) rfl]
      exact .tup (.of h4) ((FlAll.rev hE).mono (x123.trans e4).et)
  | _ => cases hf
end

end My
end

section
set_option Elab.async false
set_option linter.all false
set_option maxRecDepth 100000
set_option maxHeartbeats 4000000
namespace My
open PySem PySem.Spec PyProof.Rows L2 Ls SX LamX
local macro_rules | `(tactic| walk_at "rd1") => `(tactic| (first | ((with_reducible refine' Ls.r_var ?hV ?_); (case hV => exact rfl)) | (with_reducible refine Ls.r_c ?_) | (with_reducible refine Ls.r_op ?_) | (with_reducible refine Ls.r_un ?_) | (with_reducible refine Ls.r_nil ?_) | (with_reducible refine Ls.r_cons ?_) | (with_reducible refine Ls.r_cb ?_) | (with_reducible refine Ls.r_ckw ?_) | (with_reducible refine Ls.r_cal ?_) | (with_reducible refine Ls.r_calK ?_) | (with_reducible refine Ls.r_tup ?_) | (with_reducible refine Ls.r_lst ?_) | (with_reducible refine Ls.r_if ?_) | (with_reducible refine Ls.r_andV ?_) | (with_reducible refine Ls.r_orV ?_) | (with_reducible refine Ls.r_notV ?_) | (with_reducible refine Ls.r_chain ?_) | (with_reducible refine Ls.r_sl ?_) | (with_reducible refine Ls.r_nopart ?_) | (with_reducible refine Ls.r_part ?_) | (with_reducible refine Ls.k_part ?_) | (with_reducible refine Ls.r_test ?_) | (with_reducible refine Ls.r_B ?_) | (with_reducible refine Ls.k_B ?_) | (with_reducible refine Ls.r_not ?_) | (with_reducible refine Ls.r_and ?_) | (with_reducible refine Ls.r_or ?_) | (with_reducible refine Ls.r_seq ?_) | (with_reducible refine Ls.r_ifS ?_) | (with_reducible refine Ls.r_next ?_) | (with_reducible refine Ls.r_brk ?_) | (with_reducible refine Ls.r_cont ?_) | (with_reducible refine Ls.r_ret ?_) | (with_reducible refine Ls.r_retN ?_) | (with_reducible refine Ls.r_drop ?_) | (with_reducible refine Ls.r_asg ?_) | (with_reducible refine Ls.r_par ?_) | (with_reducible refine Ls.k_par ?_) | ((with_reducible refine' Ls.r_aug ?hV ?_); (case hV => exact rfl)) | (with_reducible refine Ls.y_ip ?_) | (with_reducible refine Ls.g_name ?_) | (with_reducible refine Ls.g_nil ?_) | (with_reducible refine Ls.g_cons ?_) | (with_reducible refine Ls.g_sub ?_) | (with_reducible refine Ls.e_end ?_) | (with_reducible refine Ls.e_endr ?_) | (with_reducible refine Ls.e_nx ?_) | (with_reducible refine Ls.e_rt ?_) | (with_reducible refine Ls.e_bk ?_) | (with_reducible refine Ls.e_ct ?_) | (with_reducible refine Ls.r_for ?_) | (with_reducible refine Ls.i_seq ?_) | (with_reducible refine Ls.r_xi ?_) | (with_reducible refine Ls.r_xo ?_) | (with_reducible refine Ls.r_mk ?_) | (with_reducible refine Ls.r_xf ?_) | (with_reducible refine Ls.i_enum ?_) | (with_reducible refine Ls.i_rng1 ?_) | (with_reducible refine Ls.r_m1 ?_) | (with_reducible refine Ls.r_m0 ?_) | (with_reducible refine Ls.k_isS ?_) | (with_reducible refine Ls.r_bm ?_) | (with_reducible refine Ls.r_lc ?_) | (with_reducible refine Ls.y_add ?_) | (with_reducible refine Ls.y_sub ?_) | (with_reducible refine Ls.y_neg ?_) | (with_reducible refine Ls.y_lt ?_) | (with_reducible refine Ls.y_le ?_) | (with_reducible refine Ls.y_gt ?_) | (with_reducible refine Ls.y_ge ?_) | (with_reducible refine Ls.y_eqI ?_) | (with_reducible refine Ls.y_eqS ?_) | (with_reducible refine Ls.y_neI ?_) | (with_reducible refine Ls.y_neS ?_) | (with_reducible refine Ls.y_isNo ?_) | (with_reducible refine Ls.y_isntNo ?_) | (with_reducible refine Ls.y_abs ?_) | (with_reducible refine Ls.y_max2 ?_) | (with_reducible refine Ls.y_min2 ?_) | (with_reducible refine Ls.y_intI ?_) | (with_reducible refine Ls.y_intB ?_) | ((with_reducible refine' Ls.y_ixL ?hS ?hA ?_); (case hS => first | assumption | exact L2.SqL.of (by assumption)); (case hA => rfl)) | ((with_reducible refine' Ls.y_ixT ?hS ?hA ?_); (case hS => first | assumption | exact L2.SqT.of (by assumption)); (case hA => rfl)) | ((with_reducible refine' Ls.y_mod ?hC ?_); (case hC => first | decide | omega)) | ((with_reducible refine' Ls.y_fdiv ?hC ?_); (case hC => first | decide | (constructor <;> omega))) | ((with_reducible refine' Ls.y_pow ?hC ?_); (case hC => exact ⟨by decide, by decide, by decide⟩)) | ((with_reducible refine' Ls.y_mul ?hC ?_); (case hC => first | exact .inr ⟨by decide, by decide⟩ | exact .inl ⟨by decide, by decide⟩ | exact .inr ⟨by omega, by omega⟩ | exact .inl ⟨by omega, by omega⟩)) | (with_reducible refine L2.iteT ?_) | (with_reducible refine L2.iteF ?_) | (with_reducible refine Ls.iteNF ?_) | (with_reducible refine Ls.iteNT ?_)))
local macro_rules | `(tactic| walk_at "rd") => `(tactic| (repeat walk_at "rd1"))
local macro_rules | `(tactic| walk_at "lits") => `(tactic| (first | exact Ls.lit_nil | (refine' Ls.lit_cons ?hL ?hR; (case hL => walk_at "lits"); (case hR => walk_at "lits")) | exact Ls.lit_non | exact Ls.lit_bl | exact Ls.lit_int | exact Ls.lit_str | exact Ls.lit_neg | exact Ls.lit_dn | exact Ls.lit_d1 | exact Ls.lit_d1s | (refine' Ls.lit_tup ?hA ?hZ; (case hA => walk_at "lits"); (case hZ => first | decide | simp)) | (refine' Ls.lit_lst ?hA ?hZ; (case hA => walk_at "lits"); (case hZ => first | decide | simp))))

section
variable {P : Program} {w : World} {K : PySem.W.Frag} {mg : Str → Option Value} {base : Heap} (nd : base.NoDigits)
include nd
theorem ok_lraw (T : Tx K mg w) (C_law_glued : Cal P w K mg base 1 "_law_glued" s_law_glued P_law_glued (sp_lglued K)) (C_law_of_two : Cal P w K mg base 1 "_law_of_two" s_law_of_two P_law_of_two (sp_lof2 K)) (C_law_of_tuple : Cal P w K mg base 1 "_law_of_tuple" s_law_of_tuple P_law_of_tuple (sp_lofT K)) :
    Cal P w K mg base 2 "_law_raw" s_law_raw P_law_raw (sp_lraw K) := by
  refine T.d_law_raw.ok sc_law_raw (fun vs H Q E h => ?_) (fun ff cdv A outer s H vs Q E hr h => ?_)
  · obtain ⟨f, g, ws, ds, rfl, _⟩ := h; rfl
  obtain ⟨f, g, ws, ds, rfl, hS, hF, hV, hz, q⟩ := h
  refine ⟨_, PSs.nox (pss_cons (ps_par (i := 2) (j := 3) rfl sc_law_raw.nd rfl rfl (by decide) rfl rfl (pa_cons (pe_callB call_lenU (by rfl) T.n_len (by decide +kernel) (pa_cons (pv 1) pa_nil)) (pa_cons (pe_callB (cr_all rfl) (by rfl) T.n_all (by decide +kernel) (pa_cons (pe_lc (own := [("_law_each", 4)]) rfl sc_law_raw.nd (pi_seq (pv 1)) (blkOk_by (own := [("_law_each", 4)]) (N := N_law_raw) (sc := defScope s_law_raw) (by decide +kernel)) (fun _ _ _ _ _ => (pg_name (i := 4) sc_law_raw.nd rfl (Or.inl rfl))) (fun _ _ _ _ _ => pts_nil) (fun _ _ _ _ _ => (pe_callB (id := "isinstance") (r := rIsiU K) call_isiU (by rfl) T.n_isinstance (by decide +kernel) (pa_cons (pv 4) (pa_cons (pe_bltn (v := .ty "int") (u := .type "int") (by rfl) T.n_int (by decide +kernel) rfl) pa_nil))))) pa_nil)) pa_nil)) (by rfl))
      (pss_cons (ps_if (pt_cmpR (op_eqU hr) (pv 0) pe_str (nomark _)) (pss_one (ps_ret (pe_ifExp (pt_cmpR op_leU (pv 2) pe_int (nomark _)) (pe_callTy call_tupleU (by rfl) T.n_tuple (by decide +kernel) (pa_cons (pv 1) pa_nil)) pe_str))) pss_nil)
      (pss_cons (ps_if (pt_cmpR (op_eqU hr) (pv 0) pe_str (nomark _)) (pss_one (ps_ret (pe_g C_law_glued (hr.mono (by omega)) px0 (pa_cons (pv 1) pa_nil)))) pss_nil)
      (pss_cons (ps_if (pt_cmpR (op_eqU hr) (pv 0) pe_str (nomark _)) (pss_one (ps_ret (pe_ifExp (pt_cmpR (op_eqU hr) (pv 2) pe_int (nomark _)) (pe_callTy (call_intU nd) (by rfl) T.n_int (by decide +kernel) (pa_cons (pe_cmpR (op_eqU hr) (pe_ix ix_seq (pv 1) pe_int (fun _ _ => rfl)) (pe_ix ix_seq (pv 1) pe_int (fun _ _ => rfl)) (nomark _)) pa_nil)) pe_str))) pss_nil)
      (pss_cons (ps_if (pt_cmpR (op_inU hr) (pv 0) (pe_tup (pa_cons pe_str (pa_cons pe_str pa_nil))) (by rfl)) (pss_cons (ps_if (PW.pt (pw_or (pt_not (pt_val (pv 3))) (pw_or1 (pt_not (pt_chain op_leU op_leU pe_int (pv 2) pe_int))))) (pss_one (ps_ret pe_str)) pss_nil)
      (pss_one (ps_ret (pe_ifExp (pt_cmpR (op_eqU hr) (pv 0) pe_str (nomark _)) (pe_ix ix_seq (pe_callB call_sortedU (by rfl) T.n_sorted (by decide +kernel) (pa_cons (pv 1) pa_nil)) pe_int (fun _ _ => rfl)) (pe_ix ix_seq (pe_callB call_sortedU (by rfl) T.n_sorted (by decide +kernel) (pa_cons (pv 1) pa_nil)) (pe_un un_negU pe_int) (fun _ _ => rfl)))))) pss_nil)
      (pss_cons (ps_if (pt_cmpR (op_eqU hr) (pv 0) pe_str (nomark _)) (pss_one (ps_ret (pe_ifExp (PW.pt (pw_and (pt_val (pv 3)) (pw_and1 (pt_cmpR (op_eqU hr) (pv 2) pe_int (nomark _))))) (pe_op op_subU pe_int (pe_ix ix_seq (pv 1) pe_int (fun _ _ => rfl))) pe_str))) pss_nil)
      (pss_cons (ps_if (pt_cmpR (op_inU hr) (pv 0) (pe_tup (pa_cons pe_str (pa_cons pe_str (pa_cons pe_str (pa_cons pe_str (pa_cons pe_str pa_nil)))))) (by rfl)) (pss_one (ps_ret (pe_ifExp (PW.pt (pw_and (pt_val (pv 3)) (pw_and1 (pt_cmpR (op_eqU hr) (pv 2) pe_int (nomark _))))) (pe_g C_law_of_two (hr.mono (by omega)) px0 (pa_cons (pv 0) (pa_cons (pe_ix ix_seq (pv 1) pe_int (fun _ _ => rfl)) (pa_cons (pe_ix ix_seq (pv 1) pe_int (fun _ _ => rfl)) pa_nil)))) pe_str))) pss_nil)
      (pss_cons (ps_if (PW.pt (pw_or (pt_cmpR (op_eqU hr) (pv 2) pe_int (nomark _)) (pw_or1 (pt_val (pe_callB call_isiU (by rfl) T.n_isinstance (by decide +kernel) (pa_cons (pe_ix ix_seq (pv 1) pe_int (fun _ _ => rfl)) (pa_cons (pe_bltn (v := .ty "int") (u := .type "int") (by rfl) T.n_int (by decide +kernel) rfl) pa_nil))))))) (pss_one (ps_ret pe_str)) pss_nil)
      (pss_one (ps_ret (pe_g C_law_of_tuple (hr.mono (by omega)) px0 (pa_cons (pv 0) (pa_cons (pe_ix ix_seq (pv 1) pe_int (fun _ _ => rfl)) (pa_cons (pe_slice sl_U (pv 1) (po_some pe_int) po_none) pa_nil)))))))))))))), ?_⟩
  have hl := hF.length
  walk_at "rd"
  refine y_lenL hS ?_
  walk_at "rd"
  refine i_L hS ?_
  refine k_lcFlL (fun d => .bl (isInt d)) hS hF (by omega) (fun x d H1 Q1 hm e hx hq => ?_) (fun x => rfl) fun D H1 nD e1 hD => ?_
  · walk_at "rd"
    exact y_isIntF hx (isD_V (hV _ hm)) (hq H1 (Ex.refl H1))
  walk_at "rd"
  refine y_all (bs := ds.map isInt) (.of (by rw [hD, List.map_map]; rfl)) ?_
  rw [all_map]
  have hS1 := e1.sl hS
  have hF1 := hF.mono e1.et
  walk_at "rd"
  cases f with
  | add =>
    walk_at "rd"
    refine ifN (by decide +kernel) ?_
    walk_at "rd"
    refine ifN (by decide +kernel) ?_
    walk_at "rd"
    refine ifN (by decide +kernel) ?_
    walk_at "rd"
    refine k_tup fun t4 T4 n4 x4 h4 => ?_
    walk_at "rd"
    refine .inl ⟨t4, _, rfl, .inr (.of h4), rfl, rfl, ?_⟩
    rw [if_neg Bool.false_ne_true, show inV (V.str (Fn.nm .add)) [V.str (Str.ofString "min"), V.str (Str.ofString "max")] = false from by decide +kernel]
    walk_at "rd"
    refine ifN (by decide +kernel) ?_
    walk_at "rd"
    refine k_tup fun t5 T5 n5 x5 h5 => ?_
    walk_at "rd"
    refine .inl ⟨t5, _, rfl, .inr (.of h5), rfl, rfl, ?_⟩
    rw [if_neg Bool.false_ne_true, show inV (V.str (Fn.nm .add)) [V.str (Str.ofString "add"), V.str (Str.ofString "sub"), V.str (Str.ofString "mul"), V.str (Str.ofString "div"), V.str (Str.ofString "less")] = true from by decide +kernel]
    walk_at "rd"
    have x45 := x4.trans x5
    have hS5 := x45.sl hS1
    refine brB (fun c => ?_) fun c => ?_
    · walk_at "rd"
      refine br (fun c1 => ?_) fun c1 => ?_
      · obtain ⟨a, b, rfl, rfl⟩ := two_ints hF1 (by omega) (by omega) c
        walk_at "rd"
        exact ⟨.add, a, b, rfl, rfl, isV_int (isD_V (hV _ (by simp))), isV_int (isD_V (hV _ (by simp))), fun v h => q v T5 (e1.trans x45) h⟩
      · walk_at "rd"
        refine q _ T5 (e1.trans x45) ?_
        rw [lawRaw_n fun z => by have a1 : 2 ≤ ds.length := z.1.1; have a2 : ds.length ≤ 2 := z.1.2; omega]
        exact fl_fault
    · walk_at "rd"
      refine q _ T5 (e1.trans x45) ?_
      rw [lawRaw_n fun z => by have a : ds.all isInt = true := z.2; rw [c] at a; cases a]
      exact fl_fault
  | sub =>
    walk_at "rd"
    refine ifN (by decide +kernel) ?_
    walk_at "rd"
    refine ifN (by decide +kernel) ?_
    walk_at "rd"
    refine ifN (by decide +kernel) ?_
    walk_at "rd"
    refine k_tup fun t4 T4 n4 x4 h4 => ?_
    walk_at "rd"
    refine .inl ⟨t4, _, rfl, .inr (.of h4), rfl, rfl, ?_⟩
    rw [if_neg Bool.false_ne_true, show inV (V.str (Fn.nm .sub)) [V.str (Str.ofString "min"), V.str (Str.ofString "max")] = false from by decide +kernel]
    walk_at "rd"
    refine ifN (by decide +kernel) ?_
    walk_at "rd"
    refine k_tup fun t5 T5 n5 x5 h5 => ?_
    walk_at "rd"
    refine .inl ⟨t5, _, rfl, .inr (.of h5), rfl, rfl, ?_⟩
    rw [if_neg Bool.false_ne_true, show inV (V.str (Fn.nm .sub)) [V.str (Str.ofString "add"), V.str (Str.ofString "sub"), V.str (Str.ofString "mul"), V.str (Str.ofString "div"), V.str (Str.ofString "less")] = true from by decide +kernel]
    walk_at "rd"
    have x45 := x4.trans x5
    have hS5 := x45.sl hS1
    refine brB (fun c => ?_) fun c => ?_
    · walk_at "rd"
      refine br (fun c1 => ?_) fun c1 => ?_
      · obtain ⟨a, b, rfl, rfl⟩ := two_ints hF1 (by omega) (by omega) c
        walk_at "rd"
        exact ⟨.sub, a, b, rfl, rfl, isV_int (isD_V (hV _ (by simp))), isV_int (isD_V (hV _ (by simp))), fun v h => q v T5 (e1.trans x45) h⟩
      · walk_at "rd"
        refine q _ T5 (e1.trans x45) ?_
        rw [lawRaw_n fun z => by have a1 : 2 ≤ ds.length := z.1.1; have a2 : ds.length ≤ 2 := z.1.2; omega]
        exact fl_fault
    · walk_at "rd"
      refine q _ T5 (e1.trans x45) ?_
      rw [lawRaw_n fun z => by have a : ds.all isInt = true := z.2; rw [c] at a; cases a]
      exact fl_fault
  | mul =>
    walk_at "rd"
    refine ifN (by decide +kernel) ?_
    walk_at "rd"
    refine ifN (by decide +kernel) ?_
    walk_at "rd"
    refine ifN (by decide +kernel) ?_
    walk_at "rd"
    refine k_tup fun t4 T4 n4 x4 h4 => ?_
    walk_at "rd"
    refine .inl ⟨t4, _, rfl, .inr (.of h4), rfl, rfl, ?_⟩
    rw [if_neg Bool.false_ne_true, show inV (V.str (Fn.nm .mul)) [V.str (Str.ofString "min"), V.str (Str.ofString "max")] = false from by decide +kernel]
    walk_at "rd"
    refine ifN (by decide +kernel) ?_
    walk_at "rd"
    refine k_tup fun t5 T5 n5 x5 h5 => ?_
    walk_at "rd"
    refine .inl ⟨t5, _, rfl, .inr (.of h5), rfl, rfl, ?_⟩
    rw [if_neg Bool.false_ne_true, show inV (V.str (Fn.nm .mul)) [V.str (Str.ofString "add"), V.str (Str.ofString "sub"), V.str (Str.ofString "mul"), V.str (Str.ofString "div"), V.str (Str.ofString "less")] = true from by decide +kernel]
    walk_at "rd"
    have x45 := x4.trans x5
    have hS5 := x45.sl hS1
    refine brB (fun c => ?_) fun c => ?_
    · walk_at "rd"
      refine br (fun c1 => ?_) fun c1 => ?_
      · obtain ⟨a, b, rfl, rfl⟩ := two_ints hF1 (by omega) (by omega) c
        walk_at "rd"
        exact ⟨.mul, a, b, rfl, rfl, isV_int (isD_V (hV _ (by simp))), isV_int (isD_V (hV _ (by simp))), fun v h => q v T5 (e1.trans x45) h⟩
      · walk_at "rd"
        refine q _ T5 (e1.trans x45) ?_
        rw [lawRaw_n fun z => by have a1 : 2 ≤ ds.length := z.1.1; have a2 : ds.length ≤ 2 := z.1.2; omega]
        exact fl_fault
    · walk_at "rd"
      refine q _ T5 (e1.trans x45) ?_
      rw [lawRaw_n fun z => by have a : ds.all isInt = true := z.2; rw [c] at a; cases a]
      exact fl_fault
  | div =>
    walk_at "rd"
    refine ifN (by decide +kernel) ?_
    walk_at "rd"
    refine ifN (by decide +kernel) ?_
    walk_at "rd"
    refine ifN (by decide +kernel) ?_
    walk_at "rd"
    refine k_tup fun t4 T4 n4 x4 h4 => ?_
    walk_at "rd"
    refine .inl ⟨t4, _, rfl, .inr (.of h4), rfl, rfl, ?_⟩
    rw [if_neg Bool.false_ne_true, show inV (V.str (Fn.nm .div)) [V.str (Str.ofString "min"), V.str (Str.ofString "max")] = false from by decide +kernel]
    walk_at "rd"
    refine ifN (by decide +kernel) ?_
    walk_at "rd"
    refine k_tup fun t5 T5 n5 x5 h5 => ?_
    walk_at "rd"
    refine .inl ⟨t5, _, rfl, .inr (.of h5), rfl, rfl, ?_⟩
    rw [if_neg Bool.false_ne_true, show inV (V.str (Fn.nm .div)) [V.str (Str.ofString "add"), V.str (Str.ofString "sub"), V.str (Str.ofString "mul"), V.str (Str.ofString "div"), V.str (Str.ofString "less")] = true from by decide +kernel]
    walk_at "rd"
    have x45 := x4.trans x5
    have hS5 := x45.sl hS1
    refine brB (fun c => ?_) fun c => ?_
    · walk_at "rd"
      refine br (fun c1 => ?_) fun c1 => ?_
      · obtain ⟨a, b, rfl, rfl⟩ := two_ints hF1 (by omega) (by omega) c
        walk_at "rd"
        exact ⟨.div, a, b, rfl, rfl, isV_int (isD_V (hV _ (by simp))), isV_int (isD_V (hV _ (by simp))), fun v h => q v T5 (e1.trans x45) h⟩
      · walk_at "rd"
        refine q _ T5 (e1.trans x45) ?_
        rw [lawRaw_n fun z => by have a1 : 2 ≤ ds.length := z.1.1; have a2 : ds.length ≤ 2 := z.1.2; omega]
        exact fl_fault
    · walk_at "rd"
      refine q _ T5 (e1.trans x45) ?_
      rw [lawRaw_n fun z => by have a : (ds.all isInt && !decide (toI (at1 ds) = 0)) = true := z.2; rw [c] at a; cases a]
      exact fl_fault
  | neg =>
    walk_at "rd"
    refine ifN (by decide +kernel) ?_
    walk_at "rd"
    refine ifN (by decide +kernel) ?_
    walk_at "rd"
    refine ifN (by decide +kernel) ?_
    walk_at "rd"
    refine k_tup fun t4 T4 n4 x4 h4 => ?_
    walk_at "rd"
    refine .inl ⟨t4, _, rfl, .inr (.of h4), rfl, rfl, ?_⟩
    rw [if_neg Bool.false_ne_true, show inV (V.str (Fn.nm .neg)) [V.str (Str.ofString "min"), V.str (Str.ofString "max")] = false from by decide +kernel]
    walk_at "rd"
    refine ifY (by decide +kernel) ?_
    walk_at "rd"
    have hS4 := x4.sl hS1
    refine brB (fun c => ?_) fun c => ?_
    · walk_at "rd"
      refine br (fun c1 => ?_) fun c1 => ?_
      · obtain ⟨a, rfl, rfl⟩ := one_int hF1 (by omega) (by omega) c
        walk_at "rd"
        refine q _ T4 (e1.trans x4) ?_
        rw [lawRaw_y (f := .neg) (ds := [.int a]) (Nat.le_refl 1) (Nat.le_refl 1) c, show Fn.raw .neg [PyData.int a] = .int (-a) from rfl, Int.zero_sub]
        exact .int _
      · walk_at "rd"
        refine q _ T4 (e1.trans x4) ?_
        rw [lawRaw_n fun z => by have a1 : 1 ≤ ds.length := z.1.1; have a2 : ds.length ≤ 1 := z.1.2; omega]
        exact fl_fault
    · walk_at "rd"
      refine q _ T4 (e1.trans x4) ?_
      rw [lawRaw_n fun z => by have a : ds.all isInt = true := z.2; rw [c] at a; cases a]
      exact fl_fault
  | min =>
    walk_at "rd"
    refine ifN (by decide +kernel) ?_
    walk_at "rd"
    refine ifN (by decide +kernel) ?_
    walk_at "rd"
    refine ifN (by decide +kernel) ?_
    walk_at "rd"
    refine k_tup fun t4 T4 n4 x4 h4 => ?_
    walk_at "rd"
    refine .inl ⟨t4, _, rfl, .inr (.of h4), rfl, rfl, ?_⟩
    rw [if_neg Bool.false_ne_true, show inV (V.str (Fn.nm .min)) [V.str (Str.ofString "min"), V.str (Str.ofString "max")] = true from by decide +kernel]
    walk_at "rd"
    refine brBN (fun c => ?_) fun c => ?_
    · walk_at "rd"
      refine q _ T4 (e1.trans x4) ?_
      rw [lawRaw_n fun z => by have a : ds.all isInt = true := z.2; rw [c] at a; cases a]
      exact fl_fault
    · walk_at "rd"
      refine br (fun c1 => ?_) fun c1 => ?_
      · walk_at "rd"
        refine brN (fun c2 => ?_) fun c2 => ?_
        · walk_at "rd"
          refine q _ T4 (e1.trans x4) ?_
          rw [lawRaw_n fun z => by have a2 : ds.length ≤ 6 := z.1.2; omega]
          exact fl_fault
        · walk_at "rd"
          refine ifY (by decide +kernel) ?_
          walk_at "rd"
          have ew := fl_intsV hF1 c
          refine y_sortL (ns := ds.map toI) (by rw [← ew]; exact x4.sl hS1) fun ns' l H5 p1 p2 n5 e5 hL => ?_
          have hne : ns'.length = ds.length := by rw [p1.length_eq, List.length_map]
          obtain ⟨a, r, rfl⟩ : ∃ a r, ns' = a :: r := by
            cases ns' with
            | nil => simp only [List.length_nil] at hne; omega
            | cons a r => exact ⟨a, r, rfl⟩
          walk_at "rd"
          refine y_ixL (v := .int a) (.of hL) (atI_nat (j := 0) rfl) ?_
          refine q _ H5 (e1.trans (x4.trans e5)) ?_
          rw [lawRaw_y (f := .min) (show 1 ≤ ds.length by omega) (show ds.length ≤ 6 by omega) c, show Fn.raw .min ds = .int (minL (ds.map toI)) from rfl, min_sorted p1 p2]
          exact .int _
      · walk_at "rd"
        refine q _ T4 (e1.trans x4) ?_
        rw [lawRaw_n fun z => by have a1 : 1 ≤ ds.length := z.1.1; omega]
        exact fl_fault
  | max =>
    walk_at "rd"
    refine ifN (by decide +kernel) ?_
    walk_at "rd"
    refine ifN (by decide +kernel) ?_
    walk_at "rd"
    refine ifN (by decide +kernel) ?_
    walk_at "rd"
    refine k_tup fun t4 T4 n4 x4 h4 => ?_
    walk_at "rd"
    refine .inl ⟨t4, _, rfl, .inr (.of h4), rfl, rfl, ?_⟩
    rw [if_neg Bool.false_ne_true, show inV (V.str (Fn.nm .max)) [V.str (Str.ofString "min"), V.str (Str.ofString "max")] = true from by decide +kernel]
    walk_at "rd"
    refine brBN (fun c => ?_) fun c => ?_
    · walk_at "rd"
      refine q _ T4 (e1.trans x4) ?_
      rw [lawRaw_n fun z => by have a : ds.all isInt = true := z.2; rw [c] at a; cases a]
      exact fl_fault
    · walk_at "rd"
      refine br (fun c1 => ?_) fun c1 => ?_
      · walk_at "rd"
        refine brN (fun c2 => ?_) fun c2 => ?_
        · walk_at "rd"
          refine q _ T4 (e1.trans x4) ?_
          rw [lawRaw_n fun z => by have a2 : ds.length ≤ 6 := z.1.2; omega]
          exact fl_fault
        · walk_at "rd"
          refine ifN (by decide +kernel) ?_
          walk_at "rd"
          have ew := fl_intsV hF1 c
          refine y_sortL (ns := ds.map toI) (by rw [← ew]; exact x4.sl hS1) fun ns' l H5 p1 p2 n5 e5 hL => ?_
          have hne : ns'.length = ds.length := by rw [p1.length_eq, List.length_map]
          obtain ⟨r, a, rfl⟩ : ∃ r a, ns' = r ++ [a] := by
            rcases List.eq_nil_or_concat ns' with rfl | ⟨r, a, rfl⟩
            · simp only [List.length_nil] at hne; omega
            · exact ⟨r, a, by simp⟩
          walk_at "rd"
          refine y_ixL (v := .int a) (.of hL) (by rw [List.map_append]; exact atI_last _ _) ?_
          refine q _ H5 (e1.trans (x4.trans e5)) ?_
          rw [lawRaw_y (f := .max) (show 1 ≤ ds.length by omega) (show ds.length ≤ 6 by omega) c, show Fn.raw .max ds = .int (maxL (ds.map toI)) from rfl, max_sorted p1 p2]
          exact .int _
      · walk_at "rd"
        refine q _ T4 (e1.trans x4) ?_
        rw [lawRaw_n fun z => by have a1 : 1 ≤ ds.length := z.1.1; omega]
        exact fl_fault
  | less =>
    walk_at "rd"
    refine ifN (by decide +kernel) ?_
    walk_at "rd"
    refine ifN (by decide +kernel) ?_
    walk_at "rd"
    refine ifN (by decide +kernel) ?_
    walk_at "rd"
    refine k_tup fun t4 T4 n4 x4 h4 => ?_
    walk_at "rd"
    refine .inl ⟨t4, _, rfl, .inr (.of h4), rfl, rfl, ?_⟩
    rw [if_neg Bool.false_ne_true, show inV (V.str (Fn.nm .less)) [V.str (Str.ofString "min"), V.str (Str.ofString "max")] = false from by decide +kernel]
    walk_at "rd"
    refine ifN (by decide +kernel) ?_
    walk_at "rd"
    refine k_tup fun t5 T5 n5 x5 h5 => ?_
    walk_at "rd"
    refine .inl ⟨t5, _, rfl, .inr (.of h5), rfl, rfl, ?_⟩
    rw [if_neg Bool.false_ne_true, show inV (V.str (Fn.nm .less)) [V.str (Str.ofString "add"), V.str (Str.ofString "sub"), V.str (Str.ofString "mul"), V.str (Str.ofString "div"), V.str (Str.ofString "less")] = true from by decide +kernel]
    walk_at "rd"
    have x45 := x4.trans x5
    have hS5 := x45.sl hS1
    refine brB (fun c => ?_) fun c => ?_
    · walk_at "rd"
      refine br (fun c1 => ?_) fun c1 => ?_
      · obtain ⟨a, b, rfl, rfl⟩ := two_ints hF1 (by omega) (by omega) c
        walk_at "rd"
        exact ⟨.less, a, b, rfl, rfl, isV_int (isD_V (hV _ (by simp))), isV_int (isD_V (hV _ (by simp))), fun v h => q v T5 (e1.trans x45) h⟩
      · walk_at "rd"
        refine q _ T5 (e1.trans x45) ?_
        rw [lawRaw_n fun z => by have a1 : 2 ≤ ds.length := z.1.1; have a2 : ds.length ≤ 2 := z.1.2; omega]
        exact fl_fault
    · walk_at "rd"
      refine q _ T5 (e1.trans x45) ?_
      rw [lawRaw_n fun z => by have a : ds.all isInt = true := z.2; rw [c] at a; cases a]
      exact fl_fault
  | same =>
    walk_at "rd"
    refine ifN (by decide +kernel) ?_
    walk_at "rd"
    refine ifN (by decide +kernel) ?_
    walk_at "rd"
    refine ifY (by decide +kernel) ?_
    walk_at "rd"
    refine br (fun c => ?_) fun c => ?_
    · obtain ⟨a, b, rfl⟩ := two_of (ds := ds) (by omega) (by omega)
      obtain ⟨x, y, rfl, hx, hy⟩ := fl_two hF1
      walk_at "rd"
      refine y_eqD hx.dp hy.dp (isD_shaped (hV a (by simp))) (isD_shaped (hV b (by simp))) ?_
      walk_at "rd"
      refine q _ H1 e1 ?_
      rw [lawRaw_y (f := .same) (ds := [a, b]) (Nat.le_refl 2) (Nat.le_refl 2) (List.all_eq_true.mpr hV)]
      exact .int _
    · walk_at "rd"
      refine q _ H1 e1 ?_
      rw [lawRaw_n fun z => by have a1 : 2 ≤ ds.length := z.1.1; have a2 : ds.length ≤ 2 := z.1.2; omega]
      exact fl_fault
  | length =>
    walk_at "rd"
    refine ifN (by decide +kernel) ?_
    walk_at "rd"
    refine ifN (by decide +kernel) ?_
    walk_at "rd"
    refine ifN (by decide +kernel) ?_
    walk_at "rd"
    refine k_tup fun t4 T4 n4 x4 h4 => ?_
    walk_at "rd"
    refine .inl ⟨t4, _, rfl, .inr (.of h4), rfl, rfl, ?_⟩
    rw [if_neg Bool.false_ne_true, show inV (V.str (Fn.nm .length)) [V.str (Str.ofString "min"), V.str (Str.ofString "max")] = false from by decide +kernel]
    walk_at "rd"
    refine ifN (by decide +kernel) ?_
    walk_at "rd"
    refine k_tup fun t5 T5 n5 x5 h5 => ?_
    walk_at "rd"
    refine .inl ⟨t5, _, rfl, .inr (.of h5), rfl, rfl, ?_⟩
    rw [if_neg Bool.false_ne_true, show inV (V.str (Fn.nm .length)) [V.str (Str.ofString "add"), V.str (Str.ofString "sub"), V.str (Str.ofString "mul"), V.str (Str.ofString "div"), V.str (Str.ofString "less")] = false from by decide +kernel]
    walk_at "rd"
    have x45 := x4.trans x5
    have hS5 := x45.sl hS1
    refine br (fun c => ?_) fun c => ?_
    · walk_at "rd"
      refine q _ T5 (e1.trans x45) ?_
      rw [lawRaw_n fun z => by have a1 : 1 ≤ ds.length := z.1.1; omega]
      exact fl_fault
    · obtain ⟨d0, dr, rfl⟩ : ∃ a b, ds = a :: b := by
        cases ds with
        | nil => exact absurd (by rw [hl]; rfl) c
        | cons a b => exact ⟨a, b, rfl⟩
      have hF5 := hF1.mono x45.et
      clear hF hF1
      cases hF5 with | cons hx0 hxr =>
      rename_i v0 vr
      walk_at "rd"
      refine y_ixL (v := v0) hS5 (atI_nat (j := 0) rfl) ?_
      walk_at "rd"
      refine y_isIntF hx0 (isD_V (hV d0 (by simp))) ?_
      walk_at "rd"
      refine brB (fun c2 => ?_) fun c2 => ?_
      · obtain ⟨i, rfl⟩ := isInt_inv c2
        walk_at "rd"
        refine q _ T5 (e1.trans x45) ?_
        rw [lawRaw_n fun z => by exact absurd z.2 (raw_int .length i dr rfl)]
        exact fl_fault
      · have ht : isTup d0 = true := by have := isD_cases (hV d0 (by simp)); rw [c2] at this; simpa using this
        obtain ⟨t, xs, es, rfl, rfl, hT, hE⟩ := fl_tup hx0 ht
        walk_at "rd"
        refine y_ixL (v := .ref t) hS5 (atI_nat (j := 0) rfl) ?_
        walk_at "rd"
        refine y_sliceL hS5 fun l H6 n6 e6 h6 => ?_
        exact ⟨.length, t, l, xs, _, es, dr, rfl, rfl, e6.st hT, hE.mono e6.et, hV _ (by simp), .of h6, by rw [cut_tail]; exact hxr.mono e6.et, fun d hd => hV d (List.mem_cons_of_mem _ hd), by rw [cut_tail]; simp only [List.length_cons] at hz; omega, fun v H' e h => q v H' (e1.trans (x45.trans (e6.trans e))) h⟩
  | item =>
    walk_at "rd"
    refine ifN (by decide +kernel) ?_
    walk_at "rd"
    refine ifN (by decide +kernel) ?_
    walk_at "rd"
    refine ifN (by decide +kernel) ?_
    walk_at "rd"
    refine k_tup fun t4 T4 n4 x4 h4 => ?_
    walk_at "rd"
    refine .inl ⟨t4, _, rfl, .inr (.of h4), rfl, rfl, ?_⟩
    rw [if_neg Bool.false_ne_true, show inV (V.str (Fn.nm .item)) [V.str (Str.ofString "min"), V.str (Str.ofString "max")] = false from by decide +kernel]
    walk_at "rd"
    refine ifN (by decide +kernel) ?_
    walk_at "rd"
    refine k_tup fun t5 T5 n5 x5 h5 => ?_
    walk_at "rd"
    refine .inl ⟨t5, _, rfl, .inr (.of h5), rfl, rfl, ?_⟩
    rw [if_neg Bool.false_ne_true, show inV (V.str (Fn.nm .item)) [V.str (Str.ofString "add"), V.str (Str.ofString "sub"), V.str (Str.ofString "mul"), V.str (Str.ofString "div"), V.str (Str.ofString "less")] = false from by decide +kernel]
    walk_at "rd"
    have x45 := x4.trans x5
    have hS5 := x45.sl hS1
    refine br (fun c => ?_) fun c => ?_
    · walk_at "rd"
      refine q _ T5 (e1.trans x45) ?_
      rw [lawRaw_n fun z => by have a1 : 2 ≤ ds.length := z.1.1; omega]
      exact fl_fault
    · obtain ⟨d0, dr, rfl⟩ : ∃ a b, ds = a :: b := by
        cases ds with
        | nil => exact absurd (by rw [hl]; rfl) c
        | cons a b => exact ⟨a, b, rfl⟩
      have hF5 := hF1.mono x45.et
      clear hF hF1
      cases hF5 with | cons hx0 hxr =>
      rename_i v0 vr
      walk_at "rd"
      refine y_ixL (v := v0) hS5 (atI_nat (j := 0) rfl) ?_
      walk_at "rd"
      refine y_isIntF hx0 (isD_V (hV d0 (by simp))) ?_
      walk_at "rd"
      refine brB (fun c2 => ?_) fun c2 => ?_
      · obtain ⟨i, rfl⟩ := isInt_inv c2
        walk_at "rd"
        refine q _ T5 (e1.trans x45) ?_
        rw [lawRaw_n fun z => by exact absurd z.2 (raw_int .item i dr rfl)]
        exact fl_fault
      · have ht : isTup d0 = true := by have := isD_cases (hV d0 (by simp)); rw [c2] at this; simpa using this
        obtain ⟨t, xs, es, rfl, rfl, hT, hE⟩ := fl_tup hx0 ht
        walk_at "rd"
        refine y_ixL (v := .ref t) hS5 (atI_nat (j := 0) rfl) ?_
        walk_at "rd"
        refine y_sliceL hS5 fun l H6 n6 e6 h6 => ?_
        exact ⟨.item, t, l, xs, _, es, dr, rfl, rfl, e6.st hT, hE.mono e6.et, hV _ (by simp), .of h6, by rw [cut_tail]; exact hxr.mono e6.et, fun d hd => hV d (List.mem_cons_of_mem _ hd), by rw [cut_tail]; simp only [List.length_cons] at hz; omega, fun v H' e h => q v H' (e1.trans (x45.trans (e6.trans e))) h⟩
  | pack =>
    walk_at "rd"
    refine ifY (by decide +kernel) ?_
    walk_at "rd"
    refine br (fun c => ?_) fun c => ?_
    · walk_at "rd"
      refine y_tupL hS1 fun t H2 n2 e2 h2 => ?_
      refine q _ H2 (e1.trans e2) ?_
      rw [lawRaw_y (f := .pack) (Nat.zero_le _) (show ds.length ≤ 6 by omega) (List.all_eq_true.mpr hV)]
      exact .tup (.of h2) (hF1.mono e2.et)
    · walk_at "rd"
      refine q _ H1 e1 ?_
      rw [lawRaw_n fun z => by have a : ds.length ≤ 6 := z.1.2; omega]
      exact fl_fault
  | join =>
    walk_at "rd"
    refine ifN (by decide +kernel) ?_
    walk_at "rd"
    refine ifY (by decide +kernel) ?_
    walk_at "rd"
    exact ⟨g, ws, ds, rfl, hS1, hF1, hV, hz, fun v H' e => q v H' (e1.trans e)⟩
  | take =>
    walk_at "rd"
    refine ifN (by decide +kernel) ?_
    walk_at "rd"
    refine ifN (by decide +kernel) ?_
    walk_at "rd"
    refine ifN (by decide +kernel) ?_
    walk_at "rd"
    refine k_tup fun t4 T4 n4 x4 h4 => ?_
    walk_at "rd"
    refine .inl ⟨t4, _, rfl, .inr (.of h4), rfl, rfl, ?_⟩
    rw [if_neg Bool.false_ne_true, show inV (V.str (Fn.nm .take)) [V.str (Str.ofString "min"), V.str (Str.ofString "max")] = false from by decide +kernel]
    walk_at "rd"
    refine ifN (by decide +kernel) ?_
    walk_at "rd"
    refine k_tup fun t5 T5 n5 x5 h5 => ?_
    walk_at "rd"
    refine .inl ⟨t5, _, rfl, .inr (.of h5), rfl, rfl, ?_⟩
    rw [if_neg Bool.false_ne_true, show inV (V.str (Fn.nm .take)) [V.str (Str.ofString "add"), V.str (Str.ofString "sub"), V.str (Str.ofString "mul"), V.str (Str.ofString "div"), V.str (Str.ofString "less")] = false from by decide +kernel]
    walk_at "rd"
    have x45 := x4.trans x5
    have hS5 := x45.sl hS1
    refine br (fun c => ?_) fun c => ?_
    · walk_at "rd"
      refine q _ T5 (e1.trans x45) ?_
      rw [lawRaw_n fun z => by have a1 : 2 ≤ ds.length := z.1.1; omega]
      exact fl_fault
    · obtain ⟨d0, dr, rfl⟩ : ∃ a b, ds = a :: b := by
        cases ds with
        | nil => exact absurd (by rw [hl]; rfl) c
        | cons a b => exact ⟨a, b, rfl⟩
      have hF5 := hF1.mono x45.et
      clear hF hF1
      cases hF5 with | cons hx0 hxr =>
      rename_i v0 vr
      walk_at "rd"
      refine y_ixL (v := v0) hS5 (atI_nat (j := 0) rfl) ?_
      walk_at "rd"
      refine y_isIntF hx0 (isD_V (hV d0 (by simp))) ?_
      walk_at "rd"
      refine brB (fun c2 => ?_) fun c2 => ?_
      · obtain ⟨i, rfl⟩ := isInt_inv c2
        walk_at "rd"
        refine q _ T5 (e1.trans x45) ?_
        rw [lawRaw_n fun z => by exact absurd z.2 (raw_int .take i dr rfl)]
        exact fl_fault
      · have ht : isTup d0 = true := by have := isD_cases (hV d0 (by simp)); rw [c2] at this; simpa using this
        obtain ⟨t, xs, es, rfl, rfl, hT, hE⟩ := fl_tup hx0 ht
        walk_at "rd"
        refine y_ixL (v := .ref t) hS5 (atI_nat (j := 0) rfl) ?_
        walk_at "rd"
        refine y_sliceL hS5 fun l H6 n6 e6 h6 => ?_
        exact ⟨.take, t, l, xs, _, es, dr, rfl, rfl, e6.st hT, hE.mono e6.et, hV _ (by simp), .of h6, by rw [cut_tail]; exact hxr.mono e6.et, fun d hd => hV d (List.mem_cons_of_mem _ hd), by rw [cut_tail]; simp only [List.length_cons] at hz; omega, fun v H' e h => q v H' (e1.trans (x45.trans (e6.trans e))) h⟩
  | drop =>
    walk_at "rd"
    refine ifN (by decide +kernel) ?_
    walk_at "rd"
    refine ifN (by decide +kernel) ?_
    walk_at "rd"
    refine ifN (by decide +kernel) ?_
    walk_at "rd"
    refine k_tup fun t4 T4 n4 x4 h4 => ?_
    walk_at "rd"
    refine .inl ⟨t4, _, rfl, .inr (.of h4), rfl, rfl, ?_⟩
    rw [if_neg Bool.false_ne_true, show inV (V.str (Fn.nm .drop)) [V.str (Str.ofString "min"), V.str (Str.ofString "max")] = false from by decide +kernel]
    walk_at "rd"
    refine ifN (by decide +kernel) ?_
    walk_at "rd"
    refine k_tup fun t5 T5 n5 x5 h5 => ?_
    walk_at "rd"
    refine .inl ⟨t5, _, rfl, .inr (.of h5), rfl, rfl, ?_⟩
    rw [if_neg Bool.false_ne_true, show inV (V.str (Fn.nm .drop)) [V.str (Str.ofString "add"), V.str (Str.ofString "sub"), V.str (Str.ofString "mul"), V.str (Str.ofString "div"), V.str (Str.ofString "less")] = false from by decide +kernel]
    walk_at "rd"
    have x45 := x4.trans x5
    have hS5 := x45.sl hS1
    refine br (fun c => ?_) fun c => ?_
    · walk_at "rd"
      refine q _ T5 (e1.trans x45) ?_
      rw [lawRaw_n fun z => by have a1 : 2 ≤ ds.length := z.1.1; omega]
      exact fl_fault
    · obtain ⟨d0, dr, rfl⟩ : ∃ a b, ds = a :: b := by
        cases ds with
        | nil => exact absurd (by rw [hl]; rfl) c
        | cons a b => exact ⟨a, b, rfl⟩
      have hF5 := hF1.mono x45.et
      clear hF hF1
      cases hF5 with | cons hx0 hxr =>
      rename_i v0 vr
      walk_at "rd"
      refine y_ixL (v := v0) hS5 (atI_nat (j := 0) rfl) ?_
      walk_at "rd"
      refine y_isIntF hx0 (isD_V (hV d0 (by simp))) ?_
      walk_at "rd"
      refine brB (fun c2 => ?_) fun c2 => ?_
      · obtain ⟨i, rfl⟩ := isInt_inv c2
        walk_at "rd"
        refine q _ T5 (e1.trans x45) ?_
        rw [lawRaw_n fun z => by exact absurd z.2 (raw_int .drop i dr rfl)]
        exact fl_fault
      · have ht : isTup d0 = true := by have := isD_cases (hV d0 (by simp)); rw [c2] at this; simpa using this
        obtain ⟨t, xs, es, rfl, rfl, hT, hE⟩ := fl_tup hx0 ht
        walk_at "rd"
        refine y_ixL (v := .ref t) hS5 (atI_nat (j := 0) rfl) ?_
        walk_at "rd"
        refine y_sliceL hS5 fun l H6 n6 e6 h6 => ?_
        exact ⟨.drop, t, l, xs, _, es, dr, rfl, rfl, e6.st hT, hE.mono e6.et, hV _ (by simp), .of h6, by rw [cut_tail]; exact hxr.mono e6.et, fun d hd => hV d (List.mem_cons_of_mem _ hd), by rw [cut_tail]; simp only [List.length_cons] at hz; omega, fun v H' e h => q v H' (e1.trans (x45.trans (e6.trans e))) h⟩
  | sort =>
    walk_at "rd"
    refine ifN (by decide +kernel) ?_
    walk_at "rd"
    refine ifN (by decide +kernel) ?_
    walk_at "rd"
    refine ifN (by decide +kernel) ?_
    walk_at "rd"
    refine k_tup fun t4 T4 n4 x4 h4 => ?_
    walk_at "rd"
    refine .inl ⟨t4, _, rfl, .inr (.of h4), rfl, rfl, ?_⟩
    rw [if_neg Bool.false_ne_true, show inV (V.str (Fn.nm .sort)) [V.str (Str.ofString "min"), V.str (Str.ofString "max")] = false from by decide +kernel]
    walk_at "rd"
    refine ifN (by decide +kernel) ?_
    walk_at "rd"
    refine k_tup fun t5 T5 n5 x5 h5 => ?_
    walk_at "rd"
    refine .inl ⟨t5, _, rfl, .inr (.of h5), rfl, rfl, ?_⟩
    rw [if_neg Bool.false_ne_true, show inV (V.str (Fn.nm .sort)) [V.str (Str.ofString "add"), V.str (Str.ofString "sub"), V.str (Str.ofString "mul"), V.str (Str.ofString "div"), V.str (Str.ofString "less")] = false from by decide +kernel]
    walk_at "rd"
    have x45 := x4.trans x5
    have hS5 := x45.sl hS1
    refine br (fun c => ?_) fun c => ?_
    · walk_at "rd"
      refine q _ T5 (e1.trans x45) ?_
      rw [lawRaw_n fun z => by have a1 : 1 ≤ ds.length := z.1.1; omega]
      exact fl_fault
    · obtain ⟨d0, dr, rfl⟩ : ∃ a b, ds = a :: b := by
        cases ds with
        | nil => exact absurd (by rw [hl]; rfl) c
        | cons a b => exact ⟨a, b, rfl⟩
      have hF5 := hF1.mono x45.et
      clear hF hF1
      cases hF5 with | cons hx0 hxr =>
      rename_i v0 vr
      walk_at "rd"
      refine y_ixL (v := v0) hS5 (atI_nat (j := 0) rfl) ?_
      walk_at "rd"
      refine y_isIntF hx0 (isD_V (hV d0 (by simp))) ?_
      walk_at "rd"
      refine brB (fun c2 => ?_) fun c2 => ?_
      · obtain ⟨i, rfl⟩ := isInt_inv c2
        walk_at "rd"
        refine q _ T5 (e1.trans x45) ?_
        rw [lawRaw_n fun z => by exact absurd z.2 (raw_int .sort i dr rfl)]
        exact fl_fault
      · have ht : isTup d0 = true := by have := isD_cases (hV d0 (by simp)); rw [c2] at this; simpa using this
        obtain ⟨t, xs, es, rfl, rfl, hT, hE⟩ := fl_tup hx0 ht
        walk_at "rd"
        refine y_ixL (v := .ref t) hS5 (atI_nat (j := 0) rfl) ?_
        walk_at "rd"
        refine y_sliceL hS5 fun l H6 n6 e6 h6 => ?_
        exact ⟨.sort, t, l, xs, _, es, dr, rfl, rfl, e6.st hT, hE.mono e6.et, hV _ (by simp), .of h6, by rw [cut_tail]; exact hxr.mono e6.et, fun d hd => hV d (List.mem_cons_of_mem _ hd), by rw [cut_tail]; simp only [List.length_cons] at hz; omega, fun v H' e h => q v H' (e1.trans (x45.trans (e6.trans e))) h⟩
  | total =>
    walk_at "rd"
    refine ifN (by decide +kernel) ?_
    walk_at "rd"
    refine ifN (by decide +kernel) ?_
    walk_at "rd"
    refine ifN (by decide +kernel) ?_
    walk_at "rd"
    refine k_tup fun t4 T4 n4 x4 h4 => ?_
    walk_at "rd"
    refine .inl ⟨t4, _, rfl, .inr (.of h4), rfl, rfl, ?_⟩
    rw [if_neg Bool.false_ne_true, show inV (V.str (Fn.nm .total)) [V.str (Str.ofString "min"), V.str (Str.ofString "max")] = false from by decide +kernel]
    walk_at "rd"
    refine ifN (by decide +kernel) ?_
    walk_at "rd"
    refine k_tup fun t5 T5 n5 x5 h5 => ?_
    walk_at "rd"
    refine .inl ⟨t5, _, rfl, .inr (.of h5), rfl, rfl, ?_⟩
    rw [if_neg Bool.false_ne_true, show inV (V.str (Fn.nm .total)) [V.str (Str.ofString "add"), V.str (Str.ofString "sub"), V.str (Str.ofString "mul"), V.str (Str.ofString "div"), V.str (Str.ofString "less")] = false from by decide +kernel]
    walk_at "rd"
    have x45 := x4.trans x5
    have hS5 := x45.sl hS1
    refine br (fun c => ?_) fun c => ?_
    · walk_at "rd"
      refine q _ T5 (e1.trans x45) ?_
      rw [lawRaw_n fun z => by have a1 : 1 ≤ ds.length := z.1.1; omega]
      exact fl_fault
    · obtain ⟨d0, dr, rfl⟩ : ∃ a b, ds = a :: b := by
        cases ds with
        | nil => exact absurd (by rw [hl]; rfl) c
        | cons a b => exact ⟨a, b, rfl⟩
      have hF5 := hF1.mono x45.et
      clear hF hF1
      cases hF5 with | cons hx0 hxr =>
      rename_i v0 vr
      walk_at "rd"
      refine y_ixL (v := v0) hS5 (atI_nat (j := 0) rfl) ?_
      walk_at "rd"
      refine y_isIntF hx0 (isD_V (hV d0 (by simp))) ?_
      walk_at "rd"
      refine brB (fun c2 => ?_) fun c2 => ?_
      · obtain ⟨i, rfl⟩ := isInt_inv c2
        walk_at "rd"
        refine q _ T5 (e1.trans x45) ?_
        rw [lawRaw_n fun z => by exact absurd z.2 (raw_int .total i dr rfl)]
        exact fl_fault
      · have ht : isTup d0 = true := by have := isD_cases (hV d0 (by simp)); rw [c2] at this; simpa using this
        obtain ⟨t, xs, es, rfl, rfl, hT, hE⟩ := fl_tup hx0 ht
        walk_at "rd"
        refine y_ixL (v := .ref t) hS5 (atI_nat (j := 0) rfl) ?_
        walk_at "rd"
        refine y_sliceL hS5 fun l H6 n6 e6 h6 => ?_
        exact ⟨.total, t, l, xs, _, es, dr, rfl, rfl, e6.st hT, hE.mono e6.et, hV _ (by simp), .of h6, by rw [cut_tail]; exact hxr.mono e6.et, fun d hd => hV d (List.mem_cons_of_mem _ hd), by rw [cut_tail]; simp only [List.length_cons] at hz; omega, fun v H' e h => q v H' (e1.trans (x45.trans (e6.trans e))) h⟩
  | turn =>
    walk_at "rd"
    refine ifN (by decide +kernel) ?_
    walk_at "rd"
    refine ifN (by decide +kernel) ?_
    walk_at "rd"
    refine ifN (by decide +kernel) ?_
    walk_at "rd"
    refine k_tup fun t4 T4 n4 x4 h4 => ?_
    walk_at "rd"
    refine .inl ⟨t4, _, rfl, .inr (.of h4), rfl, rfl, ?_⟩
    rw [if_neg Bool.false_ne_true, show inV (V.str (Fn.nm .turn)) [V.str (Str.ofString "min"), V.str (Str.ofString "max")] = false from by decide +kernel]
    walk_at "rd"
    refine ifN (by decide +kernel) ?_
    walk_at "rd"
    refine k_tup fun t5 T5 n5 x5 h5 => ?_
    walk_at "rd"
    refine .inl ⟨t5, _, rfl, .inr (.of h5), rfl, rfl, ?_⟩
    rw [if_neg Bool.false_ne_true, show inV (V.str (Fn.nm .turn)) [V.str (Str.ofString "add"), V.str (Str.ofString "sub"), V.str (Str.ofString "mul"), V.str (Str.ofString "div"), V.str (Str.ofString "less")] = false from by decide +kernel]
    walk_at "rd"
    have x45 := x4.trans x5
    have hS5 := x45.sl hS1
    refine br (fun c => ?_) fun c => ?_
    · walk_at "rd"
      refine q _ T5 (e1.trans x45) ?_
      rw [lawRaw_n fun z => by have a1 : 1 ≤ ds.length := z.1.1; omega]
      exact fl_fault
    · obtain ⟨d0, dr, rfl⟩ : ∃ a b, ds = a :: b := by
        cases ds with
        | nil => exact absurd (by rw [hl]; rfl) c
        | cons a b => exact ⟨a, b, rfl⟩
      have hF5 := hF1.mono x45.et
      clear hF hF1
      cases hF5 with | cons hx0 hxr =>
      rename_i v0 vr
      walk_at "rd"
      refine y_ixL (v := v0) hS5 (atI_nat (j := 0) rfl) ?_
      walk_at "rd"
      refine y_isIntF hx0 (isD_V (hV d0 (by simp))) ?_
      walk_at "rd"
      refine brB (fun c2 => ?_) fun c2 => ?_
      · obtain ⟨i, rfl⟩ := isInt_inv c2
        walk_at "rd"
        refine q _ T5 (e1.trans x45) ?_
        rw [lawRaw_n fun z => by exact absurd z.2 (raw_int .turn i dr rfl)]
        exact fl_fault
      · have ht : isTup d0 = true := by have := isD_cases (hV d0 (by simp)); rw [c2] at this; simpa using this
        obtain ⟨t, xs, es, rfl, rfl, hT, hE⟩ := fl_tup hx0 ht
        walk_at "rd"
        refine y_ixL (v := .ref t) hS5 (atI_nat (j := 0) rfl) ?_
        walk_at "rd"
        refine y_sliceL hS5 fun l H6 n6 e6 h6 => ?_
        exact ⟨.turn, t, l, xs, _, es, dr, rfl, rfl, e6.st hT, hE.mono e6.et, hV _ (by simp), .of h6, by rw [cut_tail]; exact hxr.mono e6.et, fun d hd => hV d (List.mem_cons_of_mem _ hd), by rw [cut_tail]; simp only [List.length_cons] at hz; omega, fun v H' e h => q v H' (e1.trans (x45.trans (e6.trans e))) h⟩
end

end My
end

section
set_option Elab.async false
set_option linter.all false
set_option maxRecDepth 100000
set_option maxHeartbeats 4000000
namespace My
open PySem PySem.Spec PyProof.Rows L2 Ls SX LamX
local macro_rules | `(tactic| walk_at "rd1") => `(tactic| (first | ((with_reducible refine' Ls.r_var ?hV ?_); (case hV => exact rfl)) | (with_reducible refine Ls.r_c ?_) | (with_reducible refine Ls.r_op ?_) | (with_reducible refine Ls.r_un ?_) | (with_reducible refine Ls.r_nil ?_) | (with_reducible refine Ls.r_cons ?_) | (with_reducible refine Ls.r_cb ?_) | (with_reducible refine Ls.r_ckw ?_) | (with_reducible refine Ls.r_cal ?_) | (with_reducible refine Ls.r_calK ?_) | (with_reducible refine Ls.r_tup ?_) | (with_reducible refine Ls.r_lst ?_) | (with_reducible refine Ls.r_if ?_) | (with_reducible refine Ls.r_andV ?_) | (with_reducible refine Ls.r_orV ?_) | (with_reducible refine Ls.r_notV ?_) | (with_reducible refine Ls.r_chain ?_) | (with_reducible refine Ls.r_sl ?_) | (with_reducible refine Ls.r_nopart ?_) | (with_reducible refine Ls.r_part ?_) | (with_reducible refine Ls.k_part ?_) | (with_reducible refine Ls.r_test ?_) | (with_reducible refine Ls.r_B ?_) | (with_reducible refine Ls.k_B ?_) | (with_reducible refine Ls.r_not ?_) | (with_reducible refine Ls.r_and ?_) | (with_reducible refine Ls.r_or ?_) | (with_reducible refine Ls.r_seq ?_) | (with_reducible refine Ls.r_ifS ?_) | (with_reducible refine Ls.r_next ?_) | (with_reducible refine Ls.r_brk ?_) | (with_reducible refine Ls.r_cont ?_) | (with_reducible refine Ls.r_ret ?_) | (with_reducible refine Ls.r_retN ?_) | (with_reducible refine Ls.r_drop ?_) | (with_reducible refine Ls.r_asg ?_) | (with_reducible refine Ls.r_par ?_) | (with_reducible refine Ls.k_par ?_) | ((with_reducible refine' Ls.r_aug ?hV ?_); (case hV => exact rfl)) | (with_reducible refine Ls.y_ip ?_) | (with_reducible refine Ls.g_name ?_) | (with_reducible refine Ls.g_nil ?_) | (with_reducible refine Ls.g_cons ?_) | (with_reducible refine Ls.g_sub ?_) | (with_reducible refine Ls.e_end ?_) | (with_reducible refine Ls.e_endr ?_) | (with_reducible refine Ls.e_nx ?_) | (with_reducible refine Ls.e_rt ?_) | (with_reducible refine Ls.e_bk ?_) | (with_reducible refine Ls.e_ct ?_) | (with_reducible refine Ls.r_for ?_) | (with_reducible refine Ls.i_seq ?_) | (with_reducible refine Ls.r_xi ?_) | (with_reducible refine Ls.r_xo ?_) | (with_reducible refine Ls.r_mk ?_) | (with_reducible refine Ls.r_xf ?_) | (with_reducible refine Ls.i_enum ?_) | (with_reducible refine Ls.i_rng1 ?_) | (with_reducible refine Ls.r_m1 ?_) | (with_reducible refine Ls.r_m0 ?_) | (with_reducible refine Ls.k_isS ?_) | (with_reducible refine Ls.r_bm ?_) | (with_reducible refine Ls.r_lc ?_) | (with_reducible refine Ls.y_add ?_) | (with_reducible refine Ls.y_sub ?_) | (with_reducible refine Ls.y_neg ?_) | (with_reducible refine Ls.y_lt ?_) | (with_reducible refine Ls.y_le ?_) | (with_reducible refine Ls.y_gt ?_) | (with_reducible refine Ls.y_ge ?_) | (with_reducible refine Ls.y_eqI ?_) | (with_reducible refine Ls.y_eqS ?_) | (with_reducible refine Ls.y_neI ?_) | (with_reducible refine Ls.y_neS ?_) | (with_reducible refine Ls.y_isNo ?_) | (with_reducible refine Ls.y_isntNo ?_) | (with_reducible refine Ls.y_abs ?_) | (with_reducible refine Ls.y_max2 ?_) | (with_reducible refine Ls.y_min2 ?_) | (with_reducible refine Ls.y_intI ?_) | (with_reducible refine Ls.y_intB ?_) | ((with_reducible refine' Ls.y_ixL ?hS ?hA ?_); (case hS => first | assumption | exact L2.SqL.of (by assumption)); (case hA => rfl)) | ((with_reducible refine' Ls.y_ixT ?hS ?hA ?_); (case hS => first | assumption | exact L2.SqT.of (by assumption)); (case hA => rfl)) | ((with_reducible refine' Ls.y_mod ?hC ?_); (case hC => first | decide | omega)) | ((with_reducible refine' Ls.y_fdiv ?hC ?_); (case hC => first | decide | (constructor <;> omega))) | ((with_reducible refine' Ls.y_pow ?hC ?_); (case hC => exact ⟨by decide, by decide, by decide⟩)) | ((with_reducible refine' Ls.y_mul ?hC ?_); (case hC => first | exact .inr ⟨by decide, by decide⟩ | exact .inl ⟨by decide, by decide⟩ | exact .inr ⟨by omega, by omega⟩ | exact .inl ⟨by omega, by omega⟩)) | (with_reducible refine L2.iteT ?_) | (with_reducible refine L2.iteF ?_) | (with_reducible refine Ls.iteNF ?_) | (with_reducible refine Ls.iteNT ?_)))
local macro_rules | `(tactic| walk_at "rd") => `(tactic| (repeat walk_at "rd1"))
local macro_rules | `(tactic| walk_at "lits") => `(tactic| (first | exact Ls.lit_nil | (refine' Ls.lit_cons ?hL ?hR; (case hL => walk_at "lits"); (case hR => walk_at "lits")) | exact Ls.lit_non | exact Ls.lit_bl | exact Ls.lit_int | exact Ls.lit_str | exact Ls.lit_neg | exact Ls.lit_dn | exact Ls.lit_d1 | exact Ls.lit_d1s | (refine' Ls.lit_tup ?hA ?hZ; (case hA => walk_at "lits"); (case hZ => first | decide | simp)) | (refine' Ls.lit_lst ?hA ?hZ; (case hA => walk_at "lits"); (case hZ => first | decide | simp))))

section
variable {P : Program} {w : World} {K : PySem.W.Frag} {mg : Str → Option Value} {base : Heap} (nd : base.NoDigits)
include nd
theorem ok_datumW (T : Tx K mg w) (C_law_digit : Cal P w K mg base 1 "_law_digit" s_law_digit P_law_digit sp_digit) (C_law_int : Cal P w K mg base 2 "_law_int" s_law_int P_law_int sp_int) : ∀ n, Cal P w K mg base (n + 3) "_law_datum" s_law_datum P_law_datum (sp_ldatumW K n)
  | 0 => (T.d_law_datum.never fun vs H Q E h => by obtain ⟨p, m, _, _, z, _⟩ := h; omega).up (by omega)
  | n + 1 => by
    have C_law_datum := ok_datumW T C_law_digit C_law_int n
    refine T.d_law_datum.ok sc_law_datum (fun vs H Q E h => ?_) (fun f cdv A outer s H vs Q E hr h => ?_)
    · obtain ⟨p, m, rfl, _⟩ := h; rfl
    obtain ⟨p, m, rfl, hP, hm, q⟩ := h
    refine ⟨_, PSs.nox (pss_cons (ps_if (PW.pt (pw_or (pt_cmpR (op_eqU hr) (pv 1) pe_int (nomark _)) (pw_or1 (pt_cmpR op_gtU (pe_g C_law_digit (hr.mono (by omega)) px0 (pa_cons (pv 0) (pa_cons pe_int pa_nil))) pe_int (nomark _))))) (pss_one (ps_ret (pe_g C_law_int (hr.mono (by omega)) px0 (pa_cons (pv 0) pa_nil)))) pss_nil)
      (pss_one (ps_ret (pe_callTy call_tupleU (by rfl) T.n_tuple (by decide +kernel) (pa_cons (pe_lc (own := [("_law_k", 2)]) rfl sc_law_datum.nd (pi_range1 rfl T.n_range (pa_cons (pe_g C_law_digit (hr.mono (by omega)) px0 (pa_cons (pv 0) (pa_cons pe_int pa_nil))) pa_nil)) (blkOk_by (own := [("_law_k", 2)]) (N := N_law_datum) (sc := defScope s_law_datum) (by decide +kernel)) (fun _ _ _ _ _ => (pg_name (i := 2) sc_law_datum.nd rfl (Or.inl rfl))) (fun _ _ _ _ _ => pts_nil) (fun _ _ _ _ _ => (pe_g C_law_datum (hr.mono (by omega)) px0 (pa_cons (pv 0) (pa_cons (pe_op op_subU (pv 1) pe_int) pa_nil))))) pa_nil))))), ?_⟩
    have leaf : ∀ (i : Int) H', i.natAbs ≤ 10 ^ 21 → Pt H' p → Em p H H' → Q (.int i) H' := fun i H' hi P1 e1 => q (.int i) (.int i) H' (.int i) (lw_int hi m) P1 e1
    walk_at "rd"
    refine br (fun h0 => ?_) fun h0 => ?_
    · walk_at "rd"
      exact ⟨p, rfl, hP, leaf⟩
    · walk_at "rd"
      refine ⟨p, 3, rfl, hP, by decide, by decide, fun w1 H1 w0 w3 P1 e1 => ?_⟩
      walk_at "rd"
      refine br (fun hw => ?_) fun hw => ?_
      · walk_at "rd"
        exact ⟨p, rfl, P1, fun i H' hi P2 e2 => leaf i H' hi P2 (e1.trans e2)⟩
      · walk_at "rd"
        refine ⟨p, _, rfl, P1, by decide, by decide, fun c H2 c0 c5 P2 e2 => ?_⟩
        walk_at "rd"
        refine i_r1 (by omega) (by omega) ?_
        obtain ⟨m, rfl⟩ : ∃ k, m = k + 1 := ⟨m - 1, by omega⟩
        have hm1 : ((m + 1 : Nat) : Int) - 1 = ((m : Nat) : Int) := by omega
        refine k_lcPot (fun y H' => ∃ d, Fl K H' y d ∧ lw m d) (fun y H H' e ⟨d, h1, h2⟩ => ⟨d, h1.mono e, h2⟩) P2 (by omega) (fun j H3 Q1 hj e3 P3 hq => ?_) (fun x => rfl) fun D ys H3 nD e3 P3 hD hl hy => ?_
        · walk_at "rd"
          rw [hm1]
          exact ⟨p, m, rfl, P3, by omega, fun v d H4 hv hg P4 e4 => hq v H4 e4 P4 ⟨d, hv, hg⟩⟩
        · walk_at "rd"
          obtain ⟨ds, hF, hG⟩ := fl_all hy
          refine y_tupL (.of hD) fun l H4 nl e4 h4 => ?_
          have hl2 := hF.length
          exact q (.ref l) (.tuple ds) H4 (.tup (.of h4) (hF.mono e4.et)) (.inr ⟨ds, rfl, by omega, hG⟩) (P3.ex e4) ((e1.trans (e2.trans e3)).trans (e4.em p))
theorem ok_lints (T : Tx K mg w) (C_law_digit : Cal P w K mg base 1 "_law_digit" s_law_digit P_law_digit sp_digit) (C_law_int : Cal P w K mg base 2 "_law_int" s_law_int P_law_int sp_int) : Cal P w K mg base 3 "_law_ints" s_law_ints P_law_ints (sp_lints K) := by
  refine T.d_law_ints.ok sc_law_ints (fun vs H Q E h => ?_) (fun f cdv A outer s H vs Q E hr h => ?_)
  · obtain ⟨p, m, rfl, _⟩ := h; rfl
  obtain ⟨p, m, rfl, hP, hm, q⟩ := h
  refine ⟨_, PSs.nox (pss_one (ps_ret (pe_callTy call_tupleU (by rfl) T.n_tuple (by decide +kernel) (pa_cons (pe_lc (own := [("_law_turn", 2)]) rfl sc_law_ints.nd (pi_range1 rfl T.n_range (pa_cons (pe_g C_law_digit (hr.mono (by omega)) px0 (pa_cons (pv 0) (pa_cons (pe_op op_addU (pv 1) pe_int) pa_nil))) pa_nil)) (blkOk_by (own := [("_law_turn", 2)]) (N := N_law_ints) (sc := defScope s_law_ints) (by decide +kernel)) (fun _ _ _ _ _ => (pg_name (i := 2) sc_law_ints.nd rfl (Or.inl rfl))) (fun _ _ _ _ _ => pts_nil) (fun _ _ _ _ _ => (pe_g C_law_int (hr.mono (by omega)) px0 (pa_cons (pv 0) pa_nil)))) pa_nil)))), ?_⟩
  walk_at "rd"
  refine ⟨p, _, rfl, hP, by omega, by omega, fun c H2 c0 c5 P2 e2 => ?_⟩
  walk_at "rd"
  refine i_r1 (by omega) (by omega) ?_
  refine k_lcPot (fun y H' => ∃ d, Fl K H' y d ∧ ∃ i : Int, d = .int i ∧ i.natAbs ≤ 10 ^ 21) (fun y H H' e ⟨d, h1, h2⟩ => ⟨d, h1.mono e, h2⟩) P2 (by omega) (fun j H3 Q1 hj e3 P3 hq => ?_) (fun x => rfl) fun D ys H3 nD e3 P3 hD hl hy => ?_
  · walk_at "rd"
    exact ⟨p, rfl, P3, fun i H4 hi P4 e4 => hq _ H4 e4 P4 ⟨.int i, .int i, i, rfl, hi⟩⟩
  · walk_at "rd"
    obtain ⟨ds, hF, hG⟩ := fl_all hy
    refine y_tupL (.of hD) fun l H4 nl e4 h4 => ?_
    have hl2 := hF.length
    exact q (.ref l) (.tuple ds) H4 (.tup (.of h4) (hF.mono e4.et)) (ints_V (by omega) hG) (P3.ex e4) ((e2.trans e3).trans (e4.em p))
theorem ok_lresult (T : Tx K mg w) {k : Nat} (C_law_raw : Cal P w K mg base k "_law_raw" s_law_raw P_law_raw (sp_lraw K)) (hk : k ≤ 13) (C_law_fits : Cal P w K mg base 13 "_law_fits" s_law_fits P_law_fits (sp_lfitsW K 11)) : Cal P w K mg base 14 "_law_result" s_law_result P_law_result (sp_lresult K) := by
  refine T.d_law_result.ok sc_law_result (fun vs H Q E h => ?_) (fun ff cdv A outer s H vs Q E hr h => ?_)
  · obtain ⟨f, g, ws, ds, rfl, _⟩ := h; rfl
  obtain ⟨f, g, ws, ds, rfl, hS, hF, hV, hz, q⟩ := h
  refine ⟨_, PSs.nox (pss_cons (ps_if (pt_cmpR (op_inU hr) pe_str (pv 1) (by rfl)) (pss_one (ps_ret pe_str)) pss_nil)
      (pss_cons (ps_set (i := 2) sc_law_result.nd rfl (by first | exact .inl rfl | exact .inr rfl) (pe_g C_law_raw (hr.mono (by omega)) px0 (pa_cons (pv 0) (pa_cons (pv 1) pa_nil))))
      (pss_one (ps_ret (pe_ifExp (PW.pt (pw_and (pt_cmpR (op_neU hr) (pv 2) pe_str (nomark _)) (pw_and1 (pt_val (pe_g C_law_fits (hr.mono (by omega)) px0 (pa_cons (pv 2) pa_nil)))))) (pv 2) pe_str))))), ?_⟩
  walk_at "rd"
  refine y_inFault hS hF hV ?_
  rw [any_fault hV]
  walk_at "rd"
  refine brB (fun hf => ?_) fun hf => ?_
  · walk_at "rd"
    refine q _ H (Ex.refl H) ?_
    rw [app_fault f hf]
    exact fl_fault
  · have hD := no_fault hV hf
    walk_at "rd"
    refine ⟨f, g, ws, ds, rfl, hS, hF, hD, hz, fun v H1 e1 hv => ?_⟩
    walk_at "rd"
    by_cases hc : (f.lo ≤ ds.length ∧ ds.length ≤ f.hi) ∧ f.check ds = true
    · have hr1 := lawRaw_y hc.1.1 hc.1.2 hc.2
      have hg : gwD (lawRaw f ds) = true := by rw [hr1]; exact raw_gw f hD hc.1.1 hc.1.2 hc.2
      have ht : tdp (lawRaw f ds) < 10 := by rw [hr1]; exact (raw_sm f (List.all_eq_true.mpr hV) hc.1.1 hc.1.2 hc.2).2
      refine y_neFaultW hv hg (by omega) ?_
      walk_at "rd"
      refine ⟨v, _, rfl, hv, hg, by omega, by omega, fun H2 e2 => ?_⟩
      rw [ft_eq]
      walk_at "rd"
      have ea := app_raw f ds
      refine brB (fun hd => ?_) fun hd => ?_
      · walk_at "rd"
        rw [if_pos hd] at ea
        refine q _ H2 (e1.trans e2) ?_
        rw [ea]
        exact hv.mono e2.et
      · walk_at "rd"
        rw [if_neg (by rw [hd]; exact Bool.false_ne_true)] at ea
        refine q _ H2 (e1.trans e2) ?_
        rw [ea]
        exact fl_fault
    · have hr1 := lawRaw_n hc
      rw [hr1] at hv
      cases hv
      walk_at "rd"
      refine ifnN rfl ?_
      walk_at "rd"
      refine q _ H1 e1 ?_
      rw [app_raw, hr1, fault_no]
      exact fl_fault
theorem ok_lapplied (T : Tx K mg w) (C_apply : CalS P w K mg base 16 "apply" (spStar 1 (sp_app K (fA mg "UnknownFunction") (fA mg "InvalidValue")))) : Cal P w K mg base 17 "_law_applied" s_law_applied P_law_applied (sp_lapplied K) := by
  refine T.d_law_applied.ok sc_law_applied (fun vs H Q E h => ?_) (fun ff cdv A outer s H vs Q E hr h => ?_)
  · obtain ⟨f, g, ws, ds, rfl, _⟩ := h; rfl
  obtain ⟨f, g, ws, ds, rfl, hS, hF, hV, hz, q⟩ := h
  refine ⟨_, PSs.nox (pss_cons (ps_if (pt_cmpR (op_eqU hr) (pe_callB call_lenU (by rfl) T.n_len (by decide +kernel) (pa_cons (pv 1) pa_nil)) pe_int (nomark _)) (pss_one (ps_ret (pe_gS C_apply (hr.mono (by omega)) px0 (pa_cons (pv 0) pa_nil)))) pss_nil)
      (pss_cons (ps_if (pt_cmpR (op_eqU hr) (pe_callB call_lenU (by rfl) T.n_len (by decide +kernel) (pa_cons (pv 1) pa_nil)) pe_int (nomark _)) (pss_one (ps_ret (pe_gS C_apply (hr.mono (by omega)) px0 (pa_cons (pv 0) (pa_cons (pe_ix ix_seq (pv 1) pe_int (fun _ _ => rfl)) pa_nil))))) pss_nil)
      (pss_cons (ps_if (pt_cmpR (op_eqU hr) (pe_callB call_lenU (by rfl) T.n_len (by decide +kernel) (pa_cons (pv 1) pa_nil)) pe_int (nomark _)) (pss_one (ps_ret (pe_gS C_apply (hr.mono (by omega)) px0 (pa_cons (pv 0) (pa_cons (pe_ix ix_seq (pv 1) pe_int (fun _ _ => rfl)) (pa_cons (pe_ix ix_seq (pv 1) pe_int (fun _ _ => rfl)) pa_nil)))))) pss_nil)
      (pss_cons (ps_if (pt_cmpR (op_eqU hr) (pe_callB call_lenU (by rfl) T.n_len (by decide +kernel) (pa_cons (pv 1) pa_nil)) pe_int (nomark _)) (pss_one (ps_ret (pe_gS C_apply (hr.mono (by omega)) px0 (pa_cons (pv 0) (pa_cons (pe_ix ix_seq (pv 1) pe_int (fun _ _ => rfl)) (pa_cons (pe_ix ix_seq (pv 1) pe_int (fun _ _ => rfl)) (pa_cons (pe_ix ix_seq (pv 1) pe_int (fun _ _ => rfl)) pa_nil))))))) pss_nil)
      (pss_cons (ps_if (pt_cmpR (op_eqU hr) (pe_callB call_lenU (by rfl) T.n_len (by decide +kernel) (pa_cons (pv 1) pa_nil)) pe_int (nomark _)) (pss_one (ps_ret (pe_gS C_apply (hr.mono (by omega)) px0 (pa_cons (pv 0) (pa_cons (pe_ix ix_seq (pv 1) pe_int (fun _ _ => rfl)) (pa_cons (pe_ix ix_seq (pv 1) pe_int (fun _ _ => rfl)) (pa_cons (pe_ix ix_seq (pv 1) pe_int (fun _ _ => rfl)) (pa_cons (pe_ix ix_seq (pv 1) pe_int (fun _ _ => rfl)) pa_nil)))))))) pss_nil)
      (pss_cons (ps_asg (pe_slice sl_U (pv 1) po_none (po_some pe_int)) (pg_unl rfl (pgs_cons (pg_name (i := 2) sc_law_applied.nd rfl (by first | exact .inl rfl | exact .inr rfl)) (pgs_cons (pg_name (i := 3) sc_law_applied.nd rfl (by first | exact .inl rfl | exact .inr rfl)) (pgs_cons (pg_name (i := 4) sc_law_applied.nd rfl (by first | exact .inl rfl | exact .inr rfl)) (pgs_cons (pg_name (i := 5) sc_law_applied.nd rfl (by first | exact .inl rfl | exact .inr rfl)) (pgs_cons (pg_name (i := 6) sc_law_applied.nd rfl (by first | exact .inl rfl | exact .inr rfl)) pgs_nil)))))))
      (pss_cons (ps_if (pt_cmpR (op_eqU hr) (pe_callB call_lenU (by rfl) T.n_len (by decide +kernel) (pa_cons (pv 1) pa_nil)) pe_int (nomark _)) (pss_one (ps_ret (pe_gS C_apply (hr.mono (by omega)) px0 (pa_cons (pv 0) (pa_cons (pv 2) (pa_cons (pv 3) (pa_cons (pv 4) (pa_cons (pv 5) (pa_cons (pv 6) pa_nil))))))))) pss_nil)
      (pss_cons (ps_if (pt_cmpR (op_eqU hr) (pe_callB call_lenU (by rfl) T.n_len (by decide +kernel) (pa_cons (pv 1) pa_nil)) pe_int (nomark _)) (pss_one (ps_ret (pe_gS C_apply (hr.mono (by omega)) px0 (pa_cons (pv 0) (pa_cons (pv 2) (pa_cons (pv 3) (pa_cons (pv 4) (pa_cons (pv 5) (pa_cons (pv 6) (pa_cons (pe_ix ix_seq (pv 1) pe_int (fun _ _ => rfl)) pa_nil)))))))))) pss_nil)
      (pss_one (ps_ret (pe_gS C_apply (hr.mono (by omega)) px0 (pa_cons (pv 0) (pa_cons (pv 2) (pa_cons (pv 3) (pa_cons (pv 4) (pa_cons (pv 5) (pa_cons (pv 6) (pa_cons (pe_ix ix_seq (pv 1) pe_int (fun _ _ => rfl)) (pa_cons (pe_ix ix_seq (pv 1) pe_int (fun _ _ => rfl)) pa_nil))))))))))))))))))), ?_⟩
  walk_at "rd"
  refine y_lenL hS ?_
  walk_at "rd"
  rcases ws with _ | ⟨x1, _ | ⟨x2, _ | ⟨x3, _ | ⟨x4, r⟩⟩⟩⟩
  · refine ifY rfl ?_
    walk_at "rd"
    exact app_val hF hV (by simp) q
  · refine ifN (by simp) ?_
    walk_at "rd"
    refine y_lenL hS ?_
    walk_at "rd"
    refine ifY rfl ?_
    walk_at "rd"
    exact app_val hF hV (by simp) q
  · refine ifN (by simp) ?_
    walk_at "rd"
    refine y_lenL hS ?_
    walk_at "rd"
    refine ifN (by simp) ?_
    walk_at "rd"
    refine y_lenL hS ?_
    walk_at "rd"
    refine ifY rfl ?_
    walk_at "rd"
    exact app_val hF hV (by simp) q
  · refine ifN (by simp) ?_
    walk_at "rd"
    refine y_lenL hS ?_
    walk_at "rd"
    refine ifN (by simp) ?_
    walk_at "rd"
    refine y_lenL hS ?_
    walk_at "rd"
    refine ifN (by simp) ?_
    walk_at "rd"
    refine y_lenL hS ?_
    walk_at "rd"
    refine ifY rfl ?_
    walk_at "rd"
    exact app_val hF hV (by simp) q
  refine ifN (by simp; omega) ?_
  walk_at "rd"
  refine y_lenL hS ?_
  walk_at "rd"
  refine ifN (by simp; omega) ?_
  walk_at "rd"
  refine y_lenL hS ?_
  walk_at "rd"
  refine ifN (by simp; omega) ?_
  walk_at "rd"
  refine y_lenL hS ?_
  walk_at "rd"
  refine ifN (by simp; omega) ?_
  walk_at "rd"
  refine y_lenL hS ?_
  walk_at "rd"
  rcases r with _ | ⟨x5, _ | ⟨x6, _ | ⟨x7, _ | ⟨x8, r⟩⟩⟩⟩
  · refine ifY rfl ?_
    walk_at "rd"
    exact app_val hF hV (by simp) q
  · refine ifN (by simp) ?_
    walk_at "rd"
    refine y_sliceL hS fun l H1 n1 e1 h1 => ?_
    have hS1 := e1.sl hS
    refine ⟨l, [x1, x2, x3, x4, x5], rfl, .of (show H1 l = some (.lst [x1, x2, x3, x4, x5]) from h1), rfl, ?_⟩
    walk_at "rd"
    refine y_lenL hS1 ?_
    walk_at "rd"
    refine ifY rfl ?_
    walk_at "rd"
    exact app_val (hF.mono e1.et) hV (by simp) fun v H' e h => q v H' (e1.trans e) h
  · refine ifN (by simp) ?_
    walk_at "rd"
    refine y_sliceL hS fun l H1 n1 e1 h1 => ?_
    have hS1 := e1.sl hS
    refine ⟨l, [x1, x2, x3, x4, x5], rfl, .of (show H1 l = some (.lst [x1, x2, x3, x4, x5]) from h1), rfl, ?_⟩
    walk_at "rd"
    refine y_lenL hS1 ?_
    walk_at "rd"
    refine ifN (by simp) ?_
    walk_at "rd"
    refine y_lenL hS1 ?_
    walk_at "rd"
    refine ifY rfl ?_
    walk_at "rd"
    exact app_val (hF.mono e1.et) hV (by simp) fun v H' e h => q v H' (e1.trans e) h
  · refine ifN (by simp) ?_
    walk_at "rd"
    refine y_sliceL hS fun l H1 n1 e1 h1 => ?_
    have hS1 := e1.sl hS
    refine ⟨l, [x1, x2, x3, x4, x5], rfl, .of (show H1 l = some (.lst [x1, x2, x3, x4, x5]) from h1), rfl, ?_⟩
    walk_at "rd"
    refine y_lenL hS1 ?_
    walk_at "rd"
    refine ifN (by simp) ?_
    walk_at "rd"
    refine y_lenL hS1 ?_
    walk_at "rd"
    refine ifN (by simp) ?_
    walk_at "rd"
    exact app_val (hF.mono e1.et) hV (by simp) fun v H' e h => q v H' (e1.trans e) h
  · simp only [List.length_cons] at hz
    omega
end

end My
end

section
set_option Elab.async false
set_option linter.all false
set_option maxRecDepth 100000
set_option maxHeartbeats 4000000
namespace My
open PySem PySem.Spec PyProof.Rows L2 Ls SX LamX
local macro_rules | `(tactic| walk_at "rd1") => `(tactic| (first | ((with_reducible refine' Ls.r_var ?hV ?_); (case hV => exact rfl)) | (with_reducible refine Ls.r_c ?_) | (with_reducible refine Ls.r_op ?_) | (with_reducible refine Ls.r_un ?_) | (with_reducible refine Ls.r_nil ?_) | (with_reducible refine Ls.r_cons ?_) | (with_reducible refine Ls.r_cb ?_) | (with_reducible refine Ls.r_ckw ?_) | (with_reducible refine Ls.r_cal ?_) | (with_reducible refine Ls.r_calK ?_) | (with_reducible refine Ls.r_tup ?_) | (with_reducible refine Ls.r_lst ?_) | (with_reducible refine Ls.r_if ?_) | (with_reducible refine Ls.r_andV ?_) | (with_reducible refine Ls.r_orV ?_) | (with_reducible refine Ls.r_notV ?_) | (with_reducible refine Ls.r_chain ?_) | (with_reducible refine Ls.r_sl ?_) | (with_reducible refine Ls.r_nopart ?_) | (with_reducible refine Ls.r_part ?_) | (with_reducible refine Ls.k_part ?_) | (with_reducible refine Ls.r_test ?_) | (with_reducible refine Ls.r_B ?_) | (with_reducible refine Ls.k_B ?_) | (with_reducible refine Ls.r_not ?_) | (with_reducible refine Ls.r_and ?_) | (with_reducible refine Ls.r_or ?_) | (with_reducible refine Ls.r_seq ?_) | (with_reducible refine Ls.r_ifS ?_) | (with_reducible refine Ls.r_next ?_) | (with_reducible refine Ls.r_brk ?_) | (with_reducible refine Ls.r_cont ?_) | (with_reducible refine Ls.r_ret ?_) | (with_reducible refine Ls.r_retN ?_) | (with_reducible refine Ls.r_drop ?_) | (with_reducible refine Ls.r_asg ?_) | (with_reducible refine Ls.r_par ?_) | (with_reducible refine Ls.k_par ?_) | ((with_reducible refine' Ls.r_aug ?hV ?_); (case hV => exact rfl)) | (with_reducible refine Ls.y_ip ?_) | (with_reducible refine Ls.g_name ?_) | (with_reducible refine Ls.g_nil ?_) | (with_reducible refine Ls.g_cons ?_) | (with_reducible refine Ls.g_sub ?_) | (with_reducible refine Ls.e_end ?_) | (with_reducible refine Ls.e_endr ?_) | (with_reducible refine Ls.e_nx ?_) | (with_reducible refine Ls.e_rt ?_) | (with_reducible refine Ls.e_bk ?_) | (with_reducible refine Ls.e_ct ?_) | (with_reducible refine Ls.r_for ?_) | (with_reducible refine Ls.i_seq ?_) | (with_reducible refine Ls.r_xi ?_) | (with_reducible refine Ls.r_xo ?_) | (with_reducible refine Ls.r_mk ?_) | (with_reducible refine Ls.r_xf ?_) | (with_reducible refine Ls.i_enum ?_) | (with_reducible refine Ls.i_rng1 ?_) | (with_reducible refine Ls.r_m1 ?_) | (with_reducible refine Ls.r_m0 ?_) | (with_reducible refine Ls.k_isS ?_) | (with_reducible refine Ls.r_bm ?_) | (with_reducible refine Ls.r_lc ?_) | (with_reducible refine Ls.y_add ?_) | (with_reducible refine Ls.y_sub ?_) | (with_reducible refine Ls.y_neg ?_) | (with_reducible refine Ls.y_lt ?_) | (with_reducible refine Ls.y_le ?_) | (with_reducible refine Ls.y_gt ?_) | (with_reducible refine Ls.y_ge ?_) | (with_reducible refine Ls.y_eqI ?_) | (with_reducible refine Ls.y_eqS ?_) | (with_reducible refine Ls.y_neI ?_) | (with_reducible refine Ls.y_neS ?_) | (with_reducible refine Ls.y_isNo ?_) | (with_reducible refine Ls.y_isntNo ?_) | (with_reducible refine Ls.y_abs ?_) | (with_reducible refine Ls.y_max2 ?_) | (with_reducible refine Ls.y_min2 ?_) | (with_reducible refine Ls.y_intI ?_) | (with_reducible refine Ls.y_intB ?_) | ((with_reducible refine' Ls.y_ixL ?hS ?hA ?_); (case hS => first | assumption | exact L2.SqL.of (by assumption)); (case hA => rfl)) | ((with_reducible refine' Ls.y_ixT ?hS ?hA ?_); (case hS => first | assumption | exact L2.SqT.of (by assumption)); (case hA => rfl)) | ((with_reducible refine' Ls.y_mod ?hC ?_); (case hC => first | decide | omega)) | ((with_reducible refine' Ls.y_fdiv ?hC ?_); (case hC => first | decide | (constructor <;> omega))) | ((with_reducible refine' Ls.y_pow ?hC ?_); (case hC => exact ⟨by decide, by decide, by decide⟩)) | ((with_reducible refine' Ls.y_mul ?hC ?_); (case hC => first | exact .inr ⟨by decide, by decide⟩ | exact .inl ⟨by decide, by decide⟩ | exact .inr ⟨by omega, by omega⟩ | exact .inl ⟨by omega, by omega⟩)) | (with_reducible refine L2.iteT ?_) | (with_reducible refine L2.iteF ?_) | (with_reducible refine Ls.iteNF ?_) | (with_reducible refine Ls.iteNT ?_)))
local macro_rules | `(tactic| walk_at "rd") => `(tactic| (repeat walk_at "rd1"))
local macro_rules | `(tactic| walk_at "lits") => `(tactic| (first | exact Ls.lit_nil | (refine' Ls.lit_cons ?hL ?hR; (case hL => walk_at "lits"); (case hR => walk_at "lits")) | exact Ls.lit_non | exact Ls.lit_bl | exact Ls.lit_int | exact Ls.lit_str | exact Ls.lit_neg | exact Ls.lit_dn | exact Ls.lit_d1 | exact Ls.lit_d1s | (refine' Ls.lit_tup ?hA ?hZ; (case hA => walk_at "lits"); (case hZ => first | decide | simp)) | (refine' Ls.lit_lst ?hA ?hZ; (case hA => walk_at "lits"); (case hZ => first | decide | simp))))

theorem pot_emL {H H1 : Hp} {p l : Addr} (h : Pt H p) (n : p ≠ l) (e : Em l H H1) : Pt H1 p := let ⟨a, b, h1, h2⟩ := h; ⟨a, b, e _ _ n h1, h2⟩
theorem em_late {H H1 H2 : Hp} {p l : Addr} (n : H l = none) (e : Em p H H1) (f : Em l H1 H2) : Em p H H2 := fun a o na h => f a o (ne_of_none h n) (e a o na h)
theorem em_back {H H1 : Hp} {p l : Addr} (hP : Pt H1 p) (e : Em p H H1) (n : H1 l = none) : H l = none := by
  cases h : H l with
  | none => rfl
  | some o =>
    by_cases c : l = p
    · obtain ⟨a, b, z, _⟩ := hP
      rw [c, z] at n
      cases n
    · rw [e l o c h] at n
      cases n
section
variable {P : Program} {w : World} {K : PySem.W.Frag} {mg : Str → Option Value} {base : Heap} (nd : base.NoDigits)
include nd
theorem ok_lgiven (T : Tx K mg w) (C_law_digit : Cal P w K mg base 1 "_law_digit" s_law_digit P_law_digit sp_digit) (C_law_int : Cal P w K mg base 2 "_law_int" s_law_int P_law_int sp_int) (C_law_pick : Cal P w K mg base 2 "_law_pick" s_law_pick P_law_pick (sp_pick K))
    (C_law_datum : Cal P w K mg base 7 "_law_datum" s_law_datum P_law_datum (sp_ldatumW K 4)) (C_law_arity : Cal P w K mg base 1 "_law_arity" s_law_arity P_law_arity sp_larity) (C_law_ints : Cal P w K mg base 3 "_law_ints" s_law_ints P_law_ints (sp_lints K)) :
    Cal P w K mg base 8 "_law_given" s_law_given P_law_given (sp_lgiven K) := by
  refine T.d_law_given.ok sc_law_given (fun vs H Q E h => ?_) (fun ff cdv A outer s H vs Q E hr h => ?_)
  · obtain ⟨p, l, f, xs, ds, rfl, _⟩ := h; rfl
  obtain ⟨p, l, f, xs, ds, rfl, hP, hS, nl, hF, hV, h0, h100, q⟩ := h
  refine ⟨_, PSs.nox (pss_cons (ps_asg (pe_g C_law_arity (hr.mono (by omega)) px0 (pa_cons (pv 1) pa_nil)) (pg_tup rfl (pgs_cons (pg_name (i := 3) sc_law_given.nd rfl (by first | exact .inl rfl | exact .inr rfl)) (pgs_cons (pg_name (i := 4) sc_law_given.nd rfl (by first | exact .inl rfl | exact .inr rfl)) pgs_nil))))
      (pss_cons (ps_set (i := 5) sc_law_given.nd rfl (by first | exact .inl rfl | exact .inr rfl) (pe_ifExp (pt_cmpR op_gtU (pe_g C_law_digit (hr.mono (by omega)) px0 (pa_cons (pv 0) (pa_cons pe_int pa_nil))) pe_int (nomark _)) (pe_op op_addU (pv 3) (pe_g C_law_digit (hr.mono (by omega)) px0 (pa_cons (pv 0) (pa_cons (pe_op op_addU (pe_op op_subU (pv 4) (pv 3)) pe_int) pa_nil)))) (pe_g C_law_digit (hr.mono (by omega)) px0 (pa_cons (pv 0) (pa_cons pe_int pa_nil)))))
      (pss_cons (ps_set (i := 6) sc_law_given.nd rfl (by first | exact .inl rfl | exact .inr rfl) (pe_lstN pa_nil))
      (pss_cons (ps_for PassesOwn.never rfl (pi_range1 rfl T.n_range (pa_cons (pv 5) pa_nil)) (pg_name (i := 7) sc_law_given.nd rfl (by first | exact .inl rfl | exact .inr rfl)) (pss_cons (ps_set (i := 8) sc_law_given.nd rfl (by first | exact .inl rfl | exact .inr rfl) (pe_g C_law_digit (hr.mono (by omega)) px0 (pa_cons (pv 0) (pa_cons pe_int pa_nil))))
      (pss_one (ps_if (pt_cmpR (op_eqU hr) (pv 8) pe_int (nomark _)) (pss_one (ps_expr (pe_bm PySem.F.plainAttrs_list PySem.F.slot_list_append PySem.F.type_list_append mt_append (pv 6) (pa_cons (pe_ix ix_seq (pe_lstN (pa_cons pe_str (pa_cons (pe_g C_law_datum (hr.mono (by omega)) px0 (pa_cons (pv 0) (pa_cons pe_int pa_nil))) pa_nil))) (pe_g C_law_digit (hr.mono (by omega)) px0 (pa_cons (pv 0) (pa_cons pe_int pa_nil))) (fun _ _ => rfl)) pa_nil)))) (pss_one (ps_if (pt_cmpR (op_eqU hr) (pv 8) pe_int (nomark _)) (pss_one (ps_expr (pe_bm PySem.F.plainAttrs_list PySem.F.slot_list_append PySem.F.type_list_append mt_append (pv 6) (pa_cons (pe_g C_law_pick (hr.mono (by omega)) px0 (pa_cons (pv 0) (pa_cons (pv 2) pa_nil))) pa_nil)))) (pss_one (ps_if (pt_cmpR (op_inU hr) (pv 1) (pe_tup (pa_cons pe_str (pa_cons pe_str (pa_cons pe_str (pa_cons pe_str (pa_cons pe_str (pa_cons pe_str (pa_cons pe_str (pa_cons pe_str pa_nil))))))))) (by rfl)) (pss_one (ps_expr (pe_bm PySem.F.plainAttrs_list PySem.F.slot_list_append PySem.F.type_list_append mt_append (pv 6) (pa_cons (pe_g C_law_int (hr.mono (by omega)) px0 (pa_cons (pv 0) pa_nil)) pa_nil)))) (pss_one (ps_if (pt_cmpR (op_inU hr) (pv 1) (pe_tup (pa_cons pe_str (pa_cons pe_str (pa_cons pe_str (pa_cons pe_str (pa_cons pe_str pa_nil)))))) (by rfl)) (pss_one (ps_expr (pe_bm PySem.F.plainAttrs_list PySem.F.slot_list_append PySem.F.type_list_append mt_append (pv 6) (pa_cons (pe_ifExp (pt_cmpR op_ltU (pv 8) pe_int (nomark _)) (pe_g C_law_ints (hr.mono (by omega)) px0 (pa_cons (pv 0) (pa_cons pe_int pa_nil))) (pe_g C_law_datum (hr.mono (by omega)) px0 (pa_cons (pv 0) (pa_cons pe_int pa_nil)))) pa_nil)))) (pss_one (ps_if (pt_cmpR (op_inU hr) (pv 1) (pe_tup (pa_cons pe_str (pa_cons pe_str (pa_cons pe_str pa_nil)))) (by rfl)) (pss_cons (ps_set (i := 9) sc_law_given.nd rfl (by first | exact .inl rfl | exact .inr rfl) (pe_ix ix_seq (pe_lstN (pa_cons (pe_op op_subU (pe_g C_law_digit (hr.mono (by omega)) px0 (pa_cons (pv 0) (pa_cons pe_int pa_nil))) (pe_callTy (call_intU nd) (by rfl) T.n_int (by decide +kernel) (pa_cons (pe_cmpR (op_eqU hr) (pv 8) pe_int (nomark _)) pa_nil))) (pa_cons (pe_op op_powU pe_int pe_int) pa_nil))) (pe_callTy (call_intU nd) (by rfl) T.n_int (by decide +kernel) (pa_cons (pe_cmpR (op_eqU hr) (pv 8) pe_int (nomark _)) pa_nil)) (fun _ _ => rfl)))
      (pss_one (ps_expr (pe_bm PySem.F.plainAttrs_list PySem.F.slot_list_append PySem.F.type_list_append mt_append (pv 6) (pa_cons (pe_ifExp (pt_cmpR (op_eqU hr) (pv 7) pe_int (nomark _)) (pv 9) (pe_g C_law_ints (hr.mono (by omega)) px0 (pa_cons (pv 0) (pa_cons pe_int pa_nil)))) pa_nil))))) (pss_one (ps_expr (pe_bm PySem.F.plainAttrs_list PySem.F.slot_list_append PySem.F.type_list_append mt_append (pv 6) (pa_cons (pe_g C_law_datum (hr.mono (by omega)) px0 (pa_cons (pv 0) (pa_cons pe_int pa_nil))) pa_nil))))))))))))))))
      (pss_one (ps_ret (pv 6))))))), ?_⟩
  have hlh : f.lo ≤ f.hi ∧ f.hi ≤ 6 := by cases f <;> decide
  walk_at "rd"
  refine ⟨f, rfl, fun a H1 e1 h1 => ?_⟩
  have P1 := hP.ex e1
  refine g_tup (.of h1) rfl (g_cons (g_name (g_cons (g_name (g_nil (e_nx (r_seq (r_asg (cut (fun v H' => ∃ m : Nat, v = .int (m : Nat) ∧ m ≤ 7 ∧ Pt H' p ∧ Em p H H') ?_ ?_)))))))))
  · intro Q1 k1
    walk_at "rd"
    refine ⟨p, 8, rfl, P1, by decide, by decide, fun w1 H2 w0 w8 P2 e2 => ?_⟩
    have e12 := (e1.em p).trans e2
    walk_at "rd"
    refine br (fun c => ?_) fun c => ?_
    · walk_at "rd"
      refine ⟨p, _, rfl, P2, by omega, by omega, fun c H3 c0 c1 P3 e3 => ?_⟩
      walk_at "rd"
      exact k1 _ H3 ⟨f.lo + c.toNat, by congr 1; omega, by omega, P3, e12.trans e3⟩
    · walk_at "rd"
      refine ⟨p, 8, rfl, P2, by decide, by decide, fun c H3 c0 c1 P3 e3 => ?_⟩
      exact k1 _ H3 ⟨c.toNat, by congr 1; omega, by omega, P3, e12.trans e3⟩
  rintro _ H2 ⟨m, rfl, hm, P2, E2⟩
  walk_at "rd"
  refine k_lst fun g H3 n3 _ e3 h3 => ?_
  have hgn : H g = none := em_back P2 E2 n3
  have npg : p ≠ g := P2.ne n3
  have ngp : g ≠ p := fun z => npg z.symm
  walk_at "rd"
  refine i_r1 (by omega) (by omega) ?_
  let F : Nat → Hp → Prop := fun j H' => ∃ ws es, H' g = some (.lst ws) ∧ ws.length = j ∧ FlAll K H' ws es ∧ (∀ d ∈ es, isV d = true) ∧ Pt H' p ∧ Em p H H'
  refine k_forR (fun j σ' H' => F j H' ∧ ∃ o7 o8 o9, σ' = [some (.ref p), some (.str f.nm), some (.ref l), some (.int (f.lo : Nat)), some (.int (f.hi : Nat)), some (.int (m : Nat)), some (.ref g), o7, o8, o9])
    ⟨⟨[], [], h3, rfl, .nil, fun _ h => (nomatch h), P2.ex e3, E2.trans (e3.em p)⟩, none, none, none, rfl⟩ ?_ ?_
  · rintro j σ' H4 hj ⟨⟨ws, es, hg4, hl, hFw, hVw, P4, E4⟩, o7, o8, o9, rfl⟩
    have hj7 : j ≤ 7 := by omega
    walk_at "rd"
    refine ⟨p, 12, rfl, P4, by decide, by decide, fun w1 H5 w0 w12 P5 e5 => ?_⟩
    have hg5 := e5 _ _ ngp hg4
    have fin : ∀ {v d H'} {Q2 : VK}, Fl K H' v d → isV d = true → Pt H' p → Em p H5 H' → (∀ H'', F (j + 1) H'' → Q2 .non H'') → rAppend (.ref g) [v] H' Q2 := fun {v d H' Q2} hv hd P' e' k => by
      have hg' := e' _ _ ngp hg5
      refine y_append hg' (Nat.lt_of_le_of_lt (show ws.length ≤ 100 by omega) (by decide)) fun H'' e'' h'' => k H'' ⟨ws ++ [v], es ++ [d], h'', by rw [List.length_append]; simp [hl], ?_, fun x hx => ?_, pot_emL P' npg e'', em_late hgn (E4.trans (e5.trans e')) e''⟩
      · have t := Em.et e'' hg'
        exact (hFw.mono (((P4.et e5).trans (P5.et e')).trans t)).append (.cons (hv.mono t) .nil)
      · rcases List.mem_append.mp hx with hx | hx
        · exact hVw x hx
        · rw [List.mem_singleton.mp hx]; exact hd
    walk_at "rd"
    refine br (fun c => ?_) fun c => ?_
    · walk_at "rd"
      refine k_isL (.of hg5) ?_
      walk_at "rd"
      refine ⟨p, 3, rfl, P5, by decide, fun v d H6 hv hd P6 e6 => ?_⟩
      walk_at "rd"
      refine k_lst fun l2 H7 n7 _ e7 h7 => ?_
      have P7 := P6.ex e7
      walk_at "rd"
      refine ⟨p, 2, rfl, P7, by decide, by decide, fun b H8 b0 b2 P8 e8 => ?_⟩
      have h8 := e8 _ _ (fun z => P6.ne n7 z.symm) h7
      have e58 := e6.trans ((e7.em p).trans e8)
      rcases (show b = 0 ∨ b = 1 by omega) with rfl | rfl
      · refine y_ixL (v := .str (Str.ofString "fault")) (.of h8) rfl ?_
        walk_at "rd"
        exact fin fl_fault (by decide +kernel) P8 e58 fun H'' k => ⟨k, _, _, _, rfl⟩
      · refine y_ixL (v := v) (.of h8) rfl ?_
        walk_at "rd"
        exact fin (hv.mono (e7.et.trans (P7.et e8))) (lw_V (by decide) hd) P8 e58 fun H'' k => ⟨k, _, _, _, rfl⟩
    walk_at "rd"
    refine br (fun c => ?_) fun c => ?_
    · walk_at "rd"
      refine k_isL (.of hg5) ?_
      walk_at "rd"
      refine ⟨p, l, xs, rfl, P5, seq_em hS nl (E4.trans e5), nl, h0, by omega, fun v H6 hm P6 e6 => ?_⟩
      walk_at "rd"
      obtain ⟨i, hi⟩ := List.mem_iff_getElem?.mp hm
      obtain ⟨d, hd, hf⟩ := (hF.mono (hP.et (E4.trans (e5.trans e6)))).get hi
      exact fin hf (hV d (List.mem_of_getElem? hd)) P6 e6 fun H'' k => ⟨k, _, _, _, rfl⟩
    walk_at "rd"
    refine k_tup fun t6 H6 n6 e6 h6 => ?_
    walk_at "rd"
    refine y_inT h6 (by decide) ?_
    have P6 := P5.ex e6
    walk_at "rd"
    refine brB (fun cw => ?_) fun cw => ?_
    · walk_at "rd"
      refine k_isL (.of (e6 _ _ hg5)) ?_
      walk_at "rd"
      refine ⟨p, rfl, P6, fun i H7 hi P7 e7 => ?_⟩
      walk_at "rd"
      exact fin (.int i) (int_V hi) P7 ((e6.em p).trans e7) fun H'' k => ⟨k, _, _, _, rfl⟩
    walk_at "rd"
    refine k_tup fun t7 H7 n7 e7 h7 => ?_
    walk_at "rd"
    refine y_inT h7 (by decide) ?_
    have P7 := P6.ex e7
    have e57 := e6.trans e7
    walk_at "rd"
    refine brB (fun cw => ?_) fun cw => ?_
    · walk_at "rd"
      refine k_isL (.of (e57 _ _ hg5)) ?_
      walk_at "rd"
      refine br (fun c8 => ?_) fun c8 => ?_
      · walk_at "rd"
        refine ⟨p, 9, rfl, P7, by decide, fun v d H8 hv hd P8 e8 => ?_⟩
        walk_at "rd"
        exact fin hv hd P8 ((e57.em p).trans e8) fun H'' k => ⟨k, _, _, _, rfl⟩
      · walk_at "rd"
        refine ⟨p, 3, rfl, P7, by decide, fun v d H8 hv hd P8 e8 => ?_⟩
        walk_at "rd"
        exact fin hv (lw_V (by decide) hd) P8 ((e57.em p).trans e8) fun H'' k => ⟨k, _, _, _, rfl⟩
    walk_at "rd"
    refine k_tup fun t8 H8 n8 e8 h8 => ?_
    walk_at "rd"
    refine y_inT h8 (by decide) ?_
    have P8 := P7.ex e8
    have e58 := e57.trans e8
    walk_at "rd"
    refine brB (fun cw => ?_) fun cw => ?_
    · refine r_seq (r_asg (cut (fun v H' => ∃ i : Int, v = .int i ∧ i.natAbs ≤ 10 ^ 21 ∧ Pt H' p ∧ Em p H5 H') ?_ ?_))
      · intro Q1 k1
        walk_at "rd"
        refine ⟨p, 7, rfl, P8, by decide, by decide, fun b H9 b0 b7 P9 e9 => ?_⟩
        walk_at "rd"
        refine k_lst fun l2 HA nA _ eA hA => ?_
        walk_at "rd"
        have eZ := (e58.em p).trans (e9.trans (eA.em p))
        by_cases c3 : w1 = 3
        · rw [show (if decide (w1 = 3) = true then (1 : Int) else 0) = 1 by simp [c3]]
          refine y_ixL (.of hA) rfl ?_
          exact k1 _ HA ⟨_, rfl, by decide, P9.ex eA, eZ⟩
        · rw [show (if decide (w1 = 3) = true then (1 : Int) else 0) = 0 by simp [c3]]
          refine y_ixL (.of hA) rfl ?_
          refine k1 _ HA ⟨_, rfl, ?_, P9.ex eA, eZ⟩
          split <;> omega
      · rintro _ H9 ⟨i, rfl, hi, P9, e9⟩
        walk_at "rd"
        refine k_isL (.of (e9 _ _ ngp hg5)) ?_
        walk_at "rd"
        refine br (fun c8 => ?_) fun c8 => ?_
        · walk_at "rd"
          exact fin (.int i) (int_V hi) P9 e9 fun H'' k => ⟨k, _, _, _, rfl⟩
        · walk_at "rd"
          refine ⟨p, 6, rfl, P9, by decide, fun v d HA hv hd PA eA => ?_⟩
          walk_at "rd"
          exact fin hv hd PA (e9.trans eA) fun H'' k => ⟨k, _, _, _, rfl⟩
    walk_at "rd"
    refine k_isL (.of (e58 _ _ hg5)) ?_
    walk_at "rd"
    refine ⟨p, 2, rfl, P8, by decide, fun v d H9 hv hd P9 e9 => ?_⟩
    walk_at "rd"
    exact fin hv (lw_V (by decide) hd) P9 ((e58.em p).trans e9) fun H'' k => ⟨k, _, _, _, rfl⟩
  · rintro σ' H4 ⟨⟨ws, es, hg4, hl, hFw, hVw, P4, E4⟩, o7, o8, o9, rfl⟩
    walk_at "rd"
    exact q g ws es H4 hgn hg4 hFw hVw (by omega) P4 E4
theorem ok_lright (T : Tx K mg w) (C_law_pick : Cal P w K mg base 2 "_law_pick" s_law_pick P_law_pick (sp_pick K)) (C_law_words : Cal P w K mg base 1 "_law_words" s_law_words P_law_words sp_lwords)
    (C_law_given : Cal P w K mg base 8 "_law_given" s_law_given P_law_given (sp_lgiven K)) (C_law_result : Cal P w K mg base 14 "_law_result" s_law_result P_law_result (sp_lresult K)) (C_law_applied : Cal P w K mg base 17 "_law_applied" s_law_applied P_law_applied (sp_lapplied K)) :
    Cal P w K mg base 18 "_law_right" s_law_right P_law_right sp_lright15 := by
  refine T.d_law_right.ok sc_law_right (fun vs H Q E h => ?_) (fun ff cdv A outer s H vs Q E hr h => ?_)
  · obtain ⟨p, rfl, _⟩ := h; rfl
  obtain ⟨p, rfl, hP, q⟩ := h
  refine ⟨_, PSs.nox (pss_cons (ps_set (i := 1) sc_law_right.nd rfl (by first | exact .inl rfl | exact .inr rfl) (pe_lstN (pa_cons pe_str (pa_cons pe_int (pa_cons (pe_tup pa_nil) pa_nil)))))
      (pss_cons (ps_for PassesOwn.never rfl (pi_range1 rfl T.n_range (pa_cons pe_int pa_nil)) (pg_name (i := 2) sc_law_right.nd rfl (by first | exact .inl rfl | exact .inr rfl)) (pss_cons (ps_set (i := 3) sc_law_right.nd rfl (by first | exact .inl rfl | exact .inr rfl) (pe_g C_law_pick (hr.mono (by omega)) px0 (pa_cons (pv 0) (pa_cons (pe_g0 C_law_words (hr.mono (by omega)) px0) pa_nil))))
      (pss_cons (ps_set (i := 4) sc_law_right.nd rfl (by first | exact .inl rfl | exact .inr rfl) (pe_g C_law_given (hr.mono (by omega)) px0 (pa_cons (pv 0) (pa_cons (pv 3) (pa_cons (pv 1) pa_nil)))))
      (pss_cons (ps_par (i := 5) (j := 6) rfl sc_law_right.nd rfl rfl (by decide) rfl rfl (pa_cons (pe_g C_law_result (hr.mono (by omega)) px0 (pa_cons (pv 3) (pa_cons (pv 4) pa_nil))) (pa_cons (pe_callB (call_repr nd hr) (by rfl) T.n_repr (by decide +kernel) (pa_cons (pv 4) pa_nil)) pa_nil)) (by rfl))
      (pss_cons (ps_set (i := 7) sc_law_right.nd rfl (by first | exact .inl rfl | exact .inr rfl) (pe_lstN (pa_cons (pe_g C_law_applied (hr.mono (by omega)) px0 (pa_cons (pv 3) (pa_cons (pv 4) pa_nil))) (pa_cons (pe_g C_law_applied (hr.mono (by omega)) px0 (pa_cons (pv 3) (pa_cons (pv 4) pa_nil))) pa_nil))))
      (pss_cons (ps_if (PW.pt (pw_or (pt_cmpR (op_neU hr) (pe_callB (call_repr nd hr) (by rfl) T.n_repr (by decide +kernel) (pa_cons (pv 7) pa_nil)) (pe_callB (call_repr nd hr) (by rfl) T.n_repr (by decide +kernel) (pa_cons (pe_lstN (pa_cons (pv 5) (pa_cons (pv 5) pa_nil))) pa_nil)) (nomark _)) (pw_or1 (pt_cmpR (op_neU hr) (pe_callB (call_repr nd hr) (by rfl) T.n_repr (by decide +kernel) (pa_cons (pv 4) pa_nil)) (pv 6) (nomark _))))) (pss_one (ps_ret pe_bl)) pss_nil)
      (pss_one (ps_expr (pe_bm PySem.F.plainAttrs_list PySem.F.slot_list_append PySem.F.type_list_append mt_append (pv 1) (pa_cons (pv 5) pa_nil))))))))))
      (pss_one (ps_ret pe_bl)))), ?_⟩
  walk_at "rd"
  refine k_tup fun t H1 n1 e1 h1 => ?_
  walk_at "rd"
  refine k_lst fun l H2 n2 _ e2 h2 => ?_
  have e12 := e1.trans e2
  have hln : H l = none := e1.back n2
  have npl : p ≠ l := hP.ne hln
  have nlp : l ≠ p := fun z => npl z.symm
  walk_at "rd"
  refine i_r1 (by omega) (by omega) ?_
  let F : Nat → Hp → Prop := fun j H' => ∃ xs ds, H' l = some (.lst xs) ∧ xs.length = j + 3 ∧ FlAll K H' xs ds ∧ (∀ d ∈ ds, isV d = true) ∧ Pt H' p ∧ Em p H H'
  refine k_forR (fun j σ' H' => F j H' ∧ ∃ o2 o3 o4 o5 o6 o7, σ' = [some (.ref p), some (.ref l), o2, o3, o4, o5, o6, o7])
    ⟨⟨_, [faultD, .int 0, .tuple []], h2, rfl, .cons fl_fault (.cons (.int 0) (.cons (.tup (.of (e2 _ _ h1)) .nil) .nil)), by decide +kernel, hP.ex e12, e12.em p⟩, none, none, none, none, none, none, rfl⟩ ?_ ?_
  · rintro j σ' H3 hj ⟨⟨xs, ds, hl3, hx, hF3, hV3, P3, E3⟩, o2, o3, o4, o5, o6, o7, rfl⟩
    have hj40 : j < 40 := hj
    walk_at "rd"
    refine ⟨rfl, fun l2 H4 n4 e4 h4 => ?_⟩
    have P4 := P3.ex e4
    walk_at "rd"
    refine ⟨p, l2, namesV, rfl, P4, .of h4, fun z => P3.ne n4 z.symm, by decide, by decide, fun v H5 hv P5 e5 => ?_⟩
    obtain ⟨f, _, rfl⟩ := List.mem_map.mp hv
    have e35 := (e4.em p).trans e5
    have hl5 := e35 _ _ nlp hl3
    walk_at "rd"
    refine ⟨p, l, f, xs, ds, rfl, P5, .of hl5, nlp, hF3.mono (P3.et e35), hV3, by omega, by omega, fun g ws es H6 n6 h6 hF6 hV6 l6 P6 e6 => ?_⟩
    have hl6 := e6 _ _ nlp hl5
    have hwe := hF6.length
    walk_at "rd"
    refine ⟨f, g, ws, es, rfl, .of h6, hF6, hV6, by omega, fun v0 H7 e7 hv0 => ?_⟩
    have hA : isV (f.app es) = true := app_V f es
    have hA2 : ∀ d ∈ [f.app es, f.app es], isV d = true := fun d hd => by
      simp only [List.mem_cons, List.not_mem_nil, or_false] at hd
      rcases hd with rfl | rfl <;> exact hA
    have h7 := e7 _ _ h6
    walk_at "rd"
    refine y_repD (.lst (.of h7) (hF6.mono e7.et).dtA) (VL_rq hV6 (by omega)) ?_
    walk_at "rd"
    refine ⟨f, g, ws, es, rfl, .of h7, hF6.mono e7.et, hV6, l6, fun v1 H8 e8 hv1 => ?_⟩
    walk_at "rd"
    have e78 := e7.trans e8
    refine ⟨f, g, ws, es, rfl, .of (e8 _ _ h7), hF6.mono e78.et, hV6, l6, fun v2 H9 e9 hv2 => ?_⟩
    walk_at "rd"
    refine k_lst fun lt HA nA _ eA hA10 => ?_
    have e9A := e9.trans eA
    walk_at "rd"
    refine y_repD (d := .list [f.app es, f.app es]) (.lst (.of hA10) (.cons (hv1.mono e9A.et).dt (.cons (hv2.mono eA.et).dt .nil))) (VL_rq hA2 (by simp)) ?_
    walk_at "rd"
    refine k_lst fun lu HB nB _ eB hB => ?_
    have e8B := e8.trans (e9A.trans eB)
    walk_at "rd"
    refine y_repD (d := .list [f.app es, f.app es]) (.lst (.of hB) (.cons (hv0.mono e8B.et).dt (.cons (hv0.mono e8B.et).dt .nil))) (VL_rq hA2 (by simp)) ?_
    walk_at "rd"
    refine ifnN rfl ?_
    have e6B := e7.trans e8B
    walk_at "rd"
    refine y_repD (.lst (.of (e6B _ _ h6)) (hF6.mono e6B.et).dtA) (VL_rq hV6 (by omega)) ?_
    walk_at "rd"
    refine ifnN rfl ?_
    have hlB := e6B _ _ hl6
    walk_at "rd"
    refine k_isL (.of hlB) ?_
    walk_at "rd"
    refine y_append hlB (Nat.lt_of_le_of_lt (show xs.length ≤ 100 by omega) (by decide)) fun HC eC hC => ?_
    walk_at "rd"
    have PB := P6.ex e6B
    have tC := Em.et eC hlB
    refine ⟨⟨xs ++ [v0], ds ++ [f.app es], hC, by rw [List.length_append, hx]; rfl, ?_, fun d hd => ?_, pot_emL PB npl eC, em_late hln (E3.trans (e35.trans (e6.trans (e6B.em p)))) eC⟩, _, _, _, _, _, _, rfl⟩
    · exact (hF3.mono ((P3.et e35).trans ((P5.et e6).trans (e6B.et.trans tC)))).append (.cons (hv0.mono (e8B.et.trans tC)) .nil)
    · rcases List.mem_append.mp hd with hd | hd
      · exact hV3 d hd
      · rw [List.mem_singleton.mp hd]; exact hA
  · rintro σ' H3 ⟨⟨xs, ds, hl3, hx, hF3, hV3, P3, E3⟩, o2, o3, o4, o5, o6, o7, rfl⟩
    walk_at "rd"
    exact q H3 P3 E3
end

end My
end

section
set_option Elab.async false
set_option linter.all false
set_option maxRecDepth 100000
set_option maxHeartbeats 4000000
namespace My
open PySem PySem.Spec PyProof.Rows L2 Ls SX LamX
local macro_rules | `(tactic| walk_at "rd1") => `(tactic| (first | ((with_reducible refine' Ls.r_var ?hV ?_); (case hV => exact rfl)) | (with_reducible refine Ls.r_c ?_) | (with_reducible refine Ls.r_op ?_) | (with_reducible refine Ls.r_un ?_) | (with_reducible refine Ls.r_nil ?_) | (with_reducible refine Ls.r_cons ?_) | (with_reducible refine Ls.r_cb ?_) | (with_reducible refine Ls.r_ckw ?_) | (with_reducible refine Ls.r_cal ?_) | (with_reducible refine Ls.r_calK ?_) | (with_reducible refine Ls.r_tup ?_) | (with_reducible refine Ls.r_lst ?_) | (with_reducible refine Ls.r_if ?_) | (with_reducible refine Ls.r_andV ?_) | (with_reducible refine Ls.r_orV ?_) | (with_reducible refine Ls.r_notV ?_) | (with_reducible refine Ls.r_chain ?_) | (with_reducible refine Ls.r_sl ?_) | (with_reducible refine Ls.r_nopart ?_) | (with_reducible refine Ls.r_part ?_) | (with_reducible refine Ls.k_part ?_) | (with_reducible refine Ls.r_test ?_) | (with_reducible refine Ls.r_B ?_) | (with_reducible refine Ls.k_B ?_) | (with_reducible refine Ls.r_not ?_) | (with_reducible refine Ls.r_and ?_) | (with_reducible refine Ls.r_or ?_) | (with_reducible refine Ls.r_seq ?_) | (with_reducible refine Ls.r_ifS ?_) | (with_reducible refine Ls.r_next ?_) | (with_reducible refine Ls.r_brk ?_) | (with_reducible refine Ls.r_cont ?_) | (with_reducible refine Ls.r_ret ?_) | (with_reducible refine Ls.r_retN ?_) | (with_reducible refine Ls.r_drop ?_) | (with_reducible refine Ls.r_asg ?_) | (with_reducible refine Ls.r_par ?_) | (with_reducible refine Ls.k_par ?_) | ((with_reducible refine' Ls.r_aug ?hV ?_); (case hV => exact rfl)) | (with_reducible refine Ls.y_ip ?_) | (with_reducible refine Ls.g_name ?_) | (with_reducible refine Ls.g_nil ?_) | (with_reducible refine Ls.g_cons ?_) | (with_reducible refine Ls.g_sub ?_) | (with_reducible refine Ls.e_end ?_) | (with_reducible refine Ls.e_endr ?_) | (with_reducible refine Ls.e_nx ?_) | (with_reducible refine Ls.e_rt ?_) | (with_reducible refine Ls.e_bk ?_) | (with_reducible refine Ls.e_ct ?_) | (with_reducible refine Ls.r_for ?_) | (with_reducible refine Ls.i_seq ?_) | (with_reducible refine Ls.r_xi ?_) | (with_reducible refine Ls.r_xo ?_) | (with_reducible refine Ls.r_mk ?_) | (with_reducible refine Ls.r_xf ?_) | (with_reducible refine Ls.i_enum ?_) | (with_reducible refine Ls.i_rng1 ?_) | (with_reducible refine Ls.r_m1 ?_) | (with_reducible refine Ls.r_m0 ?_) | (with_reducible refine Ls.k_isS ?_) | (with_reducible refine Ls.r_bm ?_) | (with_reducible refine Ls.r_lc ?_) | (with_reducible refine Ls.y_add ?_) | (with_reducible refine Ls.y_sub ?_) | (with_reducible refine Ls.y_neg ?_) | (with_reducible refine Ls.y_lt ?_) | (with_reducible refine Ls.y_le ?_) | (with_reducible refine Ls.y_gt ?_) | (with_reducible refine Ls.y_ge ?_) | (with_reducible refine Ls.y_eqI ?_) | (with_reducible refine Ls.y_eqS ?_) | (with_reducible refine Ls.y_neI ?_) | (with_reducible refine Ls.y_neS ?_) | (with_reducible refine Ls.y_isNo ?_) | (with_reducible refine Ls.y_isntNo ?_) | (with_reducible refine Ls.y_abs ?_) | (with_reducible refine Ls.y_max2 ?_) | (with_reducible refine Ls.y_min2 ?_) | (with_reducible refine Ls.y_intI ?_) | (with_reducible refine Ls.y_intB ?_) | ((with_reducible refine' Ls.y_ixL ?hS ?hA ?_); (case hS => first | assumption | exact L2.SqL.of (by assumption)); (case hA => rfl)) | ((with_reducible refine' Ls.y_ixT ?hS ?hA ?_); (case hS => first | assumption | exact L2.SqT.of (by assumption)); (case hA => rfl)) | ((with_reducible refine' Ls.y_mod ?hC ?_); (case hC => first | decide | omega)) | ((with_reducible refine' Ls.y_fdiv ?hC ?_); (case hC => first | decide | (constructor <;> omega))) | ((with_reducible refine' Ls.y_pow ?hC ?_); (case hC => exact ⟨by decide, by decide, by decide⟩)) | ((with_reducible refine' Ls.y_mul ?hC ?_); (case hC => first | exact .inr ⟨by decide, by decide⟩ | exact .inl ⟨by decide, by decide⟩ | exact .inr ⟨by omega, by omega⟩ | exact .inl ⟨by omega, by omega⟩)) | (with_reducible refine L2.iteT ?_) | (with_reducible refine L2.iteF ?_) | (with_reducible refine Ls.iteNF ?_) | (with_reducible refine Ls.iteNT ?_)))
local macro_rules | `(tactic| walk_at "rd") => `(tactic| (repeat walk_at "rd1"))
local macro_rules | `(tactic| walk_at "lits") => `(tactic| (first | exact Ls.lit_nil | (refine' Ls.lit_cons ?hL ?hR; (case hL => walk_at "lits"); (case hR => walk_at "lits")) | exact Ls.lit_non | exact Ls.lit_bl | exact Ls.lit_int | exact Ls.lit_str | exact Ls.lit_neg | exact Ls.lit_dn | exact Ls.lit_d1 | exact Ls.lit_d1s | (refine' Ls.lit_tup ?hA ?hZ; (case hA => walk_at "lits"); (case hZ => first | decide | simp)) | (refine' Ls.lit_lst ?hA ?hZ; (case hA => walk_at "lits"); (case hZ => first | decide | simp))))

def namesD : List PyData := Fn.all.map fun f => .str f.nm
theorem names_fl {K : PySem.W.Frag} {H : Hp} : ∀ fs : List Fn, FlAll K H (fs.map fun f => V.str f.nm) (fs.map fun f => PyData.str f.nm)
  | [] => .nil
  | f :: fs => .cons (.str _) (names_fl fs)
def aritD (d : PyData) : PyData := match fnD d with
  | some f => .tuple [.int (f.lo : Nat), .int (f.hi : Nat)]
  | none => .none
theorem aritD_nm (f : Fn) : aritD (.str f.nm) = .tuple [.int (f.lo : Nat), .int (f.hi : Nat)] := by unfold aritD; rw [fnD_nm]
theorem arit_rq : Rq (.list (namesD.map aritD)) := (bdB_ok (b := 800) (k := 4) (by decide +kernel)).rq (by decide) (by decide)
def sp_law (K : PySem.W.Frag) : Sp := fun vs H Q _ => ∃ (a : Addr) (ns : List Int), vs = [.ref a] ∧ SqL K H a (ns.map V.int) ∧ ns.length ≤ 63 ∧ ∀ H', Q (.bl true) H'
theorem law_start (K : PySem.W.Frag) (H : Hp) (a : Addr) (ns : List Int) (hn : ns.length ≤ 63) (_ : Only H) (h : SqL K H a (ns.map V.int)) : sp_law K [.ref a] H (fun v _ => v = .bl true) fun _ _ _ => False := ⟨a, ns, rfl, h, hn, fun _ => rfl⟩
section
variable {P : Program} {w : World} {K : PySem.W.Frag} {mg : Str → Option Value} {base : Heap} (nd : base.NoDigits)
include nd
theorem ok_law (T : Tx K mg w) (C_law_pot : Cal P w K mg base 1 "_law_pot" s_law_pot P_law_pot (sp_pot K)) (C_law_words : Cal P w K mg base 1 "_law_words" s_law_words P_law_words sp_lwords) (C_law_arity : Cal P w K mg base 1 "_law_arity" s_law_arity P_law_arity sp_larity)
    (C_arity : Cal P w K mg base 3 "arity" s_arity P_arity (sp_arity K (fA mg "UnknownFunction"))) (C_law_right : Cal P w K mg base 18 "_law_right" s_law_right P_law_right sp_lright15) :
    Cal P w K mg base 19 "law" s_law P_law (sp_law K) := by
  refine T.d_law.ok sc_law (fun vs H Q E h => ?_) (fun f cdv A outer s H vs Q E hr h => ?_)
  · obtain ⟨a, ns, rfl, _⟩ := h; rfl
  obtain ⟨a, ns, rfl, hS, hn, q⟩ := h
  refine ⟨_, PSs.nox (pss_cons (ps_if (PW.pt (pw_or (pt_cmpR (op_neU hr) (pe_callTy call_listU (by rfl) T.n_list (by decide +kernel) (pa_cons (pe_const (v := .ref (fA mg "FUNCTIONS")) ⟨_, T.m_FUNCTIONS, rfl⟩) pa_nil)) (pe_g0 C_law_words (hr.mono (by omega)) px0) (nomark _)) (pw_or1 (pt_not (pt_val (pe_callB call_isiU (by rfl) T.n_isinstance (by decide +kernel) (pa_cons (pe_const (v := .ref (fA mg "FUNCTIONS")) ⟨_, T.m_FUNCTIONS, rfl⟩) (pa_cons (pe_bltn (v := .ty "tuple") (u := .type "tuple") (by rfl) T.n_tuple (by decide +kernel) rfl) pa_nil)))))))) (pss_one (ps_ret pe_bl)) pss_nil)
      (pss_cons (ps_if (pt_cmpR (op_neU hr) (pe_callB (call_repr nd hr) (by rfl) T.n_repr (by decide +kernel) (pa_cons (pe_lc (own := [("_law_word", 1)]) rfl sc_law.nd (pi_seq (pe_g0 C_law_words (hr.mono (by omega)) px0)) (blkOk_by (own := [("_law_word", 1)]) (N := N_law) (sc := defScope s_law) (by decide +kernel)) (fun _ _ _ _ _ => (pg_name (i := 1) sc_law.nd rfl (Or.inl rfl))) (fun _ _ _ _ _ => pts_nil) (fun _ _ _ _ _ => (pe_g C_arity (hr.mono (by omega)) px0 (pa_cons (pv 1) pa_nil)))) pa_nil)) (pe_callB (call_repr nd hr) (by rfl) T.n_repr (by decide +kernel) (pa_cons (pe_lc (own := [("_law_word", 1)]) rfl sc_law.nd (pi_seq (pe_g0 C_law_words (hr.mono (by omega)) px0)) (blkOk_by (own := [("_law_word", 1)]) (N := N_law) (sc := defScope s_law) (by decide +kernel)) (fun _ _ _ _ _ => (pg_name (i := 1) sc_law.nd rfl (Or.inl rfl))) (fun _ _ _ _ _ => pts_nil) (fun _ _ _ _ _ => (pe_g C_law_arity (hr.mono (by omega)) px0 (pa_cons (pv 1) pa_nil)))) pa_nil)) (nomark _)) (pss_one (ps_ret pe_bl)) pss_nil)
      (pss_one (ps_ret (pe_callB (cr_all rfl) (by rfl) T.n_all (by decide +kernel) (pa_cons (pe_lc (own := [("_law_k", 2)]) rfl sc_law.nd (pi_range1 rfl T.n_range (pa_cons (pe_callB (call_maxU rfl) (by rfl) T.n_max (by decide +kernel) (pa_cons pe_int (pa_cons (pe_callB (call_minU rfl) (by rfl) T.n_min (by decide +kernel) (pa_cons (pe_callB call_lenU (by rfl) T.n_len (by decide +kernel) (pa_cons (pv 0) pa_nil)) (pa_cons pe_int pa_nil))) pa_nil))) pa_nil)) (blkOk_by (own := [("_law_k", 2)]) (N := N_law) (sc := defScope s_law) (by decide +kernel)) (fun _ _ _ _ _ => (pg_name (i := 2) sc_law.nd rfl (Or.inl rfl))) (fun _ _ _ _ _ => pts_nil) (fun _ _ _ _ _ => (pe_g C_law_right (hr.mono (by omega)) px0 (pa_cons (pe_g C_law_pot (hr.mono (by omega)) px0 (pa_cons (pv 0) (pa_cons (pv 2) pa_nil))) pa_nil)))) pa_nil)))))), ?_⟩
  walk_at "rd"
  refine y_lstT T.t_FUNCTIONS.sq fun l1 H1 n1 e1 h1 => ?_
  walk_at "rd"
  refine ⟨rfl, fun l2 H2 n2 e2 h2 => ?_⟩
  walk_at "rd"
  have dp1 : ∀ {l : Addr} {H : Hp}, H l = some (.lst namesV) → Dp K H (.ref l) (.list namesD) := fun h => .lst (.of h) (names_fl Fn.all).dpA
  refine y_neD (d := .list namesD) (e := .list namesD) (dp1 (e2 _ _ h1)) (dp1 h2) (by decide +kernel) (by decide +kernel) ?_
  rw [show PyData.eqv (.list namesD) (.list namesD) = true by decide +kernel]
  walk_at "rd"
  refine y_isi (Dt.tup (ds := namesD) T.t_FUNCTIONS.sq (names_fl Fn.all).dtA) (b := true) rfl ?_
  walk_at "rd"
  refine ⟨rfl, fun l3 H3 n3 e3 h3 => ?_⟩
  refine i_L (.of h3) ?_
  refine k_lcG aritD (.of h3) (names_fl Fn.all) (by decide) (fun x d H4 Q4 hm e hx hq => ?_) (fun x => rfl) fun D1 ys1 H5 nD1 e5 hD1 hF1 => ?_
  · obtain ⟨f, _, rfl⟩ := List.mem_map.mp hm
    have := fl_str hx
    subst this
    walk_at "rd"
    refine ⟨.str f.nm, .str f.nm, rfl, .str _, fun g p hg hp => ?_, fun hn => ?_⟩
    · rw [fnD_nm] at hg
      cases hg
      refine hq _ _ (Ex.refl _) ?_
      rw [aritD_nm]
      exact .tup hp.sq (.cons (.int _) (.cons (.int _) .nil))
    · rw [fnD_nm] at hn
      cases hn
  walk_at "rd"
  refine y_repD (d := .list (namesD.map aritD)) (.lst (.of hD1) hF1.dtA) arit_rq ?_
  walk_at "rd"
  refine ⟨rfl, fun l6 H6 n6 e6 h6 => ?_⟩
  refine i_L (.of h6) ?_
  refine k_lcG aritD (.of h6) (names_fl Fn.all) (by decide) (fun x d H4 Q4 hm e hx hq => ?_) (fun x => rfl) fun D2 ys2 H7 nD2 e7 hD2 hF2 => ?_
  · obtain ⟨f, _, rfl⟩ := List.mem_map.mp hm
    have := fl_str hx
    subst this
    walk_at "rd"
    refine ⟨f, rfl, fun a H8 e8 h8 => ?_⟩
    refine hq _ _ e8 ?_
    rw [aritD_nm]
    exact .tup (.of h8) (.cons (.int _) (.cons (.int _) .nil))
  walk_at "rd"
  refine y_repD (d := .list (namesD.map aritD)) (.lst (.of hD2) hF2.dtA) arit_rq ?_
  walk_at "rd"
  refine ifnN rfl ?_
  replace hS := (e1.trans (e2.trans (e3.trans (e5.trans (e6.trans e7))))).sl hS
  walk_at "rd"
  refine y_lenL hS ?_
  walk_at "rd"
  rw [List.length_map]
  generalize hm : (if (if (4 : Int) < (ns.length : Nat) then (4 : Int) else (ns.length : Nat)) > 1 then (if (4 : Int) < (ns.length : Nat) then (4 : Int) else (ns.length : Nat)) else (1 : Int)) = m
  have hm4 : 1 ≤ m ∧ m ≤ 4 := by
    rw [← hm]
    constructor <;> (split <;> (try split) <;> omega)
  refine i_r1 (by omega) (by omega) ?_
  refine k_lcR (fun j ys H' => Ex H7 H' ∧ ys = List.replicate j (.bl true)) (fun D n => ⟨Ex.new n, rfl⟩) (fun D j ys H' nD hj hl hHD c => ?_) (fun x => rfl) fun D ys H' nD hl hHD c => ?_
  · obtain ⟨eH, rfl⟩ := c
    walk_at "rd"
    refine ⟨a, ns, j, by rw [Int.zero_add], eH.sl hS, by omega, fun p HA np eA PA => ?_⟩
    walk_at "rd"
    refine ⟨p, rfl, PA, fun HB PB eB => ?_⟩
    have eAB : Ex H' HB := Ex.lstN eA np eB
    refine k_turn (eAB _ _ hHD) hl (by omega) ⟨Ex.putN (eH.trans eAB) nD, ?_⟩
    rw [List.replicate_succ']
  · obtain ⟨eH, rfl⟩ := c
    walk_at "rd"
    refine y_all (bs := List.replicate m.toNat true) (.of (by rw [hHD, List.map_replicate])) ?_
    have hall : (List.replicate m.toNat true).all id = true := by
      rw [List.all_eq_true]
      intro b hb
      rw [List.eq_of_mem_replicate hb]
      rfl
    rw [hall]
    exact q _
theorem all_ok (T : Tx K mg w) : Cal P w K mg base 19 "law" s_law P_law (sp_law K) := by
  have X1 := xk_UnknownFunction (P := P) (w := w) (base := base) T
  have X2 := xk_InvalidValue (P := P) (w := w) (base := base) T
  have C1 := ok_is_int (P := P) (w := w) (base := base) nd T
  have C2 := ok_is_nested (P := P) (w := w) (base := base) nd T C1 10
  have C3 := ok_depth_of (P := P) (w := w) (base := base) nd T C1 10
  have C4 := ok_datum_size (P := P) (w := w) (base := base) nd T C1 10
  have C5 := ok_is_datum (P := P) (w := w) (base := base) nd T C2 C3 C4
  have C6 := ok_is_fault (P := P) (w := w) (base := base) nd T
  have C7 := ok_is_value (P := P) (w := w) (base := base) nd T C6 C5
  have A1 := ok_is_function (P := P) (w := w) (base := base) nd T
  have A2 := ok_arity (P := P) (w := w) (base := base) nd T X1 A1
  have A3 := ok_apply (P := P) (w := w) (base := base) nd T X2 C1 C5 C7 A2
  have D1 := ok_pot (P := P) (w := w) (base := base) nd T
  have D2 := ok_digit (P := P) (w := w) (base := base) nd T
  have D3 := ok_int (P := P) (w := w) (base := base) nd T D2
  have D4 := ok_pick (P := P) (w := w) (base := base) nd T D2
  have D5 := ok_datumW (P := P) (w := w) (base := base) nd T D2 D3 4
  have L1 := ok_larity (P := P) (w := w) (base := base) nd T
  have L2 := ok_lwords (P := P) (w := w) (base := base) nd T
  have L3 := ok_lsize (P := P) (w := w) (base := base) nd T
  have L4 := ok_ldeep (P := P) (w := w) (base := base) nd T
  have L5 := ok_lfits (P := P) (w := w) (base := base) nd T L3 L4 11
  have R1 := ok_lglued (P := P) (w := w) (base := base) nd T
  have R2 := ok_lof2 (P := P) (w := w) (base := base) nd T
  have R3 := ok_lofT (P := P) (w := w) (base := base) nd T
  have R4 := ok_lraw (P := P) (w := w) (base := base) nd T R1 R2 R3
  have R5 := ok_lresult (P := P) (w := w) (base := base) nd T R4 (by decide) L5
  have R6 := ok_lapplied (P := P) (w := w) (base := base) nd T A3
  have R7 := ok_lints (P := P) (w := w) (base := base) nd T D2 D3
  have R8 := ok_lgiven (P := P) (w := w) (base := base) nd T D2 D3 D4 D5 L1 R7
  exact ok_law nd T D1 L2 L1 A2 (ok_lright (P := P) (w := w) (base := base) nd T D4 L2 R8 R5 R6)
end
theorem tx_mk {K : PySem.W.Frag} {w : World} {h : Heap} {mg : Str → Option Value} (X : K.In h) (G : h.Ns mainGlobals mg)
    (z_abs : PySem.W.nsIn K mainGlobals "abs" = some none)
    (z_all : PySem.W.nsIn K mainGlobals "all" = some none)
    (z_any : PySem.W.nsIn K mainGlobals "any" = some none)
    (z_bool : PySem.W.nsIn K mainGlobals "bool" = some none)
    (z_divmod : PySem.W.nsIn K mainGlobals "divmod" = some none)
    (z_int : PySem.W.nsIn K mainGlobals "int" = some none)
    (z_isinstance : PySem.W.nsIn K mainGlobals "isinstance" = some none)
    (z_len : PySem.W.nsIn K mainGlobals "len" = some none)
    (z_list : PySem.W.nsIn K mainGlobals "list" = some none)
    (z_max : PySem.W.nsIn K mainGlobals "max" = some none)
    (z_min : PySem.W.nsIn K mainGlobals "min" = some none)
    (z_range : PySem.W.nsIn K mainGlobals "range" = some none)
    (z_repr : PySem.W.nsIn K mainGlobals "repr" = some none)
    (z_sorted : PySem.W.nsIn K mainGlobals "sorted" = some none)
    (z_str : PySem.W.nsIn K mainGlobals "str" = some none)
    (z_sum : PySem.W.nsIn K mainGlobals "sum" = some none)
    (z_tuple : PySem.W.nsIn K mainGlobals "tuple" = some none)
    {t_FAULT : Tok} (y_FAULT : PySem.W.nsIn K mainGlobals "FAULT" = some (some (.str "fault" t_FAULT)))
    {t_MOST_ITEMS : Tok} (y_MOST_ITEMS : PySem.W.nsIn K mainGlobals "MOST_ITEMS" = some (some (.int 40 t_MOST_ITEMS)))
    {t_MOST_DEPTH : Tok} (y_MOST_DEPTH : PySem.W.nsIn K mainGlobals "MOST_DEPTH" = some (some (.int 4 t_MOST_DEPTH)))
    {t_MOST_SIZE : Tok} (y_MOST_SIZE : PySem.W.nsIn K mainGlobals "MOST_SIZE" = some (some (.int 1000 t_MOST_SIZE)))
    {A_FUNCTIONS : Addr} (y_FUNCTIONS : PySem.W.nsIn K mainGlobals "FUNCTIONS" = some (some (.ref A_FUNCTIONS)))
    {od_FUNCTIONS : Option Addr} {its_FUNCTIONS : Array Value} {nn_FUNCTIONS : Nat} {sl_FUNCTIONS : Array (Option Value)} (l_FUNCTIONS : K.lookup A_FUNCTIONS = some ⟨.type "tuple", od_FUNCTIONS, .seq its_FUNCTIONS nn_FUNCTIONS, sl_FUNCTIONS⟩) (v_FUNCTIONS : Vals [.str "add", .str "sub", .str "mul", .str "div", .str "neg", .str "min", .str "max", .str "less", .str "same", .str "length", .str "item", .str "pack", .str "join", .str "take", .str "drop", .str "sort", .str "total", .str "turn"] its_FUNCTIONS.toList) (s_FUNCTIONS : its_FUNCTIONS.size ≤ sizeLine)
    {A_ARITIES : Addr} (y_ARITIES : PySem.W.nsIn K mainGlobals "ARITIES" = some (some (.ref A_ARITIES)))
    {es_ARITIES : Array DictEntry} {nn_ARITIES : Nat} (l_ARITIES : K.lookup A_ARITIES = some ⟨.type "dict", none, .dict es_ARITIES nn_ARITIES, #[]⟩) (q_ARITIES : PySem.W.KeysLit w.params es_ARITIES.toList)
    {A_ARITIES_0 : Addr} (e_ARITIES_0 : PySem.W.nsIn K A_ARITIES "add" = some (some (.ref A_ARITIES_0)))
    {od_ARITIES_0 : Option Addr} {its_ARITIES_0 : Array Value} {nn_ARITIES_0 : Nat} {sl_ARITIES_0 : Array (Option Value)} (l_ARITIES_0 : K.lookup A_ARITIES_0 = some ⟨.type "tuple", od_ARITIES_0, .seq its_ARITIES_0 nn_ARITIES_0, sl_ARITIES_0⟩) (v_ARITIES_0 : Vals [.int 2, .int 2] its_ARITIES_0.toList) (s_ARITIES_0 : its_ARITIES_0.size ≤ sizeLine)
    {A_ARITIES_1 : Addr} (e_ARITIES_1 : PySem.W.nsIn K A_ARITIES "sub" = some (some (.ref A_ARITIES_1)))
    {od_ARITIES_1 : Option Addr} {its_ARITIES_1 : Array Value} {nn_ARITIES_1 : Nat} {sl_ARITIES_1 : Array (Option Value)} (l_ARITIES_1 : K.lookup A_ARITIES_1 = some ⟨.type "tuple", od_ARITIES_1, .seq its_ARITIES_1 nn_ARITIES_1, sl_ARITIES_1⟩) (v_ARITIES_1 : Vals [.int 2, .int 2] its_ARITIES_1.toList) (s_ARITIES_1 : its_ARITIES_1.size ≤ sizeLine)
    {A_ARITIES_2 : Addr} (e_ARITIES_2 : PySem.W.nsIn K A_ARITIES "mul" = some (some (.ref A_ARITIES_2)))
    {od_ARITIES_2 : Option Addr} {its_ARITIES_2 : Array Value} {nn_ARITIES_2 : Nat} {sl_ARITIES_2 : Array (Option Value)} (l_ARITIES_2 : K.lookup A_ARITIES_2 = some ⟨.type "tuple", od_ARITIES_2, .seq its_ARITIES_2 nn_ARITIES_2, sl_ARITIES_2⟩) (v_ARITIES_2 : Vals [.int 2, .int 2] its_ARITIES_2.toList) (s_ARITIES_2 : its_ARITIES_2.size ≤ sizeLine)
    {A_ARITIES_3 : Addr} (e_ARITIES_3 : PySem.W.nsIn K A_ARITIES "div" = some (some (.ref A_ARITIES_3)))
    {od_ARITIES_3 : Option Addr} {its_ARITIES_3 : Array Value} {nn_ARITIES_3 : Nat} {sl_ARITIES_3 : Array (Option Value)} (l_ARITIES_3 : K.lookup A_ARITIES_3 = some ⟨.type "tuple", od_ARITIES_3, .seq its_ARITIES_3 nn_ARITIES_3, sl_ARITIES_3⟩) (v_ARITIES_3 : Vals [.int 2, .int 2] its_ARITIES_3.toList) (s_ARITIES_3 : its_ARITIES_3.size ≤ sizeLine)
    {A_ARITIES_4 : Addr} (e_ARITIES_4 : PySem.W.nsIn K A_ARITIES "neg" = some (some (.ref A_ARITIES_4)))
    {od_ARITIES_4 : Option Addr} {its_ARITIES_4 : Array Value} {nn_ARITIES_4 : Nat} {sl_ARITIES_4 : Array (Option Value)} (l_ARITIES_4 : K.lookup A_ARITIES_4 = some ⟨.type "tuple", od_ARITIES_4, .seq its_ARITIES_4 nn_ARITIES_4, sl_ARITIES_4⟩) (v_ARITIES_4 : Vals [.int 1, .int 1] its_ARITIES_4.toList) (s_ARITIES_4 : its_ARITIES_4.size ≤ sizeLine)
    {A_ARITIES_5 : Addr} (e_ARITIES_5 : PySem.W.nsIn K A_ARITIES "min" = some (some (.ref A_ARITIES_5)))
    {od_ARITIES_5 : Option Addr} {its_ARITIES_5 : Array Value} {nn_ARITIES_5 : Nat} {sl_ARITIES_5 : Array (Option Value)} (l_ARITIES_5 : K.lookup A_ARITIES_5 = some ⟨.type "tuple", od_ARITIES_5, .seq its_ARITIES_5 nn_ARITIES_5, sl_ARITIES_5⟩) (v_ARITIES_5 : Vals [.int 1, .int 6] its_ARITIES_5.toList) (s_ARITIES_5 : its_ARITIES_5.size ≤ sizeLine)
    {A_ARITIES_6 : Addr} (e_ARITIES_6 : PySem.W.nsIn K A_ARITIES "max" = some (some (.ref A_ARITIES_6)))
    {od_ARITIES_6 : Option Addr} {its_ARITIES_6 : Array Value} {nn_ARITIES_6 : Nat} {sl_ARITIES_6 : Array (Option Value)} (l_ARITIES_6 : K.lookup A_ARITIES_6 = some ⟨.type "tuple", od_ARITIES_6, .seq its_ARITIES_6 nn_ARITIES_6, sl_ARITIES_6⟩) (v_ARITIES_6 : Vals [.int 1, .int 6] its_ARITIES_6.toList) (s_ARITIES_6 : its_ARITIES_6.size ≤ sizeLine)
    {A_ARITIES_7 : Addr} (e_ARITIES_7 : PySem.W.nsIn K A_ARITIES "less" = some (some (.ref A_ARITIES_7)))
    {od_ARITIES_7 : Option Addr} {its_ARITIES_7 : Array Value} {nn_ARITIES_7 : Nat} {sl_ARITIES_7 : Array (Option Value)} (l_ARITIES_7 : K.lookup A_ARITIES_7 = some ⟨.type "tuple", od_ARITIES_7, .seq its_ARITIES_7 nn_ARITIES_7, sl_ARITIES_7⟩) (v_ARITIES_7 : Vals [.int 2, .int 2] its_ARITIES_7.toList) (s_ARITIES_7 : its_ARITIES_7.size ≤ sizeLine)
    {A_ARITIES_8 : Addr} (e_ARITIES_8 : PySem.W.nsIn K A_ARITIES "same" = some (some (.ref A_ARITIES_8)))
    {od_ARITIES_8 : Option Addr} {its_ARITIES_8 : Array Value} {nn_ARITIES_8 : Nat} {sl_ARITIES_8 : Array (Option Value)} (l_ARITIES_8 : K.lookup A_ARITIES_8 = some ⟨.type "tuple", od_ARITIES_8, .seq its_ARITIES_8 nn_ARITIES_8, sl_ARITIES_8⟩) (v_ARITIES_8 : Vals [.int 2, .int 2] its_ARITIES_8.toList) (s_ARITIES_8 : its_ARITIES_8.size ≤ sizeLine)
    {A_ARITIES_9 : Addr} (e_ARITIES_9 : PySem.W.nsIn K A_ARITIES "length" = some (some (.ref A_ARITIES_9)))
    {od_ARITIES_9 : Option Addr} {its_ARITIES_9 : Array Value} {nn_ARITIES_9 : Nat} {sl_ARITIES_9 : Array (Option Value)} (l_ARITIES_9 : K.lookup A_ARITIES_9 = some ⟨.type "tuple", od_ARITIES_9, .seq its_ARITIES_9 nn_ARITIES_9, sl_ARITIES_9⟩) (v_ARITIES_9 : Vals [.int 1, .int 1] its_ARITIES_9.toList) (s_ARITIES_9 : its_ARITIES_9.size ≤ sizeLine)
    {A_ARITIES_10 : Addr} (e_ARITIES_10 : PySem.W.nsIn K A_ARITIES "item" = some (some (.ref A_ARITIES_10)))
    {od_ARITIES_10 : Option Addr} {its_ARITIES_10 : Array Value} {nn_ARITIES_10 : Nat} {sl_ARITIES_10 : Array (Option Value)} (l_ARITIES_10 : K.lookup A_ARITIES_10 = some ⟨.type "tuple", od_ARITIES_10, .seq its_ARITIES_10 nn_ARITIES_10, sl_ARITIES_10⟩) (v_ARITIES_10 : Vals [.int 2, .int 2] its_ARITIES_10.toList) (s_ARITIES_10 : its_ARITIES_10.size ≤ sizeLine)
    {A_ARITIES_11 : Addr} (e_ARITIES_11 : PySem.W.nsIn K A_ARITIES "pack" = some (some (.ref A_ARITIES_11)))
    {od_ARITIES_11 : Option Addr} {its_ARITIES_11 : Array Value} {nn_ARITIES_11 : Nat} {sl_ARITIES_11 : Array (Option Value)} (l_ARITIES_11 : K.lookup A_ARITIES_11 = some ⟨.type "tuple", od_ARITIES_11, .seq its_ARITIES_11 nn_ARITIES_11, sl_ARITIES_11⟩) (v_ARITIES_11 : Vals [.int 0, .int 6] its_ARITIES_11.toList) (s_ARITIES_11 : its_ARITIES_11.size ≤ sizeLine)
    {A_ARITIES_12 : Addr} (e_ARITIES_12 : PySem.W.nsIn K A_ARITIES "join" = some (some (.ref A_ARITIES_12)))
    {od_ARITIES_12 : Option Addr} {its_ARITIES_12 : Array Value} {nn_ARITIES_12 : Nat} {sl_ARITIES_12 : Array (Option Value)} (l_ARITIES_12 : K.lookup A_ARITIES_12 = some ⟨.type "tuple", od_ARITIES_12, .seq its_ARITIES_12 nn_ARITIES_12, sl_ARITIES_12⟩) (v_ARITIES_12 : Vals [.int 0, .int 6] its_ARITIES_12.toList) (s_ARITIES_12 : its_ARITIES_12.size ≤ sizeLine)
    {A_ARITIES_13 : Addr} (e_ARITIES_13 : PySem.W.nsIn K A_ARITIES "take" = some (some (.ref A_ARITIES_13)))
    {od_ARITIES_13 : Option Addr} {its_ARITIES_13 : Array Value} {nn_ARITIES_13 : Nat} {sl_ARITIES_13 : Array (Option Value)} (l_ARITIES_13 : K.lookup A_ARITIES_13 = some ⟨.type "tuple", od_ARITIES_13, .seq its_ARITIES_13 nn_ARITIES_13, sl_ARITIES_13⟩) (v_ARITIES_13 : Vals [.int 2, .int 2] its_ARITIES_13.toList) (s_ARITIES_13 : its_ARITIES_13.size ≤ sizeLine)
    {A_ARITIES_14 : Addr} (e_ARITIES_14 : PySem.W.nsIn K A_ARITIES "drop" = some (some (.ref A_ARITIES_14)))
    {od_ARITIES_14 : Option Addr} {its_ARITIES_14 : Array Value} {nn_ARITIES_14 : Nat} {sl_ARITIES_14 : Array (Option Value)} (l_ARITIES_14 : K.lookup A_ARITIES_14 = some ⟨.type "tuple", od_ARITIES_14, .seq its_ARITIES_14 nn_ARITIES_14, sl_ARITIES_14⟩) (v_ARITIES_14 : Vals [.int 2, .int 2] its_ARITIES_14.toList) (s_ARITIES_14 : its_ARITIES_14.size ≤ sizeLine)
    {A_ARITIES_15 : Addr} (e_ARITIES_15 : PySem.W.nsIn K A_ARITIES "sort" = some (some (.ref A_ARITIES_15)))
    {od_ARITIES_15 : Option Addr} {its_ARITIES_15 : Array Value} {nn_ARITIES_15 : Nat} {sl_ARITIES_15 : Array (Option Value)} (l_ARITIES_15 : K.lookup A_ARITIES_15 = some ⟨.type "tuple", od_ARITIES_15, .seq its_ARITIES_15 nn_ARITIES_15, sl_ARITIES_15⟩) (v_ARITIES_15 : Vals [.int 1, .int 1] its_ARITIES_15.toList) (s_ARITIES_15 : its_ARITIES_15.size ≤ sizeLine)
    {A_ARITIES_16 : Addr} (e_ARITIES_16 : PySem.W.nsIn K A_ARITIES "total" = some (some (.ref A_ARITIES_16)))
    {od_ARITIES_16 : Option Addr} {its_ARITIES_16 : Array Value} {nn_ARITIES_16 : Nat} {sl_ARITIES_16 : Array (Option Value)} (l_ARITIES_16 : K.lookup A_ARITIES_16 = some ⟨.type "tuple", od_ARITIES_16, .seq its_ARITIES_16 nn_ARITIES_16, sl_ARITIES_16⟩) (v_ARITIES_16 : Vals [.int 1, .int 1] its_ARITIES_16.toList) (s_ARITIES_16 : its_ARITIES_16.size ≤ sizeLine)
    {A_ARITIES_17 : Addr} (e_ARITIES_17 : PySem.W.nsIn K A_ARITIES "turn" = some (some (.ref A_ARITIES_17)))
    {od_ARITIES_17 : Option Addr} {its_ARITIES_17 : Array Value} {nn_ARITIES_17 : Nat} {sl_ARITIES_17 : Array (Option Value)} (l_ARITIES_17 : K.lookup A_ARITIES_17 = some ⟨.type "tuple", od_ARITIES_17, .seq its_ARITIES_17 nn_ARITIES_17, sl_ARITIES_17⟩) (v_ARITIES_17 : Vals [.int 1, .int 1] its_ARITIES_17.toList) (s_ARITIES_17 : its_ARITIES_17.size ≤ sizeLine)
    {A_CHECKS : Addr} (y_CHECKS : PySem.W.nsIn K mainGlobals "CHECKS" = some (some (.ref A_CHECKS)))
    {es_CHECKS : Array DictEntry} {nn_CHECKS : Nat} (l_CHECKS : K.lookup A_CHECKS = some ⟨.type "dict", none, .dict es_CHECKS nn_CHECKS, #[]⟩) (q_CHECKS : PySem.W.KeysLit w.params es_CHECKS.toList)
    {A_RESULTS : Addr} (y_RESULTS : PySem.W.nsIn K mainGlobals "RESULTS" = some (some (.ref A_RESULTS)))
    {es_RESULTS : Array DictEntry} {nn_RESULTS : Nat} (l_RESULTS : K.lookup A_RESULTS = some ⟨.type "dict", none, .dict es_RESULTS nn_RESULTS, #[]⟩) (q_RESULTS : PySem.W.KeysLit w.params es_RESULTS.toList)
    {f_is_int : Addr} {od_is_int an_is_int : Option Addr} {sl_is_int : Array (Option Value)} {oc_is_int kV_is_int dc_is_int pm_is_int cd_is_int ct_is_int : Value}
    (a_is_int : PySem.W.nsIn K mainGlobals "is_int" = some (some (.ref f_is_int)))
    (l_is_int : K.lookup f_is_int = some ⟨oc_is_int, od_is_int, .func (PySem.W.fnOf "is_int" "is_int" (defArgs s_is_int) (defBody s_is_int) (defScope s_is_int) .none kV_is_int dc_is_int pm_is_int an_is_int cd_is_int ct_is_int), sl_is_int⟩)
    (g_is_int : PySem.W.codeIn K cd_is_int "is_int" = true) (k_is_int : PySem.W.keepIn K (.ref f_is_int) = true)
    {f_is_count : Addr} {od_is_count an_is_count : Option Addr} {sl_is_count : Array (Option Value)} {oc_is_count kV_is_count dc_is_count pm_is_count cd_is_count ct_is_count : Value}
    (a_is_count : PySem.W.nsIn K mainGlobals "is_count" = some (some (.ref f_is_count)))
    (l_is_count : K.lookup f_is_count = some ⟨oc_is_count, od_is_count, .func (PySem.W.fnOf "is_count" "is_count" (defArgs s_is_count) (defBody s_is_count) (defScope s_is_count) .none kV_is_count dc_is_count pm_is_count an_is_count cd_is_count ct_is_count), sl_is_count⟩)
    (g_is_count : PySem.W.codeIn K cd_is_count "is_count" = true) (k_is_count : PySem.W.keepIn K (.ref f_is_count) = true)
    {f_is_nested : Addr} {od_is_nested an_is_nested : Option Addr} {sl_is_nested : Array (Option Value)} {oc_is_nested kV_is_nested dc_is_nested pm_is_nested cd_is_nested ct_is_nested : Value}
    (a_is_nested : PySem.W.nsIn K mainGlobals "is_nested" = some (some (.ref f_is_nested)))
    (l_is_nested : K.lookup f_is_nested = some ⟨oc_is_nested, od_is_nested, .func (PySem.W.fnOf "is_nested" "is_nested" (defArgs s_is_nested) (defBody s_is_nested) (defScope s_is_nested) .none kV_is_nested dc_is_nested pm_is_nested an_is_nested cd_is_nested ct_is_nested), sl_is_nested⟩)
    (g_is_nested : PySem.W.codeIn K cd_is_nested "is_nested" = true) (k_is_nested : PySem.W.keepIn K (.ref f_is_nested) = true)
    {f_depth_of : Addr} {od_depth_of an_depth_of : Option Addr} {sl_depth_of : Array (Option Value)} {oc_depth_of kV_depth_of dc_depth_of pm_depth_of cd_depth_of ct_depth_of : Value}
    (a_depth_of : PySem.W.nsIn K mainGlobals "depth_of" = some (some (.ref f_depth_of)))
    (l_depth_of : K.lookup f_depth_of = some ⟨oc_depth_of, od_depth_of, .func (PySem.W.fnOf "depth_of" "depth_of" (defArgs s_depth_of) (defBody s_depth_of) (defScope s_depth_of) .none kV_depth_of dc_depth_of pm_depth_of an_depth_of cd_depth_of ct_depth_of), sl_depth_of⟩)
    (g_depth_of : PySem.W.codeIn K cd_depth_of "depth_of" = true) (k_depth_of : PySem.W.keepIn K (.ref f_depth_of) = true)
    {f_datum_size : Addr} {od_datum_size an_datum_size : Option Addr} {sl_datum_size : Array (Option Value)} {oc_datum_size kV_datum_size dc_datum_size pm_datum_size cd_datum_size ct_datum_size : Value}
    (a_datum_size : PySem.W.nsIn K mainGlobals "datum_size" = some (some (.ref f_datum_size)))
    (l_datum_size : K.lookup f_datum_size = some ⟨oc_datum_size, od_datum_size, .func (PySem.W.fnOf "datum_size" "datum_size" (defArgs s_datum_size) (defBody s_datum_size) (defScope s_datum_size) .none kV_datum_size dc_datum_size pm_datum_size an_datum_size cd_datum_size ct_datum_size), sl_datum_size⟩)
    (g_datum_size : PySem.W.codeIn K cd_datum_size "datum_size" = true) (k_datum_size : PySem.W.keepIn K (.ref f_datum_size) = true)
    {f_is_datum : Addr} {od_is_datum an_is_datum : Option Addr} {sl_is_datum : Array (Option Value)} {oc_is_datum kV_is_datum dc_is_datum pm_is_datum cd_is_datum ct_is_datum : Value}
    (a_is_datum : PySem.W.nsIn K mainGlobals "is_datum" = some (some (.ref f_is_datum)))
    (l_is_datum : K.lookup f_is_datum = some ⟨oc_is_datum, od_is_datum, .func (PySem.W.fnOf "is_datum" "is_datum" (defArgs s_is_datum) (defBody s_is_datum) (defScope s_is_datum) .none kV_is_datum dc_is_datum pm_is_datum an_is_datum cd_is_datum ct_is_datum), sl_is_datum⟩)
    (g_is_datum : PySem.W.codeIn K cd_is_datum "is_datum" = true) (k_is_datum : PySem.W.keepIn K (.ref f_is_datum) = true)
    {f_is_fault : Addr} {od_is_fault an_is_fault : Option Addr} {sl_is_fault : Array (Option Value)} {oc_is_fault kV_is_fault dc_is_fault pm_is_fault cd_is_fault ct_is_fault : Value}
    (a_is_fault : PySem.W.nsIn K mainGlobals "is_fault" = some (some (.ref f_is_fault)))
    (l_is_fault : K.lookup f_is_fault = some ⟨oc_is_fault, od_is_fault, .func (PySem.W.fnOf "is_fault" "is_fault" (defArgs s_is_fault) (defBody s_is_fault) (defScope s_is_fault) .none kV_is_fault dc_is_fault pm_is_fault an_is_fault cd_is_fault ct_is_fault), sl_is_fault⟩)
    (g_is_fault : PySem.W.codeIn K cd_is_fault "is_fault" = true) (k_is_fault : PySem.W.keepIn K (.ref f_is_fault) = true)
    {f_is_value : Addr} {od_is_value an_is_value : Option Addr} {sl_is_value : Array (Option Value)} {oc_is_value kV_is_value dc_is_value pm_is_value cd_is_value ct_is_value : Value}
    (a_is_value : PySem.W.nsIn K mainGlobals "is_value" = some (some (.ref f_is_value)))
    (l_is_value : K.lookup f_is_value = some ⟨oc_is_value, od_is_value, .func (PySem.W.fnOf "is_value" "is_value" (defArgs s_is_value) (defBody s_is_value) (defScope s_is_value) .none kV_is_value dc_is_value pm_is_value an_is_value cd_is_value ct_is_value), sl_is_value⟩)
    (g_is_value : PySem.W.codeIn K cd_is_value "is_value" = true) (k_is_value : PySem.W.keepIn K (.ref f_is_value) = true)
    {f_are_integers : Addr} {od_are_integers an_are_integers : Option Addr} {sl_are_integers : Array (Option Value)} {oc_are_integers kV_are_integers dc_are_integers pm_are_integers cd_are_integers ct_are_integers : Value}
    (a_are_integers : PySem.W.nsIn K mainGlobals "are_integers" = some (some (.ref f_are_integers)))
    (l_are_integers : K.lookup f_are_integers = some ⟨oc_are_integers, od_are_integers, .func (PySem.W.fnOf "are_integers" "are_integers" (defArgs s_are_integers) (defBody s_are_integers) (defScope s_are_integers) .none kV_are_integers dc_are_integers pm_are_integers an_are_integers cd_are_integers ct_are_integers), sl_are_integers⟩)
    (g_are_integers : PySem.W.codeIn K cd_are_integers "are_integers" = true) (k_are_integers : PySem.W.keepIn K (.ref f_are_integers) = true)
    {f_are_tuples : Addr} {od_are_tuples an_are_tuples : Option Addr} {sl_are_tuples : Array (Option Value)} {oc_are_tuples kV_are_tuples dc_are_tuples pm_are_tuples cd_are_tuples ct_are_tuples : Value}
    (a_are_tuples : PySem.W.nsIn K mainGlobals "are_tuples" = some (some (.ref f_are_tuples)))
    (l_are_tuples : K.lookup f_are_tuples = some ⟨oc_are_tuples, od_are_tuples, .func (PySem.W.fnOf "are_tuples" "are_tuples" (defArgs s_are_tuples) (defBody s_are_tuples) (defScope s_are_tuples) .none kV_are_tuples dc_are_tuples pm_are_tuples an_are_tuples cd_are_tuples ct_are_tuples), sl_are_tuples⟩)
    (g_are_tuples : PySem.W.codeIn K cd_are_tuples "are_tuples" = true) (k_are_tuples : PySem.W.keepIn K (.ref f_are_tuples) = true)
    {f_are_data : Addr} {od_are_data an_are_data : Option Addr} {sl_are_data : Array (Option Value)} {oc_are_data kV_are_data dc_are_data pm_are_data cd_are_data ct_are_data : Value}
    (a_are_data : PySem.W.nsIn K mainGlobals "are_data" = some (some (.ref f_are_data)))
    (l_are_data : K.lookup f_are_data = some ⟨oc_are_data, od_are_data, .func (PySem.W.fnOf "are_data" "are_data" (defArgs s_are_data) (defBody s_are_data) (defScope s_are_data) .none kV_are_data dc_are_data pm_are_data an_are_data cd_are_data ct_are_data), sl_are_data⟩)
    (g_are_data : PySem.W.codeIn K cd_are_data "are_data" = true) (k_are_data : PySem.W.keepIn K (.ref f_are_data) = true)
    {f_can_divide : Addr} {od_can_divide an_can_divide : Option Addr} {sl_can_divide : Array (Option Value)} {oc_can_divide kV_can_divide dc_can_divide pm_can_divide cd_can_divide ct_can_divide : Value}
    (a_can_divide : PySem.W.nsIn K mainGlobals "can_divide" = some (some (.ref f_can_divide)))
    (l_can_divide : K.lookup f_can_divide = some ⟨oc_can_divide, od_can_divide, .func (PySem.W.fnOf "can_divide" "can_divide" (defArgs s_can_divide) (defBody s_can_divide) (defScope s_can_divide) .none kV_can_divide dc_can_divide pm_can_divide an_can_divide cd_can_divide ct_can_divide), sl_can_divide⟩)
    (g_can_divide : PySem.W.codeIn K cd_can_divide "can_divide" = true) (k_can_divide : PySem.W.keepIn K (.ref f_can_divide) = true)
    {f_can_count : Addr} {od_can_count an_can_count : Option Addr} {sl_can_count : Array (Option Value)} {oc_can_count kV_can_count dc_can_count pm_can_count cd_can_count ct_can_count : Value}
    (a_can_count : PySem.W.nsIn K mainGlobals "can_count" = some (some (.ref f_can_count)))
    (l_can_count : K.lookup f_can_count = some ⟨oc_can_count, od_can_count, .func (PySem.W.fnOf "can_count" "can_count" (defArgs s_can_count) (defBody s_can_count) (defScope s_can_count) .none kV_can_count dc_can_count pm_can_count an_can_count cd_can_count ct_can_count), sl_can_count⟩)
    (g_can_count : PySem.W.codeIn K cd_can_count "can_count" = true) (k_can_count : PySem.W.keepIn K (.ref f_can_count) = true)
    {f_can_index : Addr} {od_can_index an_can_index : Option Addr} {sl_can_index : Array (Option Value)} {oc_can_index kV_can_index dc_can_index pm_can_index cd_can_index ct_can_index : Value}
    (a_can_index : PySem.W.nsIn K mainGlobals "can_index" = some (some (.ref f_can_index)))
    (l_can_index : K.lookup f_can_index = some ⟨oc_can_index, od_can_index, .func (PySem.W.fnOf "can_index" "can_index" (defArgs s_can_index) (defBody s_can_index) (defScope s_can_index) .none kV_can_index dc_can_index pm_can_index an_can_index cd_can_index ct_can_index), sl_can_index⟩)
    (g_can_index : PySem.W.codeIn K cd_can_index "can_index" = true) (k_can_index : PySem.W.keepIn K (.ref f_can_index) = true)
    {f_is_integer_tuple : Addr} {od_is_integer_tuple an_is_integer_tuple : Option Addr} {sl_is_integer_tuple : Array (Option Value)} {oc_is_integer_tuple kV_is_integer_tuple dc_is_integer_tuple pm_is_integer_tuple cd_is_integer_tuple ct_is_integer_tuple : Value}
    (a_is_integer_tuple : PySem.W.nsIn K mainGlobals "is_integer_tuple" = some (some (.ref f_is_integer_tuple)))
    (l_is_integer_tuple : K.lookup f_is_integer_tuple = some ⟨oc_is_integer_tuple, od_is_integer_tuple, .func (PySem.W.fnOf "is_integer_tuple" "is_integer_tuple" (defArgs s_is_integer_tuple) (defBody s_is_integer_tuple) (defScope s_is_integer_tuple) .none kV_is_integer_tuple dc_is_integer_tuple pm_is_integer_tuple an_is_integer_tuple cd_is_integer_tuple ct_is_integer_tuple), sl_is_integer_tuple⟩)
    (g_is_integer_tuple : PySem.W.codeIn K cd_is_integer_tuple "is_integer_tuple" = true) (k_is_integer_tuple : PySem.W.keepIn K (.ref f_is_integer_tuple) = true)
    {f_do_add : Addr} {od_do_add an_do_add : Option Addr} {sl_do_add : Array (Option Value)} {oc_do_add kV_do_add dc_do_add pm_do_add cd_do_add ct_do_add : Value}
    (a_do_add : PySem.W.nsIn K mainGlobals "do_add" = some (some (.ref f_do_add)))
    (l_do_add : K.lookup f_do_add = some ⟨oc_do_add, od_do_add, .func (PySem.W.fnOf "do_add" "do_add" (defArgs s_do_add) (defBody s_do_add) (defScope s_do_add) .none kV_do_add dc_do_add pm_do_add an_do_add cd_do_add ct_do_add), sl_do_add⟩)
    (g_do_add : PySem.W.codeIn K cd_do_add "do_add" = true) (k_do_add : PySem.W.keepIn K (.ref f_do_add) = true)
    {f_do_sub : Addr} {od_do_sub an_do_sub : Option Addr} {sl_do_sub : Array (Option Value)} {oc_do_sub kV_do_sub dc_do_sub pm_do_sub cd_do_sub ct_do_sub : Value}
    (a_do_sub : PySem.W.nsIn K mainGlobals "do_sub" = some (some (.ref f_do_sub)))
    (l_do_sub : K.lookup f_do_sub = some ⟨oc_do_sub, od_do_sub, .func (PySem.W.fnOf "do_sub" "do_sub" (defArgs s_do_sub) (defBody s_do_sub) (defScope s_do_sub) .none kV_do_sub dc_do_sub pm_do_sub an_do_sub cd_do_sub ct_do_sub), sl_do_sub⟩)
    (g_do_sub : PySem.W.codeIn K cd_do_sub "do_sub" = true) (k_do_sub : PySem.W.keepIn K (.ref f_do_sub) = true)
    {f_do_mul : Addr} {od_do_mul an_do_mul : Option Addr} {sl_do_mul : Array (Option Value)} {oc_do_mul kV_do_mul dc_do_mul pm_do_mul cd_do_mul ct_do_mul : Value}
    (a_do_mul : PySem.W.nsIn K mainGlobals "do_mul" = some (some (.ref f_do_mul)))
    (l_do_mul : K.lookup f_do_mul = some ⟨oc_do_mul, od_do_mul, .func (PySem.W.fnOf "do_mul" "do_mul" (defArgs s_do_mul) (defBody s_do_mul) (defScope s_do_mul) .none kV_do_mul dc_do_mul pm_do_mul an_do_mul cd_do_mul ct_do_mul), sl_do_mul⟩)
    (g_do_mul : PySem.W.codeIn K cd_do_mul "do_mul" = true) (k_do_mul : PySem.W.keepIn K (.ref f_do_mul) = true)
    {f_do_div : Addr} {od_do_div an_do_div : Option Addr} {sl_do_div : Array (Option Value)} {oc_do_div kV_do_div dc_do_div pm_do_div cd_do_div ct_do_div : Value}
    (a_do_div : PySem.W.nsIn K mainGlobals "do_div" = some (some (.ref f_do_div)))
    (l_do_div : K.lookup f_do_div = some ⟨oc_do_div, od_do_div, .func (PySem.W.fnOf "do_div" "do_div" (defArgs s_do_div) (defBody s_do_div) (defScope s_do_div) .none kV_do_div dc_do_div pm_do_div an_do_div cd_do_div ct_do_div), sl_do_div⟩)
    (g_do_div : PySem.W.codeIn K cd_do_div "do_div" = true) (k_do_div : PySem.W.keepIn K (.ref f_do_div) = true)
    {f_do_neg : Addr} {od_do_neg an_do_neg : Option Addr} {sl_do_neg : Array (Option Value)} {oc_do_neg kV_do_neg dc_do_neg pm_do_neg cd_do_neg ct_do_neg : Value}
    (a_do_neg : PySem.W.nsIn K mainGlobals "do_neg" = some (some (.ref f_do_neg)))
    (l_do_neg : K.lookup f_do_neg = some ⟨oc_do_neg, od_do_neg, .func (PySem.W.fnOf "do_neg" "do_neg" (defArgs s_do_neg) (defBody s_do_neg) (defScope s_do_neg) .none kV_do_neg dc_do_neg pm_do_neg an_do_neg cd_do_neg ct_do_neg), sl_do_neg⟩)
    (g_do_neg : PySem.W.codeIn K cd_do_neg "do_neg" = true) (k_do_neg : PySem.W.keepIn K (.ref f_do_neg) = true)
    {f_do_min : Addr} {od_do_min an_do_min : Option Addr} {sl_do_min : Array (Option Value)} {oc_do_min kV_do_min dc_do_min pm_do_min cd_do_min ct_do_min : Value}
    (a_do_min : PySem.W.nsIn K mainGlobals "do_min" = some (some (.ref f_do_min)))
    (l_do_min : K.lookup f_do_min = some ⟨oc_do_min, od_do_min, .func (PySem.W.fnOf "do_min" "do_min" (defArgs s_do_min) (defBody s_do_min) (defScope s_do_min) .none kV_do_min dc_do_min pm_do_min an_do_min cd_do_min ct_do_min), sl_do_min⟩)
    (g_do_min : PySem.W.codeIn K cd_do_min "do_min" = true) (k_do_min : PySem.W.keepIn K (.ref f_do_min) = true)
    {f_do_max : Addr} {od_do_max an_do_max : Option Addr} {sl_do_max : Array (Option Value)} {oc_do_max kV_do_max dc_do_max pm_do_max cd_do_max ct_do_max : Value}
    (a_do_max : PySem.W.nsIn K mainGlobals "do_max" = some (some (.ref f_do_max)))
    (l_do_max : K.lookup f_do_max = some ⟨oc_do_max, od_do_max, .func (PySem.W.fnOf "do_max" "do_max" (defArgs s_do_max) (defBody s_do_max) (defScope s_do_max) .none kV_do_max dc_do_max pm_do_max an_do_max cd_do_max ct_do_max), sl_do_max⟩)
    (g_do_max : PySem.W.codeIn K cd_do_max "do_max" = true) (k_do_max : PySem.W.keepIn K (.ref f_do_max) = true)
    {f_do_less : Addr} {od_do_less an_do_less : Option Addr} {sl_do_less : Array (Option Value)} {oc_do_less kV_do_less dc_do_less pm_do_less cd_do_less ct_do_less : Value}
    (a_do_less : PySem.W.nsIn K mainGlobals "do_less" = some (some (.ref f_do_less)))
    (l_do_less : K.lookup f_do_less = some ⟨oc_do_less, od_do_less, .func (PySem.W.fnOf "do_less" "do_less" (defArgs s_do_less) (defBody s_do_less) (defScope s_do_less) .none kV_do_less dc_do_less pm_do_less an_do_less cd_do_less ct_do_less), sl_do_less⟩)
    (g_do_less : PySem.W.codeIn K cd_do_less "do_less" = true) (k_do_less : PySem.W.keepIn K (.ref f_do_less) = true)
    {f_do_same : Addr} {od_do_same an_do_same : Option Addr} {sl_do_same : Array (Option Value)} {oc_do_same kV_do_same dc_do_same pm_do_same cd_do_same ct_do_same : Value}
    (a_do_same : PySem.W.nsIn K mainGlobals "do_same" = some (some (.ref f_do_same)))
    (l_do_same : K.lookup f_do_same = some ⟨oc_do_same, od_do_same, .func (PySem.W.fnOf "do_same" "do_same" (defArgs s_do_same) (defBody s_do_same) (defScope s_do_same) .none kV_do_same dc_do_same pm_do_same an_do_same cd_do_same ct_do_same), sl_do_same⟩)
    (g_do_same : PySem.W.codeIn K cd_do_same "do_same" = true) (k_do_same : PySem.W.keepIn K (.ref f_do_same) = true)
    {f_do_length : Addr} {od_do_length an_do_length : Option Addr} {sl_do_length : Array (Option Value)} {oc_do_length kV_do_length dc_do_length pm_do_length cd_do_length ct_do_length : Value}
    (a_do_length : PySem.W.nsIn K mainGlobals "do_length" = some (some (.ref f_do_length)))
    (l_do_length : K.lookup f_do_length = some ⟨oc_do_length, od_do_length, .func (PySem.W.fnOf "do_length" "do_length" (defArgs s_do_length) (defBody s_do_length) (defScope s_do_length) .none kV_do_length dc_do_length pm_do_length an_do_length cd_do_length ct_do_length), sl_do_length⟩)
    (g_do_length : PySem.W.codeIn K cd_do_length "do_length" = true) (k_do_length : PySem.W.keepIn K (.ref f_do_length) = true)
    {f_do_item : Addr} {od_do_item an_do_item : Option Addr} {sl_do_item : Array (Option Value)} {oc_do_item kV_do_item dc_do_item pm_do_item cd_do_item ct_do_item : Value}
    (a_do_item : PySem.W.nsIn K mainGlobals "do_item" = some (some (.ref f_do_item)))
    (l_do_item : K.lookup f_do_item = some ⟨oc_do_item, od_do_item, .func (PySem.W.fnOf "do_item" "do_item" (defArgs s_do_item) (defBody s_do_item) (defScope s_do_item) .none kV_do_item dc_do_item pm_do_item an_do_item cd_do_item ct_do_item), sl_do_item⟩)
    (g_do_item : PySem.W.codeIn K cd_do_item "do_item" = true) (k_do_item : PySem.W.keepIn K (.ref f_do_item) = true)
    {f_do_pack : Addr} {od_do_pack an_do_pack : Option Addr} {sl_do_pack : Array (Option Value)} {oc_do_pack kV_do_pack dc_do_pack pm_do_pack cd_do_pack ct_do_pack : Value}
    (a_do_pack : PySem.W.nsIn K mainGlobals "do_pack" = some (some (.ref f_do_pack)))
    (l_do_pack : K.lookup f_do_pack = some ⟨oc_do_pack, od_do_pack, .func (PySem.W.fnOf "do_pack" "do_pack" (defArgs s_do_pack) (defBody s_do_pack) (defScope s_do_pack) .none kV_do_pack dc_do_pack pm_do_pack an_do_pack cd_do_pack ct_do_pack), sl_do_pack⟩)
    (g_do_pack : PySem.W.codeIn K cd_do_pack "do_pack" = true) (k_do_pack : PySem.W.keepIn K (.ref f_do_pack) = true)
    {f_do_join : Addr} {od_do_join an_do_join : Option Addr} {sl_do_join : Array (Option Value)} {oc_do_join kV_do_join dc_do_join pm_do_join cd_do_join ct_do_join : Value}
    (a_do_join : PySem.W.nsIn K mainGlobals "do_join" = some (some (.ref f_do_join)))
    (l_do_join : K.lookup f_do_join = some ⟨oc_do_join, od_do_join, .func (PySem.W.fnOf "do_join" "do_join" (defArgs s_do_join) (defBody s_do_join) (defScope s_do_join) .none kV_do_join dc_do_join pm_do_join an_do_join cd_do_join ct_do_join), sl_do_join⟩)
    (g_do_join : PySem.W.codeIn K cd_do_join "do_join" = true) (k_do_join : PySem.W.keepIn K (.ref f_do_join) = true)
    {f_do_take : Addr} {od_do_take an_do_take : Option Addr} {sl_do_take : Array (Option Value)} {oc_do_take kV_do_take dc_do_take pm_do_take cd_do_take ct_do_take : Value}
    (a_do_take : PySem.W.nsIn K mainGlobals "do_take" = some (some (.ref f_do_take)))
    (l_do_take : K.lookup f_do_take = some ⟨oc_do_take, od_do_take, .func (PySem.W.fnOf "do_take" "do_take" (defArgs s_do_take) (defBody s_do_take) (defScope s_do_take) .none kV_do_take dc_do_take pm_do_take an_do_take cd_do_take ct_do_take), sl_do_take⟩)
    (g_do_take : PySem.W.codeIn K cd_do_take "do_take" = true) (k_do_take : PySem.W.keepIn K (.ref f_do_take) = true)
    {f_do_drop : Addr} {od_do_drop an_do_drop : Option Addr} {sl_do_drop : Array (Option Value)} {oc_do_drop kV_do_drop dc_do_drop pm_do_drop cd_do_drop ct_do_drop : Value}
    (a_do_drop : PySem.W.nsIn K mainGlobals "do_drop" = some (some (.ref f_do_drop)))
    (l_do_drop : K.lookup f_do_drop = some ⟨oc_do_drop, od_do_drop, .func (PySem.W.fnOf "do_drop" "do_drop" (defArgs s_do_drop) (defBody s_do_drop) (defScope s_do_drop) .none kV_do_drop dc_do_drop pm_do_drop an_do_drop cd_do_drop ct_do_drop), sl_do_drop⟩)
    (g_do_drop : PySem.W.codeIn K cd_do_drop "do_drop" = true) (k_do_drop : PySem.W.keepIn K (.ref f_do_drop) = true)
    {f_do_sort : Addr} {od_do_sort an_do_sort : Option Addr} {sl_do_sort : Array (Option Value)} {oc_do_sort kV_do_sort dc_do_sort pm_do_sort cd_do_sort ct_do_sort : Value}
    (a_do_sort : PySem.W.nsIn K mainGlobals "do_sort" = some (some (.ref f_do_sort)))
    (l_do_sort : K.lookup f_do_sort = some ⟨oc_do_sort, od_do_sort, .func (PySem.W.fnOf "do_sort" "do_sort" (defArgs s_do_sort) (defBody s_do_sort) (defScope s_do_sort) .none kV_do_sort dc_do_sort pm_do_sort an_do_sort cd_do_sort ct_do_sort), sl_do_sort⟩)
    (g_do_sort : PySem.W.codeIn K cd_do_sort "do_sort" = true) (k_do_sort : PySem.W.keepIn K (.ref f_do_sort) = true)
    {f_do_total : Addr} {od_do_total an_do_total : Option Addr} {sl_do_total : Array (Option Value)} {oc_do_total kV_do_total dc_do_total pm_do_total cd_do_total ct_do_total : Value}
    (a_do_total : PySem.W.nsIn K mainGlobals "do_total" = some (some (.ref f_do_total)))
    (l_do_total : K.lookup f_do_total = some ⟨oc_do_total, od_do_total, .func (PySem.W.fnOf "do_total" "do_total" (defArgs s_do_total) (defBody s_do_total) (defScope s_do_total) .none kV_do_total dc_do_total pm_do_total an_do_total cd_do_total ct_do_total), sl_do_total⟩)
    (g_do_total : PySem.W.codeIn K cd_do_total "do_total" = true) (k_do_total : PySem.W.keepIn K (.ref f_do_total) = true)
    {f_do_turn : Addr} {od_do_turn an_do_turn : Option Addr} {sl_do_turn : Array (Option Value)} {oc_do_turn kV_do_turn dc_do_turn pm_do_turn cd_do_turn ct_do_turn : Value}
    (a_do_turn : PySem.W.nsIn K mainGlobals "do_turn" = some (some (.ref f_do_turn)))
    (l_do_turn : K.lookup f_do_turn = some ⟨oc_do_turn, od_do_turn, .func (PySem.W.fnOf "do_turn" "do_turn" (defArgs s_do_turn) (defBody s_do_turn) (defScope s_do_turn) .none kV_do_turn dc_do_turn pm_do_turn an_do_turn cd_do_turn ct_do_turn), sl_do_turn⟩)
    (g_do_turn : PySem.W.codeIn K cd_do_turn "do_turn" = true) (k_do_turn : PySem.W.keepIn K (.ref f_do_turn) = true)
    {f_is_function : Addr} {od_is_function an_is_function : Option Addr} {sl_is_function : Array (Option Value)} {oc_is_function kV_is_function dc_is_function pm_is_function cd_is_function ct_is_function : Value}
    (a_is_function : PySem.W.nsIn K mainGlobals "is_function" = some (some (.ref f_is_function)))
    (l_is_function : K.lookup f_is_function = some ⟨oc_is_function, od_is_function, .func (PySem.W.fnOf "is_function" "is_function" (defArgs s_is_function) (defBody s_is_function) (defScope s_is_function) .none kV_is_function dc_is_function pm_is_function an_is_function cd_is_function ct_is_function), sl_is_function⟩)
    (g_is_function : PySem.W.codeIn K cd_is_function "is_function" = true) (k_is_function : PySem.W.keepIn K (.ref f_is_function) = true)
    {f_arity : Addr} {od_arity an_arity : Option Addr} {sl_arity : Array (Option Value)} {oc_arity kV_arity dc_arity pm_arity cd_arity ct_arity : Value}
    (a_arity : PySem.W.nsIn K mainGlobals "arity" = some (some (.ref f_arity)))
    (l_arity : K.lookup f_arity = some ⟨oc_arity, od_arity, .func (PySem.W.fnOf "arity" "arity" (defArgs s_arity) (defBody s_arity) (defScope s_arity) .none kV_arity dc_arity pm_arity an_arity cd_arity ct_arity), sl_arity⟩)
    (g_arity : PySem.W.codeIn K cd_arity "arity" = true) (k_arity : PySem.W.keepIn K (.ref f_arity) = true)
    {f_apply : Addr} {od_apply an_apply : Option Addr} {sl_apply : Array (Option Value)} {oc_apply kV_apply dc_apply pm_apply cd_apply ct_apply : Value}
    (a_apply : PySem.W.nsIn K mainGlobals "apply" = some (some (.ref f_apply)))
    (l_apply : K.lookup f_apply = some ⟨oc_apply, od_apply, .func (PySem.W.fnOf "apply" "apply" (defArgs s_apply) (defBody s_apply) (defScope s_apply) .none kV_apply dc_apply pm_apply an_apply cd_apply ct_apply), sl_apply⟩)
    (g_apply : PySem.W.codeIn K cd_apply "apply" = true) (k_apply : PySem.W.keepIn K (.ref f_apply) = true)
    {f_law_pot : Addr} {od_law_pot an_law_pot : Option Addr} {sl_law_pot : Array (Option Value)} {oc_law_pot kV_law_pot dc_law_pot pm_law_pot cd_law_pot ct_law_pot : Value}
    (a_law_pot : PySem.W.nsIn K mainGlobals "_law_pot" = some (some (.ref f_law_pot)))
    (l_law_pot : K.lookup f_law_pot = some ⟨oc_law_pot, od_law_pot, .func (PySem.W.fnOf "_law_pot" "_law_pot" (defArgs s_law_pot) (defBody s_law_pot) (defScope s_law_pot) .none kV_law_pot dc_law_pot pm_law_pot an_law_pot cd_law_pot ct_law_pot), sl_law_pot⟩)
    (g_law_pot : PySem.W.codeIn K cd_law_pot "_law_pot" = true) (k_law_pot : PySem.W.keepIn K (.ref f_law_pot) = true)
    {f_law_digit : Addr} {od_law_digit an_law_digit : Option Addr} {sl_law_digit : Array (Option Value)} {oc_law_digit kV_law_digit dc_law_digit pm_law_digit cd_law_digit ct_law_digit : Value}
    (a_law_digit : PySem.W.nsIn K mainGlobals "_law_digit" = some (some (.ref f_law_digit)))
    (l_law_digit : K.lookup f_law_digit = some ⟨oc_law_digit, od_law_digit, .func (PySem.W.fnOf "_law_digit" "_law_digit" (defArgs s_law_digit) (defBody s_law_digit) (defScope s_law_digit) .none kV_law_digit dc_law_digit pm_law_digit an_law_digit cd_law_digit ct_law_digit), sl_law_digit⟩)
    (g_law_digit : PySem.W.codeIn K cd_law_digit "_law_digit" = true) (k_law_digit : PySem.W.keepIn K (.ref f_law_digit) = true)
    {f_law_pick : Addr} {od_law_pick an_law_pick : Option Addr} {sl_law_pick : Array (Option Value)} {oc_law_pick kV_law_pick dc_law_pick pm_law_pick cd_law_pick ct_law_pick : Value}
    (a_law_pick : PySem.W.nsIn K mainGlobals "_law_pick" = some (some (.ref f_law_pick)))
    (l_law_pick : K.lookup f_law_pick = some ⟨oc_law_pick, od_law_pick, .func (PySem.W.fnOf "_law_pick" "_law_pick" (defArgs s_law_pick) (defBody s_law_pick) (defScope s_law_pick) .none kV_law_pick dc_law_pick pm_law_pick an_law_pick cd_law_pick ct_law_pick), sl_law_pick⟩)
    (g_law_pick : PySem.W.codeIn K cd_law_pick "_law_pick" = true) (k_law_pick : PySem.W.keepIn K (.ref f_law_pick) = true)
    {f_law_int : Addr} {od_law_int an_law_int : Option Addr} {sl_law_int : Array (Option Value)} {oc_law_int kV_law_int dc_law_int pm_law_int cd_law_int ct_law_int : Value}
    (a_law_int : PySem.W.nsIn K mainGlobals "_law_int" = some (some (.ref f_law_int)))
    (l_law_int : K.lookup f_law_int = some ⟨oc_law_int, od_law_int, .func (PySem.W.fnOf "_law_int" "_law_int" (defArgs s_law_int) (defBody s_law_int) (defScope s_law_int) .none kV_law_int dc_law_int pm_law_int an_law_int cd_law_int ct_law_int), sl_law_int⟩)
    (g_law_int : PySem.W.codeIn K cd_law_int "_law_int" = true) (k_law_int : PySem.W.keepIn K (.ref f_law_int) = true)
    {f_law_datum : Addr} {od_law_datum an_law_datum : Option Addr} {sl_law_datum : Array (Option Value)} {oc_law_datum kV_law_datum dc_law_datum pm_law_datum cd_law_datum ct_law_datum : Value}
    (a_law_datum : PySem.W.nsIn K mainGlobals "_law_datum" = some (some (.ref f_law_datum)))
    (l_law_datum : K.lookup f_law_datum = some ⟨oc_law_datum, od_law_datum, .func (PySem.W.fnOf "_law_datum" "_law_datum" (defArgs s_law_datum) (defBody s_law_datum) (defScope s_law_datum) .none kV_law_datum dc_law_datum pm_law_datum an_law_datum cd_law_datum ct_law_datum), sl_law_datum⟩)
    (g_law_datum : PySem.W.codeIn K cd_law_datum "_law_datum" = true) (k_law_datum : PySem.W.keepIn K (.ref f_law_datum) = true)
    {f_law_size : Addr} {od_law_size an_law_size : Option Addr} {sl_law_size : Array (Option Value)} {oc_law_size kV_law_size dc_law_size pm_law_size cd_law_size ct_law_size : Value}
    (a_law_size : PySem.W.nsIn K mainGlobals "_law_size" = some (some (.ref f_law_size)))
    (l_law_size : K.lookup f_law_size = some ⟨oc_law_size, od_law_size, .func (PySem.W.fnOf "_law_size" "_law_size" (defArgs s_law_size) (defBody s_law_size) (defScope s_law_size) .none kV_law_size dc_law_size pm_law_size an_law_size cd_law_size ct_law_size), sl_law_size⟩)
    (g_law_size : PySem.W.codeIn K cd_law_size "_law_size" = true) (k_law_size : PySem.W.keepIn K (.ref f_law_size) = true)
    {f_law_deep : Addr} {od_law_deep an_law_deep : Option Addr} {sl_law_deep : Array (Option Value)} {oc_law_deep kV_law_deep dc_law_deep pm_law_deep cd_law_deep ct_law_deep : Value}
    (a_law_deep : PySem.W.nsIn K mainGlobals "_law_deep" = some (some (.ref f_law_deep)))
    (l_law_deep : K.lookup f_law_deep = some ⟨oc_law_deep, od_law_deep, .func (PySem.W.fnOf "_law_deep" "_law_deep" (defArgs s_law_deep) (defBody s_law_deep) (defScope s_law_deep) .none kV_law_deep dc_law_deep pm_law_deep an_law_deep cd_law_deep ct_law_deep), sl_law_deep⟩)
    (g_law_deep : PySem.W.codeIn K cd_law_deep "_law_deep" = true) (k_law_deep : PySem.W.keepIn K (.ref f_law_deep) = true)
    {f_law_fits : Addr} {od_law_fits an_law_fits : Option Addr} {sl_law_fits : Array (Option Value)} {oc_law_fits kV_law_fits dc_law_fits pm_law_fits cd_law_fits ct_law_fits : Value}
    (a_law_fits : PySem.W.nsIn K mainGlobals "_law_fits" = some (some (.ref f_law_fits)))
    (l_law_fits : K.lookup f_law_fits = some ⟨oc_law_fits, od_law_fits, .func (PySem.W.fnOf "_law_fits" "_law_fits" (defArgs s_law_fits) (defBody s_law_fits) (defScope s_law_fits) .none kV_law_fits dc_law_fits pm_law_fits an_law_fits cd_law_fits ct_law_fits), sl_law_fits⟩)
    (g_law_fits : PySem.W.codeIn K cd_law_fits "_law_fits" = true) (k_law_fits : PySem.W.keepIn K (.ref f_law_fits) = true)
    {f_law_arity : Addr} {od_law_arity an_law_arity : Option Addr} {sl_law_arity : Array (Option Value)} {oc_law_arity kV_law_arity dc_law_arity pm_law_arity cd_law_arity ct_law_arity : Value}
    (a_law_arity : PySem.W.nsIn K mainGlobals "_law_arity" = some (some (.ref f_law_arity)))
    (l_law_arity : K.lookup f_law_arity = some ⟨oc_law_arity, od_law_arity, .func (PySem.W.fnOf "_law_arity" "_law_arity" (defArgs s_law_arity) (defBody s_law_arity) (defScope s_law_arity) .none kV_law_arity dc_law_arity pm_law_arity an_law_arity cd_law_arity ct_law_arity), sl_law_arity⟩)
    (g_law_arity : PySem.W.codeIn K cd_law_arity "_law_arity" = true) (k_law_arity : PySem.W.keepIn K (.ref f_law_arity) = true)
    {f_law_words : Addr} {od_law_words an_law_words : Option Addr} {sl_law_words : Array (Option Value)} {oc_law_words kV_law_words dc_law_words pm_law_words cd_law_words ct_law_words : Value}
    (a_law_words : PySem.W.nsIn K mainGlobals "_law_words" = some (some (.ref f_law_words)))
    (l_law_words : K.lookup f_law_words = some ⟨oc_law_words, od_law_words, .func (PySem.W.fnOf "_law_words" "_law_words" (defArgs s_law_words) (defBody s_law_words) (defScope s_law_words) .none kV_law_words dc_law_words pm_law_words an_law_words cd_law_words ct_law_words), sl_law_words⟩)
    (g_law_words : PySem.W.codeIn K cd_law_words "_law_words" = true) (k_law_words : PySem.W.keepIn K (.ref f_law_words) = true)
    {f_law_result : Addr} {od_law_result an_law_result : Option Addr} {sl_law_result : Array (Option Value)} {oc_law_result kV_law_result dc_law_result pm_law_result cd_law_result ct_law_result : Value}
    (a_law_result : PySem.W.nsIn K mainGlobals "_law_result" = some (some (.ref f_law_result)))
    (l_law_result : K.lookup f_law_result = some ⟨oc_law_result, od_law_result, .func (PySem.W.fnOf "_law_result" "_law_result" (defArgs s_law_result) (defBody s_law_result) (defScope s_law_result) .none kV_law_result dc_law_result pm_law_result an_law_result cd_law_result ct_law_result), sl_law_result⟩)
    (g_law_result : PySem.W.codeIn K cd_law_result "_law_result" = true) (k_law_result : PySem.W.keepIn K (.ref f_law_result) = true)
    {f_law_raw : Addr} {od_law_raw an_law_raw : Option Addr} {sl_law_raw : Array (Option Value)} {oc_law_raw kV_law_raw dc_law_raw pm_law_raw cd_law_raw ct_law_raw : Value}
    (a_law_raw : PySem.W.nsIn K mainGlobals "_law_raw" = some (some (.ref f_law_raw)))
    (l_law_raw : K.lookup f_law_raw = some ⟨oc_law_raw, od_law_raw, .func (PySem.W.fnOf "_law_raw" "_law_raw" (defArgs s_law_raw) (defBody s_law_raw) (defScope s_law_raw) .none kV_law_raw dc_law_raw pm_law_raw an_law_raw cd_law_raw ct_law_raw), sl_law_raw⟩)
    (g_law_raw : PySem.W.codeIn K cd_law_raw "_law_raw" = true) (k_law_raw : PySem.W.keepIn K (.ref f_law_raw) = true)
    {f_law_glued : Addr} {od_law_glued an_law_glued : Option Addr} {sl_law_glued : Array (Option Value)} {oc_law_glued kV_law_glued dc_law_glued pm_law_glued cd_law_glued ct_law_glued : Value}
    (a_law_glued : PySem.W.nsIn K mainGlobals "_law_glued" = some (some (.ref f_law_glued)))
    (l_law_glued : K.lookup f_law_glued = some ⟨oc_law_glued, od_law_glued, .func (PySem.W.fnOf "_law_glued" "_law_glued" (defArgs s_law_glued) (defBody s_law_glued) (defScope s_law_glued) .none kV_law_glued dc_law_glued pm_law_glued an_law_glued cd_law_glued ct_law_glued), sl_law_glued⟩)
    (g_law_glued : PySem.W.codeIn K cd_law_glued "_law_glued" = true) (k_law_glued : PySem.W.keepIn K (.ref f_law_glued) = true)
    {f_law_of_two : Addr} {od_law_of_two an_law_of_two : Option Addr} {sl_law_of_two : Array (Option Value)} {oc_law_of_two kV_law_of_two dc_law_of_two pm_law_of_two cd_law_of_two ct_law_of_two : Value}
    (a_law_of_two : PySem.W.nsIn K mainGlobals "_law_of_two" = some (some (.ref f_law_of_two)))
    (l_law_of_two : K.lookup f_law_of_two = some ⟨oc_law_of_two, od_law_of_two, .func (PySem.W.fnOf "_law_of_two" "_law_of_two" (defArgs s_law_of_two) (defBody s_law_of_two) (defScope s_law_of_two) .none kV_law_of_two dc_law_of_two pm_law_of_two an_law_of_two cd_law_of_two ct_law_of_two), sl_law_of_two⟩)
    (g_law_of_two : PySem.W.codeIn K cd_law_of_two "_law_of_two" = true) (k_law_of_two : PySem.W.keepIn K (.ref f_law_of_two) = true)
    {f_law_of_tuple : Addr} {od_law_of_tuple an_law_of_tuple : Option Addr} {sl_law_of_tuple : Array (Option Value)} {oc_law_of_tuple kV_law_of_tuple dc_law_of_tuple pm_law_of_tuple cd_law_of_tuple ct_law_of_tuple : Value}
    (a_law_of_tuple : PySem.W.nsIn K mainGlobals "_law_of_tuple" = some (some (.ref f_law_of_tuple)))
    (l_law_of_tuple : K.lookup f_law_of_tuple = some ⟨oc_law_of_tuple, od_law_of_tuple, .func (PySem.W.fnOf "_law_of_tuple" "_law_of_tuple" (defArgs s_law_of_tuple) (defBody s_law_of_tuple) (defScope s_law_of_tuple) .none kV_law_of_tuple dc_law_of_tuple pm_law_of_tuple an_law_of_tuple cd_law_of_tuple ct_law_of_tuple), sl_law_of_tuple⟩)
    (g_law_of_tuple : PySem.W.codeIn K cd_law_of_tuple "_law_of_tuple" = true) (k_law_of_tuple : PySem.W.keepIn K (.ref f_law_of_tuple) = true)
    {f_law_applied : Addr} {od_law_applied an_law_applied : Option Addr} {sl_law_applied : Array (Option Value)} {oc_law_applied kV_law_applied dc_law_applied pm_law_applied cd_law_applied ct_law_applied : Value}
    (a_law_applied : PySem.W.nsIn K mainGlobals "_law_applied" = some (some (.ref f_law_applied)))
    (l_law_applied : K.lookup f_law_applied = some ⟨oc_law_applied, od_law_applied, .func (PySem.W.fnOf "_law_applied" "_law_applied" (defArgs s_law_applied) (defBody s_law_applied) (defScope s_law_applied) .none kV_law_applied dc_law_applied pm_law_applied an_law_applied cd_law_applied ct_law_applied), sl_law_applied⟩)
    (g_law_applied : PySem.W.codeIn K cd_law_applied "_law_applied" = true) (k_law_applied : PySem.W.keepIn K (.ref f_law_applied) = true)
    {f_law_ints : Addr} {od_law_ints an_law_ints : Option Addr} {sl_law_ints : Array (Option Value)} {oc_law_ints kV_law_ints dc_law_ints pm_law_ints cd_law_ints ct_law_ints : Value}
    (a_law_ints : PySem.W.nsIn K mainGlobals "_law_ints" = some (some (.ref f_law_ints)))
    (l_law_ints : K.lookup f_law_ints = some ⟨oc_law_ints, od_law_ints, .func (PySem.W.fnOf "_law_ints" "_law_ints" (defArgs s_law_ints) (defBody s_law_ints) (defScope s_law_ints) .none kV_law_ints dc_law_ints pm_law_ints an_law_ints cd_law_ints ct_law_ints), sl_law_ints⟩)
    (g_law_ints : PySem.W.codeIn K cd_law_ints "_law_ints" = true) (k_law_ints : PySem.W.keepIn K (.ref f_law_ints) = true)
    {f_law_given : Addr} {od_law_given an_law_given : Option Addr} {sl_law_given : Array (Option Value)} {oc_law_given kV_law_given dc_law_given pm_law_given cd_law_given ct_law_given : Value}
    (a_law_given : PySem.W.nsIn K mainGlobals "_law_given" = some (some (.ref f_law_given)))
    (l_law_given : K.lookup f_law_given = some ⟨oc_law_given, od_law_given, .func (PySem.W.fnOf "_law_given" "_law_given" (defArgs s_law_given) (defBody s_law_given) (defScope s_law_given) .none kV_law_given dc_law_given pm_law_given an_law_given cd_law_given ct_law_given), sl_law_given⟩)
    (g_law_given : PySem.W.codeIn K cd_law_given "_law_given" = true) (k_law_given : PySem.W.keepIn K (.ref f_law_given) = true)
    {f_law_right : Addr} {od_law_right an_law_right : Option Addr} {sl_law_right : Array (Option Value)} {oc_law_right kV_law_right dc_law_right pm_law_right cd_law_right ct_law_right : Value}
    (a_law_right : PySem.W.nsIn K mainGlobals "_law_right" = some (some (.ref f_law_right)))
    (l_law_right : K.lookup f_law_right = some ⟨oc_law_right, od_law_right, .func (PySem.W.fnOf "_law_right" "_law_right" (defArgs s_law_right) (defBody s_law_right) (defScope s_law_right) .none kV_law_right dc_law_right pm_law_right an_law_right cd_law_right ct_law_right), sl_law_right⟩)
    (g_law_right : PySem.W.codeIn K cd_law_right "_law_right" = true) (k_law_right : PySem.W.keepIn K (.ref f_law_right) = true)
    {f_law : Addr} {od_law an_law : Option Addr} {sl_law : Array (Option Value)} {oc_law kV_law dc_law pm_law cd_law ct_law : Value}
    (a_law : PySem.W.nsIn K mainGlobals "law" = some (some (.ref f_law)))
    (l_law : K.lookup f_law = some ⟨oc_law, od_law, .func (PySem.W.fnOf "law" "law" (defArgs s_law) (defBody s_law) (defScope s_law) .none kV_law dc_law pm_law an_law cd_law ct_law), sl_law⟩)
    (g_law : PySem.W.codeIn K cd_law "law" = true) (k_law : PySem.W.keepIn K (.ref f_law) = true)
    (e_CHECKS_0 : PySem.W.nsIn K A_CHECKS "add" = some (some (.ref f_are_integers)))
    (e_CHECKS_1 : PySem.W.nsIn K A_CHECKS "sub" = some (some (.ref f_are_integers)))
    (e_CHECKS_2 : PySem.W.nsIn K A_CHECKS "mul" = some (some (.ref f_are_integers)))
    (e_CHECKS_3 : PySem.W.nsIn K A_CHECKS "div" = some (some (.ref f_can_divide)))
    (e_CHECKS_4 : PySem.W.nsIn K A_CHECKS "neg" = some (some (.ref f_are_integers)))
    (e_CHECKS_5 : PySem.W.nsIn K A_CHECKS "min" = some (some (.ref f_are_integers)))
    (e_CHECKS_6 : PySem.W.nsIn K A_CHECKS "max" = some (some (.ref f_are_integers)))
    (e_CHECKS_7 : PySem.W.nsIn K A_CHECKS "less" = some (some (.ref f_are_integers)))
    (e_CHECKS_8 : PySem.W.nsIn K A_CHECKS "same" = some (some (.ref f_are_data)))
    (e_CHECKS_9 : PySem.W.nsIn K A_CHECKS "length" = some (some (.ref f_are_tuples)))
    (e_CHECKS_10 : PySem.W.nsIn K A_CHECKS "item" = some (some (.ref f_can_index)))
    (e_CHECKS_11 : PySem.W.nsIn K A_CHECKS "pack" = some (some (.ref f_are_data)))
    (e_CHECKS_12 : PySem.W.nsIn K A_CHECKS "join" = some (some (.ref f_are_tuples)))
    (e_CHECKS_13 : PySem.W.nsIn K A_CHECKS "take" = some (some (.ref f_can_count)))
    (e_CHECKS_14 : PySem.W.nsIn K A_CHECKS "drop" = some (some (.ref f_can_count)))
    (e_CHECKS_15 : PySem.W.nsIn K A_CHECKS "sort" = some (some (.ref f_is_integer_tuple)))
    (e_CHECKS_16 : PySem.W.nsIn K A_CHECKS "total" = some (some (.ref f_is_integer_tuple)))
    (e_CHECKS_17 : PySem.W.nsIn K A_CHECKS "turn" = some (some (.ref f_are_tuples)))
    (e_RESULTS_0 : PySem.W.nsIn K A_RESULTS "add" = some (some (.ref f_do_add)))
    (e_RESULTS_1 : PySem.W.nsIn K A_RESULTS "sub" = some (some (.ref f_do_sub)))
    (e_RESULTS_2 : PySem.W.nsIn K A_RESULTS "mul" = some (some (.ref f_do_mul)))
    (e_RESULTS_3 : PySem.W.nsIn K A_RESULTS "div" = some (some (.ref f_do_div)))
    (e_RESULTS_4 : PySem.W.nsIn K A_RESULTS "neg" = some (some (.ref f_do_neg)))
    (e_RESULTS_5 : PySem.W.nsIn K A_RESULTS "min" = some (some (.ref f_do_min)))
    (e_RESULTS_6 : PySem.W.nsIn K A_RESULTS "max" = some (some (.ref f_do_max)))
    (e_RESULTS_7 : PySem.W.nsIn K A_RESULTS "less" = some (some (.ref f_do_less)))
    (e_RESULTS_8 : PySem.W.nsIn K A_RESULTS "same" = some (some (.ref f_do_same)))
    (e_RESULTS_9 : PySem.W.nsIn K A_RESULTS "length" = some (some (.ref f_do_length)))
    (e_RESULTS_10 : PySem.W.nsIn K A_RESULTS "item" = some (some (.ref f_do_item)))
    (e_RESULTS_11 : PySem.W.nsIn K A_RESULTS "pack" = some (some (.ref f_do_pack)))
    (e_RESULTS_12 : PySem.W.nsIn K A_RESULTS "join" = some (some (.ref f_do_join)))
    (e_RESULTS_13 : PySem.W.nsIn K A_RESULTS "take" = some (some (.ref f_do_take)))
    (e_RESULTS_14 : PySem.W.nsIn K A_RESULTS "drop" = some (some (.ref f_do_drop)))
    (e_RESULTS_15 : PySem.W.nsIn K A_RESULTS "sort" = some (some (.ref f_do_sort)))
    (e_RESULTS_16 : PySem.W.nsIn K A_RESULTS "total" = some (some (.ref f_do_total)))
    (e_RESULTS_17 : PySem.W.nsIn K A_RESULTS "turn" = some (some (.ref f_do_turn)))
    {C_UnknownFunction : Addr}
    (a_UnknownFunction : PySem.W.nsIn K mainGlobals "UnknownFunction" = some (some (.ref C_UnknownFunction)))
    {C_MissingError : Addr}
    (a_MissingError : PySem.W.nsIn K mainGlobals "MissingError" = some (some (.ref C_MissingError)))
    {C_InvalidValue : Addr}
    (a_InvalidValue : PySem.W.nsIn K mainGlobals "InvalidValue" = some (some (.ref C_InvalidValue)))
    {C_SessionError : Addr}
    (a_SessionError : PySem.W.nsIn K mainGlobals "SessionError" = some (some (.ref C_SessionError)))
    {I_UnknownFunction : Addr} {oc_UnknownFunction : Value} {od_UnknownFunction an_UnknownFunction : Option Addr} {sl_UnknownFunction : Array (Option Value)} {kV_UnknownFunction dc_UnknownFunction pm_UnknownFunction cd_UnknownFunction ct_UnknownFunction : Value}
    (k1_UnknownFunction : PySem.W.excInitIn K C_UnknownFunction bm_LookupError "LookupError.__new__" = true)
    (k2_UnknownFunction : PySem.W.excOver K C_UnknownFunction bm_LookupError = true)
    (k3_UnknownFunction : PySem.W.hasDictIn K C_UnknownFunction = true)
    (k4_UnknownFunction : PySem.W.findIn K (.ref C_UnknownFunction) "__setattr__" = some (some (.builtin "object.__setattr__")))
    (k5_UnknownFunction : PySem.W.subIn K (.ref C_UnknownFunction) (.type "BaseException") = some true)
    (k6_UnknownFunction : PySem.W.typeIn K (.ref C_UnknownFunction) = some (.type "type"))
    (k7_UnknownFunction : PySem.W.keepIn K (.ref C_UnknownFunction) = true)
    (k8_UnknownFunction : PySem.W.findIn K (.ref C_UnknownFunction) "__init__" = some (some (.ref I_UnknownFunction)))
    (k9_UnknownFunction : PySem.W.typeIn K (.ref I_UnknownFunction) = some (.type "function"))
    (ka_UnknownFunction : K.lookup I_UnknownFunction = some ⟨oc_UnknownFunction, od_UnknownFunction, .func (PySem.W.fnOf "__init__" "UnknownFunction.__init__" (defArgs i_UnknownFunction) (defBody i_UnknownFunction) (defScope i_UnknownFunction) .none kV_UnknownFunction dc_UnknownFunction pm_UnknownFunction an_UnknownFunction cd_UnknownFunction ct_UnknownFunction), sl_UnknownFunction⟩)
    (kb_UnknownFunction : PySem.W.codeIn K cd_UnknownFunction "UnknownFunction.__init__" = true)
    (kc_UnknownFunction : PySem.W.keepIn K (.ref I_UnknownFunction) = true)
    (f_UnknownFunction_value : PySem.W.takerIn K C_UnknownFunction "value" = some none)
    (g_UnknownFunction_value : PySem.W.findIn K (.ref C_UnknownFunction) "value" = some none)
    (x1_UnknownFunction : PySem.W.findIn K (.ref C_UnknownFunction) "__getattribute__" = some (some (.builtin "BaseException.__getattribute__")))
    (x2_UnknownFunction : PySem.W.findIn K (.ref C_UnknownFunction) "__getattr__" = some none)
    (x3_UnknownFunction : PySem.W.findIn K (.ref C_UnknownFunction) "__class__" = some (some (.builtin "object.__class__")))
    (x4_UnknownFunction : PySem.W.mroIn K C_UnknownFunction (.type "object") = some true)
    (z_UnknownFunction : PySem.W.subIn K (.ref C_UnknownFunction) (.ref C_UnknownFunction) = some true)
    {I_InvalidValue : Addr} {oc_InvalidValue : Value} {od_InvalidValue an_InvalidValue : Option Addr} {sl_InvalidValue : Array (Option Value)} {kV_InvalidValue dc_InvalidValue pm_InvalidValue cd_InvalidValue ct_InvalidValue : Value}
    (k1_InvalidValue : PySem.W.excInitIn K C_InvalidValue bm_ValueError "ValueError.__new__" = true)
    (k2_InvalidValue : PySem.W.excOver K C_InvalidValue bm_ValueError = true)
    (k3_InvalidValue : PySem.W.hasDictIn K C_InvalidValue = true)
    (k4_InvalidValue : PySem.W.findIn K (.ref C_InvalidValue) "__setattr__" = some (some (.builtin "object.__setattr__")))
    (k5_InvalidValue : PySem.W.subIn K (.ref C_InvalidValue) (.type "BaseException") = some true)
    (k6_InvalidValue : PySem.W.typeIn K (.ref C_InvalidValue) = some (.type "type"))
    (k7_InvalidValue : PySem.W.keepIn K (.ref C_InvalidValue) = true)
    (k8_InvalidValue : PySem.W.findIn K (.ref C_InvalidValue) "__init__" = some (some (.ref I_InvalidValue)))
    (k9_InvalidValue : PySem.W.typeIn K (.ref I_InvalidValue) = some (.type "function"))
    (ka_InvalidValue : K.lookup I_InvalidValue = some ⟨oc_InvalidValue, od_InvalidValue, .func (PySem.W.fnOf "__init__" "InvalidValue.__init__" (defArgs i_InvalidValue) (defBody i_InvalidValue) (defScope i_InvalidValue) .none kV_InvalidValue dc_InvalidValue pm_InvalidValue an_InvalidValue cd_InvalidValue ct_InvalidValue), sl_InvalidValue⟩)
    (kb_InvalidValue : PySem.W.codeIn K cd_InvalidValue "InvalidValue.__init__" = true)
    (kc_InvalidValue : PySem.W.keepIn K (.ref I_InvalidValue) = true)
    (f_InvalidValue_value : PySem.W.takerIn K C_InvalidValue "value" = some none)
    (g_InvalidValue_value : PySem.W.findIn K (.ref C_InvalidValue) "value" = some none)
    (x1_InvalidValue : PySem.W.findIn K (.ref C_InvalidValue) "__getattribute__" = some (some (.builtin "BaseException.__getattribute__")))
    (x2_InvalidValue : PySem.W.findIn K (.ref C_InvalidValue) "__getattr__" = some none)
    (x3_InvalidValue : PySem.W.findIn K (.ref C_InvalidValue) "__class__" = some (some (.builtin "object.__class__")))
    (x4_InvalidValue : PySem.W.mroIn K C_InvalidValue (.type "object") = some true)
    (z_InvalidValue : PySem.W.subIn K (.ref C_InvalidValue) (.ref C_InvalidValue) = some true)
    (x5_exc : PySem.W.specialIn K (.builtin "object.__class__") "__get__" = some (some (.builtin "getset_descriptor.__get__")))
    (x6_exc : PySem.W.takesIn K (.builtin "object.__class__") = some true)
    (b1_MissingError : PySem.W.readsIn K C_MissingError (.type "type") = true)
    (b2_MissingError : PySem.W.findCls K (.ref C_MissingError) (.type "type") "__init__" = some (.val (.builtin "LookupError.__init__")))
    (b3_MissingError : PySem.W.specialIn K (.ref C_MissingError) "__getattribute__" = some (some (.builtin "type.__getattribute__")))
    (b1_SessionError : PySem.W.readsIn K C_SessionError (.type "type") = true)
    (b2_SessionError : PySem.W.findCls K (.ref C_SessionError) (.type "type") "__init__" = some (.val (.builtin "ValueError.__init__")))
    (b3_SessionError : PySem.W.specialIn K (.ref C_SessionError) "__getattribute__" = some (some (.builtin "type.__getattribute__"))) :
    Tx K mg w := {
    n_abs := PySem.W.mg_none_of X G z_abs
    n_all := PySem.W.mg_none_of X G z_all
    n_any := PySem.W.mg_none_of X G z_any
    n_bool := PySem.W.mg_none_of X G z_bool
    n_divmod := PySem.W.mg_none_of X G z_divmod
    n_int := PySem.W.mg_none_of X G z_int
    n_isinstance := PySem.W.mg_none_of X G z_isinstance
    n_len := PySem.W.mg_none_of X G z_len
    n_list := PySem.W.mg_none_of X G z_list
    n_max := PySem.W.mg_none_of X G z_max
    n_min := PySem.W.mg_none_of X G z_min
    n_range := PySem.W.mg_none_of X G z_range
    n_repr := PySem.W.mg_none_of X G z_repr
    n_sorted := PySem.W.mg_none_of X G z_sorted
    n_str := PySem.W.mg_none_of X G z_str
    n_sum := PySem.W.mg_none_of X G z_sum
    n_tuple := PySem.W.mg_none_of X G z_tuple
    c_FAULT := ⟨_, PySem.W.mg_of X G y_FAULT, _, rfl⟩
    c_MOST_ITEMS := ⟨_, PySem.W.mg_of X G y_MOST_ITEMS, _, rfl⟩
    c_MOST_DEPTH := ⟨_, PySem.W.mg_of X G y_MOST_DEPTH, _, rfl⟩
    c_MOST_SIZE := ⟨_, PySem.W.mg_of X G y_MOST_SIZE, _, rfl⟩
    m_FUNCTIONS := by rw [fA_eq (PySem.W.mg_of X G y_FUNCTIONS)]; exact PySem.W.mg_of X G y_FUNCTIONS
    t_FUNCTIONS := by rw [fA_eq (PySem.W.mg_of X G y_FUNCTIONS)]; exact ⟨_, _, _, l_FUNCTIONS, rfl, rfl, s_FUNCTIONS, v_FUNCTIONS⟩
    m_ARITIES := by rw [fA_eq (PySem.W.mg_of X G y_ARITIES)]; exact PySem.W.mg_of X G y_ARITIES
    k_ARITIES_0 := by rw [fA_eq (PySem.W.mg_of X G y_ARITIES)]; exact ⟨_, ⟨_, _, _, l_ARITIES, q_ARITIES, e_ARITIES_0, rfl⟩, _, _, _, l_ARITIES_0, rfl, rfl, s_ARITIES_0, v_ARITIES_0⟩
    k_ARITIES_1 := by rw [fA_eq (PySem.W.mg_of X G y_ARITIES)]; exact ⟨_, ⟨_, _, _, l_ARITIES, q_ARITIES, e_ARITIES_1, rfl⟩, _, _, _, l_ARITIES_1, rfl, rfl, s_ARITIES_1, v_ARITIES_1⟩
    k_ARITIES_2 := by rw [fA_eq (PySem.W.mg_of X G y_ARITIES)]; exact ⟨_, ⟨_, _, _, l_ARITIES, q_ARITIES, e_ARITIES_2, rfl⟩, _, _, _, l_ARITIES_2, rfl, rfl, s_ARITIES_2, v_ARITIES_2⟩
    k_ARITIES_3 := by rw [fA_eq (PySem.W.mg_of X G y_ARITIES)]; exact ⟨_, ⟨_, _, _, l_ARITIES, q_ARITIES, e_ARITIES_3, rfl⟩, _, _, _, l_ARITIES_3, rfl, rfl, s_ARITIES_3, v_ARITIES_3⟩
    k_ARITIES_4 := by rw [fA_eq (PySem.W.mg_of X G y_ARITIES)]; exact ⟨_, ⟨_, _, _, l_ARITIES, q_ARITIES, e_ARITIES_4, rfl⟩, _, _, _, l_ARITIES_4, rfl, rfl, s_ARITIES_4, v_ARITIES_4⟩
    k_ARITIES_5 := by rw [fA_eq (PySem.W.mg_of X G y_ARITIES)]; exact ⟨_, ⟨_, _, _, l_ARITIES, q_ARITIES, e_ARITIES_5, rfl⟩, _, _, _, l_ARITIES_5, rfl, rfl, s_ARITIES_5, v_ARITIES_5⟩
    k_ARITIES_6 := by rw [fA_eq (PySem.W.mg_of X G y_ARITIES)]; exact ⟨_, ⟨_, _, _, l_ARITIES, q_ARITIES, e_ARITIES_6, rfl⟩, _, _, _, l_ARITIES_6, rfl, rfl, s_ARITIES_6, v_ARITIES_6⟩
    k_ARITIES_7 := by rw [fA_eq (PySem.W.mg_of X G y_ARITIES)]; exact ⟨_, ⟨_, _, _, l_ARITIES, q_ARITIES, e_ARITIES_7, rfl⟩, _, _, _, l_ARITIES_7, rfl, rfl, s_ARITIES_7, v_ARITIES_7⟩
    k_ARITIES_8 := by rw [fA_eq (PySem.W.mg_of X G y_ARITIES)]; exact ⟨_, ⟨_, _, _, l_ARITIES, q_ARITIES, e_ARITIES_8, rfl⟩, _, _, _, l_ARITIES_8, rfl, rfl, s_ARITIES_8, v_ARITIES_8⟩
    k_ARITIES_9 := by rw [fA_eq (PySem.W.mg_of X G y_ARITIES)]; exact ⟨_, ⟨_, _, _, l_ARITIES, q_ARITIES, e_ARITIES_9, rfl⟩, _, _, _, l_ARITIES_9, rfl, rfl, s_ARITIES_9, v_ARITIES_9⟩
    k_ARITIES_10 := by rw [fA_eq (PySem.W.mg_of X G y_ARITIES)]; exact ⟨_, ⟨_, _, _, l_ARITIES, q_ARITIES, e_ARITIES_10, rfl⟩, _, _, _, l_ARITIES_10, rfl, rfl, s_ARITIES_10, v_ARITIES_10⟩
    k_ARITIES_11 := by rw [fA_eq (PySem.W.mg_of X G y_ARITIES)]; exact ⟨_, ⟨_, _, _, l_ARITIES, q_ARITIES, e_ARITIES_11, rfl⟩, _, _, _, l_ARITIES_11, rfl, rfl, s_ARITIES_11, v_ARITIES_11⟩
    k_ARITIES_12 := by rw [fA_eq (PySem.W.mg_of X G y_ARITIES)]; exact ⟨_, ⟨_, _, _, l_ARITIES, q_ARITIES, e_ARITIES_12, rfl⟩, _, _, _, l_ARITIES_12, rfl, rfl, s_ARITIES_12, v_ARITIES_12⟩
    k_ARITIES_13 := by rw [fA_eq (PySem.W.mg_of X G y_ARITIES)]; exact ⟨_, ⟨_, _, _, l_ARITIES, q_ARITIES, e_ARITIES_13, rfl⟩, _, _, _, l_ARITIES_13, rfl, rfl, s_ARITIES_13, v_ARITIES_13⟩
    k_ARITIES_14 := by rw [fA_eq (PySem.W.mg_of X G y_ARITIES)]; exact ⟨_, ⟨_, _, _, l_ARITIES, q_ARITIES, e_ARITIES_14, rfl⟩, _, _, _, l_ARITIES_14, rfl, rfl, s_ARITIES_14, v_ARITIES_14⟩
    k_ARITIES_15 := by rw [fA_eq (PySem.W.mg_of X G y_ARITIES)]; exact ⟨_, ⟨_, _, _, l_ARITIES, q_ARITIES, e_ARITIES_15, rfl⟩, _, _, _, l_ARITIES_15, rfl, rfl, s_ARITIES_15, v_ARITIES_15⟩
    k_ARITIES_16 := by rw [fA_eq (PySem.W.mg_of X G y_ARITIES)]; exact ⟨_, ⟨_, _, _, l_ARITIES, q_ARITIES, e_ARITIES_16, rfl⟩, _, _, _, l_ARITIES_16, rfl, rfl, s_ARITIES_16, v_ARITIES_16⟩
    k_ARITIES_17 := by rw [fA_eq (PySem.W.mg_of X G y_ARITIES)]; exact ⟨_, ⟨_, _, _, l_ARITIES, q_ARITIES, e_ARITIES_17, rfl⟩, _, _, _, l_ARITIES_17, rfl, rfl, s_ARITIES_17, v_ARITIES_17⟩
    m_CHECKS := by rw [fA_eq (PySem.W.mg_of X G y_CHECKS)]; exact PySem.W.mg_of X G y_CHECKS
    k_CHECKS_0 := by rw [fA_eq (PySem.W.mg_of X G y_CHECKS), fA_eq (PySem.W.mg_of X G a_are_integers)]; exact ⟨_, _, _, l_CHECKS, q_CHECKS, e_CHECKS_0, rfl⟩
    k_CHECKS_1 := by rw [fA_eq (PySem.W.mg_of X G y_CHECKS), fA_eq (PySem.W.mg_of X G a_are_integers)]; exact ⟨_, _, _, l_CHECKS, q_CHECKS, e_CHECKS_1, rfl⟩
    k_CHECKS_2 := by rw [fA_eq (PySem.W.mg_of X G y_CHECKS), fA_eq (PySem.W.mg_of X G a_are_integers)]; exact ⟨_, _, _, l_CHECKS, q_CHECKS, e_CHECKS_2, rfl⟩
    k_CHECKS_3 := by rw [fA_eq (PySem.W.mg_of X G y_CHECKS), fA_eq (PySem.W.mg_of X G a_can_divide)]; exact ⟨_, _, _, l_CHECKS, q_CHECKS, e_CHECKS_3, rfl⟩
    k_CHECKS_4 := by rw [fA_eq (PySem.W.mg_of X G y_CHECKS), fA_eq (PySem.W.mg_of X G a_are_integers)]; exact ⟨_, _, _, l_CHECKS, q_CHECKS, e_CHECKS_4, rfl⟩
    k_CHECKS_5 := by rw [fA_eq (PySem.W.mg_of X G y_CHECKS), fA_eq (PySem.W.mg_of X G a_are_integers)]; exact ⟨_, _, _, l_CHECKS, q_CHECKS, e_CHECKS_5, rfl⟩
    k_CHECKS_6 := by rw [fA_eq (PySem.W.mg_of X G y_CHECKS), fA_eq (PySem.W.mg_of X G a_are_integers)]; exact ⟨_, _, _, l_CHECKS, q_CHECKS, e_CHECKS_6, rfl⟩
    k_CHECKS_7 := by rw [fA_eq (PySem.W.mg_of X G y_CHECKS), fA_eq (PySem.W.mg_of X G a_are_integers)]; exact ⟨_, _, _, l_CHECKS, q_CHECKS, e_CHECKS_7, rfl⟩
    k_CHECKS_8 := by rw [fA_eq (PySem.W.mg_of X G y_CHECKS), fA_eq (PySem.W.mg_of X G a_are_data)]; exact ⟨_, _, _, l_CHECKS, q_CHECKS, e_CHECKS_8, rfl⟩
    k_CHECKS_9 := by rw [fA_eq (PySem.W.mg_of X G y_CHECKS), fA_eq (PySem.W.mg_of X G a_are_tuples)]; exact ⟨_, _, _, l_CHECKS, q_CHECKS, e_CHECKS_9, rfl⟩
    k_CHECKS_10 := by rw [fA_eq (PySem.W.mg_of X G y_CHECKS), fA_eq (PySem.W.mg_of X G a_can_index)]; exact ⟨_, _, _, l_CHECKS, q_CHECKS, e_CHECKS_10, rfl⟩
    k_CHECKS_11 := by rw [fA_eq (PySem.W.mg_of X G y_CHECKS), fA_eq (PySem.W.mg_of X G a_are_data)]; exact ⟨_, _, _, l_CHECKS, q_CHECKS, e_CHECKS_11, rfl⟩
    k_CHECKS_12 := by rw [fA_eq (PySem.W.mg_of X G y_CHECKS), fA_eq (PySem.W.mg_of X G a_are_tuples)]; exact ⟨_, _, _, l_CHECKS, q_CHECKS, e_CHECKS_12, rfl⟩
    k_CHECKS_13 := by rw [fA_eq (PySem.W.mg_of X G y_CHECKS), fA_eq (PySem.W.mg_of X G a_can_count)]; exact ⟨_, _, _, l_CHECKS, q_CHECKS, e_CHECKS_13, rfl⟩
    k_CHECKS_14 := by rw [fA_eq (PySem.W.mg_of X G y_CHECKS), fA_eq (PySem.W.mg_of X G a_can_count)]; exact ⟨_, _, _, l_CHECKS, q_CHECKS, e_CHECKS_14, rfl⟩
    k_CHECKS_15 := by rw [fA_eq (PySem.W.mg_of X G y_CHECKS), fA_eq (PySem.W.mg_of X G a_is_integer_tuple)]; exact ⟨_, _, _, l_CHECKS, q_CHECKS, e_CHECKS_15, rfl⟩
    k_CHECKS_16 := by rw [fA_eq (PySem.W.mg_of X G y_CHECKS), fA_eq (PySem.W.mg_of X G a_is_integer_tuple)]; exact ⟨_, _, _, l_CHECKS, q_CHECKS, e_CHECKS_16, rfl⟩
    k_CHECKS_17 := by rw [fA_eq (PySem.W.mg_of X G y_CHECKS), fA_eq (PySem.W.mg_of X G a_are_tuples)]; exact ⟨_, _, _, l_CHECKS, q_CHECKS, e_CHECKS_17, rfl⟩
    m_RESULTS := by rw [fA_eq (PySem.W.mg_of X G y_RESULTS)]; exact PySem.W.mg_of X G y_RESULTS
    k_RESULTS_0 := by rw [fA_eq (PySem.W.mg_of X G y_RESULTS), fA_eq (PySem.W.mg_of X G a_do_add)]; exact ⟨_, _, _, l_RESULTS, q_RESULTS, e_RESULTS_0, rfl⟩
    k_RESULTS_1 := by rw [fA_eq (PySem.W.mg_of X G y_RESULTS), fA_eq (PySem.W.mg_of X G a_do_sub)]; exact ⟨_, _, _, l_RESULTS, q_RESULTS, e_RESULTS_1, rfl⟩
    k_RESULTS_2 := by rw [fA_eq (PySem.W.mg_of X G y_RESULTS), fA_eq (PySem.W.mg_of X G a_do_mul)]; exact ⟨_, _, _, l_RESULTS, q_RESULTS, e_RESULTS_2, rfl⟩
    k_RESULTS_3 := by rw [fA_eq (PySem.W.mg_of X G y_RESULTS), fA_eq (PySem.W.mg_of X G a_do_div)]; exact ⟨_, _, _, l_RESULTS, q_RESULTS, e_RESULTS_3, rfl⟩
    k_RESULTS_4 := by rw [fA_eq (PySem.W.mg_of X G y_RESULTS), fA_eq (PySem.W.mg_of X G a_do_neg)]; exact ⟨_, _, _, l_RESULTS, q_RESULTS, e_RESULTS_4, rfl⟩
    k_RESULTS_5 := by rw [fA_eq (PySem.W.mg_of X G y_RESULTS), fA_eq (PySem.W.mg_of X G a_do_min)]; exact ⟨_, _, _, l_RESULTS, q_RESULTS, e_RESULTS_5, rfl⟩
    k_RESULTS_6 := by rw [fA_eq (PySem.W.mg_of X G y_RESULTS), fA_eq (PySem.W.mg_of X G a_do_max)]; exact ⟨_, _, _, l_RESULTS, q_RESULTS, e_RESULTS_6, rfl⟩
    k_RESULTS_7 := by rw [fA_eq (PySem.W.mg_of X G y_RESULTS), fA_eq (PySem.W.mg_of X G a_do_less)]; exact ⟨_, _, _, l_RESULTS, q_RESULTS, e_RESULTS_7, rfl⟩
    k_RESULTS_8 := by rw [fA_eq (PySem.W.mg_of X G y_RESULTS), fA_eq (PySem.W.mg_of X G a_do_same)]; exact ⟨_, _, _, l_RESULTS, q_RESULTS, e_RESULTS_8, rfl⟩
    k_RESULTS_9 := by rw [fA_eq (PySem.W.mg_of X G y_RESULTS), fA_eq (PySem.W.mg_of X G a_do_length)]; exact ⟨_, _, _, l_RESULTS, q_RESULTS, e_RESULTS_9, rfl⟩
    k_RESULTS_10 := by rw [fA_eq (PySem.W.mg_of X G y_RESULTS), fA_eq (PySem.W.mg_of X G a_do_item)]; exact ⟨_, _, _, l_RESULTS, q_RESULTS, e_RESULTS_10, rfl⟩
    k_RESULTS_11 := by rw [fA_eq (PySem.W.mg_of X G y_RESULTS), fA_eq (PySem.W.mg_of X G a_do_pack)]; exact ⟨_, _, _, l_RESULTS, q_RESULTS, e_RESULTS_11, rfl⟩
    k_RESULTS_12 := by rw [fA_eq (PySem.W.mg_of X G y_RESULTS), fA_eq (PySem.W.mg_of X G a_do_join)]; exact ⟨_, _, _, l_RESULTS, q_RESULTS, e_RESULTS_12, rfl⟩
    k_RESULTS_13 := by rw [fA_eq (PySem.W.mg_of X G y_RESULTS), fA_eq (PySem.W.mg_of X G a_do_take)]; exact ⟨_, _, _, l_RESULTS, q_RESULTS, e_RESULTS_13, rfl⟩
    k_RESULTS_14 := by rw [fA_eq (PySem.W.mg_of X G y_RESULTS), fA_eq (PySem.W.mg_of X G a_do_drop)]; exact ⟨_, _, _, l_RESULTS, q_RESULTS, e_RESULTS_14, rfl⟩
    k_RESULTS_15 := by rw [fA_eq (PySem.W.mg_of X G y_RESULTS), fA_eq (PySem.W.mg_of X G a_do_sort)]; exact ⟨_, _, _, l_RESULTS, q_RESULTS, e_RESULTS_15, rfl⟩
    k_RESULTS_16 := by rw [fA_eq (PySem.W.mg_of X G y_RESULTS), fA_eq (PySem.W.mg_of X G a_do_total)]; exact ⟨_, _, _, l_RESULTS, q_RESULTS, e_RESULTS_16, rfl⟩
    k_RESULTS_17 := by rw [fA_eq (PySem.W.mg_of X G y_RESULTS), fA_eq (PySem.W.mg_of X G a_do_turn)]; exact ⟨_, _, _, l_RESULTS, q_RESULTS, e_RESULTS_17, rfl⟩
    d_is_int := Df.make (PySem.W.mg_of X G a_is_int) l_is_int g_is_int k_is_int fun _ _ _ _ _ _ us hl => match us, hl with | [_], _ => rfl
    d_is_count := Df.make (PySem.W.mg_of X G a_is_count) l_is_count g_is_count k_is_count fun _ _ _ _ _ _ us hl => match us, hl with | [_], _ => rfl
    d_is_nested := Df.make (PySem.W.mg_of X G a_is_nested) l_is_nested g_is_nested k_is_nested fun _ _ _ _ _ _ us hl => match us, hl with | [_], _ => rfl
    d_depth_of := Df.make (PySem.W.mg_of X G a_depth_of) l_depth_of g_depth_of k_depth_of fun _ _ _ _ _ _ us hl => match us, hl with | [_], _ => rfl
    d_datum_size := Df.make (PySem.W.mg_of X G a_datum_size) l_datum_size g_datum_size k_datum_size fun _ _ _ _ _ _ us hl => match us, hl with | [_], _ => rfl
    d_is_datum := Df.make (PySem.W.mg_of X G a_is_datum) l_is_datum g_is_datum k_is_datum fun _ _ _ _ _ _ us hl => match us, hl with | [_], _ => rfl
    d_is_fault := Df.make (PySem.W.mg_of X G a_is_fault) l_is_fault g_is_fault k_is_fault fun _ _ _ _ _ _ us hl => match us, hl with | [_], _ => rfl
    d_is_value := Df.make (PySem.W.mg_of X G a_is_value) l_is_value g_is_value k_is_value fun _ _ _ _ _ _ us hl => match us, hl with | [_], _ => rfl
    d_are_integers := Df.make (PySem.W.mg_of X G a_are_integers) l_are_integers g_are_integers k_are_integers fun _ _ _ _ _ _ us hl => match us, hl with | [_], _ => rfl
    d_are_tuples := Df.make (PySem.W.mg_of X G a_are_tuples) l_are_tuples g_are_tuples k_are_tuples fun _ _ _ _ _ _ us hl => match us, hl with | [_], _ => rfl
    d_are_data := Df.make (PySem.W.mg_of X G a_are_data) l_are_data g_are_data k_are_data fun _ _ _ _ _ _ us hl => match us, hl with | [_], _ => rfl
    d_can_divide := Df.make (PySem.W.mg_of X G a_can_divide) l_can_divide g_can_divide k_can_divide fun _ _ _ _ _ _ us hl => match us, hl with | [_], _ => rfl
    d_can_count := Df.make (PySem.W.mg_of X G a_can_count) l_can_count g_can_count k_can_count fun _ _ _ _ _ _ us hl => match us, hl with | [_], _ => rfl
    d_can_index := Df.make (PySem.W.mg_of X G a_can_index) l_can_index g_can_index k_can_index fun _ _ _ _ _ _ us hl => match us, hl with | [_], _ => rfl
    d_is_integer_tuple := Df.make (PySem.W.mg_of X G a_is_integer_tuple) l_is_integer_tuple g_is_integer_tuple k_is_integer_tuple fun _ _ _ _ _ _ us hl => match us, hl with | [_], _ => rfl
    d_do_add := Df.make (PySem.W.mg_of X G a_do_add) l_do_add g_do_add k_do_add fun _ _ _ _ _ _ us hl => match us, hl with | [_], _ => rfl
    d_do_sub := Df.make (PySem.W.mg_of X G a_do_sub) l_do_sub g_do_sub k_do_sub fun _ _ _ _ _ _ us hl => match us, hl with | [_], _ => rfl
    d_do_mul := Df.make (PySem.W.mg_of X G a_do_mul) l_do_mul g_do_mul k_do_mul fun _ _ _ _ _ _ us hl => match us, hl with | [_], _ => rfl
    d_do_div := Df.make (PySem.W.mg_of X G a_do_div) l_do_div g_do_div k_do_div fun _ _ _ _ _ _ us hl => match us, hl with | [_], _ => rfl
    d_do_neg := Df.make (PySem.W.mg_of X G a_do_neg) l_do_neg g_do_neg k_do_neg fun _ _ _ _ _ _ us hl => match us, hl with | [_], _ => rfl
    d_do_min := Df.make (PySem.W.mg_of X G a_do_min) l_do_min g_do_min k_do_min fun _ _ _ _ _ _ us hl => match us, hl with | [_], _ => rfl
    d_do_max := Df.make (PySem.W.mg_of X G a_do_max) l_do_max g_do_max k_do_max fun _ _ _ _ _ _ us hl => match us, hl with | [_], _ => rfl
    d_do_less := Df.make (PySem.W.mg_of X G a_do_less) l_do_less g_do_less k_do_less fun _ _ _ _ _ _ us hl => match us, hl with | [_], _ => rfl
    d_do_same := Df.make (PySem.W.mg_of X G a_do_same) l_do_same g_do_same k_do_same fun _ _ _ _ _ _ us hl => match us, hl with | [_], _ => rfl
    d_do_length := Df.make (PySem.W.mg_of X G a_do_length) l_do_length g_do_length k_do_length fun _ _ _ _ _ _ us hl => match us, hl with | [_], _ => rfl
    d_do_item := Df.make (PySem.W.mg_of X G a_do_item) l_do_item g_do_item k_do_item fun _ _ _ _ _ _ us hl => match us, hl with | [_], _ => rfl
    d_do_pack := Df.make (PySem.W.mg_of X G a_do_pack) l_do_pack g_do_pack k_do_pack fun _ _ _ _ _ _ us hl => match us, hl with | [_], _ => rfl
    d_do_join := Df.make (PySem.W.mg_of X G a_do_join) l_do_join g_do_join k_do_join fun _ _ _ _ _ _ us hl => match us, hl with | [_], _ => rfl
    d_do_take := Df.make (PySem.W.mg_of X G a_do_take) l_do_take g_do_take k_do_take fun _ _ _ _ _ _ us hl => match us, hl with | [_], _ => rfl
    d_do_drop := Df.make (PySem.W.mg_of X G a_do_drop) l_do_drop g_do_drop k_do_drop fun _ _ _ _ _ _ us hl => match us, hl with | [_], _ => rfl
    d_do_sort := Df.make (PySem.W.mg_of X G a_do_sort) l_do_sort g_do_sort k_do_sort fun _ _ _ _ _ _ us hl => match us, hl with | [_], _ => rfl
    d_do_total := Df.make (PySem.W.mg_of X G a_do_total) l_do_total g_do_total k_do_total fun _ _ _ _ _ _ us hl => match us, hl with | [_], _ => rfl
    d_do_turn := Df.make (PySem.W.mg_of X G a_do_turn) l_do_turn g_do_turn k_do_turn fun _ _ _ _ _ _ us hl => match us, hl with | [_], _ => rfl
    d_is_function := Df.make (PySem.W.mg_of X G a_is_function) l_is_function g_is_function k_is_function fun _ _ _ _ _ _ us hl => match us, hl with | [_], _ => rfl
    d_arity := Df.make (PySem.W.mg_of X G a_arity) l_arity g_arity k_arity fun _ _ _ _ _ _ us hl => match us, hl with | [_], _ => rfl
    d_apply := DfS.make (PySem.W.mg_of X G a_apply) l_apply g_apply k_apply fun _ _ _ _ _ _ us rest hl => match us, rest, hl with | [_], [], _ => rfl | [_], _ :: _, _ => rfl
    d_law_pot := Df.make (PySem.W.mg_of X G a_law_pot) l_law_pot g_law_pot k_law_pot fun _ _ _ _ _ _ us hl => match us, hl with | [_, _], _ => rfl
    d_law_digit := Df.make (PySem.W.mg_of X G a_law_digit) l_law_digit g_law_digit k_law_digit fun _ _ _ _ _ _ us hl => match us, hl with | [_, _], _ => rfl
    d_law_pick := Df.make (PySem.W.mg_of X G a_law_pick) l_law_pick g_law_pick k_law_pick fun _ _ _ _ _ _ us hl => match us, hl with | [_, _], _ => rfl
    d_law_int := Df.make (PySem.W.mg_of X G a_law_int) l_law_int g_law_int k_law_int fun _ _ _ _ _ _ us hl => match us, hl with | [_], _ => rfl
    d_law_datum := Df.make (PySem.W.mg_of X G a_law_datum) l_law_datum g_law_datum k_law_datum fun _ _ _ _ _ _ us hl => match us, hl with | [_, _], _ => rfl
    d_law_size := Df.make (PySem.W.mg_of X G a_law_size) l_law_size g_law_size k_law_size fun _ _ _ _ _ _ us hl => match us, hl with | [_], _ => rfl
    d_law_deep := Df.make (PySem.W.mg_of X G a_law_deep) l_law_deep g_law_deep k_law_deep fun _ _ _ _ _ _ us hl => match us, hl with | [_], _ => rfl
    d_law_fits := Df.make (PySem.W.mg_of X G a_law_fits) l_law_fits g_law_fits k_law_fits fun _ _ _ _ _ _ us hl => match us, hl with | [_], _ => rfl
    d_law_arity := Df.make (PySem.W.mg_of X G a_law_arity) l_law_arity g_law_arity k_law_arity fun _ _ _ _ _ _ us hl => match us, hl with | [_], _ => rfl
    d_law_words := Df.make (PySem.W.mg_of X G a_law_words) l_law_words g_law_words k_law_words fun _ _ _ _ _ _ us hl => match us, hl with | [], _ => rfl
    d_law_result := Df.make (PySem.W.mg_of X G a_law_result) l_law_result g_law_result k_law_result fun _ _ _ _ _ _ us hl => match us, hl with | [_, _], _ => rfl
    d_law_raw := Df.make (PySem.W.mg_of X G a_law_raw) l_law_raw g_law_raw k_law_raw fun _ _ _ _ _ _ us hl => match us, hl with | [_, _], _ => rfl
    d_law_glued := Df.make (PySem.W.mg_of X G a_law_glued) l_law_glued g_law_glued k_law_glued fun _ _ _ _ _ _ us hl => match us, hl with | [_], _ => rfl
    d_law_of_two := Df.make (PySem.W.mg_of X G a_law_of_two) l_law_of_two g_law_of_two k_law_of_two fun _ _ _ _ _ _ us hl => match us, hl with | [_, _, _], _ => rfl
    d_law_of_tuple := Df.make (PySem.W.mg_of X G a_law_of_tuple) l_law_of_tuple g_law_of_tuple k_law_of_tuple fun _ _ _ _ _ _ us hl => match us, hl with | [_, _, _], _ => rfl
    d_law_applied := Df.make (PySem.W.mg_of X G a_law_applied) l_law_applied g_law_applied k_law_applied fun _ _ _ _ _ _ us hl => match us, hl with | [_, _], _ => rfl
    d_law_ints := Df.make (PySem.W.mg_of X G a_law_ints) l_law_ints g_law_ints k_law_ints fun _ _ _ _ _ _ us hl => match us, hl with | [_, _], _ => rfl
    d_law_given := Df.make (PySem.W.mg_of X G a_law_given) l_law_given g_law_given k_law_given fun _ _ _ _ _ _ us hl => match us, hl with | [_, _, _], _ => rfl
    d_law_right := Df.make (PySem.W.mg_of X G a_law_right) l_law_right g_law_right k_law_right fun _ _ _ _ _ _ us hl => match us, hl with | [_], _ => rfl
    d_law := Df.make (PySem.W.mg_of X G a_law) l_law g_law k_law fun _ _ _ _ _ _ us hl => match us, hl with | [_], _ => rfl
    m_UnknownFunction := by rw [fA_eq (PySem.W.mg_of X G a_UnknownFunction)]; exact PySem.W.mg_of X G a_UnknownFunction
    m_MissingError := by rw [fA_eq (PySem.W.mg_of X G a_MissingError)]; exact PySem.W.mg_of X G a_MissingError
    m_InvalidValue := by rw [fA_eq (PySem.W.mg_of X G a_InvalidValue)]; exact PySem.W.mg_of X G a_InvalidValue
    m_SessionError := by rw [fA_eq (PySem.W.mg_of X G a_SessionError)]; exact PySem.W.mg_of X G a_SessionError
    k_UnknownFunction := xd_mk (PySem.W.mg_of X G a_UnknownFunction) k1_UnknownFunction k2_UnknownFunction k3_UnknownFunction k4_UnknownFunction k5_UnknownFunction k6_UnknownFunction k7_UnknownFunction k8_UnknownFunction k9_UnknownFunction ka_UnknownFunction kb_UnknownFunction kc_UnknownFunction fun _ _ _ _ _ _ us hl => match us, hl with | [_, _], _ => rfl
    f_UnknownFunction_value := by rw [fA_eq (PySem.W.mg_of X G a_UnknownFunction)]; exact f_UnknownFunction_value
    g_UnknownFunction_value := by rw [fA_eq (PySem.W.mg_of X G a_UnknownFunction)]; exact g_UnknownFunction_value
    x_UnknownFunction := by rw [fA_eq (PySem.W.mg_of X G a_UnknownFunction)]; exact ⟨x1_UnknownFunction, x2_UnknownFunction, k5_UnknownFunction, k3_UnknownFunction, x3_UnknownFunction, x5_exc, x6_exc, x4_UnknownFunction⟩
    v_UnknownFunction := by rw [fA_eq (PySem.W.mg_of X G a_UnknownFunction)]; exact ⟨x1_UnknownFunction, x2_UnknownFunction, k5_UnknownFunction, k3_UnknownFunction⟩
    k_InvalidValue := xd_mk (PySem.W.mg_of X G a_InvalidValue) k1_InvalidValue k2_InvalidValue k3_InvalidValue k4_InvalidValue k5_InvalidValue k6_InvalidValue k7_InvalidValue k8_InvalidValue k9_InvalidValue ka_InvalidValue kb_InvalidValue kc_InvalidValue fun _ _ _ _ _ _ us hl => match us, hl with | [_, _], _ => rfl
    f_InvalidValue_value := by rw [fA_eq (PySem.W.mg_of X G a_InvalidValue)]; exact f_InvalidValue_value
    g_InvalidValue_value := by rw [fA_eq (PySem.W.mg_of X G a_InvalidValue)]; exact g_InvalidValue_value
    x_InvalidValue := by rw [fA_eq (PySem.W.mg_of X G a_InvalidValue)]; exact ⟨x1_InvalidValue, x2_InvalidValue, k5_InvalidValue, k3_InvalidValue, x3_InvalidValue, x5_exc, x6_exc, x4_InvalidValue⟩
    v_InvalidValue := by rw [fA_eq (PySem.W.mg_of X G a_InvalidValue)]; exact ⟨x1_InvalidValue, x2_InvalidValue, k5_InvalidValue, k3_InvalidValue⟩
    n_MissingError := by rw [fA_eq (PySem.W.mg_of X G a_MissingError)]; exact ⟨PySem.W.mg_of X G a_MissingError, b1_MissingError, b2_MissingError, b3_MissingError⟩
    n_SessionError := by rw [fA_eq (PySem.W.mg_of X G a_SessionError)]; exact ⟨PySem.W.mg_of X G a_SessionError, b1_SessionError, b2_SessionError, b3_SessionError⟩ }

end My
end

section
set_option Elab.async false
set_option linter.all false
set_option maxRecDepth 100000
set_option maxHeartbeats 4000000
open PySem PySem.W PyProof.Rows
set_option maxHeartbeats 0 in
theorem PySem.Challenge.cw_leastsession_k15_whole_functions_holds : PySem.Challenge.rw_leastsession_k15_whole_functions.Holds := by
  w_on; o_law; k_head; (case hw => w_witness2)
  k_fill
  refine Ls.walk_g (l := PySem.Challenge.rw_leastsession_k15_whole_functions) (n := 63) (k := 19) (x := "_law_script") (st := My.s_law) (sp := My.sp_law) rfl (by decide) rfl ⟨rfl, by decide, by decide⟩ (fun w h Y => PySem.W.kIn_of Y) ?F My.law_start
  case F =>
    intro w mg fa h KX G hmg base hb1 hb2 nd
    refine My.all_ok nd ?T
    refine' My.tx_mk (w := w) KX G ?z_abs ?z_all ?z_any ?z_bool ?z_divmod ?z_int ?z_isinstance ?z_len ?z_list ?z_max ?z_min ?z_range ?z_repr ?z_sorted ?z_str ?z_sum ?z_tuple ?y_FAULT ?y_MOST_ITEMS ?y_MOST_DEPTH ?y_MOST_SIZE ?y_FUNCTIONS ?l_FUNCTIONS ?v_FUNCTIONS ?s_FUNCTIONS ?y_ARITIES ?l_ARITIES ?q_ARITIES ?e_ARITIES_0 ?l_ARITIES_0 ?v_ARITIES_0 ?s_ARITIES_0 ?e_ARITIES_1 ?l_ARITIES_1 ?v_ARITIES_1 ?s_ARITIES_1 ?e_ARITIES_2 ?l_ARITIES_2 ?v_ARITIES_2 ?s_ARITIES_2 ?e_ARITIES_3 ?l_ARITIES_3 ?v_ARITIES_3 ?s_ARITIES_3 ?e_ARITIES_4 ?l_ARITIES_4 ?v_ARITIES_4 ?s_ARITIES_4 ?e_ARITIES_5 ?l_ARITIES_5 ?v_ARITIES_5 ?s_ARITIES_5 ?e_ARITIES_6 ?l_ARITIES_6 ?v_ARITIES_6 ?s_ARITIES_6 ?e_ARITIES_7 ?l_ARITIES_7 ?v_ARITIES_7 ?s_ARITIES_7 ?e_ARITIES_8 ?l_ARITIES_8 ?v_ARITIES_8 ?s_ARITIES_8 ?e_ARITIES_9 ?l_ARITIES_9 ?v_ARITIES_9 ?s_ARITIES_9 ?e_ARITIES_10 ?l_ARITIES_10 ?v_ARITIES_10 ?s_ARITIES_10 ?e_ARITIES_11 ?l_ARITIES_11 ?v_ARITIES_11 ?s_ARITIES_11 ?e_ARITIES_12 ?l_ARITIES_12 ?v_ARITIES_12 ?s_ARITIES_12 ?e_ARITIES_13 ?l_ARITIES_13 ?v_ARITIES_13 ?s_ARITIES_13 ?e_ARITIES_14 ?l_ARITIES_14 ?v_ARITIES_14 ?s_ARITIES_14 ?e_ARITIES_15 ?l_ARITIES_15 ?v_ARITIES_15 ?s_ARITIES_15 ?e_ARITIES_16 ?l_ARITIES_16 ?v_ARITIES_16 ?s_ARITIES_16 ?e_ARITIES_17 ?l_ARITIES_17 ?v_ARITIES_17 ?s_ARITIES_17 ?y_CHECKS ?l_CHECKS ?q_CHECKS ?y_RESULTS ?l_RESULTS ?q_RESULTS ?a_is_int ?l_is_int ?g_is_int ?k_is_int ?a_is_count ?l_is_count ?g_is_count ?k_is_count ?a_is_nested ?l_is_nested ?g_is_nested ?k_is_nested ?a_depth_of ?l_depth_of ?g_depth_of ?k_depth_of ?a_datum_size ?l_datum_size ?g_datum_size ?k_datum_size ?a_is_datum ?l_is_datum ?g_is_datum ?k_is_datum ?a_is_fault ?l_is_fault ?g_is_fault ?k_is_fault ?a_is_value ?l_is_value ?g_is_value ?k_is_value ?a_are_integers ?l_are_integers ?g_are_integers ?k_are_integers ?a_are_tuples ?l_are_tuples ?g_are_tuples ?k_are_tuples ?a_are_data ?l_are_data ?g_are_data ?k_are_data ?a_can_divide ?l_can_divide ?g_can_divide ?k_can_divide ?a_can_count ?l_can_count ?g_can_count ?k_can_count ?a_can_index ?l_can_index ?g_can_index ?k_can_index ?a_is_integer_tuple ?l_is_integer_tuple ?g_is_integer_tuple ?k_is_integer_tuple ?a_do_add ?l_do_add ?g_do_add ?k_do_add ?a_do_sub ?l_do_sub ?g_do_sub ?k_do_sub ?a_do_mul ?l_do_mul ?g_do_mul ?k_do_mul ?a_do_div ?l_do_div ?g_do_div ?k_do_div ?a_do_neg ?l_do_neg ?g_do_neg ?k_do_neg ?a_do_min ?l_do_min ?g_do_min ?k_do_min ?a_do_max ?l_do_max ?g_do_max ?k_do_max ?a_do_less ?l_do_less ?g_do_less ?k_do_less ?a_do_same ?l_do_same ?g_do_same ?k_do_same ?a_do_length ?l_do_length ?g_do_length ?k_do_length ?a_do_item ?l_do_item ?g_do_item ?k_do_item ?a_do_pack ?l_do_pack ?g_do_pack ?k_do_pack ?a_do_join ?l_do_join ?g_do_join ?k_do_join ?a_do_take ?l_do_take ?g_do_take ?k_do_take ?a_do_drop ?l_do_drop ?g_do_drop ?k_do_drop ?a_do_sort ?l_do_sort ?g_do_sort ?k_do_sort ?a_do_total ?l_do_total ?g_do_total ?k_do_total ?a_do_turn ?l_do_turn ?g_do_turn ?k_do_turn ?a_is_function ?l_is_function ?g_is_function ?k_is_function ?a_arity ?l_arity ?g_arity ?k_arity ?a_apply ?l_apply ?g_apply ?k_apply ?a_law_pot ?l_law_pot ?g_law_pot ?k_law_pot ?a_law_digit ?l_law_digit ?g_law_digit ?k_law_digit ?a_law_pick ?l_law_pick ?g_law_pick ?k_law_pick ?a_law_int ?l_law_int ?g_law_int ?k_law_int ?a_law_datum ?l_law_datum ?g_law_datum ?k_law_datum ?a_law_size ?l_law_size ?g_law_size ?k_law_size ?a_law_deep ?l_law_deep ?g_law_deep ?k_law_deep ?a_law_fits ?l_law_fits ?g_law_fits ?k_law_fits ?a_law_arity ?l_law_arity ?g_law_arity ?k_law_arity ?a_law_words ?l_law_words ?g_law_words ?k_law_words ?a_law_result ?l_law_result ?g_law_result ?k_law_result ?a_law_raw ?l_law_raw ?g_law_raw ?k_law_raw ?a_law_glued ?l_law_glued ?g_law_glued ?k_law_glued ?a_law_of_two ?l_law_of_two ?g_law_of_two ?k_law_of_two ?a_law_of_tuple ?l_law_of_tuple ?g_law_of_tuple ?k_law_of_tuple ?a_law_applied ?l_law_applied ?g_law_applied ?k_law_applied ?a_law_ints ?l_law_ints ?g_law_ints ?k_law_ints ?a_law_given ?l_law_given ?g_law_given ?k_law_given ?a_law_right ?l_law_right ?g_law_right ?k_law_right ?a_law ?l_law ?g_law ?k_law ?e_CHECKS_0 ?e_CHECKS_1 ?e_CHECKS_2 ?e_CHECKS_3 ?e_CHECKS_4 ?e_CHECKS_5 ?e_CHECKS_6 ?e_CHECKS_7 ?e_CHECKS_8 ?e_CHECKS_9 ?e_CHECKS_10 ?e_CHECKS_11 ?e_CHECKS_12 ?e_CHECKS_13 ?e_CHECKS_14 ?e_CHECKS_15 ?e_CHECKS_16 ?e_CHECKS_17 ?e_RESULTS_0 ?e_RESULTS_1 ?e_RESULTS_2 ?e_RESULTS_3 ?e_RESULTS_4 ?e_RESULTS_5 ?e_RESULTS_6 ?e_RESULTS_7 ?e_RESULTS_8 ?e_RESULTS_9 ?e_RESULTS_10 ?e_RESULTS_11 ?e_RESULTS_12 ?e_RESULTS_13 ?e_RESULTS_14 ?e_RESULTS_15 ?e_RESULTS_16 ?e_RESULTS_17 ?a_UnknownFunction ?a_MissingError ?a_InvalidValue ?a_SessionError ?k1_UnknownFunction ?k2_UnknownFunction ?k3_UnknownFunction ?k4_UnknownFunction ?k5_UnknownFunction ?k6_UnknownFunction ?k7_UnknownFunction ?k8_UnknownFunction ?k9_UnknownFunction ?ka_UnknownFunction ?kb_UnknownFunction ?kc_UnknownFunction ?f_UnknownFunction_value ?g_UnknownFunction_value ?x1_UnknownFunction ?x2_UnknownFunction ?x3_UnknownFunction ?x4_UnknownFunction ?z_UnknownFunction ?k1_InvalidValue ?k2_InvalidValue ?k3_InvalidValue ?k4_InvalidValue ?k5_InvalidValue ?k6_InvalidValue ?k7_InvalidValue ?k8_InvalidValue ?k9_InvalidValue ?ka_InvalidValue ?kb_InvalidValue ?kc_InvalidValue ?f_InvalidValue_value ?g_InvalidValue_value ?x1_InvalidValue ?x2_InvalidValue ?x3_InvalidValue ?x4_InvalidValue ?z_InvalidValue ?x5_exc ?x6_exc ?b1_MissingError ?b2_MissingError ?b3_MissingError ?b1_SessionError ?b2_SessionError ?b3_SessionError
    (case z_abs => first | k_is | kx_is)
    (case z_all => first | k_is | kx_is)
    (case z_any => first | k_is | kx_is)
    (case z_bool => first | k_is | kx_is)
    (case z_divmod => first | k_is | kx_is)
    (case z_int => first | k_is | kx_is)
    (case z_isinstance => first | k_is | kx_is)
    (case z_len => first | k_is | kx_is)
    (case z_list => first | k_is | kx_is)
    (case z_max => first | k_is | kx_is)
    (case z_min => first | k_is | kx_is)
    (case z_range => first | k_is | kx_is)
    (case z_repr => first | k_is | kx_is)
    (case z_sorted => first | k_is | kx_is)
    (case z_str => first | k_is | kx_is)
    (case z_sum => first | k_is | kx_is)
    (case z_tuple => first | k_is | kx_is)
    (case y_FAULT => first | k_is | kx_is)
    (case y_MOST_ITEMS => first | k_is | kx_is)
    (case y_MOST_DEPTH => first | k_is | kx_is)
    (case y_MOST_SIZE => first | k_is | kx_is)
    (case y_FUNCTIONS => first | k_is | kx_is)
    (case l_FUNCTIONS => first | k_is | kx_is)
    (case v_FUNCTIONS => repeat (first | exact .nil | refine .cons ⟨_, rfl⟩ ?_))
    (case s_FUNCTIONS => decide +kernel)
    (case y_ARITIES => first | k_is | kx_is)
    (case l_ARITIES => first | k_is | kx_is)
    (case q_ARITIES => k_keys)
    (case e_ARITIES_0 => first | k_is | kx_is)
    (case l_ARITIES_0 => first | k_is | kx_is)
    (case v_ARITIES_0 => repeat (first | exact .nil | refine .cons ⟨_, rfl⟩ ?_))
    (case s_ARITIES_0 => decide +kernel)
    (case e_ARITIES_1 => first | k_is | kx_is)
    (case l_ARITIES_1 => first | k_is | kx_is)
    (case v_ARITIES_1 => repeat (first | exact .nil | refine .cons ⟨_, rfl⟩ ?_))
    (case s_ARITIES_1 => decide +kernel)
    (case e_ARITIES_2 => first | k_is | kx_is)
    (case l_ARITIES_2 => first | k_is | kx_is)
    (case v_ARITIES_2 => repeat (first | exact .nil | refine .cons ⟨_, rfl⟩ ?_))
    (case s_ARITIES_2 => decide +kernel)
    (case e_ARITIES_3 => first | k_is | kx_is)
    (case l_ARITIES_3 => first | k_is | kx_is)
    (case v_ARITIES_3 => repeat (first | exact .nil | refine .cons ⟨_, rfl⟩ ?_))
    (case s_ARITIES_3 => decide +kernel)
    (case e_ARITIES_4 => first | k_is | kx_is)
    (case l_ARITIES_4 => first | k_is | kx_is)
    (case v_ARITIES_4 => repeat (first | exact .nil | refine .cons ⟨_, rfl⟩ ?_))
    (case s_ARITIES_4 => decide +kernel)
    (case e_ARITIES_5 => first | k_is | kx_is)
    (case l_ARITIES_5 => first | k_is | kx_is)
    (case v_ARITIES_5 => repeat (first | exact .nil | refine .cons ⟨_, rfl⟩ ?_))
    (case s_ARITIES_5 => decide +kernel)
    (case e_ARITIES_6 => first | k_is | kx_is)
    (case l_ARITIES_6 => first | k_is | kx_is)
    (case v_ARITIES_6 => repeat (first | exact .nil | refine .cons ⟨_, rfl⟩ ?_))
    (case s_ARITIES_6 => decide +kernel)
    (case e_ARITIES_7 => first | k_is | kx_is)
    (case l_ARITIES_7 => first | k_is | kx_is)
    (case v_ARITIES_7 => repeat (first | exact .nil | refine .cons ⟨_, rfl⟩ ?_))
    (case s_ARITIES_7 => decide +kernel)
    (case e_ARITIES_8 => first | k_is | kx_is)
    (case l_ARITIES_8 => first | k_is | kx_is)
    (case v_ARITIES_8 => repeat (first | exact .nil | refine .cons ⟨_, rfl⟩ ?_))
    (case s_ARITIES_8 => decide +kernel)
    (case e_ARITIES_9 => first | k_is | kx_is)
    (case l_ARITIES_9 => first | k_is | kx_is)
    (case v_ARITIES_9 => repeat (first | exact .nil | refine .cons ⟨_, rfl⟩ ?_))
    (case s_ARITIES_9 => decide +kernel)
    (case e_ARITIES_10 => first | k_is | kx_is)
    (case l_ARITIES_10 => first | k_is | kx_is)
    (case v_ARITIES_10 => repeat (first | exact .nil | refine .cons ⟨_, rfl⟩ ?_))
    (case s_ARITIES_10 => decide +kernel)
    (case e_ARITIES_11 => first | k_is | kx_is)
    (case l_ARITIES_11 => first | k_is | kx_is)
    (case v_ARITIES_11 => repeat (first | exact .nil | refine .cons ⟨_, rfl⟩ ?_))
    (case s_ARITIES_11 => decide +kernel)
    (case e_ARITIES_12 => first | k_is | kx_is)
    (case l_ARITIES_12 => first | k_is | kx_is)
    (case v_ARITIES_12 => repeat (first | exact .nil | refine .cons ⟨_, rfl⟩ ?_))
    (case s_ARITIES_12 => decide +kernel)
    (case e_ARITIES_13 => first | k_is | kx_is)
    (case l_ARITIES_13 => first | k_is | kx_is)
    (case v_ARITIES_13 => repeat (first | exact .nil | refine .cons ⟨_, rfl⟩ ?_))
    (case s_ARITIES_13 => decide +kernel)
    (case e_ARITIES_14 => first | k_is | kx_is)
    (case l_ARITIES_14 => first | k_is | kx_is)
    (case v_ARITIES_14 => repeat (first | exact .nil | refine .cons ⟨_, rfl⟩ ?_))
    (case s_ARITIES_14 => decide +kernel)
    (case e_ARITIES_15 => first | k_is | kx_is)
    (case l_ARITIES_15 => first | k_is | kx_is)
    (case v_ARITIES_15 => repeat (first | exact .nil | refine .cons ⟨_, rfl⟩ ?_))
    (case s_ARITIES_15 => decide +kernel)
    (case e_ARITIES_16 => first | k_is | kx_is)
    (case l_ARITIES_16 => first | k_is | kx_is)
    (case v_ARITIES_16 => repeat (first | exact .nil | refine .cons ⟨_, rfl⟩ ?_))
    (case s_ARITIES_16 => decide +kernel)
    (case e_ARITIES_17 => first | k_is | kx_is)
    (case l_ARITIES_17 => first | k_is | kx_is)
    (case v_ARITIES_17 => repeat (first | exact .nil | refine .cons ⟨_, rfl⟩ ?_))
    (case s_ARITIES_17 => decide +kernel)
    (case y_CHECKS => first | k_is | kx_is)
    (case l_CHECKS => first | k_is | kx_is)
    (case q_CHECKS => k_keys)
    (case y_RESULTS => first | k_is | kx_is)
    (case l_RESULTS => first | k_is | kx_is)
    (case q_RESULTS => k_keys)
    (case a_is_int => first | k_is | kx_is)
    (case l_is_int => first | k_is | kx_is)
    (case g_is_int => first | k_is | kx_is)
    (case k_is_int => first | k_is | kx_is)
    (case a_is_count => first | k_is | kx_is)
    (case l_is_count => first | k_is | kx_is)
    (case g_is_count => first | k_is | kx_is)
    (case k_is_count => first | k_is | kx_is)
    (case a_is_nested => first | k_is | kx_is)
    (case l_is_nested => first | k_is | kx_is)
    (case g_is_nested => first | k_is | kx_is)
    (case k_is_nested => first | k_is | kx_is)
    (case a_depth_of => first | k_is | kx_is)
    (case l_depth_of => first | k_is | kx_is)
    (case g_depth_of => first | k_is | kx_is)
    (case k_depth_of => first | k_is | kx_is)
    (case a_datum_size => first | k_is | kx_is)
    (case l_datum_size => first | k_is | kx_is)
    (case g_datum_size => first | k_is | kx_is)
    (case k_datum_size => first | k_is | kx_is)
    (case a_is_datum => first | k_is | kx_is)
    (case l_is_datum => first | k_is | kx_is)
    (case g_is_datum => first | k_is | kx_is)
    (case k_is_datum => first | k_is | kx_is)
    (case a_is_fault => first | k_is | kx_is)
    (case l_is_fault => first | k_is | kx_is)
    (case g_is_fault => first | k_is | kx_is)
    (case k_is_fault => first | k_is | kx_is)
    (case a_is_value => first | k_is | kx_is)
    (case l_is_value => first | k_is | kx_is)
    (case g_is_value => first | k_is | kx_is)
    (case k_is_value => first | k_is | kx_is)
    (case a_are_integers => first | k_is | kx_is)
    (case l_are_integers => first | k_is | kx_is)
    (case g_are_integers => first | k_is | kx_is)
    (case k_are_integers => first | k_is | kx_is)
    (case a_are_tuples => first | k_is | kx_is)
    (case l_are_tuples => first | k_is | kx_is)
    (case g_are_tuples => first | k_is | kx_is)
    (case k_are_tuples => first | k_is | kx_is)
    (case a_are_data => first | k_is | kx_is)
    (case l_are_data => first | k_is | kx_is)
    (case g_are_data => first | k_is | kx_is)
    (case k_are_data => first | k_is | kx_is)
    (case a_can_divide => first | k_is | kx_is)
    (case l_can_divide => first | k_is | kx_is)
    (case g_can_divide => first | k_is | kx_is)
    (case k_can_divide => first | k_is | kx_is)
    (case a_can_count => first | k_is | kx_is)
    (case l_can_count => first | k_is | kx_is)
    (case g_can_count => first | k_is | kx_is)
    (case k_can_count => first | k_is | kx_is)
    (case a_can_index => first | k_is | kx_is)
    (case l_can_index => first | k_is | kx_is)
    (case g_can_index => first | k_is | kx_is)
    (case k_can_index => first | k_is | kx_is)
    (case a_is_integer_tuple => first | k_is | kx_is)
    (case l_is_integer_tuple => first | k_is | kx_is)
    (case g_is_integer_tuple => first | k_is | kx_is)
    (case k_is_integer_tuple => first | k_is | kx_is)
    (case a_do_add => first | k_is | kx_is)
    (case l_do_add => first | k_is | kx_is)
    (case g_do_add => first | k_is | kx_is)
    (case k_do_add => first | k_is | kx_is)
    (case a_do_sub => first | k_is | kx_is)
    (case l_do_sub => first | k_is | kx_is)
    (case g_do_sub => first | k_is | kx_is)
    (case k_do_sub => first | k_is | kx_is)
    (case a_do_mul => first | k_is | kx_is)
    (case l_do_mul => first | k_is | kx_is)
    (case g_do_mul => first | k_is | kx_is)
    (case k_do_mul => first | k_is | kx_is)
    (case a_do_div => first | k_is | kx_is)
    (case l_do_div => first | k_is | kx_is)
    (case g_do_div => first | k_is | kx_is)
    (case k_do_div => first | k_is | kx_is)
    (case a_do_neg => first | k_is | kx_is)
    (case l_do_neg => first | k_is | kx_is)
    (case g_do_neg => first | k_is | kx_is)
    (case k_do_neg => first | k_is | kx_is)
    (case a_do_min => first | k_is | kx_is)
    (case l_do_min => first | k_is | kx_is)
    (case g_do_min => first | k_is | kx_is)
    (case k_do_min => first | k_is | kx_is)
    (case a_do_max => first | k_is | kx_is)
    (case l_do_max => first | k_is | kx_is)
    (case g_do_max => first | k_is | kx_is)
    (case k_do_max => first | k_is | kx_is)
    (case a_do_less => first | k_is | kx_is)
    (case l_do_less => first | k_is | kx_is)
    (case g_do_less => first | k_is | kx_is)
    (case k_do_less => first | k_is | kx_is)
    (case a_do_same => first | k_is | kx_is)
    (case l_do_same => first | k_is | kx_is)
    (case g_do_same => first | k_is | kx_is)
    (case k_do_same => first | k_is | kx_is)
    (case a_do_length => first | k_is | kx_is)
    (case l_do_length => first | k_is | kx_is)
    (case g_do_length => first | k_is | kx_is)
    (case k_do_length => first | k_is | kx_is)
    (case a_do_item => first | k_is | kx_is)
    (case l_do_item => first | k_is | kx_is)
    (case g_do_item => first | k_is | kx_is)
    (case k_do_item => first | k_is | kx_is)
    (case a_do_pack => first | k_is | kx_is)
    (case l_do_pack => first | k_is | kx_is)
    (case g_do_pack => first | k_is | kx_is)
    (case k_do_pack => first | k_is | kx_is)
    (case a_do_join => first | k_is | kx_is)
    (case l_do_join => first | k_is | kx_is)
    (case g_do_join => first | k_is | kx_is)
    (case k_do_join => first | k_is | kx_is)
    (case a_do_take => first | k_is | kx_is)
    (case l_do_take => first | k_is | kx_is)
    (case g_do_take => first | k_is | kx_is)
    (case k_do_take => first | k_is | kx_is)
    (case a_do_drop => first | k_is | kx_is)
    (case l_do_drop => first | k_is | kx_is)
    (case g_do_drop => first | k_is | kx_is)
    (case k_do_drop => first | k_is | kx_is)
    (case a_do_sort => first | k_is | kx_is)
    (case l_do_sort => first | k_is | kx_is)
    (case g_do_sort => first | k_is | kx_is)
    (case k_do_sort => first | k_is | kx_is)
    (case a_do_total => first | k_is | kx_is)
    (case l_do_total => first | k_is | kx_is)
    (case g_do_total => first | k_is | kx_is)
    (case k_do_total => first | k_is | kx_is)
    (case a_do_turn => first | k_is | kx_is)
    (case l_do_turn => first | k_is | kx_is)
    (case g_do_turn => first | k_is | kx_is)
    (case k_do_turn => first | k_is | kx_is)
    (case a_is_function => first | k_is | kx_is)
    (case l_is_function => first | k_is | kx_is)
    (case g_is_function => first | k_is | kx_is)
    (case k_is_function => first | k_is | kx_is)
    (case a_arity => first | k_is | kx_is)
    (case l_arity => first | k_is | kx_is)
    (case g_arity => first | k_is | kx_is)
    (case k_arity => first | k_is | kx_is)
    (case a_apply => first | k_is | kx_is)
    (case l_apply => first | k_is | kx_is)
    (case g_apply => first | k_is | kx_is)
    (case k_apply => first | k_is | kx_is)
    (case a_law_pot => first | k_is | kx_is)
    (case l_law_pot => first | k_is | kx_is)
    (case g_law_pot => first | k_is | kx_is)
    (case k_law_pot => first | k_is | kx_is)
    (case a_law_digit => first | k_is | kx_is)
    (case l_law_digit => first | k_is | kx_is)
    (case g_law_digit => first | k_is | kx_is)
    (case k_law_digit => first | k_is | kx_is)
    (case a_law_pick => first | k_is | kx_is)
    (case l_law_pick => first | k_is | kx_is)
    (case g_law_pick => first | k_is | kx_is)
    (case k_law_pick => first | k_is | kx_is)
    (case a_law_int => first | k_is | kx_is)
    (case l_law_int => first | k_is | kx_is)
    (case g_law_int => first | k_is | kx_is)
    (case k_law_int => first | k_is | kx_is)
    (case a_law_datum => first | k_is | kx_is)
    (case l_law_datum => first | k_is | kx_is)
    (case g_law_datum => first | k_is | kx_is)
    (case k_law_datum => first | k_is | kx_is)
    (case a_law_size => first | k_is | kx_is)
    (case l_law_size => first | k_is | kx_is)
    (case g_law_size => first | k_is | kx_is)
    (case k_law_size => first | k_is | kx_is)
    (case a_law_deep => first | k_is | kx_is)
    (case l_law_deep => first | k_is | kx_is)
    (case g_law_deep => first | k_is | kx_is)
    (case k_law_deep => first | k_is | kx_is)
    (case a_law_fits => first | k_is | kx_is)
    (case l_law_fits => first | k_is | kx_is)
    (case g_law_fits => first | k_is | kx_is)
    (case k_law_fits => first | k_is | kx_is)
    (case a_law_arity => first | k_is | kx_is)
    (case l_law_arity => first | k_is | kx_is)
    (case g_law_arity => first | k_is | kx_is)
    (case k_law_arity => first | k_is | kx_is)
    (case a_law_words => first | k_is | kx_is)
    (case l_law_words => first | k_is | kx_is)
    (case g_law_words => first | k_is | kx_is)
    (case k_law_words => first | k_is | kx_is)
    (case a_law_result => first | k_is | kx_is)
    (case l_law_result => first | k_is | kx_is)
    (case g_law_result => first | k_is | kx_is)
    (case k_law_result => first | k_is | kx_is)
    (case a_law_raw => first | k_is | kx_is)
    (case l_law_raw => first | k_is | kx_is)
    (case g_law_raw => first | k_is | kx_is)
    (case k_law_raw => first | k_is | kx_is)
    (case a_law_glued => first | k_is | kx_is)
    (case l_law_glued => first | k_is | kx_is)
    (case g_law_glued => first | k_is | kx_is)
    (case k_law_glued => first | k_is | kx_is)
    (case a_law_of_two => first | k_is | kx_is)
    (case l_law_of_two => first | k_is | kx_is)
    (case g_law_of_two => first | k_is | kx_is)
    (case k_law_of_two => first | k_is | kx_is)
    (case a_law_of_tuple => first | k_is | kx_is)
    (case l_law_of_tuple => first | k_is | kx_is)
    (case g_law_of_tuple => first | k_is | kx_is)
    (case k_law_of_tuple => first | k_is | kx_is)
    (case a_law_applied => first | k_is | kx_is)
    (case l_law_applied => first | k_is | kx_is)
    (case g_law_applied => first | k_is | kx_is)
    (case k_law_applied => first | k_is | kx_is)
    (case a_law_ints => first | k_is | kx_is)
    (case l_law_ints => first | k_is | kx_is)
    (case g_law_ints => first | k_is | kx_is)
    (case k_law_ints => first | k_is | kx_is)
    (case a_law_given => first | k_is | kx_is)
    (case l_law_given => first | k_is | kx_is)
    (case g_law_given => first | k_is | kx_is)
    (case k_law_given => first | k_is | kx_is)
    (case a_law_right => first | k_is | kx_is)
    (case l_law_right => first | k_is | kx_is)
    (case g_law_right => first | k_is | kx_is)
    (case k_law_right => first | k_is | kx_is)
    (case a_law => first | k_is | kx_is)
    (case l_law => first | k_is | kx_is)
    (case g_law => first | k_is | kx_is)
    (case k_law => first | k_is | kx_is)
    (case e_CHECKS_0 => first | k_is | kx_is)
    (case e_CHECKS_1 => first | k_is | kx_is)
    (case e_CHECKS_2 => first | k_is | kx_is)
    (case e_CHECKS_3 => first | k_is | kx_is)
    (case e_CHECKS_4 => first | k_is | kx_is)
    (case e_CHECKS_5 => first | k_is | kx_is)
    (case e_CHECKS_6 => first | k_is | kx_is)
    (case e_CHECKS_7 => first | k_is | kx_is)
    (case e_CHECKS_8 => first | k_is | kx_is)
    (case e_CHECKS_9 => first | k_is | kx_is)
    (case e_CHECKS_10 => first | k_is | kx_is)
    (case e_CHECKS_11 => first | k_is | kx_is)
    (case e_CHECKS_12 => first | k_is | kx_is)
    (case e_CHECKS_13 => first | k_is | kx_is)
    (case e_CHECKS_14 => first | k_is | kx_is)
    (case e_CHECKS_15 => first | k_is | kx_is)
    (case e_CHECKS_16 => first | k_is | kx_is)
    (case e_CHECKS_17 => first | k_is | kx_is)
    (case e_RESULTS_0 => first | k_is | kx_is)
    (case e_RESULTS_1 => first | k_is | kx_is)
    (case e_RESULTS_2 => first | k_is | kx_is)
    (case e_RESULTS_3 => first | k_is | kx_is)
    (case e_RESULTS_4 => first | k_is | kx_is)
    (case e_RESULTS_5 => first | k_is | kx_is)
    (case e_RESULTS_6 => first | k_is | kx_is)
    (case e_RESULTS_7 => first | k_is | kx_is)
    (case e_RESULTS_8 => first | k_is | kx_is)
    (case e_RESULTS_9 => first | k_is | kx_is)
    (case e_RESULTS_10 => first | k_is | kx_is)
    (case e_RESULTS_11 => first | k_is | kx_is)
    (case e_RESULTS_12 => first | k_is | kx_is)
    (case e_RESULTS_13 => first | k_is | kx_is)
    (case e_RESULTS_14 => first | k_is | kx_is)
    (case e_RESULTS_15 => first | k_is | kx_is)
    (case e_RESULTS_16 => first | k_is | kx_is)
    (case e_RESULTS_17 => first | k_is | kx_is)
    (case a_UnknownFunction => first | k_is | kx_is)
    (case a_MissingError => first | k_is | kx_is)
    (case a_InvalidValue => first | k_is | kx_is)
    (case a_SessionError => first | k_is | kx_is)
    (case k1_UnknownFunction => first | k_is | kx_is)
    (case k2_UnknownFunction => first | k_is | kx_is)
    (case k3_UnknownFunction => first | k_is | kx_is)
    (case k4_UnknownFunction => first | k_is | kx_is)
    (case k5_UnknownFunction => first | k_is | kx_is)
    (case k6_UnknownFunction => first | k_is | kx_is)
    (case k7_UnknownFunction => first | k_is | kx_is)
    (case k8_UnknownFunction => first | k_is | kx_is)
    (case k9_UnknownFunction => first | k_is | kx_is)
    (case ka_UnknownFunction => first | k_is | kx_is)
    (case kb_UnknownFunction => first | k_is | kx_is)
    (case kc_UnknownFunction => first | k_is | kx_is)
    (case f_UnknownFunction_value => first | k_is | kx_is)
    (case g_UnknownFunction_value => first | k_is | kx_is)
    (case x1_UnknownFunction => first | k_is | kx_is)
    (case x2_UnknownFunction => first | k_is | kx_is)
    (case x3_UnknownFunction => first | k_is | kx_is)
    (case x4_UnknownFunction => first | k_is | kx_is)
    (case z_UnknownFunction => first | k_is | kx_is)
    (case k1_InvalidValue => first | k_is | kx_is)
    (case k2_InvalidValue => first | k_is | kx_is)
    (case k3_InvalidValue => first | k_is | kx_is)
    (case k4_InvalidValue => first | k_is | kx_is)
    (case k5_InvalidValue => first | k_is | kx_is)
    (case k6_InvalidValue => first | k_is | kx_is)
    (case k7_InvalidValue => first | k_is | kx_is)
    (case k8_InvalidValue => first | k_is | kx_is)
    (case k9_InvalidValue => first | k_is | kx_is)
    (case ka_InvalidValue => first | k_is | kx_is)
    (case kb_InvalidValue => first | k_is | kx_is)
    (case kc_InvalidValue => first | k_is | kx_is)
    (case f_InvalidValue_value => first | k_is | kx_is)
    (case g_InvalidValue_value => first | k_is | kx_is)
    (case x1_InvalidValue => first | k_is | kx_is)
    (case x2_InvalidValue => first | k_is | kx_is)
    (case x3_InvalidValue => first | k_is | kx_is)
    (case x4_InvalidValue => first | k_is | kx_is)
    (case z_InvalidValue => first | k_is | kx_is)
    (case x5_exc => first | k_is | kx_is)
    (case x6_exc => first | k_is | kx_is)
    (case b1_MissingError => first | k_is | kx_is)
    (case b2_MissingError => first | k_is | kx_is)
    (case b3_MissingError => first | k_is | kx_is)
    (case b1_SessionError => first | k_is | kx_is)
    (case b2_SessionError => first | k_is | kx_is)
    (case b3_SessionError => first | k_is | kx_is)
end
