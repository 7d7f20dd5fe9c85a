import PyProof.Rows.All
import Wide.All
import OpenK.AllK
import Wide.FinOn
import HandS.ForMost
import HandS.Exc
import HandS.ExcOwn
import HandS.TryOnly
import HandS.TryMany
import HandS.Lambda
import HandS.IsInst
import HandS.Flow
import HandS.Style
import HandS.TupAny
import HandS.Wide
import HandS.Codes
import HandS.Deep
import HandS.TupMul
import HandS.SortKw
import KE.DatumOrd
import KE.KIntText
import PyProof.Rows.StrOr
import HandS.Comp
import HandS.Iter
import KE.GoesEnum
import HandS.Walk
import HandS.ExcInit
import KE.KExcInit
import HandS.ExcIs
import HandS.ExcField
import KE.KExcLine
import KE.KTupSum
import KE.KRevSl
import HandS.SortInts
import HandS.More
import HandS.Star
import HandS.NoneIn
import PySem.Challenge.RW_leastsession_k12_texts_read
section
set_option Elab.async false
set_option linter.all false
set_option maxRecDepth 100000
set_option maxHeartbeats 4000000
namespace Ls
open PySem PySem.Spec PyProof.Rows L2

/-- there is room, and no repr runs around -/
structure RoomG (k : Nat) (A : Around) : Prop where
  rm : Room k A
  gd : A.guards = some []
theorem RoomG.mono {j k : Nat} {A : Around} (r : RoomG k A) (h : j ≤ k) : RoomG j A := ⟨r.rm.mono h, r.gd⟩

/-- the promise of a def, kept where no repr is under way -/
structure FnG (P : Program) (w : World) (K : PySem.W.Frag) (mg : Str → Option Value) (base : Heap) (k : Nat) (f : Addr) (fd : FuncData) (ps : List Str) (sp : Sp) : Prop where
  len : ∀ vs H Q E, sp vs H Q E → vs.length = ps.length
  run : ∀ (A : Around) (outer : List Env) (s : Shared) (H : Hp) (args : Args) (us : List Value) (vs : List V) (Q : VK) (E : XK), RoomG k A →
    Env0 P w K mg base A outer s H → BindsTo s fd args (ps.zip us) → Vals vs us → sp vs H Q E →
    codeAny (model P w) A (.call (.ref f) args) (CR (L2.CX P w) outer P w H s Q E) s

/-- what the top has written of one def: its name, its statement, its parameters -/
structure Df (K : PySem.W.Frag) (mg : Str → Option Value) (x : Str) (st : Stmt) (ps : List Str) : Prop where
  ex : ∃ (f : Addr) (fd : FuncData), Fun K x x st f fd ∧ mg x = some (.ref f) ∧ ∀ (us : List Value), us.length = ps.length → bindArgs fd ⟨us, []⟩ = pure (ps.zip us)
/-- a module's name that stands for a def with this promise -/
structure Cal (P : Program) (w : World) (K : PySem.W.Frag) (mg : Str → Option Value) (base : Heap) (k : Nat) (x : Str) (st : Stmt) (ps : List Str) (sp : Sp) : Prop where
  ex : ∃ (f : Addr) (fd : FuncData), FnG P w K mg base k f fd ps sp ∧ mg x = some (.ref f) ∧ Fun K x x st f fd ∧ ∀ (us : List Value), us.length = ps.length → bindArgs fd ⟨us, []⟩ = pure (ps.zip us)

section
variable {P : Program} {w : World} {K : PySem.W.Frag} {mg : Str → Option Value} {base : Heap} {x : Str} {st : Stmt} {ps : List Str}
theorem Cal.imp {k : Nat} {sp sp' : Sp} (c : Cal P w K mg base k x st ps sp) (h : ∀ vs H Q E, sp' vs H Q E → sp vs H Q E) : Cal P w K mg base k x st ps sp' := by
  obtain ⟨f, fd, F, a, b, d⟩ := c.ex
  exact ⟨f, fd, ⟨fun vs H Q E q => F.len vs H Q E (h _ _ _ _ q), fun A outer s H args us vs Q E hr he hb hv hs => F.run A outer s H args us vs Q E hr he hb hv (h _ _ _ _ hs)⟩, a, b, d⟩
theorem Df.make {f : Addr} {oc : Value} {od an : Option Addr} {osl : Array (Option Value)} {kV doc pm cdv ct : Value}
    (g : mg x = some (.ref f)) (l : K.lookup f = some ⟨oc, od, .func (PySem.W.fnOf x x (defArgs st) (defBody st) (defScope st) .none kV doc pm an cdv ct), osl⟩)
    (c : PySem.W.codeIn K cdv x = true) (k : PySem.W.keepIn K (.ref f) = true)
    (h : ∀ (kV doc pm : Value) (an : Option Addr) (cdv ct : Value) (us : List Value), us.length = ps.length → bindArgs (PySem.W.fnOf x x (defArgs st) (defBody st) (defScope st) .none kV doc pm an cdv ct) ⟨us, []⟩ = pure (ps.zip us)) : Df K mg x st ps :=
  ⟨f, _, fun_mk l c k, g, h kV doc pm an cdv ct⟩

/-- a def keeps its promise: its body as a term of rules, and the reading of that term -/
theorem Df.ok {N : List Str} {k : Nat} {sp : Sp} (D : Df K mg x st ps) (S : FnScope N ps (defScope st)) (len : ∀ vs H Q E, sp vs H Q E → vs.length = ps.length)
    (body : ∀ (f : Addr) (cdv : Value) (A : Around) (outer : List Env) (s : Shared) (H : Hp) (vs : List V) (Q : VK) (E : XK), RoomG k (A.deeper (envOfC x (defScope st) s.heap.objs.size f cdv)) → sp vs H Q E →
      ∃ t, PSs (cxOf (L2.CX P w) P w K mg base N x (defScope st) f cdv A outer s H E) (defBody st) t ∧ t { nx := fun _ H' => Q .non H', rt := Q } (start N vs) H) : Cal P w K mg base (k + 1) x st ps sp := by
  obtain ⟨f, fd, F, g, b⟩ := D.ex
  obtain ⟨oc, od, kV, doc, pm, an, cdv, ct, osl, rfl, lk, hcd⟩ := F.ex
  refine ⟨f, _, ⟨len, fun A outer s H args us vs Q E hr e0 hb r hsp => ?_⟩, g, F, b⟩
  exact LamX.run_ofS lk hcd S hr.rm e0 hb r (len _ _ _ _ hsp) fun hr' => body f cdv A outer s H vs Q E ⟨hr', hr.gd⟩ hsp
end

/-- a promise that is never asked for -/
theorem Df.never {P : Program} {w : World} {K : PySem.W.Frag} {mg : Str → Option Value} {base : Heap} {x : Str} {st : Stmt} {ps : List Str} {sp : Sp} (D : Df K mg x st ps) (h : ∀ vs H Q E, ¬ sp vs H Q E) : Cal P w K mg base 0 x st ps sp := by
  obtain ⟨f, fd, F, g, b⟩ := D.ex
  exact ⟨f, fd, ⟨fun vs H Q E q => absurd q (h vs H Q E), fun A outer s H args us vs Q E _ _ _ _ q => absurd q (h vs H Q E)⟩, g, F, b⟩
theorem Cal.up {P : Program} {w : World} {K : PySem.W.Frag} {mg : Str → Option Value} {base : Heap} {x : Str} {st : Stmt} {ps : List Str} {sp : Sp} {j k : Nat} (C : Cal P w K mg base j x st ps sp) (h : j ≤ k) : Cal P w K mg base k x st ps sp := by
  obtain ⟨f, fd, F, g, b⟩ := C.ex
  exact ⟨f, fd, ⟨F.len, fun A outer s H args us vs Q E hr => F.run A outer s H args us vs Q E (hr.mono h)⟩, g, b⟩
/-- x(e, ..): the values, then the promise; E: the wish about exceptions -/
def tCal (sp : Sp) (E : XK) (t : TA) : TE := fun σ H Q => t σ H fun vs H1 => sp vs H1 Q E
/-- keywords: perm brings the written order into the parameters' -/
def tCalK (sp : Sp) (E : XK) (perm : List V → List V) (t : TA) : TE := fun σ H Q => t σ H fun vs H1 => sp (perm vs) H1 Q E
section
variable {X : Cx} {k : Nat} {ps : List Str} {st : Stmt} {sp : Sp} {E : XK} {x : Str} {p pos : Pos} {e : Expr} {es : List Expr} {t : TA}
/-- the callee runs; args: how the values come (positions, keywords), us: in the parameters' order -/
theorem run_g {pins : List (Addr × Obj)} {σ : L2.St} {H : Hp} {s : Shared} {Q : VK} {args : Args} {us : List Value} {vs : List V} {f : Addr} {fd : FuncData}
    (F : FnG X.prog X.w X.K X.mg X.base k f fd ps sp) (hr : RoomG k X.A) (hb : BindsTo s fd args (ps.zip us)) (hx : Passes (L2.CX X.prog X.w) X E)
    (I : Inv X pins σ H s) (r : Vals vs us) (h : sp vs H Q E) : codeAny (model X.prog X.w) X.A (.call (.ref f) args) (fun r s' => match r with | .ok (.ret u) => EP X pins σ Q u s' | .ok _ => False | .error e => X.xe e s') s := by
  refine codeAny_mono (F.run X.A X.stack s H args us vs Q E hr I.env0 hb r h) fun z s' hq => ?_
  cases z with
  | error e => exact hx pins σ H s e s' I hq
  | ok fl =>
    cases fl with
    | ret u => exact I.after hq
    | next => exact False.elim hq
    | brk => exact False.elim hq
    | cont => exact False.elim hq
theorem call_g {pins : List (Addr × Obj)} {σ : L2.St} {s : Shared} {Q : VK} {f : Addr} {us : List Value} {kw : List (Str × Value)}
    (h : codeAny (model X.prog X.w) X.A (.call (.ref f) ⟨us, kw⟩) (fun r s' => match r with | .ok (.ret u) => EP X pins σ Q u s' | .ok _ => False | .error e => X.xe e s') s) : wpAny (model X.prog X.w) X.A (call (.ref f) us kw) (EP X pins σ Q) X.xe s := by
  refine wpAny_call (codeAny_mono h fun z s' hq => ?_)
  cases z with
  | error e => exact hq
  | ok fl => cases fl <;> first | exact hq | exact False.elim hq
/-- x(e, ..) -/
theorem pe_g (c : Cal X.prog X.w X.K X.mg X.base k x st ps sp) (hr : RoomG k X.A) (hx : Passes (L2.CX X.prog X.w) X E) (ha : PA X (e :: es) t) (hg : Gl X x := by rfl)
    (hdb : (x == ("__debug__" : Str)) = false := by decide) (he : starEach (e :: es) X.env = (false, eval e X.env) :: starEach es X.env := by rfl) (hpl : (backTo pos (starEach es X.env)).any (·.1) = false := by rfl) :
    PE X (.Call (.Name x p) (e :: es) [] pos) (tCal sp E t) := by
  obtain ⟨f, fd, F, hm, hk, hb⟩ := c.ex
  refine ⟨fun pins s σ H Q I h => ?_⟩
  refine wpAny_Call_Name_kw (ld_glob I hg hm ?_ hdb)
  refine PySem.W.callWith_K (h₀ := X.base) I.ok.mod.kin hk.kp (thn (ha.run pos pins s σ H _ I h) fun us s1 ⟨vs, H1, I1, r, q⟩ => ⟨I1.kIn, ?_⟩) he hpl
  have hl : us.length = ps.length := by rw [← r.length]; exact F.len _ _ _ _ q
  exact call_g (run_g F hr (.of_eq (hb us hl)) hx I1 r q)
/-- x() -/
theorem pe_g0 (c : Cal X.prog X.w X.K X.mg X.base k x st ps sp) (hr : RoomG k X.A) (hx : Passes (L2.CX X.prog X.w) X E) (hg : Gl X x := by rfl)
    (hdb : (x == ("__debug__" : Str)) = false := by decide) : PE X (.Call (.Name x p) [] [] pos) (tCal sp E tNil) := by
  obtain ⟨f, fd, F, hm, hk, hb⟩ := c.ex
  refine ⟨fun pins s σ H Q I h => ?_⟩
  refine wpAny_Call_Name_kw (ld_glob I hg hm ?_ hdb)
  have hl : ([] : List Value).length = ps.length := F.len _ _ _ _ h
  exact PySem.W.callWith_K0 I.kIn hk.kp (call_g (run_g (us := []) F hr (.of_eq (hb [] hl)) hx I .nil h))
/-- x(k = v, ..), keywords alone, in any order -/
theorem pe_gk {kws : List Keyword} {ks : List Str} {perm : List V → List V} {permV : List Value → List Value} (c : Cal X.prog X.w X.K X.mg X.base k x st ps sp) (hr : RoomG k X.A) (hx : Passes (L2.CX X.prog X.w) X E) (hkw : PK X kws t)
    (hks : (backToKw pos (keywordEach kws X.env)).filterMap (·.1) = ks)
    (hb : ∀ (kV doc pm : Value) (an : Option Addr) (cdv ct : Value) (us : List Value), us.length = ks.length → bindArgs (PySem.W.fnOf x x (defArgs st) (defBody st) (defScope st) .none kV doc pm an cdv ct) ⟨[], ks.zip us⟩ = pure (ps.zip (permV us)))
    (hp : ∀ vs us, Vals vs us → Vals (perm vs) (permV us)) (hn : ∀ (vs : List V) H Q, sp (perm vs) H Q E → vs.length = ks.length) (hg : Gl X x := by rfl) (hall : (backToKw pos (keywordEach kws X.env)).all (·.1.isSome) = true := by rfl)
    (hdb : (x == ("__debug__" : Str)) = false := by decide) (hpl : ((backTo pos (starEach [] X.env)).any (·.1) || (backToKw pos (keywordEach kws X.env)).any (·.1.isNone)) = false := by rfl) :
    PE X (.Call (.Name x p) [] kws pos) (tCalK sp E perm t) := by
  obtain ⟨f, fd, F, hm, hk, _⟩ := c.ex
  refine ⟨fun pins s σ H Q I h => ?_⟩
  refine wpAny_Call_Name_kw (ld_glob I hg hm ?_ hdb)
  refine PySem.W.callWith_KW0 (h₀ := X.base) I.ok.mod.kin hk.kp hall (thn (hkw.run pos pins s σ H _ I h) fun us s1 ⟨vs, H1, I1, r, q⟩ => ⟨I1.kIn, ?_⟩) hpl
  rw [hks]
  obtain ⟨oc, od, kV, doc, pm, an, cdv, ct, osl, rfl, _, _⟩ := hk.ex
  have hl : us.length = ks.length := by rw [← r.length]; exact hn vs H1 Q q
  exact call_g (run_g F hr (.of_eq (hb kV doc pm an cdv ct us hl)) hx I1 (hp vs us r) q)
/-- .. in the parameters' order -/
theorem pe_gi {kws : List Keyword} {ks : List Str} (c : Cal X.prog X.w X.K X.mg X.base k x st ps sp) (hr : RoomG k X.A) (hx : Passes (L2.CX X.prog X.w) X E) (hkw : PK X kws t)
    (hks : (backToKw pos (keywordEach kws X.env)).filterMap (·.1) = ks)
    (hb : ∀ (kV doc pm : Value) (an : Option Addr) (cdv ct : Value) (us : List Value), us.length = ks.length → bindArgs (PySem.W.fnOf x x (defArgs st) (defBody st) (defScope st) .none kV doc pm an cdv ct) ⟨[], ks.zip us⟩ = pure (ps.zip us))
    (hkl : ps.length = ks.length := by rfl) (hg : Gl X x := by rfl) (hall : (backToKw pos (keywordEach kws X.env)).all (·.1.isSome) = true := by rfl)
    (hdb : (x == ("__debug__" : Str)) = false := by decide) (hpl : ((backTo pos (starEach [] X.env)).any (·.1) || (backToKw pos (keywordEach kws X.env)).any (·.1.isNone)) = false := by rfl) :
    PE X (.Call (.Name x p) [] kws pos) (tCal sp E t) :=
  pe_gk (perm := fun l => l) (permV := fun l => l) c hr hx hkw hks hb (fun _ _ r => r) (fun vs H Q h => by obtain ⟨f, fd, F, _⟩ := c.ex; exact (F.len _ _ _ _ h).trans hkl) hg hall hdb hpl
/-- no exception -/
theorem px0 {X : Cx} : Passes (L2.CX X.prog X.w) X E0 := fun _ _ _ _ _ _ _ h => by
  obtain ⟨_, _, _, _, _, _, _, _, _, _, _, _, z⟩ := h
  exact z.elim
/-- what leaves the callee leaves the def, too -/
theorem pxE {W : WX} (tk : Takes X W) (h : ∀ cls d σ H, E cls d H → W cls d σ H) : Passes (L2.CX X.prog X.w) X E := passes_call tk h
end
end Ls
end

section
set_option Elab.async false
set_option linter.all false
set_option maxRecDepth 100000
set_option maxHeartbeats 4000000
namespace Ls
open PySem PySem.Spec PyProof.Rows L2
/-- the script's object -/
abbrev scrO (vs : List Value) : Obj := { cls := .type "list", data := .seq vs.toArray }
open Classical in
/-- the script alone is tracked, where it is no object of the module's own -/
noncomputable def scrH (K : PySem.W.Frag) (a : Addr) (vs : List Value) (ns : List Int) : Hp := fun b => if b = a ∧ K.lookup a = none then some (.frz (scrO vs) (.lst (ns.map V.int))) else none
section
variable {K : PySem.W.Frag} {a b : Addr} {vs : List Value} {ns : List Int} {u : HO}
theorem scrH_some (h : scrH K a vs ns b = some u) : b = a ∧ K.lookup a = none ∧ u = .frz (scrO vs) (.lst (ns.map V.int)) := by
  unfold scrH at h
  split at h
  · rename_i c; exact ⟨c.1, c.2, (Option.some.inj h).symm⟩
  · cases h
theorem scrH_at (h : K.lookup a = none) : scrH K a vs ns a = some (.frz (scrO vs) (.lst (ns.map V.int))) := if_pos ⟨rfl, h⟩
theorem scrH_only : Only (scrH K a vs ns) := fun b => by
  cases e : scrH K a vs ns b with
  | none => exact .inl rfl
  | some u => obtain ⟨_, _, rfl⟩ := scrH_some e; exact .inr ⟨_, _, rfl⟩
end
/-- nothing is tracked but what is locked -/
theorem law_g {P : Program} {w : World} {K : PySem.W.Frag} {mg mb : Str → Option Value} {k : Nat} {fa a : Addr} {x nm : Str} {st : Stmt} {sp : Sp} {s1 : Shared} {vs : List Value} {ns : List Int}
    (KX : K.In s1.heap) (hns : s1.heap.Ns mainGlobals mg) (hb : s1.heap.Ns builtinsNs mb) (hbb : ∀ x : Str, x ≠ "__name__" → mb x = bootBuiltins x) (hlim : s1.heap.NoLimit) (hdig : s1.heap.NoDigits) (hg : s1.gens = #[])
    (ha : s1.heap.get? a = some (scrO vs)) (hi : IntsAre vs ns) (hl : ns.length ≤ sizeLine) (hr : Room k callerA) (hfa : mg nm = some (.ref fa))
    (F : ∀ base : Heap, K.In base → base.Ns mainGlobals mg → (∃ mc, base.Ns builtinsNs mc ∧ ∀ x : Str, x ≠ "__name__" → mc x = bootBuiltins x) → base.objs.size ≤ s1.heap.objs.size → base.NoDigits → Cal P w K mg base k nm st [x] sp)
    (hsp : ∀ H : Hp, Only H → SqL K H a (ns.map V.int) → sp [.ref a] H (fun v _ => v = .bl true) fun _ _ _ => False) :
    codeAny (model P w) callerA (.call (.ref fa) ⟨[.ref a], []⟩) (fun r s' => r = .ok (.ret (.bool true)) ∧ OldK s1.heap s'.heap ∧ s'.os = s1.os ∧ AllBare s'.gens) s1 := by
  have rv := vals_ints hi
  let H := scrH K a vs ns
  have len : vs.length = ns.length := hi.length
  have seq : SqL K H a (ns.map V.int) := by
    cases e : K.lookup a with
    | none => exact .inl (.inr ⟨_, scrH_at e⟩)
    | some o =>
      have q := KX a o e
      rw [ha] at q
      cases q
      exact .inr ⟨_, vs.toArray, _, e, rfl, rfl, rfl, by rw [List.size_toArray, len]; exact hl, by simpa using rv⟩
  have hok : HOk P w H s1.heap := fun b u e => by
    obtain ⟨rfl, _, rfl⟩ := scrH_some e
    exact ⟨ha, by rw [List.length_map]; exact hl, vs, _, rv, ha⟩
  -- what is no list stands apart from the script
  have apart : ∀ {b : Addr} {o : Obj} {es : Array DictEntry} {n : Nat}, s1.heap.get? b = some o → o.data = .dict es n → (hidT s1.heap H).get? b = some o := fun {b o es n} e d => by
    refine hidT_get e ?_
    cases q : H b with
    | none => rfl
    | some u =>
      obtain ⟨rfl, _, _⟩ := scrH_some q
      rw [ha] at e
      cases e
      cases d
  have own : ∀ {b : Addr} {m : Str → Option Value}, s1.heap.Ns b m → (hidT s1.heap H).Ns b m := fun ⟨o, es, n, e, d, r⟩ => ⟨o, es, n, apart e d, d, r⟩
  have kin : K.In (hidT s1.heap H) := fun b o e => hidT_get (KX b o e) (by
    cases q : H b with
    | none => rfl
    | some u =>
      obtain ⟨rfl, n, _⟩ := scrH_some q
      rw [n] at e
      cases e)
  have bl : ∃ mc, (hidT s1.heap H).Ns builtinsNs mc ∧ ∀ x : Str, x ≠ "__name__" → mc x = bootBuiltins x := ⟨mb, own hb, hbb⟩
  have M : Mod K mg (hidT s1.heap H) := ⟨kin, own hns, bl, let ⟨mc, h1, h2⟩ := hlim; ⟨mc, own h1, h2⟩⟩
  have e0 : Env0 P w K mg (hidT s1.heap H) callerA [] s1 H := ⟨rfl, M, fun b o e => of_hidT e, Nat.le_of_eq (hidT_size _ _), trivial, fun b z => (nomatch z), hok, .of_eq hg⟩
  obtain ⟨f, fd, C, g, _, bnd⟩ := (F _ kin (own hns) bl (Nat.le_of_eq (hidT_size _ _)) (let ⟨mc, h1, h2⟩ := hdig; ⟨mc, own h1, h2⟩)).ex
  rw [hfa] at g
  cases g
  refine codeAny_mono (C.run callerA [] s1 H ⟨[.ref a], []⟩ [.ref a] [.ref a] _ _ ⟨hr, rfl⟩ e0 (.of_eq (bnd _ rfl)) (.cons rfl .nil) (hsp H scrH_only seq)) fun r s' q => ?_
  cases r with
  | error e =>
    obtain ⟨_, _, _, _, _, _, _, _, _, _, _, _, z⟩ := q
    exact z.elim
  | ok fl =>
    cases fl with
    | next => exact False.elim q
    | brk => exact False.elim q
    | cont => exact False.elim q
    | ret u =>
      obtain ⟨v, H', os, bare, un, hok', rv', rfl⟩ := q
      obtain rfl : u = Value.bool true := rv'
      refine ⟨rfl, OldK.of_keep fun b o e => ?_, os, bare⟩
      cases z : H b with
      | none => exact un.keep b o e z (fun z => nomatch z) (fun z => nomatch z)
      | some u =>
        obtain ⟨rfl, _, rfl⟩ := scrH_some z
        rw [ha] at e
        cases e
        exact (hok' b _ (un.frzs b _ _ z)).1
/-- the goal that k_head leaves (case hc), from the law's promise -/
theorem walk_g {l : PySem.W.OpenLaw} {n k : Nat} {q : Program} {loose : List Str} {XP : (Str → Option Value) → Heap → Prop} {YP : World → Heap → Prop} {d : DefRec} {K : Params → PySem.W.Frag} {sp : PySem.W.Frag → Sp} {x : Str} {st : Stmt}
    (hn : l.most = some n) (hn2 : n ≤ sizeLine) (hdf : d.params.defaults = []) (hr : Room k callerA)
    (hY : ∀ (w : World) (h : Heap), YP w h → (K w.params).In h)
    (F : ∀ (w : World) (mg : Str → Option Value) (fa : Addr) (h : Heap), (K w.params).In h → h.Ns mainGlobals mg → mg d.name = some (.ref fa) →
      ∀ base : Heap, (K w.params).In base → base.Ns mainGlobals mg → base.NoDigits → Cal l.prog w (K w.params) mg base k d.name st [x] (sp (K w.params)))
    (hsp : ∀ (K : PySem.W.Frag) (H : Hp) (a : Addr) (ns : List Int), ns.length ≤ n → Only H → SqL K H a (ns.map V.int) → sp K [.ref a] H (fun v _ => v = .bl true) fun _ _ _ => False) :
    PySem.W.WalkO q loose XP YP l.row.toRowW d [] (fun f vs => PySem.call f vs) := by
  refine Att.attach_call hn hdf fun w s0 s1 mg mb fa o pm cd doc a vs ns G Y ho hd hcd hmg hobj hints hlen hg => ?_
  exact law_g (hY w _ Y) G.T.g G.T.b G.T.builtins G.T.nolimit G.T.nodigits hg hobj hints (Nat.le_trans hlen hn2) hr hmg (fun base h1 h2 _ _ h5 => F w mg fa _ (hY w _ Y) G.T.g hmg base h1 h2 h5) fun H hO hS => hsp _ H a ns hlen hO hS
end Ls
end

section
set_option Elab.async false
set_option linter.all false
set_option maxRecDepth 100000
set_option maxHeartbeats 4000000
namespace Ls
open PySem PySem.Spec PyProof.Rows L2

/-- everything that was tracked stands -/
def Ex (H H' : Hp) : Prop := ∀ a o, H a = some o → H' a = some o
theorem Ex.refl (H : Hp) : Ex H H := fun _ _ h => h
theorem Ex.trans {H H1 H2 : Hp} (a : Ex H H1) (b : Ex H1 H2) : Ex H H2 := fun x o h => b x o (a x o h)
theorem Ex.new {H : Hp} {p : Addr} {o : HO} (h : H p = none) : Ex H (upd H p o) := fun a u e => by rw [upd_ne (ne_of_none e h)]; exact e
theorem Ex.back {H H' : Hp} {p : Addr} (e : Ex H H') (h : H' p = none) : H p = none := by
  cases q : H p with
  | none => rfl
  | some o => rw [e p o q] at h; cases h
theorem Ex.rd {H H' : Hp} {a : Addr} {u : HO} (e : Ex H H') (h : Rd H a u) : Rd H' a u := by
  rcases h with h | ⟨o, h⟩
  · exact .inl (e _ _ h)
  · exact .inr ⟨o, e _ _ h⟩
theorem Ex.sl {K : PySem.W.Frag} {H H' : Hp} {a : Addr} {xs : List V} (e : Ex H H') (h : SqL K H a xs) : SqL K H' a xs := h.imp e.rd id
theorem Ex.st {K : PySem.W.Frag} {H H' : Hp} {a : Addr} {xs : List V} (e : Ex H H') (h : SqT K H a xs) : SqT K H' a xs := h.imp e.rd id

def keyD : Key → PyData
  | .inl i => .int i
  | .inr x => .str x
mutual
/-- the value v bears the data d -/
inductive Dt (K : PySem.W.Frag) (H : Hp) : V → PyData → Prop
  | non : Dt K H .non .none
  | bl (b : Bool) : Dt K H (.bl b) (.bool b)
  | int (i : Int) : Dt K H (.int i) (.int i)
  | str (x : Str) : Dt K H (.str x) (.str x)
  | lst {a : Addr} {xs : List V} {ds : List PyData} : SqL K H a xs → DtAll K H xs ds → Dt K H (.ref a) (.list ds)
  | tup {a : Addr} {xs : List V} {ds : List PyData} : SqT K H a xs → DtAll K H xs ds → Dt K H (.ref a) (.tuple ds)
  | dct {a : Addr} {kvs : List (Key × V)} {ds : List PyData} : Rd H a (.dK kvs) → DtAll K H (kvs.map (·.2)) ds → Dt K H (.ref a) (.dict ((kvs.map fun p => keyD p.1).zip ds))
inductive DtAll (K : PySem.W.Frag) (H : Hp) : List V → List PyData → Prop
  | nil : DtAll K H [] []
  | cons {v : V} {vs : List V} {d : PyData} {ds : List PyData} : Dt K H v d → DtAll K H vs ds → DtAll K H (v :: vs) (d :: ds)
end
section
variable {K : PySem.W.Frag} {H H' : Hp}
mutual
theorem Dt.mono (e : Ex H H') : ∀ {v : V} {d : PyData}, Dt K H v d → Dt K H' v d
  | _, _, .non => .non
  | _, _, .bl b => .bl b
  | _, _, .int i => .int i
  | _, _, .str x => .str x
  | _, _, .lst h a => .lst (e.sl h) (a.mono e)
  | _, _, .tup h a => .tup (e.st h) (a.mono e)
  | _, _, .dct h a => .dct (e.rd h) (a.mono e)
theorem DtAll.mono (e : Ex H H') : ∀ {v : List V} {d : List PyData}, DtAll K H v d → DtAll K H' v d
  | _, _, .nil => .nil
  | _, _, .cons a b => .cons (a.mono e) (b.mono e)
end
theorem DtAll.length : ∀ {vs : List V} {ds : List PyData}, DtAll K H vs ds → vs.length = ds.length
  | _, _, .nil => rfl
  | _, _, .cons _ b => congrArg Nat.succ b.length
theorem DtAll.get : ∀ {vs : List V} {ds : List PyData} {i : Nat} {v : V}, DtAll K H vs ds → vs[i]? = some v → ∃ d, ds[i]? = some d ∧ Dt K H v d
  | _, _, _, _, .nil, e => by simp at e
  | _, _, 0, v, .cons a _, e => by
    have z : _ = v := Option.some.inj e
    exact ⟨_, rfl, z ▸ a⟩
  | _, _, i + 1, v, .cons _ b, e => b.get (i := i) (by simpa using e)
theorem DtAll.getD : ∀ {vs : List V} {ds : List PyData} {i : Nat} {d : PyData}, DtAll K H vs ds → ds[i]? = some d → ∃ v, vs[i]? = some v ∧ Dt K H v d
  | _, _, _, _, .nil, e => by simp at e
  | _, _, 0, d, .cons a _, e => by
    have z : _ = d := Option.some.inj e
    exact ⟨_, rfl, z ▸ a⟩
  | _, _, i + 1, d, .cons _ b, e => b.getD (i := i) (by simpa using e)
theorem DtAll.append : ∀ {vs ws : List V} {ds es : List PyData}, DtAll K H vs ds → DtAll K H ws es → DtAll K H (vs ++ ws) (ds ++ es)
  | _, _, _, _, .nil, b => b
  | _, _, _, _, .cons x a, b => .cons x (a.append b)
theorem DtAll.take : ∀ {vs : List V} {ds : List PyData} (n : Nat), DtAll K H vs ds → DtAll K H (vs.take n) (ds.take n)
  | _, _, 0, _ => .nil
  | _, _, _ + 1, .nil => .nil
  | _, _, n + 1, .cons x a => .cons x (a.take n)
theorem DtAll.drop : ∀ {vs : List V} {ds : List PyData} (n : Nat), DtAll K H vs ds → DtAll K H (vs.drop n) (ds.drop n)
  | _, _, 0, r => r
  | _, _, _ + 1, .nil => .nil
  | _, _, n + 1, .cons _ a => a.drop n
theorem DtAll.ints : ∀ ns : List Int, DtAll K H (ns.map V.int) (ns.map PyData.int)
  | [] => .nil
  | n :: ns => .cons (.int n) (DtAll.ints ns)
end

section
variable {X : Cx} {pins : List (Addr × Obj)} {σ : L2.St} {H : Hp} {s : Shared}
theorem keys_read {prog : Program} {w : World} {h : Heap} : ∀ {kvs : List (Key × V)} {vs : List (Key × Value)} {es : List DictEntry}, KV kvs vs → Pairs (mixKind prog w) es vs →
    ReadsAll h (es.map (·.key)) (kvs.map fun p => keyD p.1) [] ∧ Vals (kvs.map (·.2)) (es.map (·.val))
  | _, _, _, .nil, .nil => ⟨.nil, .nil⟩
  | (k, v) :: kvs, (k', u) :: vs, e :: es, .cons a b, .cons c d f => by
    obtain ⟨h1, h2⟩ := keys_read (h := h) b f
    have a1 : k = k' := a.1
    have a2 : RelV v u := a.2
    subst a1
    have d' : e.val = u := d
    refine ⟨?_, .cons (show RelV v e.val by rw [d']; exact a2) h2⟩
    rcases keyIs_shape c with ⟨i, t, e1, e2⟩ | ⟨x, t, e1, e2⟩
    · have e1' : k = Sum.inl i := e1
      subst e1'
      show ReadsAll h (e.key :: es.map (·.key)) (.int i :: _) ([] ++ [])
      rw [e2]
      exact .cons (.int i t) h1
    · have e1' : k = Sum.inr x := e1
      subst e1'
      show ReadsAll h (e.key :: es.map (·.key)) (.str x :: _) ([] ++ [])
      rw [e2]
      exact .cons (.str x t) h1
theorem zip_fst : ∀ {α β : Type} {l : List α} {m : List β}, l.length = m.length → (l.zip m).map (·.1) = l
  | _, _, [], [], _ => rfl
  | _, _, a :: l, b :: m, h => by
    show a :: (l.zip m).map (·.1) = a :: l
    rw [zip_fst (Nat.succ.inj h)]
theorem zip_snd : ∀ {α β : Type} {l : List α} {m : List β}, l.length = m.length → (l.zip m).map (·.2) = m
  | _, _, [], [], _ => rfl
  | _, _, a :: l, b :: m, h => by
    show b :: (l.zip m).map (·.2) = b :: m
    rw [zip_snd (Nat.succ.inj h)]
mutual
/-- what is read off the heap: no dict of it is the interpreter's own -/
inductive RdS (h : Heap) : Value → PyData → Prop
  | none : RdS h .none .none
  | bool (b : Bool) : RdS h (.bool b) (.bool b)
  | int (i : Int) (t : Tok) : RdS h (.int i t) (.int i)
  | str (x : Str) (t : Tok) : RdS h (.str x t) (.str x)
  | list {a : Addr} {o : Obj} {vs : Array Value} {n : Nat} {xs : List PyData} : h.get? a = some o → o.cls = .type "list" → o.data = .seq vs n → RdSL h vs.toList xs → RdS h (.ref a) (.list xs)
  | tuple {a : Addr} {o : Obj} {vs : Array Value} {n : Nat} {xs : List PyData} : h.get? a = some o → o.cls = .type "tuple" → o.data = .seq vs n → RdSL h vs.toList xs → RdS h (.ref a) (.tuple xs)
  | dict {a : Addr} {o : Obj} {es : Array DictEntry} {n : Nat} {kvs : List (PyData × PyData)} : h.get? a = some o → o.cls = .type "dict" → o.data = .dict es n → (a == sysModules) = false → RdSL h (es.toList.map (·.key)) (kvs.map (·.1)) → RdSL h (es.toList.map (·.val)) (kvs.map (·.2)) → RdS h (.ref a) (.dict kvs)
inductive RdSL (h : Heap) : List Value → List PyData → Prop
  | nil : RdSL h [] []
  | cons {v : Value} {d : PyData} {vs : List Value} {ds : List PyData} : RdS h v d → RdSL h vs ds → RdSL h (v :: vs) (d :: ds)
end
mutual
theorem RdS.reads {h : Heap} : ∀ {v : Value} {d : PyData}, RdS h v d → ∃ as, Reads h v d as
  | _, _, .none => ⟨_, .none⟩
  | _, _, .bool b => ⟨_, .bool b⟩
  | _, _, .int i t => ⟨_, .int i t⟩
  | _, _, .str x t => ⟨_, .str x t⟩
  | _, _, .list a b c d => let ⟨_, q⟩ := d.reads; ⟨_, .list a b c q⟩
  | _, _, .tuple a b c d => let ⟨_, q⟩ := d.reads; ⟨_, .tuple a b c q⟩
  | _, _, .dict a b c _ d e => let ⟨_, q⟩ := d.reads; let ⟨_, r⟩ := e.reads; ⟨_, .dict a b c q r⟩
theorem RdSL.reads {h : Heap} : ∀ {vs : List Value} {ds : List PyData}, RdSL h vs ds → ∃ as, ReadsAll h vs ds as
  | _, _, .nil => ⟨_, .nil⟩
  | _, _, .cons a b => let ⟨_, q⟩ := a.reads; let ⟨_, r⟩ := b.reads; ⟨_, .cons q r⟩
end
mutual
/-- what is read, and has no dict -/
theorem RdS.of {h : Heap} : ∀ {v : Value} {d : PyData} {as : List Addr}, Reads h v d as → d.hasDict = false → RdS h v d
  | _, _, _, .none, _ => .none
  | _, _, _, .bool b, _ => .bool b
  | _, _, _, .int i t, _ => .int i t
  | _, _, _, .str x t, _ => .str x t
  | _, _, _, .list a b c d, n => .list a b c (RdSL.of d (by rw [PyData.hasDict] at n; exact n))
  | _, _, _, .tuple a b c d, n => .tuple a b c (RdSL.of d (by rw [PyData.hasDict] at n; exact n))
  | _, _, _, .dict _ _ _ _ _, n => by rw [PyData.hasDict] at n; cases n
theorem RdSL.of {h : Heap} : ∀ {vs : List Value} {ds : List PyData} {as : List Addr}, ReadsAll h vs ds as → PyData.hasDictAll ds = false → RdSL h vs ds
  | _, _, _, .nil, _ => .nil
  | _, _, _, .cons a b, n => by
    rw [PyData.hasDictAll, Bool.or_eq_false_iff] at n
    exact .cons (RdS.of a n.1) (RdSL.of b n.2)
end
theorem rdSL_keys {h : Heap} {ds' : List Addr} : ∀ {kvs : List (Key × V)} {vs : List Value} {ds : List PyData}, ReadsAll h vs (kvs.map fun p => keyD p.1) ds' → RdSL h vs (kvs.map fun p => keyD p.1) := fun r => RdSL.of r (by
  have key : ∀ l : List (Key × V), PyData.hasDictAll (l.map fun p => keyD p.1) = false := by
    intro l
    induction l with
    | nil => rfl
    | cons p l ih =>
      rw [List.map_cons, PyData.hasDictAll, ih, Bool.or_false]
      cases p.1 <;> rfl
  exact key _)
mutual
theorem Dt.reads (I : Inv X pins σ H s) : ∀ {v : V} {d : PyData} {u : Value}, Dt X.K H v d → RelV v u → RdS s.heap u d
  | _, _, _, .non, r => by cases r; exact .none
  | _, _, _, .bl b, r => by cases r; exact .bool b
  | _, _, _, .int i, r => by obtain ⟨t, rfl⟩ := r; exact .int i t
  | _, _, _, .str x, r => by obtain ⟨t, rfl⟩ := r; exact .str x t
  | _, _, _, .lst h a, r => by
    cases r
    obtain ⟨its, rv, ⟨o, m, ho, hc, _, hd⟩, _⟩ := I.list h
    exact .list ho hc hd (a.reads I rv)
  | _, _, _, .tup h a, r => by
    cases r
    obtain ⟨its, rv, ⟨o, ho, hc, n, hd⟩, _⟩ := I.tuple h
    exact .tuple ho hc hd (a.reads I rv)
  | _, _, _, .dct (kvs := kvs) (ds := ds) h a, r => by
    cases r
    obtain ⟨_, hs, vs, rel, o, es, ep, ho, hx, hd, _, hp, _⟩ := dk_rd I.hok h
    obtain ⟨h1, h2⟩ := keys_read (h := s.heap) rel hp
    have q := a.reads I h2
    have l1 : (kvs.map fun p => keyD p.1).length = ds.length := by
      rw [List.length_map]
      have := a.length
      rw [List.length_map] at this
      exact this
    exact .dict ho hx.1 hd hs (by rw [zip_fst l1]; exact rdSL_keys (ds := ds) h1) (by rw [zip_snd l1]; exact q)
theorem DtAll.reads (I : Inv X pins σ H s) : ∀ {vs : List V} {ds : List PyData} {us : List Value}, DtAll X.K H vs ds → Vals vs us → RdSL s.heap us ds
  | _, _, _, .nil, r => by cases r; exact .nil
  | _, _, _, .cons a b, r => by
    cases r with
    | cons r1 r2 => exact .cons (a.reads I r1) (b.reads I r2)
end
/-- [e, ..]: the new list lies behind what the interpreter itself made -/
def tLstN (t : TA) : TE := fun σ H Q => t σ H fun xs H1 => xs.length ≤ sizeLine ∧ ∀ p, H1 p = none → p ≠ 1 → Q (.ref p) (upd H1 p (.lst xs))
theorem pe_lstN {es : List Expr} {t : TA} {pos : Pos} (h : PA X es t) : PE X (.List es pos) (tLstN t) := by
  refine ⟨fun pins s σ H Q I hq => ?_⟩
  refine wpAny_List_spliced (thn (h.run pos pins s σ H _ I hq) fun us s1 ⟨xs, H1, I1, r, z, q⟩ => ⟨by rw [← r.length]; exact z, ?_⟩)
  have big := I1.big
  refine ⟨.ref s1.heap.objs.size, upd H1 s1.heap.objs.size (.lst xs), I1.laid (t' := s1.toks) (fun b u e => Heap.get?_push_of_some _ e) (Nat.le_refl _) ⟨z, us, 0, r, Heap.get?_push_size _ rfl⟩, rfl, q _ (I1.hok.fresh (Nat.le_refl _)) (Nat.ne_of_gt big)⟩
end
end Ls
end

section
set_option Elab.async false
set_option linter.all false
set_option maxRecDepth 100000
set_option maxHeartbeats 4000000
namespace Ls
open PySem PySem.Spec PyProof.Rows L2
def rMulS : R2 := fun x y H Q => ∃ (c : Nat) (n : Nat), x = .str ⟨#[c]⟩ ∧ y = .int (n : Nat) ∧ n ≤ 100000 ∧ Q (.str ⟨(List.replicate n c).toArray⟩) H
theorem rep_one (c : Nat) : ∀ (n : Nat) (a : Array Nat), (List.replicate n #[c]).foldl (· ++ ·) a = a ++ (List.replicate n c).toArray
  | 0, a => by simp
  | n + 1, a => by
    rw [List.replicate_succ, List.foldl_cons, rep_one c n, List.replicate_succ]
    apply Array.toList_inj.mp
    simp
theorem op_mulS {X : Cx} : OpR X (binaryOp .Mult) rMulS := by
  intro pins s σ H x y v u Q I rx ry h
  obtain ⟨c, n, rfl, rfl, hn, q⟩ := h
  obtain ⟨t, rfl⟩ := rx
  obtain ⟨t', rfl⟩ := ry
  refine PySem.P.mul_str ?_ ?_ ?_ ?_
  · rw [decide_eq_false (by omega), decide_eq_false (by omega)]
    rfl
  · intro h1 _
    have : (1 : Int) ≤ (2 ^ 63 - 1) / (n : Int) := (Int.le_ediv_iff_mul_le (by omega)).mpr (by omega)
    show ¬ ((1 : Int) > _)
    omega
  · intro _ _
    show Builtin.Str.tooLong (1 * (n : Int).toNat) = false
    rw [Nat.one_mul, Int.toNat_natCast]
    unfold Builtin.Str.tooLong
    exact decide_eq_false (Nat.not_lt.mpr (Nat.le_trans hn (by decide)))
  · by_cases h0 : (n : Int) < 1
    · rw [if_pos h0]
      have : n = 0 := by omega
      subst this
      exact ⟨by decide, .str ⟨#[]⟩, H, I.tok _, ⟨_, rfl⟩, q⟩
    · rw [if_neg h0]
      by_cases h1 : n = 1
      · subst h1
        exact ⟨.str ⟨#[c]⟩, H, I, ⟨_, rfl⟩, q⟩
      · rw [if_neg (by
          have e1 : ((n : Int) == 1) = false := by simpa using fun z : (n : Int) = 1 => h1 (by omega)
          rw [e1]
          show ¬ (false = true)
          exact Bool.false_ne_true)]
        rw [Int.toNat_natCast, rep_one]
        refine ⟨?_, .str ⟨(List.replicate n c).toArray⟩, H, I.tok _, ⟨s.toks, by rw [show (#[] : Array Nat) ++ (List.replicate n c).toArray = (List.replicate n c).toArray from by simp]⟩, q⟩
        simp [Str.length]
        exact Nat.le_trans hn (by decide)
end Ls
end

section
set_option Elab.async false
set_option linter.all false
set_option maxRecDepth 100000
set_option maxHeartbeats 4000000
namespace Ls
open PySem PySem.Spec PyProof.Rows L2

/-- all but p stands -/
def Em (p : Addr) (H H' : Hp) : Prop := ∀ a o, a ≠ p → H a = some o → H' a = some o
theorem Em.refl (p : Addr) (H : Hp) : Em p H H := fun _ _ _ h => h
theorem Em.trans {p : Addr} {H H1 H2 : Hp} (a : Em p H H1) (b : Em p H1 H2) : Em p H H2 := fun x o n h => b x o n (a x o n h)
theorem Ex.em {H H' : Hp} (p : Addr) (e : Ex H H') : Em p H H' := fun a o _ h => e a o h
theorem Em.put {p : Addr} {H : Hp} {o : HO} : Em p H (upd H p o) := fun a u n h => by rw [upd_ne n]; exact h
/-- without p -/
def mi (H : Hp) (p : Addr) : Hp := fun a => if a = p then none else H a
theorem mi_ne {H : Hp} {p a : Addr} (n : a ≠ p) : mi H p a = H a := if_neg n
theorem mi_ex (H : Hp) (p : Addr) : Ex (mi H p) H := fun a o h => by
  by_cases e : a = p
  · have z : mi H p a = none := if_pos e
    rw [z] at h
    cases h
  · rw [mi_ne e] at h
    exact h
theorem Em.mi {p : Addr} {H H' : Hp} (e : Em p H H') : Ex (mi H p) (mi H' p) := fun a o h => by
  by_cases n : a = p
  · have z : Ls.mi H p a = none := if_pos n
    rw [z] at h
    cases h
  · rw [mi_ne n] at h ⊢
    exact e a o n h
theorem Ex.mi {H H' : Hp} (p : Addr) (e : Ex H H') : Ex (mi H p) (mi H' p) := (e.em p).mi
theorem mi_none {H : Hp} {p a : Addr} (h : H a = none) : mi H p a = none := by
  by_cases e : a = p
  · exact if_pos e
  · rw [mi_ne e]
    exact h

def rAddU (K : PySem.W.Frag) : R2 := fun x y H Q => rI0 (fun i j => .int (i + j)) x y H Q ∨ (∃ i j, x = .str i ∧ y = .str j ∧ i.length + j.length ≤ sizeLine ∧ Q (.str (i ++ j)) H) ∨ rCatA K x y H Q ∨ rCat x y H Q
def rMulU (K : PySem.W.Frag) : R2 := fun x y H Q => rI CMul (fun i j => .int (i * j)) x y H Q ∨ rRep x y H Q ∨ rRepT K x y H Q ∨ rMulS x y H Q ∨ rI CMulW (fun i j => .int (i * j)) x y H Q
/-- a list beside an empty one -/
def rEqE (K : PySem.W.Frag) : R2 := fun x y H Q => ∃ a b xs, x = .ref a ∧ y = .ref b ∧ SqL K H a xs ∧ SqL K H b [] ∧ Q (.bl (decide (xs = []))) H
def rNeE (K : PySem.W.Frag) : R2 := fun x y H Q => ∃ a b xs, x = .ref a ∧ y = .ref b ∧ SqL K H a xs ∧ SqL K H b [] ∧ Q (.bl (!decide (xs = []))) H
theorem op_eqE {X : Cx} (hu : X.A.units < cLine) : OpR X (compareOp .Eq) (rEqE X.K) := by
  intro pins s σ H x y v u Q I rx ry h
  obtain ⟨a, b, xs, rfl, rfl, ha, hb, q⟩ := h
  cases rx
  cases ry
  obtain ⟨its, r1, p1, _⟩ := I.list ha
  obtain ⟨its2, r2, p2, _⟩ := I.list hb
  cases r2
  have hl := r1.length
  by_cases c : xs = []
  · subst c
    cases r1
    rw [decide_eq_true rfl] at q
    exact SeqAt.eq_listAt p1.isList p2.isList rfl hu (e := fun _ => true) (fun j h1 _ => absurd h1 (Nat.not_lt_zero j)) ⟨.bl true, H, I, rfl, q⟩
  · rw [decide_eq_false c] at q
    refine SeqAt.eq_list_lengthsAt p1.isList p2.isList ?_ hu ⟨.bl false, H, I, rfl, q⟩
    have : its ≠ [] := fun z => c (by subst z; exact List.eq_nil_of_length_eq_zero hl)
    simpa using this
theorem op_neE {X : Cx} (hu : X.A.units < cLine) : OpR X (compareOp .NotEq) (rNeE X.K) := by
  intro pins s σ H x y v u Q I rx ry h
  obtain ⟨a, b, xs, rfl, rfl, ha, hb, q⟩ := h
  cases rx
  cases ry
  obtain ⟨its, r1, p1, _⟩ := I.list ha
  obtain ⟨its2, r2, p2, _⟩ := I.list hb
  cases r2
  have hl := r1.length
  by_cases c : xs = []
  · subst c
    cases r1
    rw [decide_eq_true rfl] at q
    exact SeqAt.RcNeAt.lists p1.isList p2.isList rfl hu (e := fun _ => true) (fun j h1 _ => absurd h1 (Nat.not_lt_zero j)) X.prog X.w _ _ ⟨.bl false, H, I, rfl, q⟩
  · rw [decide_eq_false c] at q
    refine SeqAt.RcNeAt.lists_lengths p1.isList p2.isList ?_ hu X.prog X.w _ _ ⟨.bl true, H, I, rfl, q⟩
    have : its ≠ [] := fun z => c (by subst z; exact List.eq_nil_of_length_eq_zero hl)
    simpa using this
/-- any two data -/
def rEqU (K : PySem.W.Frag) : R2 := fun x y H Q => rEq x y H Q ∨ rEqD K x y H Q ∨ rEqE K x y H Q
def rNeU (K : PySem.W.Frag) : R2 := fun x y H Q => rNe x y H Q ∨ rNeD K x y H Q ∨ rNeE K x y H Q
def rLt : R2 := rI0 fun i j => .bl (decide (i < j))
def rLe : R2 := rI0 fun i j => .bl (decide (i ≤ j))
def rGtU : R2 := rI0 fun i j => .bl (decide (j < i))
def rGeU : R2 := rI0 fun i j => .bl (decide (j ≤ i))
def rSubI : R2 := rI0 fun i j => .int (i - j)
/-- any divisor but 0, of less than 9,000 bits -/
def CDivF (_ j : Int) : Prop := j ≠ 0 ∧ j.natAbs.log2 < 9000
def rFdiv : R2 := fun x y H Q => rI CDiv (fun i j => .int (i / j)) x y H Q ∨ rI CDivF (fun i j => .int (i.fdiv j)) x y H Q
def rMod : R2 := rI (fun _ j => 0 < j) fun i j => .int (i % j)
def rPow : R2 := rI CPow fun i j => .int (i ^ j.toNat)
def rInS : R2 := fun x y H Q => ∃ (c : Nat) (z : Str), x = .str ⟨#[c]⟩ ∧ y = .str z ∧ Q (.bl (decide (c ∈ z.cps.toList))) H
def rInU (K : PySem.W.Frag) : R2 := fun x y H Q => rIn K false x y H Q ∨ rInS x y H Q ∨ rInD K x y H Q
def rNotInS : R2 := fun x y H Q => ∃ (c : Nat) (z : Str), x = .str ⟨#[c]⟩ ∧ y = .str z ∧ Q (.bl (!decide (c ∈ z.cps.toList))) H
def rNotInU (K : PySem.W.Frag) : R2 := fun x y H Q => rIn K true x y H Q ∨ rNotInS x y H Q
def rIsNo : R2 := fun x y H Q => y = .non ∧ Q (.bl (decide (x = .non))) H
def rIsntNo : R2 := fun x y H Q => y = .non ∧ Q (.bl (!decide (x = .non))) H
section
variable {X : Cx}
theorem op_addU : OpR X (binaryOp .Add) (rAddU X.K) := op_add.or (op_add_str.or (op_catA.or op_cat))
theorem op_mulU : OpR X (binaryOp .Mult) (rMulU X.K) := op_mul.or (op_rep.or (op_repT.or (op_mulS.or op_mulW)))
theorem op_eqU {k : Nat} (hr : RoomG k X.A) : OpR X (compareOp .Eq) (rEqU X.K) := op_eq.or ((op_eqD hr.rm.units).or (op_eqE (by have := hr.rm.units; omega)))
theorem op_neU {k : Nat} (hr : RoomG k X.A) : OpR X (compareOp .NotEq) (rNeU X.K) := op_ne.or ((op_neD hr.rm.units).or (op_neE (by have := hr.rm.units; omega)))
theorem op_ltU : OpR X (compareOp .Lt) rLt := op_lt
theorem op_leU : OpR X (compareOp .LtE) rLe := op_le
theorem op_gtU : OpR X (compareOp .Gt) rGtU := op_gt
theorem op_geU : OpR X (compareOp .GtE) rGeU := op_ge
theorem op_subU : OpR X (binaryOp .Sub) rSubI := op_sub
theorem op_fdivF : OpR X (binaryOp .FloorDiv) (rI CDivF fun i j => .int (i.fdiv j)) := opI fun i j _ _ _ _ _ hc q => floordiv_int hc.1 q (.inl (PyProof.noPylong_of_log2 hc.2))
theorem op_fdivU : OpR X (binaryOp .FloorDiv) rFdiv := op_fdiv.or op_fdivF
theorem op_modU : OpR X (binaryOp .Mod) rMod := op_mod
theorem op_powU : OpR X (binaryOp .Pow) rPow := op_pow
theorem op_inU {k : Nat} (hr : RoomG k X.A) : OpR X (compareOp .In) (rInU X.K) := op_in_seq.or (op_in_sign.or (op_inD (by have := hr.rm.un; omega)))
theorem op_notInU : OpR X (compareOp .NotIn) (rNotInU X.K) := op_notIn_seq.or op_notIn_sign
theorem op_isU : OpR X (compareOp .Is) rIsNo := op_isN
theorem op_isntU : OpR X (compareOp .IsNot) rIsntNo := op_notN
end
def rNeg : V → Hp → VK → Prop := rU fun i => .int (-i)
theorem un_negU {X : Cx} : UnR X (unaryOp .USub) rNeg := un_neg

def rAbs : List V → Hp → VK → Prop := fun xs H Q => ∃ i, xs = [.int i] ∧ Q (.int (if i < 0 then -i else i)) H
/-- max, min: of two ints, or of a list of ints -/
def rMaxU (K : PySem.W.Frag) : List V → Hp → VK → Prop := fun xs H Q => (∃ i j, xs = [.int i, .int j] ∧ Q (.int (if j > i then j else i)) H) ∨ rMax K xs H Q
def rMinU (K : PySem.W.Frag) : List V → Hp → VK → Prop := fun xs H Q => (∃ i j, xs = [.int i, .int j] ∧ Q (.int (if j < i then j else i)) H) ∨ rMin K xs H Q
def rLen (K : PySem.W.Frag) : List V → Hp → VK → Prop := fun xs H Q => ∃ x n, xs = [x] ∧ LenV K x H n ∧ Q (.int n) H
def rDivmod : List V → Hp → VK → Prop := fun xs H Q => ∃ i j, xs = [.int i, .int j] ∧ CDiv i j ∧ ∀ p, H p = none → Q (.ref p) (upd H p (.tup [.int (i / j), .int (i % j)]))
def rTupOf (K : PySem.W.Frag) : List V → Hp → VK → Prop := fun xs H Q => ∃ p ys, xs = [.ref p] ∧ ((SqL K H p ys ∧ ∀ l, H l = none → Q (.ref l) (upd H l (.tup ys))) ∨ (SqT K H p ys ∧ Q (.ref p) H))
def rLstOf (K : PySem.W.Frag) : List V → Hp → VK → Prop := fun xs H Q => ∃ p ys, xs = [.ref p] ∧ (SqL K H p ys ∨ SqT K H p ys) ∧ ∀ l, H l = none → Q (.ref l) (upd H l (.lst ys))
def rIsiU (K : PySem.W.Frag) : List V → Hp → VK → Prop := fun xs H Q => rIsi K xs H Q ∨ rIsiT K xs H Q
/-- max(xs, default=d) over a list of ints -/
def rMaxD (K : PySem.W.Frag) : List V → List V → Hp → VK → Prop := fun xs zs H Q => ∃ (a : Addr) (ns : List Int) (d : V), xs = [.ref a] ∧ zs = [d] ∧ SqL K H a (ns.map V.int) ∧ (ns = [] → Q d H) ∧ ∀ y ys, ns = y :: ys → ∀ m, m ∈ ns → (∀ z, z ∈ ns → z ≤ m) → Q (.int m) H
section
variable {X : Cx}
theorem CallR.or {f : Value} {r r' : List V → Hp → VK → Prop} (h : CallR X f r) (h' : CallR X f r') : CallR X f (fun xs H Q => r xs H Q ∨ r' xs H Q) := by
  intro pins s σ H vs us Q I rv q
  rcases q with q | q
  · exact h pins s σ H vs us Q I rv q
  · exact h' pins s σ H vs us Q I rv q
theorem call_absU : CallR X (.builtin "abs") rAbs := call_abs
theorem call_maxU (hc : X.calm = true) : CallR X (.builtin "max") (rMaxU X.K) := CallR.or (call_max2 hc) (cr_max hc)
theorem call_minU (hc : X.calm = true) : CallR X (.builtin "min") (rMinU X.K) := CallR.or (call_min2 hc) (cr_min hc)
theorem call_lenU : CallR X (.builtin "len") (rLen X.K) := call_len
theorem call_divmodU : CallR X (.builtin "divmod") rDivmod := call_divmod
theorem call_tupleU : CallR X (.type "tuple") (rTupOf X.K) := call_tuple_of
theorem call_listU : CallR X (.type "list") (rLstOf X.K) := call_list_of
theorem call_isiU : CallR X (.builtin "isinstance") (rIsiU X.K) := CallR.or call_isi call_isiT
theorem max_of (ns : List Int) (y : Int) (ys : List Int) (e : ns = y :: ys) : PySem.W.maxOf y ys ∈ ns ∧ ∀ z, z ∈ ns → z ≤ PySem.W.maxOf y ys := by
  subst e
  have key : ∀ (l : List Int) (a : Int), (List.foldl (fun a y => if PySem.W.DatumOrd.lt a y = true then y else a) a l ∈ a :: l) ∧ ∀ z, z ∈ a :: l → z ≤ List.foldl (fun a y => if PySem.W.DatumOrd.lt a y = true then y else a) a l := by
    intro l
    induction l with
    | nil => intro a; exact ⟨List.mem_cons_self, fun z hz => by
        have : z = a := by simpa using hz
        subst this
        exact Int.le_refl _⟩
    | cons b l ih =>
      intro a
      rw [List.foldl_cons]
      have hlt : PySem.W.DatumOrd.lt a b = decide (a < b) := rfl
      by_cases c : a < b
      · have e1 : (if PySem.W.DatumOrd.lt a b = true then b else a) = b := by rw [hlt, if_pos (decide_eq_true c)]
        rw [e1]
        obtain ⟨h1, h2⟩ := ih b
        refine ⟨List.mem_cons_of_mem _ h1, fun z hz => ?_⟩
        rcases List.mem_cons.mp hz with e | hz
        · subst e
          exact Int.le_trans (Int.le_of_lt c) (h2 b List.mem_cons_self)
        · exact h2 z hz
      · have e1 : (if PySem.W.DatumOrd.lt a b = true then b else a) = a := by rw [hlt, decide_eq_false c, if_neg Bool.false_ne_true]
        rw [e1]
        obtain ⟨h1, h2⟩ := ih a
        refine ⟨?_, fun z hz => ?_⟩
        · rcases List.mem_cons.mp h1 with e | h1
          · rw [e]
            exact List.mem_cons_self
          · exact List.mem_cons_of_mem _ (List.mem_cons_of_mem _ h1)
        · rcases List.mem_cons.mp hz with e | hz
          · subst e
            exact h2 z List.mem_cons_self
          · rcases List.mem_cons.mp hz with e | hz
            · subst e
              exact Int.le_trans (Int.not_lt.mp c) (h2 a List.mem_cons_self)
            · exact h2 z (List.mem_cons_of_mem _ hz)
  exact key ys y
theorem ints_reads {h : Heap} : ∀ {ns : List Int} {us : List Value}, Vals (ns.map V.int) us → ReadsAll h us (ns.map PySem.W.Datum.toD) []
  | [], _, r => by cases r; exact .nil
  | n :: ns, _, r => by
    cases r with
    | cons a b =>
      obtain ⟨t, rfl⟩ := a
      exact .cons (.int n t) (ints_reads b)
theorem call_maxD {k : Nat} (hc : X.calm = true) (hr : RoomG k X.A) : CallRK X (.builtin "max") [Str.ofString "default"] (rMaxD X.K) := by
  intro pins s σ H xs zs us ws Q I r rz h
  obtain ⟨a, ns, d, rfl, rfl, hS, q0, q1⟩ := h
  cases r with
  | cons ra rn =>
    cases rn
    cases ra
    cases rz with
    | cons rd rn =>
      rename_i dv _
      cases rn
      obtain ⟨its, rv, p, hz⟩ := I.list hS
      have hA : PySem.W.HoldAll s.heap its.toArray.toList ns := ⟨[], by simpa using ints_reads rv⟩
      have hu := hr.rm.units
      refine PySem.W.max_list_datum_default (I.ok.hd hc) p.isList hA (by show X.A.units + 1 + 0 < cLine; omega) (fun e h' tk hk => ⟨d, H, I.kept hk, rd, q0 e⟩) fun y ys i v h' tk e hi hH hk => ?_
      obtain ⟨as, hR⟩ := hH
      obtain ⟨m1, m2⟩ := max_of ns y ys e
      have hR' : Reads h' v (.int (PySem.W.maxOf y ys)) as := hR
      cases hR' with
      | int i t => exact ⟨.int _, H, I.kept hk, ⟨_, rfl⟩, q1 y ys e _ m1 m2⟩
end
end Ls
end

section
set_option Elab.async false
set_option linter.all false
set_option maxRecDepth 100000
set_option maxHeartbeats 4000000
namespace Ls
open PySem PySem.Spec PyProof.Rows L2 PySem.Calls PySem.NumText
/-- the bound of digits -/
def DL : Nat := 10 ^ 4300
theorem DL_of {n k : Nat} (h : n < 10 ^ k) (hk : k ≤ 4300) : n < DL := Nat.lt_of_lt_of_le h (Nat.pow_le_pow_right (by decide) hk)
theorem Inv.nodig {X : Cx} {pins : List (Addr × Obj)} {σ : L2.St} {H : Hp} {s : Shared} (I : Inv X pins σ H s) (nd : X.base.NoDigits) : s.heap.NoDigits := nd.keeps I.bk
section
variable {prog : Program} {w : World} {A : Around} {E : Value → Shared → Prop} {s : Shared} {i : Int} {t : Tok}
/-- the number's own __repr__ -/
theorem int_repr_W {Q : Value → Shared → Prop} (nd : s.heap.NoDigits) (hi : i.natAbs < DL) (q : Q (.str (toString i) s.toks) { s with toks := s.toks + 1 }) : wpAny (model prog w) A (call (.builtin "int.__repr__") [.int i t]) Q E s := by
  refine wpAny_call_entry F.slot_int_repr (typeIs_int s i t) F.entry_int_repr (Q := Q) ?_ (F.args_int_repr_1 (.int i t))
  unfold Builtin.«int.__repr__»
  show wpAny (model prog w) _ (Builtin.overDigitLimit? i >>= _) _ _ s
  exact wpAny_bind (overDigitLimit_any nd (fun hlt => wpAny_bind (wpAny_mkStr (wpAny_pure ⟨_, rfl, q⟩) (int_text_fits10 hlt))) fun hge => absurd (show i.natAbs < 10 ^ 4300 from hi) (Nat.not_lt.mpr hge))
theorem repr_int_W {Q : Value → Shared → Prop} (nd : s.heap.NoDigits) (hu : A.units + 1 < cLine) (hi : i.natAbs < DL) (q : Q (.str (toString i) s.toks) { s with toks := s.toks + 1 }) : wpAny (model prog w) A (call (.builtin "repr") [.int i t]) Q E s :=
  call_repr_slot hu (typeIs_int s i t) F.slot_int_repr.toG (int_repr_W nd hi ⟨_, _, rfl, q⟩)
theorem pyRepr_int_W {Q : Str → Shared → Prop} (nd : s.heap.NoDigits) (hu : A.units < cLine) (hi : i.natAbs < DL) (q : Q (toString i) { s with toks := s.toks + 1 }) : wpAny (model prog w) A (pyRepr (.int i t)) Q E s := by
  unfold pyRepr
  exact wpAny_bind (wpAny_pyReprObj_slot hu (typeIs_int s i t) F.slot_int_repr.toG (int_repr_W nd hi ⟨_, _, rfl, wpAny_pure q⟩))
theorem str_int_W {Q : Value → Shared → Prop} (nd : s.heap.NoDigits) (hu : A.units + 3 < cLine) (hi : i.natAbs < DL) (q : Q (.str (toString i) s.toks) { s with toks := s.toks + 1 }) : wpAny (model prog w) A (call (.type "str") [.int i t]) Q E s :=
  callType_new F.called_str (by decide) (F.typeCall_str_1 _) (F.newCall_str_1 _) (fun obj => F.args_object_init_2 obj _) F.entry_str_new
    (meets_str_new (S := fun A' R s' => A'.units + 2 < cLine ∧ s'.heap.NoDigits ∧ R (.ok (.ret (.str (toString i) s'.toks))) { s' with toks := s'.toks + 1 })
      fun prog' w' A' R s' h => wpAny_strOf_slot (A := A'.in1) rfl (by show A'.units + 1 + 1 < cLine; exact h.1) (typeIs_int s' i t) F.slot_int_str F.slot_int_repr.toG (int_repr_W h.2.1 hi ⟨_, _, rfl, h.2.2⟩))
    ⟨by show A.units + 1 + 2 < cLine; omega, nd, typeIs_str _ _ _, q⟩
end
section
/-- a text of more than 640 signs -/
theorem text_W {M : Model} {A : Around} {E : Value → Shared → Prop} {s : Shared} {Q : Value → Shared → Prop} {v : Value} {text : List Nat} {n : Int} (nd : s.heap.NoDigits)
    (hs : ¬ (text.takeWhile (· != 0)).length ≤ 640) (hr : (int_private% "readNumeral") 4300 10 (text.takeWhile (· != 0)) = (int_private% "Numeral.value") n)
    (ha : ((text.takeWhile (· != 0)).length == text.length) = true) (h : Q (.int n s.toks) { s with toks := s.toks + 1 }) :
    wpAny M A ((int_private% "intFromText") v text 10) Q E s := by
  obtain ⟨hp, g, d, tk, os⟩ := s
  obtain ⟨mc, hns, hno⟩ := nd
  iterate 1 wp_step
  refine wpAny_ite_false (decide_eq_false hs) (wpAny_bind ?_)
  unfold Builtin.intMaxStrDigits
  refine wpAny_bind (wpAny_nsGet hns ?_)
  rw [hno]
  refine wpAny_pure ?_
  dsimp only
  rw [hr]
  dsimp only
  rw [if_pos ha]
  repeat (any_goals (first
    | assumption
    | wp_step))
theorem read_W {x : PySem.Str} {n : Int} (hz : x.length ≤ sizeLine) (hn : PySem.intText? x = some n) : (int_private% "readNumeral") 4300 10 (numSeenOf x) = (int_private% "Numeral.value") n ∧ ((numSeenOf x).length == (numTextOf x).length) = true := by
  rcases PySem.read4300 x hz with ⟨m, h1, h2, h3⟩ | ⟨h1, _⟩
  · rw [hn] at h1
    cases h1
    exact ⟨h3, h2⟩
  · rw [hn] at h1
    cases h1
theorem meets_int_W {x : PySem.Str} {u : Tok} {n : Int} (hz : x.length ≤ sizeLine) (hn : PySem.intText? x = some n) :
    Meets (Builtin.«int.__new__» ⟨[.type "int", .str x u], []⟩) (fun _ R s => s.heap.NoDigits ∧ R (.ok (.ret (.int n s.toks))) { s with toks := s.toks + 1 }) :=
  .of_wp fun prog w A R s h => by
    obtain ⟨hp, g, d, tk, os⟩ := s
    obtain ⟨nd, h⟩ := h
    have f1 := F.conv_sub_int
    have f2 := F.madeHere_int
    have f3 := PySem.W.KIN.str_int
    have f4 := PySem.W.KIN.str_idx
    have f5 := PySem.W.KIN.str_trunc
    have f6 : typeOf (.str x u) = pure (.type "str") := rfl
    have hk := PySem.W.KIN.Hid.mk (read_W hz hn)
    have key : ∀ {M : Model} {A' : Around} {E' : Value → Shared → Prop} {Q' : Value → Shared → Prop}, Q' (.int n tk) ⟨hp, g, d, tk + 1, os⟩ → wpAny M A' ((int_private% "intFromText") (.str x u) (numTextOf x) 10) Q' E' ⟨hp, g, d, tk, os⟩ := fun {M A' E' Q'} q => by
      by_cases hs : (numSeenOf x).length ≤ 640
      · rcases PySem.read0 x hs with ⟨m, h1, h2, h3⟩ | ⟨h1, _⟩
        · rw [hn] at h1
          cases h1
          exact PySem.W.KIN.wp_text hs h3 h2 q
        · rw [hn] at h1
          cases h1
      · exact text_W nd hs hk.out.1 hk.out.2 q
    clear hz hn
    repeat (any_goals (first
      | assumption
      | ((with_reducible show wpAny _ _ ((int_private% "intFromText") _ _ _) _ _ _); refine key ?_)
      | wp_step))
    all_goals first | exact ⟨_, rfl, h⟩ | exact h | skip
end
end Ls
end

section
set_option Elab.async false
set_option linter.all false
set_option maxRecDepth 100000
set_option maxHeartbeats 4000000
namespace Ls
open PySem PySem.Spec PyProof.Rows L2
mutual
def shW : PyData → Bool
  | .int i => decide (i.natAbs < DL)
  | .list ds => shWL ds
  | .tuple ds => shWL ds
  | .dict kvs => shWK kvs
  | _ => true
def shWL : List PyData → Bool
  | [] => true
  | d :: ds => shW d && shWL ds
def shWK : List (PyData × PyData) → Bool
  | [] => true
  | (k, v) :: r => shW k && (shW v && shWK r)
end
theorem shWK_two : ∀ {kvs : List (PyData × PyData)}, shWK kvs = true → shWL (kvs.map (·.1)) = true ∧ shWL (kvs.map (·.2)) = true
  | [], _ => ⟨rfl, rfl⟩
  | (k, v) :: r, h => by
    rw [shWK, Bool.and_eq_true, Bool.and_eq_true] at h
    obtain ⟨a, b⟩ := shWK_two h.2.2
    exact ⟨by rw [List.map_cons, shWL, h.1, a]; rfl, by rw [List.map_cons, shWL, h.2.1, b]; rfl⟩
theorem shWL_of : ∀ {ds : List PyData}, (∀ d, d ∈ ds → shW d = true) → shWL ds = true
  | [], _ => rfl
  | d :: ds, h => by rw [shWL, h d List.mem_cons_self, shWL_of fun e he => h e (List.mem_cons_of_mem _ he)]; rfl
theorem shWL_mem : ∀ {ds : List PyData}, shWL ds = true → ∀ {d : PyData}, d ∈ ds → shW d = true
  | d' :: ds, h, d, hd => by
    rw [shWL, Bool.and_eq_true] at h
    rcases List.mem_cons.mp hd with rfl | hd
    · exact h.1
    · exact shWL_mem h.2 hd
def RkW (prog : Program) (w : World) (h : Heap) (v : Value) (d : PyData) : Prop := ∃ bs, ReadAtMost h d.depth bs ∧ ReprK prog w bs h d.depth v d.shown
def RkWL (prog : Program) (w : World) (h : Heap) (vs : List Value) (ds : List PyData) : Prop := ∃ bs, ReadAtMost h (PyData.depthAll ds) bs ∧ ReprAllK prog w bs h (PyData.depthAll ds) vs (PyData.shownAll ds)
section
variable {prog : Program} {w : World} {h : Heap}
theorem reprK_int {i : Int} {t : Tok} (nd : h.NoDigits) (hi : i.natAbs < DL) : ReprK prog w [] h 0 (.int i t) (toString i) := by
  intro b hb A g E s Q _ _ hu hk q
  rw [pyReprUnder_leaf (v := .int i t) (Nat.le_trans (Nat.le_add_right _ _) hb) (fun _ e => nomatch e)]
  exact pyRepr_int_W (nd.keeps hk) hu hi (q s.heap _ fun _ _ e => e)
theorem rkWL_cons {v : Value} {d : PyData} {vs : List Value} {ds : List PyData} (a : RkW prog w h v d) (b : RkWL prog w h vs ds) : RkWL prog w h (v :: vs) (d :: ds) := by
  obtain ⟨b1, r1, k1⟩ := a
  obtain ⟨b2, r2, k2⟩ := b
  refine ⟨b1 ++ b2, ReadAtMost.append (r1.mono ?_) (r2.mono ?_), ?_⟩
  · rw [PyData.depthAll]; exact Nat.le_max_left _ _
  · rw [PyData.depthAll]; exact Nat.le_max_right _ _
  · rw [PyData.depthAll, PyData.shownAll]
    exact .cons ((k1.more fun x hx => List.mem_append_left _ hx).level_le (Nat.le_max_left _ _)) (k2.more_le (fun x hx => List.mem_append_right _ hx) (Nat.le_max_right _ _))
mutual
theorem rkW (nd : h.NoDigits) : ∀ {v : Value} {d : PyData}, RdS h v d → shW d = true → d.shown.length ≤ sizeLine → RkW prog w h v d
  | _, _, .none, _, _ => ⟨[], (fun _ z => nomatch z), by rw [PyData.shown]; exact .of_is .none _ _ _⟩
  | _, _, .bool b, _, _ => ⟨[], (fun _ z => nomatch z), by rw [PyData.shown]; exact .of_is (.bool b) _ _ _⟩
  | _, _, .str x t, _, z => ⟨[], (fun _ z => nomatch z), by rw [PyData.shown] at z ⊢; exact .of_is (.str x t z) _ _ _⟩
  | _, _, .int i t, s, _ => ⟨[], (fun _ z => nomatch z), by
    rw [shW, decide_eq_true_eq] at s
    rw [PyData.shown]
    exact reprK_int nd s⟩
  | _, _, .list (a := a) (vs := vs) (xs := xs) e1 e2 e3 e4, s, z => by
    rw [shW] at s
    rw [PyData.shown] at z
    obtain ⟨bs, hb, k⟩ := rkWL nd e4 s (fun t ht => Nat.le_trans (listText_mem_le ht) z)
    obtain ⟨as, e4'⟩ := e4.reads
    have rd : Reads h (.ref a) (.list xs) _ := .list e1 e2 e3 e4'
    refine ⟨a :: bs, ReadAtMost.cons rd (by rw [PyData.depth]; omega) hb, ?_⟩
    have far : a ∉ bs := not_mem_of_deeper rd (by rw [PyData.depth]; omega) hb
    rw [PyData.depth, PyData.shown]
    obtain ⟨l⟩ := vs
    cases l with
    | nil =>
      have e5 : RdSL h [] xs := e4
      cases e5
      rw [PyData.shownAll, listText_nil]
      exact .listEmpty e1 e2 e3
    | cons y l => exact .list e1 e2 e3 far (by simpa using k.length_eq) fun i u q => k.item i u (by simpa using q)
  | _, _, .tuple (a := a) (xs := xs) e1 e2 e3 e4, s, z => by
    rw [shW] at s
    rw [PyData.shown] at z
    obtain ⟨bs, hb, k⟩ := rkWL nd e4 s (fun t ht => Nat.le_trans (tupleText_mem_le ht) z)
    obtain ⟨as, e4'⟩ := e4.reads
    have rd : Reads h (.ref a) (.tuple xs) _ := .tuple e1 e2 e3 e4'
    refine ⟨a :: bs, ReadAtMost.cons rd (by rw [PyData.depth]; omega) hb, ?_⟩
    have far : a ∉ bs := not_mem_of_deeper rd (by rw [PyData.depth]; omega) hb
    rw [PyData.depth, PyData.shown]
    exact .tuple e1 e2 e3 far k
  | _, _, .dict (a := a) (es := es) (kvs := kvs) e1 e2 e3 ns e4 e5, s, z => by
    rw [shW] at s
    rw [PyData.shown] at z
    obtain ⟨s1, s2⟩ := shWK_two s
    have in1 : ∀ t ∈ PyData.shownAll (kvs.map (·.1)), t.length ≤ sizeLine := fun t ht => by
      obtain ⟨p, hp, hl⟩ := PyData.shownKv_key_le kvs t ht
      exact Nat.le_trans hl (Nat.le_trans (dictText_mem_le hp) z)
    have in2 : ∀ t ∈ PyData.shownAll (kvs.map (·.2)), t.length ≤ sizeLine := fun t ht => by
      obtain ⟨p, hp, hl⟩ := PyData.shownKv_val_le kvs t ht
      exact Nat.le_trans hl (Nat.le_trans (dictText_mem_le hp) z)
    obtain ⟨b1, r1, k1⟩ := rkWL nd e4 s1 in1
    obtain ⟨b2, r2, k2⟩ := rkWL nd e5 s2 in2
    obtain ⟨as1, e4'⟩ := e4.reads
    obtain ⟨as2, e5'⟩ := e5.reads
    have rd : Reads h (.ref a) (.dict kvs) _ := .dict e1 e2 e3 e4' e5'
    have rb : ReadAtMost h (PyData.depthKv kvs) (b1 ++ b2) := (r1.mono (PyData.depthAll_keys_le kvs)).append (r2.mono (PyData.depthAll_vals_le kvs))
    refine ⟨a :: (b1 ++ b2), ReadAtMost.cons rd (by rw [PyData.depth]; omega) rb, ?_⟩
    have far : a ∉ b1 ++ b2 := not_mem_of_deeper rd (by rw [PyData.depth]; omega) rb
    rw [PyData.depth, PyData.shown, PyData.shownKv_eq]
    exact .dict e1 e2 e3 ns far (.of_two es.toList _ _ (k1.more_le (fun x hx => List.mem_append_left _ hx) (PyData.depthAll_keys_le kvs)) (k2.more_le (fun x hx => List.mem_append_right _ hx) (PyData.depthAll_vals_le kvs)))
theorem rkWL (nd : h.NoDigits) : ∀ {vs : List Value} {ds : List PyData}, RdSL h vs ds → shWL ds = true → (∀ t ∈ PyData.shownAll ds, t.length ≤ sizeLine) → RkWL prog w h vs ds
  | _, _, .nil, _, _ => ⟨[], (fun _ z => nomatch z), by rw [PyData.shownAll]; exact .nil⟩
  | _, _, .cons (d := d) (ds := ds) a b, s, z => by
    rw [shWL, Bool.and_eq_true] at s
    exact rkWL_cons (rkW nd a s.1 (z _ (by rw [PyData.shownAll]; exact List.mem_cons_self))) (rkWL nd b s.2 fun t ht => z t (by rw [PyData.shownAll]; exact List.mem_cons_of_mem _ ht))
end
end
section
variable {prog : Program} {w : World} {A : Around} {E : Value → Shared → Prop} {s : Shared} {Q : Value → Shared → Prop}
/-- repr of an object -/
theorem repr_ref_W {a : Addr} {d : PyData} (nd : s.heap.NoDigits) (rd : RdS s.heap (.ref a) d) (sh : shW d = true) (hg : A.guards = some []) (hu : A.units + (d.depth + 1) < cLine) (z : d.shown.length ≤ sizeLine)
    (q : ∀ h' u tk, (∀ b o, s.heap.get? b = some o → h'.get? b = some o) → Q (.str d.shown u) { s with heap := h', toks := tk }) : wpAny (model prog w) A (call (.builtin "repr") [.ref a]) Q E s := by
  have self : ∀ b o, s.heap.get? b = some o → s.heap.get? b = some o := fun _ _ e => e
  have hu1 : A.in1.units + d.depth < cLine := by show A.units + 1 + d.depth < cLine; omega
  cases rd with
  | list e1 e2 e3 e4 =>
    rename_i o vs n xs
    have z' : (listText (PyData.shownAll xs)).length ≤ sizeLine := by rw [← PyData.shown]; exact z
    rw [shW] at sh
    obtain ⟨bs, hb, k⟩ := rkWL (prog := prog) (w := w) nd e4 sh (fun t ht => Nat.le_trans (listText_mem_le ht) z')
    obtain ⟨as, e4'⟩ := e4.reads
    have far : a ∉ bs := not_mem_of_deeper (.list e1 e2 e3 e4') (by rw [PyData.depth]; omega) hb
    refine call_repr_slot (by omega) ⟨o, e1, e2⟩ F.slot_list_repr.toG ?_
    rw [PyData.depth] at hu1
    rw [PyData.shown] at q
    obtain ⟨l⟩ := vs
    cases l with
    | nil =>
      have e5 : RdSL s.heap [] xs := e4
      cases e5
      rw [PyData.shownAll, listText_nil] at q
      exact call_list_repr_empty ⟨o, e1, e2⟩ e1 e3 ⟨_, _, rfl, q s.heap _ _ self⟩
    | cons y l => exact call_list_reprK e1 e2 e3 far (by simpa using k.length_eq) (fun i u x => k.item i u (by simpa using x)) hg (fun b _ => Clear.nil b) hu1 self (fun h' u tk hk => ⟨_, _, rfl, q h' u tk hk⟩) z'
  | tuple e1 e2 e3 e4 =>
    rename_i o vs n xs
    have z' : (tupleText (PyData.shownAll xs)).length ≤ sizeLine := by rw [← PyData.shown]; exact z
    rw [shW] at sh
    obtain ⟨bs, hb, k⟩ := rkWL (prog := prog) (w := w) nd e4 sh (fun t ht => Nat.le_trans (tupleText_mem_le ht) z')
    obtain ⟨as, e4'⟩ := e4.reads
    have far : a ∉ bs := not_mem_of_deeper (.tuple e1 e2 e3 e4') (by rw [PyData.depth]; omega) hb
    refine call_repr_slot (by omega) ⟨o, e1, e2⟩ F.slot_tuple_repr ?_
    rw [PyData.depth] at hu1
    rw [PyData.shown] at q
    exact call_tuple_reprK e1 e2 e3 far k hg (fun b _ => Clear.nil b) hu1 self (fun h' u tk hk => ⟨_, _, rfl, q h' u tk hk⟩) z'
  | dict e1 e2 e3 ns e4 e5 =>
    rename_i o es n kvs
    have z' : (dictText (PyData.shownKv kvs)).length ≤ sizeLine := by rw [← PyData.shown]; exact z
    rw [shW] at sh
    obtain ⟨s1, s2⟩ := shWK_two sh
    have in1 : ∀ t ∈ PyData.shownAll (kvs.map (·.1)), t.length ≤ sizeLine := fun t ht => by
      obtain ⟨p, hp, hl⟩ := PyData.shownKv_key_le kvs t ht
      exact Nat.le_trans hl (Nat.le_trans (dictText_mem_le hp) z')
    have in2 : ∀ t ∈ PyData.shownAll (kvs.map (·.2)), t.length ≤ sizeLine := fun t ht => by
      obtain ⟨p, hp, hl⟩ := PyData.shownKv_val_le kvs t ht
      exact Nat.le_trans hl (Nat.le_trans (dictText_mem_le hp) z')
    obtain ⟨b1, r1, k1⟩ := rkWL (prog := prog) (w := w) nd e4 s1 in1
    obtain ⟨b2, r2, k2⟩ := rkWL (prog := prog) (w := w) nd e5 s2 in2
    have rb : ReadAtMost s.heap (PyData.depthKv kvs) (b1 ++ b2) := (r1.mono (PyData.depthAll_keys_le kvs)).append (r2.mono (PyData.depthAll_vals_le kvs))
    obtain ⟨as1, e4'⟩ := e4.reads
    obtain ⟨as2, e5'⟩ := e5.reads
    have far : a ∉ b1 ++ b2 := not_mem_of_deeper (.dict e1 e2 e3 e4' e5') (by rw [PyData.depth]; omega) rb
    refine call_repr_slot (by omega) ⟨o, e1, e2⟩ F.slot_dict_repr ?_
    rw [PyData.depth] at hu1
    rw [PyData.shown, PyData.shownKv_eq] at q
    rw [PyData.shownKv_eq] at z'
    exact call_dict_reprK e1 e2 e3 ns far (.of_two es.toList _ _ (k1.more_le (fun x hx => List.mem_append_left _ hx) (PyData.depthAll_keys_le kvs)) (k2.more_le (fun x hx => List.mem_append_right _ hx) (PyData.depthAll_vals_le kvs))) hg (fun b _ => Clear.nil b) hu1 self (fun h' u tk hk => ⟨_, _, rfl, q h' u tk hk⟩) z'
end
/-- str(i), int(text), repr(x) -/
def rStrI : List V → Hp → VK → Prop := fun xs H Q => ∃ i, xs = [.int i] ∧ i.natAbs < DL ∧ Q (.str (toString i)) H
def rIntU : List V → Hp → VK → Prop := fun xs H Q => ((∃ i, xs = [.int i] ∧ Q (.int i) H) ∨ ∃ k, xs = [.bl k] ∧ Q (.int (if k then 1 else 0)) H) ∨ ∃ a n, xs = [.str a] ∧ PySem.intText? a = some n ∧ a.length ≤ sizeLine ∧ Q (.int n) H
def rRepr (K : PySem.W.Frag) : List V → Hp → VK → Prop := fun xs H Q => ∃ (x : V) (d : PyData), xs = [x] ∧ (Dt K H x d ∨ (Dp K H x d ∧ d.hasDict = false)) ∧ shW d = true ∧ d.shown.length ≤ sizeLine ∧ d.depth ≤ 40 ∧ Q (.str d.shown) H
section
variable {X : Cx}
theorem call_strU {k : Nat} (nd : X.base.NoDigits) (hr : RoomG k X.A) : CallR X (.type "str") rStrI := by
  intro pins s σ H xs us Q I r h
  obtain ⟨i, rfl, hz, q⟩ := h
  obtain ⟨u, rfl, t, rfl⟩ := vals1 r
  have hu := hr.rm.units
  exact str_int_W (Inv.nodig I nd) (by omega) hz ⟨.str _, H, I.tok _, ⟨_, rfl⟩, q⟩
theorem call_int_textW (nd : X.base.NoDigits) : CallR X (.type "int") (fun xs H Q => ∃ a n, xs = [.str a] ∧ PySem.intText? a = some n ∧ a.length ≤ sizeLine ∧ Q (.int n) H) := by
  intro pins s σ H xs us Q I r h
  obtain ⟨a, n, rfl, hn, hl, q⟩ := h
  obtain ⟨u, rfl, t, rfl⟩ := vals1 r
  exact PySem.call_int_1 (meets_int_W hl hn) ⟨Inv.nodig I nd, typeIs_int _ _ _, ⟨.int n, H, I.tok _, ⟨_, rfl⟩, q⟩⟩
theorem call_intU (nd : X.base.NoDigits) : CallR X (.type "int") rIntU := CallR.or call_int1 (call_int_textW nd)
theorem call_repr {k : Nat} (nd : X.base.NoDigits) (hr : RoomG k X.A) : CallR X (.builtin "repr") (rRepr X.K) := by
  intro pins s σ H xs us Q I r h
  obtain ⟨x, d, rfl, hd, sh, sz, dp, q⟩ := h
  have nd' := Inv.nodig I nd
  cases r with
  | cons rx rr =>
    cases rr
    rename_i u
    have hu := hr.rm.units
    have rd : RdS s.heap u d := by
      rcases hd with hd | ⟨hd, hn⟩
      · exact hd.reads I rx
      · obtain ⟨as, r⟩ := Dp.reads I d x u hd rx
        exact .of r hn
    have gen : ∀ {a : Addr}, RdS s.heap (.ref a) d → wpAny (model X.prog X.w) X.A (call (.builtin "repr") [.ref a]) (EP X pins σ Q) X.xe s := fun {a} rd =>
      repr_ref_W nd' rd sh hr.gd (by omega) sz fun h' u tk hk => ⟨.str d.shown, H, I.kept hk, ⟨_, rfl⟩, q⟩
    cases rd with
    | none =>
      rw [PyData.shown] at q
      exact PySem.P.repr_of_none ⟨V.str _, H, I.tok _, ⟨_, rfl⟩, q⟩
    | bool b =>
      rw [PyData.shown] at q
      exact PySem.P.repr_of_bool ⟨V.str _, H, I.tok _, ⟨_, rfl⟩, q⟩
    | int i =>
      rw [PyData.shown] at q
      rw [shW, decide_eq_true_eq] at sh
      exact repr_int_W nd' (by omega) sh ⟨V.str _, H, I.tok _, ⟨_, rfl⟩, q⟩
    | str x =>
      rw [PyData.shown] at q sz
      exact PySem.P.repr_of_str ⟨V.str _, H, I.tok _, ⟨_, rfl⟩, q⟩ sz
    | list h1 h2 h3 h4 => exact gen (.list h1 h2 h3 h4)
    | tuple h1 h2 h3 h4 => exact gen (.tuple h1 h2 h3 h4)
    | dict h1 h2 h3 h4 h5 h6 => exact gen (.dict h1 h2 h3 h4 h5 h6)
end
end Ls
end

section
set_option Elab.async false
set_option linter.all false
set_option maxRecDepth 100000
set_option maxHeartbeats 4000000
namespace Ls
open PySem PySem.Spec PyProof.Rows L2

/-- what a display asks behind its items -/
def kTup (xs : List V) (H : Hp) (Q : VK) : Prop := xs.length ≤ sizeLine ∧ ∀ p, H p = none → Q (.ref p) (upd H p (.tup xs))
def kLst (xs : List V) (H : Hp) (Q : VK) : Prop := xs.length ≤ sizeLine ∧ ∀ p, H p = none → p ≠ 1 → Q (.ref p) (upd H p (.lst xs))
def kPart (x : V) (QO : Option Int → Hp → Prop) (H1 : Hp) : Prop := ∃ i, x = .int i ∧ QO (some i) H1
def kB (x : V) (H : Hp) (Q : Bool → Hp → Prop) : Prop := ∃ k, x = .bl k ∧ Q k H
/-- what a for, a comprehension asks once it is known what is walked -/
def kFor (J : It) (g : TG) (tb : TS) (D : Ends) (σ : L2.St) (H : Hp) : Prop := ∃ W : Nat → Nat → L2.St → Hp → Prop, (∃ m, W 0 m σ H) ∧ ∀ i m σ H, W i m σ H →
  (J.stop i H ∧ D.nx σ H) ∨ (J.go i H ∧ ∃ N : L2.St → Hp → Prop, (∀ σ' H', N σ' H' → ∃ m', m' < m ∧ W (i + 1) m' σ' H') ∧ ∀ x H', J.yld i H x H' → g x σ H' fun σ2 H2 => tb { D with nx := N, ct := N, bk := D.nx } σ2 H2)
def kLc (J : It) (g : TG) (tt : TT) (te : TE) (vs : List Nat) (σ : L2.St) (H1 : Hp) (Q : VK) : Prop := ∀ D, H1 D = none → ∃ W : Nat → Nat → Hp → Prop, (∃ m, W 0 m (upd H1 D (.lst []))) ∧ ∀ i m H, W i m H →
  (J.stop i H ∧ Q (.ref D) H) ∨ (J.go i H ∧ ∃ Nx : Hp → Prop, (∀ H', Nx H' → ∃ m', m' < m ∧ W (i + 1) m' H') ∧ ∀ x H', J.yld i H x H' → g x (wipe σ vs) H' fun σ2 H2 => wipe σ2 vs = wipe σ vs ∧ tt σ2 H2 fun b H3 =>
    if b = true then te σ2 H3 fun y H4 => ∃ acc, H4 D = some (.lst acc) ∧ acc.length < sizeLine ∧ Nx (upd H4 D (.lst (acc ++ [y]))) else Nx H3)
section
variable {σ σ2 : L2.St} {H : Hp} {Q : VK} {v x y : V} {ta tb te : TE} {t : TA} {D : Ends} {K : PySem.W.Frag} {QA : List V → Hp → Prop} {tt uu : TT} {QT : Bool → Hp → Prop} {s1 s2 : TS} {g : TG} {QS : L2.St → Hp → Prop}
theorem r_var {i : Nat} (h : σ[i]? = some (some v)) (q : Q v H) : tVar i σ H Q := ⟨v, h, q⟩
theorem r_c (q : Q v H) : tC v σ H Q := q
theorem r_op {r : R2} (h : ta σ H fun x H1 => tb σ H1 fun y H2 => r x y H2 Q) : tOp r ta tb σ H Q := h
theorem r_un {r : V → Hp → VK → Prop} (h : ta σ H fun x H1 => r x H1 Q) : tUn r ta σ H Q := h
theorem r_nil (q : QA [] H) : tNil σ H QA := q
theorem r_cons (h : ta σ H fun x H1 => t σ H1 fun xs H2 => QA (x :: xs) H2) : tCons ta t σ H QA := h
theorem r_cb {r : List V → Hp → VK → Prop} (h : t σ H fun vs H1 => r vs H1 Q) : tCB r t σ H Q := h
theorem r_ckw {r : List V → List V → Hp → VK → Prop} {tk : TA} (h : t σ H fun vs H1 => tk σ H1 fun zs H2 => r vs zs H2 Q) : tCKw r t tk σ H Q := h
theorem r_cal {sp : Sp} {E : XK} (h : t σ H fun vs H1 => sp vs H1 Q E) : tCal sp E t σ H Q := h
theorem r_calK {sp : Sp} {E : XK} {perm : List V → List V} (h : t σ H fun vs H1 => sp (perm vs) H1 Q E) : tCalK sp E perm t σ H Q := h
theorem r_tup (h : t σ H fun xs H1 => kTup xs H1 Q) : tTup t σ H Q := h
theorem r_lst (h : t σ H fun xs H1 => kLst xs H1 Q) : tLstN t σ H Q := h
theorem r_if (h : tt σ H fun c H1 => if c = true then ta σ H1 Q else tb σ H1 Q) : tIf tt ta tb σ H Q := h
theorem r_andV (h : ta σ H fun x H1 => kB x H1 fun c H1 => if c = true then tb σ H1 Q else Q (.bl false) H1) : tAndV ta tb σ H Q := h
theorem r_orV (h : ta σ H fun x H1 => kB x H1 fun c H1 => if c = true then Q (.bl true) H1 else tb σ H1 Q) : tOrV ta tb σ H Q := h
theorem r_notV (h : ta σ H fun x H1 => kB x H1 fun c H1 => Q (.bl (!c)) H1) : tNotV ta σ H Q := h
theorem r_chain {r r' : R2} {tc : TE} (h : ta σ H fun x H1 => tb σ H1 fun y H2 => r x y H2 fun z H3 => kB z H3 fun k H3 => if k = true then tc σ H3 fun w' H4 => r' y w' H4 Q else Q (.bl false) H3) : tChain r r' ta tb tc σ H Q := h
theorem r_sl {r : V → Option Int → Option Int → Hp → VK → Prop} {tl th : TO} (h : te σ H fun x H1 => tl σ H1 fun l H2 => th σ H2 fun u H3 => r x l u H3 Q) : tSl r te tl th σ H Q := h
theorem r_nopart {QO : Option Int → Hp → Prop} (q : QO none H) : tNoPart σ H QO := q
theorem r_part {QO : Option Int → Hp → Prop} (h : te σ H fun x H1 => kPart x QO H1) : tPart te σ H QO := h
theorem k_part {QO : Option Int → Hp → Prop} {i : Int} (q : QO (some i) H) : kPart (.int i) QO H := ⟨i, rfl, q⟩
theorem r_bm0 {T : String} {r : V → List V → Hp → VK → Prop} (h : te σ H fun x H1 => tyV K T x H1 ∧ r x [] H1 Q) : tBM0 K T r te σ H Q := h
theorem r_bm {T : String} {r : V → List V → Hp → VK → Prop} (h : te σ H fun x H1 => tyV K T x H1 ∧ t σ H1 fun xs H2 => r x xs H2 Q) : tBM K T r te t σ H Q := h
theorem r_test (h : te σ H fun x H1 => kB x H1 QT) : tTest te σ H QT := h
theorem r_B (h : te σ H fun x H1 => kB x H1 QT) : tB te σ H QT := h
theorem k_B {b : Bool} (q : QT b H) : kB (.bl b) H QT := ⟨b, rfl, q⟩
theorem r_not (h : tt σ H fun c H1 => QT (!c) H1) : tNot tt σ H QT := h
theorem r_and (h : tt σ H fun c H1 => if c = true then uu σ H1 QT else QT false H1) : tAnd tt uu σ H QT := h
theorem r_or (h : tt σ H fun c H1 => if c = true then QT true H1 else uu σ H1 QT) : tOr tt uu σ H QT := h
theorem br {c A B : Prop} [Decidable c] (h1 : c → A) (h2 : ¬ c → B) : if decide c = true then A else B := by
  by_cases h : c
  · rw [decide_eq_true h, if_pos rfl]; exact h1 h
  · rw [decide_eq_false h, if_neg Bool.false_ne_true]; exact h2 h
theorem brN {c A B : Prop} [Decidable c] (h1 : ¬ c → A) (h2 : c → B) : if (!decide c) = true then A else B := by
  by_cases h : c
  · rw [decide_eq_true h, if_neg (by decide)]; exact h2 h
  · rw [decide_eq_false h, if_pos (by decide)]; exact h1 h
theorem brB {b : Bool} {A B : Prop} (h1 : b = true → A) (h2 : b = false → B) : if b = true then A else B := by
  cases b with
  | true => rw [if_pos rfl]; exact h1 rfl
  | false => rw [if_neg Bool.false_ne_true]; exact h2 rfl
theorem brBN {b : Bool} {A B : Prop} (h1 : b = false → A) (h2 : b = true → B) : if (!b) = true then A else B := by
  cases b with
  | true => rw [if_neg (by decide)]; exact h2 rfl
  | false => rw [if_pos (by decide)]; exact h1 rfl
theorem ifY {c A B : Prop} [Decidable c] (hc : c) (h : A) : if decide c = true then A else B := br (fun _ => h) fun n => absurd hc n
theorem ifN {c A B : Prop} [Decidable c] (hc : ¬ c) (h : B) : if decide c = true then A else B := br (fun n => absurd n hc) fun _ => h
theorem ifnY {c A B : Prop} [Decidable c] (hc : ¬ c) (h : A) : if (!decide c) = true then A else B := brN (fun _ => h) fun n => absurd n hc
theorem ifnN {c A B : Prop} [Decidable c] (hc : c) (h : B) : if (!decide c) = true then A else B := brN (fun n => absurd hc n) fun _ => h
theorem r_seq (h : s1 { D with nx := s2 D } σ H) : tSeq s1 s2 D σ H := h
theorem r_ifS (h : tt σ H fun b H1 => if b = true then s1 D σ H1 else s2 D σ H1) : tIfS tt s1 s2 D σ H := h
theorem r_next (q : D.nx σ H) : tNext D σ H := q
theorem r_brk (q : D.bk σ H) : tBreak D σ H := q
theorem r_cont (q : D.ct σ H) : tCont D σ H := q
theorem r_ret (h : te σ H D.rt) : tRet te D σ H := h
theorem r_retN (h : D.rt .non H) : tRetN D σ H := h
theorem r_drop (h : te σ H fun _ H1 => D.nx σ H1) : tDrop te D σ H := h
theorem r_asg (h : te σ H fun x H1 => g x σ H1 D.nx) : tAsg te g D σ H := h
theorem r_par {i j : Nat} (h : t σ H fun vs H1 => ∃ v w, vs = [v, w] ∧ D.nx ((σ.set i (some v)).set j (some w)) H1) : tPar i j t D σ H := h
theorem k_par {i j : Nat} (q : D.nx ((σ.set i (some x)).set j (some y)) H) : ∃ v w, [x, y] = [v, w] ∧ D.nx ((σ.set i (some v)).set j (some w)) H := ⟨x, y, rfl, q⟩
theorem r_aug {i : Nat} {ti : TIp} (h : σ[i]? = some (some x)) (q : te σ H fun y H1 => ti x y H1 fun z H2 => D.nx (σ.set i (some z)) H2) : tAug i te ti D σ H := ⟨x, h, q⟩
theorem y_ip {f : Int → Int → Int} {i j : Int} (q : Q (.int (f i j)) H) : ipI f (.int i) (.int j) H Q := ⟨i, j, rfl, rfl, q⟩
theorem g_name {i : Nat} (q : QS (σ.set i (some v)) H) : gName i v σ H QS := q
theorem g_tup {n : Nat} {gs : TGs} {a : Addr} {xs : List V} (hs : SqT K H a xs) (hl : xs.length = n) (q : gs xs σ H QS) : gTup K n gs (.ref a) σ H QS := ⟨a, xs, rfl, hs, hl, q⟩
theorem g_nil (q : QS σ H) : gNil [] σ H QS := ⟨rfl, q⟩
theorem g_cons {gs : TGs} {xs : List V} (q : g v σ H fun σ' H' => gs xs σ' H' QS) : gCons g gs (v :: xs) σ H QS := ⟨v, xs, rfl, q⟩
theorem g_sub {ts : TSet} (q : ta σ H fun o H1 => tb σ H1 fun i H2 => ts o i v H2 fun H3 => QS σ H3) : gSub ta tb ts v σ H QS := q
theorem e_nx {n b c : L2.St → Hp → Prop} {r : VK} (q : n σ H) : (Ends.mk n r b c).nx σ H := q
theorem e_rt {n b c : L2.St → Hp → Prop} {r : VK} (q : r v H) : (Ends.mk n r b c).rt v H := q
theorem e_bk {n b c : L2.St → Hp → Prop} {r : VK} (q : b σ H) : (Ends.mk n r b c).bk σ H := q
theorem e_ct {n b c : L2.St → Hp → Prop} {r : VK} (q : c σ H) : (Ends.mk n r b c).ct σ H := q
theorem r_for {wi : TI} {tb : TS} (h : wi σ H fun J H1 => kFor J g tb D σ H1) : tFor wi g tb D σ H := h
theorem r_lc {wi : TI} {vs : List Nat} (h : wi σ H fun J H1 => kLc J g tt te vs σ H1 Q) : tLc wi g tt te vs σ H Q := h
theorem k_tup {xs : List V} (q : ∀ p H', H p = none → Ex H H' → H' p = some (.tup xs) → Q (.ref p) H') (hz : xs.length ≤ 1000 := by simp) : kTup xs H Q :=
  ⟨Nat.le_trans hz (by decide), fun p n => q p _ n (Ex.new n) upd_same⟩
theorem k_lst {xs : List V} (q : ∀ p H', H p = none → p ≠ 1 → Ex H H' → H' p = some (.lst xs) → Q (.ref p) H') (hz : xs.length ≤ 1000 := by simp) : kLst xs H Q :=
  ⟨Nat.le_trans hz (by decide), fun p n m => q p _ n m (Ex.new n) upd_same⟩
theorem y_add {i j : Int} (q : Q (.int (i + j)) H) : rAddU K (.int i) (.int j) H Q := .inl ⟨i, j, rfl, rfl, q⟩
theorem y_addS {a b : Str} (hz : a.length + b.length ≤ sizeLine) (q : Q (.str (a ++ b)) H) : rAddU K (.str a) (.str b) H Q := .inr (.inl ⟨a, b, rfl, rfl, hz, q⟩)
theorem y_addT {a b : Addr} {xs ys : List V} (ha : SqT K H a xs) (hb : SqT K H b ys) (hz : xs.length + ys.length ≤ sizeLine) (q : ∀ p H', Ex H H' → SqT K H' p (xs ++ ys) → Q (.ref p) H') : rAddU K (.ref a) (.ref b) H Q :=
  .inr (.inr (.inl ⟨a, b, xs, ys, rfl, rfl, ha, hb, hz, fun e => q b H (Ex.refl H) (by rw [e]; exact hb), fun _ e => q a H (Ex.refl H) (by rw [e, List.append_nil]; exact ha), fun _ _ p n => q p _ (Ex.new n) (.of upd_same)⟩))
theorem y_addL {a b : Addr} {xs ys : List V} (ha : H a = some (.lst xs)) (hb : H b = some (.lst ys)) (hz : xs.length + ys.length ≤ sizeLine) (q : ∀ p H', H p = none → Ex H H' → H' p = some (.lst (xs ++ ys)) → Q (.ref p) H') : rAddU K (.ref a) (.ref b) H Q :=
  .inr (.inr (.inr ⟨a, b, xs, ys, rfl, rfl, ha, hb, hz, fun p n => q p _ n (Ex.new n) upd_same⟩))
theorem y_mul {i j : Int} (h : CMul i j) (q : Q (.int (i * j)) H) : rMulU K (.int i) (.int j) H Q := .inl ⟨i, j, rfl, rfl, h, q⟩
theorem y_mulL {a : Addr} {xs : List V} {k : Int} (ha : H a = some (.lst xs)) (h0 : 0 ≤ k) (h1 : k ≤ 1000) (hz : xs.length ≤ 1000) (q : ∀ p H', H p = none → Ex H H' → H' p = some (.lst (List.replicate k.toNat xs).flatten) → Q (.ref p) H') : rMulU K (.ref a) (.int k) H Q := by
  refine .inr (.inl ⟨a, k, xs, rfl, rfl, ha, by omega, by omega, ?_, fun p n => q p _ n (Ex.new n) upd_same⟩)
  have h2 : k.toNat ≤ 1000 := by omega
  exact Nat.le_trans (Nat.mul_le_mul hz h2) (by decide)
theorem y_mulT {a : Addr} {xs : List V} {k : Int} (ha : SqT K H a xs) (hn : xs ≠ []) (h0 : 2 ≤ k) (h1 : k ≤ 1000) (hz : xs.length ≤ 1000) (q : ∀ p H', H p = none → Ex H H' → H' p = some (.tup (List.replicate k.toNat xs).flatten) → Q (.ref p) H') : rMulU K (.ref a) (.int k) H Q :=
  .inr (.inr (.inl ⟨a, k, xs, rfl, rfl, ha, hn, h0, h1, hz, fun p n => q p _ n (Ex.new n) upd_same⟩))
theorem y_mulS {c n : Nat} (hn : n ≤ 100000) (q : Q (.str ⟨(List.replicate n c).toArray⟩) H) : rMulU K (.str ⟨#[c]⟩) (.int (n : Nat)) H Q := .inr (.inr (.inr (.inl ⟨c, n, rfl, rfl, hn, q⟩)))
theorem y_mulW {i j : Int} (h : CMulW i j) (q : Q (.int (i * j)) H) : rMulU K (.int i) (.int j) H Q := .inr (.inr (.inr (.inr ⟨i, j, rfl, rfl, h, q⟩)))
theorem y_sub {i j : Int} (q : Q (.int (i - j)) H) : rSubI (.int i) (.int j) H Q := ⟨i, j, rfl, rfl, q⟩
theorem y_fdiv {i j : Int} (h : CDiv i j) (q : Q (.int (i / j)) H) : rFdiv (.int i) (.int j) H Q := .inl ⟨i, j, rfl, rfl, h, q⟩
theorem y_fdivF {i j : Int} (h : CDivF i j) (q : Q (.int (i.fdiv j)) H) : rFdiv (.int i) (.int j) H Q := .inr ⟨i, j, rfl, rfl, h, q⟩
theorem y_mod {i j : Int} (h : 0 < j) (q : Q (.int (i % j)) H) : rMod (.int i) (.int j) H Q := ⟨i, j, rfl, rfl, h, q⟩
theorem y_pow {i j : Int} (h : CPow i j) (q : Q (.int (i ^ j.toNat)) H) : rPow (.int i) (.int j) H Q := ⟨i, j, rfl, rfl, h, q⟩
theorem y_neg {i : Int} (q : Q (.int (-i)) H) : rNeg (.int i) H Q := ⟨i, rfl, q⟩
theorem y_lt {i j : Int} (q : Q (.bl (decide (i < j))) H) : rLt (.int i) (.int j) H Q := ⟨i, j, rfl, rfl, q⟩
theorem y_le {i j : Int} (q : Q (.bl (decide (i ≤ j))) H) : rLe (.int i) (.int j) H Q := ⟨i, j, rfl, rfl, q⟩
theorem y_gt {i j : Int} (q : Q (.bl (decide (j < i))) H) : rGtU (.int i) (.int j) H Q := ⟨i, j, rfl, rfl, q⟩
theorem y_ge {i j : Int} (q : Q (.bl (decide (j ≤ i))) H) : rGeU (.int i) (.int j) H Q := ⟨i, j, rfl, rfl, q⟩
theorem decV {α : Type} {f : α → V} (hf : ∀ a b, f a = f b → a = b) (a b : α) [Decidable (a = b)] : decide (f a = f b) = decide (a = b) := by
  by_cases e : a = b
  · rw [decide_eq_true e, e]; simp
  · rw [decide_eq_false e]; exact decide_eq_false fun z => e (hf _ _ z)
theorem y_eqI {i j : Int} (q : Q (.bl (decide (i = j))) H) : rEqU K (.int i) (.int j) H Q := .inl ⟨rfl, by rw [decV (f := V.int) (fun _ _ e => V.int.inj e)]; exact q⟩
theorem y_eqS {i j : Str} (q : Q (.bl (decide (i = j))) H) : rEqU K (.str i) (.str j) H Q := .inl ⟨rfl, by rw [decV (f := V.str) (fun _ _ e => V.str.inj e)]; exact q⟩
theorem y_neI {i j : Int} (q : Q (.bl (!decide (i = j))) H) : rNeU K (.int i) (.int j) H Q := .inl ⟨rfl, by rw [decV (f := V.int) (fun _ _ e => V.int.inj e)]; exact q⟩
theorem y_neS {i j : Str} (q : Q (.bl (!decide (i = j))) H) : rNeU K (.str i) (.str j) H Q := .inl ⟨rfl, by rw [decV (f := V.str) (fun _ _ e => V.str.inj e)]; exact q⟩
theorem y_isNo (q : Q (.bl (decide (x = .non))) H) : rIsNo x .non H Q := ⟨rfl, q⟩
theorem y_isntNo (q : Q (.bl (!decide (x = .non))) H) : rIsntNo x .non H Q := ⟨rfl, q⟩
theorem y_inS {c : Nat} {z : Str} (q : Q (.bl (decide (c ∈ z.cps.toList))) H) : rInU K (.str ⟨#[c]⟩) (.str z) H Q := .inr (.inl ⟨c, z, rfl, rfl, q⟩)
theorem y_ixL {p : Addr} {xs : List V} {i : Int} (h : SqL K H p xs) (ha : atI xs i = some v) (q : Q v H) : rIx K (.ref p) (.int i) H Q := .inl ⟨p, xs, i, v, rfl, rfl, h, ha, q⟩
theorem y_ixT {p : Addr} {xs : List V} {i : Int} (h : SqT K H p xs) (ha : atI xs i = some v) (q : Q v H) : rIx K (.ref p) (.int i) H Q := .inr (.inl ⟨p, xs, i, v, rfl, rfl, h, ha, q⟩)
theorem y_ixS {z : Str} {i : Int} {c : Nat} (hz : z.length ≤ sizeLine) (ha : atI z.cps.toList i = some c) (q : Q (.str ⟨#[c]⟩) H) : rIx K (.str z) (.int i) H Q := .inr (.inr ⟨z, i, c, rfl, rfl, hz, ha, q⟩)
theorem y_setL {p : Addr} {xs : List V} {i : Int} {j : Nat} {QH : Hp → Prop} (h : H p = some (.lst xs)) (hj : ixN xs.length i = some j) (q : ∀ H', Em p H H' → H' p = some (.lst (xs.set j v)) → QH H') : rSetL (.ref p) (.int i) v H QH := ⟨p, xs, i, j, rfl, rfl, h, hj, q _ Em.put upd_same⟩
theorem y_abs {i : Int} (q : Q (.int (if i < 0 then -i else i)) H) : rAbs [.int i] H Q := ⟨i, rfl, q⟩
theorem y_max2 {i j : Int} (q : Q (.int (if j > i then j else i)) H) : rMaxU K [.int i, .int j] H Q := .inl ⟨i, j, rfl, q⟩
theorem y_min2 {i j : Int} (q : Q (.int (if j < i then j else i)) H) : rMinU K [.int i, .int j] H Q := .inl ⟨i, j, rfl, q⟩
theorem y_maxL {a : Addr} {ns : List Int} (h : SqL K H a (ns.map V.int)) (hn : 0 < ns.length) (q : ∀ m, m ∈ ns → (∀ z, z ∈ ns → z ≤ m) → Q (.int m) H) : rMaxU K [.ref a] H Q := .inr ⟨a, ns, rfl, h, hn, q⟩
theorem y_maxD {a : Addr} {ns : List Int} {d : Int} (h : SqL K H a (ns.map V.int)) (q : ∀ m, (ns = [] → m = d) → (ns ≠ [] → m ∈ ns ∧ ∀ z, z ∈ ns → z ≤ m) → Q (.int m) H) : rMaxD K [.ref a] [.int d] H Q :=
  ⟨a, ns, .int d, rfl, rfl, h, fun e => q d (fun _ => rfl) (fun n => absurd e n), fun y ys e m m1 m2 => q m (fun z => by rw [z] at e; cases e) fun _ => ⟨m1, m2⟩⟩
theorem y_intI {i : Int} (q : Q (.int i) H) : rIntU [.int i] H Q := .inl (.inl ⟨i, rfl, q⟩)
theorem y_intB {b : Bool} (q : Q (.int (if b then 1 else 0)) H) : rIntU [.bl b] H Q := .inl (.inr ⟨b, rfl, q⟩)
theorem y_intS {a : Str} {n : Int} (h : PySem.intText? a = some n) (hz : a.length ≤ sizeLine) (q : Q (.int n) H) : rIntU [.str a] H Q := .inr ⟨a, n, rfl, h, hz, q⟩
theorem y_str {i : Int} (h : i.natAbs < DL) (q : Q (.str (toString i)) H) : rStrI [.int i] H Q := ⟨i, rfl, h, q⟩
theorem y_lenL {p : Addr} {xs : List V} (h : SqL K H p xs) (q : Q (.int (xs.length : Nat)) H) : rLen K [.ref p] H Q := ⟨_, xs.length, rfl, .inl ⟨xs, h, rfl⟩, q⟩
theorem y_lenT {p : Addr} {xs : List V} (h : SqT K H p xs) (q : Q (.int (xs.length : Nat)) H) : rLen K [.ref p] H Q := ⟨_, xs.length, rfl, .inr ⟨xs, h, rfl⟩, q⟩
theorem y_lenS {z : Str} (hz : z.length ≤ sizeLine) (q : Q (.int (z.length : Nat)) H) : rLen K [.str z] H Q := ⟨_, z.length, rfl, ⟨hz, rfl⟩, q⟩
theorem y_divmod {i j : Int} (h : CDiv i j) (q : ∀ p H', H p = none → Ex H H' → H' p = some (.tup [.int (i / j), .int (i % j)]) → Q (.ref p) H') : rDivmod [.int i, .int j] H Q := ⟨i, j, rfl, h, fun p n => q p _ n (Ex.new n) upd_same⟩
theorem y_tupL {p : Addr} {ys : List V} (h : SqL K H p ys) (q : ∀ l H', H l = none → Ex H H' → H' l = some (.tup ys) → Q (.ref l) H') : rTupOf K [.ref p] H Q := ⟨p, ys, rfl, .inl ⟨h, fun l n => q l _ n (Ex.new n) upd_same⟩⟩
theorem y_tupT {p : Addr} {ys : List V} (h : SqT K H p ys) (q : Q (.ref p) H) : rTupOf K [.ref p] H Q := ⟨p, ys, rfl, .inr ⟨h, q⟩⟩
theorem y_sum {a : Addr} {ns : List Int} (h : SqL K H a (ns.map V.int)) (q : Q (.int ns.sum) H) : rSum K [.ref a] H Q := ⟨a, ns, rfl, h, q⟩
theorem y_all {a : Addr} {bs : List Bool} (h : SqL K H a (bs.map V.bl)) (q : Q (.bl (bs.all id)) H) : rAll K [.ref a] H Q := ⟨a, bs, rfl, h, q⟩
theorem y_any {a : Addr} {bs : List Bool} (h : SqL K H a (bs.map V.bl)) (q : Q (.bl (bs.any id)) H) : rAny K [.ref a] H Q := ⟨a, bs, rfl, h, q⟩
theorem y_repr {d : PyData} (h : Dt K H x d) (hs : shW d = true) (hz : d.shown.length ≤ sizeLine) (hd : d.depth ≤ 40) (q : Q (.str d.shown) H) : rRepr K [x] H Q := ⟨x, d, rfl, .inl h, hs, hz, hd, q⟩
theorem y_reprP {d : PyData} (h : Dp K H x d) (hn : d.hasDict = false) (hs : shW d = true) (hz : d.shown.length ≤ sizeLine) (hd : d.depth ≤ 40) (q : Q (.str d.shown) H) : rRepr K [x] H Q := ⟨x, d, rfl, .inr ⟨h, hn⟩, hs, hz, hd, q⟩
theorem y_slL {p : Addr} {xs : List V} {lo hi : Option Int} (h : SqL K H p xs) (q : ∀ l H', H l = none → Ex H H' → H' l = some (.lst (cutV xs lo hi)) → Q (.ref l) H') : rSlL K (.ref p) lo hi H Q := ⟨p, xs, rfl, h, fun l n => q l _ n (Ex.new n) upd_same⟩
theorem y_slS {z : Str} {lo hi : Option Int} (hz : z.length ≤ sizeLine) (q : Q (.str (cutS z lo hi)) H) : rSlS (.str z) lo hi H Q := ⟨z, rfl, hz, q⟩
end
def tyn : PyData → String
  | .none => "NoneType" | .bool _ => "bool" | .int _ => "int" | .str _ => "str" | .list _ => "list" | .tuple _ => "tuple" | .dict _ => "dict"
theorem Dt.ty {K : PySem.W.Frag} {H : Hp} {v : V} {d : PyData} (h : Dt K H v d) : TyX K H v (.type (tyn d)) := by
  cases h with
  | non => exact .base .non
  | bl b => exact .base (.bl b)
  | int i => exact .base (.int i)
  | str x => exact .base (.str x)
  | lst h _ =>
    rcases h with (h | ⟨o, h⟩) | ⟨o, its, n, hk, hc, _⟩
    · exact .base (.lst h)
    · exact .base (.frz h)
    · exact .kList hk hc
  | tup h _ =>
    rcases h with (h | ⟨o, h⟩) | ⟨o, its, n, hk, hc, _⟩
    · exact .base (.tup h)
    · exact .fTuple h
    · exact .kTuple hk hc
  | dct h _ =>
    rcases h with h | ⟨o, h⟩
    · exact .base (.dK h)
    · exact .fDict h
theorem y_isi {K : PySem.W.Frag} {H : Hp} {Q : VK} {v : V} {d : PyData} {T : String} {b : Bool} (h : Dt K H v d) (hb : kitB (tyn d) T = some b) (q : Q (.bl b) H) : rIsiU K [v, .ty T] H Q :=
  .inl ⟨v, .ty T, .type (tyn d), .type T, b, rfl, .ty T, h.ty, kit_ty hb, q⟩
end Ls
end

section
set_option Elab.async false
set_option linter.all false
set_option maxRecDepth 100000
set_option maxHeartbeats 4000000
namespace Ls
open PySem PySem.Spec PyProof.Rows L2
section
variable {X : Cx} {tg : Expr}
theorem pe_const {x : Str} {v : V} {pos : Pos} (h : ∃ u, X.mg x = some u ∧ RelV v u) (hg : Gl X x := by rfl) (hd : (x == ("__debug__" : Str)) = false := by decide) : PE X (.Name x pos) (tC v) := by
  obtain ⟨u, hm, r⟩ := h
  exact pe_glob hg hm r hd
def rSlU (K : PySem.W.Frag) : V → Option Int → Option Int → Hp → VK → Prop := fun x lo hi H Q => rSlL K x lo hi H Q ∨ rSlA K x lo hi H Q ∨ rSlS x lo hi H Q
theorem sl_U : SlR X (rSlU X.K) := sl_list.or (sl_tupA.or sl_str)
def kSeq (K : PySem.W.Frag) (x : V) (R : It → Hp → Prop) (H1 : Hp) : Prop := (∃ a, x = .ref a ∧ (((∃ xs, SqL K H1 a xs) ∧ R (Itl K a) H1) ∨ ((∃ xs, SqT K H1 a xs) ∧ R (Itt K a) H1))) ∨ ∃ z, x = .str z ∧ R (Its z) H1
def kRng (vs : List V) (R : It → Hp → Prop) (H1 : Hp) : Prop := ∃ j : Int, vs = [.int j] ∧ -(2 ^ 62) ≤ j ∧ j < 2 ^ 62 ∧ R (Itr 0 j.toNat) H1
/-- a list or a tuple, walked -/
def iSeq (K : PySem.W.Frag) (tl : TE) : TI := fun σ H R => tl σ H fun x H1 => kSeq K x R H1
theorem pi_seq {l : Expr} {tl : TE} (hl : PE X l tl) : PI X tg l (iSeq X.K tl) := by
  refine ⟨fun pins s σ H R I h => ?_⟩
  refine thn (hl.run pins s σ H _ I h) fun v s1 ⟨x, H1, I1, r1, q0⟩ => ?_
  rcases q0 with ⟨a, e, q⟩ | ⟨z, e, q⟩
  rotate_left
  · subst e
    obtain ⟨t, rfl⟩ := r1
    cases ha : z.cps.all (· < 128)
    · exact wpAny_pyIter_wide ha (pi_one (tk := s1.toks) I1 _ (turn_str _ z t "str_iterator" (.inr rfl)) ⟨_, Heap.get?_push_size _ rfl, rfl, rfl⟩ q)
    · exact wpAny_pyIter_ascii ha (pi_one (tk := s1.toks) I1 _ (turn_str _ z t "str_ascii_iterator" (.inl rfl)) ⟨_, Heap.get?_push_size _ rfl, rfl, rfl⟩ q)
  subst e
  cases r1
  have fr : ∀ b ∈ [s1.heap.objs.size], FpOk X pins H1 b := fun b hb => by
    have z : b = s1.heap.objs.size := by simpa using hb
    subst z
    exact I1.fpOk (Nat.le_refl _) (I1.hok.fresh (Nat.le_refl _))
  rcases q with ⟨⟨xs, hq⟩, q⟩ | ⟨⟨xs, hq⟩, q⟩
  · obtain ⟨its, rv, p, hz⟩ := I1.list hq
    exact wpAny_pyIter_list p.isList ⟨_, _, _, _, H1, rfl, I1.kept (t' := s1.toks) fun b o z => Heap.get?_push_of_some _ z, turn_list a _, ⟨_, Heap.get?_push_size _ rfl, rfl, rfl⟩, fr, q⟩
  · obtain ⟨its, rv, p, hz⟩ := I1.tuple hq
    exact wpAny_pyIter_tuple (show s1.heap.IsTuple a its.toArray from p) ⟨_, _, _, _, H1, rfl, I1.kept (t' := s1.toks) fun b o z => Heap.get?_push_of_some _ z, turn_tuple a _, ⟨_, Heap.get?_push_size _ rfl, rfl, rfl⟩, fr, q⟩
end
section
variable {σ : L2.St} {H : Hp} {Q : VK} {K : PySem.W.Frag} {tl : TE} {R : It → Hp → Prop} {g : TG} {tb : TS} {D : Ends} {tt : TT} {te : TE} {vs : List Nat} {ta : TA}
theorem i_seq (h : tl σ H fun x H1 => kSeq K x R H1) : iSeq K tl σ H R := h
theorem i_L {a : Addr} {xs : List V} (h : SqL K H a xs) (q : R (Itl K a) H) : kSeq K (.ref a) R H := .inl ⟨a, rfl, .inl ⟨⟨xs, h⟩, q⟩⟩
theorem i_T {a : Addr} {xs : List V} (h : SqT K H a xs) (q : R (Itt K a) H) : kSeq K (.ref a) R H := .inl ⟨a, rfl, .inr ⟨⟨xs, h⟩, q⟩⟩
theorem i_S {z : Str} (q : R (Its z) H) : kSeq K (.str z) R H := .inr ⟨z, rfl, q⟩
theorem i_rng1 (h : ta σ H fun vs H1 => kRng vs R H1) : iRng1 ta σ H R := h
theorem i_r1 {j : Int} (h1 : -(2 ^ 62) ≤ j) (h2 : j < 2 ^ 62) (q : R (Itr 0 j.toNat) H) : kRng [.int j] R H := ⟨j, rfl, h1, h2, q⟩
theorem k_forL {a : Addr} {xs : List V} (Pv : Nat → L2.St → Hp → Prop) (h0 : Pv 0 σ H) (hl : ∀ i σ H, i ≤ xs.length → Pv i σ H → SqL K H a xs)
    (hs : ∀ i x σ H, xs[i]? = some x → Pv i σ H → g x σ H fun σ2 H2 => tb { D with nx := Pv (i + 1), ct := Pv (i + 1), bk := D.nx } σ2 H2) (hd : ∀ σ H, Pv xs.length σ H → D.nx σ H) : kFor (Itl K a) g tb D σ H := for_list Pv h0 hl hs hd
theorem k_forT {a : Addr} {xs : List V} (Pv : Nat → L2.St → Hp → Prop) (h0 : Pv 0 σ H) (hl : ∀ i σ H, i ≤ xs.length → Pv i σ H → SqT K H a xs)
    (hs : ∀ i x σ H, xs[i]? = some x → Pv i σ H → g x σ H fun σ2 H2 => tb { D with nx := Pv (i + 1), ct := Pv (i + 1), bk := D.nx } σ2 H2) (hd : ∀ σ H, Pv xs.length σ H → D.nx σ H) : kFor (Itt K a) g tb D σ H := for_tup Pv h0 hl hs hd
theorem k_forR {lo : Int} {n : Nat} (Pv : Nat → L2.St → Hp → Prop) (h0 : Pv 0 σ H)
    (hs : ∀ i σ H, i < n → Pv i σ H → g (.int (lo + i)) σ H fun σ2 H2 => tb { D with nx := Pv (i + 1), ct := Pv (i + 1), bk := D.nx } σ2 H2) (hd : ∀ σ H, Pv n σ H → D.nx σ H) : kFor (Itr lo n) g tb D σ H := for_range Pv h0 hs hd
def kTurn (D : Addr) (j : Nat) (Pv : Nat → List V → Hp → Prop) : VK := fun y H4 => ∃ acc, H4 D = some (.lst acc) ∧ acc.length < sizeLine ∧ ∃ ys, ys.length = j + 1 ∧ upd H4 D (.lst (acc ++ [y])) D = some (.lst ys) ∧ Pv (j + 1) ys (upd H4 D (.lst (acc ++ [y])))
theorem k_turn {D : Addr} {j : Nat} {Pv : Nat → List V → Hp → Prop} {ys : List V} {y : V} (h : H D = some (.lst ys)) (hl : ys.length = j) (hj : j < 100000) (q : Pv (j + 1) (ys ++ [y]) (upd H D (.lst (ys ++ [y])))) : kTurn D j Pv y H :=
  ⟨ys, h, Nat.lt_of_lt_of_le (by omega : ys.length < 100000) (by decide), ys ++ [y], by rw [List.length_append, hl]; rfl, upd_same, q⟩
theorem t_yes {A B : Hp → Prop} (h : A H) : tYes σ H (fun b H1 => if b = true then A H1 else B H1) := by
  show (if true = true then A H else B H)
  rw [if_pos rfl]
  exact h
theorem k_lcL {a : Addr} {xs : List V} {i0 : Nat} (Pv : Nat → List V → Hp → Prop) (h0 : ∀ D, H D = none → Pv 0 [] (upd H D (.lst []))) (hl : ∀ j ys H', j ≤ xs.length → Pv j ys H' → SqL K H' a xs)
    (hs : ∀ D j x ys H', H D = none → xs[j]? = some x → j < xs.length → ys.length = j → H' D = some (.lst ys) → Pv j ys H' → te ((wipe σ vs).set i0 (some x)) H' (kTurn D j Pv))
    (hw : ∀ x, wipe ((wipe σ vs).set i0 (some x)) vs = wipe σ vs) (hd : ∀ D ys H', H D = none → ys.length = xs.length → H' D = some (.lst ys) → Pv xs.length ys H' → Q (.ref D) H') : kLc (Itl K a) (gName i0) tYes te vs σ H Q := fun D hD =>
  lc_list (fun j H' => ∃ ys : List V, ys.length = j ∧ H' D = some (.lst ys) ∧ Pv j ys H') ⟨[], rfl, upd_same, h0 D hD⟩ (fun j H' hj ⟨ys, _, _, p⟩ => hl j ys H' hj p)
    (fun j x H' hx ⟨ys, hy, hHD, p⟩ => ⟨hw x, t_yes (hs D j x ys H' hD hx (List.getElem?_eq_some_iff.mp hx).1 hy hHD p)⟩) fun H' ⟨ys, hy, hHD, p⟩ => hd D ys H' hD hy hHD p
theorem k_lcT {a : Addr} {xs : List V} {i0 : Nat} (Pv : Nat → List V → Hp → Prop) (h0 : ∀ D, H D = none → Pv 0 [] (upd H D (.lst []))) (hl : ∀ j ys H', j ≤ xs.length → Pv j ys H' → SqT K H' a xs)
    (hs : ∀ D j x ys H', H D = none → xs[j]? = some x → j < xs.length → ys.length = j → H' D = some (.lst ys) → Pv j ys H' → te ((wipe σ vs).set i0 (some x)) H' (kTurn D j Pv))
    (hw : ∀ x, wipe ((wipe σ vs).set i0 (some x)) vs = wipe σ vs) (hd : ∀ D ys H', H D = none → ys.length = xs.length → H' D = some (.lst ys) → Pv xs.length ys H' → Q (.ref D) H') : kLc (Itt K a) (gName i0) tYes te vs σ H Q := fun D hD =>
  lc_tup (fun j H' => ∃ ys : List V, ys.length = j ∧ H' D = some (.lst ys) ∧ Pv j ys H') ⟨[], rfl, upd_same, h0 D hD⟩ (fun j H' hj ⟨ys, _, _, p⟩ => hl j ys H' hj p)
    (fun j x H' hx ⟨ys, hy, hHD, p⟩ => ⟨hw x, t_yes (hs D j x ys H' hD hx (List.getElem?_eq_some_iff.mp hx).1 hy hHD p)⟩) fun H' ⟨ys, hy, hHD, p⟩ => hd D ys H' hD hy hHD p
theorem k_lcR {lo : Int} {n : Nat} {i0 : Nat} (Pv : Nat → List V → Hp → Prop) (h0 : ∀ D, H D = none → Pv 0 [] (upd H D (.lst [])))
    (hs : ∀ D j ys H', H D = none → j < n → ys.length = j → H' D = some (.lst ys) → Pv j ys H' → te ((wipe σ vs).set i0 (some (.int (lo + j)))) H' (kTurn D j Pv))
    (hw : ∀ x, wipe ((wipe σ vs).set i0 (some x)) vs = wipe σ vs) (hd : ∀ D ys H', H D = none → ys.length = n → H' D = some (.lst ys) → Pv n ys H' → Q (.ref D) H') : kLc (Itr lo n) (gName i0) tYes te vs σ H Q := fun D hD =>
  lc_range (fun j H' => ∃ ys : List V, ys.length = j ∧ H' D = some (.lst ys) ∧ Pv j ys H') ⟨[], rfl, upd_same, h0 D hD⟩
    (fun j H' hj ⟨ys, hy, hHD, p⟩ => ⟨hw _, t_yes (hs D j ys H' hD hj hy hHD p)⟩) fun H' ⟨ys, hy, hHD, p⟩ => hd D ys H' hD hy hHD p
end
/-- tuples stand, and what is locked -/
def Et (H H' : Hp) : Prop := (∀ a xs, H a = some (.tup xs) → H' a = some (.tup xs)) ∧ ∀ a o u, H a = some (.frz o u) → H' a = some (.frz o u)
theorem Et.refl (H : Hp) : Et H H := ⟨fun _ _ h => h, fun _ _ _ h => h⟩
theorem Et.trans {H H1 H2 : Hp} (a : Et H H1) (b : Et H1 H2) : Et H H2 := ⟨fun x o h => b.1 _ _ (a.1 _ _ h), fun x o u h => b.2 _ _ _ (a.2 _ _ _ h)⟩
theorem Ex.et {H H' : Hp} (e : Ex H H') : Et H H' := ⟨fun _ _ h => e _ _ h, fun _ _ _ h => e _ _ h⟩
theorem Em.et {p : Addr} {xs : List V} {H H' : Hp} (e : Em p H H') (h : H p = some (.lst xs)) : Et H H' :=
  ⟨fun a ys q => e a _ (fun z => by rw [z, h] at q; cases q) q, fun a o u q => e a _ (fun z => by rw [z, h] at q; cases q) q⟩
theorem Et.putL {p : Addr} {xs ys : List V} {H : Hp} (h : H p = some (.lst xs)) : Et H (upd H p (.lst ys)) := Em.et Em.put h
theorem Ex.putN {p : Addr} {o : HO} {H H' : Hp} (e : Ex H H') (h : H p = none) : Ex H (upd H' p o) := fun a u q => by rw [upd_ne (ne_of_none q h)]; exact e a u q
theorem Em.putN {p q : Addr} {o : HO} {H H' : Hp} (e : Em q H H') (h : H p = none) : Em q H (upd H' p o) := fun a u n z => by rw [upd_ne (ne_of_none z h)]; exact e a u n z
theorem Et.st {K : PySem.W.Frag} {H H' : Hp} {a : Addr} {xs : List V} (e : Et H H') (h : SqT K H a xs) : SqT K H' a xs := by
  rcases h with (h | ⟨o, h⟩) | h
  · exact .inl (.inl (e.1 _ _ h))
  · exact .inl (.inr ⟨o, e.2 _ _ _ h⟩)
  · exact .inr h
mutual
inductive Fl (K : PySem.W.Frag) (H : Hp) : V → PyData → Prop
  | non : Fl K H .non .none
  | bl (b : Bool) : Fl K H (.bl b) (.bool b)
  | int (i : Int) : Fl K H (.int i) (.int i)
  | str (x : Str) : Fl K H (.str x) (.str x)
  | tup {a : Addr} {xs : List V} {ds : List PyData} : SqT K H a xs → FlAll K H xs ds → Fl K H (.ref a) (.tuple ds)
inductive FlAll (K : PySem.W.Frag) (H : Hp) : List V → List PyData → Prop
  | nil : FlAll K H [] []
  | cons {v : V} {vs : List V} {d : PyData} {ds : List PyData} : Fl K H v d → FlAll K H vs ds → FlAll K H (v :: vs) (d :: ds)
end
section
variable {K : PySem.W.Frag} {H H' : Hp}
mutual
theorem Fl.mono (e : Et H H') : ∀ {v : V} {d : PyData}, Fl K H v d → Fl K H' v d
  | _, _, .non => .non
  | _, _, .bl b => .bl b
  | _, _, .int i => .int i
  | _, _, .str x => .str x
  | _, _, .tup h a => .tup (e.st h) (a.mono e)
theorem FlAll.mono (e : Et H H') : ∀ {v : List V} {d : List PyData}, FlAll K H v d → FlAll K H' v d
  | _, _, .nil => .nil
  | _, _, .cons a b => .cons (a.mono e) (b.mono e)
end
mutual
theorem Fl.dt : ∀ {v : V} {d : PyData}, Fl K H v d → Dt K H v d
  | _, _, .non => .non
  | _, _, .bl b => .bl b
  | _, _, .int i => .int i
  | _, _, .str x => .str x
  | _, _, .tup h a => .tup h a.dt
theorem FlAll.dt : ∀ {v : List V} {d : List PyData}, FlAll K H v d → DtAll K H v d
  | _, _, .nil => .nil
  | _, _, .cons a b => .cons a.dt b.dt
end
mutual
theorem Fl.dp : ∀ {v : V} {d : PyData}, Fl K H v d → Dp K H v d
  | _, _, .non => .non
  | _, _, .bl b => .bl b
  | _, _, .int i => .int i
  | _, _, .str x => .str x
  | _, _, .tup h a => .tup h a.dp
theorem FlAll.dp : ∀ {v : List V} {d : List PyData}, FlAll K H v d → DpAll K H v d
  | _, _, .nil => .nil
  | _, _, .cons a b => .cons a.dp b.dp
end
theorem FlAll.length : ∀ {vs : List V} {ds : List PyData}, FlAll K H vs ds → vs.length = ds.length
  | _, _, .nil => rfl
  | _, _, .cons _ b => congrArg Nat.succ b.length
theorem FlAll.get : ∀ {vs : List V} {ds : List PyData} {i : Nat} {v : V}, FlAll K H vs ds → vs[i]? = some v → ∃ d, ds[i]? = some d ∧ Fl K H v d
  | _, _, _, _, .nil, e => by simp at e
  | _, _, 0, v, .cons a _, e => ⟨_, rfl, (Option.some.inj e : _ = v) ▸ a⟩
  | _, _, i + 1, v, .cons _ b, e => b.get (i := i) (by simpa using e)
theorem FlAll.append : ∀ {vs ws : List V} {ds es : List PyData}, FlAll K H vs ds → FlAll K H ws es → FlAll K H (vs ++ ws) (ds ++ es)
  | _, _, _, _, .nil, b => b
  | _, _, _, _, .cons x a, b => .cons x (a.append b)
theorem FlAll.take : ∀ {vs : List V} {ds : List PyData} (n : Nat), FlAll K H vs ds → FlAll K H (vs.take n) (ds.take n)
  | _, _, 0, _ => .nil
  | _, _, _ + 1, .nil => .nil
  | _, _, n + 1, .cons x a => .cons x (a.take n)
theorem FlAll.drop : ∀ {vs : List V} {ds : List PyData} (n : Nat), FlAll K H vs ds → FlAll K H (vs.drop n) (ds.drop n)
  | _, _, 0, r => r
  | _, _, _ + 1, .nil => .nil
  | _, _, n + 1, .cons _ a => a.drop n
theorem FlAll.snoc {vs : List V} {ds : List PyData} {v : V} {d : PyData} (a : FlAll K H vs ds) (b : Fl K H v d) : FlAll K H (vs ++ [v]) (ds ++ [d]) := a.append (.cons b .nil)
end
end Ls
end

section
set_option Elab.async false
set_option linter.all false
set_option maxRecDepth 100000
set_option maxHeartbeats 4000000
namespace Ls
open PySem PySem.Spec PyProof.Rows L2
/-- the pot: two numbers -/
def Pt (H : Hp) (p : Addr) : Prop := ∃ a b : Int, H p = some (.lst [.int a, .int b]) ∧ 0 ≤ a ∧ 0 ≤ b ∧ b < 2147483648
theorem Pt.ex {H H' : Hp} {p : Addr} (h : Pt H p) (e : Ex H H') : Pt H' p := let ⟨a, b, h1, h2⟩ := h; ⟨a, b, e _ _ h1, h2⟩
theorem Pt.et {H H' : Hp} {p : Addr} (h : Pt H p) (e : Em p H H') : Et H H' := let ⟨a, b, h1, _⟩ := h; e.et h1
theorem Pt.ne {H : Hp} {p q : Addr} (h : Pt H p) (n : H q = none) : p ≠ q := let ⟨a, b, h1, _⟩ := h; ne_of_none h1 n
theorem Pt.put {H : Hp} {p q : Addr} {o : HO} (h : Pt H p) (n : p ≠ q) : Pt (upd H q o) p := let ⟨a, b, h1, h2⟩ := h; ⟨a, b, by rw [upd_ne n]; exact h1, h2⟩
theorem seq_em {K : PySem.W.Frag} {p l : Addr} {xs : List V} {H H' : Hp} (h : SqL K H l xs) (n : l ≠ p) (e : Em p H H') : SqL K H' l xs := by
  rcases h with (h | ⟨o, h⟩) | h
  · exact .inl (.inl (e _ _ n h))
  · exact .inl (.inr ⟨o, e _ _ n h⟩)
  · exact .inr h
theorem seq_new {K : PySem.W.Frag} {p l : Addr} {xs : List V} {H H1 H2 : Hp} (h : SqL K H l xs) (n : H p = none) (e : Ex H H1) (m : Em p H1 H2) : SqL K H2 l xs := by
  rcases h with (h | ⟨o, h⟩) | h
  · exact .inl (.inl (m _ _ (ne_of_none h n) (e _ _ h)))
  · exact .inl (.inr ⟨o, m _ _ (ne_of_none h n) (e _ _ h)⟩)
  · exact .inr h
def sp_pot (K : PySem.W.Frag) : Sp := fun vs H Q _ => ∃ (s : Addr) (ns : List Int) (k : Nat), vs = [.ref s, .int k] ∧ SqL K H s (ns.map V.int) ∧ k ≤ 100 ∧ ∀ p H', H p = none → Ex H H' → Pt H' p → Q (.ref p) H'
def sp_digit : Sp := fun vs H Q _ => ∃ (p : Addr) (m : Int), vs = [.ref p, .int m] ∧ Pt H p ∧ 0 < m ∧ m < 1073741824 ∧ ∀ (d : Int) H', 0 ≤ d → d < m → Pt H' p → Em p H H' → Q (.int d) H'
def sp_pick (K : PySem.W.Frag) : Sp := fun vs H Q _ => ∃ (p l : Addr) (xs : List V), vs = [.ref p, .ref l] ∧ Pt H p ∧ SqL K H l xs ∧ l ≠ p ∧ 0 < xs.length ∧ xs.length ≤ 1000 ∧ ∀ (v : V) H', v ∈ xs → Pt H' p → Em p H H' → Q v H'
def sp_int : Sp := fun vs H Q _ => ∃ p : Addr, vs = [.ref p] ∧ Pt H p ∧ ∀ (i : Int) H', i.natAbs ≤ 10 ^ 21 → Pt H' p → Em p H H' → Q (.int i) H'
section
variable {σ : L2.St} {H : Hp} {Q : VK} {K : PySem.W.Frag} {te : TE} {vs : List Nat}
/-- [f(x) for x in t], t a tuple of data, f a function of the data -/
theorem k_lcDt {a : Addr} {xs : List V} {ds : List PyData} {i0 : Nat} (f : PyData → V) (hS : SqT K H a xs) (hD : DtAll K H xs ds) (hz : xs.length ≤ 99999)
    (hs : ∀ x d H1 (Q1 : VK), d ∈ ds → Ex H H1 → Dt K H1 x d → (∀ H2, Ex H1 H2 → Q1 (f d) H2) → te ((wipe σ vs).set i0 (some x)) H1 Q1)
    (hw : ∀ x, wipe ((wipe σ vs).set i0 (some x)) vs = wipe σ vs) (q : ∀ D H2, H D = none → Ex H H2 → H2 D = some (.lst (ds.map f)) → Q (.ref D) H2) : kLc (Itt K a) (gName i0) tYes te vs σ H Q := by
  refine k_lcT (xs := xs) (fun j ys H' => Ex H H' ∧ ys = (ds.take j).map f) (fun D n => ⟨Ex.new n, rfl⟩) (fun j ys H' _ p => p.1.st hS) (fun D j x ys H' n hx hj hl hHD p => ?_) hw fun D ys H' n hl hHD p => ?_
  · obtain ⟨e, rfl⟩ := p
    obtain ⟨d, hd, hf⟩ := hD.get hx
    refine hs x d H' _ (List.mem_of_getElem? hd) e (hf.mono e) fun H2 e2 => k_turn (e2 _ _ hHD) hl (by omega) ⟨Ex.putN (e.trans e2) n, ?_⟩
    rw [List.take_add_one, hd, List.map_append]
    rfl
  · obtain ⟨e, rfl⟩ := p
    refine q D H' n e ?_
    rw [hHD, hD.length, List.take_length]
/-- [draw for k in range(n)]: what each draw gives keeps G; G is kept where tuples stand -/
theorem k_lcPot {p : Addr} {lo : Int} {n : Nat} {i0 : Nat} (G : V → Hp → Prop) (gm : ∀ y H H', Et H H' → G y H → G y H') (hP : Pt H p) (hz : n ≤ 99999)
    (hs : ∀ (j : Nat) H1 (Q1 : VK), j < n → Em p H H1 → Pt H1 p → (∀ y H2, Em p H1 H2 → Pt H2 p → G y H2 → Q1 y H2) → te ((wipe σ vs).set i0 (some (.int (lo + j)))) H1 Q1)
    (hw : ∀ x, wipe ((wipe σ vs).set i0 (some x)) vs = wipe σ vs) (q : ∀ D ys H2, H D = none → Em p H H2 → Pt H2 p → H2 D = some (.lst ys) → ys.length = n → (∀ y, y ∈ ys → G y H2) → Q (.ref D) H2) : kLc (Itr lo n) (gName i0) tYes te vs σ H Q := by
  refine k_lcR (fun j ys H' => Em p H H' ∧ Pt H' p ∧ ∀ y, y ∈ ys → G y H') (fun D n => ⟨(Ex.new n).em p, hP.put (hP.ne n), fun _ h => nomatch h⟩) (fun D j ys H' nD hj hl hHD c => ?_) hw fun D ys H' nD hl hHD c => ?_
  · obtain ⟨e, hP', g⟩ := c
    have npD : D ≠ p := fun z => by obtain ⟨_, _, h, _⟩ := hP; rw [z] at nD; rw [nD] at h; cases h
    refine hs j H' _ hj e hP' fun y H2 e2 P2 gy => k_turn (e2 _ _ npD hHD) hl (by omega) ⟨(e.trans e2).putN nD, P2.put npD.symm, fun z hz => ?_⟩
    have t2 : Et H2 (upd H2 D (.lst (ys ++ [y]))) := Et.putL (e2 _ _ npD hHD)
    rcases List.mem_append.mp hz with hz | hz
    · exact gm _ _ _ ((hP'.et e2).trans t2) (g z hz)
    · have : z = y := by simpa using hz
      subst this
      exact gm _ _ _ t2 gy
  · exact q D ys H' nD c.1 c.2.1 hHD hl c.2.2
end
/-- values that bear data, one by one -/
theorem fl_all {K : PySem.W.Frag} {H : Hp} {G : PyData → Prop} : ∀ {ys : List V}, (∀ y, y ∈ ys → ∃ d, Fl K H y d ∧ G d) → ∃ ds, FlAll K H ys ds ∧ ∀ d, d ∈ ds → G d
  | [], _ => ⟨[], .nil, fun _ h => nomatch h⟩
  | y :: ys, h => by
    obtain ⟨d, h1, h2⟩ := h y List.mem_cons_self
    obtain ⟨ds, h3, h4⟩ := fl_all (ys := ys) fun z hz => h z (List.mem_cons_of_mem _ hz)
    exact ⟨d :: ds, .cons h1 h3, fun e he => (List.mem_cons.mp he).elim (fun z => z ▸ h2) (h4 e)⟩
end Ls
end

section
set_option Elab.async false
set_option linter.all false
set_option maxRecDepth 100000
set_option maxHeartbeats 4000000
namespace Ls
open PySem PySem.Spec PyProof.Rows L2
/- how deep tuples lie within tuples -/
mutual
def tdp : PyData → Nat
  | .tuple ds => 1 + tdpL ds
  | _ => 0
def tdpL : List PyData → Nat
  | [] => 0
  | d :: ds => max (tdp d) (tdpL ds)
end
mutual
/-- an integer, or a tuple of at most forty such things -/
def nsD : PyData → Bool
  | .int _ => true
  | .tuple ds => decide (ds.length ≤ 40) && nsL ds
  | _ => false
def nsL : List PyData → Bool
  | [] => true
  | d :: ds => nsD d && nsL ds
end
/-- an integer's signs -/
def szI (i : Int) : Int := ((Str.ofString (toString (if i < 0 then -i else i))).length : Nat) + (if decide (i < 0) = true then 1 else 0)
mutual
def szD : PyData → Int
  | .int i => szI i
  | .tuple ds => 1 + szL ds
  | _ => 1
def szL : List PyData → Int
  | [] => 0
  | d :: ds => szD d + szL ds
end
mutual
/-- all integers within have at most 4,300 digits -/
def smD : PyData → Bool
  | .int i => decide (i.natAbs < DL)
  | .tuple ds => smL ds
  | _ => true
def smL : List PyData → Bool
  | [] => true
  | d :: ds => smD d && smL ds
end
def isD (d : PyData) : Bool := nsD d && (decide ((tdp d : Int) ≤ 4) && decide (szD d ≤ 1000))
theorem tdp_mem : ∀ {ds : List PyData} {d : PyData}, d ∈ ds → tdp d ≤ tdpL ds
  | d' :: ds, d, h => by
    rw [tdpL]
    rcases List.mem_cons.mp h with rfl | h
    · exact Nat.le_max_left _ _
    · exact Nat.le_trans (tdp_mem h) (Nat.le_max_right _ _)
theorem tdp_tup {ds : List PyData} {d : PyData} {n : Nat} (h : tdp (.tuple ds) < n + 1) (hd : d ∈ ds) : tdp d < n := by
  rw [tdp] at h
  have := tdp_mem hd
  omega
theorem nsL_all : ∀ ds : List PyData, nsL ds = (ds.map nsD).all id
  | [] => rfl
  | d :: ds => by rw [nsL, nsL_all ds]; rfl
theorem nsL_mem {ds : List PyData} (h : nsL ds = true) {d : PyData} (hd : d ∈ ds) : nsD d = true := by
  rw [nsL_all, List.all_eq_true] at h
  exact h _ (List.mem_map.mpr ⟨d, hd, rfl⟩)
theorem smL_mem : ∀ {ds : List PyData}, smL ds = true → ∀ {d : PyData}, d ∈ ds → smD d = true
  | d' :: ds, h, d, hd => by
    rw [smL, Bool.and_eq_true] at h
    rcases List.mem_cons.mp hd with rfl | hd
    · exact h.1
    · exact smL_mem h.2 hd
theorem szL_sum : ∀ ds : List PyData, szL ds = (ds.map szD).sum
  | [] => rfl
  | d :: ds => by rw [szL, szL_sum ds]; rfl
/-- the greatest of some depths -/
theorem tdpL_max {ds : List PyData} {m : Int} (h0 : ds.map (fun d => (tdp d : Int)) = [] → m = 0) (h1 : ds.map (fun d => (tdp d : Int)) ≠ [] → m ∈ ds.map (fun d => (tdp d : Int)) ∧ ∀ z, z ∈ ds.map (fun d => (tdp d : Int)) → z ≤ m) : m = (tdpL ds : Int) := by
  have key : ∀ l : List PyData, l ≠ [] → ∃ d ∈ l, tdp d = tdpL l := by
    intro l
    induction l with
    | nil => intro h; exact absurd rfl h
    | cons a l ih =>
      intro _
      rw [tdpL]
      by_cases e : l = []
      · subst e
        exact ⟨a, List.mem_cons_self, by rw [tdpL]; omega⟩
      · obtain ⟨d, hd, he⟩ := ih e
        by_cases c : tdpL l ≤ tdp a
        · exact ⟨a, List.mem_cons_self, by omega⟩
        · exact ⟨d, List.mem_cons_of_mem _ hd, by omega⟩
  by_cases e : ds = []
  · subst e
    rw [h0 rfl]
    rfl
  · obtain ⟨hm, hle⟩ := h1 (by intro z; exact e (List.map_eq_nil_iff.mp z))
    obtain ⟨d, hd, he⟩ := key ds e
    have a1 : ((tdpL ds : Nat) : Int) ≤ m := by rw [← he]; exact hle _ (List.mem_map.mpr ⟨d, hd, rfl⟩)
    obtain ⟨d2, hd2, he2⟩ := List.mem_map.mp hm
    have := tdp_mem hd2
    omega
def sp_isint (K : PySem.W.Frag) : Sp := fun vs H Q _ => ∃ v d, vs = [v] ∧ Dt K H v d ∧ Q (.bl (match d with | .int _ => true | _ => false)) H
def sp_nested (K : PySem.W.Frag) (n : Nat) : Sp := fun vs H Q _ => ∃ v d, vs = [v] ∧ Dt K H v d ∧ tdp d < n ∧ ∀ H', Ex H H' → Q (.bl (nsD d)) H'
def sp_depth (K : PySem.W.Frag) (n : Nat) : Sp := fun vs H Q _ => ∃ v d, vs = [v] ∧ Dt K H v d ∧ nsD d = true ∧ tdp d < n ∧ ∀ H', Ex H H' → Q (.int (tdp d : Nat)) H'
def sp_dsize (K : PySem.W.Frag) (n : Nat) : Sp := fun vs H Q _ => ∃ v d, vs = [v] ∧ Dt K H v d ∧ nsD d = true ∧ smD d = true ∧ tdp d < n ∧ ∀ H', Ex H H' → Q (.int (szD d)) H'
def sp_isdatum (K : PySem.W.Frag) (n : Nat) : Sp := fun vs H Q _ => ∃ v d, vs = [v] ∧ Dt K H v d ∧ smD d = true ∧ tdp d < n ∧ ∀ H', Ex H H' → Q (.bl (isD d)) H'
/-- FAULT -/
def isF (d : PyData) : Bool := match d with | .str x => decide (x = "fault") | _ => false
def sp_isfault (K : PySem.W.Frag) : Sp := fun vs H Q _ => ∃ v d, vs = [v] ∧ Dt K H v d ∧ Q (.bl (isF d)) H
def sp_isvalue (K : PySem.W.Frag) (n : Nat) : Sp := fun vs H Q _ => ∃ v d, vs = [v] ∧ Dt K H v d ∧ smD d = true ∧ tdp d < n ∧ ∀ H', Ex H H' → Q (.bl (isF d || isD d)) H'
end Ls
end

section
set_option Elab.async false
set_option linter.all false
set_option maxRecDepth 100000
set_option maxHeartbeats 4000000
namespace Ls
open PySem PySem.Spec PyProof.Rows L2 SX
/-- the signs of a whole number -/
def intL (i : Int) : List Nat := if i < 0 then 45 :: TL.numL i.natAbs else TL.numL i.natAbs
theorem str_int (i : Int) : Str.ofString (toString i) = S (intL i) := by
  cases i with
  | ofNat n =>
    have h : ¬ (Int.ofNat n < 0) := fun z => nomatch z
    unfold intL
    rw [if_neg h]
    exact num_S n
  | negSucc n =>
    have h : Int.negSucc n < 0 := Int.negSucc_lt_zero n
    unfold intL
    rw [if_pos h]
    have e : toString (Int.negSucc n) = "-" ++ toString ((n + 1 : Nat) : Int) := by
      show Int.repr (Int.negSucc n) = "-" ++ Int.repr (Int.ofNat (n + 1))
      rfl
    have e2 : (Int.negSucc n).natAbs = n + 1 := rfl
    rw [e, e2]
    have e3 : Str.ofString ("-" ++ toString ((n + 1 : Nat) : Int)) = Str.ofString "-" ++ Str.ofString (toString ((n + 1 : Nat) : Int)) := by
      refine TL.ext_tl ?_
      rw [TL.tl_append, TL.tl_ofString, TL.tl_ofString, TL.tl_ofString]
      simp
    rw [e3, num_S]
    have e4 : Str.ofString "-" = S [45] := by decide +kernel
    rw [e4, S_cat]
    rfl
theorem abs_if (i : Int) : (if i < 0 then -i else i) = ((i.natAbs : Nat) : Int) := by
  split <;> omega
theorem intL_len (i : Int) : szI i = ((intL i).length : Nat) := by
  unfold szI
  rw [abs_if, num_S, S_len]
  unfold intL
  by_cases h : i < 0
  · rw [if_pos (decide_eq_true h), if_pos h, List.length_cons]
    omega
  · rw [if_neg (by simp [h]), if_neg h]
    omega
theorem numL_head (n : Nat) : ∃ c r, TL.numL n = c :: r ∧ 48 ≤ c ∧ c ≤ 57 ∧ (c = 48 → r = []) := by
  induction n using Nat.strongRecOn with
  | _ n ih =>
    by_cases h : n < 10
    · exact ⟨48 + n, [], TL.numL_lt h, by omega, by omega, fun _ => rfl⟩
    · obtain ⟨c, r, e, h1, h2, h3⟩ := ih (n / 10) (by omega)
      refine ⟨c, r ++ [48 + n % 10], by rw [TL.numL_step (by omega), e]; rfl, h1, h2, fun z => ?_⟩
      exfalso
      subst z
      rw [h3 rfl] at e
      have v := congrArg PySem.NumText.digitsVal e
      rw [TL.numL_val] at v
      have : PySem.NumText.digitsVal [48] = 0 := by decide
      omega
theorem intL_head (i : Int) : ∃ c r, intL i = c :: r ∧ (c = 45 ∨ (48 ≤ c ∧ c ≤ 57)) := by
  obtain ⟨c, r, e, h1, h2, _⟩ := numL_head i.natAbs
  unfold intL
  split
  · exact ⟨45, _, rfl, .inl rfl⟩
  · exact ⟨c, r, e, .inr ⟨h1, h2⟩⟩
/- the text of data -/
mutual
def txD : PyData → List Nat
  | .int i => intL i
  | .tuple ds => 91 :: (txL ds ++ [93])
  | _ => [102, 97, 117, 108, 116]
def txL : List PyData → List Nat
  | [] => []
  | d :: ds => txD d ++ txM ds
def txM : List PyData → List Nat
  | [] => []
  | d :: ds => 44 :: (txD d ++ txM ds)
end
theorem txD_head (d : PyData) : ∃ c r, txD d = c :: r ∧ c ≠ 93 ∧ c ≠ 44 ∧ (nsD d = true → c ≠ 102) := by
  cases d with
  | int i =>
    obtain ⟨c, r, e, h⟩ := intL_head i
    exact ⟨c, r, by rw [txD, e], by omega, by omega, fun _ => by omega⟩
  | tuple ds => exact ⟨91, _, rfl, by decide, by decide, fun _ => by decide⟩
  | none => exact ⟨102, _, rfl, by decide, by decide, fun h => by simp [nsD] at h⟩
  | bool b => exact ⟨102, _, rfl, by decide, by decide, fun h => by simp [nsD] at h⟩
  | str x => exact ⟨102, _, rfl, by decide, by decide, fun h => by simp [nsD] at h⟩
  | list x => exact ⟨102, _, rfl, by decide, by decide, fun h => by simp [nsD] at h⟩
  | dict x => exact ⟨102, _, rfl, by decide, by decide, fun h => by simp [nsD] at h⟩
theorem txL_join : ∀ ds : List PyData, txL ds = TL.joinL [44] (ds.map txD)
  | [] => by rw [txL]; rfl
  | d :: ds => by
    have key : ∀ (es : List PyData) (d : PyData), txD d ++ txM es = TL.joinL [44] ((d :: es).map txD) := by
      intro es
      induction es with
      | nil => intro d; rw [txM, List.append_nil]; rfl
      | cons e es ih =>
        intro d
        rw [txM, ih e]
        rfl
    rw [txL]
    exact key ds d
mutual
theorem szD_pos : ∀ d : PyData, nsD d = true → 1 ≤ szD d
  | .int i, _ => by
    rw [szD, intL_len]
    obtain ⟨c, r, e, _⟩ := intL_head i
    rw [e, List.length_cons]
    omega
  | .tuple ds, h => by
    rw [nsD, Bool.and_eq_true] at h
    rw [szD]
    have := szL_nn ds h.2
    omega
  | .none, h => by simp [nsD] at h
  | .bool _, h => by simp [nsD] at h
  | .str _, h => by simp [nsD] at h
  | .list _, h => by simp [nsD] at h
  | .dict _, h => by simp [nsD] at h
theorem szL_nn : ∀ ds : List PyData, nsL ds = true → 0 ≤ szL ds
  | [], _ => by rw [szL]; exact Int.le_refl _
  | d :: ds, h => by
    rw [nsL, Bool.and_eq_true] at h
    rw [szL]
    have := szD_pos d h.1
    have := szL_nn ds h.2
    omega
end
theorem szL_mem {ds : List PyData} (h : nsL ds = true) : ∀ {d : PyData}, d ∈ ds → szD d ≤ szL ds := by
  induction ds with
  | nil => intro d hd; cases hd
  | cons e ds ih =>
    intro d hd
    rw [nsL, Bool.and_eq_true] at h
    rw [szL]
    have h1 := szD_pos e h.1
    have h2 := szL_nn ds h.2
    rcases List.mem_cons.mp hd with rfl | hd
    · omega
    · have := ih h.2 hd
      omega
mutual
theorem txD_len : ∀ d : PyData, nsD d = true → ((txD d).length : Int) + 1 ≤ 3 * szD d
  | .int i, h => by
    have := szD_pos (.int i) h
    rw [szD] at this ⊢
    rw [txD, ← intL_len]
    omega
  | .tuple ds, h => by
    rw [nsD, Bool.and_eq_true] at h
    rw [szD, txD, List.length_cons, List.length_append, List.length_singleton]
    have := txL_len ds h.2
    omega
  | .none, h => by simp [nsD] at h
  | .bool _, h => by simp [nsD] at h
  | .str _, h => by simp [nsD] at h
  | .list _, h => by simp [nsD] at h
  | .dict _, h => by simp [nsD] at h
theorem txL_len : ∀ ds : List PyData, nsL ds = true → ((txL ds).length : Int) ≤ 3 * szL ds
  | [], _ => by rw [txL, szL]; exact Int.le_refl _
  | d :: ds, h => by
    rw [nsL, Bool.and_eq_true] at h
    rw [txL, szL, List.length_append]
    have := txD_len d h.1
    have := txM_len ds h.2
    omega
theorem txM_len : ∀ ds : List PyData, nsL ds = true → ((txM ds).length : Int) ≤ 3 * szL ds
  | [], _ => by rw [txM, szL]; exact Int.le_refl _
  | d :: ds, h => by
    rw [nsL, Bool.and_eq_true] at h
    rw [txM, szL, List.length_cons, List.length_append]
    have := txD_len d h.1
    have := txM_len ds h.2
    omega
end
theorem int_digits {n : Nat} (h : n < DL) : (TL.numL n).length ≤ 4300 := TL.numL_len (by decide) (show n < 10 ^ 4300 from h)
/-- slices of codes -/
theorem cut_mid {l : List Nat} {i j : Nat} : cutS (S l) (some (i : Int)) (some (j : Int)) = S ((l.drop i).take (j - i)) := by
  refine TL.ext_tl ?_
  show ((S l).cps.toList.drop (HT.sIx (S l).length 0 (some (i : Int)))).take (HT.sIx (S l).length (S l).length (some (j : Int)) - HT.sIx (S l).length 0 (some (i : Int))) = (l.drop i).take (j - i)
  rw [HT.sIx_nat, HT.sIx_nat, S_len]
  show (l.drop (min i l.length)).take (min j l.length - min i l.length) = _
  by_cases h : i ≤ l.length
  · rw [Nat.min_eq_left h]
    by_cases h2 : j ≤ l.length
    · rw [Nat.min_eq_left h2]
    · rw [Nat.min_eq_right (by omega), List.take_of_length_le (by rw [List.length_drop]; exact Nat.le_refl _), List.take_of_length_le (by rw [List.length_drop]; omega)]
  · have e : min i l.length = l.length := Nat.min_eq_right (by omega)
    rw [e, List.drop_eq_nil_of_le (Nat.le_refl _), List.drop_eq_nil_of_le (by omega : l.length ≤ i)]
    simp
theorem int_back {i : Int} (h : (intL i).length ≤ 4300) : PySem.intText? (S (intL i)) = some i := by
  unfold intL at h ⊢
  by_cases hi : i < 0
  · rw [if_pos hi] at h ⊢
    rw [List.length_cons] at h
    have e := PySem.intText_neg (x := S (45 :: TL.numL i.natAbs)) (cs := TL.numL i.natAbs) rfl (TL.numL_digits _) (TL.numL_ne _) (by rw [S_len, List.length_cons]; omega)
    rw [TL.numL_val] at e
    rw [e]
    congr 1
    omega
  · rw [if_neg hi] at h ⊢
    have e := int_S (a := TL.numL i.natAbs) (List.all_eq_true.mpr fun c hc => by
      have z := TL.numL_digits i.natAbs c hc
      simpa using z) (TL.numL_ne _) (by omega)
    rw [TL.numL_val] at e
    rw [e]
    congr 1
    omega
end Ls
end

section
set_option Elab.async false
set_option linter.all false
set_option maxRecDepth 100000
set_option maxHeartbeats 4000000
namespace Ls
open PySem PySem.Spec PyProof.Rows L2
theorem meets_enum_new {l : Addr} {o : Obj} {H : Heap → Prop} (B : Begins (.ref l) o H) :
    Meets (Builtin.«enumerate.__new__» ⟨[.type "enumerate", .ref l], []⟩) (fun _ R s => H s.heap ∧
      R (.ok (.ret (.ref (s.heap.push o).objs.size))) { s with heap := (s.heap.push o).push { cls := .type "enumerate", data := .fields #[.none, .bool false, .ref s.heap.objs.size, rawInt 0, .none, .none] } }) :=
  .of_wp fun prog w A R s h => by
    obtain ⟨hp, g, d, tk, os⟩ := s; obtain ⟨h1, h⟩ := h
    have hsub := sub_enumerate
    have q1 : ∀ {A' : Around} {E : Value → Shared → Prop} {Q : Value → Shared → Prop}, Q (.ref hp.objs.size) ⟨hp.push o, g, d, tk, os⟩ → wpAny (model prog w) A' (pyIter (.ref l)) Q E ⟨hp, g, d, tk, os⟩ :=
      fun q => B.iter prog w _ _ ⟨hp, g, d, tk, os⟩ _ h1 q
    wp_walk using q1
    refine wpAny_stack_any fun st => wpAny_pure ?_
    split
    · rename_i c _ _ _ _ _
      cases (c == Value.type "enumerate")
      · wp_walk using q1
        exact ⟨_, rfl, h⟩
      · wp_walk using q1
        exact ⟨_, rfl, h⟩
    · wp_walk using q1
      exact ⟨_, rfl, h⟩
theorem enum_new {prog : Program} {w : World} {A : Around} {E : Value → Shared → Prop} {s : Shared} {l : Addr} {o : Obj} {H : Heap → Prop} {Q : Value → Shared → Prop} (B : Begins (.ref l) o H) (h1 : H s.heap)
    (h : ∀ h', IsEnum h' (s.heap.objs.size + 1) s.heap.objs.size 0 .none → h'.get? s.heap.objs.size = some o → h'.objs.size = s.heap.objs.size + 2 →
      (∀ b o, s.heap.get? b = some o → h'.get? b = some o) → Q (.ref (s.heap.objs.size + 1)) { s with heap := h' }) :
    wpAny (model prog w) A (call (.type "enumerate") [.ref l]) Q E s := by
  refine callType_new F.called_enumerate (by decide) (F.typeCall_enumerate_1 _) (F.newCall_enumerate_1 _) (fun obj => F.args_object_init_2 obj _) F.entry_enumerate_new
    (meets_enum_new B) ⟨h1, ?_⟩
  have hz : (s.heap.push o).objs.size = s.heap.objs.size + 1 := Heap.size_push ..
  show _ ∧ _
  rw [hz]
  have he : IsEnum ((s.heap.push o).push { cls := .type "enumerate", data := .fields #[.none, .bool false, .ref s.heap.objs.size, rawInt 0, .none, .none] }) (s.heap.objs.size + 1) s.heap.objs.size 0 .none := by
    have := Heap.get?_push_size (s.heap.push o) (o := { cls := .type "enumerate", data := .fields #[.none, .bool false, .ref s.heap.objs.size, rawInt 0, .none, .none] }) rfl
    rw [hz] at this; exact this
  refine ⟨⟨_, he, rfl⟩, h _ he (Heap.get?_push_of_some _ (Heap.get?_push_size _ B.free)) (by rw [Heap.size_push, hz]) fun b o x => Heap.get?_push_of_some _ (Heap.get?_push_of_some _ x)⟩
/-- the tuple at a, each item in a new pair -/
def Iteu (K : PySem.W.Frag) (a : Addr) : It :=
  ⟨fun i H => ∃ (xs : List V) (x : V), SqT K H a xs ∧ xs[i]? = some x, fun i H v H' => ∃ T x, v = .ref T ∧ H T = none ∧ H' = upd H T (.tup [.int (i : Nat), x]) ∧ ∀ xs, SqT K H a xs → xs[i]? = some x, fun i H => ∃ xs : List V, SqT K H a xs ∧ xs.length ≤ i⟩
theorem tup_not_iter {h : Heap} {a it : Addr} {i : Nat} {items : Array Value} (st : h.IsTupleIter it a i) (p : h.IsTuple a items) : a ≠ it := by
  intro e
  subst e
  obtain ⟨o, ho, hc, hd⟩ := st
  obtain ⟨o', ho', hc', _⟩ := p
  rw [ho] at ho'
  cases ho'
  rw [hc] at hc'
  exact absurd hc' (by decide)
theorem turn_enumT {P : Program} {w : World} {K : PySem.W.Frag} {elts : List Expr} {kk : Nat} {tpos : Pos} (a e it : Addr) :
    Turn P w K (.Tuple elts kk tpos) (Iteu K a) [e, it] e (fun i h => (∃ old, IsEnum h e it ((i : Nat) : Int) old) ∧ h.IsTupleIter it a i ∧ e ≠ it) where
  mem := by simp
  obj := fun i h st b hb => by
    obtain ⟨⟨old, he⟩, ⟨o, ho, hc, hd⟩, _⟩ := st
    have e' : b = e ∨ b = it := by simpa using hb
    rcases e' with z | z
    · rw [z]; exact ⟨_, he, fun v q => nomatch q⟩
    · rw [z]; exact ⟨o, ho, fun v q => by rw [hd] at q; cases q⟩
  keep := fun i h h' st k => let ⟨⟨old, he⟩, hi, hne⟩ := st; ⟨⟨old, k e (by simp) _ he⟩, hi.at fun o q => k it (by simp) o q, hne⟩
  item := by
    intro X hP hw hK hc i pins s σ H E I hf st hg
    subst hP hw hK
    obtain ⟨⟨old, he⟩, hit, hne⟩ := st
    obtain ⟨xs, x, hq, hx⟩ := hg
    obtain ⟨its, rv, p, hz⟩ := I.tuple hq
    obtain ⟨u, hu, ru⟩ := rv.get hx
    have hel : e < s.heap.objs.size := Heap.lt_size he
    have hil : it < s.heap.objs.size := by obtain ⟨_, q, _⟩ := hit; exact Heap.lt_size q
    have pt : s.heap.IsTuple a its.toArray := p
    have ni : a ≠ it := tup_not_iter hit pt
    have nea : e ≠ a := by
      intro z
      subst z
      obtain ⟨o', ho', hc', _⟩ := pt
      have he' := he
      unfold IsEnum at he'
      rw [he'] at ho'
      cases ho'
      have z2 : Value.type "enumerate" = Value.type "tuple" := hc'
      exact absurd z2 (by decide)
    have hi : i < its.toArray.size := by
      have := (List.getElem?_eq_some_iff.mp hu).1
      simpa using this
    refine wpAny_pyNext_enum_itemD (Draws.tuple (A := X.A.in1) (show X.A.in1.handled = none from I.ok.hd hc) it a ni its.toArray) he ⟨hit, pt⟩ hi hne (by simp [hne, nea]) fun x' h' tk hx' ho st' hT hsz hk => ?_
    have : x' = u := by
      have : its.toArray[i]? = some u := by simpa using hu
      rw [this] at hx'
      exact (Option.some.inj hx').symm
    subst this
    obtain ⟨hit', pt'⟩ := st'
    refine ⟨_, rfl, wpAny_letOwnedTupleGo_enum (s := { s with heap := h', toks := tk + 1 }) ho fun h'' he' sb => ?_⟩
    have hT2 : h''.get? s.heap.objs.size = some { cls := .type "tuple", data := .seq #[.int i tk, x'] } := (sb.2 _ (Nat.ne_of_gt hel)).trans hT
    have new : ObjOk X.prog X.w (upd H s.heap.objs.size (.tup [.int (i : Nat), x])) h'' s.heap.objs.size (.tup [.int (i : Nat), x]) :=
      ⟨by show 2 ≤ sizeLine; decide, [.int i tk, x'], .cons ⟨_, rfl⟩ (.cons ru .nil), ⟨_, hT2, rfl, _, rfl⟩⟩
    have I1 : Inv X pins σ (upd H s.heap.objs.size (.tup [.int (i : Nat), x])) { s with heap := h'', toks := tk + 1 } :=
      I.turnedNew (ch := [e, it]) (fun b ob hb q => (sb.2 b (fun z => hb (by simp [z]))).trans (hk b ob (fun z => hb (by simp [z])) (fun z => hb (by simp [z])) q)) hf (Nat.le_refl _) new
    refine ⟨.ref s.heap.objs.size, _, I1, rfl, ⟨_, x, rfl, I.hok.fresh (Nat.le_refl _), rfl, fun ys hy => by rw [I.tuple_inj hy hq]; exact hx⟩, ⟨⟨x', ?_⟩, hit'.at fun o q => (sb.2 it (Ne.symm hne)).trans q, hne⟩, fun b hb => ?_⟩
    · have e1 : ((i + 1 : Nat) : Int) = (i : Int) + 1 := by omega
      rw [e1]; exact he'
    · have hb' : b < s.heap.objs.size := by
        have e' : b = e ∨ b = it := by simpa using hb
        rcases e' with z | z
        · rw [z]; exact hel
        · rw [z]; exact hil
      rw [upd_ne (Nat.ne_of_lt hb')]
      exact (hf b hb).1
  done := by
    intro X hP hw hK hc i pins s σ H E I hf st hg
    subst hP hw hK
    obtain ⟨⟨old, he⟩, hit, hne⟩ := st
    obtain ⟨xs, hq, hx⟩ := hg
    obtain ⟨its, rv, p, hz⟩ := I.tuple hq
    have pt : s.heap.IsTuple a its.toArray := p
    obtain ⟨f0, f1, f2, f3, f4, f5⟩ := hf it (by simp)
    have hl := rv.length
    have ni : a ≠ it := tup_not_iter hit pt
    have hn : its.toArray[i]? = none := by simp; omega
    have hT : s.TypeIs (.ref e) "enumerate" := ⟨_, he, rfl⟩
    unfold pyNext
    refine wpAny_bind (wpAny_attempt (wpAny_callSpecial?_slot (name := Str.ofString "__next__") hT F.slot_enumerate_next
      (wpAny_call_entry F.slot_enumerate_next hT F.entry_enumerate_next ?_ (F.args_enumerate_next_1 _))))
    show wpAny _ _ (field (.ref e) 2 >>= _) _ _ _
    refine wpAny_bind (wpAny_field he rfl (x := .ref it) rfl ?_)
    refine wpAny_bind (wpAny_nextOf_tuple_end (show X.A.in1.handled = none from I.ok.hd hc) hit pt hn fun h' x he' hx' => ?_)
    obtain ⟨o, ho, hc⟩ := hx'
    refine wpAny_bind (wpAny_isInstance (T := "StopIteration") (b := true) ⟨o, ho, hc⟩ isSubtype_stop ?_)
    exact wpAny_pure ⟨rfl, I.turned (t' := s.toks) (fun b o hb q => he' b o hb q) f0 f1 f3 f4 f5⟩
  self := fun A i s Q E st h => let ⟨⟨_, he⟩, _⟩ := st; wpAny_pyIter_enum he h
def kEnum (K : PySem.W.Frag) (vs : List V) (R : It → Hp → Prop) (H1 : Hp) : Prop := ∃ a, vs = [.ref a] ∧ (((∃ xs, SqL K H1 a xs) ∧ R (Ite K a) H1) ∨ ((∃ xs, SqT K H1 a xs) ∧ R (Iteu K a) H1))
def iEnumU (K : PySem.W.Frag) (ta : TA) : TI := fun σ H R => ta σ H fun vs H1 => kEnum K vs R H1
theorem pi_enumU {X : Cx} {e : Expr} {ta : TA} {p pos tpos : Pos} {elts : List Expr} {kk : Nat} (hg : Gl X "enumerate") (hm : X.mg "enumerate" = none) (ha : PA X [e] ta) (hs : starEach [e] X.env = [(false, eval e X.env)] := by rfl) :
    PI X (.Tuple elts kk tpos) (.Call (.Name "enumerate" p) [e] [] pos) (iEnumU X.K ta) := by
  refine ⟨fun pins s σ H R I h => ?_⟩
  refine Call_ (ld_blt I hg hm boot_enumerate (PyProof.Rows.callWith_type1 (thn (ha.run pos pins s σ H _ I h) fun us s1 ⟨vs, H1, I1, r1, q1⟩ => ?_) hs rfl))
  obtain ⟨a, ex, q⟩ := q1
  subst ex
  cases r1 with
  | cons r rr =>
    cases rr
    cases r
    have fp : ∀ b ∈ [s1.heap.objs.size + 1, s1.heap.objs.size], FpOk X pins H1 b := fun b hb => by
      have e' : b = s1.heap.objs.size + 1 ∨ b = s1.heap.objs.size := by simpa using hb
      have hle : s1.heap.objs.size ≤ b := by
        rcases e' with z | z
        · rw [z]; exact Nat.le_add_right _ _
        · rw [z]; exact Nat.le_refl _
      exact I1.fpOk hle (I1.hok.fresh hle)
    rcases q with ⟨⟨xs, hq⟩, q⟩ | ⟨⟨xs, hq⟩, q⟩
    · obtain ⟨its, rv, p', hz⟩ := I1.list hq
      refine call_enumerate_list p'.isList fun h' he hit hsz hk => wpAny_pyIter_enum he ?_
      have I2 : Inv X pins σ H1 { s1 with heap := h' } := I1.kept (t' := s1.toks) hk
      exact ⟨s1.heap.objs.size + 1, [s1.heap.objs.size + 1, s1.heap.objs.size], _, _, H1, rfl, I2, turn_enum a (s1.heap.objs.size + 1) s1.heap.objs.size, ⟨⟨.none, he⟩, hit, Nat.succ_ne_self _⟩, fp, q⟩
    · obtain ⟨its, rv, p', hz⟩ := I1.tuple hq
      have pt : s1.heap.IsTuple a its.toArray := p'
      refine enum_new (begins_tuple a its.toArray) pt fun h' he ho hsz hk => wpAny_pyIter_enum he ?_
      have I2 : Inv X pins σ H1 { s1 with heap := h' } := I1.kept (t' := s1.toks) hk
      exact ⟨s1.heap.objs.size + 1, [s1.heap.objs.size + 1, s1.heap.objs.size], _, _, H1, rfl, I2, turn_enumT a (s1.heap.objs.size + 1) s1.heap.objs.size, ⟨⟨.none, he⟩, ⟨_, ho, rfl, rfl⟩, Nat.succ_ne_self _⟩, fp, q⟩
section
variable {σ : L2.St} {H : Hp} {K : PySem.W.Frag} {R : It → Hp → Prop} {g : TG} {tb : TS} {D : Ends} {ta : TA}
theorem i_enum (h : ta σ H fun vs H1 => kEnum K vs R H1) : iEnumU K ta σ H R := h
theorem i_eT {a : Addr} {xs : List V} (h : SqT K H a xs) (q : R (Iteu K a) H) : kEnum K [.ref a] R H := ⟨a, rfl, .inr ⟨⟨xs, h⟩, q⟩⟩
theorem i_eL {a : Addr} {xs : List V} (h : SqL K H a xs) (q : R (Ite K a) H) : kEnum K [.ref a] R H := ⟨a, rfl, .inl ⟨⟨xs, h⟩, q⟩⟩
theorem walk_enumT {a : Addr} {xs : List V} : Walk (Iteu K a) xs.length (fun H => SqT K H a xs) (YPair (fun i => some (.int (i : Nat))) (fun i => xs[i]?)) := by
  refine ⟨fun i _ hi q => ⟨xs, xs[i], q, by simp [hi]⟩, fun _ q => ⟨xs, q, Nat.le_refl _⟩, fun i H v H' _ q y => ?_⟩
  obtain ⟨T, x, h1, h2, h3, h4⟩ := y
  exact ⟨T, .int (i : Nat), x, h1, h2, h3, rfl, h4 xs q⟩
/-- for i, x in enumerate(a tuple): the pair is new -/
theorem k_forEU {a : Addr} {xs : List V} (Pv : Nat → L2.St → Hp → Prop) (h0 : Pv 0 σ H) (hl : ∀ i σ H, i ≤ xs.length → Pv i σ H → SqT K H a xs)
    (hs : ∀ i x T σ H H', xs[i]? = some x → Pv i σ H → H T = none → Ex H H' → H' T = some (.tup [.int (i : Nat), x]) → g (.ref T) σ H' fun σ2 H2 => tb { D with nx := Pv (i + 1), ct := Pv (i + 1), bk := D.nx } σ2 H2) (hd : ∀ σ H, Pv xs.length σ H → D.nx σ H) : kFor (Iteu K a) g tb D σ H :=
  for_it walk_enumT Pv h0 hl (fun i v σ H H' hi p y => by
    obtain ⟨T, x, z, h1, h2, h3, h4, h5⟩ := y
    subst h1 h3
    have e : V.int (i : Nat) = x := Option.some.inj h4
    subst e
    exact hs i z T σ H _ h5 p h2 (Ex.new h2) upd_same) hd
end
end Ls
end

section
set_option Elab.async false
set_option linter.all false
set_option maxRecDepth 100000
set_option maxHeartbeats 4000000
namespace Ls
open PySem PySem.Spec PyProof.Rows L2 SX
def kBody (Pv : Nat → L2.St → Hp → Prop) (m : Nat) (tb : TS) (D : Ends) (σ : L2.St) (H : Hp) : Prop := ∃ N : L2.St → Hp → Prop, (∀ σ' H', N σ' H' → ∃ m', m' < m ∧ Pv m' σ' H') ∧ tb { D with nx := N, ct := N, bk := D.nx } σ H
/-- sep.join(texts) -/
def rJoin (K : PySem.W.Frag) : V → List V → Hp → VK → Prop := fun x xs H Q => ∃ a p, ∃ ys : List Str, x = .str a ∧ xs = [.ref p] ∧ (SqL K H p (ys.map V.str) ∨ SqT K H p (ys.map V.str)) ∧ (ys.map (·.length)).sum + ys.length * a.length ≤ 16777216 ∧ Q (.str (Txt.join a ys)) H
theorem pe_joinU {X : Cx} {o e : Expr} {to te : TE} {apos pos : Pos} (ho : PE X o to) (he : PE X e te) (hs : starEach [e] X.env = [(false, eval e X.env)] := by rfl) (hbase : attributeBase o "join" X.env (eval o X.env) = eval o X.env := by rfl) (hline : (apos.endLine == pos.line) = true := by rfl) :
    PE X (.Call (.Attribute o "join" apos) [e] [] pos) (tM1 (rJoin X.K) to te) := pe_m1 F.slot_str_join F.type_str_join mt_join ho he hs hbase hline
section
variable {σ : L2.St} {H : Hp} {Q : VK} {K : PySem.W.Frag} {to te : TE} {D : Ends} {c : TT} {tb : TS} {t : TA} {v : V}
theorem r_m0 {r : V → List V → Hp → VK → Prop} (h : to σ H fun x H1 => (∃ a, x = .str a) ∧ r x [] H1 Q) : tM0 r to σ H Q := h
theorem r_m1 {r : V → List V → Hp → VK → Prop} (h : to σ H fun x H1 => (∃ a, x = .str a) ∧ te σ H1 fun y H2 => r x [y] H2 Q) : tM1 r to te σ H Q := h
theorem k_isS {z : Str} {A : Prop} (q : A) : (∃ a, V.str z = .str a) ∧ A := ⟨⟨z, rfl⟩, q⟩
theorem k_isL {p : Addr} {xs : List V} {A : Prop} (h : SqL K H p xs) (q : A) : tyV K "list" (.ref p) H ∧ A := ⟨.inl ⟨rfl, xs, h⟩, q⟩
theorem y_append {p : Addr} {xs : List V} (h : H p = some (.lst xs)) (hz : xs.length < sizeLine) (q : ∀ H', Em p H H' → H' p = some (.lst (xs ++ [v])) → Q .non H') : rAppend (.ref p) [v] H Q := ⟨p, xs, v, rfl, rfl, h, hz, q _ Em.put upd_same⟩
theorem y_join {a : Str} {p : Addr} {ys : List Str} (h : SqL K H p (ys.map V.str)) (hz : (ys.map (·.length)).sum + ys.length * a.length ≤ 16777216) (q : Q (.str (Txt.join a ys)) H) : rJoin K (.str a) [.ref p] H Q := ⟨a, p, ys, rfl, rfl, .inl h, hz, q⟩
/-- while, by a word with a measure -/
theorem k_while (Pv : Nat → L2.St → Hp → Prop) {m0 : Nat} (h0 : Pv m0 σ H) (hs : ∀ m σ H, Pv m σ H → c σ H fun b H1 => if b = true then kBody Pv m tb D σ H1 else D.nx σ H1) : tWhile c tb D σ H := ⟨Pv, ⟨m0, h0⟩, hs⟩
theorem k_body {Pv : Nat → L2.St → Hp → Prop} {m : Nat} (h : tb { D with nx := fun σ' H' => ∃ m', m' < m ∧ Pv m' σ' H', ct := fun σ' H' => ∃ m', m' < m ∧ Pv m' σ' H', bk := D.nx } σ H) : kBody Pv m tb D σ H := ⟨_, fun _ _ q => q, h⟩
theorem y_eqD {x y : V} {d e : PyData} (h1 : Dp K H x d) (h2 : Dp K H y e) (s1 : SeqAt.shaped d = true) (s2 : SeqAt.shaped e = true) (q : Q (.bl (PyData.eqv d e)) H) : rEqU K x y H Q := .inr (.inl ⟨d, e, h1, h2, s1, s2, q⟩)
theorem y_eqE {a b : Addr} {xs : List V} (h1 : SqL K H a xs) (h2 : SqL K H b []) (q : Q (.bl (decide (xs = []))) H) : rEqU K (.ref a) (.ref b) H Q := .inr (.inr ⟨a, b, xs, rfl, rfl, h1, h2, q⟩)
theorem y_neE {a b : Addr} {xs : List V} (h1 : SqL K H a xs) (h2 : SqL K H b []) (q : Q (.bl (!decide (xs = []))) H) : rNeU K (.ref a) (.ref b) H Q := .inr (.inr ⟨a, b, xs, rfl, rfl, h1, h2, q⟩)
theorem y_neD {x y : V} {d e : PyData} (h1 : Dp K H x d) (h2 : Dp K H y e) (s1 : SeqAt.shaped d = true) (s2 : SeqAt.shaped e = true) (q : Q (.bl (!PyData.eqv d e)) H) : rNeU K x y H Q := .inr (.inl ⟨d, e, h1, h2, s1, s2, q⟩)
theorem y_notInS {c : Nat} {z : Str} (q : Q (.bl (!decide (c ∈ z.cps.toList))) H) : rNotInU K (.str ⟨#[c]⟩) (.str z) H Q := .inr ⟨c, z, rfl, rfl, q⟩
/-- a slice of codes -/
theorem y_cut {l : List Nat} {i j : Int} {a b : Nat} (hz : l.length ≤ sizeLine) (ha : i = (a : Nat)) (hb : j = (b : Nat)) (q : Q (.str (S ((l.drop a).take (b - a)))) H) : rSlU K (.str (S l)) (some i) (some j) H Q := by
  subst ha hb
  refine .inr (.inr (y_slS (by rw [S_len]; exact hz) ?_))
  rw [cut_mid]
  exact q
theorem y_lenC {l : List Nat} (hz : l.length ≤ sizeLine) (q : Q (.int (l.length : Nat)) H) : rLen K [.str (S l)] H Q := y_lenS (by rw [S_len]; exact hz) (by rw [S_len]; exact q)
theorem y_ixC {l : List Nat} {i : Int} {c : Nat} (hz : l.length ≤ sizeLine) {a : Nat} (hi : i = (a : Nat)) (ha : l[a]? = some c) (q : Q (.str (S [c])) H) : rIx K (.str (S l)) (.int i) H Q := by
  subst hi
  exact y_ixS (by rw [S_len]; exact hz) (atI_nat ha) q
theorem y_inC {c : Nat} {l : List Nat} (q : Q (.bl (decide (c ∈ l))) H) : rInU K (.str (S [c])) (.str (S l)) H Q := y_inS q
theorem y_addC {a b : List Nat} (hz : a.length + b.length ≤ sizeLine) (q : Q (.str (S (a ++ b))) H) : rAddU K (.str (S a)) (.str (S b)) H Q := y_addS (by rw [S_len, S_len]; exact hz) (by rw [S_cat]; exact q)
theorem S_dec (a b : List Nat) : decide (S a = S b) = decide (a = b) := by
  by_cases h : a = b
  · rw [decide_eq_true h, h]; simp
  · rw [decide_eq_false h]; exact decide_eq_false fun z => h (S_inj z)
theorem y_eqC {a b : List Nat} (q : Q (.bl (decide (a = b))) H) : rEqU K (.str (S a)) (.str (S b)) H Q := y_eqS (by rw [S_dec]; exact q)
theorem y_neC {a b : List Nat} (q : Q (.bl (!decide (a = b))) H) : rNeU K (.str (S a)) (.str (S b)) H Q := y_neS (by rw [S_dec]; exact q)
/-- str(i), in codes -/
theorem y_strC {i : Int} (h : i.natAbs < DL) (q : Q (.str (S (intL i))) H) : rStrI [.int i] H Q := y_str h (by rw [show ((toString i : String) : Str) = S (intL i) from str_int i]; exact q)
theorem y_intC {l : List Nat} {n : Int} (h : PySem.intText? (S l) = some n) (hz : l.length ≤ sizeLine) (q : Q (.int n) H) : rIntU [.str (S l)] H Q := y_intS h (by rw [S_len]; exact hz) q
end
theorem iteNF {A B : Prop} (q : B) : if (!true) = true then A else B := by rw [if_neg (by decide)]; exact q
theorem iteNT {A B : Prop} (q : A) : if (!false) = true then A else B := by rw [if_pos (by decide)]; exact q
theorem ite_f {b : Bool} {A B : Prop} (h : b = false) (q : B) : if b = true then A else B := by rw [h, if_neg Bool.false_ne_true]; exact q
theorem ite_t {b : Bool} {A B : Prop} (h : b = true) (q : A) : if b = true then A else B := by rw [h, if_pos rfl]; exact q
theorem log2_of {n k : Nat} (hk : k ≠ 0) (h : n < 2 ^ k) : n.log2 < k := by
  by_cases z : n = 0
  · subst z
    rw [Nat.log2_zero]
    omega
  · exact (Nat.log2_lt z).mpr h
end Ls
end

section
set_option Elab.async false
set_option linter.all false
set_option maxRecDepth 100000
set_option maxHeartbeats 4000000
namespace Ls
open PySem PySem.Spec PyProof.Rows L2 SX
/-- a value of the package -/
def okV (n : Nat) (d : PyData) : Prop := smD d = true ∧ tdp d < n ∧ (isF d || isD d) = true
def sp_check (K : PySem.W.Frag) (n : Nat) : Sp := fun vs H Q _ => ∃ v d, vs = [v] ∧ Dt K H v d ∧ okV n d ∧ ∀ H', Ex H H' → Q .non H'
def sp_sizeof (K : PySem.W.Frag) (n : Nat) : Sp := fun vs H Q _ => ∃ v d, vs = [v] ∧ Dt K H v d ∧ okV n d ∧ ∀ H', Ex H H' → Q (.int (szD d)) H'
def sp_dtext (K : PySem.W.Frag) (n : Nat) : Sp := fun vs H Q _ => ∃ v d, vs = [v] ∧ Dt K H v d ∧ nsD d = true ∧ smD d = true ∧ szD d ≤ 1000 ∧ tdp d < n ∧ ∀ H', Ex H H' → Q (.str (S (txD d))) H'
def sp_format (K : PySem.W.Frag) (n : Nat) : Sp := fun vs H Q _ => ∃ v d, vs = [v] ∧ Dt K H v d ∧ okV n d ∧ ∀ H', Ex H H' → Q (.str (S (txD d))) H'
/-- what follows a number is no digit -/
def noDig (r : List Nat) : Prop := ∀ c, r.head? = some c → c < 48 ∨ 57 < c
def sp_rint : Sp := fun vs H Q _ => ∃ (p r : List Nat) (i : Int), vs = [.str (S (p ++ (intL i ++ r))), .int (p.length : Nat)] ∧ (p ++ (intL i ++ r)).length ≤ 10000 ∧ (intL i).length ≤ 4300 ∧ noDig r ∧
  ∀ q H', Ex H H' → H' q = some (.tup [.int i, .int ((p.length + (intL i).length : Nat) : Int)]) → Q (.ref q) H'
def sp_rdat (K : PySem.W.Frag) (n : Nat) : Sp := fun vs H Q _ => ∃ (p r : List Nat) (d : PyData) (k : Nat), vs = [.str (S (p ++ (txD d ++ r))), .int (p.length : Nat), .int (k : Nat)] ∧ (p ++ (txD d ++ r)).length ≤ 10000 ∧ smD d = true ∧ nsD d = true ∧ tdp d < n ∧ k + tdp d ≤ 4 ∧ noDig r ∧
  ∀ v q H', Ex H H' → Fl K H' v d → H' q = some (.tup [v, .int ((p.length + (txD d).length : Nat) : Int)]) → Q (.ref q) H'
def sp_rtup (K : PySem.W.Frag) (n : Nat) : Sp := fun vs H Q _ => ∃ (p r : List Nat) (ds : List PyData) (k : Nat), vs = [.str (S (p ++ (txD (.tuple ds) ++ r))), .int (p.length : Nat), .int (k : Nat)] ∧ (p ++ (txD (.tuple ds) ++ r)).length ≤ 10000 ∧ smL ds = true ∧ nsD (.tuple ds) = true ∧ tdpL ds < n ∧ k + tdpL ds ≤ 4 ∧
  ∀ v q H', Ex H H' → Fl K H' v (.tuple ds) → H' q = some (.tup [v, .int ((p.length + (txD (.tuple ds)).length : Nat) : Int)]) → Q (.ref q) H'
def sp_parse (K : PySem.W.Frag) (n : Nat) : Sp := fun vs H Q _ => ∃ d, vs = [.str (S (txD d))] ∧ okV n d ∧ ∀ v H', Ex H H' → Fl K H' v d → Q v H'
theorem q_minus : Str.ofString "-" = S [45] := by decide +kernel
theorem q_empty : Str.ofString "" = S [] := by decide +kernel
theorem q_zero : Str.ofString "0" = S [48] := by decide +kernel
theorem q_digits : Str.ofString "0123456789" = S [48, 49, 50, 51, 52, 53, 54, 55, 56, 57] := by decide +kernel
theorem q_comma : Str.ofString "," = S [44] := by decide +kernel
theorem q_open : Str.ofString "[" = S [91] := by decide +kernel
theorem q_close : Str.ofString "]" = S [93] := by decide +kernel
theorem q_fault : Str.ofString "fault" = S [102, 97, 117, 108, 116] := by decide +kernel
theorem isF_inv {d : PyData} (h : isF d = true) : d = .str (Str.ofString "fault") := by
  cases d with
  | str x =>
    have : decide (x = "fault") = true := h
    rw [of_decide_eq_true this]
  | _ => cases h
theorem isF_tx {d : PyData} (h : isF d = true) : txD d = [102, 97, 117, 108, 116] := by rw [isF_inv h]; rfl
theorem isF_sz {d : PyData} (h : isF d = true) : szD d = 1 := by rw [isF_inv h]; rfl
theorem isD_of {n : Nat} {d : PyData} (h : okV n d) (hf : isF d = false) : nsD d = true ∧ tdp d ≤ 4 ∧ szD d ≤ 1000 := by
  have z := h.2.2
  rw [hf, Bool.false_or] at z
  unfold isD at z
  simp only [Bool.and_eq_true, decide_eq_true_eq] at z
  exact ⟨z.1, by omega, z.2.2⟩
theorem txL_sum : ∀ {ds : List PyData}, nsL ds = true → (((ds.map txD).map (·.length)).sum : Nat) ≤ 3 * szL ds
  | [], _ => by rw [szL]; decide
  | d :: ds, h => by
    rw [nsL, Bool.and_eq_true] at h
    rw [szL, List.map_cons, List.map_cons, List.sum_cons]
    have := txD_len d h.1
    have := txL_sum h.2
    omega
theorem join_tx (ds : List PyData) : Txt.join (S [44]) (ds.map fun d => S (txD d)) = S (txL ds) := by
  have e := join_S [44] (ds.map txD)
  rw [List.map_map] at e
  rw [txL_join]
  exact e
theorem lens_tx (ds : List PyData) : (ds.map fun d => S (txD d)).map (·.length) = (ds.map txD).map (·.length) := by
  rw [← lens (ds.map txD), List.map_map, List.map_map, List.map_map]
  rfl
theorem Ex.lstN {H H1 H2 : Hp} {l : Addr} (e : Ex H H1) (n : H l = none) (m : Em l H1 H2) : Ex H H2 := fun a o h => m a o (ne_of_none h n) (e a o h)
theorem noDig_M (fs : List PyData) (r : List Nat) : noDig (txM fs ++ 93 :: r) := by
  intro c h
  cases fs with
  | nil =>
    rw [txM] at h
    have : 93 = c := by simpa using h
    omega
  | cons f fs =>
    rw [txM] at h
    have : 44 = c := by simpa using h
    omega
theorem one_M (fs : List PyData) (r : List Nat) : (txM fs ++ 93 :: r).take 1 = if fs = [] then [93] else [44] := by
  cases fs with
  | nil => rw [txM]; rfl
  | cons f fs => rw [txM]; rfl
theorem one_L (fs : List PyData) (r : List Nat) : decide ((txL fs ++ 93 :: r).take 1 = [93]) = decide (fs = []) := by
  cases fs with
  | nil => rw [txL]; rfl
  | cons f fs =>
    obtain ⟨c, t, e, h, _⟩ := txD_head f
    rw [txL, e]
    show decide ([c] = [93]) = _
    rw [decide_eq_false (by simpa using h), decide_eq_false (by simp)]
theorem Fl.dtx {K : PySem.W.Frag} {H : Hp} {v : V} {d : PyData} (h : Fl K H v d) : Dt K H v d := h.dt
end Ls
end

section
set_option Elab.async false
set_option linter.all false
set_option maxRecDepth 100000
set_option maxHeartbeats 4000000
namespace Ls
open PySem PySem.Spec PyProof.Rows L2 SX
mutual
def gdD : PyData → Bool
  | .int i => decide (i.natAbs < 10 ^ 62)
  | .tuple ds => decide (ds.length ≤ 60) && gdL ds
  | _ => false
def gdL : List PyData → Bool
  | [] => true
  | d :: ds => gdD d && gdL ds
end
mutual
def ftD : PyData → Bool
  | .int i => decide (szI i ≤ 1000)
  | .tuple ds => (decide (ds.length ≤ 40) && ftL ds) && (decide ((tdpL ds : Nat) ≤ 3) && decide (1 + szL ds ≤ 1000))
  | _ => false
def ftL : List PyData → Bool
  | [] => true
  | d :: ds => ftD d && ftL ds
end
theorem gdL_mem : ∀ {ds : List PyData}, gdL ds = true → ∀ {d : PyData}, d ∈ ds → gdD d = true
  | d' :: ds, h, d, hd => by
    rw [gdL, Bool.and_eq_true] at h
    rcases List.mem_cons.mp hd with rfl | hd
    · exact h.1
    · exact gdL_mem h.2 hd
theorem gdL_of : ∀ {ds : List PyData}, (∀ d, d ∈ ds → gdD d = true) → gdL ds = true
  | [], _ => rfl
  | d :: ds, h => by rw [gdL, h d List.mem_cons_self, gdL_of fun e he => h e (List.mem_cons_of_mem _ he)]; rfl
theorem tdpL_le {m : Nat} : ∀ {ds : List PyData}, (∀ d, d ∈ ds → tdp d ≤ m) → tdpL ds ≤ m
  | [], _ => Nat.zero_le _
  | d :: ds, h => by
    rw [tdpL]
    exact Nat.max_le.mpr ⟨h d List.mem_cons_self, tdpL_le fun e he => h e (List.mem_cons_of_mem _ he)⟩
theorem ftL_all : ∀ ds : List PyData, ftL ds = (ds.map ftD).all id
  | [] => rfl
  | d :: ds => by rw [ftL, ftL_all ds]; rfl
theorem gd_log {i : Int} (h : i.natAbs < 10 ^ 62) : i.natAbs < DL := DL_of h (by decide)
mutual
theorem gd_sm : ∀ d : PyData, gdD d = true → smD d = true
  | .int i, h => by
    rw [gdD, decide_eq_true_eq] at h
    rw [smD, decide_eq_true_eq]
    exact gd_log h
  | .tuple ds, h => by
    rw [gdD, Bool.and_eq_true] at h
    rw [smD]
    exact gdL_sm ds h.2
  | .none, h => by simp [gdD] at h
  | .bool _, h => by simp [gdD] at h
  | .str _, h => by simp [gdD] at h
  | .list _, h => by simp [gdD] at h
  | .dict _, h => by simp [gdD] at h
theorem gdL_sm : ∀ d : List PyData, gdL d = true → smL d = true
  | [], _ => rfl
  | d :: ds, h => by
    rw [gdL, Bool.and_eq_true] at h
    rw [smL, gd_sm d h.1, gdL_sm ds h.2]
    rfl
end
mutual
theorem gd_lay : ∀ d : PyData, gdD d = true → PyData.canLay0 d = true ∧ PyData.depth d = tdp d ∧ shW d = true
  | .int i, h => by
    rw [gdD, decide_eq_true_eq] at h
    refine ⟨rfl, rfl, ?_⟩
    rw [shW, decide_eq_true_eq]
    exact gd_log h
  | .tuple ds, h => by
    rw [gdD, Bool.and_eq_true] at h
    obtain ⟨a, b, c⟩ := gdL_lay ds h.2
    refine ⟨by rw [PyData.canLay0]; exact a, ?_, by rw [shW]; exact c⟩
    rw [PyData.depth, tdp, b]
    omega
  | .none, h => by simp [gdD] at h
  | .bool _, h => by simp [gdD] at h
  | .str _, h => by simp [gdD] at h
  | .list _, h => by simp [gdD] at h
  | .dict _, h => by simp [gdD] at h
theorem gdL_lay : ∀ d : List PyData, gdL d = true → PyData.canLayAll0 d = true ∧ PyData.depthAll d = tdpL d ∧ shWL d = true
  | [], _ => ⟨rfl, rfl, rfl⟩
  | d :: ds, h => by
    rw [gdL, Bool.and_eq_true] at h
    obtain ⟨a, b, c⟩ := gd_lay d h.1
    obtain ⟨a2, b2, c2⟩ := gdL_lay ds h.2
    refine ⟨by rw [PyData.canLayAll0, a, a2]; rfl, ?_, by rw [shWL, c, c2]; rfl⟩
    rw [PyData.depthAll, tdpL, b, b2]
end
mutual
theorem ft_ns : ∀ d : PyData, ftD d = true → nsD d = true
  | .int i, _ => rfl
  | .tuple ds, h => by
    rw [ftD] at h
    simp only [Bool.and_eq_true] at h
    rw [nsD, h.1.1, ftL_ns ds h.1.2]
    rfl
  | .none, h => by simp [ftD] at h
  | .bool _, h => by simp [ftD] at h
  | .str _, h => by simp [ftD] at h
  | .list _, h => by simp [ftD] at h
  | .dict _, h => by simp [ftD] at h
theorem ftL_ns : ∀ ds : List PyData, ftL ds = true → nsL ds = true
  | [], _ => rfl
  | d :: ds, h => by
    rw [ftL, Bool.and_eq_true] at h
    rw [nsL, ft_ns d h.1, ftL_ns ds h.2]
    rfl
end
theorem ft_is {d : PyData} (h : ftD d = true) : isD d = true := by
  have hn := ft_ns d h
  unfold isD
  rw [hn, Bool.true_and, Bool.and_eq_true, decide_eq_true_eq, decide_eq_true_eq]
  cases d with
  | int i =>
    rw [ftD, decide_eq_true_eq] at h
    exact ⟨(by decide : (0 : Int) ≤ 4), by rw [szD]; exact h⟩
  | tuple ds =>
    rw [ftD] at h
    simp only [Bool.and_eq_true, decide_eq_true_eq] at h
    exact ⟨by rw [tdp]; omega, by rw [szD]; exact h.2.2⟩
  | none => simp [ftD] at h
  | bool _ => simp [ftD] at h
  | str _ => simp [ftD] at h
  | list _ => simp [ftD] at h
  | dict _ => simp [ftD] at h
theorem len_app (x y : Str) : (x ++ y).length = x.length + y.length := by rw [TL.len_tl, TL.tl_append, List.length_append, ← TL.len_tl, ← TL.len_tl]
theorem join_len (sep : Str) : ∀ ts : List Str, (Str.join sep ts).length ≤ (ts.map (·.length)).sum + (ts.length - 1) * sep.length
  | [] => by
    rw [TL.len_tl, TL.tl_join]
    exact Nat.zero_le _
  | [t] => by
    rw [TL.len_tl, TL.tl_join]
    show (TL.tl t).length ≤ _
    rw [← TL.len_tl]
    simp
  | t :: u :: ts => by
    have ih := join_len sep (u :: ts)
    rw [TL.len_tl, TL.tl_join] at ih ⊢
    show (TL.tl t ++ (TL.tl sep ++ TL.joinL (TL.tl sep) ((u :: ts).map TL.tl))).length ≤ _
    rw [List.length_append, List.length_append, ← TL.len_tl, ← TL.len_tl]
    simp only [List.map_cons, List.sum_cons, List.length_cons, Nat.add_sub_cancel] at ih ⊢
    have : (ts.length + 1) * sep.length = ts.length * sep.length + sep.length := Nat.succ_mul _ _
    omega
theorem lit_open : (Str.ofString "(").length = 1 := by decide +kernel
theorem lit_close : (Str.ofString ")").length = 1 := by decide +kernel
theorem lit_close1 : (Str.ofString ",)").length = 2 := by decide +kernel
theorem lit_sep : (Str.ofString ", ").length = 2 := by decide +kernel
theorem lit_lo : (Str.ofString "[").length = 1 := by decide +kernel
theorem lit_lc : (Str.ofString "]").length = 1 := by decide +kernel
mutual
theorem shown_len : ∀ d : PyData, nsD d = true → ((PyData.shown d).length : Int) + 2 ≤ 4 * szD d
  | .int i, h => by
    have := szD_pos (.int i) h
    rw [szD] at this ⊢
    rw [PyData.shown_int, show ((toString i : String) : Str) = S (intL i) from str_int i, S_len, ← intL_len]
    omega
  | .tuple ds, h => by
    rw [nsD, Bool.and_eq_true] at h
    have ih := shownL_len ds h.2
    have hj := join_len (Str.ofString ", ") (PyData.shownAll ds)
    have hz := szL_nn ds h.2
    rw [lit_sep, PyData.shownAll_length] at hj
    rw [PyData.shown_tuple, len_app, len_app, szD, lit_open]
    by_cases h1 : ds.length = 1
    · rw [if_pos (by simpa using h1), lit_close1]
      omega
    · rw [if_neg (by simpa using h1), lit_close]
      by_cases h0 : ds.length = 0
      · omega
      · omega
  | .none, h => by simp [nsD] at h
  | .bool _, h => by simp [nsD] at h
  | .str _, h => by simp [nsD] at h
  | .list _, h => by simp [nsD] at h
  | .dict _, h => by simp [nsD] at h
theorem shownL_len : ∀ ds : List PyData, nsL ds = true → ((((PyData.shownAll ds).map (·.length)).sum : Nat) : Int) + 2 * ds.length ≤ 4 * szL ds
  | [], _ => by rw [PyData.shownAll_nil, szL]; decide
  | d :: ds, h => by
    rw [nsL, Bool.and_eq_true] at h
    have h1 := shown_len d h.1
    have h2 := shownL_len ds h.2
    rw [PyData.shownAll_cons, szL, List.map_cons, List.sum_cons, List.length_cons]
    omega
end
theorem fault_shown : (PyData.shown (.str (Str.ofString "fault"))).length ≤ 7 := by rw [PyData.shown_str]; decide +kernel
/-- what a law draws: FAULT, or data that fits -/
def drawn (d : PyData) : Bool := isF d || (gdD d && ftD d)
theorem drawn_ok {d : PyData} (h : drawn d = true) (n : Nat) (hn : 5 ≤ n) : okV n d := by
  unfold drawn at h
  cases hf : isF d with
  | true =>
    have e := isF_inv hf
    subst e
    exact ⟨rfl, (by omega : 0 < n), by rw [hf]; rfl⟩
  | false =>
    rw [hf, Bool.false_or, Bool.and_eq_true] at h
    have hd := ft_is h.2
    refine ⟨gd_sm d h.1, ?_, by rw [hd, Bool.or_true]⟩
    unfold isD at hd
    simp only [Bool.and_eq_true, decide_eq_true_eq] at hd
    omega
theorem drawn_repr {d : PyData} (h : drawn d = true) : shW d = true ∧ (PyData.shown d).length ≤ 4000 ∧ PyData.depth d ≤ 4 ∧ PyData.canLay0 d = true := by
  unfold drawn at h
  cases hf : isF d with
  | true =>
    have e := isF_inv hf
    subst e
    exact ⟨rfl, Nat.le_trans fault_shown (by decide), by rw [PyData.depth]; decide, by rw [PyData.canLay0]; decide +kernel⟩
  | false =>
    rw [hf, Bool.false_or, Bool.and_eq_true] at h
    have hd := ft_is h.2
    obtain ⟨a, b, c⟩ := gd_lay d h.1
    unfold isD at hd
    simp only [Bool.and_eq_true, decide_eq_true_eq] at hd
    have := shown_len d hd.1
    exact ⟨c, by omega, by omega, a⟩
def sp_ldatum (K : PySem.W.Frag) (n : Nat) : Sp := fun vs H Q _ => ∃ (p : Addr) (m : Nat), vs = [.ref p, .int (m : Nat)] ∧ Pt H p ∧ m < n ∧ ∀ v d H', Fl K H' v d → gdD d = true → tdp d ≤ m → Pt H' p → Em p H H' → Q v H'
def sp_lsize (K : PySem.W.Frag) (n : Nat) : Sp := fun vs H Q _ => ∃ v d, vs = [v] ∧ Fl K H v d ∧ (isF d || gdD d) = true ∧ tdp d < n ∧ tdp d ≤ 60 ∧ ∀ H', Ex H H' → Q (.int (szD d)) H'
def sp_ldeep (K : PySem.W.Frag) (n : Nat) : Sp := fun vs H Q _ => ∃ v d, vs = [v] ∧ Fl K H v d ∧ gdD d = true ∧ tdp d < n ∧ ∀ H', Ex H H' → Q (.int (tdp d : Nat)) H'
def sp_lfits (K : PySem.W.Frag) (n : Nat) : Sp := fun vs H Q _ => ∃ v d, vs = [v] ∧ Fl K H v d ∧ gdD d = true ∧ tdp d < n ∧ tdp d ≤ 60 ∧ ∀ H', Ex H H' → Q (.bl (ftD d)) H'
def sp_llong : Sp := fun vs H Q _ => ∃ (p : Addr) (k : Nat), vs = [.ref p, .int (k : Nat)] ∧ Pt H p ∧ 1 ≤ k ∧ k ≤ 61 ∧ ∀ (i : Int) H', i.natAbs < 10 ^ 61 → Pt H' p → Em p H H' → Q (.int i) H'
def sp_ldraw (K : PySem.W.Frag) : Sp := fun vs H Q _ => ∃ p : Addr, vs = [.ref p] ∧ Pt H p ∧ ∀ v d H', Fl K H' v d → (isF d || gdD d) = true → tdp d ≤ 4 → Pt H' p → Em p H H' → Q v H'
def sp_ltext (K : PySem.W.Frag) (n : Nat) : Sp := fun vs H Q _ => ∃ v d, vs = [v] ∧ Fl K H v d ∧ drawn d = true ∧ tdp d < n ∧ ∀ H', Ex H H' → Q (.str (S (txD d))) H'
def sp_lright : Sp := fun vs H Q _ => ∃ p : Addr, vs = [.ref p] ∧ Pt H p ∧ ∀ H', Pt H' p → Em p H H' → Q (.bl true) H'
section
variable {σ : L2.St} {H : Hp} {Q : VK} {K : PySem.W.Frag} {te : TE} {vs : List Nat}
/-- [f(x) for x in t], t a tuple of flat data -/
theorem k_lcFl {a : Addr} {xs : List V} {ds : List PyData} {i0 : Nat} (f : PyData → V) (hS : SqT K H a xs) (hD : FlAll K H xs ds) (hz : xs.length ≤ 99999)
    (hs : ∀ x d H1 (Q1 : VK), d ∈ ds → Ex H H1 → Fl K H1 x d → (∀ H2, Ex H1 H2 → Q1 (f d) H2) → te ((wipe σ vs).set i0 (some x)) H1 Q1)
    (hw : ∀ x, wipe ((wipe σ vs).set i0 (some x)) vs = wipe σ vs) (q : ∀ D H2, H D = none → Ex H H2 → H2 D = some (.lst (ds.map f)) → Q (.ref D) H2) : kLc (Itt K a) (gName i0) tYes te vs σ H Q := by
  refine k_lcT (xs := xs) (fun j ys H' => Ex H H' ∧ ys = (ds.take j).map f) (fun D n => ⟨Ex.new n, rfl⟩) (fun j ys H' _ p => p.1.st hS) (fun D j x ys H' n hx hj hl hHD p => ?_) hw fun D ys H' n hl hHD p => ?_
  · obtain ⟨e, rfl⟩ := p
    obtain ⟨d, hd, hf⟩ := hD.get hx
    refine hs x d H' _ (List.mem_of_getElem? hd) e (hf.mono e.et) fun H2 e2 => k_turn (e2 _ _ hHD) hl (by omega) ⟨Ex.putN (e.trans e2) n, ?_⟩
    rw [List.take_add_one, hd, List.map_append]
    rfl
  · obtain ⟨e, rfl⟩ := p
    refine q D H' n e ?_
    rw [hHD, hD.length, List.take_length]
end
end Ls
end

section
set_option Elab.async false
set_option linter.all false
set_option maxRecDepth 100000
set_option maxHeartbeats 4000000
namespace Ls
open PySem PySem.Spec PyProof.Rows L2 SX
/-- data that repr shows within bounds -/
structure Rp (d : PyData) : Prop where
  sh : shW d = true
  len : (PyData.shown d).length ≤ 40000
  dep : PyData.depth d ≤ 10
  lay : PyData.canLay0 d = true
theorem Rp.drawn {d : PyData} (h : drawn d = true) : Rp d := by
  obtain ⟨a, b, c, e⟩ := drawn_repr h
  exact ⟨a, by omega, by omega, e⟩
theorem Rp.int {i : Int} (h : i.natAbs < DL) : Rp (.int i) := by
  refine ⟨by rw [shW, decide_eq_true_eq]; exact h, ?_, by rw [PyData.depth]; exact Nat.zero_le _, by rw [PyData.canLay0]⟩
  rw [PyData.shown_int, show ((toString i : String) : Str) = S (intL i) from str_int i, S_len]
  have := int_digits h
  unfold intL
  split
  · rw [List.length_cons]; omega
  · omega
theorem Rp.bool (b : Bool) : Rp (.bool b) := ⟨rfl, by cases b <;> (rw [PyData.shown_bool]; decide +kernel), by rw [PyData.depth]; exact Nat.zero_le _, by rw [PyData.canLay0]⟩
theorem Rp.none : Rp .none := ⟨rfl, by rw [PyData.shown_none]; decide +kernel, by rw [PyData.depth]; exact Nat.zero_le _, by rw [PyData.canLay0]⟩
theorem Rp.str {l : List Nat} (hl : l.length ≤ 3999) (ha : ∀ c ∈ l, c < 128) : Rp (.str (S l)) := by
  refine ⟨rfl, ?_, by rw [PyData.depth]; exact Nat.zero_le _, ?_⟩
  · rw [PyData.shown_str]
    have := StrLaws.reprText_len (S l) (fun c hc => Nat.lt_trans (ha c hc) (by decide))
    have e := S_len l
    omega
  · rw [PyData.canLay0]
    show (S l).cps.all (· < 0x110000) = true
    rw [← Array.all_toList, List.all_eq_true]
    intro c hc
    exact decide_eq_true (Nat.lt_trans (ha c hc) (by decide))
theorem intL_ascii (i : Int) : ∀ c ∈ intL i, c < 128 := by
  intro c hc
  have h : ∀ c ∈ TL.numL i.natAbs, c < 128 := fun c hc => by
    have := TL.numL_digits i.natAbs c hc
    omega
  unfold intL at hc
  split at hc
  · rcases List.mem_cons.mp hc with rfl | hc
    · decide
    · exact h c hc
  · exact h c hc
mutual
theorem txD_ascii : ∀ (d : PyData), ∀ c ∈ txD d, c < 128
  | .int i, c, h => by rw [txD] at h; exact intL_ascii i c h
  | .tuple ds, c, h => by
    rw [txD] at h
    rcases List.mem_cons.mp h with rfl | h
    · decide
    · rcases List.mem_append.mp h with h | h
      · exact txL_ascii ds c h
      · have : c = 93 := by simpa using h
        omega
  | .none, c, h => fault_ascii c h
  | .bool _, c, h => fault_ascii c h
  | .str _, c, h => fault_ascii c h
  | .list _, c, h => fault_ascii c h
  | .dict _, c, h => fault_ascii c h
theorem txL_ascii : ∀ (ds : List PyData), ∀ c ∈ txL ds, c < 128
  | [], c, h => by rw [txL] at h; cases h
  | d :: ds, c, h => by
    rw [txL] at h
    rcases List.mem_append.mp h with h | h
    · exact txD_ascii d c h
    · exact txM_ascii ds c h
theorem txM_ascii : ∀ (ds : List PyData), ∀ c ∈ txM ds, c < 128
  | [], c, h => by rw [txM] at h; cases h
  | d :: ds, c, h => by
    rw [txM] at h
    rcases List.mem_cons.mp h with rfl | h
    · decide
    · rcases List.mem_append.mp h with h | h
      · exact txD_ascii d c h
      · exact txM_ascii ds c h
theorem fault_ascii : ∀ c ∈ [102, 97, 117, 108, 116], c < 128 := by decide
end
theorem drawn_len {d : PyData} (h : drawn d = true) : (txD d).length ≤ 2999 := by
  have ho := drawn_ok h 5 (Nat.le_refl _)
  cases hf : isF d with
  | true => rw [isF_tx hf]; decide
  | false =>
    obtain ⟨a, b, c⟩ := isD_of ho hf
    have := txD_len d a
    omega
theorem drawn_size {d : PyData} (h : drawn d = true) : 0 ≤ szD d ∧ szD d ≤ 1000 := by
  have ho := drawn_ok h 5 (Nat.le_refl _)
  cases hf : isF d with
  | true => rw [isF_sz hf]; decide
  | false =>
    obtain ⟨a, b, c⟩ := isD_of ho hf
    have := szD_pos d a
    omega
theorem Rp.text {d : PyData} (h : Ls.drawn d = true) : Rp (.str (S (txD d))) := .str (Nat.le_trans (drawn_len h) (by decide)) (txD_ascii d)
theorem Rp.size {d : PyData} (h : Ls.drawn d = true) : Rp (.int (szD d)) := by
  have := drawn_size h
  exact .int (DL_of (k := 4) (by omega) (by decide))
section
variable {H : Hp} {Q : VK} {K : PySem.W.Frag} {x y : V} {d e : PyData}
theorem y_rep (h : Fl K H x d) (r : Rp d) (q : Q (.str d.shown) H) : rRepr K [x] H Q :=
  y_reprP h.dp (PyData.hasDict_of_canLay d r.lay) r.sh (Nat.le_trans r.len (by decide)) (by have := r.dep; omega) q
/-- repr([x, y]) -/
theorem y_rep2 {p : Addr} (hp : H p = some (.lst [x, y])) (h : Fl K H x d) (h2 : Fl K H y e) (r : Rp d) (r2 : Rp e) (q : Q (.str (PyData.list [d, e]).shown) H) : rRepr K [.ref p] H Q := by
  refine y_reprP (.lst (.of hp) (.cons h.dp (.cons h2.dp .nil))) ?_ ?_ ?_ ?_ q
  · have a := PyData.hasDict_of_canLay d r.lay
    have b := PyData.hasDict_of_canLay e r2.lay
    simp [PyData.hasDict, PyData.hasDictAll, a, b]
  · simp [shW, shWL, r.sh, r2.sh]
  · rw [PyData.shown_list, len_app, len_app, lit_lo, lit_lc]
    have hj := join_len (Str.ofString ", ") (PyData.shownAll [d, e])
    rw [lit_sep, PyData.shownAll_length, PyData.shownAll_cons, PyData.shownAll_cons, PyData.shownAll_nil] at hj
    simp only [List.map_cons, List.map_nil, List.sum_cons, List.sum_nil, List.length_cons, List.length_nil] at hj
    have := r.len
    have := r2.len
    have h2 : sizeLine = 16777216 := rfl
    rw [PyData.shownAll_cons, PyData.shownAll_cons, PyData.shownAll_nil]
    omega
  · have := r.dep
    have := r2.dep
    simp only [PyData.depth, PyData.depthAll]
    omega
theorem rp_shaped {d : PyData} (r : Rp d) : SeqAt.shaped d = true := by
  unfold SeqAt.shaped
  rw [r.lay, Bool.true_and, decide_eq_true_eq]
  have := r.dep
  omega
theorem gd_shaped {d : PyData} (h : gdD d = true) (ht : tdp d ≤ 60) : SeqAt.shaped d = true := by
  obtain ⟨a, b, _⟩ := gd_lay d h
  unfold SeqAt.shaped
  rw [a, Bool.true_and, decide_eq_true_eq]
  omega
theorem fault_shaped : SeqAt.shaped (.str (Str.ofString "fault")) = true := by decide +kernel
/-- drawn data == "fault" -/
theorem y_eqFault (h : Fl K H x d) (hg : gdD d = true) (ht : tdp d ≤ 60) (q : Q (.bl false) H) : rEqU K x (.str (Str.ofString "fault")) H Q := by
  refine y_eqD h.dp (.str _) (gd_shaped hg ht) fault_shaped ?_
  cases d with
  | int i => exact q
  | tuple ds => exact q
  | none => simp [gdD] at hg
  | bool _ => simp [gdD] at hg
  | str _ => simp [gdD] at hg
  | list _ => simp [gdD] at hg
  | dict _ => simp [gdD] at hg
end
def isTup : PyData → Bool
  | .tuple _ => true
  | _ => false
def isInt : PyData → Bool
  | .int _ => true
  | _ => false
theorem y_isStr {K : PySem.W.Frag} {H : Hp} {Q : VK} {x : V} {d : PyData} (h : Fl K H x d) (hg : (isF d || gdD d) = true) (q : Q (.bl (isF d)) H) : rIsiU K [x, .ty "str"] H Q := by
  cases d with
  | str z =>
    have e : isF (.str z) = true := by simpa [gdD] using hg
    rw [e] at q
    exact y_isi h.dt (b := true) rfl q
  | int i => exact y_isi h.dt (b := false) rfl q
  | tuple ds => exact y_isi h.dt (b := false) rfl q
  | none => simp [gdD, isF] at hg
  | bool _ => simp [gdD, isF] at hg
  | list _ => simp [gdD, isF] at hg
  | dict _ => simp [gdD, isF] at hg
theorem y_isTup {K : PySem.W.Frag} {H : Hp} {Q : VK} {x : V} {d : PyData} (h : Fl K H x d) (hg : (isF d || gdD d) = true) (q : Q (.bl (isTup d)) H) : rIsiU K [x, .ty "tuple"] H Q := by
  cases d with
  | str z => exact y_isi h.dt (b := false) rfl q
  | int i => exact y_isi h.dt (b := false) rfl q
  | tuple ds => exact y_isi h.dt (b := true) rfl q
  | none => simp [gdD, isF] at hg
  | bool _ => simp [gdD, isF] at hg
  | list _ => simp [gdD, isF] at hg
  | dict _ => simp [gdD, isF] at hg
theorem isTup_inv {d : PyData} (h : isTup d = true) : ∃ ds, d = .tuple ds := by
  cases d with
  | tuple ds => exact ⟨ds, rfl⟩
  | _ => cases h
theorem Fl.tup_inv {K : PySem.W.Frag} {H : Hp} {v : V} {ds : List PyData} (h : Fl K H v (.tuple ds)) : ∃ a xs, v = .ref a ∧ SqT K H a xs ∧ FlAll K H xs ds := by
  cases h with | tup hS hA => exact ⟨_, _, rfl, hS, hA⟩
theorem drawn_w {d : PyData} (h : drawn d = true) : (isF d || gdD d) = true := by
  unfold drawn at h
  cases hf : isF d with
  | true => rfl
  | false =>
    rw [hf, Bool.false_or, Bool.and_eq_true] at h
    rw [h.1, Bool.or_true]
theorem drawn_dp {d : PyData} (h : drawn d = true) : tdp d ≤ 4 := by
  have ho := drawn_ok h 5 (Nat.le_refl _)
  have := ho.2.1
  omega
theorem drawn_mem {ds : List PyData} (h : drawn (.tuple ds) = true) {d : PyData} (hd : d ∈ ds) : drawn d = true := by
  unfold drawn at h ⊢
  have e : isF (.tuple ds) = false := rfl
  rw [e, Bool.false_or, Bool.and_eq_true, gdD, ftD] at h
  simp only [Bool.and_eq_true, decide_eq_true_eq] at h
  have h2 := h.2.1.2
  rw [ftL_all, List.all_eq_true] at h2
  have h3 : ftD d = true := h2 _ (List.mem_map.mpr ⟨d, hd, rfl⟩)
  rw [gdL_mem h.1.2 hd, h3, Bool.and_self, Bool.or_true]
theorem drawn_tup {ds : List PyData} (h : drawn (.tuple ds) = true) : ds.length ≤ 40 ∧ nsL ds = true ∧ 1 + szL ds ≤ 1000 := by
  unfold drawn at h
  have e : isF (.tuple ds) = false := rfl
  rw [e, Bool.false_or, Bool.and_eq_true, gdD, ftD] at h
  simp only [Bool.and_eq_true, decide_eq_true_eq] at h
  exact ⟨h.2.1.1, ftL_ns ds h.2.1.2, h.2.2.2⟩
/-- the greatest of 0 and some depths -/
theorem tdpL_max0 {ds : List PyData} {m : Int} (h1 : m ∈ (0 : Int) :: ds.map (fun d => (tdp d : Int))) (h2 : ∀ z, z ∈ (0 : Int) :: ds.map (fun d => (tdp d : Int)) → z ≤ m) : m = (tdpL ds : Int) := by
  by_cases e : ds = []
  · subst e
    have : m = 0 := by simpa using h1
    rw [this]; rfl
  · refine tdpL_max (fun z => absurd (List.map_eq_nil_iff.mp z) e) fun _ => ⟨?_, fun z hz => h2 z (List.mem_cons_of_mem _ hz)⟩
    rcases List.mem_cons.mp h1 with h | h
    · obtain ⟨d, hd⟩ := List.exists_mem_of_ne_nil ds e
      have h3 := h2 (tdp d : Int) (List.mem_cons_of_mem _ (List.mem_map.mpr ⟨d, hd, rfl⟩))
      have : (tdp d : Int) = m := by omega
      exact List.mem_map.mpr ⟨d, hd, this⟩
    · exact h
/-- the texts so far -/
theorem txL_snoc (es : List PyData) (d : PyData) : txL (es ++ [d]) = txL es ++ (if es = [] then [] else [44]) ++ txD d := by
  cases es with
  | nil => simp [txL, txM]
  | cons e es =>
    have key : ∀ l : List PyData, txM (l ++ [d]) = txM l ++ (44 :: txD d) := by
      intro l
      induction l with
      | nil => simp [txM]
      | cons a l ih => rw [List.cons_append, txM, ih, txM]; simp
    rw [List.cons_append, txL, key, txL, if_neg (List.cons_ne_nil _ _)]
    simp
section
variable {H : Hp} {Q : VK} {K : PySem.W.Frag}
theorem y_sliceL {p : Addr} {xs : List V} {lo hi : Option Int} (h : SqL K H p xs) (q : ∀ l H', H l = none → Ex H H' → H' l = some (.lst (cutV xs lo hi)) → Q (.ref l) H') : rSlU K (.ref p) lo hi H Q := .inl (y_slL h q)
theorem FlAll.cut {vs : List V} {ds : List PyData} (lo hi : Option Int) (h : FlAll K H vs ds) : ∃ es, FlAll K H (cutV vs lo hi) es ∧ ∀ d ∈ es, d ∈ ds := by
  refine ⟨_, (h.drop _).take _, fun d hd => List.mem_of_mem_drop (List.mem_of_mem_take hd)⟩
theorem FlAll.rep {v : V} {d : PyData} (h : Fl K H v d) : ∀ n : Nat, FlAll K H (List.replicate n [v]).flatten (List.replicate n d)
  | 0 => .nil
  | n + 1 => by
    rw [List.replicate_succ, List.replicate_succ, List.flatten_cons]
    exact .cons h (FlAll.rep h n)
end
end Ls
end

section
set_option Elab.async false
set_option linter.all false
set_option maxRecDepth 100000
set_option maxHeartbeats 4000000
namespace Ls
open PySem PySem.Spec PyProof.Rows L2
/-- an own exception class at C over a built-in one -/
structure Xc (K : PySem.W.Frag) (bmB : List Value) (newId : String) (C : Addr) : Prop where
  ii : PySem.W.excInitIn K C bmB newId = true
  ov : PySem.W.excOver K C bmB = true
  hd : PySem.W.hasDictIn K C = true
  sa : PySem.W.findIn K (.ref C) "__setattr__" = some (some (.builtin "object.__setattr__"))
  exC : PySem.W.subIn K (.ref C) (.type "BaseException") = some true
  tyC : PySem.W.typeIn K (.ref C) = some (.type "type")
  kC : PySem.W.keepIn K (.ref C) = true
/-- the built-in class that it stands over -/
structure Xb (bmB : List Value) (B newId initId : String) : Prop where
  F : ExcBaseFacts B newId initId bmB
  SF : StoreFacts B bmB "object.__setattr__" "object"
theorem xb_value : Xb [.type "ValueError", .type "Exception", .type "BaseException", .type "object"] "ValueError" "ValueError.__new__" "ValueError.__init__" := ⟨F.excBase_ValueError, F.store_ValueError⟩
theorem xb_lookup : Xb [.type "LookupError", .type "Exception", .type "BaseException", .type "object"] "LookupError" "LookupError.__new__" "LookupError.__init__" := ⟨F.excBase_LookupError, F.store_LookupError⟩
theorem xb_runtime : Xb [.type "RuntimeError", .type "Exception", .type "BaseException", .type "object"] "RuntimeError" "RuntimeError.__new__" "RuntimeError.__init__" := ⟨F.excBase_RuntimeError, F.store_RuntimeError⟩
theorem xb_arith : Xb [.type "ArithmeticError", .type "Exception", .type "BaseException", .type "object"] "ArithmeticError" "ArithmeticError.__new__" "ArithmeticError.__init__" := ⟨F.excBase_ArithmeticError, F.store_ArithmeticError⟩
section
open Builtin Builtin.ObjectAttr
variable {prog : Program} {w : World} {A : Around} {R : Result → Shared → Prop} {K : PySem.W.Frag} {bmB : List Value} {B newId initId : String} {hp : Heap} {g : Array GenState} {d : Drawn} {t : Nat} {os : OsState}
theorem cls_dict {C : Addr} (h : PySem.W.hasDictIn K C = true) : ∃ cd, PySem.W.clsIn K C = some cd ∧ cd.hasDict = true := by
  obtain ⟨cd, a, b⟩ := PySem.W.any_some h
  exact ⟨cd, a, b⟩
/-- object.__setattr__, the dict is made -/
theorem put_first {name : Str} {tk : Tok} {v : Value} {x C : Addr} {fv : Array Value} (T : Xc K bmB newId C) (b : Xb bmB B newId initId) (KX : K.In hp) (hx : hp.get? x = some { cls := .ref C, data := .fields fv }) (hno : PySem.W.takerIn K C name = some none)
    (hq : ∀ h' tk' dx, (∀ b o, b ≠ x → hp.get? b = some o → h'.get? b = some o) → hp.objs.size ≤ dx → dx ≠ x → h'.get? x = some { cls := .ref C, dict := some dx, data := .fields fv } →
      h'.Ns1 dx (fun y => if y = name then some v else none) → R (.ok (.ret .none)) ⟨h', g, d, tk', os⟩) :
    codeAny (model prog w) A (.call (.builtin "object.__setattr__") ⟨[.ref x, .str name tk, v], []⟩) R ⟨hp, g, d, t, os⟩ := by
  have far : x ≠ hp.objs.size := Nat.ne_of_lt (Heap.lt_size hx)
  refine PySem.W.osa_openX (s := ⟨hp, g, d, t, os⟩) (ox := { cls := .ref C, data := .fields fv }) (od := none) b.SF KX ⟨hx, rfl, rfl, trivial⟩ T.ov hno fun bb => ?_
  obtain ⟨cd, hcd, hh⟩ := cls_dict T.hd
  have LC : PySem.W.Looks (model prog w) hp (classData C) cd := PySem.W.looks_clsIn KX hcd
  obtain ⟨nm, bs, mro, ns, qn, hd, sn, sb, ab, col, del⟩ := cd
  dsimp only at hh
  subst hh
  dsimp only
  unfold storeInOwnDict ownDictForStores
  repeat (first | with_reducible refine HandSPX.store_in_new ?_ ?_ | with_reducible refine wpAny_loadPart_at hx ?_ | with_reducible refine LC.at ?_ | wp_step)
  · exact ⟨_, #[], _, (Heap.get?_update_ne _ _ _ _ far.symm).trans (Heap.get?_push_at rfl rfl), rfl, fun e he => absurd he (by simp), fun _ => rfl⟩
  · intro h' tk' hn' hs
    have hx1 : (hp.push { cls := .type "dict", data := .dict #[] }).get? x = some { cls := .ref C, data := .fields fv } := Heap.get?_push_of_some _ hx
    refine hq h' tk' hp.objs.size (fun c o hb ho => ?_) (Nat.le_refl _) far.symm ?_ hn'
    · have far2 : c ≠ hp.objs.size := Nat.ne_of_lt (Heap.lt_size ho)
      exact (hs.2 c far2).trans ((Heap.get?_update_ne _ _ _ _ hb).trans (Heap.get?_push_of_some _ ho))
    · exact (hs.2 x far).trans (Heap.get?_update_self _ hx1 rfl)
/-- .., the dict stands -/
theorem put_more {name : Str} {tk : Tok} {v : Value} {x C dx : Addr} {fv : Array Value} {m0 : Str → Option Value} {nl : List Str} (T : Xc K bmB newId C) (b : Xb bmB B newId initId) (KX : K.In hp) (hx : hp.get? x = some { cls := .ref C, dict := some dx, data := .fields fv })
    (hns : hp.Ns1 dx m0) (hw : Within m0 nl) (hz : nl.length ≤ 1000) (hno : PySem.W.takerIn K C name = some none)
    (hq : ∀ h' tk', (∀ b o, b ≠ dx → hp.get? b = some o → h'.get? b = some o) → h'.Ns1 dx (fun y => if y = name then some v else m0 y) → R (.ok (.ret .none)) ⟨h', g, d, tk', os⟩) :
    codeAny (model prog w) A (.call (.builtin "object.__setattr__") ⟨[.ref x, .str name tk, v], []⟩) R ⟨hp, g, d, t, os⟩ := by
  obtain ⟨oD, esD, epD, hoD, hdD, _⟩ := hns.count hw
  refine PySem.W.osa_openX (s := ⟨hp, g, d, t, os⟩) (ox := { cls := .ref C, dict := some dx, data := .fields fv }) (od := some oD) b.SF KX ⟨hx, rfl, rfl, hoD⟩ T.ov hno fun bb => ?_
  obtain ⟨cd, hcd, hh⟩ := cls_dict T.hd
  have LC : PySem.W.Looks (model prog w) hp (classData C) cd := PySem.W.looks_clsIn KX hcd
  obtain ⟨nm, bs, mro, ns, qn, hd, sn, sb, ab, col, del⟩ := cd
  dsimp only at hh
  subst hh
  dsimp only
  unfold storeInOwnDict ownDictForStores
  repeat (first | with_reducible refine OEX.store_in_old hns hw hz ?_ | with_reducible refine wpAny_loadPart_at hx ?_ | with_reducible refine LC.at ?_ | wp_step)
  intro h' tk' hn' hs
  exact hq h' tk' (fun c o hc ho => (hs.2 c hc).trans ho) hn'
end
section
variable {X : Cx} {pins : List (Addr × Obj)} {σ : L2.St} {H : Hp} {s : Shared} {a C dx : Addr} {f : Str} {y : V} {u : Value} {fs : List (Str × V)} {Q : Unit → Shared → Prop} {E : Value → Shared → Prop} {A : Around} {bmB : List Value} {B newId initId : String}
/-- an object told by the heap alone becomes another, a further one is laid -/
theorem inv_graft {φ : Heap → Prop} {h' : Heap} {t' : Nat} {o1 o2 : HO} (I : Inv X pins σ H s) (e : H a = some (.ext φ)) (k : ∀ c o, c ≠ a → s.heap.get? c = some o → h'.get? c = some o) (far : s.heap.objs.size ≤ dx) (ha : ∃ o, h'.get? a = some o)
    (x1 : ObjOk X.prog X.w (upd (upd H dx o1) a o2) h' dx o1) (x2 : ObjOk X.prog X.w (upd (upd H dx o1) a o2) h' a o2) : Inv X pins σ (upd (upd H dx o1) a o2) { s with heap := h', toks := t' } := by
  have free : H dx = none := I.hok.fresh far
  have below : ∀ {c : Addr} {o : Obj}, s.heap.get? c = some o → c ≠ dx := fun {c o} q => Nat.ne_of_lt (Nat.lt_of_lt_of_le (Heap.lt_size q) far)
  have un : ∀ {c : Addr}, H c = none → c ≠ a := fun {c} n z => by rw [z, e] at n; cases n
  have same : ∀ {c : Addr} {v : HO}, H c = some v → c ≠ a → upd (upd H dx o1) a o2 c = some v := fun {c v} q n => by rw [upd_ne n, upd_ne (ne_of_none q free)]; exact q
  have other : ∀ {c : Addr} {v : HO}, H c = some v → (∀ ψ, v ≠ .ext ψ) → c ≠ a := fun {c v} q n z => by
    rw [z, e] at q
    exact n φ (Option.some.inj q).symm
  refine I.un (t' := t') ⟨fun c o q n _ _ => k c o (un n) q, fun c o q n _ _ => ⟨o.slots, k c o (un n) q⟩, fun c o q n _ => ?_, fun c o q _ => ?_, fun c xs q => same q (other q fun _ => nofun), fun c o v q => same q (other q fun _ => nofun), fun c ps q => ⟨#[], ?_⟩⟩ fun c o q => ?_
  · rw [upd_ne (un n), upd_ne (below q)]
    exact n
  · by_cases z : c = a
    · rw [z]
      exact ha
    · exact ⟨o, k c o z q⟩
  · rw [same q (other q fun _ => nofun)]
    simp
  · by_cases z : c = a
    · subst z
      rw [upd_same] at q
      cases q
      exact x2
    rw [upd_ne z] at q
    by_cases z2 : c = dx
    · subst z2
      rw [upd_same] at q
      cases q
      exact x1
    rw [upd_ne z2] at q
    refine (I.hok c o q).stay (fun b v hb hv => k b v ?_ hv) (fun b hb => same hb (other hb fun _ => nofun)) fun b xs hb => same hb (other hb fun _ => nofun)
    rcases hb with hb | hb
    · rw [hb]
      exact z
    · exact other hb fun _ => nofun
theorem xput_new (T : Xc X.K bmB newId C) (b : Xb bmB B newId initId) (I : Inv X pins σ H s) (e : H a = some (exo a C none)) (hno : PySem.W.takerIn X.K C f = some none) (ry : RelV y u)
    (h : ∀ dx s', H dx = none → dx ≠ a → Inv X pins σ (upd (upd H dx (exd dx [(f, y)])) a (exo a C (some dx))) s' → Q () s') : wpAny (model X.prog X.w) A (setAttr (.ref a) f u) Q E s := by
  obtain ⟨t1, ho⟩ := exo_at I.hok e
  obtain ⟨hp, g, d, t, os⟩ := s
  refine PySem.W.set_plain I.kIn (ox := { cls := .ref C, dict := none, data := .fields #[.ref t1, .none, .none, .none, .bool false, .none] }) (od := none) ⟨ho, rfl, rfl, trivial⟩ T.sa ?_
  refine put_first T b I.kIn ho hno fun h' tk' dx k far ne hx hn => ?_
  exact h dx _ (I.hok.fresh far) ne (inv_graft I e k far ⟨_, hx⟩ (exd_ok hn (relO_put (fs := []) ry fun _ => True.intro)) (exo_ok hx))
theorem xput_more (T : Xc X.K bmB newId C) (b : Xb bmB B newId initId) (I : Inv X pins σ H s) (e : H a = some (exo a C (some dx))) (ed : H dx = some (exd dx fs)) (hl : fs.length ≤ 900) (hno : PySem.W.takerIn X.K C f = some none) (ry : RelV y u)
    (h : ∀ s', Inv X pins σ (upd H dx (exd dx ((f, y) :: fs))) s' → Q () s') : wpAny (model X.prog X.w) A (setAttr (.ref a) f u) Q E s := by
  obtain ⟨t1, ho⟩ := exo_at I.hok e
  obtain ⟨mA, hns, rel⟩ := exd_at I.hok ed
  have hw := within_of rel
  obtain ⟨hp, g, d, t, os⟩ := s
  obtain ⟨oD, _, _, hoD, _, _⟩ := hns.count hw
  refine PySem.W.set_plain I.kIn (ox := { cls := .ref C, dict := some dx, data := .fields #[.ref t1, .none, .none, .none, .bool false, .none] }) (od := some oD) ⟨ho, rfl, rfl, hoD⟩ T.sa ?_
  refine put_more T b I.kIn ho hns hw (by rw [List.length_map]; omega) hno fun h' tk' k hn => ?_
  have there : ∃ o, h'.get? dx = some o := let ⟨o, _, _, z, _⟩ := hn; ⟨o, z⟩
  refine h _ (I.write (t' := tk') (x := dx) (e := dx) (o := exd dx ((f, y) :: fs)) ?_ (.inl rfl) k there (exd_ok hn (relO_put ry rel)))
  rw [ed]
  exact True.intro
/-- the built-in __init__ of a made exception -/
theorem xinit {us : List Value} {Q : Value → Shared → Prop} (T : Xc X.K bmB newId C) (b : Xb bmB B newId initId) (I : Inv X pins σ H s) (e : H a = some (exo a C none)) (hl : us.length ≤ sizeLine) (h : ∀ s', Inv X pins σ H s' → Q .none s') :
    wpAny (model X.prog X.w) A (call (.builtin initId) (.ref a :: us)) Q E s := by
  obtain ⟨nm, N, qn, bs, bm, hdct, sn, sub, ab, col, dd, k0, k1, k2, k3, k5, hC, hT⟩ := PySem.W.excInit_of I.kIn T.ii
  obtain ⟨t1, ho⟩ := exo_at I.hok e
  obtain ⟨hp, g, d, t, os⟩ := s
  refine wpAny_call (HandSPX.init_base b.F hT hC ho hl fun h' t2 k hx => ?_)
  have J := I.write (t' := t) (x := a) (e := a) (o := exo a C none) (by rw [e]; exact True.intro) (.inl rfl) k ⟨_, hx⟩ (exo_ok hx)
  have back : upd H a (exo a C none) = H := funext fun c => by
    by_cases z : c = a
    · rw [z, upd_same, e]
    · exact upd_ne z
  rw [back] at J
  exact h _ J
end
/-- the base class's name, whose __init__ is the built-in one -/
structure Xn (K : PySem.W.Frag) (mg : Str → Option Value) (x : Str) (initId : String) (D : Addr) : Prop where
  m : mg x = some (.ref D)
  rd : PySem.W.readsIn K D (.type "type") = true
  fc : PySem.W.findCls K (.ref D) (.type "type") "__init__" = some (.val (.builtin initId))
  ga : PySem.W.specialIn K (.ref D) "__getattribute__" = some (some (.builtin "type.__getattribute__"))
def tXi (K : PySem.W.Frag) (bmB : List Value) (newId : String) (ta : TA) : TE := fun σ H Q => ta σ H fun vs H1 => ∃ (a C : Addr) (ws : List V), vs = .ref a :: ws ∧ ws.length ≤ 1000 ∧ Xc K bmB newId C ∧ H1 a = some (exo a C none) ∧ Q .non H1
def tXo (K : PySem.W.Frag) (bmB : List Value) (newId : String) (f : Str) (to te : TE) : TS := fun D σ H => te σ H fun y H1 => to σ H1 fun x H2 => ∃ a C : Addr, x = .ref a ∧ Xc K bmB newId C ∧ PySem.W.takerIn K C f = some none ∧
  ((H2 a = some (exo a C none) ∧ ∀ dx, H2 dx = none → dx ≠ a → D.nx σ (upd (upd H2 dx (exd dx [(f, y)])) a (exo a C (some dx)))) ∨
    ∃ (dx : Addr) (fs : List (Str × V)), H2 a = some (exo a C (some dx)) ∧ H2 dx = some (exd dx fs) ∧ fs.length ≤ 900 ∧ D.nx σ (upd H2 dx (exd dx ((f, y) :: fs))))
section
variable {X : Cx} {o e : Expr} {es : List Expr} {to te : TE} {ta : TA} {f x : Str} {p p' p1 p2 pos : Pos} {bmB : List Value} {B newId initId : String} {C D : Addr}
/-- B.__init__(self, ..) -/
theorem pe_xi {pl : Sem Bool} (b : Xb bmB B newId initId) (n : Xn X.K X.mg x initId D) (ha : PA X (e :: es) ta) (hh : PySem.W.handedIn (.builtin initId) = true) (hg : Gl X x := by rfl) (hdb : (x == ("__debug__" : Str)) = false := by decide)
    (hc : eval (.Call (.Attribute (.Name x p1) "__init__" p2) (e :: es) [] pos) X.env = (do
      let ov ← eval (.Name x p1) X.env
      standAt p2.atName
      let (m, first) ← holding [ov] (getMethod ov "__init__" pl)
      callWith pos m first (backTo pos (starEach (e :: es) X.env)) (backToKw pos (keywordEach [] X.env))) := by rfl)
    (hs : starEach (e :: es) X.env = (false, eval e X.env) :: starEach es X.env := by rfl) (hpl : (backTo pos (starEach es X.env)).any (·.1) = false := by rfl) :
    PE X (.Call (.Attribute (.Name x p1) "__init__" p2) (e :: es) [] pos) (tXi X.K bmB newId ta) := by
  refine ⟨fun pins s σ H Q I h => ?_⟩
  refine PySem.W.methodCall_KW (ld_glob I hg n.m ?_ hdb) hc
  refine PySem.W.method_cls I.kIn n.ga (PySem.W.cls_value I.kIn n.rd n.fc hh ?_)
  show wpAny _ _ (callWith pos (Value.builtin initId) [] (backTo pos (starEach (e :: es) X.env)) []) _ _ _
  refine PyProof.Rows.callWith_method1 (thn (ha.run pos pins _ σ H _ (I.tok _) h) fun us s1 ⟨vs, H1, I1, r1, a, C, ws, ev, hl, T, ea, q⟩ => ?_) hs hpl
  subst ev
  cases r1 with
  | @cons _ u0 _ ur ra rr =>
    cases ra
    exact xinit T b I1 ea (by rw [← Paired.length rr]; exact Nat.le_trans hl (by decide)) fun s' J => ⟨.non, H1, J, rfl, q⟩
/-- self.f = e -/
theorem ps_xo (b : Xb bmB B newId initId) (ho : PE X o to) (he : PE X e te) (hs : swapsWith e (some (.Attribute o f p')) pos.line X.env = pure false := by rfl) : PS X (.Assign [.Attribute o f p'] e pos) (tXo X.K bmB newId f to te) := by
  refine ⟨fun pins s σ H D I h => ?_⟩
  refine plainObj_wpAny_Assign_Attribute (thn (he.run pins s σ H _ I h) fun v s1 ⟨y, H1, I1, r1, q1⟩ => thn (ho.run pins s1 σ H1 _ I1 q1) fun u s2 ⟨x, H2, I2, r2, a, C, ex, T, hno, q⟩ => ?_) hs
  subst ex
  cases r2
  rcases q with ⟨ea, q⟩ | ⟨dx, fs, ea, ed, hl, q⟩
  · exact xput_new T b I2 ea hno r1 fun dx s' n ne J => ⟨σ, _, J, q dx n ne⟩
  · exact xput_more T b I2 ea ed hl hno r1 fun s' J => ⟨σ, _, J, q⟩
end
/-- the promise of an exception's __init__: its values become its fields fl -/
def sp_xini (C : Addr) (fl : List Str) : Sp := fun vs H Q _ => ∃ (a : Addr) (ws : List V), vs = .ref a :: ws ∧ ws.length = fl.length ∧ H a = some (exo a C none) ∧
  ∀ dx H', H dx = none → dx ≠ a → (∀ b, b ≠ a → b ≠ dx → H' b = H b) → H' a = some (exo a C (some dx)) → H' dx = some (exd dx (fl.zip ws).reverse) → Q .non H'
/-- a class of the module's own, whose objects may be raised -/
structure Xk (P : Program) (w : World) (K : PySem.W.Frag) (mg : Str → Option Value) (base : Heap) (k : Nat) (x : Str) (C : Addr) (fl : List Str) : Prop where
  ex : ∃ (bmB : List Value) (B newId initId : String) (fI : Addr) (fd : FuncData) (ps : List Str), Xb bmB B newId initId ∧ Xc K bmB newId C ∧ PySem.W.findIn K (.ref C) "__init__" = some (some (.ref fI)) ∧ PySem.W.typeIn K (.ref fI) = some (.type "function") ∧
    FnOk P w K mg base (L2.CX P w) k fI fd ps (sp_xini C fl) ∧ Binds K fd ps [] ∧ mg x = some (.ref C)
def tMkX (C : Addr) (fl : List Str) (ta : TA) : L2.St → Hp → XK → Prop := fun σ H Q => ta σ H fun vs H1 => vs.length = fl.length ∧ vs.length ≤ 1000 ∧ ∀ d H2, H1 d = none → (∀ b, b ≠ d → H2 b = H1 b) → H2 d = some (.xd (fl.zip vs).reverse) → Q (.ref C) (some d) H2
theorem pmk_x {X : Cx} {e : Expr} {es : List Expr} {ta : TA} {x : Str} {p pos : Pos} {C : Addr} {fl : List Str} {k j : Nat} (c : Xk X.prog X.w X.K X.mg X.base k x C fl) (hr : RoomG j X.A) (hk : k + 1 ≤ j) (ha : PA X (e :: es) ta) (hg : Gl X x := by rfl)
    (hdb : (x == ("__debug__" : Str)) = false := by decide) (hs : starEach (e :: es) X.env = (false, eval e X.env) :: starEach es X.env := by rfl) (hpl : (backTo pos (starEach es X.env)).any (·.1) = false := by rfl) :
    PMk X (.Call (.Name x p) (e :: es) [] pos) (tMkX C fl ta) := by
  intro pins s σ H Q I h
  obtain ⟨bmB, B, newId, initId, fI, fd, ps, b, T, iC, tI, F1, hb, hm⟩ := c.ex
  refine wpAny_Call_Name_kw (ld_glob I hg hm ?_ hdb)
  refine PySem.W.callWith_K (h₀ := X.base) I.ok.mod.kin T.kC (thn (ha.run pos pins s σ H _ I h) fun us s1 ⟨vs, H1, I1, r1, hz, hz2, q1⟩ => ⟨I1.kIn, ?_⟩) hs hpl
  show wpAny _ _ (call (.ref C) us) _ _ _
  obtain ⟨nm, N, qn, bs, bm, hdct, sn, sub, ab, col, dd, k0, k1, k2, k3, k5, hC, hT⟩ := PySem.W.excInit_of I1.kIn T.ii
  obtain ⟨hp, g, dr, tk, os⟩ := s1
  have next : hp.objs.size ≤ hp.objs.size + 1 := Nat.le_succ _
  have new : H1 (hp.objs.size + 1) = none := I1.hok.fresh next
  have keeps : ∀ c o, hp.get? c = some o → ((hp.push (PySem.W.kdv_tup us)).push (HandSPX.excO C hp.objs.size)).get? c = some o := fun c o z => Heap.get?_push_of_some _ (Heap.get?_push_of_some _ z)
  have there : ((hp.push (PySem.W.kdv_tup us)).push (HandSPX.excO C hp.objs.size)).get? (hp.objs.size + 1) = some (HandSPX.excO C hp.objs.size) := by heap_get
  have I2 := I1.laid (t' := tk) (a := hp.objs.size + 1) (o := exo (hp.objs.size + 1) C none) (h' := (hp.push (PySem.W.kdv_tup us)).push (HandSPX.excO C hp.objs.size)) keeps next (exo_ok there)
  have hsp : sp_xini C fl (.ref (hp.objs.size + 1) :: vs) (upd H1 (hp.objs.size + 1) (exo (hp.objs.size + 1) C none)) (fun v H2 => v = .non ∧ ∃ (d : Addr) (fs : List (Str × V)), H2 (hp.objs.size + 1) = some (exo (hp.objs.size + 1) C (some d)) ∧ H2 d = some (exd d fs) ∧ H1 d = none ∧ Q (.ref C) (some d) (upd (L2.del H2 (hp.objs.size + 1)) d (.xd fs))) (fun _ _ _ => False) := by
    refine ⟨_, vs, rfl, hz, upd_same, fun dx H' n1 n2 same ea ed => ⟨rfl, dx, _, ea, ed, ?_, ?_⟩⟩
    · rw [upd_ne n2] at n1
      exact n1
    · rw [upd_ne n2] at n1
      refine q1 dx _ n1 (fun c nc => ?_) upd_same
      rw [upd_ne nc]
      by_cases z : c = hp.objs.size + 1
      · rw [z, del_same, new]
      · rw [del_ne z, same c z nc, upd_ne z]
  have r2 : Vals (V.ref (hp.objs.size + 1) :: vs) (Value.ref (hp.objs.size + 1) :: us) := .cons rfl r1
  have hl : (Value.ref (hp.objs.size + 1) :: us).length = ps.length := by
    have z := F1.len _ _ _ _ hsp
    rw [r2.length] at z
    exact z
  have hus : us.length ≤ sizeLine := by rw [← Paired.length r1]; exact Nat.le_trans hz2 (by decide)
  have hbn := hb _ (Value.ref (hp.objs.size + 1) :: us) I2.kIn (by rw [List.append_nil]; exact hl)
  rw [List.append_nil] at hbn
  refine wpAny_call (HandSPX.call_own b.F hT hC (PySem.W.looks_findIn I1.kIn iC) (fun self => PySem.W.bind_fn I1.kIn self tI) hus
    (codeAny_mono (F1.run _ X.stack _ _ ⟨Value.ref (hp.objs.size + 1) :: us, []⟩ _ _ _ _ ((hr.mono hk).rm.make C us []) (I2.env0.make C us []) hbn r2 hsp) fun r s' hq' => ?_))
  cases r with
  | error er =>
    obtain ⟨_, _, _, _, _, _, _, _, _, _, _, _, z⟩ := hq'
    exact z.elim
  | ok fl' =>
    cases fl' with
    | ret u =>
      obtain ⟨v, H2, os2, bare2, un2, hok2, rv, ev, d, fs, ea, ed, hd1, q2⟩ := hq'
      subst ev
      obtain ⟨h2, g2, d2, t2, os'⟩ := s'
      exact ⟨rv, mk_end (raises_own T.exC T.tyC) I1 next keeps un2 hok2 os2 bare2 ea ed hd1 q2⟩
    | next => exact False.elim hq'
    | brk => exact False.elim hq'
    | cont => exact False.elim hq'
end Ls
end

section
set_option Elab.async false
set_option linter.all false
set_option maxRecDepth 100000
set_option maxHeartbeats 4000000
namespace Ls
open PySem PySem.Spec PyProof.Rows L2
open PySem.W in
/-- an exception's class, asked of itself -/
theorem exc_class {prog : Program} {w : World} {A : Around} {E : Value → Shared → Prop} {s : Shared} {K : PySem.W.Frag} {x D : Addr} {ox : Obj} {od : Option Obj} {Q : Option Value → Shared → Prop} (c : ExcC K D) (KX : K.In s.heap) (I : InstAt s.heap x ox D od) (h : Q (some (.ref D)) { s with toks := s.toks + 1 }) :
    wpAny (model prog w) A (getAttr? (.ref x) "__class__") Q E s := by
  have found : findObj K D od "__class__" = some (.bind (.builtin "getset_descriptor.__get__") (.builtin "object.__class__")) := by
    obtain ⟨cd, q, _⟩ := any_some c.hd
    unfold findObj
    rw [q, Option.bind_some, c.ha, Option.bind_some]
    simp [c.hn, c.ht]
  obtain ⟨hp, g, d, t, os⟩ := s
  have ofT := I.type (M := model prog w)
  have base : Looks (model prog w) hp (isInstance (.ref x) (.type "BaseException")) true := ofT.andThen (looks_subIn KX c.hs)
  have nob : (Value.builtin "BaseException.__getattribute__" == Value.builtin "object.__getattribute__") = false := by decide +kernel
  unfold getAttr? getAttrBy? getAttrBy
  refine wpAny_bind (wpAny_mkText (wpAny_bind (wpAny_attempt (wpAny_holding (wpAny_bind (ofT.at (wpAny_bind ((looks_findIn (M := model prog w) KX c.hg).at ?_))))))))
  show wpAny _ _ (if (onTheHeap (Value.ref D) && Value.builtin "BaseException.__getattribute__" == Value.builtin "object.__getattribute__") = true then _ else _) _ _ _
  rw [nob, Bool.and_false, if_neg Bool.false_ne_true]
  unfold getAttrByItsOwn hookBefore
  refine wpAny_bind ?_
  rw [if_pos (show onTheHeap (Value.ref D) = true from rfl)]
  refine (looks_findIn (M := model prog w) KX c.hk).at (wpAny_bind (wpAny_attempt (wpAny_holding ?_)))
  unfold callGetattribute
  rw [Bool.false_and, if_neg Bool.false_ne_true]
  unfold boundAndCalled
  rw [F.excAttr_ValueError.ga.bind (.ref x)]
  refine wpAny_bind (wpAny_pure ?_)
  show wpAny _ _ (call (.builtin "BaseException.__getattribute__") [.ref x, .str "__class__" t]) _ _ _
  refine wpAny_call (codeAny_call_builtin F.excAttr_ValueError.ga.plain F.entry_bexc_ga ?_)
  refine @check_slot (model prog w) _ _ ⟨hp, g, d, t + 1, os⟩ "BaseException.__getattribute__" "BaseException" "__getattribute__" (.ref x) [.str "__class__" t] [] _ (by decide +kernel) (by decide +kernel) base (F.args_bexc_ga (.ref x) (.str "__class__" t)) ?_
  unfold Builtin.«object.__getattribute__»
  refine wpAny_bind (wpAny_of_eq (a := ((Value.ref x : Value), [Value.str "__class__" t])) (by first | rfl | (simp only [slotArgs]; rfl)) ?_)
  refine wpAny_bind (wpAny_pure (wpAny_bind (ofT.at (wpAny_bind ((looks_find (M := model prog w) KX I found).at ?_)))))
  show wpAny _ _ (holding [Value.builtin "object.__class__"] (call (.builtin "getset_descriptor.__get__") [.builtin "object.__class__", .ref x, .ref D]) >>= ret) _ _ _
  refine wpAny_bind (wpAny_holding (wpAny_call (class_get (s := ⟨hp, g, d, t + 1, os⟩) (ox := ox) (od := od) KX I c.hm (wpAny_pure ?_))))
  show wpAny _ _ (handedOut (.ref D)) _ _ _
  rw [handedOut_of (v := .ref D) rfl]
  first
    | exact wpAny_pure (wpAny_pure h)
    | exact wpAny_pure h
    | exact wpAny_pure (wpAny_bind (wpAny_pure (wpAny_pure h)))
open PySem.W in
theorem kitx_exc {K : PySem.W.Frag} {x D : Addr} {ox : Obj} (c : ExcC K D) : KitX K (.ref x) (.ref D) (fun h => ∃ od, InstAt h x ox D od) where
  ty := fun _ _ _ ⟨_, I⟩ => I.type
  it := fun _ _ KX _ A' Q' E' s' k q => by
    obtain ⟨cd, hcd, _⟩ := any_some c.hd
    unfold clsIn at hcd
    split at hcd
    · rename_i ho
      unfold isType loadHead
      exact wpAny_bind (wpAny_loadPart (k _ _ (KX _ _ ho)) (wpAny_pure q))
    · cases hcd
  ne := fun h tp dd its n sl KX htp => by
    obtain ⟨cd, hcd, _⟩ := any_some c.hd
    cases z : (Value.ref D == .ref tp) with
    | false => rfl
    | true =>
      have e : D = tp := Value.ref.inj (beq_iff_eq.mp z)
      subst e
      unfold clsIn at hcd
      split at hcd
      · rename_i ho
        have z := (KX _ _ ho).symm.trans htp
        cases z
      · cases hcd
  ca := fun KX ⟨_, I⟩ k => exc_class c KX I k
/-- a class as a value -/
def clsV : V → Value
  | .ref a => .ref a
  | .ty T => .type T
  | _ => .none
def isCls : V → Bool
  | .ref _ => true
  | .ty _ => true
  | _ => false
theorem clsV_rel {c : V} {u : Value} (h : isCls c = true) (r : RelV c u) : u = clsV c := by
  cases c <;> first | exact r | cases h
theorem clsV_vals : ∀ {cs : List V} {us : List Value}, cs.all isCls = true → Vals cs us → us = cs.map clsV
  | [], _, _, r => by cases r; rfl
  | c :: cs, _, h, r => by
    cases r with
    | cons a b =>
      rw [List.all_cons, Bool.and_eq_true] at h
      rw [clsV_rel h.1 a, clsV_vals h.2 b]
      rfl
/-- an instance of D, asked of one class or of several -/
def isAsk (K : PySem.W.Frag) (D : Addr) (c : V) (H : Hp) (b : Bool) : Prop := (isCls c = true ∧ PySem.W.kitOne K (.ref D) (clsV c) = some b) ∨ ∃ tp cs, c = .ref tp ∧ SqT K H tp cs ∧ cs.all isCls = true ∧ PySem.W.kitAny K (.ref D) (cs.map clsV) = some b
/-- isinstance(e, c), e the exception that the suite holds -/
def rIsS (K : PySem.W.Frag) (a : Addr) (cls : Value) (d : Option Addr) : List V → Hp → VK → Prop := fun xs H Q => ∃ (c : V) (D dd : Addr) (fs : List (Str × V)) (b : Bool), xs = [.ref a, c] ∧ cls = .ref D ∧ d = some dd ∧ H dd = some (.xd fs) ∧ ExcC K D ∧ isAsk K D c H b ∧ Q (.bl b) H
theorem isinst_x {X : Cx} {pins : List (Addr × Obj)} {σ : L2.St} {H : Hp} {s : Shared} {Q : VK} {x D : Addr} {ox : Obj} {c : V} {u : Value} {b : Bool} (I : Inv X pins σ H s) (J : ∃ od, PySem.W.InstAt s.heap x ox D od) (T : ExcC X.K D) (rc : RelV c u) (ask : isAsk X.K D c H b) (q : Q (.bl b) H) :
    wpAny (model X.prog X.w) X.A (call (.builtin "isinstance") [.ref x, u]) (EP X pins σ Q) X.xe s := by
  have fin : ∀ tk, EP X pins σ Q (.bool b) { s with toks := tk } := fun tk => ⟨.bl b, H, I.kept (t' := tk) fun _ _ z => z, rfl, q⟩
  rcases ask with ⟨h1, h2⟩ | ⟨tp, cs, rfl, hS, hc, h2⟩
  · have e := clsV_rel h1 rc
    subst e
    exact PySem.W.kia_one (kitx_exc (ox := ox) T) I.kIn J h2 (fun z => nomatch z) fin
  · cases rc
    obtain ⟨its, rv, ⟨o, ho, hcl, n, hd⟩, _⟩ := I.tuple hS
    have e := clsV_vals hc rv
    subst e
    obtain ⟨oc, od, dt, sl⟩ := o
    dsimp only at hcl hd
    subst hcl hd
    exact PySem.W.kia_tup (kitx_exc (ox := ox) T) I.kIn J ho h2 (fun z => nomatch z) fin
theorem call_isS {X : Cx} {a : Addr} {oe : Obj} {cls : Value} {d : Option Addr} {pn : List (Addr × Obj)} (hz : Zc cls d oe) (hf : ∃ vs, oe.data = .fields vs) : CallR (X.suite a ((a, oe) :: pn)) (.builtin "isinstance") (rIsS X.K a cls d) := by
  intro pins s σ H xs us Q I r h
  obtain ⟨c, D, dd, fs, b, rfl, rfl, rfl, hx, T, ask, q⟩ := h
  cases r with
  | cons rx rr =>
    cases rr with
    | cons rc rr =>
      cases rr
      cases rx
      obtain ⟨hget, _⟩ := I.pin (a, oe) (List.mem_append_left _ List.mem_cons_self)
      obtain ⟨vs, hv⟩ := hf
      obtain ⟨mA, ⟨od, es, ep, ho, _⟩, _⟩ := (show ObjOk X.prog X.w H s.heap dd (.xd fs) from I.hok dd _ hx)
      refine isinst_x (ox := oe) I ⟨some od, hget, hz.1, ?_, ?_⟩ T rc ask q
      · unfold PySem.W.notCls
        rw [hv]
      · rw [hz.2]
        exact ho
end Ls
end

section
set_option Elab.async false
set_option linter.all false
set_option maxRecDepth 100000
set_option maxHeartbeats 4000000
namespace Ls
open PySem PySem.Spec PyProof.Rows L2 LamX
theorem RoomG.deeper {k : Nat} {A : Around} (r : RoomG (k + 1) A) (e : Env) : RoomG k (A.deeper e) := ⟨r.rm.deeper e, r.gd⟩
section
variable {X : Cx} {pins : List (Addr × Obj)} {σ : L2.St} {H : Hp} {s : Shared}
/-- a(), a the lambda f, in the def that got it -/
theorem pe_actG {Eg : XK} {Ng : List Str} {qg : Str} {sg : Scope} {g f c' : Addr} {cdg pm ctv : Value} {params : Arguments} {body : Expr} {scope : Scope} {k i : Nat} {a : Str} {pn : List (Addr × Obj)} {xe : Value → Shared → Prop} {W : WX} {E : XK} {tb : TE} {p1 p2 : Pos}
    (I : Inv X pins σ H s) (L : LamS X.env.scope scope) (of : s.heap.get? f = some (PySem.W.kla_obj "<lambda>" (X.env.qual ++ "<lambda>") params body scope (cloFrom X.env.cells scope.names []) pm c' ctv)) (nf : H f = none) (nfr : f ∉ frs X.stack)
    (bnd : bindArgs (PySem.W.kla_fn "<lambda>" (X.env.qual ++ "<lambda>") params body scope (cloFrom X.env.cells scope.names []) pm (.ref c') ctv) ⟨[], []⟩ = pure [])
    (tk : Takes ((cxOf (L2.CX X.prog X.w) X.prog X.w X.K X.mg X.base Ng qg sg g cdg X.A X.stack s H Eg).tr pn xe) W) (hr : RoomG (k + 1) (X.A.deeper (envOfC qg sg s.heap.objs.size g cdg)))
    (hb : ∀ (A : Around) (outer : List Env) (s : Shared) (H : Hp), RoomG k (A.deeper (lamEnv X scope s.heap.objs.size f c')) → PE (lamCx X A outer s H E scope f c') body tb)
    (hN : Ng[i]? = some a) (hv : Vis sg a) (hd : (a == ("__debug__" : Str)) = false := by decide) (hcd : (a == ("__classdict__" : Str)) = false := by decide) :
    PE ((cxOf (L2.CX X.prog X.w) X.prog X.w X.K X.mg X.base Ng qg sg g cdg X.A X.stack s H Eg).tr pn xe) (.Call (.Name a p1) [] [] p2)
      (fun σ1 H1 Q => (∀ cls d H', E cls d H' → W cls d σ1 H') ∧ σ1[i]? = some (some (.ref f)) ∧ H1 c' = some (CodeO c' (X.env.qual ++ "<lambda>")) ∧ tb σ H1 Q) := by
  refine ⟨fun pins1 s1 σ1 H1 Q I1 ⟨hW, hs, hc, ht⟩ => ?_⟩
  refine wpAny_Call_Name_kw (thn ((pe_var (pos := p1) (i := i) hN hv hd hcd).run pins1 s1 σ1 H1 (fun v H2 => v = .ref f ∧ H2 = H1) I1 ⟨.ref f, hs, rfl, rfl⟩) fun u s2 ⟨v, H2, I2, r2, ev, eH⟩ => ?_)
  subst ev eH
  cases r2
  have stands : s2.heap.get? f = some (PySem.W.kla_obj "<lambda>" (X.env.qual ++ "<lambda>") params body scope (cloFrom X.env.cells scope.names []) pm c' ctv) := I2.base.keep f _ of nf nfr nofun
  refine PySem.W.callWith_F0 ⟨_, _, _, _, stands⟩ (wpAny_call (codeAny_mono (R := CR (L2.CX X.prog X.w) (envOfC qg sg s.heap.objs.size g cdg :: X.stack) X.prog X.w H2 s2 Q E) ?_ fun r s' hq => ?_))
  · obtain ⟨⟨oc, vs, t, hoc, hdc, hvc⟩, _, _⟩ := I2.hok c' _ hc
    refine PySem.W.kla_callFunE hr.rm.depth stands rfl L.co L.gen rfl ⟨c', oc, vs, t, rfl, hoc, hdc, hvc⟩ ?_
    rw [show ([] : List Value) ++ [] = [] from rfl, bnd]
    refine wpAny_pure (wpAny_newFunctionEnv (fun y hy => (L.own y hy).2) (fun y hy => nomatch hy) (fun h1 hns hsb => ⟨I2.nolimit.fresh _ hsb, ?_⟩) L.kind)
    have keeps : ∀ b o, s2.heap.get? b = some o → h1.get? b = some o := fun b o z => hsb.extBut b o (Nat.ne_of_lt (Heap.lt_size z)) (Heap.get?_push_of_some _ z)
    have J := lam_start2 (E := E) (f := f) (c' := c') (tk := s2.toks + ([] : List (Str × Value)).length) I L I2.env0 hr.rm.hd I2.base hns keeps
    show codeAny _ _ (.expr body (lamEnv X scope s2.heap.objs.size f c')) _ _
    refine PySem.W.kla_codeExpr (wpAny_mono ((hb _ _ s2 H2 (hr.deeper _)).run [] _ _ H2 Q J ht) (fun v s' ⟨x, H', J', rv, q⟩ => ?_) fun _ _ z => z)
    exact ⟨x, H', J'.os, J'.bare, J'.base, J'.hok, rv, q⟩
  · cases r with
    | error e => exact tk e s' (XE.of_call I2 (fun cls d H' z => hW cls d H' z) hq)
    | ok fl =>
      cases fl with
      | ret u => exact I2.after hq
      | next => exact False.elim hq
      | brk => exact False.elim hq
      | cont => exact False.elim hq
end
/-- what a def that calls its one argument makes of a lambda's reading -/
def Giv (P : Program) (w : World) (K : PySem.W.Frag) (mg : Str → Option Value) (base : Heap) (k : Nat) (x : Str) (st : Stmt) (a : Str) (Ng : List Str) (TT : (XK → Hp → VK → Prop) → Hp → VK → Prop) : Prop :=
  ∀ (g : Addr) (cdv : Value) (A : Around) (outer : List Env) (s : Shared) (H : Hp) (Q : VK) (f c' : Addr) (q : Str) (tl : XK → Hp → VK → Prop), RoomG k (A.deeper (envOfC x (defScope st) s.heap.objs.size g cdv)) →
    (∀ (W : WX) (pn : List (Addr × Obj)) (xe : Value → Shared → Prop) (E : XK) (p1 p2 : Pos), Takes ((cxOf (L2.CX P w) P w K mg base Ng x (defScope st) g cdv A outer s H E0).tr pn xe) W →
      PE ((cxOf (L2.CX P w) P w K mg base Ng x (defScope st) g cdv A outer s H E0).tr pn xe) (.Call (.Name a p1) [] [] p2) (fun σ1 H1 Q => (∀ cls d H', E cls d H' → W cls d σ1 H') ∧ σ1[0]? = some (some (.ref f)) ∧ H1 c' = some (CodeO c' q) ∧ tl E H1 Q)) →
    H c' = some (CodeO c' q) → TT tl H Q →
    ∃ t, PSs (cxOf (L2.CX P w) P w K mg base Ng x (defScope st) g cdv A outer s H E0) (defBody st) t ∧ t { nx := fun _ H' => Q .non H', rt := Q } (L2.start Ng [.ref f]) H
/-- x(lambda: body) -/
theorem pe_lamG {X : Cx} {T : List (Addr × Str)} {TT : (XK → Hp → VK → Prop) → Hp → VK → Prop} {x a : Str} {st : Stmt} {c P : Addr} {k : Nat} {Ng : List Str} {params : Arguments} {body : Expr} {scope : Scope} {t : XK → TE} {p lpos pos : Pos}
    (D : Df X.K X.mg x st [a]) (S : FnScope Ng [a] (defScope st)) (G : Giv X.prog X.w X.K X.mg X.base (k + 1) x st a Ng TT) (TB : TabB X.base X.mg c P) (hcode : X.env.code = .ref c) (hmT : (P, X.env.qual ++ "<lambda>") ∈ T) (hu : ∀ p ∈ T, p.1 = P → p.2 = X.env.qual ++ "<lambda>") (hr : RoomG (k + 2) X.A)
    (L : LamS X.env.scope scope) (hb : ∀ (A : Around) (outer : List Env) (s : Shared) (H : Hp) (E : XK) (f c' : Addr), RoomG k (A.deeper (lamEnv X scope s.heap.objs.size f c')) → PE (lamCx X A outer s H E scope f c') body (t E))
    (hNg : Ng[0]? = some a := by rfl) (hva : Vis (defScope st) a := by exact .inl rfl) (hdef : defaultsOf params X.env = ([], []) := by rfl)
    (hbind : ∀ (q : Str) (cl : List (Str × Addr)) (pm cv ctv : Value), bindArgs (PySem.W.kla_fn "<lambda>" q params body scope cl pm cv ctv) ⟨[], []⟩ = pure [] := by intros; rfl)
    (hg : Gl X x := by rfl) (hdb : (x == ("__debug__" : Str)) = false := by decide) (hd : (a == ("__debug__" : Str)) = false := by decide) (hcd : (a == ("__classdict__" : Str)) = false := by decide) :
    PE X (.Call (.Name x p) [.Lambda params body scope lpos] [] pos) (tLam T TT t) := by
  obtain ⟨g, fd, F, hm, bnd⟩ := D.ex
  obtain ⟨oc, od, kV, doc, pm, an, cdv, ct, osl, rfl, lk, hcg⟩ := F.ex
  refine ⟨fun pins s σ H Q I ⟨hT, h⟩ => ?_⟩
  refine wpAny_Call_Name_kw (ld_glob I hg hm ?_ hdb)
  refine PySem.W.callWith_K (h₀ := X.base) I.ok.mod.kin F.kp ?_ (by rfl) (by rfl)
  show wpAny _ _ (spliced ((false, eval (.Lambda params body scope lpos) X.env) :: backTo pos (starEach [] X.env))) _ _ s
  refine Calls.spliced_cons (lam_make2 I TB hcode hmT hu hT hdef (L.has I.ok) fun f c' pm' ctv H1 s' I1 eN T1 hf hfn hfr hco => Calls.spliced_nil ⟨I1.kIn, ?_⟩)
  refine wpAny_call (codeAny_mono (R := CR (L2.CX X.prog X.w) X.stack X.prog X.w H1 s' Q E0) ?_ fun r s2 hq => ?_)
  · refine run_ofS (N := Ng) (ps := [a]) (us := [.ref f]) (vs := [.ref f]) lk hcg S hr.rm I1.env0 (.of_eq (bnd [.ref f] rfl)) (.cons rfl .nil) rfl fun hr' => ?_
    refine G g cdv X.A X.stack s' H1 Q f c' _ (fun E H' Q' => t E σ H' Q') ⟨hr', hr.gd⟩ (fun W pn xe E p1 p2 tk => ?_) hco (h H1 eN T1)
    exact pe_actG (i := 0) I1 L hf hfn hfr (hbind _ _ _ _ _) tk ⟨hr', hr.gd⟩ (fun A outer s H hr2 => hb A outer s H E f c' hr2) hNg hva hd hcd
  · cases r with
    | error e =>
      obtain ⟨_, _, _, _, _, _, _, _, _, _, _, _, z⟩ := hq
      exact z.elim
    | ok fl =>
      cases fl with
      | ret u => exact I1.after hq
      | next => exact False.elim hq
      | brk => exact False.elim hq
      | cont => exact False.elim hq
end Ls
end

section
set_option Elab.async false
set_option linter.all false
set_option maxRecDepth 100000
set_option maxHeartbeats 4000000
namespace Ls
open PySem PySem.Spec PyProof.Rows L2 LamX
/-- a module's def, its code object, that one's table -/
def fA (mg : Str → Option Value) (x : Str) : Addr := match mg x with | some (.ref a) => a | _ => 0
def kA (K : PySem.W.Frag) (mg : Str → Option Value) (x : Str) : Addr := match K.lookup (fA mg x) with | some ⟨_, _, .func fd, _⟩ => (match fd.code with | .ref c => c | _ => 0) | _ => 0
def pA (K : PySem.W.Frag) (mg : Str → Option Value) (x : Str) : Addr := match K.lookup (kA K mg x) with | some ⟨_, _, .fields vs, _⟩ => (match (vs[11]? : Option Value) with | some (Value.ref P) => P | _ => 0) | _ => 0
structure Tb (K : PySem.W.Frag) (mg : Str → Option Value) (x : Str) : Prop where
  m : mg x = some (.ref (fA mg x))
  ex : ∃ (oc : Value) (od : Option Addr) (fd : FuncData) (sl : Array (Option Value)) (e : Value) (dd : Option Addr) (vs : Array Value) (sl2 : Array (Option Value)), K.lookup (fA mg x) = some ⟨oc, od, .func fd, sl⟩ ∧ fd.code = .ref (kA K mg x) ∧
    K.lookup (kA K mg x) = some ⟨e, dd, .fields vs, sl2⟩ ∧ vs[11]? = some (.ref (pA K mg x))
  nP : K.lookup (pA K mg x) = none
theorem tb_mk {K : PySem.W.Frag} {mg : Str → Option Value} {x : Str} {f c P : Addr} {oc e : Value} {od dd : Option Addr} {fd : FuncData} {sl sl2 : Array (Option Value)} {vs : Array Value} (m : mg x = some (.ref f)) (l : K.lookup f = some ⟨oc, od, .func fd, sl⟩) (hc : fd.code = .ref c)
    (lc : K.lookup c = some ⟨e, dd, .fields vs, sl2⟩) (hv : vs[11]? = some (.ref P)) (n : K.lookup P = none) : Tb K mg x := by
  have e1 : fA mg x = f := by unfold fA; rw [m]
  have e2 : kA K mg x = c := by unfold kA; rw [e1, l]; dsimp only; rw [hc]
  have e3 : pA K mg x = P := by unfold pA; rw [e2, lc]; dsimp only; rw [hv]
  exact ⟨by rw [e1]; exact m, ⟨oc, od, fd, sl, e, dd, vs, sl2, by rw [e1]; exact l, by rw [e2]; exact hc, by rw [e2]; exact lc, by rw [e3]; exact hv⟩, by rw [e3]; exact n⟩
/-- what the tracked heap holds at the start -/
noncomputable def scrT (K : PySem.W.Frag) (a : Addr) (vs : List Value) (ns : List Int) (ts : List Addr) : Hp := fun b => if b ∈ ts then some (.tbl #[]) else scrH K a vs ns b
section
variable {K : PySem.W.Frag} {a b : Addr} {vs : List Value} {ns : List Int} {ts : List Addr} {u : HO}
theorem scrT_in (h : b ∈ ts) : scrT K a vs ns ts b = some (.tbl #[]) := if_pos h
theorem scrT_out (h : b ∉ ts) : scrT K a vs ns ts b = scrH K a vs ns b := if_neg h
end
theorem law_gT {P : Program} {w : World} {K : PySem.W.Frag} {mg mb : Str → Option Value} {k : Nat} {fa a : Addr} {x nm : Str} {st : Stmt} {sp : Sp} {s1 : Shared} {vs : List Value} {ns : List Int} {nms : List Str}
    (KX : K.In s1.heap) (hns : s1.heap.Ns mainGlobals mg) (hb : s1.heap.Ns builtinsNs mb) (hbb : ∀ x : Str, x ≠ "__name__" → mb x = bootBuiltins x) (hlim : s1.heap.NoLimit) (hdig : s1.heap.NoDigits) (hg : s1.gens = #[])
    (TB : ∀ y ∈ nms, Tb K mg y) (C : ∀ y ∈ nms, PySem.W.CodeHd s1.heap (kA K mg y) (pA K mg y) ∧ s1.heap.get? (pA K mg y) = some { cls := .none, data := .fields #[] })
    (bm : ∃ (bm : Addr) (ob : Obj), mg "__builtins__" = some (.ref bm) ∧ bm ≠ builtinsNs ∧ s1.heap.get? bm = some ob ∧ ob.cls = .type "module" ∧ ob.dict = some builtinsNs ∧ ob.data = .plain)
    (ha : s1.heap.get? a = some (scrO vs)) (hi : IntsAre vs ns) (hl : ns.length ≤ sizeLine) (hr : Room k callerA) (hfa : mg nm = some (.ref fa))
    (F : ∀ base : Heap, K.In base → base.Ns mainGlobals mg → (∀ y ∈ nms, TabB base mg (kA K mg y) (pA K mg y)) → base.NoDigits → Cal P w K mg base k nm st [x] sp)
    (hsp : ∀ H : Hp, (∀ y ∈ nms, H (pA K mg y) = some (.tbl #[])) → SqL K H a (ns.map V.int) → sp [.ref a] H (fun v _ => v = .bl true) fun _ _ _ => False) :
    codeAny (model P w) callerA (.call (.ref fa) ⟨[.ref a], []⟩) (fun r s' => r = .ok (.ret (.bool true)) ∧ OldK s1.heap s'.heap ∧ s'.os = s1.os ∧ AllBare s'.gens) s1 := by
  have rv := vals_ints hi
  have len : vs.length = ns.length := hi.length
  obtain ⟨ts, hts⟩ : ∃ ts, ts = nms.map (pA K mg) := ⟨_, rfl⟩
  have tabs : ∀ b, b ∈ ts → s1.heap.get? b = some { cls := .none, data := .fields #[] } ∧ K.lookup b = none := fun b h => by
    rw [hts] at h
    obtain ⟨y, hy, rfl⟩ := List.mem_map.mp h
    exact ⟨(C y hy).2, (TB y hy).nP⟩
  have isT : ∀ y ∈ nms, pA K mg y ∈ ts := fun y hy => by rw [hts]; exact List.mem_map.mpr ⟨y, hy, rfl⟩
  have nota : a ∉ ts := fun h => by
    have q := (tabs a h).1
    rw [ha] at q
    have z := congrArg Obj.data (Option.some.inj q)
    cases z
  let H := scrT K a vs ns ts
  have atA : H a = scrH K a vs ns a := scrT_out nota
  have kinds : ∀ {b : Addr} {u : HO}, H b = some u → (b ∈ ts ∧ u = .tbl #[]) ∨ (b = a ∧ K.lookup a = none ∧ u = .frz (scrO vs) (.lst (ns.map V.int))) := fun {b u} h => by
    by_cases z : b ∈ ts
    · exact .inl ⟨z, Option.some.inj (h.symm.trans (scrT_in z))⟩
    · exact .inr (scrH_some ((scrT_out z).symm.trans h))
  have seq : SqL K H a (ns.map V.int) := by
    cases e : K.lookup a with
    | none => exact .inl (.inr ⟨_, atA.trans (scrH_at e)⟩)
    | some o =>
      have q := KX a o e
      rw [ha] at q
      cases q
      exact .inr ⟨_, vs.toArray, _, e, rfl, rfl, rfl, by rw [List.size_toArray, len]; exact hl, by simpa using rv⟩
  have hok : HOk P w H s1.heap := fun b u e => by
    rcases kinds e with ⟨h, rfl⟩ | ⟨rfl, _, rfl⟩
    · exact (tabs b h).1
    · exact ⟨ha, by rw [List.length_map]; exact hl, vs, _, rv, ha⟩
  -- what is no list and no table stands apart
  have apart : ∀ {b : Addr} {o : Obj}, s1.heap.get? b = some o → o ≠ scrO vs → o ≠ { cls := .none, data := .fields #[] } → (hidT s1.heap H).get? b = some o := fun {b o} e n1 n2 => by
    refine hidT_get e ?_
    cases q : H b with
    | none => rfl
    | some u =>
      rcases kinds q with ⟨h, _⟩ | ⟨rfl, _, _⟩
      · exact absurd (Option.some.inj (e.symm.trans (tabs b h).1)) n2
      · exact absurd (Option.some.inj (e.symm.trans ha)) n1
  have dicts : ∀ {o : Obj} {es : Array DictEntry} {n : Nat}, o.data = .dict es n → o ≠ scrO vs ∧ o ≠ { cls := .none, data := .fields #[] } := fun {o es n} d => by
    constructor
    · intro z
      rw [z] at d
      cases d
    · intro z
      rw [z] at d
      cases d
  have own : ∀ {b : Addr} {m : Str → Option Value}, s1.heap.Ns b m → (hidT s1.heap H).Ns b m := fun ⟨o, es, n, e, d, r⟩ => ⟨o, es, n, apart e (dicts d).1 (dicts d).2, d, r⟩
  have kin : K.In (hidT s1.heap H) := fun b o e => hidT_get (KX b o e) (by
    cases q : H b with
    | none => rfl
    | some u =>
      rcases kinds q with ⟨h, _⟩ | ⟨rfl, n, _⟩
      · rw [(tabs b h).2] at e
        cases e
      · rw [n] at e
        cases e)
  have M : Mod K mg (hidT s1.heap H) := ⟨kin, own hns, ⟨mb, own hb, hbb⟩, let ⟨mc, h1, h2⟩ := hlim; ⟨mc, own h1, h2⟩⟩
  have tb : ∀ y ∈ nms, TabB (hidT s1.heap H) mg (kA K mg y) (pA K mg y) := fun y hy => by
    have hP := (C y hy).2
    refine ⟨?_, ?_, fun z => ?_⟩
    · obtain ⟨o, us, file, tf, flags, tg, inF, text, tt, e1, r1, r2, r3, r⟩ := (C y hy).1
      refine ⟨o, us, file, tf, flags, tg, inF, text, tt, apart e1 (fun z => ?_) (fun z => ?_), r1, r2, r3, r⟩
      · rw [z] at r2
        cases r2
      · rw [z] at r2
        cases r2
        simp at r3
    · obtain ⟨bm, ob, b1, b2, b3, b4, b5, b6⟩ := bm
      refine ⟨bm, ob, b1, b2, fun q => ?_, fun q => ?_, apart b3 (fun z => ?_) (fun z => ?_), b4, b5, b6⟩
      · obtain ⟨o, es, ep, e, hd, _⟩ := hns
        rw [q, e] at b3
        cases b3
        rw [hd] at b6
        cases b6
      · rw [q, hP] at b3
        cases b3
        cases b6
      · rw [z] at b6
        cases b6
      · rw [z] at b6
        cases b6
    · obtain ⟨o, es, ep, e, hd, _⟩ := hns
      rw [z, hP] at e
      cases e
      cases hd
  have e0 : Env0 P w K mg (hidT s1.heap H) callerA [] s1 H := ⟨rfl, M, fun b o e => of_hidT e, Nat.le_of_eq (hidT_size _ _), trivial, fun b z => (nomatch z), hok, .of_eq hg⟩
  obtain ⟨f, fd, Cc, g, _, bnd⟩ := (F _ kin (own hns) tb (let ⟨mc, h1, h2⟩ := hdig; ⟨mc, own h1, h2⟩)).ex
  rw [hfa] at g
  cases g
  refine codeAny_mono (Cc.run callerA [] s1 H ⟨[.ref a], []⟩ [.ref a] [.ref a] _ _ ⟨hr, rfl⟩ e0 (.of_eq (bnd _ rfl)) (.cons rfl .nil) (hsp H (fun y hy => scrT_in (isT y hy)) seq)) fun r s' q => ?_
  cases r with
  | error e =>
    obtain ⟨_, _, _, _, _, _, _, _, _, _, _, _, z⟩ := q
    exact z.elim
  | ok fl =>
    cases fl with
    | next => exact False.elim q
    | brk => exact False.elim q
    | cont => exact False.elim q
    | ret u =>
      obtain ⟨v, H', os, bare, un, hok', rv', rfl⟩ := q
      obtain rfl : u = Value.bool true := rv'
      have keep : ∀ b o, b ∉ ts → s1.heap.get? b = some o → s'.heap.get? b = some o := fun b o nb e => by
        cases z : H b with
        | none => exact un.keep b o e z nofun nofun
        | some u =>
          rcases kinds z with ⟨h, _⟩ | ⟨rfl, _, rfl⟩
          · exact absurd h nb
          · rw [ha] at e
            cases e
            exact (hok' b _ (un.frzs b _ _ z)).1
      have grown : ∀ b, b ∈ ts → ∃ more : Array Value, s'.heap.get? b = some { cls := .none, data := .fields more } := fun b h => by
        obtain ⟨more, z⟩ := un.tbls b #[] (scrT_in h)
        exact ⟨_, hok' b _ z⟩
      refine ⟨rfl, ⟨fun b o e => ?_, fun b o e => ?_⟩, os, bare⟩
      · by_cases h : b ∈ ts
        · obtain ⟨more, hm⟩ := grown b h
          rw [hts] at h
          obtain ⟨y, hy, rfl⟩ := List.mem_map.mp h
          obtain ⟨hC, hP⟩ := C y hy
          rw [hP] at e
          cases e
          exact .inr (.inl ⟨(hC.tab hP).isCodeTable, rfl, #[], more, rfl, by rw [Array.empty_append]; exact hm⟩)
        · exact .inl (keep b o h e)
      · by_cases h : b ∈ ts
        · obtain ⟨more, hm⟩ := grown b h
          exact ⟨_, hm⟩
        · exact ⟨o, keep b o h e⟩
/-- the goal that k_head leaves, from the law's promise, where the defs nms make lambdas -/
theorem walk_gT {l : PySem.W.OpenLaw} {n k : Nat} {q : Program} {loose : List Str} {XP : (Str → Option Value) → Heap → Prop} {YP : World → Heap → Prop} {d : DefRec} {K : Params → PySem.W.Frag} {sp : PySem.W.Frag → (Str → Option Value) → Sp} {x : Str} {st : Stmt} {nms : List Str}
    (hn : l.most = some n) (hn2 : n ≤ sizeLine) (hdf : d.params.defaults = []) (hr : Room k callerA) (hq : nms.all (fun y => (recsOf q).any fun e => e.name == y) = true)
    (hY : ∀ (w : World) (h : Heap), YP w h → (K w.params).In h)
    (T : ∀ (w : World) (mg : Str → Option Value) (h : Heap), (K w.params).In h → h.Ns mainGlobals mg → ∀ y ∈ nms, Tb (K w.params) mg y)
    (F : ∀ (w : World) (mg : Str → Option Value) (fa : Addr) (h : Heap), (K w.params).In h → h.Ns mainGlobals mg → mg d.name = some (.ref fa) → (∀ y ∈ nms, Tb (K w.params) mg y) →
      ∀ base : Heap, (K w.params).In base → base.Ns mainGlobals mg → (∀ y ∈ nms, TabB base mg (kA (K w.params) mg y) (pA (K w.params) mg y)) → base.NoDigits → Cal l.prog w (K w.params) mg base k d.name st [x] (sp (K w.params) mg))
    (hsp : ∀ (K : PySem.W.Frag) (mg : Str → Option Value) (H : Hp) (a : Addr) (ns : List Int), ns.length ≤ n → (∀ y ∈ nms, H (pA K mg y) = some (.tbl #[])) → SqL K H a (ns.map V.int) → sp K mg [.ref a] H (fun v _ => v = .bl true) fun _ _ _ => False) :
    PySem.W.WalkO q loose XP YP l.row.toRowW d [] (fun f vs => PySem.call f vs) := by
  refine Att.attach_call hn hdf fun w s0 s1 mg mb fa o pm cd doc a vs ns G Y ho hd hcd hmg hobj hints hlen hg => ?_
  have KX := hY w _ Y
  have TB := T w mg _ KX G.T.g
  refine law_gT KX G.T.g G.T.b G.T.builtins G.T.nolimit G.T.nodigits hg TB (fun y hy => ?_) G.T.bmain hobj hints (Nat.le_trans hlen hn2) hr hmg (fun base h1 h2 h3 h4 => F w mg fa _ KX G.T.g hmg TB base h1 h2 h3 h4) fun H hT hS => hsp _ _ H a ns hlen hT hS
  obtain ⟨dL, hm, hn1⟩ := List.any_eq_true.mp (List.all_eq_true.mp hq y hy)
  have hn2 : dL.name = y := beq_iff_eq.mp hn1
  obtain ⟨a', o', fd', c', P', h1, h2, h3, h4, h5, h6⟩ := G.T.tab dL hm
  obtain ⟨oc, od, fd, sl, e, dd, us, sl2, k1, k2, k3, k4⟩ := (TB y hy).ex
  rw [hn2, (TB y hy).m] at h1
  cases h1
  have g1 := KX _ _ k1
  rw [g1] at h2
  cases h2
  cases h3
  rw [k2] at h4
  cases h4
  have hd := PySem.W.CodeHd.of h5 h6
  obtain ⟨⟨oc2, vc, e1, _, e3, e4⟩, hP⟩ := h6
  have g2 := KX _ _ k3
  rw [g2] at e1
  cases e1
  cases e3
  rw [k4] at e4
  cases e4
  exact ⟨hd, hP⟩
end Ls
end

section
set_option Elab.async false
set_option linter.all false
set_option maxRecDepth 100000
set_option maxHeartbeats 4000000
namespace Ls
open PySem PySem.Spec PyProof.Rows L2 LamX
abbrev bm_ValueError : List Value := [.type "ValueError", .type "Exception", .type "BaseException", .type "object"]
abbrev bm_LookupError : List Value := [.type "LookupError", .type "Exception", .type "BaseException", .type "object"]
abbrev bm_RuntimeError : List Value := [.type "RuntimeError", .type "Exception", .type "BaseException", .type "object"]
abbrev bm_ArithmeticError : List Value := [.type "ArithmeticError", .type "Exception", .type "BaseException", .type "object"]
/-- an exception class with its own __init__ -/
structure Xd (K : PySem.W.Frag) (mg : Str → Option Value) (x : Str) (bmB : List Value) (newId : String) (st : Stmt) (ps : List Str) : Prop where
  m : mg x = some (.ref (fA mg x))
  T : Xc K bmB newId (fA mg x)
  ex : ∃ (fI : Addr) (fd : FuncData), PySem.W.findIn K (.ref (fA mg x)) "__init__" = some (some (.ref fI)) ∧ PySem.W.typeIn K (.ref fI) = some (.type "function") ∧ Fun K "__init__" (x ++ ".__init__") st fI fd ∧
    ∀ (us : List Value), us.length = ps.length → bindArgs fd ⟨us, []⟩ = pure (ps.zip us)
theorem fA_eq {mg : Str → Option Value} {x : Str} {C : Addr} (m : mg x = some (.ref C)) : fA mg x = C := by unfold fA; rw [m]
theorem xd_mk {K : PySem.W.Frag} {mg : Str → Option Value} {x : Str} {bmB : List Value} {newId : String} {st : Stmt} {ps : List Str} {C fI : Addr} {oc : Value} {od an : Option Addr} {osl : Array (Option Value)} {kV doc pm cdv ct : Value}
    (m : mg x = some (.ref C)) (h1 : PySem.W.excInitIn K C bmB newId = true) (h2 : PySem.W.excOver K C bmB = true) (h3 : PySem.W.hasDictIn K C = true) (h4 : PySem.W.findIn K (.ref C) "__setattr__" = some (some (.builtin "object.__setattr__")))
    (h5 : PySem.W.subIn K (.ref C) (.type "BaseException") = some true) (h6 : PySem.W.typeIn K (.ref C) = some (.type "type")) (h7 : PySem.W.keepIn K (.ref C) = true) (hi : PySem.W.findIn K (.ref C) "__init__" = some (some (.ref fI))) (ht : PySem.W.typeIn K (.ref fI) = some (.type "function"))
    (l : K.lookup fI = some ⟨oc, od, .func (PySem.W.fnOf "__init__" (x ++ ".__init__") (defArgs st) (defBody st) (defScope st) .none kV doc pm an cdv ct), osl⟩) (c : PySem.W.codeIn K cdv (x ++ ".__init__") = true) (k : PySem.W.keepIn K (.ref fI) = true)
    (h : ∀ (kV doc pm : Value) (an : Option Addr) (cdv ct : Value) (us : List Value), us.length = ps.length → bindArgs (PySem.W.fnOf "__init__" (x ++ ".__init__") (defArgs st) (defBody st) (defScope st) .none kV doc pm an cdv ct) ⟨us, []⟩ = pure (ps.zip us)) : Xd K mg x bmB newId st ps := by
  have e := fA_eq m
  refine ⟨by rw [e]; exact m, by rw [e]; exact ⟨h1, h2, h3, h4, h5, h6, h7⟩, fI, _, by rw [e]; exact hi, ht, fun_mk l c k, h kV doc pm an cdv ct⟩
section
variable {P : Program} {w : World} {K : PySem.W.Frag} {mg : Str → Option Value} {base : Heap} {x : Str} {bmB : List Value} {B newId initId : String} {st : Stmt} {ps fl N : List Str} {k : Nat}
theorem Xd.ok (D : Xd K mg x bmB newId st ps) (b : Xb bmB B newId initId) (S : FnScope N ps (defScope st)) (hl : fl.length + 1 = ps.length)
    (body : ∀ (f : Addr) (cdv : Value) (A : Around) (outer : List Env) (s : Shared) (H : Hp) (a : Addr) (ws : List V) (Q : VK) (E : XK), ws.length = fl.length → H a = some (exo a (fA mg x) none) →
      (∀ dx H', H dx = none → dx ≠ a → (∀ b, b ≠ a → b ≠ dx → H' b = H b) → H' a = some (exo a (fA mg x) (some dx)) → H' dx = some (exd dx (fl.zip ws).reverse) → Q .non H') →
      ∃ t, PSs (cxOf (L2.CX P w) P w K mg base N (x ++ ".__init__") (defScope st) f cdv A outer s H E) (defBody st) t ∧ t { nx := fun _ H' => Q .non H', rt := Q } (L2.start N (.ref a :: ws)) H) :
    Xk P w K mg base (k + 1) x (fA mg x) fl := by
  obtain ⟨fI, fd, hi, ht, F, bnd⟩ := D.ex
  obtain ⟨oc, od, kV, doc, pm, an, cdv, ct, osl, rfl, lk, hcd⟩ := F.ex
  have len : ∀ vs H Q E, sp_xini (fA mg x) fl vs H Q E → vs.length = ps.length := fun vs H Q E h => by
    obtain ⟨a, ws, rfl, hw, _⟩ := h
    rw [List.length_cons, hw]
    exact hl
  refine ⟨bmB, B, newId, initId, fI, PySem.W.fnOf "__init__" (x ++ ".__init__") (defArgs st) (defBody st) (defScope st) .none kV doc pm an cdv ct, ps, b, D.T, hi, ht, ⟨len, fun A outer s H args us vs Q E hr e0 hb r hsp => ?_⟩, fun s us _ h => ?_, D.m⟩
  · refine LamX.run_ofS lk hcd S hr e0 hb r (len _ _ _ _ hsp) fun _ => ?_
    obtain ⟨a, ws, rfl, hw, ha, q⟩ := hsp
    exact body fI cdv A outer s H a ws Q E hw ha q
  · rw [List.append_nil] at h ⊢
    exact .of_eq (bnd us h)
end
/-- one field -/
theorem xd_one {f : Str} {a C : Addr} {y : V} {H : Hp} {σ : L2.St} {D : Ends} (q : ∀ dx H', H dx = none → dx ≠ a → (∀ b, b ≠ a → b ≠ dx → H' b = H b) → H' a = some (exo a C (some dx)) → H' dx = some (exd dx [(f, y)]) → D.nx σ H') :
    ∀ dx, H dx = none → dx ≠ a → D.nx σ (upd (upd H dx (exd dx [(f, y)])) a (exo a C (some dx))) := fun dx n ne =>
  q dx _ n ne (fun b n1 n2 => by rw [upd_ne n1, upd_ne n2]) upd_same (by rw [upd_ne ne, upd_same])
section
variable {σ : L2.St} {H : Hp} {Q : VK} {K : PySem.W.Frag} {bmB : List Value} {newId : String} {ta : TA} {to te : TE} {D : Ends} {f : Str}
theorem r_xi (h : ta σ H fun vs H1 => ∃ (a C : Addr) (ws : List V), vs = .ref a :: ws ∧ ws.length ≤ 1000 ∧ Xc K bmB newId C ∧ H1 a = some (exo a C none) ∧ Q .non H1) : tXi K bmB newId ta σ H Q := h
theorem r_xo (h : te σ H fun y H1 => to σ H1 fun x H2 => ∃ a C : Addr, x = .ref a ∧ Xc K bmB newId C ∧ PySem.W.takerIn K C f = some none ∧
  ((H2 a = some (exo a C none) ∧ ∀ dx, H2 dx = none → dx ≠ a → D.nx σ (upd (upd H2 dx (exd dx [(f, y)])) a (exo a C (some dx)))) ∨
    ∃ (dx : Addr) (fs : List (Str × V)), H2 a = some (exo a C (some dx)) ∧ H2 dx = some (exd dx fs) ∧ fs.length ≤ 900 ∧ D.nx σ (upd H2 dx (exd dx ((f, y) :: fs))))) : tXo K bmB newId f to te D σ H := h
end
theorem r_never {D : Ends} {σ : L2.St} {H : Hp} (h : False) : tNever D σ H := h
/-- all but one new object stands -/
theorem ex_same {H H' : Hp} {d : Addr} (n : H d = none) (h : ∀ b, b ≠ d → H' b = H b) : Ex H H' := fun a o e => by rw [h a (ne_of_none e n)]; exact e
/-- check_value, whatever it is given -/
def sp_checkX (K : PySem.W.Frag) (C : Addr) (n : Nat) : Sp := fun vs H Q E => ∃ v d, vs = [v] ∧ Dt K H v d ∧ smD d = true ∧ tdp d < n ∧ ((isF d || isD d) = true → ∀ H', Ex H H' → Q .non H') ∧
  ((isF d || isD d) = false → ∀ dd H', Ex H H' → H' dd = some (.xd [("value", v)]) → E (.ref C) (some dd) H')
/-- .., what gives r of a value, and raises otherwise -/
def sp_onV (K : PySem.W.Frag) (C : Addr) (n : Nat) (r : PyData → V) : Sp := fun vs H Q E => ∃ v d, vs = [v] ∧ Dt K H v d ∧ smD d = true ∧ tdp d < n ∧ ((isF d || isD d) = true → ∀ H', Ex H H' → Q (r d) H') ∧
  ((isF d || isD d) = false → ∀ dd H', Ex H H' → H' dd = some (.xd [("value", v)]) → E (.ref C) (some dd) H')
section
variable {σ : L2.St} {H : Hp} {C : Addr} {fl : List Str} {ta : TA} {Q : XK}
theorem r_mk (h : ta σ H fun vs H1 => vs.length = fl.length ∧ vs.length ≤ 1000 ∧ ∀ d H2, H1 d = none → (∀ b, b ≠ d → H2 b = H1 b) → H2 d = some (.xd (fl.zip vs).reverse) → Q (.ref C) (some d) H2) : tMkX C fl ta σ H Q := h
end
def tAct (W : WX) (f c' : Addr) (q : Str) (tl : XK → Hp → VK → Prop) : TS := fun D σ H => ∃ E : XK, (∀ cls d H', E cls d H' → W cls d σ H') ∧ σ[0]? = some (some (.ref f)) ∧ H c' = some (CodeO c' q) ∧ tl E H fun _ H1 => D.nx σ H1
theorem pss_act {X : Cx} {W : WX} {f c' : Addr} {q a : Str} {tl : XK → Hp → VK → Prop} {p1 p2 p3 : Pos}
    (h : ∀ (E : XK) (p1 p2 : Pos), PE X (.Call (.Name a p1) [] [] p2) (fun σ1 H1 Q => (∀ cls d H', E cls d H' → W cls d σ1 H') ∧ σ1[0]? = some (some (.ref f)) ∧ H1 c' = some (CodeO c' q) ∧ tl E H1 Q)) :
    PSs X [.Expr (.Call (.Name a p1) [] [] p2) p3] (tAct W f c' q tl) := by
  refine ⟨fun pins s σ H D I h' => ?_⟩
  obtain ⟨E, hW, h1, h2, h3⟩ := h'
  exact (pss_one (ps_expr (pos := p3) (h E p1 p2))).run pins s σ H D I ⟨hW, h1, h2, h3⟩
/-- data that repr shows, dicts too -/
structure Rq (d : PyData) : Prop where
  sh : shW d = true
  len : (PyData.shown d).length ≤ 100000
  dep : PyData.depth d ≤ 10
theorem Rp.rq {d : PyData} (r : Rp d) : Rq d := ⟨r.sh, Nat.le_trans r.len (by decide), r.dep⟩
section
variable {H : Hp} {Q : VK} {K : PySem.W.Frag} {x y : V} {d e : PyData}
theorem y_repD (h : Dt K H x d) (r : Rq d) (q : Q (.str d.shown) H) : rRepr K [x] H Q := y_repr h r.sh (Nat.le_trans r.len (by decide)) (by have := r.dep; omega) q
theorem y_rep2D {p : Addr} (hp : H p = some (.lst [x, y])) (np : p ≠ 1) (h : Dt K H x d) (h2 : Dt K H y e) (r : Rq d) (r2 : Rq e) (q : Q (.str (PyData.list [d, e]).shown) H) : rRepr K [.ref p] H Q := by
  refine y_repr (.lst (.of hp) (.cons h (.cons h2 .nil))) ?_ ?_ ?_ q
  · simp [shW, shWL, r.sh, r2.sh]
  · rw [PyData.shown_list, len_app, len_app, lit_lo, lit_lc]
    have hj := join_len (Str.ofString ", ") (PyData.shownAll [d, e])
    rw [lit_sep, PyData.shownAll_length, PyData.shownAll_cons, PyData.shownAll_cons, PyData.shownAll_nil] at hj
    simp only [List.map_cons, List.map_nil, List.sum_cons, List.sum_nil, List.length_cons, List.length_nil] at hj
    have := r.len
    have := r2.len
    have h2 : sizeLine = 16777216 := rfl
    rw [PyData.shownAll_cons, PyData.shownAll_cons, PyData.shownAll_nil]
    omega
  · have := r.dep
    have := r2.dep
    simp only [PyData.depth, PyData.depthAll]
    omega
end
/-- what a def makes of a call that gives anything, or raises C with its value: the shown error, or 'None' -/
def TTref (K : PySem.W.Frag) (C : Addr) (tl : XK → Hp → VK → Prop) (H : Hp) (Q : VK) : Prop := ∀ (E : XK) (Qn : VK),
  (∀ (H' : Hp) (dd : Addr) (v : V) (dat : PyData), H' dd = some (.xd [("value", v)]) → Dt K H' v dat → Rq dat → (∀ H2, Ex H' H2 → Q (.str (PyData.list [dat, .bool true]).shown) H2) → E (.ref C) (some dd) H') →
  (∀ v H', (∀ H2, Ex H' H2 → Q (.str PyData.none.shown) H2) → Qn v H') → tl E H Qn
section
variable {σ : L2.St} {H : Hp} {Q : VK} {K : PySem.W.Frag} {a : Addr} {cls : Value} {d : Option Addr} {C : Addr} {f : Str} {te : TE}
theorem r_xf (h : te σ H fun x H1 => x = .ref a ∧ cls = .ref C ∧ ∃ (dd : Addr) (fs : List (Str × V)) (v : V), d = some dd ∧ H1 dd = some (.xd fs) ∧ fs.lookup f = some v ∧ Q v H1) : tXf a cls d C f te σ H Q := h
end
end Ls
end

section
set_option Elab.async false
set_option linter.all false
set_option maxRecDepth 100000
set_option maxHeartbeats 4000000
namespace Ls
open PySem PySem.Spec PyProof.Rows L2 SX LamX
/-- without p, without tables -/
def mo (H : Hp) (p : Addr) : Hp := fun a => if a = p then none else match H a with | some (.tbl _) => none | o => o
section
variable {H H1 H2 : Hp} {p a : Addr} {o : HO}
theorem mo_some (h : mo H p a = some o) : a ≠ p ∧ H a = some o ∧ ∀ ps, o ≠ .tbl ps := by
  unfold mo at h
  split at h
  · cases h
  · rename_i n
    split at h
    · cases h
    · rename_i z
      refine ⟨n, h, fun ps e => ?_⟩
      subst e
      exact z ps h
theorem mo_of (n : a ≠ p) (h : H a = some o) (z : ∀ ps, o ≠ .tbl ps) : mo H p a = some o := by
  unfold mo
  rw [if_neg n, h]
  split
  · rename_i ps e
    exact absurd (Option.some.inj e) (z ps)
  · rfl
theorem mo_ex : Ex (mo H p) H := fun a o h => (mo_some h).2.1
/-- all stands but p and tables -/
def Eo (p : Addr) (H H' : Hp) : Prop := Ex (mo H p) (mo H' p)
theorem Eo.refl (p : Addr) (H : Hp) : Eo p H H := Ex.refl _
theorem Eo.trans (a : Eo p H H1) (b : Eo p H1 H2) : Eo p H H2 := Ex.trans a b
theorem Em.eo (e : Em p H H1) : Eo p H H1 := fun a o h => let ⟨n, h1, z⟩ := mo_some h; mo_of n (e a o n h1) z
theorem Ex.eo (p : Addr) (e : Ex H H1) : Eo p H H1 := (e.em p).eo
theorem extN_eo (p : Addr) (e : ExtN H H1) : Eo p H H1 := fun a o h => let ⟨n, h1, z⟩ := mo_some h; mo_of n (e a o h1 z) z
theorem Pt.extN (h : Pt H p) (e : ExtN H H1) : Pt H1 p := let ⟨a, b, h1, h2⟩ := h; ⟨a, b, e _ _ h1 (fun _ z => nomatch z), h2⟩
theorem mo_none (h : H a = none) : mo H p a = none := by
  unfold mo
  split
  · rfl
  · rw [h]
theorem tabs_em {T : List (Addr × Str)} {xs : List V} (t : Tabs T H) (hp : H p = some (.lst xs)) (e : Em p H H1) : Tabs T H1 := fun q hq => by
  obtain ⟨ps, h1, h2, h3⟩ := t q hq
  have n1 : q.1 ≠ p := fun z => by rw [z, hp] at h1; cases h1
  refine ⟨ps, e _ _ n1 h1, h2, fun pos cv hc => ?_⟩
  obtain ⟨c, e1, e2⟩ := h3 pos cv hc
  exact ⟨c, e1, e _ _ (fun z => by rw [z, hp] at e2; cases e2) e2⟩
theorem Pt.tabs {T : List (Addr × Str)} (h : Pt H p) (t : Tabs T H) (e : Em p H H1) : Tabs T H1 := let ⟨_, _, h1, _⟩ := h; tabs_em t h1 e
theorem mo_sq {K : PySem.W.Frag} {xs : List V} (n : a ≠ p) (h : SqL K H a xs) : SqL K (mo H p) a xs := by
  rcases h with (h | ⟨o, h⟩) | h
  · exact .inl (.inl (mo_of n h fun _ z => nomatch z))
  · exact .inl (.inr ⟨o, mo_of n h fun _ z => nomatch z⟩)
  · exact .inr h
theorem Eo.lst {xs : List V} (e : Eo p H H1) (n : a ≠ p) (h : H a = some (.lst xs)) : H1 a = some (.lst xs) := (mo_some (e _ _ (mo_of n h fun _ z => nomatch z))).2.1
end
mutual
def plD : PyData → Bool
  | .int _ => true
  | .tuple ds => decide (ds.length < 41) && plL ds
  | _ => false
def plL : List PyData → Bool
  | [] => true
  | d :: ds => plD d && plL ds
end
theorem plL_all : ∀ ds : List PyData, plL ds = (ds.map plD).all id
  | [] => rfl
  | d :: ds => by rw [plL, plL_all ds]; rfl
mutual
theorem pl_fl {K : PySem.W.Frag} {H : Hp} : ∀ (d : PyData) {v : V}, plD d = true → Dt K H v d → Fl K H v d
  | .int i, _, _, hd => by cases hd; exact .int i
  | .tuple ds, _, h, hd => by
    cases hd with
    | tup s a =>
      rw [plD, Bool.and_eq_true] at h
      exact .tup s (plL_fl ds h.2 a)
  | .none, _, h, _ => by simp [plD] at h
  | .bool _, _, h, _ => by simp [plD] at h
  | .str _, _, h, _ => by simp [plD] at h
  | .list _, _, h, _ => by simp [plD] at h
  | .dict _, _, h, _ => by simp [plD] at h
theorem plL_fl {K : PySem.W.Frag} {H : Hp} : ∀ (ds : List PyData) {vs : List V}, plL ds = true → DtAll K H vs ds → FlAll K H vs ds
  | [], _, _, hd => by cases hd; exact .nil
  | d :: ds, _, h, hd => by
    cases hd with
    | cons a b =>
      rw [plL, Bool.and_eq_true] at h
      exact .cons (pl_fl d h.1 a) (plL_fl ds h.2 b)
end
end Ls
end

section
set_option Elab.async false
set_option linter.all false
set_option maxRecDepth 100000
set_option maxHeartbeats 4000000
namespace Ls
open PySem PySem.Spec PyProof.Rows L2 SX LamX
mutual
/-- integers within tuples are small -/
def inD : PyData → Bool
  | .int i => decide (i.natAbs < 10 ^ 62)
  | .tuple ds => inL ds
  | _ => true
def inL : List PyData → Bool
  | [] => true
  | d :: ds => inD d && inL ds
end
theorem inL_mem : ∀ {ds : List PyData}, inL ds = true → ∀ {d : PyData}, d ∈ ds → inD d = true
  | d' :: ds, h, d, hd => by
    rw [inL, Bool.and_eq_true] at h
    rcases List.mem_cons.mp hd with rfl | hd
    · exact h.1
    · exact inL_mem h.2 hd
theorem inL_of : ∀ {ds : List PyData}, (∀ d, d ∈ ds → inD d = true) → inL ds = true
  | [], _ => rfl
  | d :: ds, h => by rw [inL, h d List.mem_cons_self, inL_of fun e he => h e (List.mem_cons_of_mem _ he)]; rfl
mutual
theorem in_sm : ∀ d : PyData, inD d = true → smD d = true
  | .int i, h => by
    rw [inD, decide_eq_true_eq] at h
    rw [smD, decide_eq_true_eq]
    exact gd_log h
  | .tuple ds, h => by rw [inD] at h; rw [smD]; exact inL_sm ds h
  | .none, _ => rfl
  | .bool _, _ => rfl
  | .str _, _ => rfl
  | .list _, _ => rfl
  | .dict _, _ => rfl
theorem inL_sm : ∀ d : List PyData, inL d = true → smL d = true
  | [], _ => rfl
  | d :: ds, h => by
    rw [inL, Bool.and_eq_true] at h
    rw [smL, in_sm d h.1, inL_sm ds h.2]
    rfl
end
mutual
theorem in_gd : ∀ d : PyData, inD d = true → plD d = true → gdD d = true
  | .int i, h, _ => by rw [inD] at h; rw [gdD]; exact h
  | .tuple ds, h, p => by
    rw [inD] at h
    rw [plD, Bool.and_eq_true, decide_eq_true_eq] at p
    rw [gdD, inL_gd ds h p.2, Bool.and_true, decide_eq_true_eq]
    omega
  | .none, _, h => by simp [plD] at h
  | .bool _, _, h => by simp [plD] at h
  | .str _, _, h => by simp [plD] at h
  | .list _, _, h => by simp [plD] at h
  | .dict _, _, h => by simp [plD] at h
theorem inL_gd : ∀ d : List PyData, inL d = true → plL d = true → gdL d = true
  | [], _, _ => rfl
  | d :: ds, h, p => by
    rw [inL, Bool.and_eq_true] at h
    rw [plL, Bool.and_eq_true] at p
    rw [gdL, in_gd d h.1 p.1, inL_gd ds h.2 p.2]
    rfl
end
mutual
theorem ns_pl : ∀ d : PyData, nsD d = true → plD d = true
  | .int _, _ => rfl
  | .tuple ds, h => by
    rw [nsD, Bool.and_eq_true, decide_eq_true_eq] at h
    rw [plD, nsL_pl ds h.2, Bool.and_true, decide_eq_true_eq]
    omega
  | .none, h => by simp [nsD] at h
  | .bool _, h => by simp [nsD] at h
  | .str _, h => by simp [nsD] at h
  | .list _, h => by simp [nsD] at h
  | .dict _, h => by simp [nsD] at h
theorem nsL_pl : ∀ d : List PyData, nsL d = true → plL d = true
  | [], _ => rfl
  | d :: ds, h => by
    rw [nsL, Bool.and_eq_true] at h
    rw [plL, ns_pl d h.1, nsL_pl ds h.2]
    rfl
end
mutual
theorem is_ft : ∀ d : PyData, nsD d = true → tdp d ≤ 4 → szD d ≤ 1000 → ftD d = true
  | .int i, _, _, h => by rw [szD] at h; rw [ftD, decide_eq_true_eq]; exact h
  | .tuple ds, h, ht, hz => by
    rw [nsD, Bool.and_eq_true] at h
    rw [tdp] at ht
    rw [szD] at hz
    rw [ftD, h.1, isL_ft ds h.2 (by omega) (by omega), decide_eq_true (by omega : tdpL ds ≤ 3), decide_eq_true hz]
    rfl
  | .none, h, _, _ => by simp [nsD] at h
  | .bool _, h, _, _ => by simp [nsD] at h
  | .str _, h, _, _ => by simp [nsD] at h
  | .list _, h, _, _ => by simp [nsD] at h
  | .dict _, h, _, _ => by simp [nsD] at h
theorem isL_ft : ∀ ds : List PyData, nsL ds = true → tdpL ds ≤ 4 → szL ds ≤ 1000 → ftL ds = true
  | [], _, _, _ => rfl
  | d :: ds, h, ht, hz => by
    rw [nsL, Bool.and_eq_true] at h
    rw [tdpL] at ht
    rw [szL] at hz
    have h1 := szD_pos d h.1
    have h2 := szL_nn ds h.2
    rw [ftL, is_ft d h.1 (Nat.le_trans (Nat.le_max_left _ _) ht) (by omega), isL_ft ds h.2 (Nat.le_trans (Nat.le_max_right _ _) ht) (by omega)]
    rfl
end
theorem is_due (d : PyData) : isD d = (plD d && ftD d) := by
  cases h : isD d with
  | true =>
    unfold isD at h
    simp only [Bool.and_eq_true, decide_eq_true_eq] at h
    rw [ns_pl d h.1, is_ft d h.1 (by omega) h.2.2]
    rfl
  | false =>
    cases p : ftD d with
    | true => rw [ft_is p] at h; cases h
    | false => rw [Bool.and_false]
structure Bd (b k : Nat) (d : PyData) : Prop where
  sh : shW d = true
  len : (PyData.shown d).length ≤ b
  dep : PyData.depth d ≤ k
  inn : inD d = true
theorem Bd.mono {b k b' k' : Nat} {d : PyData} (h : Bd b k d) (h1 : b ≤ b') (h2 : k ≤ k') : Bd b' k' d := ⟨h.sh, Nat.le_trans h.len h1, Nat.le_trans h.dep h2, h.inn⟩
theorem Bd.rq {b k : Nat} {d : PyData} (h : Bd b k d) (h1 : b ≤ 100000) (h2 : k ≤ 10) : Rq d := ⟨h.sh, Nat.le_trans h.len h1, Nat.le_trans h.dep h2⟩
theorem Bd.int {i : Int} (h : i.natAbs < 10 ^ 62) : Bd 64 0 (.int i) := by
  have hl := gd_log h
  refine ⟨by rw [shW, decide_eq_true_eq]; exact hl, ?_, by rw [PyData.depth]; exact Nat.le_refl _, by rw [inD, decide_eq_true_eq]; exact h⟩
  rw [PyData.shown_int, show ((toString i : String) : Str) = S (intL i) from str_int i, S_len]
  have := TL.numL_len (n := i.natAbs) (k := 62) (by decide) h
  unfold intL
  split
  · rw [List.length_cons]; omega
  · omega
theorem Bd.i21 {i : Int} (h : i.natAbs ≤ 10 ^ 21) : Bd 23 0 (.int i) := by
  have hl : i.natAbs < 10 ^ 22 := Nat.lt_of_le_of_lt h (by decide)
  have hg : i.natAbs < 10 ^ 62 := Nat.lt_trans hl (by decide +kernel)
  refine ⟨by rw [shW, decide_eq_true_eq]; exact gd_log hg, ?_, by rw [PyData.depth]; exact Nat.le_refl _, by rw [inD, decide_eq_true_eq]; exact hg⟩
  rw [PyData.shown_int, show ((toString i : String) : Str) = S (intL i) from str_int i, S_len]
  have := TL.numL_len (n := i.natAbs) (k := 22) (by decide) hl
  unfold intL
  split
  · rw [List.length_cons]; omega
  · omega
theorem shownAll_sum {b : Nat} : ∀ {ds : List PyData}, (∀ d ∈ ds, (PyData.shown d).length ≤ b) → ((PyData.shownAll ds).map (·.length)).sum ≤ ds.length * b
  | [], _ => by rw [PyData.shownAll_nil]; simp
  | d :: ds, h => by
    have h1 := h d List.mem_cons_self
    have h2 := shownAll_sum fun e he => h e (List.mem_cons_of_mem _ he)
    rw [PyData.shownAll_cons, List.map_cons, List.sum_cons, List.length_cons, Nat.succ_mul]
    omega
theorem showAll_of : ∀ {ds : List PyData}, (∀ d ∈ ds, shW d = true) → shWL ds = true
  | [], _ => by simp only [shWL]
  | d :: ds, h => by rw [shWL, h d List.mem_cons_self, showAll_of fun e he => h e (List.mem_cons_of_mem _ he)]; rfl
theorem depAll_of {k : Nat} : ∀ {ds : List PyData}, (∀ d ∈ ds, PyData.depth d ≤ k) → PyData.depthAll ds ≤ k
  | [], _ => by simp only [PyData.depthAll]; exact Nat.zero_le _
  | d :: ds, h => by
    rw [PyData.depthAll]
    exact Nat.max_le.mpr ⟨h d List.mem_cons_self, depAll_of fun e he => h e (List.mem_cons_of_mem _ he)⟩
theorem Bd.tup {b k n : Nat} {ds : List PyData} (h : ∀ d ∈ ds, Bd b k d) (hn : ds.length ≤ n) : Bd (n * (b + 2) + 3) (k + 1) (.tuple ds) := by
  refine ⟨by rw [shW]; exact showAll_of fun d hd => (h d hd).sh, ?_, by rw [PyData.depth]; exact Nat.succ_le_succ (depAll_of fun d hd => (h d hd).dep), by rw [inD]; exact inL_of fun d hd => (h d hd).inn⟩
  have hs := shownAll_sum fun d hd => (h d hd).len
  have hj := join_len (Str.ofString ", ") (PyData.shownAll ds)
  rw [lit_sep, PyData.shownAll_length] at hj
  have hm : ds.length * b + 2 * ds.length ≤ n * (b + 2) := by
    rw [Nat.mul_comm 2, ← Nat.mul_add]
    exact Nat.mul_le_mul_right _ hn
  rw [PyData.shown_tuple, len_app, len_app, lit_open]
  split
  · rw [lit_close1]; omega
  · rw [lit_close]; omega
theorem Bd.lst {b k n : Nat} {ds : List PyData} (h : ∀ d ∈ ds, Bd b k d) (hn : ds.length ≤ n) : Bd (n * (b + 2) + 3) (k + 1) (.list ds) := by
  refine ⟨by rw [shW]; exact showAll_of fun d hd => (h d hd).sh, ?_, by rw [PyData.depth]; exact Nat.succ_le_succ (depAll_of fun d hd => (h d hd).dep), rfl⟩
  have hs := shownAll_sum fun d hd => (h d hd).len
  have hj := join_len (Str.ofString ", ") (PyData.shownAll ds)
  rw [lit_sep, PyData.shownAll_length] at hj
  have hm : ds.length * b + 2 * ds.length ≤ n * (b + 2) := by
    rw [Nat.mul_comm 2, ← Nat.mul_add]
    exact Nat.mul_le_mul_right _ hn
  rw [PyData.shown_list, len_app, len_app, lit_lo, lit_lc]
  omega
theorem Bd.bool (b : Bool) : Bd 5 0 (.bool b) := ⟨rfl, by cases b <;> (rw [PyData.shown_bool]; decide +kernel), by rw [PyData.depth]; exact Nat.le_refl _, rfl⟩
theorem Bd.none : Bd 5 0 .none := ⟨rfl, by rw [PyData.shown_none]; decide +kernel, by rw [PyData.depth]; exact Nat.le_refl _, rfl⟩
mutual
theorem tdp_dep : ∀ d : PyData, tdp d ≤ PyData.depth d
  | .tuple ds => by rw [tdp, PyData.depth]; have := tdpL_dep ds; omega
  | .int _ => Nat.zero_le _
  | .none => Nat.zero_le _
  | .bool _ => Nat.zero_le _
  | .str _ => Nat.zero_le _
  | .list _ => Nat.zero_le _
  | .dict _ => Nat.zero_le _
theorem tdpL_dep : ∀ ds : List PyData, tdpL ds ≤ PyData.depthAll ds
  | [] => Nat.zero_le _
  | d :: ds => by
    rw [tdpL, PyData.depthAll]
    have := tdp_dep d
    have := tdpL_dep ds
    omega
end
section
variable {σ : L2.St} {H : Hp} {Q : VK}
theorem r_dn (q : ∀ p H', H p = none → Ex H H' → H' p = some (.dK []) → Q (.ref p) H') : tDNewK σ H Q := fun p n => q p _ n (Ex.new n) upd_same
theorem r_d1 {i j : Int} (q : ∀ p H', H p = none → Ex H H' → H' p = some (.dK [(.inl i, .int j)]) → Q (.ref p) H') : tDisp [(tC (.int i), tC (.int j))] σ H Q := fun p n => by
  unfold tPairs
  refine ⟨upd_same, [(.inl i, .int j)], rfl, by simp, ?_⟩
  refine q p _ n (fun a o e => ?_) upd_same
  rw [upd_ne (ne_of_none e n), upd_ne (ne_of_none e n)]
  exact e
end
/-- what a def draws, of any kind: bounded, apart from the pot -/
def sp_odraw (K : PySem.W.Frag) (b k : Nat) : Sp := fun vs H Q _ => ∃ p : Addr, vs = [.ref p] ∧ Pt H p ∧ ∀ v d H', Dt K (mo H' p) v d → Bd b k d → Pt H' p → Em p H H' → Q v H'
theorem mo_st {K : PySem.W.Frag} {H : Hp} {p a : Addr} {xs : List V} (hP : Pt H p) (h : SqT K H a xs) : SqT K (mo H p) a xs := by
  obtain ⟨_, _, hp, _⟩ := hP
  rcases h with (h | ⟨o, h⟩) | h
  · exact .inl (.inl (mo_of (fun z => by rw [z, hp] at h; cases h) h fun _ z => nomatch z))
  · exact .inl (.inr ⟨o, mo_of (fun z => by rw [z, hp] at h; cases h) h fun _ z => nomatch z⟩)
  · exact .inr h
mutual
theorem Fl.mo {K : PySem.W.Frag} {H : Hp} {p : Addr} (hP : Pt H p) : ∀ {v : V} {d : PyData}, Fl K H v d → Fl K (mo H p) v d
  | _, _, .non => .non
  | _, _, .bl b => .bl b
  | _, _, .int i => .int i
  | _, _, .str x => .str x
  | _, _, .tup h a => .tup (mo_st hP h) (a.mo hP)
theorem FlAll.mo {K : PySem.W.Frag} {H : Hp} {p : Addr} (hP : Pt H p) : ∀ {v : List V} {d : List PyData}, FlAll K H v d → FlAll K (Ls.mo H p) v d
  | _, _, .nil => .nil
  | _, _, .cons a b => .cons (a.mo hP) (b.mo hP)
end
def Bm : Nat → Nat
  | 0 => 40
  | m + 1 => 4 * (Bm m + 2) + 3
def lv : Nat → PyData → Prop
  | 0, d => (∃ i : Int, d = .int i ∧ i.natAbs ≤ 10 ^ 21) ∨ d = .tuple []
  | m + 1, d => (∃ i : Int, d = .int i ∧ i.natAbs ≤ 10 ^ 21) ∨ ∃ ds, d = .tuple ds ∧ ds.length ≤ 4 ∧ ∀ e ∈ ds, lv m e
theorem Bm_pos : ∀ m, 40 ≤ Bm m
  | 0 => Nat.le_refl _
  | m + 1 => by
    have := Bm_pos m
    show 40 ≤ 4 * (Bm m + 2) + 3
    omega
theorem lv_bd : ∀ {m : Nat} {d : PyData}, lv m d → Bd (Bm m) (m + 1) d ∧ plD d = true
  | 0, d, .inl ⟨i, e, h⟩ => by subst e; exact ⟨(Bd.i21 h).mono (by decide) (by decide), rfl⟩
  | 0, d, .inr e => by subst e; exact ⟨⟨by decide, by decide +kernel, by decide, by decide⟩, rfl⟩
  | m + 1, d, .inl ⟨i, e, h⟩ => by subst e; exact ⟨(Bd.i21 h).mono (Nat.le_trans (by decide) (Bm_pos _)) (Nat.zero_le _), rfl⟩
  | m + 1, d, .inr ⟨ds, e, hl, h⟩ => by
    subst e
    refine ⟨Bd.tup (fun d hd => (lv_bd (h d hd)).1) hl, ?_⟩
    rw [plD, plL_all, decide_eq_true (by omega : ds.length < 41), Bool.true_and, List.all_eq_true]
    intro b hb
    obtain ⟨d, hd, rfl⟩ := List.mem_map.mp hb
    exact (lv_bd (h d hd)).2
theorem lv_int {i : Int} (h : i.natAbs ≤ 10 ^ 21) : ∀ m, lv m (.int i)
  | 0 => .inl ⟨i, rfl, h⟩
  | _ + 1 => .inl ⟨i, rfl, h⟩
theorem lv_nil : ∀ m, lv m (.tuple [])
  | 0 => .inr rfl
  | _ + 1 => .inr ⟨[], rfl, by decide, fun _ h => nomatch h⟩
def sp_ldatumL (K : PySem.W.Frag) (n : Nat) : Sp := fun vs H Q _ => ∃ (p : Addr) (m : Nat), vs = [.ref p, .int (m : Nat)] ∧ Pt H p ∧ m < n ∧ ∀ v d H', Fl K H' v d → lv m d → Pt H' p → Em p H H' → Q v H'
def sp_bent (K : PySem.W.Frag) (n : Nat) : Sp := fun vs H Q _ => ∃ (p : Addr) (v : V) (d : PyData) (m : Nat), vs = [.ref p, v] ∧ Pt H p ∧ Fl K H v d ∧ lv m d ∧ m < n ∧ m ≤ 40 ∧ ∀ v' d' H', Dt K (mo H' p) v' d' → Bd (Bm m) (m + 3) d' → Pt H' p → Em p H H' → Q v' H'
theorem DtAll.app {K : PySem.W.Frag} {H : Hp} {vs ws : List V} {ds es : List PyData} (a : DtAll K H vs ds) (b : DtAll K H ws es) : DtAll K H (vs ++ ws) (ds ++ es) := a.append b
section
variable {H : Hp} {Q : VK} {K : PySem.W.Frag}
theorem y_slT {a : Addr} {xs : List V} {lo hi : Option Int} (h : SqT K H a xs) (q : ∀ b H', Ex H H' → SqT K H' b (cutV xs lo hi) → Q (.ref b) H') : rSlU K (.ref a) lo hi H Q := by
  refine .inr (.inl ⟨a, xs, rfl, h, fun e => q a H (Ex.refl H) ?_, fun _ p n => q p _ (Ex.new n) (.of upd_same)⟩)
  unfold cutV
  rw [e.1, e.2, List.drop_zero, Nat.sub_zero, List.take_length]
  exact h
theorem cutV_to (xs : List V) {k : Nat} (h : k ≤ xs.length) : cutV xs none (some (k : Nat)) = xs.take k := by
  unfold cutV
  rw [HT.sIx_none, HT.sIx_nat, List.drop_zero, Nat.sub_zero, Nat.min_eq_left h]
theorem cutV_from (xs : List V) {k : Nat} (h : k ≤ xs.length) : cutV xs (some (k : Nat)) none = xs.drop k := by
  unfold cutV
  rw [HT.sIx_none, HT.sIx_nat, Nat.min_eq_left h]
  exact List.take_of_length_le (by rw [List.length_drop]; exact Nat.le_refl _)
end
theorem fl_ints {K : PySem.W.Frag} {H : Hp} : ∀ ns : List Int, FlAll K H (ns.map V.int) (ns.map PyData.int)
  | [] => .nil
  | n :: ns => .cons (.int n) (fl_ints ns)
def sp_nest (K : PySem.W.Frag) : Sp := fun vs H Q _ => ∃ (p : Addr) (m : Nat), vs = [.ref p, .int (m : Nat)] ∧ Pt H p ∧ m ≤ 5 ∧ ∀ v d H', Fl K H' v d → lv m d → Pt H' p → Em p H H' → Q v H'
def sp_heav (K : PySem.W.Frag) : Sp := fun vs H Q _ => ∃ (p : Addr) (m : Nat), vs = [.ref p, .int (m : Nat)] ∧ Pt H p ∧ 36 ≤ m ∧ m ≤ 42 ∧ ∀ v d H', Fl K H' v d → Bd 1200 1 d → plD d = true → Pt H' p → Em p H H' → Q v H'
/-- '1', then k times '0' -/
theorem ten_pow : ∀ k, k ≤ 42 → PySem.intText? (S (49 :: List.replicate k 48)) = some ((10 : Int) ^ k) := by
  have key : ∀ k : Fin 43, S (intL ((10 : Int) ^ k.val)) = S (49 :: List.replicate k.val 48) ∧ (intL ((10 : Int) ^ k.val)).length ≤ 4300 := by decide +kernel
  intro k hk
  obtain ⟨h1, h2⟩ := key ⟨k, by omega⟩
  rw [← h1]
  exact int_back h2
def kRev (K : PySem.W.Frag) (x : V) (H1 : Hp) (Q : VK) : Prop := ∃ a xs, x = .ref a ∧ SqL K H1 a xs ∧ ∀ p, H1 p = none → Q (.ref p) (upd H1 p (.lst xs.reverse))
section
variable {σ : L2.St} {H : Hp} {Q : VK} {K : PySem.W.Frag} {te : TE}
theorem r_revL (h : te σ H fun x H1 => kRev K x H1 Q) : tRevL K te σ H Q := h
theorem k_rev {a : Addr} {xs : List V} (h : SqL K H a xs) (q : ∀ p H', H p = none → Ex H H' → H' p = some (.lst xs.reverse) → Q (.ref p) H') : kRev K (.ref a) H Q := ⟨a, xs, rfl, h, fun p n => q p _ n (Ex.new n) upd_same⟩
end
def sp_plain (K : PySem.W.Frag) (n : Nat) : Sp := fun vs H Q _ => ∃ v d, vs = [v] ∧ Dt K H v d ∧ tdp d < n ∧ ∀ H', Ex H H' → Q (.bl (plD d)) H'
end Ls
end

section
set_option Elab.async false
set_option linter.all false
set_option maxRecDepth 100000
set_option maxHeartbeats 4000000
namespace Ls
open PySem PySem.Spec PyProof.Rows L2 SX LamX
section
variable {P : Program} {w : World} {K : PySem.W.Frag} {mg : Str → Option Value} {base : Heap} {x : Str} {st : Stmt} {ps : List Str}
theorem Df.okT {N : List Str} {k : Nat} {sp : Sp} (D : Df K mg x st ps) (B : Tb K mg x) (S : FnScope N ps (defScope st)) (len : ∀ vs H Q E, sp vs H Q E → vs.length = ps.length)
    (body : ∀ (f : Addr) (A : Around) (outer : List Env) (s : Shared) (H : Hp) (vs : List V) (Q : VK) (E : XK), RoomG k (A.deeper (envOfC x (defScope st) s.heap.objs.size f (.ref (kA K mg x)))) → sp vs H Q E →
      ∃ t, PSs (cxOf (L2.CX P w) P w K mg base N x (defScope st) f (.ref (kA K mg x)) A outer s H E) (defBody st) t ∧ t { nx := fun _ H' => Q .non H', rt := Q } (L2.start N vs) H) : Cal P w K mg base (k + 1) x st ps sp := by
  obtain ⟨f, fd, F, g, b⟩ := D.ex
  obtain ⟨oc, od, kV, doc, pm, an, cdv, ct, osl, rfl, lk, hcd⟩ := F.ex
  have hc : cdv = .ref (kA K mg x) := by
    obtain ⟨oc', od', fd', sl', _, _, _, _, l, hk, _⟩ := B.ex
    have e := B.m
    rw [g] at e
    have e2 : f = fA mg x := Value.ref.inj (Option.some.inj e)
    rw [← e2, lk] at l
    cases l
    exact hk
  subst hc
  refine ⟨f, _, ⟨len, fun A outer s H args us vs Q E hr e0 hb r hsp => ?_⟩, g, F, b⟩
  exact LamX.run_ofS lk hcd S hr.rm e0 hb r (len _ _ _ _ hsp) fun hr' => body f A outer s H vs Q E ⟨hr', hr.gd⟩ hsp
theorem Giv.up {j k : Nat} {a : Str} {Ng : List Str} {TT : (XK → Hp → VK → Prop) → Hp → VK → Prop} (h : Giv P w K mg base j x st a Ng TT) (hk : j ≤ k) : Giv P w K mg base k x st a Ng TT :=
  fun g cdv A outer s H Q f c' q tl hr => h g cdv A outer s H Q f c' q tl (hr.mono hk)
end
def lamQ (x : Str) : Str := x ++ ".<locals>." ++ "<lambda>"
/-- .., tables tracked -/
def sp_tright (Ts : List (Addr × Str)) : Sp := fun vs H Q _ => ∃ p : Addr, vs = [.ref p] ∧ Pt H p ∧ Tabs Ts H ∧ ∀ H', Pt H' p → Tabs Ts H' → Eo p H H' → Q (.bl true) H'
section
variable {σ : L2.St} {H : Hp} {Q : VK} {K : PySem.W.Frag}
theorem r_lam {T : List (Addr × Str)} {TT : (XK → Hp → VK → Prop) → Hp → VK → Prop} {t : XK → TE} (hT : Tabs T H) (h : ∀ H1, ExtN H H1 → Tabs T H1 → TT (fun E H' Q' => t E σ H' Q') H1 Q) : tLam T TT t σ H Q := ⟨hT, h⟩
/-- repr of a list of truths -/
theorem y_repB {p : Addr} {bs : List Bool} (hp : H p = some (.lst (bs.map V.bl))) (hl : bs.length ≤ 100) (q : Q (.str (PyData.list (bs.map PyData.bool)).shown) H) : rRepr K [.ref p] H Q := by
  have hall : DpAll K H (bs.map V.bl) (bs.map PyData.bool) := by
    induction bs with
    | nil => exact .nil
    | cons b bs ih =>
      have key : ∀ l : List Bool, DpAll K H (l.map V.bl) (l.map PyData.bool) := by
        intro l
        induction l with
        | nil => exact .nil
        | cons a l ih => exact .cons (.bl a) ih
      exact key _
  have bd : Bd (100 * 7 + 3) 1 (.list (bs.map PyData.bool)) := Bd.lst (b := 5) (k := 0) (fun d hd => by obtain ⟨b, _, rfl⟩ := List.mem_map.mp hd; exact Bd.bool b) (by rw [List.length_map]; exact hl)
  refine y_reprP (.lst (.of hp) hall) ?_ bd.sh (Nat.le_trans bd.len (by decide)) (Nat.le_trans bd.dep (by decide)) q
  exact PyData.hasDict_of_canLay _ (by
    rw [PyData.canLay0]
    have key : ∀ l : List Bool, PyData.canLayAll0 (l.map PyData.bool) = true := by
      intro l
      induction l with
      | nil => rfl
      | cons a l ih => rw [List.map_cons, PyData.canLayAll0, ih]; rfl
    exact key bs)
end
section
variable {σ : L2.St} {H : Hp} {Q : VK} {K : PySem.W.Frag}
theorem y_isStrD {v : V} {d : PyData} (h : Dt K H v d) (h1 : ∀ z, d = .str z → v = .str z → Q (.bl true) H) (h0 : isF d = false → Q (.bl false) H) : rIsiU K [v, .ty "str"] H Q := by
  cases d with
  | str z =>
    refine y_isi h (b := true) rfl (h1 z rfl ?_)
    cases h
    rfl
  | none => exact y_isi h (b := false) rfl (h0 rfl)
  | bool _ => exact y_isi h (b := false) rfl (h0 rfl)
  | int _ => exact y_isi h (b := false) rfl (h0 rfl)
  | list _ => exact y_isi h (b := false) rfl (h0 rfl)
  | tuple _ => exact y_isi h (b := false) rfl (h0 rfl)
  | dict _ => exact y_isi h (b := false) rfl (h0 rfl)
theorem y_eqSv {v : V} {z y : Str} (e : v = .str z) (q : Q (.bl (decide (z = y))) H) : rEqU K v (.str y) H Q := by
  subst e
  exact y_eqS q
end
end Ls
end

section
set_option Elab.async false
set_option linter.all false
set_option maxRecDepth 100000
set_option maxHeartbeats 4000000
namespace Ls
open PySem PySem.Spec PyProof.Rows L2 SX LamX
theorem Eo.putN {p D : Addr} {o : HO} {H H' : Hp} (e : Eo p H H') (h : H D = none) : Eo p H (upd H' D o) := fun a u q => by
  have n : a ≠ D := fun z => by
    subst z
    rw [mo_none h] at q
    cases q
  obtain ⟨n1, h1, z⟩ := mo_some (e a u q)
  exact mo_of n1 (by rw [upd_ne n]; exact h1) z
theorem seq_newO {K : PySem.W.Frag} {p l : Addr} {xs : List V} {H H1 H2 : Hp} (h : SqL K H l xs) (n : H p = none) (e : Ex H H1) (m : Eo p H1 H2) : SqL K H2 l xs := by
  rcases h with (h | ⟨o, h⟩) | h
  · exact .inl (.inl (mo_some (m _ _ (mo_of (ne_of_none h n) (e _ _ h) fun _ z => nomatch z))).2.1)
  · exact .inl (.inr ⟨o, (mo_some (m _ _ (mo_of (ne_of_none h n) (e _ _ h) fun _ z => nomatch z))).2.1⟩)
  · exact .inr h
section
variable {σ : L2.St} {H : Hp} {Q : VK} {K : PySem.W.Frag} {te : TE} {vs : List Nat}
theorem k_lcPotT {p : Addr} {lo : Int} {n i0 : Nat} {Ts : List (Addr × Str)} (G : V → Prop) (hP : Pt H p) (hT : Tabs Ts H) (hz : n ≤ 99999)
    (hs : ∀ (j : Nat) H1 (Q1 : VK), j < n → Eo p H H1 → Pt H1 p → Tabs Ts H1 → (∀ y H2, Eo p H1 H2 → Pt H2 p → Tabs Ts H2 → G y → Q1 y H2) → te ((wipe σ vs).set i0 (some (.int (lo + j)))) H1 Q1)
    (hw : ∀ x, wipe ((wipe σ vs).set i0 (some x)) vs = wipe σ vs) (q : ∀ D ys H2, H D = none → Eo p H H2 → Pt H2 p → Tabs Ts H2 → H2 D = some (.lst ys) → ys.length = n → (∀ y, y ∈ ys → G y) → Q (.ref D) H2) : kLc (Itr lo n) (gName i0) tYes te vs σ H Q := by
  refine k_lcR (fun j ys H' => Eo p H H' ∧ Pt H' p ∧ Tabs Ts H' ∧ ∀ y, y ∈ ys → G y) (fun D n => ⟨(Ex.new n).eo p, hP.put (hP.ne n), hT.ext (Ex.new n), fun _ h => nomatch h⟩) (fun D j ys H' nD hj hl hHD c => ?_) hw fun D ys H' nD hl hHD c => ?_
  · obtain ⟨e, hP', hT', g⟩ := c
    have npD : D ≠ p := fun z => by obtain ⟨_, _, h, _⟩ := hP; rw [z] at nD; rw [nD] at h; cases h
    refine hs j H' _ hj e hP' hT' fun y H2 e2 P2 T2 gy => k_turn (e2.lst npD hHD) hl (by omega) ⟨(e.trans e2).putN nD, P2.put npD.symm, tabs_em T2 (e2.lst npD hHD) Em.put, fun z hz => ?_⟩
    rcases List.mem_append.mp hz with hz | hz
    · exact g z hz
    · have : z = y := by simpa using hz
      subst this
      exact gy
  · exact q D ys H' nD c.1 c.2.1 c.2.2.1 hHD hl c.2.2.2
end
/-- the law's promise, where tables are tracked -/
def sp_lawT (K : PySem.W.Frag) (Ts : List (Addr × Str)) : Sp := fun vs H Q _ => ∃ (a : Addr) (ns : List Int), vs = [.ref a] ∧ SqL K H a (ns.map V.int) ∧ ns.length ≤ 63 ∧ Tabs Ts H ∧ ∀ H', Q (.bl true) H'
theorem lawT_start {nms : List Str} (K : PySem.W.Frag) (mg : Str → Option Value) (H : Hp) (a : Addr) (ns : List Int) (hn : ns.length ≤ 63) (ht : ∀ y ∈ nms, H (pA K mg y) = some (.tbl #[])) (h : SqL K H a (ns.map V.int)) :
    sp_lawT K (nms.map fun x => (pA K mg x, lamQ x)) [.ref a] H (fun v _ => v = .bl true) fun _ _ _ => False := by
  refine ⟨a, ns, rfl, h, hn, fun q hq => ?_, fun _ => rfl⟩
  obtain ⟨y, hy, rfl⟩ := List.mem_map.mp hq
  exact TabS.nil (ht y hy)
end Ls
end

section
set_option Elab.async false
set_option linter.all false
set_option maxRecDepth 100000
set_option maxHeartbeats 4000000
namespace Ls
open PySem PySem.Spec PyProof.Rows L2
section
variable {K : PySem.W.Frag} {C D : Addr} {t y : Value} {b : Bool} {r : List Value}
theorem kit_own (i : PySem.W.isClsIn K C = true) (h : PySem.W.typeIn K (.ref C) = some (.type "type")) (s : PySem.W.subIn K t (.ref C) = some b) : PySem.W.kitCls K t (.ref C) = some b := by
  unfold PySem.W.kitCls
  have i' : (PySem.W.clsIn K C).isSome = true := i
  simp only [i', h, s]
  rfl
theorem kit_bi {T : String} (m : PySem.W.kitMeta T = true) (s : PySem.W.subIn K t (.type T) = some b) : PySem.W.kitCls K t (.type T) = some b := by
  unfold PySem.W.kitCls
  simp only [m, s, if_true]
theorem kit_one (k : PySem.W.kitCls K (.ref D) y = some b) (z : PySem.W.subIn K (.ref D) (.ref D) = some true) (s : PySem.W.subIn K (.ref D) y = some b) : PySem.W.kitOne K (.ref D) y = some b := by
  unfold PySem.W.kitOne
  by_cases e : (Value.ref D == y) = true
  · have e' := beq_iff_eq.mp e
    rw [← e', z] at s
    rw [if_pos e]
    exact s
  · rw [if_neg e]
    exact k
theorem kit_exm (k : PySem.W.kitCls K t y = some b) (s : PySem.W.subIn K y (.type "BaseException") = some true) : PySem.W.exmOne K t y = some b := by
  unfold PySem.W.exmOne
  rw [s]
  exact k
theorem any_t (h : PySem.W.kitOne K t y = some true) : PySem.W.kitAny K t (y :: r) = some true := by
  unfold PySem.W.kitAny
  rw [h]
theorem any_f (h : PySem.W.kitOne K t y = some false) (h2 : PySem.W.kitAny K t r = some b) : PySem.W.kitAny K t (y :: r) = some b := by
  unfold PySem.W.kitAny
  rw [h]
  exact h2
theorem any_0 : PySem.W.kitAny K t [] = some false := rfl
end
end Ls
end

section
set_option Elab.async false
set_option linter.all false
set_option maxRecDepth 100000
set_option maxHeartbeats 4000000
namespace Ls
open PySem PySem.Spec PyProof.Rows L2
section
variable {prog : Program} {w : World} {A : Around} {E : Value → Shared → Prop} {s : Shared}
/-- where a slice without bounds goes backwards -/
theorem applied_back {sl : Addr} {vl vu vk : Value} {n : Nat} {Q : Int × Int × Nat → Shared → Prop} (hs : s.heap.IsSliceOf sl vl vu vk) (pl : IsPart vl none) (pu : IsPart vu none) (pk : IsPart vk (some (-1)))
    (h : Q ((n : Int) - 1, -1, n) s) : wpAny (model prog w) A (Builtin.Slice.sliceApplied (.ref sl) (pure (n : Int))) Q E s := by
  obtain ⟨o, ho, hc, hd⟩ := id hs
  unfold Builtin.Slice.sliceApplied Builtin.Slice.sliceFields
  refine wpAny_bind (wpAny_bind (wpAny_field ho hd (x := vl) rfl (wpAny_bind (wpAny_field ho hd (x := vu) rfl (wpAny_bind (wpAny_field ho hd (x := vk) rfl (wpAny_pure ?_)))))))
  refine wpAny_bind (HT.slicePart_ pk ?_)
  show wpAny (model prog w) A (if ((-1 : Int) == 0) = true then _ else _) Q E s
  rw [if_neg (by decide)]
  refine wpAny_bind (HT.slicePart_ pl (wpAny_bind (HT.slicePart_ pu (wpAny_bind (wpAny_pure ?_)))))
  show wpAny (model prog w) A (match Builtin.Slice.sliceAdjust none none (-1) (n : Int) with | (lo, hi) => pure (lo, (-1 : Int), Builtin.Slice.slicePlaces lo hi (-1))) Q E s
  have e1 : Builtin.Slice.sliceAdjust none none (-1) (n : Int) = ((n : Int) - 1, -1) := by
    unfold Builtin.Slice.sliceAdjust
    simp
  rw [e1]
  show wpAny (model prog w) A (pure ((n : Int) - 1, (-1 : Int), Builtin.Slice.slicePlaces ((n : Int) - 1) (-1) (-1))) Q E s
  have e2 : Builtin.Slice.slicePlaces ((n : Int) - 1) (-1) (-1) = n := by
    unfold Builtin.Slice.slicePlaces
    simp
    try omega
  rw [e2]
  exact wpAny_pure h
theorem pick_all : ∀ r : List Value, (List.range r.length).filterMap (fun k : Nat => r[k]?) = r
  | [] => rfl
  | a :: r => by
    rw [List.length_cons, List.range_succ_eq_map, List.filterMap_cons]
    simp only [List.getElem?_cons_zero, List.filterMap_map]
    congr 1
    exact pick_all r
theorem pick_same {f g : Nat → Option Value} : ∀ {l : List Nat}, (∀ k ∈ l, f k = g k) → l.filterMap f = l.filterMap g
  | [], _ => rfl
  | k :: l, h => by rw [List.filterMap_cons, List.filterMap_cons, h k List.mem_cons_self, pick_same fun j hj => h j (List.mem_cons_of_mem _ hj)]
theorem pick_back (xs : Array Value) : ((List.range xs.size).filterMap fun (k : Nat) => xs[(((xs.size : Nat) : Int) - 1 + (k : Int) * (-1)).toNat]?).toArray = xs.toList.reverse.toArray := by
  obtain ⟨l⟩ := xs
  show ((List.range l.length).filterMap fun (k : Nat) => l.toArray[(((l.length : Nat) : Int) - 1 + (k : Int) * (-1)).toNat]?).toArray = l.reverse.toArray
  have e : (List.range l.length).filterMap (fun k : Nat => l.toArray[(((l.length : Nat) : Int) - 1 + (k : Int) * (-1)).toNat]?) = (List.range l.length).filterMap (fun k : Nat => l.reverse[k]?) := by
    refine pick_same fun k hk => ?_
    have hk' := List.mem_range.mp hk
    rw [List.getElem?_reverse hk', List.getElem?_toArray]
    congr 1
    omega
  have e2 := pick_all l.reverse
  rw [List.length_reverse] at e2
  rw [e, e2]
theorem item_back {t sl : Addr} {items : Array Value} {vl vu vk : Value} {Q : Value → Shared → Prop} (ht : IsTup s.heap t items) (hs : s.heap.IsSliceOf sl vl vu vk) (pl : IsPart vl none) (pu : IsPart vu none) (pk : IsPart vk (some (-1)))
    (hz : items.size ≤ sizeLine) (h : Q (.ref s.heap.objs.size) { s with heap := s.heap.push { cls := .type "tuple", data := .seq items.toList.reverse.toArray } }) : wpAny (model prog w) A (getItem (.ref t) (.ref sl)) Q E s := by
  have fits : sizeOk (.seq items.toList.reverse.toArray) := by
    show items.toList.reverse.toArray.size ≤ sizeLine
    rw [List.size_toArray, List.length_reverse, Array.length_toList]
    exact hz
  obtain ⟨o, ho, hc, hd⟩ := id hs
  have hT : s.TypeIs (.ref sl) "slice" := ⟨o, ho, hc⟩
  unfold getItem
  try with_reducible refine wpAny_holding ?_
  first | refine wpAny_bind (wpAny_pure ?_) | skip
  refine wpAny_bind (wpAny_sequenceKey ht.typeIs (by decide) ?_)
  refine wpAny_bind (wpAny_callSpecial?_slot (name := Str.ofString "__getitem__") ht.typeIs PyProof.Rows.slot_tuple_getitem (wpAny_call_entry PyProof.Rows.slot_tuple_getitem ht.typeIs entry_tuple_getitem (Q := _) ?_ (args_tuple_getitem _ _)))
  show wpAny (model prog w) _ (Builtin.Tuple.tupleItemsOf (.ref t) >>= _) _ _ s
  refine wpAny_bind (tupleItemsOf_ ht (wpAny_bind (wpAny_typeOf hT ?_)))
  rw [if_pos (by decide)]
  refine wpAny_bind (applied_back hs pl pu pk ?_)
  have no : ¬ (((((items.size : Nat) : Int) - 1 == 0) && ((-1 : Int) == 1) && (items.size == items.size)) = true) := by simp
  show wpAny (model prog w) _ (if ((((items.size : Nat) : Int) - 1 == 0) && ((-1 : Int) == 1) && (items.size == items.size)) = true then _ else _) _ _ s
  rw [if_neg no, pick_back items]
  first
    | exact wpAny_bind (m := Builtin.Tuple.tupleExact _) (wpAny_newObj_type (wpAny_pure ⟨_, rfl, wpAny_pure h⟩) fits)
    | exact wpAny_bind (m := Builtin.Tuple.tupleExact _) (wpAny_newObj_type (wpAny_bind (wpAny_pure (wpAny_pure ⟨_, rfl, wpAny_pure h⟩))) fits)
    | exact wpAny_bind (wpAny_bind (m := Builtin.Tuple.tupleExact _) (wpAny_newObj_type (wpAny_pure (wpAny_pure ⟨_, rfl, wpAny_pure h⟩)) fits))
/-- sorted(t), t a tuple of ints -/
theorem sorted_tup {l : Addr} {vs : List Value} {ns : List Int} {Q : Value → Shared → Prop} (hl : s.heap.IsTuple l vs.toArray) (hi : IntsAre vs ns) (hz : vs.length ≤ sizeLine)
    (h : ∀ (h1 h2 : Heap) (out : List Value), (∀ b o, s.heap.get? b = some o → h1.get? b = some o) → (∀ b o, h1.get? b = some o → h2.get? b = some o) → SrtO.Srtd SrtO.ltIv out → SrtO.Stb SrtO.ltIv out vs → (∃ ep, h2.get? h1.objs.size = some (seqObj "list" out.toArray ep)) → Q (.ref h1.objs.size) { s with heap := h2 }) :
    wpAny (model prog w) A (call (.builtin "sorted") [.ref l]) Q E s := by
  obtain ⟨o, ho, hc, n, hd⟩ := id hl
  refine Calls.call_function_entry kind_sorted plain_sorted entry_sorted (args_sorted1 (.ref l)) (Q := Q) ?_
  unfold Builtin.«sorted»
  refine wpAny_bind (m := checkCount "sorted" 1 1 _) (wpAny_pure (wpAny_bind (wpAny_collect_seq l (.inr rfl) ho hc hd (fun h' hk => ?_) (by rw [List.size_toArray]; exact hz))))
  refine wpAny_bind (wpAny_newList (items := vs) ?_ hz)
  have at_ : (h'.push (seqObj "list" vs.toArray 0)).get? h'.objs.size = some (seqObj "list" vs.toArray 0) := Heap.get?_push_size _ rfl
  refine wpAny_bind (wpAny_holding (wpAny_call_entry slot_list_sort ⟨_, at_, rfl⟩ entry_list_sort (SrtO.list_sort_ord SrtO.swo_int at_ hz (fun h2 => SrtO.ints_sortable hi h2) fun out h1 h2 => ⟨_, rfl, ?_⟩) (args_list_sort (.ref h'.objs.size))))
  refine wpAny_pure ⟨_, rfl, h h' _ out hk (fun b o z => ?_) h1 h2 ?_⟩
  · have hb := Heap.lt_size z
    rw [PyProof.Rows.sortedHeap_old (Nat.ne_of_lt hb) (Nat.lt_trans hb (by rw [Heap.size_push]; exact Nat.lt_succ_self _))]
    exact Heap.get?_push_of_some _ z
  · obtain ⟨ep, z⟩ := PyProof.Rows.sortedHeap_at (vs := vs) (out := out.toArray) at_
    exact ⟨ep, z⟩
end
def rSumU (K : PySem.W.Frag) : List V → Hp → VK → Prop := fun vs H Q => rSum K vs H Q ∨ ∃ (a : Addr) (ns : List Int), vs = [.ref a] ∧ SqT K H a (ns.map V.int) ∧ Q (.int ns.sum) H
def rSortedU (K : PySem.W.Frag) : List V → Hp → VK → Prop := fun vs H Q => rSortedI K vs H Q ∨ ∃ (a : Addr) (ns : List Int), vs = [.ref a] ∧ SqT K H a (ns.map V.int) ∧ ∀ (ns' : List Int) (p : Addr), ns'.Perm ns → ns'.Pairwise (· ≤ ·) → H p = none → Q (.ref p) (upd H p (.lst (ns'.map V.int)))
section
variable {X : Cx}
theorem call_sumT (hc : X.calm = true) : CallR X (.builtin "sum") (fun vs H Q => ∃ (a : Addr) (ns : List Int), vs = [.ref a] ∧ SqT X.K H a (ns.map V.int) ∧ Q (.int ns.sum) H) := by
  intro pins s σ H vs us Q I r h
  obtain ⟨a, ns, rfl, hS, q⟩ := h
  rw [Vals.ref1 r]
  obtain ⟨its, rv, ht, hz⟩ := I.tuple hS
  have hi := rv.ints
  obtain ⟨xs, e⟩ := hi.allInts.items
  have hn : numsOf (intItems xs).toList = ns := by rw [← e]; exact hi.numsOf
  rw [nums_intItems] at hn
  have ht' : s.heap.IsTuple a its.toArray := ht
  rw [e] at ht'
  refine PySem.W.ktm_sumG (I.ok.hd hc) ht' fun h' tk t' hk => ?_
  rw [preSum_eq, List.take_of_length_le (by simp), hn]
  exact ⟨.int ns.sum, H, I.kept hk, ⟨_, rfl⟩, q⟩
theorem call_sumU (hc : X.calm = true) : CallR X (.builtin "sum") (rSumU X.K) := CallR.or (cr_sum hc) (call_sumT hc)
theorem call_sortedT : CallR X (.builtin "sorted") (fun vs H Q => ∃ (a : Addr) (ns : List Int), vs = [.ref a] ∧ SqT X.K H a (ns.map V.int) ∧ ∀ (ns' : List Int) (p : Addr), ns'.Perm ns → ns'.Pairwise (· ≤ ·) → H p = none → Q (.ref p) (upd H p (.lst (ns'.map V.int)))) := by
  intro pins s σ H vs us Q I r h
  obtain ⟨a, ns, rfl, hS, q⟩ := h
  rw [Vals.ref1 r]
  obtain ⟨its, rv, ht, hz⟩ := I.tuple hS
  have hi := rv.ints
  have hz' : its.length ≤ sizeLine := by rw [← rv.length]; exact hz
  refine sorted_tup (show s.heap.IsTuple a its.toArray from ht) hi hz' fun h1 h2 out k1 k2 o1 o2 hob => ?_
  obtain ⟨j1, j2, j3⟩ := SrtO.ints_out hi o1 o2
  obtain ⟨ep, he⟩ := hob
  have I1 : Inv X pins σ H { s with heap := h1 } := I.kept (t' := s.toks) k1
  have hlen : ((out.map SrtO.iv).map V.int).length ≤ sizeLine := by
    rw [List.length_map, j2.length_eq]
    rw [List.length_map] at hz
    exact hz
  exact ⟨.ref _, upd H h1.objs.size (.lst ((out.map SrtO.iv).map V.int)), I1.laid (t' := s.toks) k2 (Nat.le_refl _) ⟨hlen, out, ep, vals_of_ints j1, he⟩, rfl, q _ _ j2 j3 (I1.hok.fresh (Nat.le_refl _))⟩
theorem call_sortedU : CallR X (.builtin "sorted") (rSortedU X.K) := CallR.or cr_sortedI call_sortedT
/-- x[::-1] -/
def kRevU (K : PySem.W.Frag) (x : V) (H1 : Hp) (Q : VK) : Prop := ∃ a xs, x = .ref a ∧ ((SqL K H1 a xs ∧ ∀ p, H1 p = none → Q (.ref p) (upd H1 p (.lst xs.reverse))) ∨ (SqT K H1 a xs ∧ ∀ p, H1 p = none → Q (.ref p) (upd H1 p (.tup xs.reverse))))
def tRevU (K : PySem.W.Frag) (te : TE) : TE := fun σ H Q => te σ H fun x H1 => kRevU K x H1 Q
theorem pe_revU {e : Expr} {te : TE} {k : Nat} {p1 p2 p3 pos : Pos} (he : PE X e te) : PE X (.Subscript e (.Slice none none (some (.UnaryOp .USub (.Constant (.int 1) k p1) p2)) p3) pos) (tRevU X.K te) := by
  refine ⟨fun pins s σ H Q I h => Subscript_ (thn (he.run pins s σ H _ I h) fun v s1 ⟨x, H1, I1, r1, a, xs, ex, q⟩ => ?_)⟩
  subst ex
  cases r1
  have hst : PO X (some (.UnaryOp .USub (.Constant (.int 1) k p1) p2)) (tPart (tUn (rU fun i => .int (-i)) (tC (.int 1)))) := po_some (pe_un un_neg pe_int)
  refine wpAny_Slice (thn (po_none.run pins s1 σ H1 (fun o H2 => o = none ∧ H2 = H1) I1 ⟨rfl, rfl⟩) fun vl s2 ⟨l, H2, I2, pl, el, e2⟩ => ?_)
  subst el e2
  refine thn (po_none.run pins s2 σ H2 (fun o H3 => o = none ∧ H3 = H2) I2 ⟨rfl, rfl⟩) fun vu s3 ⟨u, H3, I3, pu, eu, e3⟩ => ?_
  subst eu e3
  refine thn (hst.run pins s3 σ H3 (fun o H4 => o = some (-1) ∧ H4 = H3) I3 ⟨1, rfl, -1, rfl, rfl, rfl⟩) fun vs s4 ⟨o, H4, I4, ps, eo, e4⟩ => ?_
  subst eo e4
  have I5 : Inv X pins σ H4 { s4 with heap := s4.heap.push { cls := .type "slice", data := .fields #[vl, vu, vs] } } := I4.kept (t' := s4.toks) fun b ob z => Heap.get?_push_of_some _ z
  show wpAny (model X.prog X.w) X.A (subscriptTail e _ (.ref a) (.ref s4.heap.objs.size)) (EP X pins σ Q) X.xe _
  rcases q with ⟨hx, q⟩ | ⟨hx, q⟩
  · obtain ⟨its, r, ht, hz⟩ := I5.list hx
    have hlen := r.length
    refine tail_any (ops := [.ref a, .ref s4.heap.objs.size]) ht.isList.typeIs PySem.slot_list_getitem.lookup (wpAny_getItem_list_slice ht.isList (Heap.IsSliceOf.new _ vl vu vs) pl pu ps (by decide) ?_ (by rw [List.size_toArray]; omega)) (by with_unfolding_all rfl)
    rw [PySem.W.krv_pick]
    exact ⟨.ref _, _, I5.laid (t' := s4.toks) (o := .lst xs.reverse) (fun b ob z => Heap.get?_push_of_some _ z) (Nat.le_refl _) ⟨by rw [List.length_reverse]; exact hz, _, 0, r.reverse, Heap.get?_push_size _ rfl⟩, rfl, q _ (I5.hok.fresh (Nat.le_refl _))⟩
  · obtain ⟨its, r, ht, hz⟩ := I5.tuple hx
    have hlen := r.length
    refine tail_any (ops := [.ref a, .ref s4.heap.objs.size]) ht.typeIs PyProof.Rows.slot_tuple_getitem.lookup (item_back ht (Heap.IsSliceOf.new _ vl vu vs) pl pu ps (by rw [List.size_toArray]; omega) ?_) (by with_unfolding_all rfl)
    exact ⟨.ref _, _, I5.laid (t' := s4.toks) (o := .tup xs.reverse) (fun b ob z => Heap.get?_push_of_some _ z) (Nat.le_refl _) ⟨by rw [List.length_reverse]; exact hz, its.reverse, r.reverse, _, Heap.get?_push_size _ rfl, rfl, 0, rfl⟩, rfl, q _ (I5.hok.fresh (Nat.le_refl _))⟩
end
end Ls
end

section
set_option Elab.async false
set_option linter.all false
set_option maxRecDepth 100000
set_option maxHeartbeats 4000000
namespace Ls
open PySem PySem.Spec PyProof.Rows L2 StX
/-- a promise by positional values, however they are bound, where no repr is under way -/
def FnRG (P : Program) (w : World) (K : PySem.W.Frag) (mg : Str → Option Value) (base : Heap) (k : Nat) (f : Addr) (sp : Sp) : Prop :=
  ∀ (A : Around) (outer : List Env) (s : Shared) (H : Hp) (us : List Value) (vs : List V) (Q : VK) (E : XK), RoomG k A → Env0 P w K mg base A outer s H → Vals vs us → sp vs H Q E → codeAny (model P w) A (.call (.ref f) ⟨us, []⟩) (CR (L2.CX P w) outer P w H s Q E) s
structure CalS (P : Program) (w : World) (K : PySem.W.Frag) (mg : Str → Option Value) (base : Heap) (k : Nat) (x : Str) (sp : Sp) : Prop where
  ex : ∃ f : Addr, FnRG P w K mg base k f sp ∧ mg x = some (.ref f) ∧ PySem.W.keepIn K (.ref f) = true
/-- def x(ps, *pv) -/
structure DfS (K : PySem.W.Frag) (mg : Str → Option Value) (x : Str) (st : Stmt) (ps : List Str) (pv : Str) : Prop where
  ex : ∃ (f : Addr) (fd : FuncData), Fun K x x st f fd ∧ mg x = some (.ref f) ∧ ∀ us rest : List Value, us.length = ps.length → bindArgs fd ⟨us ++ rest, []⟩ = (newTuple rest >>= fun t => pure (ps.zip us ++ [(pv, t)]))
/-- what a def with *pv promises: the rest is a new tuple -/
def spStar (n : Nat) (sp : Sp) : Sp := fun vs H Q E => ∃ ws rest, vs = ws ++ rest ∧ ws.length = n ∧ rest.length ≤ sizeLine ∧ ∀ p, H p = none → sp (ws ++ [V.ref p]) (upd H p (.tup rest)) Q E
/-- an object that stands, whatever: a def that may be called by its values -/
structure HeldG (P : Program) (w : World) (K : PySem.W.Frag) (mg : Str → Option Value) (base : Heap) (k : Nat) (f : Addr) (sp : Sp) : Prop where
  run : FnRG P w K mg base k f sp
  kp : PySem.W.keepIn K (.ref f) = true
section
variable {P : Program} {w : World} {K : PySem.W.Frag} {mg : Str → Option Value} {base : Heap} {x : Str} {st : Stmt} {ps : List Str} {pv : Str} {j k : Nat} {sp : Sp}
theorem FnRG.mono {f : Addr} (F : FnRG P w K mg base j f sp) (h : j ≤ k) : FnRG P w K mg base k f sp := fun A outer s H us vs Q E hr => F A outer s H us vs Q E (hr.mono h)
theorem CalS.up (c : CalS P w K mg base j x sp) (h : j ≤ k) : CalS P w K mg base k x sp := let ⟨f, F, a, b⟩ := c.ex; ⟨f, F.mono h, a, b⟩
theorem Cal.held (c : Cal P w K mg base k x st ps sp) : HeldG P w K mg base k (fA mg x) sp := by
  obtain ⟨f, fd, F, g, l, b⟩ := c.ex
  have e : fA mg x = f := by unfold fA; rw [g]
  rw [e]
  refine ⟨fun A outer s H us vs Q E hr e0 r h => ?_, l.kp⟩
  have hl : us.length = ps.length := by rw [← r.length]; exact F.len _ _ _ _ h
  exact F.run A outer s H ⟨us, []⟩ us vs Q E hr e0 (.of_eq (b us hl)) r h
theorem HeldG.up {f : Addr} (h : HeldG P w K mg base j f sp) (l : j ≤ k) : HeldG P w K mg base k f sp := ⟨h.run.mono l, h.kp⟩
theorem DfS.make {f : Addr} {oc : Value} {od an : Option Addr} {osl : Array (Option Value)} {kV doc pm cdv ct : Value}
    (g : mg x = some (.ref f)) (l : K.lookup f = some ⟨oc, od, .func (PySem.W.fnOf x x (defArgs st) (defBody st) (defScope st) .none kV doc pm an cdv ct), osl⟩)
    (c : PySem.W.codeIn K cdv x = true) (k : PySem.W.keepIn K (.ref f) = true)
    (h : ∀ (kV doc pm : Value) (an : Option Addr) (cdv ct : Value) (us rest : List Value), us.length = ps.length → bindArgs (PySem.W.fnOf x x (defArgs st) (defBody st) (defScope st) .none kV doc pm an cdv ct) ⟨us ++ rest, []⟩ = (newTuple rest >>= fun t => pure (ps.zip us ++ [(pv, t)]))) : DfS K mg x st ps pv :=
  ⟨f, _, fun_mk l c k, g, h kV doc pm an cdv ct⟩
theorem DfS.ok {N : List Str} (D : DfS K mg x st ps pv) (S : FnScope N (ps ++ [pv]) (defScope st))
    (body : ∀ (f : Addr) (cdv : Value) (A : Around) (outer : List Env) (s : Shared) (H : Hp) (vs : List V) (Q : VK) (E : XK), RoomG k (A.deeper (envOfC x (defScope st) s.heap.objs.size f cdv)) → sp vs H Q E →
      ∃ t, PSs (cxOf (L2.CX P w) P w K mg base N x (defScope st) f cdv A outer s H E) (defBody st) t ∧ t { nx := fun _ H' => Q .non H', rt := Q } (L2.start N vs) H) : CalS P w K mg base (k + 1) x (spStar ps.length sp) := by
  obtain ⟨f, fd, F, g, b⟩ := D.ex
  have kp := F.kp
  obtain ⟨oc, od, kV, doc, pm, an, cdv, ct, osl, rfl, lk, hcd⟩ := F.ex
  refine ⟨f, fun A outer s H us vs Q E hr e0 r hsp => ?_, g, kp⟩
  obtain ⟨ws, rest, ev, hl, hz, hq⟩ := hsp
  subst ev
  obtain ⟨u1, u2, eu, r1, r2⟩ := vals_split r
  subst eu
  have free : H s.heap.objs.size = none := e0.hok.fresh (Nat.le_refl _)
  have hl1 : u1.length = ps.length := by rw [← r1.length]; exact hl
  have hl2 : u2.length ≤ sizeLine := by rw [← r2.length]; exact hz
  refine run_bnd lk hcd S hr.rm e0 (G := fun xs H2 => ∃ p, H p = none ∧ xs = ws ++ [V.ref p] ∧ H2 = upd H p (.tup rest)) (fun A' Ex Q' h => ?_) fun s2 H2 xs ⟨p, hp, ex, eH⟩ hr' => ?_
  · rw [b u1 u2 hl1]
    refine wpAny_bind (wpAny_newTuple (wpAny_pure ?_) hl2)
    have un := un_laid (fs := frs outer) (s := s) (o := ({ cls := .type "tuple", data := .seq u2.toArray } : Obj)) (u := .tup rest) free
    have z := h _ _ (ws ++ [V.ref s.heap.objs.size]) (u1 ++ [Value.ref s.heap.objs.size]) (env0_laid e0 (o := ({ cls := .type "tuple", data := .seq u2.toArray } : Obj)) (u := .tup rest) ⟨hz, u2, r2, ⟨_, Heap.get?_push_size _ rfl, rfl, _, rfl⟩⟩) un rfl (fun e s' => cxUp outer s H _ _ E e s' un (fun c o q => Heap.get?_push_of_some _ q) rfl) (r1.append (.cons rfl .nil))
      (by rw [List.length_append, List.length_append, hl] <;> rfl) ⟨_, free, rfl, rfl⟩
    rw [List.zip_append hl1.symm] at z
    exact z
  · subst ex eH
    exact body f cdv A outer s2 _ _ Q E ⟨hr', hr.gd⟩ (hq p hp)
end
def tCalL (P : Program) (w : World) (K : PySem.W.Frag) (mg : Str → Option Value) (base : Heap) (k : Nat) (i : Nat) (E : XK) (t : TA) : TE := fun σ H Q => ∃ (f : Addr) (sp : Sp), σ[i]? = some (some (.ref f)) ∧ HeldG P w K mg base k f sp ∧ t σ H fun vs H1 => sp vs H1 Q E
section
variable {X : Cx} {k i : Nat} {sp : Sp} {E : XK} {x : Str} {p pos : Pos} {e : Expr} {es : List Expr} {t : TA}
theorem run_r {pins : List (Addr × Obj)} {σ : L2.St} {H : Hp} {s : Shared} {Q : VK} {us : List Value} {vs : List V} {f : Addr}
    (F : FnRG X.prog X.w X.K X.mg X.base k f sp) (hr : RoomG k X.A) (hx : Passes (L2.CX X.prog X.w) X E) (I : Inv X pins σ H s) (r : Vals vs us) (h : sp vs H Q E) : wpAny (model X.prog X.w) X.A (call (.ref f) us []) (EP X pins σ Q) X.xe s := by
  refine call_g (codeAny_mono (F X.A X.stack s H us vs Q E hr I.env0 r h) fun z s' hq => ?_)
  cases z with
  | error e => exact hx pins σ H s e s' I hq
  | ok fl =>
    cases fl with
    | ret u => exact I.after hq
    | next => exact False.elim hq
    | brk => exact False.elim hq
    | cont => exact False.elim hq
/-- x(e, ..), x a def with *args -/
theorem pe_gS (c : CalS X.prog X.w X.K X.mg X.base k x sp) (hr : RoomG k X.A) (hx : Passes (L2.CX X.prog X.w) X E) (ha : PA X (e :: es) t) (hg : Gl X x := by rfl)
    (hdb : (x == ("__debug__" : Str)) = false := by decide) (he : starEach (e :: es) X.env = (false, eval e X.env) :: starEach es X.env := by rfl) (hpl : (backTo pos (starEach es X.env)).any (·.1) = false := by rfl) :
    PE X (.Call (.Name x p) (e :: es) [] pos) (tCal sp E t) := by
  obtain ⟨f, F, hm, kp⟩ := c.ex
  refine ⟨fun pins s σ H Q I h => wpAny_Call_Name_kw (ld_glob I hg hm ?_ hdb)⟩
  exact PySem.W.callWith_K (h₀ := X.base) I.ok.mod.kin kp (thn (ha.run pos pins s σ H _ I h) fun us s1 ⟨vs, H1, I1, r, q⟩ => ⟨I1.kIn, run_r F hr hx I1 r q⟩) he hpl
/-- a(e, ..), a a local name that holds a def -/
theorem pe_gL (hr : RoomG k X.A) (hx : Passes (L2.CX X.prog X.w) X E) (hN : X.N[i]? = some x) (hv : Vis X.env.scope x) (ha : PA X (e :: es) t)
    (hdb : (x == ("__debug__" : Str)) = false := by decide) (hcd : (x == ("__classdict__" : Str)) = false := by decide)
    (he : starEach (e :: es) X.env = (false, eval e X.env) :: starEach es X.env := by rfl) (hpl : (backTo pos (starEach es X.env)).any (·.1) = false := by rfl) :
    PE X (.Call (.Name x p) (e :: es) [] pos) (tCalL X.prog X.w X.K X.mg X.base k i E t) := by
  refine ⟨fun pins s σ H Q I h => ?_⟩
  obtain ⟨f, sp, hs, F, ht⟩ := h
  refine wpAny_Call_Name_kw (thn ((pe_var (pos := p) hN hv hdb hcd).run pins s σ H (fun v H1 => v = .ref f ∧ H1 = H) I ⟨.ref f, hs, rfl, rfl⟩) fun u s1 ⟨v, H1, I1, r1, e1, e2⟩ => ?_)
  subst e1 e2
  cases r1
  exact PySem.W.callWith_K (h₀ := X.base) I1.ok.mod.kin F.kp (thn (ha.run pos pins s1 σ _ _ I1 ht) fun us s2 ⟨vs, H2, I2, r, q⟩ => ⟨I2.kIn, run_r F.run hr hx I2 r q⟩) he hpl
end
section
variable {σ : L2.St} {H : Hp} {Q : VK} {K : PySem.W.Frag} {P : Program} {w : World} {mg : Str → Option Value} {base : Heap} {k i : Nat} {E : XK} {t : TA} {te : TE}
theorem r_calL {f : Addr} {sp : Sp} (h1 : σ[i]? = some (some (.ref f))) (h2 : HeldG P w K mg base k f sp) (h : t σ H fun vs H1 => sp vs H1 Q E) : tCalL P w K mg base k i E t σ H Q := ⟨f, sp, h1, h2, h⟩
theorem r_revU (h : te σ H fun x H1 => kRevU K x H1 Q) : tRevU K te σ H Q := h
theorem k_revL {a : Addr} {xs : List V} (h : SqL K H a xs) (q : ∀ p H', H p = none → Ex H H' → H' p = some (.lst xs.reverse) → Q (.ref p) H') : kRevU K (.ref a) H Q := ⟨a, xs, rfl, .inl ⟨h, fun p n => q p _ n (Ex.new n) upd_same⟩⟩
theorem k_revT {a : Addr} {xs : List V} (h : SqT K H a xs) (q : ∀ p H', H p = none → Ex H H' → H' p = some (.tup xs.reverse) → Q (.ref p) H') : kRevU K (.ref a) H Q := ⟨a, xs, rfl, .inr ⟨h, fun p n => q p _ n (Ex.new n) upd_same⟩⟩
theorem y_sumL {a : Addr} {ns : List Int} (h : SqL K H a (ns.map V.int)) (q : Q (.int ns.sum) H) : rSumU K [.ref a] H Q := .inl ⟨a, ns, rfl, h, q⟩
theorem y_sumT {a : Addr} {ns : List Int} (h : SqT K H a (ns.map V.int)) (q : Q (.int ns.sum) H) : rSumU K [.ref a] H Q := .inr ⟨a, ns, rfl, h, q⟩
theorem y_sortL {a : Addr} {ns : List Int} (h : SqL K H a (ns.map V.int)) (q : ∀ (ns' : List Int) (p : Addr) H', ns'.Perm ns → ns'.Pairwise (· ≤ ·) → H p = none → Ex H H' → H' p = some (.lst (ns'.map V.int)) → Q (.ref p) H') : rSortedU K [.ref a] H Q :=
  .inl ⟨a, ns, rfl, h, fun ns' p h1 h2 n => q ns' p _ h1 h2 n (Ex.new n) upd_same⟩
theorem y_sortT {a : Addr} {ns : List Int} (h : SqT K H a (ns.map V.int)) (q : ∀ (ns' : List Int) (p : Addr) H', ns'.Perm ns → ns'.Pairwise (· ≤ ·) → H p = none → Ex H H' → H' p = some (.lst (ns'.map V.int)) → Q (.ref p) H') : rSortedU K [.ref a] H Q :=
  .inr ⟨a, ns, rfl, h, fun ns' p h1 h2 n => q ns' p _ h1 h2 n (Ex.new n) upd_same⟩
/-- d[k], d a dict of the module -/
def rIxU (K : PySem.W.Frag) (w : World) : R2 := fun x y H Q => rIx K x y H Q ∨ rIxD K w x y H Q
theorem y_ixD {a : Addr} {z : Str} {v : V} (h : KDct K w a z v) (q : Q v H) : rIxU K w (.ref a) (.str z) H Q := .inr ⟨a, z, v, rfl, rfl, h, q⟩
theorem y_ix {x y : V} (h : rIx K x y H Q) : rIxU K w x y H Q := .inl h
end
/-- a tuple of the module -/
def TupK (K : PySem.W.Frag) (a : Addr) (xs : List V) : Prop := ∃ (o : Obj) (its : Array Value) (n : Nat), K.lookup a = some o ∧ o.cls = .type "tuple" ∧ o.data = .seq its n ∧ its.size ≤ sizeLine ∧ Vals xs its.toList
theorem TupK.sq {K : PySem.W.Frag} {H : Hp} {a : Addr} {xs : List V} (h : TupK K a xs) : SqT K H a xs := .inr h
theorem y_ixK {K : PySem.W.Frag} {w : World} {H : Hp} {Q : VK} {a : Addr} {z : Str} {v : V} (h : KDct K w a z v) (q : Q v H) : rIxD K w (.ref a) (.str z) H Q := ⟨a, z, v, rfl, rfl, h, q⟩
theorem ix_U {X : Cx} : IxR X (rIxU X.K X.w) := by
  intro value slice pins s σ H x y v u Q I rx ry h hs
  rcases h with h | h
  · exact ix_seq value slice pins s σ H x y v u Q I rx ry h hs
  · exact ix_kdict value slice pins s σ H x y v u Q I rx ry h hs
end Ls
end

section
set_option Elab.async false
set_option linter.all false
set_option maxRecDepth 100000
set_option maxHeartbeats 4000000
namespace Ls
open PySem PySem.Spec PyProof.Rows L2 SX
inductive Fn
  | add | sub | mul | div | neg | min | max | less | same | length | item | pack | join | take | drop | sort | total | turn
deriving DecidableEq
def Fn.text : Fn → String
  | .add => "add" | .sub => "sub" | .mul => "mul" | .div => "div" | .neg => "neg" | .min => "min" | .max => "max" | .less => "less" | .same => "same" | .length => "length" | .item => "item" | .pack => "pack" | .join => "join"
  | .take => "take" | .drop => "drop" | .sort => "sort" | .total => "total" | .turn => "turn"
def Fn.all : List Fn := [.add, .sub, .mul, .div, .neg, .min, .max, .less, .same, .length, .item, .pack, .join, .take, .drop, .sort, .total, .turn]
def Fn.nm (f : Fn) : Str := Str.ofString f.text
/-- the function of a name -/
def fnD : PyData → Option Fn
  | .str x => Fn.all.find? fun f => decide (f.nm = x)
  | _ => none
def Fn.lo : Fn → Nat
  | .add | .sub | .mul | .div | .less | .same | .item | .take | .drop => 2
  | .pack | .join => 0
  | _ => 1
def Fn.hi : Fn → Nat
  | .add | .sub | .mul | .div | .less | .same | .item | .take | .drop => 2
  | .pack | .join | .min | .max => 6
  | _ => 1
def toI : PyData → Int
  | .int i => i
  | _ => 0
def toL : PyData → List PyData
  | .tuple ds => ds
  | _ => []
def at0 (ds : List PyData) : PyData := ds.getD 0 .none
def at1 (ds : List PyData) : PyData := ds.getD 1 .none
def minL : List Int → Int
  | [] => 0
  | a :: r => r.foldl (fun m z => if z < m then z else m) a
def maxL : List Int → Int
  | [] => 0
  | a :: r => r.foldl (fun m z => if m < z then z else m) a
/-- an insertion sort -/
def insL (a : Int) : List Int → List Int
  | [] => [a]
  | b :: r => if a ≤ b then a :: b :: r else b :: insL a r
def sortL : List Int → List Int
  | [] => []
  | a :: r => insL a (sortL r)
def canCount (ds : List PyData) : Bool := isTup (at0 ds) && (isInt (at1 ds) && decide (0 ≤ toI (at1 ds)))
/-- whether as many arguments as wanted have a datum as their result, but for its size -/
def Fn.check : Fn → List PyData → Bool
  | .add, ds | .sub, ds | .mul, ds | .neg, ds | .min, ds | .max, ds | .less, ds => ds.all isInt
  | .div, ds => ds.all isInt && !decide (toI (at1 ds) = 0)
  | .same, ds | .pack, ds => ds.all isD
  | .length, ds | .join, ds | .turn, ds => ds.all isTup
  | .item, ds => canCount ds && decide (toI (at1 ds) < ((toL (at0 ds)).length : Nat))
  | .take, ds | .drop, ds => canCount ds
  | .sort, ds | .total, ds => isTup (at0 ds) && (toL (at0 ds)).all isInt
def Fn.raw : Fn → List PyData → PyData
  | .add, ds => .int (toI (at0 ds) + toI (at1 ds))
  | .sub, ds => .int (toI (at0 ds) - toI (at1 ds))
  | .mul, ds => .int (toI (at0 ds) * toI (at1 ds))
  | .div, ds => .int ((toI (at0 ds)).fdiv (toI (at1 ds)))
  | .neg, ds => .int (-toI (at0 ds))
  | .min, ds => .int (minL (ds.map toI))
  | .max, ds => .int (maxL (ds.map toI))
  | .less, ds => .int (if toI (at0 ds) < toI (at1 ds) then 1 else 0)
  | .same, ds => .int (if PyData.eqv (at0 ds) (at1 ds) = true then 1 else 0)
  | .length, ds => .int ((toL (at0 ds)).length : Nat)
  | .item, ds => (toL (at0 ds)).getD (toI (at1 ds)).toNat .none
  | .pack, ds => .tuple ds
  | .join, ds => .tuple (ds.map toL).flatten
  | .take, ds => .tuple ((toL (at0 ds)).take (toI (at1 ds)).toNat)
  | .drop, ds => .tuple ((toL (at0 ds)).drop (toI (at1 ds)).toNat)
  | .sort, ds => .tuple ((sortL ((toL (at0 ds)).map toI)).map PyData.int)
  | .total, ds => .int ((toL (at0 ds)).map toI).sum
  | .turn, ds => .tuple (toL (at0 ds)).reverse
def faultD : PyData := .str (Str.ofString "fault")
def Fn.app (f : Fn) (ds : List PyData) : PyData :=
  if f.lo ≤ ds.length ∧ ds.length ≤ f.hi then (if f.check ds = true then (if isD (f.raw ds) = true then f.raw ds else faultD) else faultD) else faultD
def isV (d : PyData) : Bool := isF d || isD d
theorem Fn.mem (f : Fn) : f ∈ Fn.all := by cases f <;> decide
theorem Fn.nm_inj : ∀ {f g : Fn}, f.nm = g.nm → f = g := by
  have key : ∀ a b : Fn, a.nm = b.nm → a = b := by
    intro a b
    cases a <;> cases b <;> first | (intro _; rfl) | (intro h; exfalso; revert h; decide +kernel)
  exact fun {f g} h => key f g h
theorem fnD_nm (f : Fn) : fnD (.str f.nm) = some f := by
  show (Fn.all.find? fun g => decide (g.nm = f.nm)) = some f
  cases h : Fn.all.find? fun g => decide (g.nm = f.nm) with
  | none =>
    have := List.find?_eq_none.mp h f f.mem
    simp at this
  | some g =>
    have := List.find?_some h
    rw [Fn.nm_inj (of_decide_eq_true this)]
theorem fnD_some {d : PyData} {f : Fn} (h : fnD d = some f) : d = .str f.nm := by
  unfold fnD at h
  split at h
  · have := List.find?_some h
    rw [of_decide_eq_true this]
  · cases h
theorem fnD_none {x : Str} (h : fnD (.str x) = none) : ∀ f : Fn, f.nm ≠ x := fun f e => by
  have := List.find?_eq_none.mp (show Fn.all.find? (fun g => decide (g.nm = x)) = none from h) f f.mem
  simp [e] at this
theorem minL_of {ns : List Int} {m : Int} (h : m ∈ ns) (h2 : ∀ z, z ∈ ns → m ≤ z) : minL ns = m := by
  have key : ∀ (l : List Int) (a : Int), (l.foldl (fun m z => if z < m then z else m) a ∈ a :: l) ∧ ∀ z, z ∈ a :: l → l.foldl (fun m z => if z < m then z else m) a ≤ z := by
    intro l
    induction l with
    | nil =>
      intro a
      refine ⟨List.mem_cons_self, fun z hz => ?_⟩
      have e : z = a := by simpa using hz
      rw [e]
      exact Int.le_refl _
    | cons b l ih =>
      intro a
      rw [List.foldl_cons]
      have hc : (if b < a then b else a) ≤ a ∧ (if b < a then b else a) ≤ b ∧ ((if b < a then b else a) = a ∨ (if b < a then b else a) = b) := by split <;> omega
      generalize (if b < a then b else a) = c at hc ⊢
      obtain ⟨i1, i2⟩ := ih c
      refine ⟨?_, fun z hz => ?_⟩
      · rcases List.mem_cons.mp i1 with e | e
        · rw [e]
          rcases hc.2.2 with e | e
          · rw [e]; exact List.mem_cons_self
          · rw [e]; exact List.mem_cons_of_mem _ List.mem_cons_self
        · exact List.mem_cons_of_mem _ (List.mem_cons_of_mem _ e)
      · have h0 := i2 _ List.mem_cons_self
        rcases List.mem_cons.mp hz with e | hz
        · rw [e]
          omega
        · rcases List.mem_cons.mp hz with e | hz
          · rw [e]
            omega
          · exact i2 z (List.mem_cons_of_mem _ hz)
  cases ns with
  | nil => cases h
  | cons a r =>
    obtain ⟨k1, k2⟩ := key r a
    have a1 := h2 _ k1
    have a2 := k2 _ h
    show List.foldl _ a r = m
    omega
theorem maxL_of {ns : List Int} {m : Int} (h : m ∈ ns) (h2 : ∀ z, z ∈ ns → z ≤ m) : maxL ns = m := by
  have key : ∀ (l : List Int) (a : Int), (l.foldl (fun m z => if m < z then z else m) a ∈ a :: l) ∧ ∀ z, z ∈ a :: l → z ≤ l.foldl (fun m z => if m < z then z else m) a := by
    intro l
    induction l with
    | nil =>
      intro a
      refine ⟨List.mem_cons_self, fun z hz => ?_⟩
      have e : z = a := by simpa using hz
      rw [e]
      exact Int.le_refl _
    | cons b l ih =>
      intro a
      rw [List.foldl_cons]
      have hc : a ≤ (if a < b then b else a) ∧ b ≤ (if a < b then b else a) ∧ ((if a < b then b else a) = a ∨ (if a < b then b else a) = b) := by split <;> omega
      generalize (if a < b then b else a) = c at hc ⊢
      obtain ⟨i1, i2⟩ := ih c
      refine ⟨?_, fun z hz => ?_⟩
      · rcases List.mem_cons.mp i1 with e | e
        · rw [e]
          rcases hc.2.2 with e | e
          · rw [e]; exact List.mem_cons_self
          · rw [e]; exact List.mem_cons_of_mem _ List.mem_cons_self
        · exact List.mem_cons_of_mem _ (List.mem_cons_of_mem _ e)
      · have h0 := i2 _ List.mem_cons_self
        rcases List.mem_cons.mp hz with e | hz
        · rw [e]
          omega
        · rcases List.mem_cons.mp hz with e | hz
          · rw [e]
            omega
          · exact i2 z (List.mem_cons_of_mem _ hz)
  cases ns with
  | nil => cases h
  | cons a r =>
    obtain ⟨k1, k2⟩ := key r a
    have a1 := h2 _ k1
    have a2 := k2 _ h
    show List.foldl _ a r = m
    omega
theorem insL_perm (a : Int) : ∀ l, (insL a l).Perm (a :: l)
  | [] => .refl _
  | b :: r => by
    unfold insL
    split
    · exact .refl _
    · exact ((insL_perm a r).cons b).trans (.swap a b r)
theorem sortL_perm : ∀ l, (sortL l).Perm l
  | [] => .refl _
  | a :: r => (insL_perm a _).trans ((sortL_perm r).cons a)
theorem insL_sorted {a : Int} : ∀ {l : List Int}, l.Pairwise (· ≤ ·) → (insL a l).Pairwise (· ≤ ·)
  | [], _ => by unfold insL; exact .cons (fun _ h => nomatch h) .nil
  | b :: r, h => by
    unfold insL
    cases h with
    | cons h1 h2 =>
      split
      · rename_i c
        exact .cons (fun z hz => (List.mem_cons.mp hz).elim (fun e => by omega) fun hz => by have := h1 z hz; omega) (.cons h1 h2)
      · rename_i c
        refine .cons (fun z hz => ?_) (insL_sorted h2)
        rcases List.mem_cons.mp ((insL_perm a r).mem_iff.mp hz) with e | hz
        · omega
        · exact h1 z hz
theorem sortL_sorted : ∀ l : List Int, (sortL l).Pairwise (· ≤ ·)
  | [] => .nil
  | a :: r => insL_sorted (sortL_sorted r)
theorem sorted_one : ∀ {l m : List Int}, l.Perm m → l.Pairwise (· ≤ ·) → m.Pairwise (· ≤ ·) → l = m
  | [], m, p, _, _ => by rw [List.nil_perm.mp p]
  | a :: l, [], p, _, _ => absurd p.length_eq (by simp)
  | a :: l, b :: m, p, h, k => by
    cases h with
    | cons h1 h2 =>
      cases k with
      | cons k1 k2 =>
        have e : a = b := by
          have ma : a ∈ b :: m := p.mem_iff.mp List.mem_cons_self
          have mb : b ∈ a :: l := p.mem_iff.mpr List.mem_cons_self
          rcases List.mem_cons.mp ma with e | ma
          · exact e
          · rcases List.mem_cons.mp mb with e | mb
            · exact e.symm
            · have := h1 b mb
              have := k1 a ma
              omega
        subst e
        rw [sorted_one (List.perm_cons a |>.mp p) h2 k2]
theorem sortL_of {ns ns' : List Int} (p : ns'.Perm ns) (s : ns'.Pairwise (· ≤ ·)) : sortL ns = ns' := sorted_one ((sortL_perm ns).trans p.symm) (sortL_sorted ns) s
theorem ints_of : ∀ {ds : List PyData}, ds.all isInt = true → ds = (ds.map toI).map PyData.int
  | [], _ => rfl
  | d :: ds, h => by
    rw [List.all_cons, Bool.and_eq_true] at h
    have e := ints_of h.2
    cases d with
    | int i => rw [List.map_cons, List.map_cons, ← e]; rfl
    | _ => cases h.1
theorem fl_intsV {K : PySem.W.Frag} {H : Hp} : ∀ {vs : List V} {ds : List PyData}, FlAll K H vs ds → ds.all isInt = true → vs = (ds.map toI).map V.int
  | _, _, .nil, _ => rfl
  | _, _, .cons a b, h => by
    rw [List.all_cons, Bool.and_eq_true] at h
    have e := fl_intsV b h.2
    cases a with
    | int i => rw [List.map_cons, List.map_cons, ← e]; rfl
    | non => cases h.1
    | bl => cases h.1
    | str => cases h.1
    | tup => cases h.1
theorem isV_fl {K : PySem.W.Frag} {H : Hp} {v : V} {d : PyData} (h : isV d = true) (hd : Dt K H v d) : Fl K H v d := by
  unfold isV at h
  cases hf : isF d with
  | true =>
    have e := isF_inv hf
    subst e
    cases hd
    exact .str _
  | false =>
    rw [hf, Bool.false_or] at h
    refine pl_fl d (ns_pl d ?_) hd
    unfold isD at h
    rw [Bool.and_eq_true] at h
    exact h.1
theorem isV_flL {K : PySem.W.Frag} {H : Hp} : ∀ {vs : List V} {ds : List PyData}, ds.all isV = true → DtAll K H vs ds → FlAll K H vs ds
  | _, _, _, .nil => .nil
  | _, _, h, .cons a b => by
    rw [List.all_cons, Bool.and_eq_true] at h
    exact .cons (isV_fl h.1 a) (isV_flL h.2 b)
theorem isD_parts {d : PyData} (h : isD d = true) : nsD d = true ∧ tdp d ≤ 4 ∧ szD d ≤ 1000 := by
  unfold isD at h
  simp only [Bool.and_eq_true, decide_eq_true_eq] at h
  exact ⟨h.1, by omega, h.2.2⟩
theorem lt_numL (n : Nat) : n < 10 ^ (TL.numL n).length := by
  induction n using Nat.strongRecOn with
  | _ n ih =>
    by_cases h : n < 10
    · rw [TL.numL_lt h]
      exact h
    · have := ih (n / 10) (by omega)
      rw [TL.numL_step (by omega), List.length_append, List.length_singleton, Nat.pow_succ]
      omega
theorem szI_abs {i : Int} {k : Nat} (h : szI i ≤ k) : i.natAbs < 10 ^ k := by
  rw [intL_len] at h
  have h2 : (TL.numL i.natAbs).length ≤ k := by
    unfold intL at h
    split at h
    · rw [List.length_cons] at h; omega
    · omega
  exact Nat.lt_of_lt_of_le (lt_numL _) (Nat.pow_le_pow_right (by decide) h2)
end Ls
end

section
set_option Elab.async false
set_option linter.all false
set_option maxRecDepth 100000
set_option maxHeartbeats 4000000
namespace Ls
open PySem PySem.Spec PyProof.Rows L2 SX
def sp_chk (K : PySem.W.Frag) (b : List PyData → Bool) (dom : List PyData → Prop) : Sp := fun vs H Q _ => ∃ p ws ds, vs = [.ref p] ∧ SqT K H p ws ∧ FlAll K H ws ds ∧ ws.length ≤ 1000 ∧ dom ds ∧ ∀ H', Ex H H' → Q (.bl (b ds)) H'
def sp_rw (K : PySem.W.Frag) (f : Fn) : Sp := fun vs H Q _ => ∃ p ws ds, vs = [.ref p] ∧ SqT K H p ws ∧ FlAll K H ws ds ∧ ds.all isV = true ∧ f.lo ≤ ds.length ∧ ds.length ≤ f.hi ∧ f.check ds = true ∧ ∀ v H', Ex H H' → Fl K H' v (f.raw ds) → Q v H'
def sp_iscount (K : PySem.W.Frag) : Sp := fun vs H Q _ => ∃ v d, vs = [v] ∧ Dt K H v d ∧ Q (.bl (isInt d && decide (0 ≤ toI d))) H
section
variable {K : PySem.W.Frag} {H : Hp} {Q : VK}
theorem y_lstT {p : Addr} {ys : List V} (h : SqT K H p ys) (q : ∀ l H', H l = none → Ex H H' → H' l = some (.lst ys) → Q (.ref l) H') : rLstOf K [.ref p] H Q := ⟨p, ys, rfl, .inr h, fun l n => q l _ n (Ex.new n) upd_same⟩
theorem y_lstL {p : Addr} {ys : List V} (h : SqL K H p ys) (q : ∀ l H', H l = none → Ex H H' → H' l = some (.lst ys) → Q (.ref l) H') : rLstOf K [.ref p] H Q := ⟨p, ys, rfl, .inl h, fun l n => q l _ n (Ex.new n) upd_same⟩
theorem y_minL {a : Addr} {ns : List Int} (h : SqL K H a (ns.map V.int)) (hn : 0 < ns.length) (q : ∀ m, m ∈ ns → (∀ z, z ∈ ns → m ≤ z) → Q (.int m) H) : rMinU K [.ref a] H Q := .inr ⟨a, ns, rfl, h, hn, q⟩
theorem y_isTupF {x : V} {d : PyData} (h : Fl K H x d) (q : Q (.bl (isTup d)) H) : rIsiU K [x, .ty "tuple"] H Q := by
  cases d with
  | str z => exact y_isi h.dt (b := false) rfl q
  | int i => exact y_isi h.dt (b := false) rfl q
  | tuple ds => exact y_isi h.dt (b := true) rfl q
  | none => exact y_isi h.dt (b := false) rfl q
  | bool _ => exact y_isi h.dt (b := false) rfl q
  | list _ => cases h
  | dict _ => cases h
theorem cutV_take (xs : List V) (k : Nat) : cutV xs none (some (k : Nat)) = xs.take k := by
  unfold cutV
  rw [HT.sIx_none, HT.sIx_nat, List.drop_zero, Nat.sub_zero]
  by_cases h : k ≤ xs.length
  · rw [Nat.min_eq_left h]
  · rw [Nat.min_eq_right (by omega), List.take_length, List.take_of_length_le (by omega)]
theorem cutV_drop (xs : List V) (k : Nat) : cutV xs (some (k : Nat)) none = xs.drop k := by
  unfold cutV
  rw [HT.sIx_none, HT.sIx_nat]
  by_cases h : k ≤ xs.length
  · rw [Nat.min_eq_left h]
    exact List.take_of_length_le (by rw [List.length_drop]; exact Nat.le_refl _)
  · rw [Nat.min_eq_right (by omega), List.drop_eq_nil_of_le (Nat.le_refl _), List.drop_eq_nil_of_le (by omega), List.take_nil]
end
mutual
theorem ns_lay : ∀ d : PyData, nsD d = true → PyData.canLay0 d = true ∧ PyData.depth d = tdp d
  | .int i, _ => ⟨rfl, rfl⟩
  | .tuple ds, h => by
    rw [nsD, Bool.and_eq_true] at h
    obtain ⟨a, b⟩ := nsL_lay ds h.2
    refine ⟨by rw [PyData.canLay0]; exact a, ?_⟩
    rw [PyData.depth, tdp, b]
    omega
  | .none, h => by simp [nsD] at h
  | .bool _, h => by simp [nsD] at h
  | .str _, h => by simp [nsD] at h
  | .list _, h => by simp [nsD] at h
  | .dict _, h => by simp [nsD] at h
theorem nsL_lay : ∀ ds : List PyData, nsL ds = true → PyData.canLayAll0 ds = true ∧ PyData.depthAll ds = tdpL ds
  | [], _ => ⟨rfl, rfl⟩
  | d :: ds, h => by
    rw [nsL, Bool.and_eq_true] at h
    obtain ⟨a, b⟩ := ns_lay d h.1
    obtain ⟨a2, b2⟩ := nsL_lay ds h.2
    refine ⟨by rw [PyData.canLayAll0, a, a2]; rfl, ?_⟩
    rw [PyData.depthAll, tdpL, b, b2]
end
theorem isD_shaped {d : PyData} (h : isD d = true) : SeqAt.shaped d = true := by
  obtain ⟨h1, h2, _⟩ := isD_parts h
  obtain ⟨a, b⟩ := ns_lay d h1
  unfold SeqAt.shaped
  rw [a, Bool.true_and, decide_eq_true_eq]
  omega
mutual
theorem sz_sm : ∀ d : PyData, nsD d = true → szD d ≤ 1000 → smD d = true
  | .int i, _, h => by
    rw [szD] at h
    rw [smD, decide_eq_true_eq]
    exact DL_of (szI_abs h) (by decide)
  | .tuple ds, h, z => by
    rw [nsD, Bool.and_eq_true] at h
    rw [szD] at z
    rw [smD]
    exact szL_sm ds h.2 (by omega)
  | .none, h, _ => by simp [nsD] at h
  | .bool _, h, _ => by simp [nsD] at h
  | .str _, h, _ => by simp [nsD] at h
  | .list _, h, _ => by simp [nsD] at h
  | .dict _, h, _ => by simp [nsD] at h
theorem szL_sm : ∀ ds : List PyData, nsL ds = true → szL ds ≤ 1000 → smL ds = true
  | [], _, _ => rfl
  | d :: ds, h, z => by
    rw [nsL, Bool.and_eq_true] at h
    rw [szL] at z
    have h1 := szD_pos d h.1
    have h2 := szL_nn ds h.2
    rw [smL, sz_sm d h.1 (by omega), szL_sm ds h.2 (by omega)]
    rfl
end
theorem isD_sm {d : PyData} (h : isD d = true) : smD d = true := let ⟨a, _, c⟩ := isD_parts h; sz_sm d a c
theorem isV_sm {d : PyData} (h : isV d = true) : smD d = true ∧ tdp d ≤ 4 := by
  unfold isV at h
  cases hf : isF d with
  | true =>
    have e := isF_inv hf
    subst e
    exact ⟨rfl, Nat.zero_le _⟩
  | false =>
    rw [hf, Bool.false_or] at h
    exact ⟨isD_sm h, (isD_parts h).2.1⟩
theorem isV_int {i : Int} (h : isV (.int i) = true) : i.natAbs < 10 ^ 1000 := by
  have h2 : isD (.int i) = true := by
    unfold isV at h
    exact h
  have := (isD_parts h2).2.2
  rw [szD] at this
  exact szI_abs this
theorem dig_bits {n : Nat} (h : n < 10 ^ 1000) : n < 2 ^ 3400 := Nat.lt_trans h (by decide +kernel)
theorem tdpL_all {ds : List PyData} {m : Nat} (h : ∀ d ∈ ds, tdp d ≤ m) : tdpL ds ≤ m := tdpL_le h
section
variable {K : PySem.W.Frag} {H : Hp}
theorem two_of {ds : List PyData} (h1 : 2 ≤ ds.length) (h2 : ds.length ≤ 2) : ∃ a b, ds = [a, b] := by
  match ds, h1, h2 with
  | [a, b], _, _ => exact ⟨a, b, rfl⟩
theorem one_of {ds : List PyData} (h1 : 1 ≤ ds.length) (h2 : ds.length ≤ 1) : ∃ a, ds = [a] := by
  match ds, h1, h2 with
  | [a], _, _ => exact ⟨a, rfl⟩
theorem fl_two {ws : List V} {a b : PyData} (h : FlAll K H ws [a, b]) : ∃ x y, ws = [x, y] ∧ Fl K H x a ∧ Fl K H y b := by
  cases h with | cons h1 h2 => cases h2 with | cons h3 h4 => cases h4; exact ⟨_, _, rfl, h1, h3⟩
theorem fl_one {ws : List V} {a : PyData} (h : FlAll K H ws [a]) : ∃ x, ws = [x] ∧ Fl K H x a := by
  cases h with | cons h1 h2 => cases h2; exact ⟨_, rfl, h1⟩
theorem isInt_inv {d : PyData} (h : isInt d = true) : ∃ i, d = .int i := by
  cases d with
  | int i => exact ⟨i, rfl⟩
  | _ => cases h
theorem two_ints {ws : List V} {ds : List PyData} (hF : FlAll K H ws ds) (h1 : 2 ≤ ds.length) (h2 : ds.length ≤ 2) (hc : ds.all isInt = true) : ∃ a b : Int, ds = [.int a, .int b] ∧ ws = [.int a, .int b] := by
  obtain ⟨a, b, rfl⟩ := two_of h1 h2
  rw [List.all_cons, List.all_cons, List.all_nil, Bool.and_true, Bool.and_eq_true] at hc
  obtain ⟨i, rfl⟩ := isInt_inv hc.1
  obtain ⟨j, rfl⟩ := isInt_inv hc.2
  have e := fl_intsV hF rfl
  exact ⟨i, j, rfl, e⟩
theorem one_int {ws : List V} {ds : List PyData} (hF : FlAll K H ws ds) (h1 : 1 ≤ ds.length) (h2 : ds.length ≤ 1) (hc : ds.all isInt = true) : ∃ a : Int, ds = [.int a] ∧ ws = [.int a] := by
  obtain ⟨a, rfl⟩ := one_of h1 h2
  rw [List.all_cons, List.all_nil, Bool.and_true] at hc
  obtain ⟨i, rfl⟩ := isInt_inv hc
  exact ⟨i, rfl, fl_intsV hF rfl⟩
theorem fl_tup {x : V} {d : PyData} (h : Fl K H x d) (ht : isTup d = true) : ∃ a xs ds, d = .tuple ds ∧ x = .ref a ∧ SqT K H a xs ∧ FlAll K H xs ds := by
  obtain ⟨ds, rfl⟩ := isTup_inv ht
  obtain ⟨a, xs, e, hS, hF⟩ := h.tup_inv
  exact ⟨a, xs, ds, rfl, e, hS, hF⟩
theorem isV_tup {ds : List PyData} (h : isV (.tuple ds) = true) : ds.length ≤ 40 ∧ nsL ds = true ∧ 1 + szL ds ≤ 1000 ∧ 1 + tdpL ds ≤ 4 := by
  have h2 : isD (.tuple ds) = true := by
    unfold isV at h
    exact h
  obtain ⟨a, b, c⟩ := isD_parts h2
  rw [nsD, Bool.and_eq_true, decide_eq_true_eq] at a
  rw [szD] at c
  rw [tdp] at b
  exact ⟨a.1, a.2, c, b⟩
theorem all_map {b : PyData → Bool} (ds : List PyData) : (ds.map b).all id = ds.all b := by
  rw [List.all_map]
  rfl
theorem FlAll.rev : ∀ {vs : List V} {ds : List PyData}, FlAll K H vs ds → FlAll K H vs.reverse ds.reverse
  | _, _, .nil => .nil
  | _, _, .cons a b => by rw [List.reverse_cons, List.reverse_cons]; exact (FlAll.rev b).snoc a
theorem fl_str {x : V} {z : Str} (h : Fl K H x (.str z)) : x = .str z := by cases h; rfl
end
end Ls
end

section
set_option Elab.async false
set_option linter.all false
set_option maxRecDepth 100000
set_option maxHeartbeats 4000000
namespace Ls
open PySem PySem.Spec PyProof.Rows L2 SX
def namesV : List V := Fn.all.map fun f => .str f.nm
theorem names_in (x : Str) : inV (.str x) namesV = (fnD (.str x)).isSome := by
  have key : ∀ l : List Fn, inV (.str x) (l.map fun f => V.str f.nm) = (l.find? fun f => decide (f.nm = x)).isSome := by
    intro l
    induction l with
    | nil => rfl
    | cons f l ih =>
      have e : inV (.str x) ((f :: l).map fun f => V.str f.nm) = (eqV (.str f.nm) (.str x) || inV (.str x) (l.map fun f => V.str f.nm)) := rfl
      rw [e, ih, List.find?_cons]
      have e2 : eqV (.str f.nm) (.str x) = decide (f.nm = x) := by
        show (f.nm == x) = _
        by_cases c : f.nm = x
        · rw [decide_eq_true c, c]; simp
        · rw [decide_eq_false c]; simpa using c
      rw [e2]
      cases decide (f.nm = x) <;> rfl
  exact key Fn.all
theorem names_flat : namesV.all flatV = true := by decide
def sp_isfun (K : PySem.W.Frag) : Sp := fun vs H Q _ => ∃ v d, vs = [v] ∧ Dt K H v d ∧ Q (.bl (fnD d).isSome) H
def sp_arity (K : PySem.W.Frag) (C : Addr) : Sp := fun vs H Q E => ∃ v d, vs = [v] ∧ Dt K H v d ∧ (∀ f p, fnD d = some f → TupK K p [.int (f.lo : Nat), .int (f.hi : Nat)] → Q (.ref p) H) ∧
  (fnD d = none → ∀ dd H', Ex H H' → H' dd = some (.xd [("value", v)]) → E (.ref C) (some dd) H')
/-- the first that is no value -/
def firstBad : List PyData → Option Nat
  | [] => none
  | d :: ds => if isV d = true then (firstBad ds).map (· + 1) else some 0
theorem firstBad_none : ∀ {ds : List PyData}, firstBad ds = none → ds.all isV = true
  | [], _ => rfl
  | d :: ds, h => by
    unfold firstBad at h
    split at h
    · rename_i c
      rw [List.all_cons, c, firstBad_none (by simpa using h)]
      rfl
    · cases h
theorem firstBad_all : ∀ {ds : List PyData}, ds.all isV = true → firstBad ds = none
  | [], _ => rfl
  | d :: ds, h => by
    rw [List.all_cons, Bool.and_eq_true] at h
    unfold firstBad
    rw [if_pos h.1, firstBad_all h.2]
    rfl
theorem firstBad_at : ∀ {ds : List PyData} {j : Nat} {d : PyData}, (∀ e ∈ ds.take j, isV e = true) → ds[j]? = some d → isV d = false → firstBad ds = some j
  | [], j, d, _, h, _ => by simp at h
  | e :: ds, 0, d, _, h, b => by
    have : e = d := by simpa using h
    subst this
    unfold firstBad
    rw [if_neg (by rw [b]; exact Bool.false_ne_true)]
  | e :: ds, j + 1, d, a, h, b => by
    unfold firstBad
    rw [if_pos (a e (by simp)), firstBad_at (j := j) (fun x hx => a x (by rw [List.take_succ_cons]; exact List.mem_cons_of_mem _ hx)) (by simpa using h) b]
    rfl
/-- apply(v, *ws): what it gives, what it raises -/
def sp_app (K : PySem.W.Frag) (CF CV : Addr) : Sp := fun vs H Q E => ∃ (v : V) (d : PyData) (p : Addr) (ws : List V) (ds : List PyData), vs = [v, .ref p] ∧ Dt K H v d ∧ SqT K H p ws ∧ DtAll K H ws ds ∧ ws.length ≤ 1000 ∧ (∀ e ∈ ds, smD e = true ∧ tdp e < 10) ∧
  (fnD d = none → ∀ dd H', Ex H H' → H' dd = some (.xd [("value", v)]) → E (.ref CF) (some dd) H') ∧
  (∀ f j w, fnD d = some f → firstBad ds = some j → ws[j]? = some w → ∀ dd H', Ex H H' → H' dd = some (.xd [("value", w)]) → E (.ref CV) (some dd) H') ∧
  (∀ f, fnD d = some f → ds.all isV = true → ∀ r H', Ex H H' → Fl K H' r (f.app ds) → Q r H')
theorem app_V (f : Fn) (ds : List PyData) : isV (f.app ds) = true := by
  unfold Fn.app
  have hf : isV faultD = true := by decide +kernel
  split
  · split
    · split
      · rename_i h
        unfold isV
        rw [h, Bool.or_true]
      · exact hf
    · exact hf
  · exact hf
theorem dig_int {i : Int} {k : Nat} (h : i.natAbs < 10 ^ k) (hk : k ≤ 4300) : smD (.int i) = true := by
  rw [smD, decide_eq_true_eq]
  exact DL_of h hk
theorem sum_bound : ∀ {ns : List Int} {b : Nat}, (∀ n ∈ ns, n.natAbs ≤ b) → ns.sum.natAbs ≤ ns.length * b
  | [], b, _ => Nat.zero_le _
  | n :: ns, b, h => by
    have h1 := h n List.mem_cons_self
    have h2 := sum_bound (ns := ns) (b := b) fun m hm => h m (List.mem_cons_of_mem _ hm)
    rw [List.sum_cons, List.length_cons, Nat.succ_mul]
    omega
theorem mem_isV {ds : List PyData} (h : ds.all isV = true) {d : PyData} (hd : d ∈ ds) : isV d = true := List.all_eq_true.mp h d hd
theorem nsL_all2 {ds : List PyData} (h : nsL ds = true) {d : PyData} (hd : d ∈ ds) : nsD d = true := nsL_mem h hd
theorem smL_of : ∀ {ds : List PyData}, (∀ d, d ∈ ds → smD d = true) → smL ds = true
  | [], _ => rfl
  | d :: ds, h => by rw [smL, h d List.mem_cons_self, smL_of fun e he => h e (List.mem_cons_of_mem _ he)]; rfl
/-- an item of a value -/
theorem item_sm {es : List PyData} (h : isV (.tuple es) = true) {d : PyData} (hd : d ∈ es) : smD d = true ∧ tdp d ≤ 3 := by
  obtain ⟨v1, v2, v3, v4⟩ := isV_tup h
  have := tdp_mem hd
  exact ⟨smL_mem (szL_sm es v2 (by omega)) hd, by omega⟩
theorem item_int {es : List PyData} (h : isV (.tuple es) = true) {i : Int} (hd : PyData.int i ∈ es) : i.natAbs < 10 ^ 1000 := by
  obtain ⟨v1, v2, v3, v4⟩ := isV_tup h
  have h1 := szL_mem v2 hd
  rw [szD] at h1
  exact szI_abs (show szI i ≤ (1000 : Nat) by omega)
theorem isV_tupOf {ds : List PyData} (h : ds.all isV = true) : isTup (at0 ds) = true → isV (.tuple (toL (at0 ds))) = true := fun ht => by
  cases ds with
  | nil => cases ht
  | cons d ds =>
    rw [List.all_cons, Bool.and_eq_true] at h
    obtain ⟨es, e⟩ := isTup_inv (show isTup d = true from ht)
    subst e
    exact h.1
theorem fold_mem (c : Int → Int → Bool) : ∀ (l : List Int) (a : Int), l.foldl (fun m z => if c m z = true then z else m) a ∈ a :: l
  | [], a => List.mem_cons_self
  | b :: l, a => by
    rw [List.foldl_cons]
    have h := fold_mem c l (if c a b = true then b else a)
    rcases List.mem_cons.mp h with e | e
    · rw [e]
      split
      · exact List.mem_cons_of_mem _ List.mem_cons_self
      · exact List.mem_cons_self
    · exact List.mem_cons_of_mem _ (List.mem_cons_of_mem _ e)
theorem minL_mem {ns : List Int} (h : 0 < ns.length) : minL ns ∈ ns := by
  cases ns with
  | nil => cases h
  | cons a r =>
    have z := fold_mem (fun m z => decide (z < m)) r a
    simp only [decide_eq_true_eq] at z
    exact z
theorem maxL_mem {ns : List Int} (h : 0 < ns.length) : maxL ns ∈ ns := by
  cases ns with
  | nil => cases h
  | cons a r =>
    have z := fold_mem (fun m z => decide (m < z)) r a
    simp only [decide_eq_true_eq] at z
    exact z
theorem p2 : 10 ^ 1000 + 10 ^ 1000 ≤ 10 ^ 1001 := by decide +kernel
theorem raw_sm (f : Fn) {ds : List PyData} (hV : ds.all isV = true) (h1 : f.lo ≤ ds.length) (h2 : ds.length ≤ f.hi) (hc : f.check ds = true) : smD (f.raw ds) = true ∧ tdp (f.raw ds) < 10 := by
  have ints2 : 2 ≤ ds.length → ds.length ≤ 2 → ds.all isInt = true → ∃ a b : Int, ds = [.int a, .int b] ∧ a.natAbs < 10 ^ 1000 ∧ b.natAbs < 10 ^ 1000 := fun k1 k2 k3 => by
    obtain ⟨x, y, e⟩ := two_of k1 k2
    subst e
    rw [List.all_cons, List.all_cons, List.all_nil, Bool.and_true, Bool.and_eq_true] at k3
    obtain ⟨i, e1⟩ := isInt_inv k3.1
    obtain ⟨j, e2⟩ := isInt_inv k3.2
    subst e1 e2
    exact ⟨i, j, rfl, isV_int (mem_isV hV (by simp)), isV_int (mem_isV hV (by simp))⟩
  have small : ∀ i : Int, i.natAbs < 10 ^ 3 → smD (.int i) = true ∧ tdp (.int i) < 10 := fun i hi => ⟨dig_int hi (by decide), (show 0 < 10 by decide)⟩
  have big : ∀ (i : Int) (k : Nat), i.natAbs < 10 ^ k → k ≤ 4300 → smD (.int i) = true ∧ tdp (.int i) < 10 := fun i k hi hk => ⟨dig_int hi hk, (show 0 < 10 by decide)⟩
  have flat1 : ∀ es : List PyData, (∀ d ∈ es, smD d = true ∧ tdp d ≤ 4) → smD (.tuple es) = true ∧ tdp (.tuple es) < 10 := fun es h => by
    refine ⟨by rw [smD]; exact smL_of fun d hd => (h d hd).1, ?_⟩
    rw [tdp]
    have := tdpL_le (m := 4) fun d hd => (h d hd).2
    omega
  have pp := p2
  cases f with
  | add =>
    obtain ⟨a, b, rfl, ha, hb⟩ := ints2 h1 h2 hc
    exact big (a + b) 1001 (by generalize 10 ^ 1000 = M at *; generalize 10 ^ 1001 = N at *; omega) (by decide)
  | sub =>
    obtain ⟨a, b, rfl, ha, hb⟩ := ints2 h1 h2 hc
    exact big (a - b) 1001 (by generalize 10 ^ 1000 = M at *; generalize 10 ^ 1001 = N at *; omega) (by decide)
  | mul =>
    obtain ⟨a, b, rfl, ha, hb⟩ := ints2 h1 h2 hc
    refine big (a * b) 2000 ?_ (by decide)
    rw [Int.natAbs_mul]
    exact Nat.lt_of_lt_of_le (Nat.mul_lt_mul'' ha hb) (by rw [← Nat.pow_add]; exact Nat.le_refl _)
  | div =>
    have hc' : (ds.all isInt && !decide (toI (at1 ds) = 0)) = true := hc
    rw [Bool.and_eq_true] at hc'
    obtain ⟨a, b, rfl, ha, hb⟩ := ints2 h1 h2 hc'.1
    have h0 : b ≠ 0 := by
      have e : toI (at1 [PyData.int a, PyData.int b]) = b := rfl
      rw [e] at hc'
      simpa using hc'.2
    refine big (a.fdiv b) 1001 ?_ (by decide)
    have h3 : (a.fdiv b).natAbs ≤ a.natAbs + 1 := by
      have e := Int.fdiv_eq_ediv (a := a) (b := b)
      have z := Int.natAbs_ediv_le_natAbs a b
      split at e <;> omega
    generalize 10 ^ 1000 = M at *
    generalize 10 ^ 1001 = N at *
    omega
  | neg =>
    obtain ⟨x, rfl⟩ := one_of h1 h2
    obtain ⟨i, rfl⟩ := isInt_inv (by simpa using (show List.all [x] isInt = true from hc))
    have := isV_int (mem_isV hV (List.mem_singleton.mpr rfl))
    exact big (-i) 1000 (by rw [Int.natAbs_neg]; exact this) (by decide)
  | min =>
    have hi : ds.all isInt = true := hc
    have hm : minL (ds.map toI) ∈ ds.map toI := minL_mem (by rw [List.length_map]; exact h1)
    obtain ⟨d, hd, e⟩ := List.mem_map.mp hm
    obtain ⟨i, rfl⟩ := isInt_inv (List.all_eq_true.mp hi d hd)
    have e0 : Fn.raw .min ds = .int i := by
      show PyData.int (minL (ds.map toI)) = _
      rw [← e]
      rfl
    rw [e0]
    exact big i 1000 (isV_int (mem_isV hV hd)) (by decide)
  | max =>
    have hi : ds.all isInt = true := hc
    have hm : maxL (ds.map toI) ∈ ds.map toI := maxL_mem (by rw [List.length_map]; exact h1)
    obtain ⟨d, hd, e⟩ := List.mem_map.mp hm
    obtain ⟨i, rfl⟩ := isInt_inv (List.all_eq_true.mp hi d hd)
    have e0 : Fn.raw .max ds = .int i := by
      show PyData.int (maxL (ds.map toI)) = _
      rw [← e]
      rfl
    rw [e0]
    exact big i 1000 (isV_int (mem_isV hV hd)) (by decide)
  | less =>
    refine small _ ?_
    split <;> decide
  | same =>
    refine small _ ?_
    split <;> decide
  | length =>
    obtain ⟨x, rfl⟩ := one_of h1 h2
    obtain ⟨es, rfl⟩ := isTup_inv (by simpa using (show List.all [x] isTup = true from hc))
    have := (isV_tup (mem_isV hV (List.mem_singleton.mpr rfl))).1
    exact small _ (by show ((es.length : Nat) : Int).natAbs < 10 ^ 3; omega)
  | item =>
    have hc' : (canCount ds && decide (toI (at1 ds) < ((toL (at0 ds)).length : Nat))) = true := hc
    rw [Bool.and_eq_true, decide_eq_true_eq] at hc'
    have hk : (isTup (at0 ds) && (isInt (at1 ds) && decide (0 ≤ toI (at1 ds)))) = true := hc'.1
    simp only [Bool.and_eq_true, decide_eq_true_eq] at hk
    have hv := isV_tupOf hV hk.1
    have hlt : (toI (at1 ds)).toNat < (toL (at0 ds)).length := by omega
    have e : Fn.raw .item ds = (toL (at0 ds))[(toI (at1 ds)).toNat] := by
      show (toL (at0 ds)).getD (toI (at1 ds)).toNat .none = _
      rw [List.getD_eq_getElem?_getD, List.getElem?_eq_getElem hlt]
      rfl
    rw [e]
    have := item_sm hv (List.getElem_mem hlt)
    exact ⟨this.1, by omega⟩
  | pack => exact flat1 ds fun d hd => isV_sm (mem_isV hV hd)
  | join =>
    refine flat1 _ fun d hd => ?_
    obtain ⟨l, hl, hd⟩ := List.mem_flatten.mp hd
    obtain ⟨t, ht, rfl⟩ := List.mem_map.mp hl
    obtain ⟨es, rfl⟩ := isTup_inv (List.all_eq_true.mp (show ds.all isTup = true from hc) t ht)
    have := item_sm (mem_isV hV ht) hd
    exact ⟨this.1, by omega⟩
  | take =>
    have hk : (isTup (at0 ds) && (isInt (at1 ds) && decide (0 ≤ toI (at1 ds)))) = true := hc
    simp only [Bool.and_eq_true, decide_eq_true_eq] at hk
    exact flat1 _ fun d hd => let z := item_sm (isV_tupOf hV hk.1) (List.mem_of_mem_take hd); ⟨z.1, by have := z.2; omega⟩
  | drop =>
    have hk : (isTup (at0 ds) && (isInt (at1 ds) && decide (0 ≤ toI (at1 ds)))) = true := hc
    simp only [Bool.and_eq_true, decide_eq_true_eq] at hk
    exact flat1 _ fun d hd => let z := item_sm (isV_tupOf hV hk.1) (List.mem_of_mem_drop hd); ⟨z.1, by have := z.2; omega⟩
  | sort =>
    have hk : (isTup (at0 ds) && (toL (at0 ds)).all isInt) = true := hc
    rw [Bool.and_eq_true] at hk
    have hv := isV_tupOf hV hk.1
    refine flat1 _ fun d hd => ?_
    obtain ⟨i, hi, rfl⟩ := List.mem_map.mp hd
    have hi2 := (sortL_perm _).mem_iff.mp hi
    have hd2 : PyData.int i ∈ toL (at0 ds) := by
      rw [ints_of hk.2]
      exact List.mem_map.mpr ⟨i, hi2, rfl⟩
    have := item_sm hv hd2
    exact ⟨this.1, by omega⟩
  | total =>
    have hk : (isTup (at0 ds) && (toL (at0 ds)).all isInt) = true := hc
    rw [Bool.and_eq_true] at hk
    have hv := isV_tupOf hV hk.1
    have h40 := (isV_tup hv).1
    have hb : ∀ n ∈ (toL (at0 ds)).map toI, n.natAbs ≤ 10 ^ 1000 := fun n hn => by
      obtain ⟨d, hd, rfl⟩ := List.mem_map.mp hn
      obtain ⟨i, rfl⟩ := isInt_inv (List.all_eq_true.mp hk.2 d hd)
      exact Nat.le_of_lt (item_int hv hd)
    have hs := sum_bound hb
    rw [List.length_map] at hs
    refine big _ 1002 (Nat.lt_of_le_of_lt hs (Nat.lt_of_le_of_lt (Nat.mul_le_mul_right _ h40) (by decide +kernel))) (by decide)
  | turn =>
    obtain ⟨x, rfl⟩ := one_of h1 h2
    obtain ⟨es, rfl⟩ := isTup_inv (by simpa using (show List.all [x] isTup = true from hc))
    have hv := mem_isV hV (List.mem_singleton.mpr rfl)
    exact flat1 _ fun d hd => let z := item_sm hv (List.mem_reverse.mp hd); ⟨z.1, by have := z.2; omega⟩
end Ls
end

section
set_option Elab.async false
set_option linter.all false
set_option maxRecDepth 100000
set_option maxHeartbeats 4000000
namespace Ls
open PySem PySem.Spec PyProof.Rows L2
/-- one clause: its class, the slot of its name, its suite -/
structure Cl where
  c : Value
  i : Option Nat
  ts : Addr → Value → Option Addr → TS
/-- the ends of a named clause's suite: the name is gone -/
def endN (i : Nat) (D : Ends) : Ends := { nx := fun σ H => D.nx (σ.set i none) H, rt := D.rt, bk := fun σ H => D.bk (σ.set i none) H, ct := fun σ H => D.ct (σ.set i none) H }
def goN (q : Cl) (a : Addr) (cls : Value) (d : Option Addr) (D : Ends) (σ : L2.St) (H : Hp) : Prop :=
  match q.i with
  | none => q.ts a cls d D σ H
  | some i => q.ts a cls d (endN i D) (σ.set i (some (.ref a))) H
/-- what the clauses wish of an exception of the body, one after the other -/
def wCls (K : PySem.W.Frag) (Wo : WX) (D : Ends) : List Cl → WX
  | [] => Wo
  | q :: r => fun cls d σ H => ∃ b, PySem.W.exmOne K cls q.c = some b ∧ (b = true → ∀ a, H a = none → goN q a cls d D σ H) ∧ (b = false → wCls K Wo D r cls d σ H)
def suiteOk (Y : Cx) (st : List Stmt) (ts : Addr → Value → Option Addr → TS) : Prop :=
  ∀ (a : Addr) (oe : Obj) (cls : Value) (d : Option Addr) (pn : List (Addr × Obj)), Zc cls d oe → (∃ vs, oe.data = .fields vs) → PSs (Y.suite a ((a, oe) :: pn)) st (ts a cls d)
inductive Cls (Y : Cx) : List ExceptHandler → List Cl → Prop
  | nil : Cls Y [] []
  | bare {x : Str} {c : Value} {ts : Addr → Value → Option Addr → TS} {b0 : Stmt} {su : List Stmt} {np ps : Pos} {hs : List ExceptHandler} {l : List Cl} (hc : Names Y x c) (h : suiteOk Y (b0 :: su) ts) (r : Cls Y hs l) :
      Cls Y (.ExceptHandler (some (.Name x np)) none (b0 :: su) ps :: hs) (⟨c, none, ts⟩ :: l)
  | named {x n : Str} {i : Nat} {c : Value} {ts : Addr → Value → Option Addr → TS} {b0 : Stmt} {su : List Stmt} {np ps : Pos} {hs : List ExceptHandler} {l : List Cl} (hN : Y.N.Nodup) (hi : Y.N[i]? = some n) (hk : Y.env.kindOf n = some .local) (hc : Names Y x c)
      (h : suiteOk Y (b0 :: su) ts) (r : Cls Y hs l) : Cls Y (.ExceptHandler (some (.Name x np)) (some n) (b0 :: su) ps :: hs) (⟨c, some i, ts⟩ :: l)
section
variable {Y : Cx} {body : List Stmt} {h0 : ExceptHandler} {hs : List ExceptHandler} {l : List Cl} {pos : Pos} {tb : WX → TS} {Wo : WX}
theorem ps_try_cls (hst : Y.stack = Y.env :: Y.outer) (hfr : Y.env.frame = some Y.env.locals) (tk : Takes Y Wo)
    (hb : ∀ (W : WX) (pn : List (Addr × Obj)) (xe : Value → Shared → Prop), Takes (Y.tr pn xe) W → PassesOwn (model Y.prog Y.w) Y.A Y.env xe → PSs (Y.tr pn xe) body (tb W))
    (hh : Cls Y (h0 :: hs) l) : PS Y (.Try body (h0 :: hs) [] [] pos) (fun D σ H => tb (wCls Y.K Wo D l) D σ H) := by
  refine ⟨fun pins s σ H D I h => wpAny_Try_except ?_⟩
  have okI := I.ok
  have framesI : Y.A.frames = some (Y.env :: Y.outer) := by rw [okI.frames, hst]
  refine wpAny_mono ((hb (wCls Y.K Wo D l) (Y.pn ++ pins) (fun e s1 => wpAny (model Y.prog Y.w) Y.A (noteFrame e Y.env) (fun _ s2 => wpAny (model Y.prog Y.w) Y.A (setFlight e none) (fun _ s3 => wpAny (model Y.prog Y.w) Y.A (handleBy e Y.env (h0 :: hs)) (SP Y pins D) Y.xe s3) Y.xe s2) Y.xe s1)
    (fun u sx caught => ?_) PassesOwn.looking).run [] s σ H D (I.toTry _) h) (fun f s1 done => ?_) (fun e s1 z => z)
  · obtain ⟨ae, B, sI, pins2, σx, Hx, cls, d, rfl, Jt, nb, up, sky, na, os, ag, w⟩ := caught
    have J : Inv Y pins σx Hx sI := Jt.ofTry okI
    have sky2 : Sky B (Y.env :: Y.outer) ae (Zc cls d) Y.env.locals sx.heap := by rw [← hst]; exact sky
    show wpAny (model Y.prog Y.w) Y.A (noteFrame (.ref ae) Y.env) _ _ _
    refine Sky.land Zc.steady framesI hfr sky2 fun h3 fl3 up3 => ?_
    have J3 : Inv Y pins σx Hx { sx with heap := h3 } := J.landed nb fl3.1 (up.trans up3) os ag
    obtain ⟨o3, v3, he3, hz3, hd3⟩ := fl3.there
    have out : ae ∉ frs (Y.env :: Y.outer) := fun hm => by
      obtain ⟨_, o4, e4, hnf⟩ := fl3.2.2.1.mem hm
      rw [he3] at e4
      cases e4
      exact hnf _ hd3
    have nL : ae ≠ Y.env.locals := fun z => out (List.mem_filterMap.mpr ⟨Y.env, List.mem_cons_self, by rw [hfr, z]⟩)
    have nF : ae ∉ Y.fs := fun hm => by
      obtain ⟨e, he, q⟩ := List.mem_filterMap.mp hm
      exact out (List.mem_filterMap.mpr ⟨e, List.mem_cons_of_mem _ he, q⟩)
    have S3 := J3.suite he3 hd3 na nL nF
    have looks : ∀ {c : Value} {b : Bool}, PySem.W.exmOne Y.K cls c = some b → PySem.W.Looks (model Y.prog Y.w) h3 (excMatches (.ref ae) c) b := fun {c b} hb1 =>
      PySem.W.exm_one (J3.kIn) (fun A Q E s k q => wpAny_typeOf_ref (k _ _ he3) (by rw [hz3.1]; exact q)) hb1
    have asks : ∀ {x : Str} {c : Value} {np : Pos} {Q E : Value → Shared → Prop}, Names Y x c → Q c { sx with heap := h3 } → wpAny (model Y.prog Y.w) (Y.A.mark (some (.ref ae))) (eval (.Name x np) Y.env) Q E { sx with heap := h3 } := fun {x c np Q E} hc q => by
      obtain ⟨hg, hdb, hm | ⟨hm, hv, hn⟩⟩ := hc
      · exact ld_glob (X := Y.suite ae ((ae, o3) :: (Y.pn ++ pins))) S3 hg hm q hdb
      · exact ld_blt (X := Y.suite ae ((ae, o3) :: (Y.pn ++ pins))) S3 hg hm hv q hn hdb
    have go : ∀ {hs2 : List ExceptHandler} {l2 : List Cl}, Cls Y hs2 l2 → wCls Y.K Wo D l2 cls d σx Hx → wpAny (model Y.prog Y.w) Y.A (handleBy (.ref ae) Y.env hs2) (SP Y pins D) Y.xe { sx with heap := h3 } := by
      intro hs2 l2 hk
      induction hk with
      | nil =>
        intro w
        refine wpAny_handleBy_nil ?_
        obtain ⟨k1, k2, k3, oe, vs, T, oT, ts', he, hz, hd, h1, hr⟩ := id fl3
        unfold PySem.passOn
        refine wpAny_bind (wpAny_field he hd h1 ?_)
        rw [if_neg (show ¬ ((Value.ref T == Value.none) = true) from fun z => by cases beq_iff_eq.mp z)]
        have fin : wpAny (model Y.prog Y.w) Y.A (setFlight (.ref ae) Y.env.frame) (fun _ s4 => wpAny (model Y.prog Y.w) Y.A (throw (.ref ae) : Sem Flow) (SP Y pins D) Y.xe s4) Y.xe { sx with heap := h3 } := by
          rw [hfr]
          exact HandSPX.setFlight_upZ fl3 fun h4 hh4 up4 => wpAny_throw (tk _ _ ⟨ae, B, sI, pins, σx, Hx, cls, d, rfl, J, nb, (up.trans up3).trans up4, .inr (.inr (by rw [hst]; exact hh4)), na, os, ag, w⟩)
        first
          | exact wpAny_bind (wpAny_pure (wpAny_bind fin))
          | exact wpAny_bind fin
      | @bare x c ts b0 su np ps hs3 l3 hc hsu r ih =>
        intro ⟨b, hb1, hyes, hno⟩
        refine wpAny_handleBy_cons (codeAny_handlers_test (asks hc ((looks hb1).here ?_))) (by intro q; cases q)
        cases b with
        | true =>
          refine codeAny_handlers_suite (HandSPX.lands_againZ fl3 fun h4 fl4 up4 => ?_)
          have J4 : Inv Y pins σx Hx { sx with heap := h4 } := J.landed nb fl4.1 ((up.trans up3).trans up4) os ag
          obtain ⟨o4, v4, he4, hz4, hd4⟩ := fl4.there
          refine wpAny_mono ((hsu ae o4 cls d (Y.pn ++ pins) hz4 ⟨_, hd4⟩).run [] _ _ Hx _ (J4.suite he4 hd4 na nL nF) (hyes rfl ae na)) (fun f s6 z6 => ?_) (fun _ _ z => False.elim z)
          cases f with
          | ret u =>
            obtain ⟨v6, σ6, H6, S6, r6, q6⟩ := z6
            exact ⟨_, _, _, S6.unsuite okI, r6, q6⟩
          | _ =>
            obtain ⟨σ6, H6, S6, q6⟩ := z6
            exact ⟨_, _, S6.unsuite okI, q6⟩
        | false =>
          show wpAny _ Y.A (handleBy (.ref ae) Y.env hs3) _ _ _
          exact ih (hno rfl)
      | @named x n i c ts b0 su np ps hs3 l3 hN hi hk1 hc hsu r ih =>
        intro ⟨b, hb1, hyes, hno⟩
        refine wpAny_handleBy_cons (codeAny_handlers_test (asks hc ((looks hb1).here ?_))) (by intro q; cases q)
        cases b with
        | true =>
          refine codeAny_handlers_suite_as (HandSPX.lands_againZ fl3 fun h4 fl4 up4 => ?_)
          have J4 : Inv Y pins σx Hx { sx with heap := h4 } := J.landed nb fl4.1 ((up.trans up3).trans up4) os ag
          obtain ⟨o4, v4, he4, hz4, hd4⟩ := fl4.there
          refine store_ok (X := Y.suite ae ((ae, o4) :: (Y.pn ++ pins))) (v := .ref ae) (J4.suite he4 hd4 na nL nF) hN hi (.inl hk1) rfl (fun s5 S5 => ?_) (.inr hk1)
          refine wpAny_mono ((hsu ae o4 cls d (Y.pn ++ pins) hz4 ⟨_, hd4⟩).run [] s5 _ Hx _ S5 (hyes rfl ae na)) (fun f s6 z6 => ?_) (fun _ _ z => False.elim z)
          have last : ∀ {σ6 : L2.St} {H6 : Hp} {Q : Shared → Prop}, Inv (Y.suite ae ((ae, o4) :: (Y.pn ++ pins))) [] σ6 H6 s6 → (∀ s7, Inv Y pins (σ6.set i none) H6 s7 → Q s7) →
              wpAny (model Y.prog Y.w) Y.A (do bindName Y.env n .none; unbindBehindTheSuite Y.env n ps) (fun _ s7 => Q s7) Y.xe s6 := fun {σ6 H6 Q} S6 hq => gone_ok (S6.unsuite okI) hN hi hk1 hq
          cases f with
          | next =>
            obtain ⟨σ6, H6, S6, q6⟩ := z6
            exact last S6 fun s7 J7 => ⟨_, _, J7, q6⟩
          | brk =>
            obtain ⟨σ6, H6, S6, q6⟩ := z6
            exact last S6 fun s7 J7 => ⟨_, _, J7, q6⟩
          | cont =>
            obtain ⟨σ6, H6, S6, q6⟩ := z6
            exact last S6 fun s7 J7 => ⟨_, _, J7, q6⟩
          | ret u =>
            obtain ⟨v6, σ6, H6, S6, r6, q6⟩ := z6
            exact last S6 fun s7 J7 => ⟨_, _, _, J7, r6, q6⟩
        | false =>
          show wpAny _ Y.A (handleBy (.ref ae) Y.env hs3) _ _ _
          exact ih (hno rfl)
    exact go hh w
  · cases f with
    | next =>
      obtain ⟨σ2, H2, J2, q⟩ := done
      exact wpAny_execs_nil ⟨σ2, H2, J2.ofTry okI, q⟩
    | brk =>
      obtain ⟨σ2, H2, J2, q⟩ := done
      exact ⟨σ2, H2, J2.ofTry okI, q⟩
    | cont =>
      obtain ⟨σ2, H2, J2, q⟩ := done
      exact ⟨σ2, H2, J2.ofTry okI, q⟩
    | ret u =>
      obtain ⟨v, σ2, H2, J2, r, q⟩ := done
      exact ⟨v, σ2, H2, J2.ofTry okI, r, q⟩
end
section
open LamX
def tActE (W : WX) (f c' : Addr) (q : Str) (tl : XK → Hp → VK → Prop) : TE := fun σ H Q => ∃ E : XK, (∀ cls d H', E cls d H' → W cls d σ H') ∧ σ[0]? = some (some (.ref f)) ∧ H c' = some (CodeO c' q) ∧ tl E H Q
theorem pe_actE {X : Cx} {W : WX} {f c' : Addr} {q a : Str} {tl : XK → Hp → VK → Prop} {p1 p2 : Pos}
    (h : ∀ (E : XK) (p1 p2 : Pos), PE X (.Call (.Name a p1) [] [] p2) (fun σ1 H1 Q => (∀ cls d H', E cls d H' → W cls d σ1 H') ∧ σ1[0]? = some (some (.ref f)) ∧ H1 c' = some (CodeO c' q) ∧ tl E H1 Q)) :
    PE X (.Call (.Name a p1) [] [] p2) (tActE W f c' q tl) := by
  refine ⟨fun pins s σ H Q I ⟨E, hW, h1, h2, h3⟩ => ?_⟩
  exact (h E p1 p2).run pins s σ H Q I ⟨hW, h1, h2, h3⟩
end
theorem go_named {c : Value} {i : Nat} {ts : Addr → Value → Option Addr → TS} {a : Addr} {cls : Value} {d : Option Addr} {D : Ends} {σ : L2.St} {H : Hp} (h : ts a cls d (endN i D) (σ.set i (some (.ref a))) H) : goN ⟨c, some i, ts⟩ a cls d D σ H := h
theorem go_bare {c : Value} {ts : Addr → Value → Option Addr → TS} {a : Addr} {cls : Value} {d : Option Addr} {D : Ends} {σ : L2.St} {H : Hp} (h : ts a cls d D σ H) : goN ⟨c, none, ts⟩ a cls d D σ H := h
theorem e_end {i : Nat} {n b c : L2.St → Hp → Prop} {r : VK} {σ : L2.St} {H : Hp} (q : n (σ.set i none) H) : (endN i ⟨n, r, b, c⟩).nx σ H := q
theorem e_endr {i : Nat} {n b c : L2.St → Hp → Prop} {r : VK} {v : V} {H : Hp} (q : r v H) : (endN i ⟨n, r, b, c⟩).rt v H := q
/-- a try that nothing leaves but by its clauses -/
theorem w_yes {K : PySem.W.Frag} {Wo : WX} {D : Ends} {q : Cl} {r : List Cl} {cls : Value} {d : Option Addr} {σ : L2.St} {H : Hp} (e : PySem.W.exmOne K cls q.c = some true) (h : ∀ a, H a = none → goN q a cls d D σ H) : wCls K Wo D (q :: r) cls d σ H :=
  ⟨true, e, fun _ => h, fun z => absurd z.symm Bool.false_ne_true⟩
theorem w_no {K : PySem.W.Frag} {Wo : WX} {D : Ends} {q : Cl} {r : List Cl} {cls : Value} {d : Option Addr} {σ : L2.St} {H : Hp} (e : PySem.W.exmOne K cls q.c = some false) (h : wCls K Wo D r cls d σ H) : wCls K Wo D (q :: r) cls d σ H :=
  ⟨false, e, fun z => absurd z Bool.false_ne_true, fun _ => h⟩
end Ls
end

section
set_option Elab.async false
set_option linter.all false
set_option maxRecDepth 100000
set_option maxHeartbeats 4000000
namespace Ls
open PySem PySem.Spec PyProof.Rows L2 SX LamX
/-- what is new -/
def nw (H H' : Hp) : Hp := fun a => match H a with
  | some _ => none
  | none => match H' a with
    | some (.tbl _) => none
    | o => o
section
variable {H H1 H2 : Hp} {a p : Addr} {o : HO}
theorem nw_some (h : nw H H1 a = some o) : H a = none ∧ H1 a = some o ∧ ∀ ps, o ≠ .tbl ps := by
  unfold nw at h
  split at h
  · cases h
  · rename_i n
    split at h
    · cases h
    · rename_i z
      exact ⟨n, h, fun ps e => by subst e; exact z ps h⟩
theorem nw_of (n : H a = none) (h : H1 a = some o) (z : ∀ ps, o ≠ .tbl ps) : nw H H1 a = some o := by
  unfold nw
  rw [n]
  dsimp only
  rw [h]
  split
  · rename_i ps e
    exact absurd (Option.some.inj e) (z ps)
  · rfl
theorem nw_ex : Ex (nw H H1) H1 := fun _ _ h => (nw_some h).2.1
theorem nw_on (e : Ex H1 H2) : Ex (nw H H1) (nw H H2) := fun a o h => let ⟨n, h1, z⟩ := nw_some h; nw_of n (e a o h1) z
theorem nw_back (e : Ex H H1) : Ex (nw H1 H2) (nw H H2) := fun a o h => let ⟨n, h1, z⟩ := nw_some h; nw_of (e.back n) h1 z
theorem nw_em (hp : H p ≠ none) (e : Em p H1 H2) : Ex (nw H H1) (nw H H2) := fun a o h => let ⟨n, h1, z⟩ := nw_some h; nw_of n (e a o (fun q => hp (q ▸ n)) h1) z
theorem nw_mo (hp : H p ≠ none) : Ex (nw H H1) (mo H1 p) := fun a o h => let ⟨n, h1, z⟩ := nw_some h; mo_of (fun q => hp (q ▸ n)) h1 z
theorem nw_eo (hp : H p ≠ none) (e : Eo p H1 H2) : Ex (nw H H1) (nw H H2) := fun a o h => by
  obtain ⟨n, h1, z⟩ := nw_some h
  exact nw_of n (mo_some (e a o (mo_of (fun q => hp (q ▸ n)) h1 z))).2.1 z
theorem Pt.is (h : Pt H p) : H p ≠ none := let ⟨_, _, e, _⟩ := h; by rw [e]; exact fun z => nomatch z
end
/-- an expression that makes the datum d, of new objects -/
def Lit (K : PySem.W.Frag) (te : TE) (d : PyData) : Prop := ∀ (σ : L2.St) (H : Hp) (Q : VK), (∀ v H', Ex H H' → Dt K (nw H H') v d → Q v H') → te σ H Q
def LitA (K : PySem.W.Frag) (ta : TA) (ds : List PyData) : Prop := ∀ (σ : L2.St) (H : Hp) (Q : List V → Hp → Prop), (∀ vs H', Ex H H' → DtAll K (nw H H') vs ds → Q vs H') → ta σ H Q
section
variable {K : PySem.W.Frag} {te : TE} {ta : TA} {d : PyData} {ds : List PyData}
theorem lit_non : Lit K (tC .non) .none := fun _ H _ q => q _ H (Ex.refl H) .non
theorem lit_bl {b : Bool} : Lit K (tC (.bl b)) (.bool b) := fun _ H _ q => q _ H (Ex.refl H) (.bl b)
theorem lit_int {i : Int} : Lit K (tC (.int i)) (.int i) := fun _ H _ q => q _ H (Ex.refl H) (.int i)
theorem lit_str {x : Str} : Lit K (tC (.str x)) (.str x) := fun _ H _ q => q _ H (Ex.refl H) (.str x)
theorem lit_neg {i : Int} : Lit K (tUn rNeg (tC (.int i))) (.int (-i)) := fun _ H _ q => ⟨i, rfl, q _ H (Ex.refl H) (.int _)⟩
theorem lit_nil : LitA K tNil [] := fun _ H _ q => q [] H (Ex.refl H) .nil
theorem lit_cons (h : Lit K te d) (h2 : LitA K ta ds) : LitA K (tCons te ta) (d :: ds) := fun σ H Q q =>
  h σ H _ fun v H1 e1 d1 => h2 σ H1 _ fun vs H2 e2 d2 => q (v :: vs) H2 (e1.trans e2) (.cons (d1.mono (nw_on e2)) (d2.mono (nw_back e1)))
theorem lit_tup (h : LitA K ta ds) (hz : ds.length ≤ 1000) : Lit K (tTup ta) (.tuple ds) := fun σ H Q q =>
  h σ H _ fun vs H1 e1 d1 => ⟨Nat.le_trans (by rw [d1.length]; exact hz) (by decide), fun a n => q _ _ (e1.trans (Ex.new n)) (.tup (.of (nw_of (e1.back n) upd_same fun _ z => nomatch z)) (d1.mono (nw_on (Ex.new n))))⟩
theorem lit_lst (h : LitA K ta ds) (hz : ds.length ≤ 1000) : Lit K (tLstN ta) (.list ds) := fun σ H Q q =>
  h σ H _ fun vs H1 e1 d1 => ⟨Nat.le_trans (by rw [d1.length]; exact hz) (by decide), fun a n _ => q _ _ (e1.trans (Ex.new n)) (.lst (.of (nw_of (e1.back n) upd_same fun _ z => nomatch z)) (d1.mono (nw_on (Ex.new n))))⟩
theorem lit_dn : Lit K tDNewK (.dict []) := fun σ H Q q => r_dn fun a H1 n e h => q _ _ e (.dct (kvs := []) (ds := []) (.inl (nw_of n h fun _ z => nomatch z)) .nil)
theorem lit_d1 {i j : Int} : Lit K (tDisp [(tC (.int i), tC (.int j))]) (.dict [(.int i, .int j)]) := fun σ H Q q => r_d1 fun a H1 n e h =>
  q _ _ e (.dct (kvs := [(.inl i, .int j)]) (ds := [.int j]) (.inl (nw_of n h fun _ z => nomatch z)) (.cons (.int j) .nil))
theorem r_d1s {σ : L2.St} {H : Hp} {Q : VK} {x : Str} {j : Int} (q : ∀ p H', H p = none → Ex H H' → H' p = some (.dK [(.inr x, .int j)]) → Q (.ref p) H') : tDisp [(tC (.str x), tC (.int j))] σ H Q := fun p n => by
  unfold tPairs
  refine ⟨upd_same, [(.inr x, .int j)], rfl, by simp, ?_⟩
  refine q p _ n (fun a o e => ?_) upd_same
  rw [upd_ne (ne_of_none e n), upd_ne (ne_of_none e n)]
  exact e
theorem lit_d1s {x : Str} {j : Int} : Lit K (tDisp [(tC (.str x), tC (.int j))]) (.dict [(.str x, .int j)]) := fun σ H Q q => r_d1s fun a H1 n e h =>
  q _ _ e (.dct (kvs := [(.inr x, .int j)]) (ds := [.int j]) (.inl (nw_of n h fun _ z => nomatch z)) (.cons (.int j) .nil))
/-- the display of a list, made -/
theorem lits {σ : L2.St} {H : Hp} {Q : VK} (h : LitA K ta ds) (hz : ds.length ≤ 1000) (q : ∀ a vs H', H a = none → Ex H H' → H' a = some (.lst vs) → DtAll K (nw H H') vs ds → Q (.ref a) H') : tLstN ta σ H Q :=
  h σ H _ fun vs H1 e1 d1 => ⟨Nat.le_trans (by rw [d1.length]; exact hz) (by decide), fun a n _ => q a vs _ (e1.back n) (e1.trans (Ex.new n)) upd_same (d1.mono (nw_on (Ex.new n)))⟩
/-- one goal for two ways -/
theorem cut {σ : L2.St} {H : Hp} {Q : VK} (P : V → Hp → Prop) (h : ∀ Q', (∀ v H', P v H' → Q' v H') → te σ H Q') (k : ∀ v H', P v H' → Q v H') : te σ H Q := h Q k
theorem cutS {ts : TS} {D : Ends} {σ : L2.St} {H : Hp} (P : L2.St → Hp → Prop) (h : ∀ N : L2.St → Hp → Prop, (∀ σ' H', P σ' H' → N σ' H') → ts { D with nx := N } σ H) (k : ∀ σ' H', P σ' H' → D.nx σ' H') : ts D σ H := h D.nx k
end
theorem DtAll.mem {K : PySem.W.Frag} {H : Hp} : ∀ {vs : List V} {ds : List PyData}, DtAll K H vs ds → ∀ {v : V}, v ∈ vs → ∃ d, d ∈ ds ∧ Dt K H v d
  | _, _, .cons a b, v, h => by
    rcases List.mem_cons.mp h with rfl | h
    · exact ⟨_, List.mem_cons_self, a⟩
    · obtain ⟨d, h1, h2⟩ := b.mem h
      exact ⟨d, List.mem_cons_of_mem _ h1, h2⟩
/-- bounds, looked at -/
def bdB (b k : Nat) (d : PyData) : Bool := (shW d && decide (d.shown.length ≤ b)) && (decide (d.depth ≤ k) && inD d)
theorem bdB_ok {b k : Nat} {d : PyData} (h : bdB b k d = true) : Bd b k d := by
  unfold bdB at h
  simp only [Bool.and_eq_true, decide_eq_true_eq] at h
  exact ⟨h.1.1, h.1.2, h.2.1, h.2.2⟩
/-- what a def picks from a list of written things: of the kind g -/
def sp_pickD (K : PySem.W.Frag) (g : PyData → Bool) : Sp := fun vs H Q _ => ∃ p : Addr, vs = [.ref p] ∧ Pt H p ∧ ∀ v d H', Dt K (nw H H') v d → g d = true → Pt H' p → Em p H H' → Q v H'
end Ls
end

section
set_option Elab.async false
set_option linter.all false
set_option maxRecDepth 100000
set_option maxHeartbeats 4000000
namespace Ls
open PySem PySem.Spec PyProof.Rows L2 SX LamX
theorem szI_21 {i : Int} (h : i.natAbs ≤ 10 ^ 21) : szI i ≤ 23 := by
  rw [intL_len]
  have := TL.numL_len (n := i.natAbs) (k := 22) (by decide) (Nat.lt_of_le_of_lt h (by decide))
  unfold intL
  split
  · rw [List.length_cons]; omega
  · omega
def lvSz : Nat → Int
  | 0 => 23
  | m + 1 => 1 + 4 * lvSz m
theorem lvSz_pos : ∀ m, 23 ≤ lvSz m
  | 0 => by decide
  | m + 1 => by
    have := lvSz_pos m
    rw [lvSz]
    omega
theorem szL_le {c : Int} (hc : 0 ≤ c) : ∀ {ds : List PyData} {n : Nat}, (∀ e ∈ ds, szD e ≤ c) → ds.length ≤ n → szL ds ≤ (n : Int) * c
  | [], n, _, _ => by rw [szL]; exact Int.mul_nonneg (by omega) hc
  | d :: ds, 0, _, hn => by simp at hn
  | d :: ds, n + 1, h, hn => by
    have h1 := h d List.mem_cons_self
    have h2 := szL_le hc (ds := ds) (n := n) (fun e he => h e (List.mem_cons_of_mem _ he)) (by simpa using hn)
    rw [szL, show ((n + 1 : Nat) : Int) * c = (n : Int) * c + c by rw [Int.natCast_add, Int.add_mul]; simp]
    omega
theorem nsL_ofE : ∀ {ds : List PyData}, (∀ e ∈ ds, nsD e = true) → nsL ds = true
  | [], _ => rfl
  | d :: ds, h => by rw [nsL, h d List.mem_cons_self, nsL_ofE fun e he => h e (List.mem_cons_of_mem _ he)]; rfl
theorem lv_ns : ∀ {m : Nat} {d : PyData}, lv m d → nsD d = true ∧ szD d ≤ lvSz m
  | 0, d, .inl ⟨i, e, h⟩ => by subst e; exact ⟨rfl, by rw [szD]; exact szI_21 h⟩
  | 0, d, .inr e => by subst e; exact ⟨rfl, by decide⟩
  | m + 1, d, .inl ⟨i, e, h⟩ => by subst e; exact ⟨rfl, by rw [szD]; exact Int.le_trans (szI_21 h) (lvSz_pos _)⟩
  | m + 1, d, .inr ⟨ds, e, hl, h⟩ => by
    subst e
    refine ⟨?_, ?_⟩
    · rw [nsD, nsL_ofE fun e he => (lv_ns (h e he)).1, decide_eq_true (by omega : ds.length ≤ 40)]
      rfl
    · rw [szD, lvSz]
      have := szL_le (c := lvSz m) (by have := lvSz_pos m; omega) (fun e he => (lv_ns (h e he)).2) hl
      omega
theorem lv2_V {d : PyData} (h : lv 2 d) : isV d = true := by
  obtain ⟨h1, h2⟩ := lv_ns h
  have hb := (lv_bd h).1.dep
  have ht := tdp_dep d
  have h3 : szD d ≤ 373 := h2
  unfold isV isD
  rw [h1, decide_eq_true (by omega : (tdp d : Int) ≤ 4), decide_eq_true (by omega : szD d ≤ 1000), Bool.and_true, Bool.and_true, Bool.or_true]
/-- what the law gives a function -/
def goodD (d : PyData) : Prop := lv 2 d ∨ d = .str (Str.ofString "fault") ∨ d = .int 1
theorem good_V {d : PyData} (h : goodD d) : isV d = true := by
  rcases h with h | rfl | rfl
  · exact lv2_V h
  · decide +kernel
  · decide +kernel
theorem good_bd {d : PyData} (h : goodD d) : Bd 695 3 d := by
  rcases h with h | rfl | rfl
  · exact (lv_bd h).1
  · exact bdB_ok (by decide +kernel)
  · exact bdB_ok (by decide +kernel)
theorem bd_ask {b k : Nat} {d : PyData} (h : Bd b k d) (hk : k ≤ 9) : smD d = true ∧ tdp d < 10 := ⟨in_sm d h.inn, by have := tdp_dep d; have := h.dep; omega⟩
theorem FlAll.dtA {K : PySem.W.Frag} {H : Hp} : ∀ {vs : List V} {ds : List PyData}, FlAll K H vs ds → DtAll K H vs ds
  | _, _, .nil => .nil
  | _, _, .cons a b => .cons a.dt b.dtA
theorem DtAll.set {K : PySem.W.Frag} {H : Hp} {v : V} {d : PyData} (hv : Dt K H v d) : ∀ {vs : List V} {ds : List PyData}, DtAll K H vs ds → ∀ j, DtAll K H (vs.set j v) (ds.set j d)
  | _, _, .nil, _ => .nil
  | _, _, .cons a b, 0 => .cons hv b
  | _, _, .cons a b, j + 1 => .cons a (b.set hv j)
theorem DtAll.at {K : PySem.W.Frag} {H : Hp} : ∀ {vs : List V} {ds : List PyData}, DtAll K H vs ds → ∀ {j : Nat} {v : V}, vs[j]? = some v → ∃ d, ds[j]? = some d ∧ Dt K H v d
  | _, _, .nil, j, v, h => by simp at h
  | _, _, .cons (v := u) (d := e) a b, 0, v, h => by
    have : u = v := by simpa using h
    subst this
    exact ⟨e, rfl, a⟩
  | _, _, .cons a b, j + 1, v, h => by
    obtain ⟨d, h1, h2⟩ := b.at (j := j) (v := v) (by simpa using h)
    exact ⟨d, by simpa using h1, h2⟩
theorem two_bad {ys : List V} {ds : List PyData} {w1 w2 : V} {d1 d2 : PyData} {a t : Nat} (ha : a < ys.length) (ht : t < ys.length) (hl : ds.length = ys.length) (hV : ∀ e ∈ ds, isV e = true) (b1 : isV d1 = false) (b2 : isV d2 = false) :
    firstBad ((ds.set a d1).set t d2) = some (if t < a then t else a) ∧ ∃ w, ((ys.set a w1).set t w2)[if t < a then t else a]? = some w := by
  by_cases c : t < a
  · rw [if_pos c]
    refine ⟨firstBad_at (d := d2) (fun e he => ?_) (by rw [List.getElem?_set_self (by rw [List.length_set]; omega)]) b2, w2, by rw [List.getElem?_set_self (by rw [List.length_set]; omega)]⟩
    rw [List.take_set_of_le (Nat.le_refl t), List.take_set_of_le (by omega)] at he
    exact hV e (List.mem_of_mem_take he)
  · rw [if_neg c]
    by_cases q : a = t
    · subst q
      refine ⟨firstBad_at (d := d2) (fun e he => ?_) (by rw [List.getElem?_set_self (by rw [List.length_set]; omega)]) b2, w2, by rw [List.getElem?_set_self (by rw [List.length_set]; omega)]⟩
      rw [List.take_set_of_le (Nat.le_refl a), List.take_set_of_le (Nat.le_refl a)] at he
      exact hV e (List.mem_of_mem_take he)
    · refine ⟨firstBad_at (d := d1) (fun e he => ?_) (by rw [List.getElem?_set_ne (fun z => q z.symm), List.getElem?_set_self (by omega)]) b1, w1, by rw [List.getElem?_set_ne (fun z => q z.symm), List.getElem?_set_self (by omega)]⟩
      rw [List.take_set_of_le (by omega : a ≤ t), List.take_set_of_le (Nat.le_refl a)] at he
      exact hV e (List.mem_of_mem_take he)
theorem eo_late {p l : Addr} {H1 H2 H3 : Hp} (n : H1 l = none) (e : Eo p H1 H2) (f : Em l H2 H3) : Eo p H1 H3 := fun a o h => by
  obtain ⟨n1, h1, z⟩ := mo_some h
  exact mo_of n1 (f _ _ (ne_of_none h1 n) (mo_some (e a o h)).2.1) z
theorem min_nat {a t : Nat} : (if (t : Int) < (a : Int) then (t : Int) else (a : Int)) = ((if t < a then t else a : Nat) : Int) := by
  by_cases c : t < a
  · rw [if_pos c, if_pos (by omega)]
  · rw [if_neg c, if_neg (by omega)]
/-- what is due of a call -/
def due2 (d : PyData) (ds : List PyData) : PyData := match fnD d with
  | none => .list [.str (Str.ofString "no word"), d, .bool true]
  | some f => match firstBad ds with
    | some j => .list [.str (Str.ofString "worth"), ds.getD j .none, .bool true]
    | none => .list [.str (Str.ofString "told"), f.app ds]
theorem due2_n {d : PyData} {ds : List PyData} (h : fnD d = none) : due2 d ds = .list [.str (Str.ofString "no word"), d, .bool true] := by unfold due2; rw [h]
theorem due2_w {d e : PyData} {ds : List PyData} {f : Fn} {j : Nat} (h : fnD d = some f) (b : firstBad ds = some j) (he : ds[j]? = some e) : due2 d ds = .list [.str (Str.ofString "worth"), e, .bool true] := by
  unfold due2
  rw [h]
  dsimp only
  rw [b]
  dsimp only
  rw [List.getD_eq_getElem?_getD, he]
  rfl
theorem due2_t {d : PyData} {ds : List PyData} {f : Fn} (h : fnD d = some f) (b : ds.all isV = true) : due2 d ds = .list [.str (Str.ofString "told"), f.app ds] := by
  unfold due2
  rw [h]
  dsimp only
  rw [firstBad_all b]
/-- a list that tells of a call: at r -/
def Told2 (K : PySem.W.Frag) (v : V) (d : PyData) (xs : List V) (ds : List PyData) (r : Addr) (H : Hp) : Prop :=
  (fnD d = none ∧ H r = some (.lst [.str (Str.ofString "no word"), v, .bl true])) ∨
  (∃ f j w, fnD d = some f ∧ firstBad ds = some j ∧ xs[j]? = some w ∧ H r = some (.lst [.str (Str.ofString "worth"), w, .bl true])) ∨
  (∃ f x, fnD d = some f ∧ ds.all isV = true ∧ Fl K H x (f.app ds) ∧ H r = some (.lst [.str (Str.ofString "told"), x]))
theorem Told2.dt {K : PySem.W.Frag} {v : V} {d : PyData} {xs : List V} {ds : List PyData} {r : Addr} {H : Hp} (h : Told2 K v d xs ds r H) (hv : Dt K H v d) (hx : DtAll K H xs ds) : Dt K H (.ref r) (due2 d ds) := by
  rcases h with ⟨hf, h⟩ | ⟨f, j, w, hf, hb, hw, h⟩ | ⟨f, x, hf, hb, hF, h⟩
  · rw [due2_n hf]
    exact .lst (.of h) (.cons (.str _) (.cons hv (.cons (.bl _) .nil)))
  · obtain ⟨e, he, hd⟩ := hx.at hw
    rw [due2_w hf hb he]
    exact .lst (.of h) (.cons (.str _) (.cons hd (.cons (.bl _) .nil)))
  · rw [due2_t hf hb]
    exact .lst (.of h) (.cons (.str _) (.cons hF.dt .nil))
theorem Told2.fst {K : PySem.W.Frag} {v : V} {d : PyData} {xs : List V} {ds : List PyData} {r : Addr} {H : Hp} (h : Told2 K v d xs ds r H) : ∃ z ys, H r = some (.lst (.str z :: ys)) := by
  rcases h with ⟨_, h⟩ | ⟨_, _, _, _, _, _, h⟩ | ⟨_, _, _, _, _, h⟩ <;> exact ⟨_, _, h⟩
theorem Told2.on {K : PySem.W.Frag} {v : V} {d : PyData} {xs : List V} {ds : List PyData} {r : Addr} {H H' : Hp} (h : Told2 K v d xs ds r H) (e : ∀ ys, H r = some (.lst ys) → H' r = some (.lst ys)) (t : Et H H') : Told2 K v d xs ds r H' := by
  rcases h with ⟨hf, h⟩ | ⟨f, j, w, hf, hb, hw, h⟩ | ⟨f, x, hf, hb, hF, h⟩
  · exact .inl ⟨hf, e _ h⟩
  · exact .inr (.inl ⟨f, j, w, hf, hb, hw, e _ h⟩)
  · exact .inr (.inr ⟨f, x, hf, hb, hF.mono t, e _ h⟩)
theorem due2_bd {d : PyData} {ds : List PyData} (hd : Bd 40 3 d) (hs : ∀ e ∈ ds, Bd 695 3 e) (ht : ∀ f, fnD d = some f → ds.all isV = true → f.app ds = faultD) : Bd 2094 4 (due2 d ds) := by
  cases hf : fnD d with
  | none =>
    rw [due2_n hf]
    refine Bd.lst (b := 695) (k := 3) (n := 3) (fun e he => ?_) (by simp)
    simp only [List.mem_cons, List.not_mem_nil, or_false] at he
    rcases he with rfl | rfl | rfl
    · exact bdB_ok (by decide +kernel)
    · exact hd.mono (by decide) (by decide)
    · exact bdB_ok (by decide +kernel)
  | some f =>
    cases hb : firstBad ds with
    | none =>
      have ha := firstBad_none hb
      rw [due2_t hf ha, ht f hf ha]
      exact bdB_ok (by decide +kernel)
    | some j =>
      unfold due2
      rw [hf]
      dsimp only
      rw [hb]
      dsimp only
      refine Bd.lst (b := 695) (k := 3) (n := 3) (fun e he => ?_) (by simp)
      simp only [List.mem_cons, List.not_mem_nil, or_false] at he
      rcases he with rfl | rfl | rfl
      · exact bdB_ok (by decide +kernel)
      · rw [List.getD_eq_getElem?_getD]
        cases hj : ds[j]? with
        | none => exact bdB_ok (by decide +kernel)
        | some e => exact hs e (List.mem_of_getElem? hj)
      · exact bdB_ok (by decide +kernel)
theorem rq2 {b k : Nat} {d : PyData} (h : Bd b k d) (hb : b ≤ 49000) (hk : k ≤ 9) : Rq (.list [d, d]) :=
  (Bd.lst (b := b) (k := k) (n := 2) (fun e he => by
    simp only [List.mem_cons, List.not_mem_nil, or_false] at he
    rcases he with rfl | rfl <;> exact h) (by simp)).rq (by omega) (by omega)
theorem ix_nat {k j : Nat} (hk : j < k) : ixN k (Int.ofNat j) = some j := by
  have h : ((j : Nat) : Int) < (k : Int) := Int.ofNat_lt.mpr hk
  have z : (0 : Int) ≤ ((j : Nat) : Int) := Int.natCast_nonneg j
  show (if (0 : Int) ≤ ((j : Nat) : Int) then (if ((j : Nat) : Int) < (k : Int) then some ((j : Nat) : Int).toNat else none) else _) = some j
  rw [if_pos z, if_pos h, Int.toNat_natCast]
theorem eo_et {p : Addr} {H H' : Hp} (hP : Pt H p) (e : Eo p H H') : Et H H' := by
  have key : ∀ a o, H a = some o → (∀ ys, o ≠ .lst ys) → (∀ ps, o ≠ .tbl ps) → H' a = some o := fun a o h n z =>
    (mo_some (e a o (mo_of (fun q => by
      obtain ⟨_, _, hp, _⟩ := hP
      rw [q, hp] at h
      exact n _ (Option.some.inj h).symm) h z))).2.1
  exact ⟨fun a xs h => key a _ h (fun _ q => nomatch q) (fun _ q => nomatch q), fun a o xs h => key a _ h (fun _ q => nomatch q) (fun _ q => nomatch q)⟩
end Ls
end

section
set_option Elab.async false
set_option linter.all false
set_option maxRecDepth 100000
set_option maxHeartbeats 4000000
namespace Ls
open PySem PySem.Spec PyProof.Rows L2 SX LamX
mutual
/-- integers of at most 4300 digits, and tuples of at most thirty thousand such things -/
def gwD : PyData → Bool
  | .int i => decide (i.natAbs < DL)
  | .tuple ds => decide (ds.length ≤ 30000) && gwL ds
  | _ => false
def gwL : List PyData → Bool
  | [] => true
  | d :: ds => gwD d && gwL ds
end
theorem gwL_mem : ∀ {ds : List PyData}, gwL ds = true → ∀ {d : PyData}, d ∈ ds → gwD d = true
  | d' :: ds, h, d, hd => by
    rw [gwL, Bool.and_eq_true] at h
    exact (List.mem_cons.mp hd).elim (fun z => z ▸ h.1) fun z => gwL_mem h.2 z
theorem gwL_of : ∀ {ds : List PyData}, (∀ d, d ∈ ds → gwD d = true) → gwL ds = true
  | [], _ => rfl
  | d :: ds, h => by rw [gwL, gwL_of fun e he => h e (List.mem_cons_of_mem _ he), Bool.and_true]; exact h d List.mem_cons_self
mutual
theorem gw_lay : ∀ d : PyData, gwD d = true → PyData.canLay0 d = true ∧ PyData.depth d = tdp d ∧ smD d = true
  | .int i, h => ⟨rfl, rfl, h⟩
  | .tuple ds, h => by
    rw [gwD, Bool.and_eq_true] at h
    obtain ⟨a, b, c⟩ := gwL_lay ds h.2
    exact ⟨by rw [PyData.canLay0]; exact a, by rw [PyData.depth, tdp, b]; omega, by rw [smD]; exact c⟩
  | .none, h => by simp [gwD] at h
  | .bool _, h => by simp [gwD] at h
  | .str _, h => by simp [gwD] at h
  | .list _, h => by simp [gwD] at h
  | .dict _, h => by simp [gwD] at h
theorem gwL_lay : ∀ d : List PyData, gwL d = true → PyData.canLayAll0 d = true ∧ PyData.depthAll d = tdpL d ∧ smL d = true
  | [], _ => ⟨rfl, rfl, rfl⟩
  | d :: ds, h => by
    rw [gwL, Bool.and_eq_true] at h
    obtain ⟨a, b, c⟩ := gw_lay d h.1
    obtain ⟨a2, b2, c2⟩ := gwL_lay ds h.2
    exact ⟨by rw [PyData.canLayAll0, a, a2]; rfl, by rw [PyData.depthAll, tdpL, b, b2], by rw [smL, c, c2]; rfl⟩
end
theorem gw_shaped {d : PyData} (h : gwD d = true) (ht : tdp d ≤ 60) : SeqAt.shaped d = true := by
  obtain ⟨a, b, _⟩ := gw_lay d h
  unfold SeqAt.shaped
  rw [a, Bool.true_and, decide_eq_true_eq]
  omega
theorem y_eqFaultW {K : PySem.W.Frag} {H : Hp} {Q : VK} {x : V} {d : PyData} (h : Fl K H x d) (hg : gwD d = true) (ht : tdp d ≤ 60) (q : Q (.bl false) H) : rEqU K x (.str (Str.ofString "fault")) H Q := by
  refine y_eqD h.dp (.str _) (gw_shaped hg ht) fault_shaped ?_
  cases d <;> first | exact q | simp [gwD] at hg
mutual
/-- what is a datum fits -/
theorem ns_ft : ∀ d : PyData, nsD d = true → tdp d ≤ 4 → szD d ≤ 1000 → ftD d = true
  | .int i, _, _, h => by rw [szD] at h; rw [ftD, decide_eq_true_eq]; exact h
  | .tuple ds, h, ht, hz => by
    rw [nsD, Bool.and_eq_true] at h
    rw [tdp] at ht
    rw [szD] at hz
    rw [ftD, h.1, nsL_ft ds h.2 (by omega) (by omega), decide_eq_true (by omega : tdpL ds ≤ 3), decide_eq_true hz]
    rfl
  | .none, h, _, _ => by simp [nsD] at h
  | .bool _, h, _, _ => by simp [nsD] at h
  | .str _, h, _, _ => by simp [nsD] at h
  | .list _, h, _, _ => by simp [nsD] at h
  | .dict _, h, _, _ => by simp [nsD] at h
theorem nsL_ft : ∀ ds : List PyData, nsL ds = true → tdpL ds ≤ 4 → szL ds ≤ 1000 → ftL ds = true
  | [], _, _, _ => rfl
  | d :: ds, h, ht, hz => by
    rw [nsL, Bool.and_eq_true] at h
    rw [tdpL] at ht
    rw [szL] at hz
    have h1 := szD_pos d h.1
    have h2 := szL_nn ds h.2
    rw [ftL, ns_ft d h.1 (by omega) (by omega), nsL_ft ds h.2 (by omega) (by omega)]
    rfl
end
theorem ft_eq (d : PyData) : ftD d = isD d := by
  cases h : isD d with
  | true =>
    unfold isD at h
    simp only [Bool.and_eq_true, decide_eq_true_eq] at h
    exact ns_ft d h.1 (by omega) h.2.2
  | false =>
    cases g : ftD d with
    | false => rfl
    | true => rw [ft_is g] at h; cases h
def sp_lsizeW (K : PySem.W.Frag) (n : Nat) : Sp := fun vs H Q _ => ∃ v d, vs = [v] ∧ Fl K H v d ∧ (isF d || gwD d) = true ∧ tdp d < n ∧ tdp d ≤ 60 ∧ ∀ H', Ex H H' → Q (.int (szD d)) H'
def sp_ldeepW (K : PySem.W.Frag) (n : Nat) : Sp := fun vs H Q _ => ∃ v d, vs = [v] ∧ Fl K H v d ∧ gwD d = true ∧ tdp d < n ∧ ∀ H', Ex H H' → Q (.int (tdp d : Nat)) H'
def sp_lfitsW (K : PySem.W.Frag) (n : Nat) : Sp := fun vs H Q _ => ∃ v d, vs = [v] ∧ Fl K H v d ∧ gwD d = true ∧ tdp d < n ∧ tdp d ≤ 60 ∧ ∀ H', Ex H H' → Q (.bl (ftD d)) H'
def lawRaw (f : Fn) (ds : List PyData) : PyData := if (f.lo ≤ ds.length ∧ ds.length ≤ f.hi) ∧ f.check ds = true then f.raw ds else faultD
theorem lawRaw_y {f : Fn} {ds : List PyData} (h1 : f.lo ≤ ds.length) (h2 : ds.length ≤ f.hi) (h3 : f.check ds = true) : lawRaw f ds = f.raw ds := if_pos ⟨⟨h1, h2⟩, h3⟩
theorem lawRaw_n {f : Fn} {ds : List PyData} (h : ¬ ((f.lo ≤ ds.length ∧ ds.length ≤ f.hi) ∧ f.check ds = true)) : lawRaw f ds = faultD := if_neg h
theorem fault_no : isD faultD = false := by decide +kernel
theorem app_raw (f : Fn) (ds : List PyData) : f.app ds = if isD (lawRaw f ds) = true then lawRaw f ds else faultD := by
  by_cases h1 : f.lo ≤ ds.length ∧ ds.length ≤ f.hi
  · by_cases h2 : f.check ds = true
    · rw [lawRaw_y h1.1 h1.2 h2]
      unfold Fn.app
      rw [if_pos h1, if_pos h2]
    · rw [lawRaw_n fun z => h2 z.2, fault_no]
      unfold Fn.app
      rw [if_pos h1, if_neg h2]
      rfl
  · rw [lawRaw_n fun z => h1 z.1, fault_no]
    unfold Fn.app
    rw [if_neg h1]
    rfl
theorem fl_fault {K : PySem.W.Frag} {H : Hp} : Fl K H (.str (Str.ofString "fault")) faultD := .str _
section
variable {K : PySem.W.Frag} {H : Hp} {Q : VK}
theorem y_isIntF {x : V} {d : PyData} (h : Fl K H x d) (hv : isV d = true) (q : Q (.bl (isInt d)) H) : rIsiU K [x, .ty "int"] H Q := by
  cases d with
  | str z => exact y_isi h.dt (b := false) rfl q
  | int i => exact y_isi h.dt (b := true) rfl q
  | tuple ds => exact y_isi h.dt (b := false) rfl q
  | none => exact absurd hv (by decide)
  | bool b => exact absurd hv (by cases b <;> decide)
  | list _ => cases h
  | dict _ => cases h
theorem isD_V {d : PyData} (h : isD d = true) : isV d = true := by
  unfold isV
  rw [h, Bool.or_true]
theorem k_lcFlL {σ : L2.St} {te : TE} {vs : List Nat} {a : Addr} {xs : List V} {ds : List PyData} {i0 : Nat} (f : PyData → V) (hS : SqL K H a xs) (hD : FlAll K H xs ds) (hz : xs.length ≤ 99999)
    (hs : ∀ x d H1 (Q1 : VK), d ∈ ds → Ex H H1 → Fl K H1 x d → (∀ H2, Ex H1 H2 → Q1 (f d) H2) → te ((wipe σ vs).set i0 (some x)) H1 Q1)
    (hw : ∀ x, wipe ((wipe σ vs).set i0 (some x)) vs = wipe σ vs) (q : ∀ D H2, H D = none → Ex H H2 → H2 D = some (.lst (ds.map f)) → Q (.ref D) H2) : kLc (Itl K a) (gName i0) tYes te vs σ H Q := by
  refine k_lcL (xs := xs) (fun j ys H' => Ex H H' ∧ ys = (ds.take j).map f) (fun D n => ⟨Ex.new n, rfl⟩) (fun j ys H' _ p => p.1.sl hS) (fun D j x ys H' n hx hj hl hHD p => ?_) hw fun D ys H' n hl hHD p => ?_
  · obtain ⟨e, rfl⟩ := p
    obtain ⟨d, hd, hf⟩ := hD.get hx
    refine hs x d H' _ (List.mem_of_getElem? hd) e (hf.mono e.et) fun H2 e2 => k_turn (e2 _ _ hHD) hl (by omega) ⟨Ex.putN (e.trans e2) n, ?_⟩
    rw [List.take_add_one, hd, List.map_append]
    rfl
  · obtain ⟨e, rfl⟩ := p
    refine q D H' n e ?_
    rw [hHD, hD.length, List.take_length]
end
theorem any_map {b : PyData → Bool} (ds : List PyData) : (ds.map b).any id = ds.any b := by
  rw [List.any_map]
  rfl
theorem isD_cases {d : PyData} (h : isD d = true) : isInt d = !isTup d := by
  obtain ⟨h1, _⟩ := isD_parts h
  cases d <;> first | rfl | simp [nsD] at h1
theorem no_ints {ds : List PyData} (h : ∀ d ∈ ds, isD d = true) : ds.any isInt = !ds.all isTup := by
  induction ds with
  | nil => rfl
  | cons d ds ih =>
    rw [List.any_cons, List.all_cons, ih fun e he => h e (List.mem_cons_of_mem _ he), isD_cases (h d List.mem_cons_self), Bool.not_and]
def sp_lglued (K : PySem.W.Frag) : Sp := fun vs H Q _ => ∃ g ws ds, vs = [.ref g] ∧ SqL K H g ws ∧ FlAll K H ws ds ∧ (∀ d ∈ ds, isD d = true) ∧ ws.length ≤ 100 ∧ ∀ v H', Ex H H' → Fl K H' v (lawRaw .join ds) → Q v H'
def two5 : Fn → Bool
  | .add | .sub | .mul | .div | .less => true
  | _ => false
def sp_lof2 (K : PySem.W.Frag) : Sp := fun vs H Q _ => ∃ (f : Fn) (a b : Int), vs = [.str f.nm, .int a, .int b] ∧ two5 f = true ∧ a.natAbs < 10 ^ 1000 ∧ b.natAbs < 10 ^ 1000 ∧ ∀ v, Fl K H v (lawRaw f [.int a, .int b]) → Q v H
def tup7 : Fn → Bool
  | .item | .take | .drop | .length | .sort | .total | .turn => true
  | _ => false
def sp_lofT (K : PySem.W.Frag) : Sp := fun vs H Q _ => ∃ (f : Fn) (t l : Addr) (xs ys : List V) (es rs : List PyData), vs = [.str f.nm, .ref t, .ref l] ∧ tup7 f = true ∧ SqT K H t xs ∧ FlAll K H xs es ∧ isD (.tuple es) = true ∧ SqL K H l ys ∧ FlAll K H ys rs ∧ (∀ d ∈ rs, isD d = true) ∧ ys.length ≤ 100 ∧
  ∀ v H', Ex H H' → Fl K H' v (lawRaw f (.tuple es :: rs)) → Q v H'
def sp_lraw (K : PySem.W.Frag) : Sp := fun vs H Q _ => ∃ (f : Fn) (g : Addr) (ws : List V) (ds : List PyData), vs = [.str f.nm, .ref g] ∧ SqL K H g ws ∧ FlAll K H ws ds ∧ (∀ d ∈ ds, isD d = true) ∧ ws.length ≤ 100 ∧ ∀ v H', Ex H H' → Fl K H' v (lawRaw f ds) → Q v H'
def sp_lresult (K : PySem.W.Frag) : Sp := fun vs H Q _ => ∃ (f : Fn) (g : Addr) (ws : List V) (ds : List PyData), vs = [.str f.nm, .ref g] ∧ SqL K H g ws ∧ FlAll K H ws ds ∧ (∀ d ∈ ds, isV d = true) ∧ ws.length ≤ 100 ∧ ∀ v H', Ex H H' → Fl K H' v (f.app ds) → Q v H'
theorem cnt_check (es : List PyData) (r : PyData) : canCount [.tuple es, r] = (isInt r && decide (0 ≤ toI r)) := rfl
theorem isV_nsm {es : List PyData} (h2 : nsL es = true) (h3 : 1 + szL es ≤ 1000) (h4 : 1 + tdpL es ≤ 4) {d : PyData} (hd : d ∈ es) : isV d = true := by
  have a := szL_mem h2 hd
  have b := tdp_mem hd
  refine isD_V ?_
  unfold isD
  rw [nsL_mem h2 hd, decide_eq_true (by omega : (tdp d : Int) ≤ 4), decide_eq_true (by omega : szD d ≤ 1000)]
  rfl
theorem raw_int (f : Fn) (i : Int) (dr : List PyData) (h : tup7 f = true) : ¬ f.check (.int i :: dr) = true := by
  cases f <;> first | (cases h; done) | (intro z; exact Bool.noConfusion z)
theorem cut_tail (x : V) (xs : List V) : cutV (x :: xs) (some 1) none = xs := by
  rw [show (some 1 : Option Int) = some ((1 : Nat) : Int) from rfl, cutV_drop]
  rfl
theorem min_sorted {ns r : List Int} {a : Int} (p : (a :: r).Perm ns) (s : (a :: r).Pairwise (· ≤ ·)) : minL ns = a :=
  minL_of (p.mem_iff.mp List.mem_cons_self) fun z hz => by
    rcases List.mem_cons.mp (p.mem_iff.mpr hz) with rfl | h
    · exact Int.le_refl _
    · exact (List.pairwise_cons.mp s).1 z h
theorem max_sorted {ns r : List Int} {a : Int} (p : (r ++ [a]).Perm ns) (s : (r ++ [a]).Pairwise (· ≤ ·)) : maxL ns = a :=
  maxL_of (p.mem_iff.mp (by simp)) fun z hz => by
    rcases List.mem_append.mp (p.mem_iff.mpr hz) with h | h
    · exact (List.pairwise_append.mp s).2.2 z h a (by simp)
    · rw [List.mem_singleton.mp h]; exact Int.le_refl _
theorem FlAll.dpA {K : PySem.W.Frag} {H : Hp} : ∀ {vs : List V} {ds : List PyData}, FlAll K H vs ds → DpAll K H vs ds
  | _, _, .nil => .nil
  | _, _, .cons a b => .cons a.dp b.dpA
theorem V_lay {d : PyData} (h : isV d = true) : PyData.canLay0 d = true ∧ PyData.depth d ≤ 4 := by
  unfold isV at h
  cases hf : isF d with
  | true =>
    have e := isF_inv hf
    subst e
    exact ⟨by rw [PyData.canLay0]; decide +kernel, by rw [PyData.depth]; decide⟩
  | false =>
    rw [hf, Bool.false_or] at h
    obtain ⟨a, b, _⟩ := isD_parts h
    obtain ⟨c, e⟩ := ns_lay d a
    exact ⟨c, by omega⟩
theorem VL_lay : ∀ {ds : List PyData}, (∀ d ∈ ds, isV d = true) → PyData.canLayAll0 ds = true ∧ PyData.depthAll ds ≤ 4
  | [], _ => ⟨rfl, Nat.zero_le _⟩
  | d :: ds, h => by
    obtain ⟨a, b⟩ := V_lay (h d List.mem_cons_self)
    obtain ⟨c, e⟩ := VL_lay (ds := ds) fun x hx => h x (List.mem_cons_of_mem _ hx)
    exact ⟨by rw [PyData.canLayAll0, a, c]; rfl, by rw [PyData.depthAll]; exact Nat.max_le.mpr ⟨b, e⟩⟩
theorem VL_shaped {ds : List PyData} (h : ∀ d ∈ ds, isV d = true) : SeqAt.shaped (.list ds) = true := by
  obtain ⟨a, b⟩ := VL_lay h
  unfold SeqAt.shaped
  rw [PyData.canLay0, a, Bool.true_and, decide_eq_true_eq, PyData.depth]
  omega
/-- 'fault' in a list of values -/
theorem y_inFault {K : PySem.W.Frag} {H : Hp} {Q : VK} {g : Addr} {ws : List V} {ds : List PyData} (hS : SqL K H g ws) (hF : FlAll K H ws ds) (hV : ∀ d ∈ ds, isV d = true) (q : Q (.bl (ds.any fun z => PyData.eqv z faultD)) H) : rInU K (.str (Str.ofString "fault")) (.ref g) H Q :=
  .inr (.inr ⟨faultD, ds, .str _, .lst hS hF.dpA, fault_shaped, VL_shaped hV, q⟩)
theorem eqv_fault {d : PyData} (h : isV d = true) : PyData.eqv d faultD = isF d := by
  unfold isV at h
  cases hf : isF d with
  | true =>
    have e := isF_inv hf
    subst e
    decide +kernel
  | false =>
    rw [hf, Bool.false_or] at h
    obtain ⟨a, _⟩ := isD_parts h
    cases d <;> first | rfl | simp [nsD] at a
theorem any_fault {ds : List PyData} (hV : ∀ d ∈ ds, isV d = true) : (ds.any fun z => PyData.eqv z faultD) = ds.any isF := by
  induction ds with
  | nil => rfl
  | cons d ds ih => rw [List.any_cons, List.any_cons, eqv_fault (hV d List.mem_cons_self), ih fun e he => hV e (List.mem_cons_of_mem _ he)]
theorem no_fault {ds : List PyData} (hV : ∀ d ∈ ds, isV d = true) (h : ds.any isF = false) : ∀ d ∈ ds, isD d = true := fun d hd => by
  have a := hV d hd
  unfold isV at a
  have b : isF d = false := by
    cases c : isF d with
    | false => rfl
    | true => rw [List.any_eq_true.mpr ⟨d, hd, c⟩] at h; cases h
  rw [b, Bool.false_or] at a
  exact a
theorem fault_kinds {d : PyData} (h : isF d = true) : isInt d = false ∧ isTup d = false ∧ isD d = false := by
  have e := isF_inv h
  subst e
  exact ⟨rfl, rfl, fault_no⟩
theorem all_no {b : PyData → Bool} (hb : ∀ d, isF d = true → b d = false) {ds : List PyData} (h : ds.any isF = true) : ds.all b = false := by
  obtain ⟨d, hd, hf⟩ := List.any_eq_true.mp h
  cases c : ds.all b with
  | false => rfl
  | true =>
    have := List.all_eq_true.mp c d hd
    rw [hb d hf] at this
    cases this
theorem check_fault (f : Fn) {ds : List PyData} (h1 : f.lo ≤ ds.length) (h2 : ds.length ≤ f.hi) (h : ds.any isF = true) : f.check ds = false := by
  have hi := all_no (b := isInt) (fun d q => (fault_kinds q).1) h
  have ht := all_no (b := isTup) (fun d q => (fault_kinds q).2.1) h
  have hD := all_no (b := isD) (fun d q => (fault_kinds q).2.2) h
  have two : 2 ≤ ds.length → ds.length ≤ 2 → canCount ds = false := fun k1 k2 => by
    obtain ⟨a, b, rfl⟩ := two_of k1 k2
    have e0 : canCount [a, b] = (isTup a && (isInt b && decide (0 ≤ toI b))) := rfl
    rw [e0]
    simp only [List.any_cons, List.any_nil, Bool.or_false, Bool.or_eq_true] at h
    rcases h with h | h
    · rw [(fault_kinds h).2.1]; rfl
    · rw [(fault_kinds h).1, Bool.false_and, Bool.and_false]
  have one : 1 ≤ ds.length → ds.length ≤ 1 → isTup (at0 ds) = false := fun k1 k2 => by
    obtain ⟨a, rfl⟩ := one_of k1 k2
    simp only [List.any_cons, List.any_nil, Bool.or_false] at h
    exact (fault_kinds h).2.1
  cases f with
  | add | sub | mul | neg | min | max | less => exact hi
  | div => show (ds.all isInt && _) = false; rw [hi]; rfl
  | same | pack => exact hD
  | length | join | turn => exact ht
  | item => show (canCount ds && _) = false; rw [two h1 h2]; rfl
  | take | drop => exact two h1 h2
  | sort | total => show (isTup (at0 ds) && _) = false; rw [one h1 h2]; rfl
theorem app_fault (f : Fn) {ds : List PyData} (h : ds.any isF = true) : f.app ds = faultD := by
  rw [app_raw, lawRaw_n fun z => by rw [check_fault f z.1.1 z.1.2 h] at z; exact Bool.noConfusion z.2]
  rw [fault_no]
  rfl
end Ls
end

section
set_option Elab.async false
set_option linter.all false
set_option maxRecDepth 100000
set_option maxHeartbeats 4000000
namespace Ls
open PySem PySem.Spec PyProof.Rows L2 SX LamX
mutual
theorem ns_shown : ∀ d : PyData, nsD d = true → ((PyData.shown d).length : Int) + 2 ≤ 5 * szD d
  | .int i, h => by
    have e : (PyData.shown (.int i)).length = (intL i).length := by
      rw [PyData.shown_int, show ((toString i : String) : Str) = S (intL i) from str_int i, S_len]
    rw [e]
    have h1 := szD_pos (.int i) rfl
    rw [szD, intL_len] at h1 ⊢
    omega
  | .tuple ds, h => by
    rw [nsD, Bool.and_eq_true] at h
    have h2 := nsL_shown ds h.2
    have hj := join_len (Str.ofString ", ") (PyData.shownAll ds)
    rw [lit_sep, PyData.shownAll_length] at hj
    rw [szD, PyData.shown_tuple, len_app, len_app, lit_open]
    split
    · rw [lit_close1]; omega
    · rw [lit_close]; omega
  | .none, h => by simp [nsD] at h
  | .bool _, h => by simp [nsD] at h
  | .str _, h => by simp [nsD] at h
  | .list _, h => by simp [nsD] at h
  | .dict _, h => by simp [nsD] at h
theorem nsL_shown : ∀ ds : List PyData, nsL ds = true → ((((PyData.shownAll ds).map (·.length)).sum : Nat) : Int) + 2 * ds.length ≤ 5 * szL ds
  | [], _ => by rw [PyData.shownAll_nil, szL]; decide
  | d :: ds, h => by
    rw [nsL, Bool.and_eq_true] at h
    have h1 := ns_shown d h.1
    have h2 := nsL_shown ds h.2
    rw [szL, PyData.shownAll_cons, List.map_cons, List.sum_cons, List.length_cons]
    omega
end
mutual
theorem ns_shW : ∀ d : PyData, nsD d = true → smD d = true → shW d = true
  | .int i, _, h => by rw [smD] at h; rw [shW]; exact h
  | .tuple ds, h, g => by
    rw [nsD, Bool.and_eq_true] at h
    rw [smD] at g
    rw [shW]
    exact nsL_shW ds h.2 g
  | .none, h, _ => by simp [nsD] at h
  | .bool _, h, _ => by simp [nsD] at h
  | .str _, h, _ => by simp [nsD] at h
  | .list _, h, _ => by simp [nsD] at h
  | .dict _, h, _ => by simp [nsD] at h
theorem nsL_shW : ∀ ds : List PyData, nsL ds = true → smL ds = true → shWL ds = true
  | [], _, _ => rfl
  | d :: ds, h, g => by
    rw [nsL, Bool.and_eq_true] at h
    rw [smL, Bool.and_eq_true] at g
    rw [shWL, ns_shW d h.1 g.1, nsL_shW ds h.2 g.2]
    rfl
end
/-- shown within bounds -/
structure Bs (b k : Nat) (d : PyData) : Prop where
  sh : shW d = true
  len : (PyData.shown d).length ≤ b
  dep : PyData.depth d ≤ k
theorem V_bs {d : PyData} (h : isV d = true) : Bs 5000 4 d := by
  have hl := (V_lay h).2
  unfold isV at h
  cases hf : isF d with
  | true =>
    have e := isF_inv hf
    subst e
    exact ⟨rfl, by decide +kernel, hl⟩
  | false =>
    rw [hf, Bool.false_or] at h
    obtain ⟨a, b, c⟩ := isD_parts h
    have := ns_shown d a
    exact ⟨ns_shW d a (isD_sm h), by omega, hl⟩
theorem Bs.lst {b k n : Nat} {ds : List PyData} (h : ∀ d ∈ ds, Bs b k d) (hn : ds.length ≤ n) : Bs (n * (b + 2) + 3) (k + 1) (.list ds) := by
  refine ⟨by rw [shW]; exact showAll_of fun d hd => (h d hd).sh, ?_, by rw [PyData.depth]; exact Nat.succ_le_succ (depAll_of fun d hd => (h d hd).dep)⟩
  have hs := shownAll_sum fun d hd => (h d hd).len
  have hj := join_len (Str.ofString ", ") (PyData.shownAll ds)
  rw [lit_sep, PyData.shownAll_length] at hj
  have hm : ds.length * b + 2 * ds.length ≤ n * (b + 2) := by
    rw [Nat.mul_comm 2, ← Nat.mul_add]
    exact Nat.mul_le_mul_right _ hn
  rw [PyData.shown_list, len_app, len_app, lit_lo, lit_lc]
  omega
theorem Bs.rq {b k : Nat} {d : PyData} (h : Bs b k d) (h1 : b ≤ 100000) (h2 : k ≤ 10) : Rq d := ⟨h.sh, Nat.le_trans h.len h1, Nat.le_trans h.dep h2⟩
theorem VL_rq {ds : List PyData} (h : ∀ d ∈ ds, isV d = true) (hn : ds.length ≤ 15) : Rq (.list ds) := (Bs.lst (fun d hd => V_bs (h d hd)) hn).rq (by decide) (by decide)
def lwSz : Nat → Int
  | 0 => 23
  | m + 1 => 1 + 3 * lwSz m
theorem lwSz_pos : ∀ m, 23 ≤ lwSz m
  | 0 => by decide
  | m + 1 => by
    have := lwSz_pos m
    rw [lwSz]
    omega
def lw : Nat → PyData → Prop
  | 0, d => ∃ i : Int, d = .int i ∧ i.natAbs ≤ 10 ^ 21
  | m + 1, d => (∃ i : Int, d = .int i ∧ i.natAbs ≤ 10 ^ 21) ∨ ∃ ds, d = .tuple ds ∧ ds.length ≤ 3 ∧ ∀ e ∈ ds, lw m e
theorem lw_int {i : Int} (h : i.natAbs ≤ 10 ^ 21) : ∀ m, lw m (.int i)
  | 0 => ⟨i, rfl, h⟩
  | _ + 1 => .inl ⟨i, rfl, h⟩
theorem lw_ns : ∀ {m : Nat} {d : PyData}, lw m d → nsD d = true ∧ szD d ≤ lwSz m ∧ tdp d ≤ m
  | 0, d, ⟨i, e, h⟩ => by subst e; exact ⟨rfl, by rw [szD]; exact szI_21 h, Nat.le_refl _⟩
  | m + 1, d, .inl ⟨i, e, h⟩ => by subst e; exact ⟨rfl, by rw [szD]; exact Int.le_trans (szI_21 h) (lwSz_pos _), Nat.zero_le _⟩
  | m + 1, d, .inr ⟨ds, e, hl, h⟩ => by
    subst e
    refine ⟨?_, ?_, ?_⟩
    · rw [nsD, nsL_ofE fun e he => (lw_ns (h e he)).1, decide_eq_true (by omega : ds.length ≤ 40)]
      rfl
    · rw [szD, lwSz]
      have := szL_le (c := lwSz m) (by have := lwSz_pos m; omega) (fun e he => (lw_ns (h e he)).2.1) hl
      omega
    · rw [tdp]
      have := tdpL_all (ds := ds) (m := m) fun e he => (lw_ns (h e he)).2.2
      omega
theorem lw_V {m : Nat} (hm : m ≤ 3) {d : PyData} (h : lw m d) : isV d = true := by
  obtain ⟨h1, h2, h3⟩ := lw_ns h
  have h4 : lwSz m ≤ 1000 := by
    match m, hm with
    | 0, _ => decide
    | 1, _ => decide
    | 2, _ => decide
    | 3, _ => decide
  refine isD_V ?_
  unfold isD
  rw [h1, decide_eq_true (by omega : (tdp d : Int) ≤ 4), decide_eq_true (by omega : szD d ≤ 1000)]
  rfl
def sp_ldatumW (K : PySem.W.Frag) (n : Nat) : Sp := fun vs H Q _ => ∃ (p : Addr) (m : Nat), vs = [.ref p, .int (m : Nat)] ∧ Pt H p ∧ m < n ∧ ∀ v d H', Fl K H' v d → lw m d → Pt H' p → Em p H H' → Q v H'
theorem int_V {i : Int} (h : i.natAbs ≤ 10 ^ 21) : isV (.int i) = true := lw_V (m := 0) (by decide) ⟨i, rfl, h⟩
theorem ints_V {ds : List PyData} (hl : ds.length ≤ 40) (h : ∀ d ∈ ds, ∃ i : Int, d = .int i ∧ i.natAbs ≤ 10 ^ 21) : isV (.tuple ds) = true := by
  refine isD_V ?_
  have h1 : nsL ds = true := nsL_ofE fun e he => by obtain ⟨i, e1, _⟩ := h e he; subst e1; rfl
  have h2 := szL_le (c := 23) (by decide) (ds := ds) (fun e he => by obtain ⟨i, e1, hi⟩ := h e he; subst e1; rw [szD]; exact szI_21 hi) hl
  have h3 := tdpL_all (ds := ds) (m := 0) fun e he => by obtain ⟨i, e1, _⟩ := h e he; subst e1; exact Nat.le_refl _
  unfold isD
  rw [nsD, h1, szD, tdp, decide_eq_true hl, decide_eq_true (by omega : ((1 + tdpL ds : Nat) : Int) ≤ 4), decide_eq_true (by omega : 1 + szL ds ≤ 1000)]
  rfl
mutual
theorem ns_gw : ∀ d : PyData, nsD d = true → smD d = true → gwD d = true
  | .int i, _, h => h
  | .tuple ds, h, g => by
    rw [nsD, Bool.and_eq_true, decide_eq_true_eq] at h
    rw [smD] at g
    rw [gwD, nsL_gw ds h.2 g, decide_eq_true (by omega : ds.length ≤ 30000)]
    rfl
  | .none, h, _ => by simp [nsD] at h
  | .bool _, h, _ => by simp [nsD] at h
  | .str _, h, _ => by simp [nsD] at h
  | .list _, h, _ => by simp [nsD] at h
  | .dict _, h, _ => by simp [nsD] at h
theorem nsL_gw : ∀ ds : List PyData, nsL ds = true → smL ds = true → gwL ds = true
  | [], _, _ => rfl
  | d :: ds, h, g => by
    rw [nsL, Bool.and_eq_true] at h
    rw [smL, Bool.and_eq_true] at g
    rw [gwL, ns_gw d h.1 g.1, nsL_gw ds h.2 g.2]
    rfl
end
theorem D_gw {d : PyData} (h : isD d = true) : gwD d = true := ns_gw d (isD_parts h).1 (isD_sm h)
theorem tup_gw {ds : List PyData} (h : isD (.tuple ds) = true) : ∀ d ∈ ds, gwD d = true := by
  have := D_gw h
  rw [gwD, Bool.and_eq_true] at this
  exact fun d hd => gwL_mem this.2 hd
theorem gw_tup {ds : List PyData} (hl : ds.length ≤ 30000) (h : ∀ d ∈ ds, gwD d = true) : gwD (.tuple ds) = true := by
  rw [gwD, decide_eq_true hl, gwL_of h]
  rfl
theorem flat_len {ds : List PyData} (h : ∀ d ∈ ds, (toL d).length ≤ 40) : (ds.map toL).flatten.length ≤ 40 * ds.length := by
  induction ds with
  | nil => exact Nat.zero_le _
  | cons d ds ih =>
    have h1 := h d List.mem_cons_self
    have h2 := ih fun e he => h e (List.mem_cons_of_mem _ he)
    rw [List.map_cons, List.flatten_cons, List.length_append, List.length_cons]
    omega
theorem raw_gw (f : Fn) {ds : List PyData} (hV : ∀ d ∈ ds, isD d = true) (h1 : f.lo ≤ ds.length) (h2 : ds.length ≤ f.hi) (hc : f.check ds = true) : gwD (f.raw ds) = true := by
  have hs := (raw_sm f (List.all_eq_true.mpr fun d hd => isD_V (hV d hd)) h1 h2 hc).1
  have tup0 : isTup (at0 ds) = true → isD (.tuple (toL (at0 ds))) = true := fun ht => by
    cases ds with
    | nil => cases ht
    | cons d ds =>
      obtain ⟨es, e⟩ := isTup_inv (show isTup d = true from ht)
      subst e
      exact hV _ List.mem_cons_self
  have len0 : isTup (at0 ds) = true → (toL (at0 ds)).length ≤ 40 := fun ht => (isV_tup (isD_V (tup0 ht))).1
  cases f with
  | add | sub | mul | div | neg | min | max | less | same | length | total => exact hs
  | item =>
    have hc' : (canCount ds && decide (toI (at1 ds) < ((toL (at0 ds)).length : Nat))) = true := hc
    rw [Bool.and_eq_true, decide_eq_true_eq] at hc'
    have hk : (isTup (at0 ds) && (isInt (at1 ds) && decide (0 ≤ toI (at1 ds)))) = true := hc'.1
    simp only [Bool.and_eq_true, decide_eq_true_eq] at hk
    have hlt : (toI (at1 ds)).toNat < (toL (at0 ds)).length := by omega
    have e : Fn.raw .item ds = (toL (at0 ds))[(toI (at1 ds)).toNat] := by
      show (toL (at0 ds)).getD (toI (at1 ds)).toNat .none = _
      rw [List.getD_eq_getElem?_getD, List.getElem?_eq_getElem hlt]
      rfl
    rw [e]
    exact tup_gw (tup0 hk.1) _ (List.getElem_mem hlt)
  | pack => exact gw_tup (Nat.le_trans h2 (by decide)) fun d hd => D_gw (hV d hd)
  | join =>
    have ht : ds.all isTup = true := hc
    have hb : ∀ d ∈ ds, (toL d).length ≤ 40 := fun d hd => by
      obtain ⟨es, rfl⟩ := isTup_inv (List.all_eq_true.mp ht d hd)
      exact (isV_tup (isD_V (hV _ hd))).1
    have h2' : ds.length ≤ 6 := h2
    refine gw_tup (by have := flat_len hb; omega) fun d hd => ?_
    obtain ⟨l, hl, hd⟩ := List.mem_flatten.mp hd
    obtain ⟨t, htt, rfl⟩ := List.mem_map.mp hl
    obtain ⟨es, rfl⟩ := isTup_inv (List.all_eq_true.mp ht t htt)
    exact tup_gw (hV _ htt) d hd
  | take =>
    have hk : (isTup (at0 ds) && (isInt (at1 ds) && decide (0 ≤ toI (at1 ds)))) = true := hc
    rw [Bool.and_eq_true] at hk
    refine gw_tup ?_ fun d hd => tup_gw (tup0 hk.1) d (List.mem_of_mem_take hd)
    have := len0 hk.1
    rw [List.length_take]
    omega
  | drop =>
    have hk : (isTup (at0 ds) && (isInt (at1 ds) && decide (0 ≤ toI (at1 ds)))) = true := hc
    rw [Bool.and_eq_true] at hk
    refine gw_tup ?_ fun d hd => tup_gw (tup0 hk.1) d (List.mem_of_mem_drop hd)
    have := len0 hk.1
    rw [List.length_drop]
    omega
  | sort =>
    have hk : (isTup (at0 ds) && (toL (at0 ds)).all isInt) = true := hc
    rw [Bool.and_eq_true] at hk
    have := len0 hk.1
    refine gw_tup ?_ fun d hd => ?_
    · rw [List.length_map, (sortL_perm _).length_eq, List.length_map]
      omega
    · obtain ⟨i, hi, rfl⟩ := List.mem_map.mp hd
      have hi2 := (sortL_perm _).mem_iff.mp hi
      refine tup_gw (tup0 hk.1) _ ?_
      rw [ints_of hk.2]
      exact List.mem_map.mpr ⟨i, hi2, rfl⟩
  | turn =>
    obtain ⟨x, rfl⟩ := one_of h1 h2
    obtain ⟨es, rfl⟩ := isTup_inv (by simpa using (show List.all [x] isTup = true from hc))
    have ht : isTup (at0 [PyData.tuple es]) = true := rfl
    refine gw_tup ?_ fun d hd => tup_gw (tup0 ht) d (List.mem_reverse.mp hd)
    have := len0 ht
    rw [List.length_reverse]
    omega
section
variable {K : PySem.W.Frag} {H : Hp} {Q : VK}
theorem y_neFaultW {x : V} {d : PyData} (h : Fl K H x d) (hg : gwD d = true) (ht : tdp d ≤ 60) (q : Q (.bl true) H) : rNeU K x (.str (Str.ofString "fault")) H Q := by
  refine y_neD h.dp (.str _) (gw_shaped hg ht) fault_shaped ?_
  cases d <;> first | exact q | simp [gwD] at hg
/-- [g(x) for x in l] over data -/
theorem k_lcG {σ : L2.St} {te : TE} {vs : List Nat} {a : Addr} {xs : List V} {ds : List PyData} {i0 : Nat} (g : PyData → PyData) (hS : SqL K H a xs) (hD : FlAll K H xs ds) (hz : xs.length ≤ 99999)
    (hs : ∀ x d H1 (Q1 : VK), d ∈ ds → Ex H H1 → Fl K H1 x d → (∀ y H2, Ex H1 H2 → Fl K H2 y (g d) → Q1 y H2) → te ((wipe σ vs).set i0 (some x)) H1 Q1)
    (hw : ∀ x, wipe ((wipe σ vs).set i0 (some x)) vs = wipe σ vs) (q : ∀ D ys H2, H D = none → Ex H H2 → H2 D = some (.lst ys) → FlAll K H2 ys (ds.map g) → Q (.ref D) H2) : kLc (Itl K a) (gName i0) tYes te vs σ H Q := by
  refine k_lcL (xs := xs) (fun j ys H' => Ex H H' ∧ FlAll K H' ys ((ds.take j).map g)) (fun D n => ⟨Ex.new n, .nil⟩) (fun j ys H' _ p => p.1.sl hS) (fun D j x ys H' n hx hj hl hHD p => ?_) hw fun D ys H' n hl hHD p => ?_
  · obtain ⟨e, hF⟩ := p
    obtain ⟨d, hd, hf⟩ := hD.get hx
    refine hs x d H' _ (List.mem_of_getElem? hd) e (hf.mono e.et) fun y H2 e2 hy => k_turn (e2 _ _ hHD) hl (by omega) ⟨Ex.putN (e.trans e2) n, ?_⟩
    have t2 : Et H2 (upd H2 D (.lst (ys ++ [y]))) := Et.putL (e2 _ _ hHD)
    rw [List.take_add_one, hd, List.map_append]
    exact (hF.mono (e2.et.trans t2)).append (.cons (hy.mono t2) .nil)
  · obtain ⟨e, hF⟩ := p
    rw [hD.length, List.take_length] at hF
    exact q D ys H' n e hHD hF
theorem y_inT {t : Addr} {x : Str} {ys : List V} (h : H t = some (.tup ys)) (hf : ys.all flatV = true) (q : Q (.bl (inV (.str x) ys)) H) : rInU K (.str x) (.ref t) H Q := by
  refine .inl ⟨t, ys, rfl, .inr (.of h), rfl, hf, ?_⟩
  rw [if_neg Bool.false_ne_true]
  exact q
end
def sp_lapplied (K : PySem.W.Frag) : Sp := fun vs H Q _ => ∃ (f : Fn) (g : Addr) (ws : List V) (ds : List PyData), vs = [.str f.nm, .ref g] ∧ SqL K H g ws ∧ FlAll K H ws ds ∧ (∀ d ∈ ds, isV d = true) ∧ ws.length ≤ 7 ∧ ∀ v H', Ex H H' → Fl K H' v (f.app ds) → Q v H'
def sp_lints (K : PySem.W.Frag) : Sp := fun vs H Q _ => ∃ (p : Addr) (m : Nat), vs = [.ref p, .int (m : Nat)] ∧ Pt H p ∧ m ≤ 20 ∧ ∀ v d H', Fl K H' v d → isV d = true → Pt H' p → Em p H H' → Q v H'
def sp_lgiven (K : PySem.W.Frag) : Sp := fun vs H Q _ => ∃ (p l : Addr) (f : Fn) (xs : List V) (ds : List PyData), vs = [.ref p, .str f.nm, .ref l] ∧ Pt H p ∧ SqL K H l xs ∧ l ≠ p ∧ FlAll K H xs ds ∧ (∀ d ∈ ds, isV d = true) ∧ 0 < xs.length ∧ xs.length ≤ 100 ∧
  ∀ g ws es H', H g = none → H' g = some (.lst ws) → FlAll K H' ws es → (∀ d ∈ es, isV d = true) → ws.length ≤ 7 → Pt H' p → Em p H H' → Q (.ref g) H'
def sp_lright15 : Sp := fun vs H Q _ => ∃ p : Addr, vs = [.ref p] ∧ Pt H p ∧ ∀ H', Pt H' p → Em p H H' → Q (.bl true) H'
/-- a function's call with values -/
theorem app_val {K : PySem.W.Frag} {CF CV : Addr} {H : Hp} {Q : VK} {E : XK} {f : Fn} {ws : List V} {ds : List PyData} (hF : FlAll K H ws ds) (hV : ∀ d ∈ ds, isV d = true) (hz : ws.length ≤ 100)
    (q : ∀ v H', Ex H H' → Fl K H' v (f.app ds) → Q v H') : spStar 1 (sp_app K CF CV) (.str f.nm :: ws) H Q E := by
  have hA : ds.all isV = true := List.all_eq_true.mpr hV
  refine ⟨[.str f.nm], ws, rfl, rfl, Nat.le_trans hz (by decide), fun t nt => ⟨.str f.nm, .str f.nm, t, ws, ds, rfl, .str _, .of upd_same, hF.dtA.mono (Ex.new nt), by omega, fun e he => by have := isV_sm (hV e he); exact ⟨this.1, by omega⟩, fun h => ?_, fun g j w hg hj => ?_, fun g hg _ r H' e h => ?_⟩⟩
  · rw [fnD_nm] at h; cases h
  · rw [firstBad_all hA] at hj; cases hj
  · rw [fnD_nm] at hg
    cases hg
    exact q r H' ((Ex.new nt).trans e) h
end Ls
end

section
set_option Elab.async false
set_option linter.all false
set_option maxRecDepth 100000
set_option maxHeartbeats 4000000
namespace Ls
open PySem PySem.Spec PyProof.Rows L2 SX LamX
theorem val_snoc (cs : List Nat) (c : Nat) : NumText.digitsVal (cs ++ [c]) = NumText.digitsVal cs * 10 + (c - 48) := by
  unfold NumText.digitsVal
  rw [List.foldl_append]
  rfl
theorem numL_back : ∀ (n : Nat) (cs : List Nat), cs.length = n → cs ≠ [] → NumText.AllDigits cs → (cs.head? = some 48 → cs.length = 1) → TL.numL (NumText.digitsVal cs) = cs := by
  intro n
  induction n with
  | zero => intro cs hl hn; exact absurd (List.eq_nil_of_length_eq_zero hl) hn
  | succ n ih =>
    intro cs hl hn hd h0
    obtain ⟨ds, c, rfl⟩ : ∃ ds c, cs = ds ++ [c] := ⟨cs.dropLast, cs.getLast hn, (List.dropLast_concat_getLast hn).symm⟩
    have hc := hd c (by simp)
    rw [val_snoc]
    by_cases he : ds = []
    · subst he
      show TL.numL (0 * 10 + (c - 48)) = [c]
      rw [TL.numL_lt (by omega), show 48 + (0 * 10 + (c - 48)) = c by omega]
    · have hl2 : ds.length = n := by rw [List.length_append, List.length_singleton] at hl; omega
      have hp : 0 < ds.length := List.length_pos_iff.mpr he
      have hh : ds.head? ≠ some 48 := fun z => by
        have : (ds ++ [c]).length = 1 := h0 (by rw [List.head?_append, z]; rfl)
        rw [List.length_append, List.length_singleton] at this
        omega
      have e := ih ds hl2 he (fun x hx => hd x (List.mem_append_left _ hx)) fun z => absurd z hh
      have hv : 1 ≤ NumText.digitsVal ds := by
        rcases Nat.eq_zero_or_pos (NumText.digitsVal ds) with z | z
        · rw [z] at e
          exact absurd (by rw [← e]; decide) hh
        · exact z
      rw [TL.numL_step (by omega), show (NumText.digitsVal ds * 10 + (c - 48)) / 10 = NumText.digitsVal ds by omega, e, show 48 + (NumText.digitsVal ds * 10 + (c - 48)) % 10 = c by omega]
def isDg (c : Nat) : Bool := decide (48 ≤ c) && decide (c ≤ 57)
theorem isDg_iff {c : Nat} : isDg c = true ↔ 48 ≤ c ∧ c ≤ 57 := by
  unfold isDg
  rw [Bool.and_eq_true, decide_eq_true_eq, decide_eq_true_eq]
/-- the digits are a whole number's: none left out, none too much -/
def okW (neg : Bool) (wd : List Nat) : Bool := !decide (wd = []) && (decide (wd.length ≤ 1000) && !(decide (wd.head? = some 48) && (decide (1 < wd.length) || neg)))
def decI (neg : Bool) (wd : List Nat) : Int := if neg = true then -(NumText.digitsVal wd : Nat) else (NumText.digitsVal wd : Nat)
def sgL (neg : Bool) : List Nat := if neg = true then [45] else []
def rdS (r : List Nat) : Bool := decide (r.head? = some 45)
def rdB (r : List Nat) : List Nat := if rdS r = true then r.tail else r
def rdW (r : List Nat) : List Nat := (rdB r).takeWhile isDg
def rdI (r : List Nat) : Option (PyData × List Nat) := if okW (rdS r) (rdW r) = true then some (.int (decI (rdS r) (rdW r)), (rdB r).dropWhile isDg) else none
theorem rd_parts (r : List Nat) : r = sgL (rdS r) ++ (rdW r ++ (rdB r).dropWhile isDg) := by
  unfold rdW rdB sgL
  rw [List.takeWhile_append_dropWhile]
  cases h : rdS r with
  | false => rw [if_neg Bool.false_ne_true, if_neg Bool.false_ne_true]; rfl
  | true =>
    rw [if_pos rfl, if_pos rfl]
    unfold rdS at h
    rw [decide_eq_true_eq] at h
    cases r with
    | nil => cases h
    | cons a t => cases h; rfl
theorem tw_digits {s : List Nat} : NumText.AllDigits (s.takeWhile isDg) := fun c hc => by
  have : isDg c = true := by
    have h := List.all_eq_true.mp (List.all_takeWhile (p := isDg) (l := s)) c hc
    exact h
  exact isDg_iff.mp this
theorem dw_noDig (s : List Nat) : noDig (s.dropWhile isDg) := fun c h => by
  have := List.head?_dropWhile_not (p := isDg) (l := s)
  rw [h] at this
  dsimp only at this
  have h2 : ¬ (48 ≤ c ∧ c ≤ 57) := fun z => by rw [isDg_iff.mpr z] at this; cases this
  omega
theorem okW_parts {neg : Bool} {wd : List Nat} (h : okW neg wd = true) : wd ≠ [] ∧ wd.length ≤ 1000 ∧ (wd.head? = some 48 → wd.length = 1 ∧ neg = false) := by
  unfold okW at h
  simp only [Bool.and_eq_true, Bool.not_eq_true', decide_eq_true_eq, decide_eq_false_iff_not] at h
  obtain ⟨h1, h2, h3⟩ := h
  have hp : 0 < wd.length := List.length_pos_iff.mpr h1
  refine ⟨h1, h2, fun z => ?_⟩
  rw [z, decide_eq_true rfl, Bool.true_and, Bool.or_eq_false_iff, decide_eq_false_iff_not] at h3
  exact ⟨by omega, h3.2⟩
theorem decI_intL {neg : Bool} {wd : List Nat} (h : okW neg wd = true) (hd : NumText.AllDigits wd) : intL (decI neg wd) = sgL neg ++ wd ∧ (decI neg wd).natAbs = NumText.digitsVal wd ∧ TL.numL (decI neg wd).natAbs = wd := by
  obtain ⟨h1, h2, h3⟩ := okW_parts h
  have hb := numL_back _ wd rfl h1 hd fun z => (h3 z).1
  have ha : (decI neg wd).natAbs = NumText.digitsVal wd := by
    unfold decI
    split <;> omega
  refine ⟨?_, ha, by rw [ha]; exact hb⟩
  unfold intL
  rw [ha, hb]
  unfold decI sgL
  cases neg with
  | false => rw [if_neg Bool.false_ne_true, if_neg Bool.false_ne_true, if_neg (by omega)]; rfl
  | true =>
    rw [if_pos rfl, if_pos rfl]
    have hv : 1 ≤ NumText.digitsVal wd := by
      rcases Nat.eq_zero_or_pos (NumText.digitsVal wd) with z | z
      · rw [z] at hb
        have := (h3 (by rw [← hb]; decide)).2
        cases this
      · exact z
    rw [if_pos (by omega)]
    rfl
theorem rdI_sound {r r' : List Nat} {d : PyData} (h : rdI r = some (d, r')) : ∃ i, d = .int i ∧ r = intL i ++ r' ∧ noDig r' ∧ (TL.numL i.natAbs).length ≤ 1000 := by
  unfold rdI at h
  split at h
  · rename_i c
    have e := Option.some.inj h
    have e1 := congrArg Prod.fst e
    have e2 := congrArg Prod.snd e
    dsimp only at e1 e2
    obtain ⟨k1, k2, k3⟩ := decI_intL c tw_digits
    refine ⟨_, e1.symm, ?_, by rw [← e2]; exact dw_noDig _, by
      have : TL.numL (decI (rdS r) (rdW r)).natAbs = rdW r := k3
      rw [this]
      exact (okW_parts c).2.1⟩
    have k1' : intL (decI (rdS r) (rdW r)) = sgL (rdS r) ++ rdW r := k1
    rw [k1', ← e2, List.append_assoc]
    exact rd_parts r
  · cases h
theorem takeWhile_end {p : Nat → Bool} : ∀ {a b : List Nat}, (∀ c ∈ a, p c = true) → (∀ c, b.head? = some c → p c = false) → (a ++ b).takeWhile p = a ∧ (a ++ b).dropWhile p = b
  | [], [], _, _ => ⟨rfl, rfl⟩
  | [], c :: b, _, h => by
    have := h c rfl
    rw [List.nil_append, List.takeWhile_cons, List.dropWhile_cons, this]
    exact ⟨rfl, rfl⟩
  | x :: a, b, h1, h2 => by
    obtain ⟨k1, k2⟩ := takeWhile_end (a := a) (b := b) (fun c hc => h1 c (List.mem_cons_of_mem _ hc)) h2
    have hx := h1 x List.mem_cons_self
    rw [List.cons_append, List.takeWhile_cons, List.dropWhile_cons, hx, if_pos rfl, if_pos rfl, k1, k2]
    exact ⟨rfl, rfl⟩
theorem rdI_compl {r' : List Nat} {i : Int} (h : noDig r') (hl : (TL.numL i.natAbs).length ≤ 1000) : rdI (intL i ++ r') = some (.int i, r') := by
  obtain ⟨c, tl, ec, c1, c2, c0⟩ := numL_head i.natAbs
  have hdg : ∀ x ∈ TL.numL i.natAbs, isDg x = true := fun x hx => isDg_iff.mpr (TL.numL_digits _ x hx)
  have hr : ∀ x, r'.head? = some x → isDg x = false := fun x hx => by
    cases z : isDg x with
    | false => rfl
    | true =>
      have := isDg_iff.mp z
      have := h x hx
      omega
  obtain ⟨t1, t2⟩ := takeWhile_end hdg hr
  have hS : rdS (intL i ++ r') = decide (i < 0) := by
    unfold rdS intL
    by_cases hi : i < 0
    · rw [if_pos hi, decide_eq_true hi]; rfl
    · rw [if_neg hi, decide_eq_false hi, ec]
      refine decide_eq_false fun z => ?_
      have : c = 45 := by simpa using z
      omega
  have hB : rdB (intL i ++ r') = TL.numL i.natAbs ++ r' := by
    unfold rdB
    rw [hS]
    unfold intL
    by_cases hi : i < 0
    · rw [decide_eq_true hi, if_pos rfl, if_pos hi]; rfl
    · rw [decide_eq_false hi, if_neg Bool.false_ne_true, if_neg hi]
  have hW : rdW (intL i ++ r') = TL.numL i.natAbs := by
    unfold rdW
    rw [hB, t1]
  have hok : okW (decide (i < 0)) (TL.numL i.natAbs) = true := by
    unfold okW
    rw [decide_eq_false (TL.numL_ne _), decide_eq_true hl, Bool.not_false, Bool.true_and, Bool.true_and, Bool.not_eq_true']
    by_cases z : c = 48
    · have e1 : TL.numL i.natAbs = [48] := by rw [ec, c0 z, z]
      have h0 : i.natAbs = 0 := by
        have v := congrArg NumText.digitsVal e1
        rw [TL.numL_val] at v
        rw [v]
        decide
      rw [e1, decide_eq_false (by omega : ¬ i < 0)]
      decide
    · rw [ec, decide_eq_false (by simpa using z), Bool.false_and]
  unfold rdI
  rw [hS, hW, hok, if_pos rfl, hB, t2]
  have : decI (decide (i < 0)) (TL.numL i.natAbs) = i := by
    unfold decI
    rw [TL.numL_val]
    by_cases hi : i < 0
    · rw [decide_eq_true hi, if_pos rfl]; omega
    · rw [decide_eq_false hi, if_neg Bool.false_ne_true]; omega
  rw [this]
mutual
/-- integers of at most a thousand digits, tuples -/
def okP : PyData → Bool
  | .int i => decide ((TL.numL i.natAbs).length ≤ 1000)
  | .tuple ds => okPL ds
  | _ => false
def okPL : List PyData → Bool
  | [] => true
  | d :: ds => okP d && okPL ds
end
theorem okPL_iff : ∀ {ds : List PyData}, okPL ds = true ↔ ∀ d ∈ ds, okP d = true
  | [] => ⟨fun _ _ h => (nomatch h), fun _ => rfl⟩
  | d :: ds => by
    rw [okPL, Bool.and_eq_true, okPL_iff (ds := ds)]
    exact ⟨fun h e he => (List.mem_cons.mp he).elim (fun z => z ▸ h.1) (h.2 e), fun h => ⟨h d List.mem_cons_self, fun e he => h e (List.mem_cons_of_mem _ he)⟩⟩
def rdL (f : List Nat → Option (PyData × List Nat)) : Nat → List PyData → List Nat → Option (List PyData × List Nat)
  | 0, _, _ => none
  | n + 1, es, r => match f r with
    | none => none
    | some (d, r') => if r'.head? = some 44 then rdL f n (es ++ [d]) r'.tail else some (es ++ [d], r')
def rdE (o : Option (List PyData × List Nat)) : Option (PyData × List Nat) := match o with
  | none => none
  | some (es, r') => if r'.head? = some 93 then some (.tuple es, r'.tail) else none
def rdT (f : List Nat → Option (PyData × List Nat)) (r : List Nat) : Option (PyData × List Nat) := if r.head? = some 93 then some (.tuple [], r.tail) else rdE (rdL f (r.length + 1) [] r)
def rdD : Nat → List Nat → Option (PyData × List Nat)
  | 0, r => if r.head? = some 91 then none else rdI r
  | k + 1, r => if r.head? = some 91 then rdT (rdD k) r.tail else rdI r
/-- what is read stands there -/
def RdOk (k : Nat) (f : List Nat → Option (PyData × List Nat)) : Prop := ∀ r d r', f r = some (d, r') → r = txD d ++ r' ∧ okP d = true ∧ tdp d ≤ k ∧ (isInt d = true → noDig r')
def RdAll (k : Nat) (f : List Nat → Option (PyData × List Nat)) : Prop := ∀ d r', okP d = true → tdp d ≤ k → (isInt d = true → noDig r') → f (txD d ++ r') = some (d, r')
theorem txL_cons2 (d e : PyData) (ds : List PyData) : txL (d :: e :: ds) = txD d ++ 44 :: txL (e :: ds) := by rw [txL, txM, txL]
theorem head_cons {r : List Nat} {c : Nat} (h : r.head? = some c) : r = c :: r.tail := by
  cases r with
  | nil => cases h
  | cons a t => cases h; rfl
theorem rdL_sound {k : Nat} {f : List Nat → Option (PyData × List Nat)} (hf : RdOk k f) : ∀ {n : Nat} {es es' : List PyData} {r r' : List Nat}, rdL f n es r = some (es', r') → ∃ ds, ds ≠ [] ∧ es' = es ++ ds ∧ r = txL ds ++ r' ∧ ∀ d ∈ ds, okP d = true ∧ tdp d ≤ k
  | 0, es, es', r, r', h => by cases h
  | n + 1, es, es', r, r', h => by
    rw [rdL] at h
    cases hq : f r with
    | none => rw [hq] at h; cases h
    | some p =>
      obtain ⟨d, r1⟩ := p
      rw [hq] at h
      dsimp only at h
      obtain ⟨a1, a2, a3, _⟩ := hf r d r1 hq
      split at h
      · rename_i c
        obtain ⟨ds, b1, b2, b3, b4⟩ := rdL_sound hf h
        refine ⟨d :: ds, List.cons_ne_nil _ _, by rw [b2]; simp, ?_, fun e he => (List.mem_cons.mp he).elim (fun z => z ▸ ⟨a2, a3⟩) (b4 e)⟩
        cases ds with
        | nil => exact absurd rfl b1
        | cons e ds =>
          rw [a1, head_cons c, b3, txL_cons2]
          simp
      · have e := Option.some.inj h
        have e1 := congrArg Prod.fst e
        have e2 := congrArg Prod.snd e
        dsimp only at e1 e2
        refine ⟨[d], List.cons_ne_nil _ _, e1.symm, ?_, fun e he => by rw [List.mem_singleton.mp he]; exact ⟨a2, a3⟩⟩
        rw [a1, e2, txL, txM, List.append_nil]
theorem noDig_c {c : Nat} {r : List Nat} (h : c < 48 ∨ 57 < c) : noDig (c :: r) := fun x hx => by
  have : c = x := by simpa using hx
  omega
theorem rdL_compl {k : Nat} {f : List Nat → Option (PyData × List Nat)} (hf : RdAll k f) {r0 : List Nat} : ∀ {ds : List PyData} {n : Nat} {es : List PyData}, ds ≠ [] → ds.length ≤ n → (∀ d ∈ ds, okP d = true ∧ tdp d ≤ k) → rdL f n es (txL ds ++ 93 :: r0) = some (es ++ ds, 93 :: r0)
  | [], n, es, h, _, _ => absurd rfl h
  | d :: ds, 0, es, _, h, _ => by simp at h
  | [d], n + 1, es, _, _, h => by
    have hd := h d List.mem_cons_self
    rw [rdL, txL, txM, List.append_nil, hf d (93 :: r0) hd.1 hd.2 fun _ => noDig_c (by omega)]
    dsimp only
    rw [if_neg (by simp)]
  | d :: e :: ds, n + 1, es, _, hl, h => by
    have hd := h d List.mem_cons_self
    rw [rdL, txL_cons2, List.append_assoc, List.cons_append, hf d _ hd.1 hd.2 fun _ => noDig_c (by omega)]
    dsimp only
    rw [List.head?_cons, if_pos rfl]
    have := rdL_compl (ds := e :: ds) (n := n) (es := es ++ [d]) hf (r0 := r0) (List.cons_ne_nil _ _) (by simpa using hl) fun x hx => h x (List.mem_cons_of_mem _ hx)
    rw [List.tail_cons, this]
    simp
theorem rdT_sound {k : Nat} {f : List Nat → Option (PyData × List Nat)} (hf : RdOk k f) {r r' : List Nat} {d : PyData} (h : rdT f r = some (d, r')) : 91 :: r = txD d ++ r' ∧ okP d = true ∧ tdp d ≤ k + 1 ∧ isInt d = false := by
  unfold rdT at h
  split at h
  · rename_i c
    have e := Option.some.inj h
    have e1 := congrArg Prod.fst e
    have e2 := congrArg Prod.snd e
    dsimp only at e1 e2
    subst e1
    refine ⟨?_, rfl, by rw [tdp, tdpL]; omega, rfl⟩
    rw [head_cons c, e2, txD, txL]
    rfl
  · unfold rdE at h
    cases hq : rdL f (r.length + 1) [] r with
    | none => rw [hq] at h; cases h
    | some p =>
      obtain ⟨es, r1⟩ := p
      rw [hq] at h
      dsimp only at h
      split at h
      · rename_i c
        have e := Option.some.inj h
        have e1 := congrArg Prod.fst e
        have e2 := congrArg Prod.snd e
        dsimp only at e1 e2
        subst e1
        obtain ⟨ds, b1, b2, b3, b4⟩ := rdL_sound hf hq
        rw [List.nil_append] at b2
        subst b2
        refine ⟨?_, by rw [okP]; exact okPL_iff.mpr fun d hd => (b4 d hd).1, ?_, rfl⟩
        · rw [b3, head_cons c, e2, txD]
          simp
        · rw [tdp]
          have := tdpL_all (ds := es) (m := k) fun d hd => (b4 d hd).2
          omega
      · cases h
theorem txL_len1 : ∀ ds : List PyData, ds.length ≤ (txL ds).length
  | [] => Nat.zero_le _
  | [d] => by
    obtain ⟨c, r, e, _⟩ := txD_head d
    rw [txL, txM, e]
    simp
  | d :: e :: ds => by
    have := txL_len1 (e :: ds)
    rw [txL_cons2, List.length_append, List.length_cons (as := txL (e :: ds)), List.length_cons]
    omega
theorem txL_ne {d : PyData} {ds : List PyData} (r : List Nat) : (txL (d :: ds) ++ r).head? ≠ some 93 := fun h => by
  obtain ⟨c, t, e, h1, _⟩ := txD_head d
  rw [txL, e] at h
  exact h1 (by simpa using h)
theorem rdT_compl {k : Nat} {f : List Nat → Option (PyData × List Nat)} (hf : RdAll k f) {ds : List PyData} {r0 : List Nat} (h : okPL ds = true) (ht : tdpL ds ≤ k) : rdT f (txL ds ++ 93 :: r0) = some (.tuple ds, r0) := by
  unfold rdT
  cases ds with
  | nil =>
    rw [txL, List.nil_append, List.head?_cons, if_pos rfl]
    rfl
  | cons d ds =>
    have h2 := okPL_iff.mp h
    rw [if_neg (txL_ne _), rdL_compl hf (List.cons_ne_nil _ _) (by have := txL_len1 (d :: ds); rw [List.length_append]; omega) fun e he => ⟨h2 e he, by have := tdp_mem he; omega⟩]
    unfold rdE
    dsimp only
    rw [List.head?_cons, if_pos rfl]
    rfl
theorem rdD_sound : ∀ k, RdOk k (rdD k)
  | 0, r, d, r', h => by
    rw [rdD] at h
    split at h
    · cases h
    · obtain ⟨i, e, e1, e2, e3⟩ := rdI_sound h
      subst e
      exact ⟨e1, by rw [okP, decide_eq_true_eq]; exact e3, Nat.zero_le _, fun _ => e2⟩
  | k + 1, r, d, r', h => by
    rw [rdD] at h
    split at h
    · rename_i c
      obtain ⟨a, b, c2, e⟩ := rdT_sound (rdD_sound k) h
      exact ⟨(head_cons c).trans a, b, c2, fun z => by rw [e] at z; cases z⟩
    · obtain ⟨i, e, e1, e2, e3⟩ := rdI_sound h
      subst e
      exact ⟨e1, by rw [okP, decide_eq_true_eq]; exact e3, Nat.zero_le _, fun _ => e2⟩
theorem int_open (i : Int) (r : List Nat) : (intL i ++ r).head? ≠ some 91 := fun h => by
  obtain ⟨c, t, e, hc⟩ := intL_head i
  rw [e] at h
  have : c = 91 := by simpa using h
  omega
theorem rdD_compl : ∀ k, RdAll k (rdD k)
  | 0, d, r', h, ht, hd => by
    cases d with
    | int i =>
      rw [okP, decide_eq_true_eq] at h
      rw [rdD, txD, if_neg (int_open i r')]
      exact rdI_compl (hd rfl) h
    | tuple ds => rw [tdp] at ht; omega
    | _ => simp [okP] at h
  | k + 1, d, r', h, ht, hd => by
    cases d with
    | int i =>
      rw [okP, decide_eq_true_eq] at h
      rw [rdD, txD, if_neg (int_open i r')]
      exact rdI_compl (hd rfl) h
    | tuple ds =>
      rw [okP] at h
      rw [tdp] at ht
      rw [rdD, txD, List.cons_append, List.head?_cons, if_pos rfl, List.tail_cons, List.append_assoc]
      exact rdT_compl (rdD_compl k) h (by omega)
    | _ => simp [okP] at h
/-- the value of a text -/
def prE : Option (PyData × List Nat) → Option PyData
  | some (d, []) => if isD d = true then some d else none
  | _ => none
def prV (l : List Nat) : Option PyData := if l = [102, 97, 117, 108, 116] then some faultD else prE (rdD 4 l)
mutual
theorem ns_okP : ∀ d : PyData, nsD d = true → szD d ≤ 1000 → okP d = true
  | .int i, _, h => by
    rw [szD, intL_len] at h
    rw [okP, decide_eq_true_eq]
    have : (intL i).length ≤ 1000 := by omega
    unfold intL at this
    split at this
    · rw [List.length_cons] at this; omega
    · exact this
  | .tuple ds, h, hz => by
    rw [nsD, Bool.and_eq_true] at h
    rw [szD] at hz
    rw [okP]
    exact nsL_okP ds h.2 (by omega)
  | .none, h, _ => by simp [nsD] at h
  | .bool _, h, _ => by simp [nsD] at h
  | .str _, h, _ => by simp [nsD] at h
  | .list _, h, _ => by simp [nsD] at h
  | .dict _, h, _ => by simp [nsD] at h
theorem nsL_okP : ∀ ds : List PyData, nsL ds = true → szL ds ≤ 1000 → okPL ds = true
  | [], _, _ => rfl
  | d :: ds, h, hz => by
    rw [nsL, Bool.and_eq_true] at h
    rw [szL] at hz
    have h1 := szD_pos d h.1
    have h2 := szL_nn ds h.2
    rw [okPL, ns_okP d h.1 (by omega), nsL_okP ds h.2 (by omega)]
    rfl
end
theorem prV_some {l : List Nat} {d : PyData} (h : prV l = some d) : isV d = true ∧ l = txD d := by
  unfold prV at h
  split at h
  · rename_i c
    have e := Option.some.inj h
    subst e
    exact ⟨by decide +kernel, c⟩
  · cases hq : rdD 4 l with
    | none => rw [hq] at h; cases h
    | some p =>
      obtain ⟨d', r'⟩ := p
      rw [hq] at h
      cases r' with
      | cons x t => cases h
      | nil =>
        have h2 : (if isD d' = true then some d' else none) = some d := h
        split at h2
        · rename_i hD
          have e := Option.some.inj h2
          subst e
          obtain ⟨a, _⟩ := rdD_sound 4 _ _ _ hq
          rw [List.append_nil] at a
          exact ⟨isD_V hD, a⟩
        · cases h2
theorem prV_tx {d : PyData} (h : isV d = true) : prV (txD d) = some d := by
  unfold prV
  unfold isV at h
  cases hf : isF d with
  | true =>
    rw [if_pos (isF_tx hf), isF_inv hf]
    rfl
  | false =>
    rw [hf, Bool.false_or] at h
    obtain ⟨a, b, c⟩ := isD_parts h
    have hn : txD d ≠ [102, 97, 117, 108, 116] := fun z => by
      obtain ⟨x, t, e, _, _, h4⟩ := txD_head d
      rw [e] at z
      exact h4 a (List.cons.inj z).1
    have e := rdD_compl 4 d [] (ns_okP d a c) b fun _ x hx => by simp at hx
    rw [List.append_nil] at e
    rw [if_neg hn, e]
    show (if isD d = true then some d else none) = some d
    rw [if_pos h]
theorem prV_none {l : List Nat} (h : prV l = none) {d : PyData} (hd : isV d = true) : l ≠ txD d := fun e => by rw [e, prV_tx hd] at h; cases h
theorem prV_iff {l : List Nat} {d : PyData} : prV l = some d ↔ isV d = true ∧ l = txD d := ⟨prV_some, fun ⟨h, e⟩ => by rw [e]; exact prV_tx h⟩
def isStr : PyData → Bool
  | .str _ => true
  | _ => false
/-- what a reader's result makes of the rest of the call -/
def Rd (K : PySem.W.Frag) (C : Addr) (l : List Nat) (H : Hp) (Q : VK) (E : XK) (o : Option (PyData × List Nat)) : Prop :=
  (∀ d r' v t H', o = some (d, r') → Ex H H' → Fl K H' v d → H' t = some (.tup [v, .int ((l.length - r'.length : Nat) : Int)]) → Q (.ref t) H') ∧ (o = none → ∀ dd H', Ex H H' → H' dd = some (.xd [("line", .int 1)]) → E (.ref C) (some dd) H')
theorem Rd.ex {K : PySem.W.Frag} {C : Addr} {l : List Nat} {H H1 : Hp} {Q : VK} {E : XK} {o : Option (PyData × List Nat)} (e : Ex H H1) (h : Rd K C l H Q E o) : Rd K C l H1 Q E o :=
  ⟨fun d r' v t H' a b c f => h.1 d r' v t H' a (e.trans b) c f, fun a dd H' b c => h.2 a dd H' (e.trans b) c⟩
def sp_rintX (K : PySem.W.Frag) (C : Addr) : Sp := fun vs H Q E => ∃ (l : List Nat) (a : Nat), vs = [.str (S l), .int (a : Nat)] ∧ l.length ≤ 30000 ∧ a ≤ l.length ∧ Rd K C l H Q E (rdI (l.drop a))
def sp_rdatX (K : PySem.W.Frag) (C : Addr) (n : Nat) : Sp := fun vs H Q E => ∃ (l : List Nat) (a dp : Nat), vs = [.str (S l), .int (a : Nat), .int (dp : Nat)] ∧ l.length ≤ 30000 ∧ a ≤ l.length ∧ dp ≤ 4 ∧ 4 - dp < n ∧ Rd K C l H Q E (rdD (4 - dp) (l.drop a))
def sp_rtupX (K : PySem.W.Frag) (C : Addr) (n : Nat) : Sp := fun vs H Q E => ∃ (l : List Nat) (a dp : Nat), vs = [.str (S l), .int (a : Nat), .int (dp : Nat)] ∧ l.length ≤ 30000 ∧ a < l.length ∧ dp ≤ 5 ∧ (4 < dp ∨ 4 - dp < n) ∧ Rd K C l H Q E (if 4 < dp then none else rdT (rdD (4 - dp)) (l.drop (a + 1)))
def sp_parseX (K : PySem.W.Frag) (C : Addr) : Sp := fun vs H Q E => ∃ (v : V) (d : PyData), vs = [v] ∧ Dt K H v d ∧
  ((∃ l : List Nat, d = .str (S l) ∧ l.length ≤ 30000 ∧ (∀ e x H', prV l = some e → Ex H H' → Fl K H' x e → Q x H') ∧ (prV l = none → ∀ dd H', Ex H H' → H' dd = some (.xd [("line", .int 1)]) → E (.ref C) (some dd) H')) ∨
   (isStr d = false ∧ ∀ dd H', Ex H H' → H' dd = some (.xd [("line", .int 0)]) → E (.ref C) (some dd) H'))
theorem cutT {tt : TT} {σ : L2.St} {H : Hp} {QT : Bool → Hp → Prop} (b : Bool) (h : ∀ Q', Q' b H → tt σ H Q') (k : QT b H) : tt σ H QT := h QT k
mutual
theorem okP_sm : ∀ d : PyData, okP d = true → smD d = true
  | .int i, h => by
    rw [okP, decide_eq_true_eq] at h
    rw [smD, decide_eq_true_eq]
    exact DL_of (Nat.lt_of_lt_of_le (lt_numL _) (Nat.pow_le_pow_right (by decide) h)) (by decide)
  | .tuple ds, h => by rw [okP] at h; rw [smD]; exact okPL_sm ds h
  | .none, h => by simp [okP] at h
  | .bool _, h => by simp [okP] at h
  | .str _, h => by simp [okP] at h
  | .list _, h => by simp [okP] at h
  | .dict _, h => by simp [okP] at h
theorem okPL_sm : ∀ ds : List PyData, okPL ds = true → smL ds = true
  | [], _ => rfl
  | d :: ds, h => by
    rw [okPL, Bool.and_eq_true] at h
    rw [smL, okP_sm d h.1, okPL_sm ds h.2]
    rfl
end
end Ls
end

section
set_option Elab.async false
set_option linter.all false
set_option maxRecDepth 100000
set_option maxHeartbeats 4000000
namespace Ls
open PySem PySem.Spec PyProof.Rows L2 SX LamX
theorem cutS_eq (l : List Nat) (lo hi : Option Int) : L2.cutS (S l) lo hi = S ((l.drop (HT.sIx l.length 0 lo)).take (HT.sIx l.length l.length hi - HT.sIx l.length 0 lo)) := by
  refine TL.ext_tl ?_
  show ((S l).cps.toList.drop (HT.sIx (S l).length 0 lo)).take (HT.sIx (S l).length (S l).length hi - HT.sIx (S l).length 0 lo) = _
  rw [S_len]
theorem sIx_neg (n d k : Nat) (hk : 0 < k) : HT.sIx n d (some (-(k : Int))) = n - k := by
  show (if -(k : Int) < 0 then (-(k : Int) + (n : Int)).toNat else min (-(k : Int)).toNat n) = n - k
  rw [if_pos (by omega)]
  omega
section
variable {σ : L2.St} {H : Hp} {Q : VK} {K : PySem.W.Frag} {g : TG} {tb : TS} {D : Ends} {te : TE} {vs : List Nat}
theorem y_cutTo {l : List Nat} {j : Int} {b : Nat} (hz : l.length ≤ sizeLine) (hb : j = (b : Nat)) (q : Q (.str (S (l.take b))) H) : rSlU K (.str (S l)) none (some j) H Q := by
  subst hb
  refine .inr (.inr (y_slS (by rw [S_len]; exact hz) ?_))
  rw [cutS_eq, HT.sIx_none, HT.sIx_nat, List.drop_zero, Nat.sub_zero]
  by_cases h : b ≤ l.length
  · rw [Nat.min_eq_left h]; exact q
  · rw [Nat.min_eq_right (by omega), List.take_length]
    rw [List.take_of_length_le (by omega)] at q
    exact q
theorem y_cutFrom {l : List Nat} {i : Int} {a : Nat} (hz : l.length ≤ sizeLine) (ha : i = (a : Nat)) (q : Q (.str (S (l.drop a))) H) : rSlU K (.str (S l)) (some i) none H Q := by
  subst ha
  refine .inr (.inr (y_slS (by rw [S_len]; exact hz) ?_))
  rw [cutS_eq, HT.sIx_none, HT.sIx_nat]
  have e : (l.drop (min a l.length)).take (l.length - min a l.length) = l.drop a := by
    by_cases h : a ≤ l.length
    · rw [Nat.min_eq_left h]
      exact List.take_of_length_le (by rw [List.length_drop]; exact Nat.le_refl _)
    · rw [Nat.min_eq_right (by omega), List.drop_eq_nil_of_le (Nat.le_refl _), List.drop_eq_nil_of_le (by omega), List.take_nil]
  rw [e]
  exact q
/-- l[-k:] -/
theorem y_cutEnd {l : List Nat} {i : Int} {k : Nat} (hz : l.length ≤ sizeLine) (hk : 0 < k) (hi : i = -(k : Int)) (q : Q (.str (S (l.drop (l.length - k)))) H) : rSlU K (.str (S l)) (some i) none H Q := by
  subst hi
  refine .inr (.inr (y_slS (by rw [S_len]; exact hz) ?_))
  rw [cutS_eq, HT.sIx_none, sIx_neg _ _ _ hk, List.take_of_length_le (by rw [List.length_drop]; exact Nat.le_refl _)]
  exact q
/-- l[1:-1] -/
theorem y_cutIn {l : List Nat} {i j : Int} {a k : Nat} (hz : l.length ≤ sizeLine) (hk : 0 < k) (hi : i = (a : Nat)) (hj : j = -(k : Int)) (ha : a ≤ l.length) (q : Q (.str (S ((l.drop a).take (l.length - k - a)))) H) : rSlU K (.str (S l)) (some i) (some j) H Q := by
  subst hi hj
  refine .inr (.inr (y_slS (by rw [S_len]; exact hz) ?_))
  rw [cutS_eq, HT.sIx_nat, sIx_neg _ _ _ hk, Nat.min_eq_left ha]
  exact q
theorem its_at (l : List Nat) (i : Nat) : (S l).cps[i]? = l[i]? := by
  show l.toArray[i]? = l[i]?
  simp
/-- for c in text -/
theorem k_forS {l : List Nat} (Pv : Nat → L2.St → Hp → Prop) (h0 : Pv 0 σ H)
    (hs : ∀ i c σ H, l[i]? = some c → Pv i σ H → g (.str (S [c])) σ H fun σ2 H2 => tb { D with nx := Pv (i + 1), ct := Pv (i + 1), bk := D.nx } σ2 H2) (hd : ∀ σ H, Pv l.length σ H → D.nx σ H) : kFor (Its (S l)) g tb D σ H := by
  have hsz : (S l).cps.size = l.length := by show l.toArray.size = l.length; simp
  refine for_it (walk_str (z := S l)) Pv h0 (fun _ _ _ _ _ => trivial) (fun i x σ H H' hi p ⟨e, c, hc, ex⟩ => ?_) fun σ H p => hd σ H (by rw [← hsz]; exact p)
  subst e ex
  exact hs i c σ _ (by rw [← its_at]; exact hc) p
/-- [.. for c in text] -/
theorem k_lcS {l : List Nat} {i0 : Nat} (Pv : Nat → List V → Hp → Prop) (h0 : ∀ D, H D = none → Pv 0 [] (upd H D (.lst [])))
    (hs : ∀ D j c ys H', H D = none → l[j]? = some c → j < l.length → ys.length = j → H' D = some (.lst ys) → Pv j ys H' → te ((wipe σ vs).set i0 (some (.str (S [c])))) H' (kTurn D j Pv))
    (hw : ∀ x, wipe ((wipe σ vs).set i0 (some x)) vs = wipe σ vs) (hd : ∀ D ys H', H D = none → ys.length = l.length → H' D = some (.lst ys) → Pv l.length ys H' → Q (.ref D) H') : kLc (Its (S l)) (gName i0) tYes te vs σ H Q := fun D hD => by
  have hsz : (S l).cps.size = l.length := by show l.toArray.size = l.length; simp
  refine lc_it (walk_str (z := S l)) (fun j H' => ∃ ys : List V, ys.length = j ∧ H' D = some (.lst ys) ∧ Pv j ys H') ⟨[], rfl, upd_same, h0 D hD⟩ (fun _ _ _ _ => trivial) (fun j x H1 H' hj ⟨ys, hy, hHD, p⟩ ⟨e, c, hc, ex⟩ => ?_) fun H' ⟨ys, hy, hHD, p⟩ => hd D ys H' hD (by rw [← hsz]; exact hy) hHD (by rw [← hsz]; exact p)
  subst e ex
  exact ⟨hw _, t_yes (hs D j c ys _ hD (by rw [← its_at]; exact hc) (by rw [← hsz]; exact hj) hy hHD p)⟩
/-- [b(c) for c in text], truths -/
theorem k_lcSB {l : List Nat} {i0 : Nat} (b : Nat → Bool) (hz : l.length ≤ 99999) (hs : ∀ c H1 (Q1 : VK), (Q1 (.bl (b c)) H1) → te ((wipe σ vs).set i0 (some (.str (S [c])))) H1 Q1)
    (hw : ∀ x, wipe ((wipe σ vs).set i0 (some x)) vs = wipe σ vs) (q : ∀ D H', H D = none → Ex H H' → H' D = some (.lst ((l.map b).map V.bl)) → Q (.ref D) H') : kLc (Its (S l)) (gName i0) tYes te vs σ H Q := by
  refine k_lcS (fun j ys H' => Ex H H' ∧ ys = ((l.take j).map b).map V.bl) (fun D n => ⟨Ex.new n, rfl⟩) (fun D j c ys H' nD hc hj hl hHD p => ?_) hw fun D ys H' nD hl hHD p => ?_
  · obtain ⟨e, rfl⟩ := p
    refine hs c H' _ (k_turn hHD hl (by omega) ⟨Ex.putN e nD, ?_⟩)
    rw [List.take_add_one, hc]
    simp
  · obtain ⟨e, rfl⟩ := p
    rw [List.take_length] at hHD
    exact q D H' nD e hHD
end
end Ls
end

section
set_option Elab.async false
set_option linter.all false
set_option maxRecDepth 100000
set_option maxHeartbeats 4000000
namespace Ls
open PySem PySem.Spec PyProof.Rows L2 SX LamX
mutual
/-- integers of at most 1001 digits, tuples -/
def okQ : PyData → Bool
  | .int i => decide ((TL.numL i.natAbs).length ≤ 1001)
  | .tuple ds => okQL ds
  | _ => false
def okQL : List PyData → Bool
  | [] => true
  | d :: ds => okQ d && okQL ds
end
theorem okQL_iff : ∀ {ds : List PyData}, okQL ds = true ↔ ∀ d ∈ ds, okQ d = true
  | [] => ⟨fun _ _ h => (nomatch h), fun _ => rfl⟩
  | d :: ds => by
    rw [okQL, Bool.and_eq_true, okQL_iff (ds := ds)]
    exact ⟨fun h e he => (List.mem_cons.mp he).elim (fun z => z ▸ h.1) (h.2 e), fun h => ⟨h d List.mem_cons_self, fun e he => h e (List.mem_cons_of_mem _ he)⟩⟩
/-- how deep it is behind a sign -/
def stepK (k : Int) (c : Nat) : Int := k + (if decide (c = 91) = true then 1 else 0) - (if decide (c = 93) = true then 1 else 0)
def partsF : List Nat → Int → List (List Nat) → List Nat → List (List Nat)
  | [], _, done, cur => done ++ [cur]
  | c :: r, k, done, cur => if c = 44 ∧ stepK k c = 0 then partsF r (stepK k c) (done ++ [cur]) [] else partsF r (stepK k c) done (cur ++ [c])
def partsL (l : List Nat) : List (List Nat) := partsF l 0 [] []
theorem join_snoc2 (cur : List Nat) (c : Nat) : ∀ done : List (List Nat), TL.joinL [44] (done ++ [cur ++ [c]]) = TL.joinL [44] (done ++ [cur]) ++ [c]
  | [] => rfl
  | [a] => by
    show a ++ ([44] ++ (cur ++ [c])) = a ++ ([44] ++ cur) ++ [c]
    simp
  | a :: b :: r => by
    have := join_snoc2 cur c (b :: r)
    show a ++ ([44] ++ TL.joinL [44] ((b :: r) ++ [cur ++ [c]])) = a ++ ([44] ++ TL.joinL [44] ((b :: r) ++ [cur])) ++ [c]
    rw [this]
    simp
theorem join_new (cur : List Nat) : ∀ done : List (List Nat), TL.joinL [44] (done ++ [cur] ++ [[]]) = TL.joinL [44] (done ++ [cur]) ++ [44]
  | [] => by
    show cur ++ ([44] ++ []) = cur ++ [44]
    simp
  | [a] => by
    show a ++ ([44] ++ (cur ++ ([44] ++ []))) = a ++ ([44] ++ cur) ++ [44]
    simp
  | a :: b :: r => by
    have := join_new cur (b :: r)
    show a ++ ([44] ++ TL.joinL [44] ((b :: r) ++ [cur] ++ [[]])) = a ++ ([44] ++ TL.joinL [44] ((b :: r) ++ [cur])) ++ [44]
    rw [this]
    simp
theorem partsF_join : ∀ (l : List Nat) (k : Int) (done : List (List Nat)) (cur : List Nat), TL.joinL [44] (partsF l k done cur) = TL.joinL [44] (done ++ [cur]) ++ l
  | [], _, done, cur => by rw [partsF, List.append_nil]
  | c :: r, k, done, cur => by
    rw [partsF]
    split
    · rename_i h
      rw [partsF_join r, join_new, h.1]
      simp
    · rw [partsF_join r, join_snoc2]
      simp
theorem partsL_join (l : List Nat) : TL.joinL [44] (partsL l) = l := partsF_join l 0 [] []
theorem partsF_len : ∀ (l : List Nat) (k : Int) (done : List (List Nat)) (cur : List Nat), (partsF l k done cur).length ≤ done.length + 1 + l.length
  | [], _, done, cur => by rw [partsF, List.length_append]; simp
  | c :: r, k, done, cur => by
    rw [partsF]
    split
    · have := partsF_len r (stepK k c) (done ++ [cur]) []
      rw [List.length_append, List.length_singleton] at this
      rw [List.length_cons]
      omega
    · have := partsF_len r (stepK k c) done (cur ++ [c])
      rw [List.length_cons]
      omega
theorem partsF_mem {b : Nat} : ∀ (l : List Nat) (k : Int) (done : List (List Nat)) (cur : List Nat), (∀ p ∈ done, p.length ≤ b) → cur.length + l.length ≤ b → ∀ p ∈ partsF l k done cur, p.length ≤ b
  | [], _, done, cur, h1, h2, p, hp => by
    rw [partsF] at hp
    rcases List.mem_append.mp hp with h | h
    · exact h1 p h
    · rw [List.mem_singleton.mp h]
      simpa using h2
  | c :: r, k, done, cur, h1, h2, p, hp => by
    rw [List.length_cons] at h2
    rw [partsF] at hp
    split at hp
    · refine partsF_mem r _ _ _ (fun q hq => ?_) (by rw [List.length_nil]; omega) p hp
      rcases List.mem_append.mp hq with h | h
      · exact h1 q h
      · rw [List.mem_singleton.mp h]; omega
    · exact partsF_mem r _ _ _ h1 (by rw [List.length_append, List.length_singleton]; omega) p hp
theorem partsF_flat {a r : List Nat} {k : Int} {done : List (List Nat)} : ∀ {cur : List Nat}, (∀ c ∈ a, c ≠ 91 ∧ c ≠ 93 ∧ c ≠ 44) → partsF (a ++ r) k done cur = partsF r k done (cur ++ a) := by
  induction a with
  | nil => intro cur _; rw [List.append_nil]; rfl
  | cons c a ih =>
    intro cur h
    obtain ⟨h1, h2, h3⟩ := h c List.mem_cons_self
    rw [List.cons_append, partsF, if_neg fun z => h3 z.1]
    have e : stepK k c = k := by
      unfold stepK
      rw [decide_eq_false h1, decide_eq_false h2]
      simp
    rw [e, ih fun x hx => h x (List.mem_cons_of_mem _ hx)]
    simp
theorem intL_flat (i : Int) : ∀ c ∈ intL i, c ≠ 91 ∧ c ≠ 93 ∧ c ≠ 44 := by
  have hn : ∀ c ∈ TL.numL i.natAbs, c ≠ 91 ∧ c ≠ 93 ∧ c ≠ 44 := fun c hc => by
    have := TL.numL_digits i.natAbs c hc
    omega
  intro c hc
  unfold intL at hc
  split at hc
  · rcases List.mem_cons.mp hc with rfl | hc
    · decide
    · exact hn c hc
  · exact hn c hc
theorem stepK_open (k : Int) : stepK k 91 = k + 1 := by unfold stepK; simp
theorem stepK_close (k : Int) : stepK k 93 = k - 1 := by unfold stepK; simp
theorem stepK_comma (k : Int) : stepK k 44 = k := by unfold stepK; simp
mutual
/-- a text of data within a part -/
theorem partsF_tx : ∀ (d : PyData) {r : List Nat} {k : Int} {done : List (List Nat)} {cur : List Nat}, 0 ≤ k → okQ d = true → partsF (txD d ++ r) k done cur = partsF r k done (cur ++ txD d)
  | .int i, r, k, done, cur, _, _ => by rw [txD]; exact partsF_flat (intL_flat i)
  | .tuple ds, r, k, done, cur, hk, h => by
    have h' : okQL ds = true := by rw [okQ] at h; exact h
    rw [txD, List.cons_append, partsF, if_neg (by simp), stepK_open, List.append_assoc, partsF_txL ds (by omega) h', List.singleton_append, partsF, if_neg (by simp), stepK_close]
    rw [show k + 1 - 1 = k by omega]
    simp
  | .none, _, _, _, _, _, h => by simp [okQ] at h
  | .bool _, _, _, _, _, _, h => by simp [okQ] at h
  | .str _, _, _, _, _, _, h => by simp [okQ] at h
  | .list _, _, _, _, _, _, h => by simp [okQ] at h
  | .dict _, _, _, _, _, _, h => by simp [okQ] at h
theorem partsF_txL : ∀ (ds : List PyData) {r : List Nat} {k : Int} {done : List (List Nat)} {cur : List Nat}, 1 ≤ k → okQL ds = true → partsF (txL ds ++ r) k done cur = partsF r k done (cur ++ txL ds)
  | [], r, k, done, cur, _, _ => by rw [txL, List.append_nil]; rfl
  | d :: ds, r, k, done, cur, hk, h => by
    have h' : (okQ d = true) ∧ (okQL ds = true) := by rw [okQL, Bool.and_eq_true] at h; exact h
    rw [txL, List.append_assoc, partsF_tx d (by omega) h'.1, partsF_txM ds hk h'.2]
    simp
theorem partsF_txM : ∀ (ds : List PyData) {r : List Nat} {k : Int} {done : List (List Nat)} {cur : List Nat}, 1 ≤ k → okQL ds = true → partsF (txM ds ++ r) k done cur = partsF r k done (cur ++ txM ds)
  | [], r, k, done, cur, _, _ => by rw [txM, List.append_nil]; rfl
  | d :: ds, r, k, done, cur, hk, h => by
    have h' : (okQ d = true) ∧ (okQL ds = true) := by rw [okQL, Bool.and_eq_true] at h; exact h
    rw [txM, List.cons_append, partsF, if_neg (by rw [stepK_comma]; omega), stepK_comma, List.append_assoc, partsF_tx d (by omega) h'.1, partsF_txM ds hk h'.2]
    simp
end
theorem partsL_tx : ∀ {ds : List PyData} {done : List (List Nat)}, ds ≠ [] → okQL ds = true → partsF (txL ds) 0 done [] = done ++ ds.map txD
  | [], _, h, _ => absurd rfl h
  | [d], done, _, h => by
    rw [okQL, Bool.and_eq_true] at h
    have := partsF_tx d (r := []) (k := 0) (done := done) (cur := []) (Int.le_refl 0) h.1
    rw [txL, txM, this, partsF]
    rfl
  | d :: e :: ds, done, _, h => by
    rw [okQL, Bool.and_eq_true] at h
    have ih := partsL_tx (ds := e :: ds) (done := done ++ [txD d]) (List.cons_ne_nil _ _) h.2
    rw [txL_cons2, partsF_tx d (Int.le_refl 0) h.1, partsF, if_pos ⟨rfl, stepK_comma 0⟩, stepK_comma, List.nil_append, ih]
    simp
/-- whether a text begins and ends as a tuple's -/
def isBr (l : List Nat) : Bool := decide (l.take 1 = [91]) && (decide (l.drop (l.length - 1) = [93]) && decide (1 < l.length))
def inBr (l : List Nat) : List Nat := (l.drop 1).take (l.length - 1 - 1)
theorem isBr_iff {l : List Nat} : isBr l = true ↔ l = 91 :: (inBr l ++ [93]) := by
  unfold isBr inBr
  constructor
  · intro h
    simp only [Bool.and_eq_true, decide_eq_true_eq] at h
    obtain ⟨h1, h2, h3⟩ := h
    cases l with
    | nil => cases h1
    | cons a t =>
      have ha : a = 91 := by simpa using h1
      rw [ha, List.drop_succ_cons, List.drop_zero]
      have hn : t ≠ [] := fun z => by rw [z] at h3; simp at h3
      have e := List.dropLast_concat_getLast hn
      rw [List.length_cons, Nat.add_sub_cancel] at h2
      have hl : t.length = (t.length - 1) + 1 := by
        have := List.length_pos_iff.mpr hn
        omega
      rw [hl, List.drop_succ_cons] at h2
      have h4 : t = t.take (t.length - 1) ++ t.drop (t.length - 1) := (List.take_append_drop _ _).symm
      rw [List.length_cons, Nat.add_sub_cancel]
      rw [h2] at h4
      exact congrArg _ h4
  · intro h
    generalize hm : (l.drop 1).take (l.length - 1 - 1) = m at h
    rw [h]
    simp
theorem inBr_mk (m : List Nat) : isBr (91 :: (m ++ [93])) = true ∧ inBr (91 :: (m ++ [93])) = m := by
  unfold isBr inBr
  simp
/-- all or none -/
def optAll : List (Option PyData) → Option (List PyData)
  | [] => some []
  | o :: r => match o, optAll r with
    | some d, some ds => some (d :: ds)
    | _, _ => none
theorem optAll_some : ∀ {os : List (Option PyData)} {ds : List PyData}, optAll os = some ds ↔ os = ds.map some
  | [], ds => by
    cases ds with
    | nil => simp [optAll]
    | cons d ds => simp [optAll]
  | o :: r, ds => by
    have ih := @optAll_some r
    unfold optAll
    cases o with
    | none =>
      cases ds <;> simp
    | some d =>
      cases hr : optAll r with
      | none =>
        dsimp only
        cases ds with
        | nil => simp
        | cons e es =>
          simp only [List.map_cons, List.cons.injEq, reduceCtorEq, false_iff, not_and]
          intro _ h
          have := ih.mpr h
          rw [hr] at this
          cases this
      | some es =>
        dsimp only
        have h1 := ih.mp hr
        cases ds with
        | nil => simp
        | cons e fs =>
          rw [h1]
          simp only [Option.some.injEq, List.cons.injEq, List.map_cons]
          exact ⟨fun ⟨a, b⟩ => ⟨a, by rw [b]⟩, fun ⟨a, b⟩ => ⟨a, List.map_inj_right (fun _ _ => Option.some.inj) |>.mp b⟩⟩
def isNum (l : List Nat) : Bool := !decide (rdB l = []) && (decide ((rdB l).length ≤ 1001) && ((rdB l).all isDg && !(decide ((rdB l).take 1 = [48]) && !decide (l = [48]))))
/-- the law's reading -/
def readL : Nat → List Nat → Option PyData
  | m, l => if isBr l = true then (match m with
      | 0 => none
      | m + 1 => if l = [91, 93] then some (.tuple []) else (optAll ((partsL (inBr l)).map (readL m))).map PyData.tuple)
    else if isNum l = true then some (.int (decI (rdS l) (rdB l))) else none
theorem isNum_int {i : Int} (h : (TL.numL i.natAbs).length ≤ 1001) : isNum (intL i) = true ∧ decI (rdS (intL i)) (rdB (intL i)) = i ∧ isBr (intL i) = false := by
  obtain ⟨c, tl, ec, c1, c2, c0⟩ := numL_head i.natAbs
  have hS : rdS (intL i) = decide (i < 0) := by
    unfold rdS intL
    by_cases hi : i < 0
    · rw [if_pos hi, decide_eq_true hi]; rfl
    · rw [if_neg hi, decide_eq_false hi, ec]
      refine decide_eq_false fun z => ?_
      have : c = 45 := by simpa using z
      omega
  have hB : rdB (intL i) = TL.numL i.natAbs := by
    unfold rdB
    rw [hS]
    unfold intL
    by_cases hi : i < 0
    · rw [decide_eq_true hi, if_pos rfl, if_pos hi]; rfl
    · rw [decide_eq_false hi, if_neg Bool.false_ne_true, if_neg hi]
  refine ⟨?_, ?_, ?_⟩
  · unfold isNum
    rw [hB, decide_eq_false (TL.numL_ne _), decide_eq_true h, Bool.not_false, Bool.true_and, Bool.true_and]
    have ha : (TL.numL i.natAbs).all isDg = true := List.all_eq_true.mpr fun x hx => isDg_iff.mpr (TL.numL_digits _ x hx)
    rw [ha, Bool.true_and]
    by_cases z : c = 48
    · have e1 : TL.numL i.natAbs = [48] := by rw [ec, c0 z, z]
      have h0 : i = 0 := by
        have v := congrArg NumText.digitsVal e1
        rw [TL.numL_val] at v
        have : NumText.digitsVal [48] = 0 := by decide
        omega
      subst h0
      decide
    · rw [ec, decide_eq_false (by simpa using z), Bool.false_and]
      rfl
  · rw [hS, hB]
    unfold decI
    rw [TL.numL_val]
    by_cases hi : i < 0
    · rw [decide_eq_true hi, if_pos rfl]; omega
    · rw [decide_eq_false hi, if_neg Bool.false_ne_true]; omega
  · cases hb : isBr (intL i) with
    | false => rfl
    | true =>
      have e := isBr_iff.mp hb
      have := int_open i []
      rw [List.append_nil, e] at this
      exact absurd rfl this
theorem isNum_back {l : List Nat} (h : isNum l = true) : intL (decI (rdS l) (rdB l)) = l ∧ (TL.numL (decI (rdS l) (rdB l)).natAbs).length ≤ 1001 := by
  unfold isNum at h
  simp only [Bool.and_eq_true, Bool.not_eq_true', decide_eq_true_eq, decide_eq_false_iff_not] at h
  obtain ⟨h1, h2, h3, h4⟩ := h
  have hd : NumText.AllDigits (rdB l) := fun c hc => isDg_iff.mp (List.all_eq_true.mp h3 c hc)
  have hz : (rdB l).head? = some 48 → l = [48] := fun z => by
    have e := head_cons z
    rw [e] at h4
    simpa using h4
  have hz1 : (rdB l).head? = some 48 → (rdB l).length = 1 ∧ rdS l = false := fun z => by
    have := hz z
    rw [this]
    decide
  have hb := numL_back _ (rdB l) rfl h1 hd fun z => (hz1 z).1
  have ha : (decI (rdS l) (rdB l)).natAbs = NumText.digitsVal (rdB l) := by
    unfold decI
    split <;> omega
  refine ⟨?_, by rw [ha, hb]; exact h2⟩
  unfold intL
  rw [ha, hb]
  cases hs : rdS l with
  | false =>
    unfold decI
    rw [if_neg Bool.false_ne_true, if_neg (by omega)]
    unfold rdB
    rw [hs, if_neg Bool.false_ne_true]
  | true =>
    unfold decI
    rw [if_pos rfl]
    have hv : 1 ≤ NumText.digitsVal (rdB l) := by
      rcases Nat.eq_zero_or_pos (NumText.digitsVal (rdB l)) with z | z
      · rw [z] at hb
        have := (hz1 (by rw [← hb]; decide)).2
        rw [hs] at this
        cases this
      · exact z
    rw [if_pos (by omega)]
    have e := hs
    unfold rdS at e
    rw [decide_eq_true_eq] at e
    have e2 : rdB l = l.tail := by unfold rdB; rw [hs, if_pos rfl]
    rw [e2]
    exact (head_cons e).symm
theorem map_some_eq {f : List Nat → Option PyData} : ∀ {ps : List (List Nat)} {ds : List PyData}, ps.map f = ds.map some → (∀ p d, f p = some d → p = txD d) → ps = ds.map txD
  | [], [], _, _ => rfl
  | [], _ :: _, h, _ => by simp at h
  | _ :: _, [], h, _ => by simp at h
  | p :: ps, d :: ds, h, g => by
    rw [List.map_cons, List.map_cons] at h
    obtain ⟨h1, h2⟩ := List.cons.inj h
    rw [List.map_cons, g p d h1, map_some_eq h2 g]
theorem readL_sound : ∀ (m : Nat) {l : List Nat} {d : PyData}, readL m l = some d → l = txD d ∧ okQ d = true ∧ tdp d ≤ m
  | 0, l, d, h => by
    rw [readL] at h
    split at h
    · cases h
    · split at h
      · rename_i hn
        have e := Option.some.inj h
        subst e
        obtain ⟨a, b⟩ := isNum_back hn
        exact ⟨by rw [txD]; exact a.symm, by rw [okQ, decide_eq_true_eq]; exact b, Nat.zero_le _⟩
      · cases h
  | m + 1, l, d, h => by
    rw [readL] at h
    split at h
    · rename_i hb
      have eb := isBr_iff.mp hb
      split at h
      · rename_i e2
        have e := Option.some.inj h
        subst e
        exact ⟨by rw [e2]; rfl, rfl, by rw [tdp, tdpL]; omega⟩
      · obtain ⟨ds, h1, h2⟩ := Option.map_eq_some_iff.mp h
        subst h2
        have h3 := optAll_some.mp h1
        have h4 := map_some_eq h3 fun p d hp => (readL_sound m hp).1
        have h5 : ∀ e ∈ ds, okQ e = true ∧ tdp e ≤ m := fun e he => by
          have hm : some e ∈ (partsL (inBr l)).map (readL m) := by rw [h3]; exact List.mem_map.mpr ⟨e, he, rfl⟩
          obtain ⟨p, _, hp⟩ := List.mem_map.mp hm
          exact (readL_sound m hp).2
        refine ⟨?_, by rw [okQ]; exact okQL_iff.mpr fun e he => (h5 e he).1, by rw [tdp]; have := tdpL_all (ds := ds) (m := m) fun e he => (h5 e he).2; omega⟩
        rw [txD, txL_join, ← h4, partsL_join]
        exact eb
    · split at h
      · rename_i hn
        have e := Option.some.inj h
        subst e
        obtain ⟨a, b⟩ := isNum_back hn
        exact ⟨by rw [txD]; exact a.symm, by rw [okQ, decide_eq_true_eq]; exact b, Nat.zero_le _⟩
      · cases h
theorem readL_compl : ∀ (m : Nat) {d : PyData}, okQ d = true → tdp d ≤ m → readL m (txD d) = some d
  | m, .int i, h, _ => by
    rw [okQ, decide_eq_true_eq] at h
    obtain ⟨a, b, c⟩ := isNum_int h
    cases m <;> rw [readL, txD, c, if_neg Bool.false_ne_true, a, if_pos rfl, b]
  | 0, .tuple ds, _, ht => by rw [tdp] at ht; omega
  | m + 1, .tuple ds, h, ht => by
    rw [okQ] at h
    rw [tdp] at ht
    obtain ⟨a, b⟩ := inBr_mk (txL ds)
    rw [readL, txD, a, if_pos rfl]
    cases ds with
    | nil => rw [txL]; rfl
    | cons d ds =>
      rw [if_neg fun z => by
        have := List.length_pos_iff.mpr (show txL (d :: ds) ≠ [] from fun q => by
          have := txL_len1 (d :: ds)
          rw [q] at this
          simp at this)
        have z2 := congrArg List.length z
        simp only [List.length_cons, List.length_append, List.length_nil] at z2
        omega]
      rw [b]
      unfold partsL
      rw [partsL_tx (List.cons_ne_nil _ _) h, List.nil_append, List.map_map]
      have hq := okQL_iff.mp h
      have e : (d :: ds).map (readL m ∘ txD) = (d :: ds).map some := List.map_congr_left fun x hx => by
        have := tdp_mem hx
        exact readL_compl m (hq x hx) (by omega)
      rw [e, optAll_some.mpr rfl]
      rfl
  | _, .none, h, _ => by simp [okQ] at h
  | _, .bool _, h, _ => by simp [okQ] at h
  | _, .str _, h, _ => by simp [okQ] at h
  | _, .list _, h, _ => by simp [okQ] at h
  | _, .dict _, h, _ => by simp [okQ] at h
mutual
theorem ns_okQ : ∀ d : PyData, okP d = true → okQ d = true
  | .int i, h => by
    rw [okP, decide_eq_true_eq] at h
    rw [okQ, decide_eq_true_eq]
    omega
  | .tuple ds, h => by rw [okP] at h; rw [okQ]; exact nsL_okQ ds h
  | .none, h => by simp [okP] at h
  | .bool _, h => by simp [okP] at h
  | .str _, h => by simp [okP] at h
  | .list _, h => by simp [okP] at h
  | .dict _, h => by simp [okP] at h
theorem nsL_okQ : ∀ ds : List PyData, okPL ds = true → okQL ds = true
  | [], _ => rfl
  | d :: ds, h => by
    rw [okPL, Bool.and_eq_true] at h
    rw [okQL, ns_okQ d h.1, nsL_okQ ds h.2]
    rfl
end
/-- what is due by the law -/
def dueV (l : List Nat) : Option PyData := if l = [102, 97, 117, 108, 116] then some faultD else match readL 4 l with
  | some d => if isD d = true then some d else none
  | none => none
theorem dueV_prV (l : List Nat) : dueV l = prV l := by
  by_cases hf : l = [102, 97, 117, 108, 116]
  · unfold dueV prV
    rw [if_pos hf, if_pos hf]
  · cases hp : prV l with
    | some d =>
      obtain ⟨h1, h2⟩ := prV_some hp
      have hF : isF d = false := by
        cases h : isF d with
        | false => rfl
        | true => exact absurd (h2.trans (isF_tx h)) hf
      unfold isV at h1
      rw [hF, Bool.false_or] at h1
      obtain ⟨a, b, c⟩ := isD_parts h1
      unfold dueV
      rw [if_neg hf, h2, readL_compl 4 (ns_okQ d (ns_okP d a c)) b]
      dsimp only
      rw [if_pos h1]
    | none =>
      unfold dueV
      rw [if_neg hf]
      cases hr : readL 4 l with
      | none => rfl
      | some d =>
        dsimp only
        split
        · rename_i hD
          exact absurd (readL_sound 4 hr).1 (prV_none hp (isD_V hD))
        · rfl
mutual
theorem okQ_gw : ∀ d : PyData, okQ d = true → (txD d).length ≤ 30000 → gwD d = true
  | .int i, h, _ => by
    rw [okQ, decide_eq_true_eq] at h
    rw [gwD, decide_eq_true_eq]
    exact DL_of (Nat.lt_of_lt_of_le (lt_numL _) (Nat.pow_le_pow_right (by decide) h)) (by decide)
  | .tuple ds, h, hl => by
    rw [okQ] at h
    rw [txD, List.length_cons, List.length_append] at hl
    have := txL_len1 ds
    rw [gwD, okQL_gw ds h (by omega), decide_eq_true (by omega : ds.length ≤ 30000)]
    rfl
  | .none, h, _ => by simp [okQ] at h
  | .bool _, h, _ => by simp [okQ] at h
  | .str _, h, _ => by simp [okQ] at h
  | .list _, h, _ => by simp [okQ] at h
  | .dict _, h, _ => by simp [okQ] at h
theorem okQL_gw : ∀ ds : List PyData, okQL ds = true → (txL ds).length ≤ 30000 → gwL ds = true
  | [], _, _ => rfl
  | [d], h, hl => by
    rw [okQL, Bool.and_eq_true] at h
    rw [txL, txM, List.append_nil] at hl
    rw [gwL, okQ_gw d h.1 hl, gwL]
    rfl
  | d :: e :: ds, h, hl => by
    rw [okQL, Bool.and_eq_true] at h
    rw [txL_cons2, List.length_append, List.length_cons (as := txL (e :: ds))] at hl
    rw [gwL, okQ_gw d h.1 (by omega), okQL_gw (e :: ds) h.2 (by omega)]
    rfl
end
def optD : Option PyData → PyData
  | some d => d
  | none => .none
def sp_lparts : Sp := fun vs H Q _ => ∃ l : List Nat, vs = [.str (S l)] ∧ l.length ≤ 30000 ∧ ∀ D H', H D = none → Ex H H' → H' D = some (.lst ((partsL l).map fun p => .str (S p))) → Q (.ref D) H'
def sp_lread (K : PySem.W.Frag) (n : Nat) : Sp := fun vs H Q _ => ∃ (l : List Nat) (m : Nat), vs = [.str (S l), .int (m : Nat)] ∧ l.length ≤ 30000 ∧ m < n ∧ m ≤ 4 ∧ ∀ v H', Ex H H' → Fl K H' v (optD (readL m l)) → Q v H'
theorem one_dec (a b : Nat) : decide ([a] = [b]) = decide (a = b) := by
  by_cases h : a = b
  · rw [decide_eq_true h, h]; simp
  · rw [decide_eq_false h]; exact decide_eq_false fun z => h (List.cons.inj z).1
theorem ixN_last (n : Nat) : ixN (n + 1) (-1) = some n := by
  unfold ixN
  rw [if_neg (by omega), if_pos (by omega)]
  congr 1
  omega
theorem set_last {α : Type} (xs : List α) (v w : α) : (xs ++ [v]).set xs.length w = xs ++ [w] := by
  rw [List.set_append_right _ _ (Nat.le_refl _), Nat.sub_self]
  rfl
theorem optAll_none {os : List (Option PyData)} : optAll os = none ↔ none ∈ os := by
  induction os with
  | nil => simp [optAll]
  | cons o r ih =>
    unfold optAll
    cases o with
    | none => simp
    | some d =>
      cases hr : optAll r with
      | none =>
        dsimp only
        rw [hr] at ih
        simpa using ih
      | some es =>
        dsimp only
        rw [hr] at ih
        simpa using ih
/-- None among what was read -/
theorem any_none {os : List (Option PyData)} (h : ∀ d, some d ∈ os → okQ d = true) : ((os.map optD).any fun z => PyData.eqv z .none) = (optAll os).isNone := by
  have key : ((os.map optD).any fun z => PyData.eqv z .none) = true ↔ none ∈ os := by
    rw [List.any_map, List.any_eq_true]
    constructor
    · rintro ⟨o, ho, e⟩
      cases o with
      | none => exact ho
      | some d =>
        have hd := h d ho
        cases d <;> first | (simp [okQ] at hd; done) | cases e
    · intro hm
      exact ⟨none, hm, rfl⟩
  cases hO : optAll os with
  | none => rw [key.mpr (optAll_none.mp hO)]; rfl
  | some ds =>
    cases hb : ((os.map optD).any fun z => PyData.eqv z .none) with
    | false => rfl
    | true =>
      have := optAll_none.mpr (key.mp hb)
      rw [hO] at this
      cases this
mutual
theorem okQ_lay : ∀ d : PyData, okQ d = true → PyData.canLay0 d = true ∧ PyData.depth d = tdp d
  | .int i, _ => ⟨rfl, rfl⟩
  | .tuple ds, h => by
    rw [okQ] at h
    obtain ⟨a, b⟩ := okQL_lay ds h
    exact ⟨by rw [PyData.canLay0]; exact a, by rw [PyData.depth, tdp, b]; omega⟩
  | .none, h => by simp [okQ] at h
  | .bool _, h => by simp [okQ] at h
  | .str _, h => by simp [okQ] at h
  | .list _, h => by simp [okQ] at h
  | .dict _, h => by simp [okQ] at h
theorem okQL_lay : ∀ ds : List PyData, okQL ds = true → PyData.canLayAll0 ds = true ∧ PyData.depthAll ds = tdpL ds
  | [], _ => ⟨rfl, rfl⟩
  | d :: ds, h => by
    rw [okQL, Bool.and_eq_true] at h
    obtain ⟨a, b⟩ := okQ_lay d h.1
    obtain ⟨a2, b2⟩ := okQL_lay ds h.2
    exact ⟨by rw [PyData.canLayAll0, a, a2]; rfl, by rw [PyData.depthAll, tdpL, b, b2]⟩
end
theorem shaped_list {ds : List PyData} (h : ∀ d ∈ ds, PyData.canLay0 d = true ∧ PyData.depth d ≤ 50) : SeqAt.shaped (.list ds) = true := by
  have key : PyData.canLayAll0 ds = true ∧ PyData.depthAll ds ≤ 50 := by
    induction ds with
    | nil => exact ⟨rfl, Nat.zero_le _⟩
    | cons d ds ih =>
      obtain ⟨a, b⟩ := h d List.mem_cons_self
      obtain ⟨c, e⟩ := ih fun x hx => h x (List.mem_cons_of_mem _ hx)
      exact ⟨by rw [PyData.canLayAll0, a, c]; rfl, by rw [PyData.depthAll]; exact Nat.max_le.mpr ⟨b, e⟩⟩
  unfold SeqAt.shaped
  rw [PyData.canLay0, key.1, Bool.true_and, decide_eq_true_eq, PyData.depth]
  omega
theorem y_inD {K : PySem.W.Frag} {H : Hp} {Q : VK} {x : V} {g : Addr} {d : PyData} {ws : List V} {ds : List PyData} (hx : Fl K H x d) (hS : SqL K H g ws) (hF : FlAll K H ws ds) (s1 : SeqAt.shaped d = true) (s2 : SeqAt.shaped (.list ds) = true) (q : Q (.bl (ds.any fun z => PyData.eqv z d)) H) : rInU K x (.ref g) H Q :=
  .inr (.inr ⟨d, ds, hx.dp, .lst hS hF.dpA, s1, s2, q⟩)
theorem flS {K : PySem.W.Frag} {H : Hp} : ∀ ps : List (List Nat), FlAll K H (ps.map fun p => V.str (S p)) (ps.map fun p => PyData.str (S p))
  | [] => .nil
  | p :: ps => .cons (.str _) (flS ps)
theorem S_codes (l : List Nat) : (S l).cps.toList = l := by
  show l.toArray.toList = l
  simp
theorem cut3 {tt : TT} {σ : L2.St} {H : Hp} {QT : Bool → Hp → Prop} (P : Bool → Hp → Prop) (h : ∀ Q', (∀ b H', P b H' → Q' b H') → tt σ H Q') (k : ∀ b H', P b H' → QT b H') : tt σ H QT := h QT k
end Ls
end

section
set_option Elab.async false
set_option linter.all false
set_option maxRecDepth 100000
set_option maxHeartbeats 4000000
namespace Ls
open PySem PySem.Spec PyProof.Rows L2 SX LamX
def As (l : List Nat) : Prop := ∀ c ∈ l, c < 128
instance (l : List Nat) : Decidable (As l) := inferInstanceAs (Decidable (∀ c ∈ l, c < 128))
theorem y_ixAll {K : PySem.W.Frag} {H : Hp} {Q : VK} {p : Addr} {xs : List V} {d : Int} (b : V → Bool) (h : SqL K H p xs) (h0 : 0 ≤ d) (h1 : d < xs.length) (hb : xs.all b = true) (q : ∀ v, b v = true → Q v H) : rIx K (.ref p) (.int d) H Q := by
  obtain ⟨i, rfl⟩ : ∃ i : Nat, d = (i : Nat) := ⟨d.toNat, by omega⟩
  have hi : i < xs.length := by omega
  exact y_ixL (v := xs[i]) h (atI_nat (List.getElem?_eq_getElem hi)) (q _ (List.all_eq_true.mp hb _ (List.getElem_mem hi)))
def okSB (n : Nat) : V → Bool
  | .str z => decide (z.cps.toList.length ≤ n) && z.cps.toList.all (fun c => decide (c < 128))
  | _ => false
theorem S_eta (z : Str) : z = S z.cps.toList := TL.ext_tl rfl
theorem okSB_inv {n : Nat} {v : V} (h : okSB n v = true) : ∃ l : List Nat, v = .str (S l) ∧ l.length ≤ n ∧ As l := by
  cases v with
  | str z =>
    have h : (decide (z.cps.toList.length ≤ n) && z.cps.toList.all (fun c => decide (c < 128))) = true := h
    rw [Bool.and_eq_true, decide_eq_true_eq, List.all_eq_true] at h
    exact ⟨z.cps.toList, congrArg V.str (S_eta z), h.1, fun c hc => of_decide_eq_true (h.2 c hc)⟩
  | _ => cases h
def okIB (a b : Int) : V → Bool
  | .int i => decide (a ≤ i) && decide (i ≤ b)
  | _ => false
theorem okIB_inv {a b : Int} {v : V} (h : okIB a b v = true) : ∃ i : Int, v = .int i ∧ a ≤ i ∧ i ≤ b := by
  cases v with
  | int i =>
    have h : (decide (a ≤ i) && decide (i ≤ b)) = true := h
    rw [Bool.and_eq_true, decide_eq_true_eq, decide_eq_true_eq] at h
    exact ⟨i, rfl, h.1, h.2⟩
  | _ => cases h
theorem As.app {a b : List Nat} (h : As a) (k : As b) : As (a ++ b) := fun c hc => (List.mem_append.mp hc).elim (h c) (k c)
theorem As.take {a : List Nat} (n : Nat) (h : As a) : As (a.take n) := fun c hc => h c (List.mem_of_mem_take hc)
theorem As.drop {a : List Nat} (n : Nat) (h : As a) : As (a.drop n) := fun c hc => h c (List.mem_of_mem_drop hc)
theorem As.rep {c n : Nat} (h : c < 128) : As (List.replicate n c) := fun x hx => by rw [List.eq_of_mem_replicate hx]; exact h
theorem joinL_mem {a : List Nat} {c : Nat} : ∀ {ys : List (List Nat)}, c ∈ TL.joinL a ys → c ∈ a ∨ ∃ y ∈ ys, c ∈ y
  | [], h => by cases h
  | [y], h => .inr ⟨y, List.mem_cons_self, h⟩
  | y :: z :: ys, h => by
    have h : c ∈ y ++ (a ++ TL.joinL a (z :: ys)) := h
    rcases List.mem_append.mp h with h | h
    · exact .inr ⟨y, List.mem_cons_self, h⟩
    · rcases List.mem_append.mp h with h | h
      · exact .inl h
      · rcases joinL_mem h with h | ⟨w, hw, h⟩
        · exact .inl h
        · exact .inr ⟨w, List.mem_cons_of_mem _ hw, h⟩
theorem As.join {a : List Nat} {ys : List (List Nat)} (h : As a) (k : ∀ y ∈ ys, As y) : As (TL.joinL a ys) := fun c hc => by
  rcases joinL_mem hc with h1 | ⟨y, hy, h1⟩
  · exact h c h1
  · exact k y hy c h1
theorem joinL_rep (n : Nat) : (TL.joinL [44] (List.replicate n [53])).length ≤ 2 * n := by
  induction n with
  | zero => exact Nat.zero_le _
  | succ n ih =>
    cases n with
    | zero => exact by decide
    | succ n =>
      rw [List.replicate_succ] at ih ⊢
      rw [List.replicate_succ]
      show ([53] ++ ([44] ++ TL.joinL [44] ([53] :: List.replicate n [53]))).length ≤ _
      rw [List.length_append, List.length_append]
      simp only [List.length_singleton]
      omega
theorem lay_str {z : Str} (h : As (TL.tl z)) : PyData.canLay0 (.str z) = true := by
  rw [PyData.canLay0]
  show z.cps.all (· < 0x110000) = true
  rw [← Array.all_toList, List.all_eq_true]
  intro c hc
  exact decide_eq_true (Nat.lt_trans (h c hc) (by decide))
mutual
theorem shown_as : ∀ d : PyData, nsD d = true → As (TL.tl (PyData.shown d))
  | .int i, _ => by
    rw [PyData.shown_int, show ((toString i : String) : Str) = S (intL i) from str_int i]
    exact intL_ascii i
  | .tuple ds, h => by
    rw [nsD, Bool.and_eq_true] at h
    rw [PyData.shown_tuple, TL.tl_append, TL.tl_append, TL.tl_join]
    refine (As.app (by decide +kernel) (As.join (by decide +kernel) (shownAll_as ds h.2))).app ?_
    split
    · decide +kernel
    · decide +kernel
  | .none, h => by simp [nsD] at h
  | .bool _, h => by simp [nsD] at h
  | .str _, h => by simp [nsD] at h
  | .list _, h => by simp [nsD] at h
  | .dict _, h => by simp [nsD] at h
theorem shownAll_as : ∀ ds : List PyData, nsL ds = true → ∀ y ∈ (PyData.shownAll ds).map TL.tl, As y
  | [], _, y, hy => by rw [PyData.shownAll_nil] at hy; cases hy
  | d :: ds, h, y, hy => by
    rw [nsL, Bool.and_eq_true] at h
    rw [PyData.shownAll_cons, List.map_cons] at hy
    rcases List.mem_cons.mp hy with rfl | hy
    · exact shown_as d h.1
    · exact shownAll_as ds h.2 y hy
end
theorem V_as {d : PyData} (h : isV d = true) : As (TL.tl (PyData.shown d)) := by
  unfold isV at h
  cases hf : isF d with
  | true =>
    have e := isF_inv hf
    subst e
    decide +kernel
  | false =>
    rw [hf, Bool.false_or] at h
    exact shown_as d (isD_parts h).1
def readD (e : PyData) : PyData := .list [.str (Str.ofString "read"), e]
def refD (i : Int) : PyData := .list [.str (Str.ofString "refused"), .int i, .bool true]
def dueT : PyData → PyData
  | .str z => match prV z.cps.toList with
    | some e => readD e
    | none => refD 1
  | _ => refD 0
theorem dueT_S (l : List Nat) : dueT (.str (S l)) = match prV l with
    | some e => readD e
    | none => refD 1 := by
  show (match prV (S l).cps.toList with
    | some e => readD e
    | none => refD 1) = _
  rw [S_codes]
theorem dueT_no {d : PyData} (h : isStr d = false) : dueT d = refD 0 := by
  cases d with
  | str z => cases h
  | _ => rfl
theorem readD_bs {e : PyData} (h : isV e = true) : Bs 10007 5 (readD e) := by
  have := Bs.lst (b := 5000) (k := 4) (n := 2) (ds := [.str (Str.ofString "read"), e]) (fun d hd => by
    simp only [List.mem_cons, List.not_mem_nil, or_false] at hd
    rcases hd with rfl | rfl
    · exact ⟨rfl, by decide +kernel, by decide +kernel⟩
    · exact V_bs h) (by simp)
  exact this
theorem refD_bs {i : Int} (h : i = 0 ∨ i = 1) : Bs 100 5 (refD i) := by
  rcases h with rfl | rfl
  · exact ⟨by decide +kernel, by decide +kernel, by decide +kernel⟩
  · exact ⟨by decide +kernel, by decide +kernel, by decide +kernel⟩
theorem dueT_bs (d : PyData) : Bs 10007 5 (dueT d) := by
  have r0 : Bs 10007 5 (refD 0) := let z := refD_bs (i := 0) (.inl rfl); ⟨z.sh, Nat.le_trans z.len (by decide), z.dep⟩
  have r1 : Bs 10007 5 (refD 1) := let z := refD_bs (i := 1) (.inr rfl); ⟨z.sh, Nat.le_trans z.len (by decide), z.dep⟩
  cases hs : isStr d with
  | false => rw [dueT_no hs]; exact r0
  | true =>
    cases d with
    | str z =>
      rw [S_eta z, dueT_S]
      cases hp : prV z.cps.toList with
      | none => exact r1
      | some e => exact readD_bs (prV_some hp).1
    | _ => cases hs
theorem shown_two (a b : PyData) : TL.tl (PyData.shown (.list [a, b])) = TL.tl (Str.ofString "[") ++ (TL.tl (PyData.shown a) ++ (TL.tl (Str.ofString ", ") ++ TL.tl (PyData.shown b))) ++ TL.tl (Str.ofString "]") := by
  rw [PyData.shown_list, TL.tl_append, TL.tl_append, TL.tl_join, PyData.shownAll_cons, PyData.shownAll_cons, PyData.shownAll_nil]
  rfl
theorem readD_as {e : PyData} (h : isV e = true) : As (TL.tl (PyData.shown (readD e))) := by
  unfold readD
  rw [shown_two]
  exact (As.app (by decide +kernel) ((show As (TL.tl (PyData.shown (.str (Str.ofString "read")))) by decide +kernel).app ((show As (TL.tl (Str.ofString ", ")) by decide +kernel).app (V_as h)))).app (by decide +kernel)
theorem dueT_as (d : PyData) : As (TL.tl (PyData.shown (dueT d))) := by
  have r0 : As (TL.tl (PyData.shown (refD 0))) := by decide +kernel
  have r1 : As (TL.tl (PyData.shown (refD 1))) := by decide +kernel
  cases hs : isStr d with
  | false => rw [dueT_no hs]; exact r0
  | true =>
    cases d with
    | str z =>
      rw [S_eta z, dueT_S]
      cases hp : prV z.cps.toList with
      | none => exact r1
      | some e => exact readD_as (prV_some hp).1
    | _ => cases hs
/-- two texts twice -/
theorem twice_shaped {z : Str} (h : As (TL.tl z)) : SeqAt.shaped (.list [.str z, .str z]) = true := shaped_list fun d hd => by
  simp only [List.mem_cons, List.not_mem_nil, or_false, or_self] at hd
  subst hd
  exact ⟨lay_str h, by rw [PyData.depth]; decide⟩
structure Rw (d : PyData) : Prop where
  sh : shW d = true
  len : (PyData.shown d).length ≤ 1000000
  dep : PyData.depth d ≤ 10
theorem Rw.str {l : List Nat} (hl : l.length ≤ 30000) (h : As l) : Rw (.str (S l)) := by
  refine ⟨rfl, ?_, by rw [PyData.depth]; exact Nat.zero_le _⟩
  rw [PyData.shown_str]
  have := StrLaws.reprText_len (S l) (fun c hc => Nat.lt_trans (h c hc) (by decide))
  have e := S_len l
  omega
theorem Rw.of {d : PyData} (h : Rq d) : Rw d := ⟨h.sh, Nat.le_trans h.len (by decide), h.dep⟩
theorem y_repW {K : PySem.W.Frag} {H : Hp} {Q : VK} {x : V} {d : PyData} (h : Dt K H x d) (r : Rw d) (q : Q (.str d.shown) H) : rRepr K [x] H Q := y_repr h r.sh (Nat.le_trans r.len (by decide)) (by have := r.dep; omega) q
def sp_ltextW (K : PySem.W.Frag) (n : Nat) : Sp := fun vs H Q _ => ∃ v d, vs = [v] ∧ Fl K H v d ∧ nsD d = true ∧ smD d = true ∧ szD d ≤ 8000 ∧ tdp d < n ∧ ∀ H', Ex H H' → Q (.str (S (txD d))) H'
def sp_lspoilt : Sp := fun vs H Q _ => ∃ (p : Addr) (l : List Nat), vs = [.ref p, .str (S l)] ∧ Pt H p ∧ l.length ≤ 25000 ∧ As l ∧ ∀ l' H', l'.length ≤ l.length + 3 → As l' → Pt H' p → Em p H H' → Q (.str (S l')) H'
def sp_drawT (n : Nat) : Sp := fun vs H Q _ => ∃ p : Addr, vs = [.ref p] ∧ Pt H p ∧ ∀ l H', l.length ≤ n → As l → Pt H' p → Em p H H' → Q (.str (S l)) H'
def sp_ldueT (K : PySem.W.Frag) : Sp := fun vs H Q _ => ∃ v d, vs = [v] ∧ Dt K H v d ∧ ((∃ l : List Nat, d = .str (S l) ∧ l.length ≤ 30000) ∨ isStr d = false) ∧ ∀ r H', Ex H H' → Dt K H' (.ref r) (dueT d) → Q (.ref r) H'
/-- what _law_told makes of a call that may raise InvalidText -/
def TTtext (K : PySem.W.Frag) (C : Addr) (tl : XK → Hp → VK → Prop) (H : Hp) (Q : VK) : Prop := ∀ (H0 : Hp) (E : XK) (Qn : VK), Ex H H0 →
  (∀ (H' : Hp) (dd : Addr) (i : Int), H' dd = some (.xd [("line", .int i)]) → Ex H0 H' → (∀ a H2, Ex H' H2 → H2 a = some (.lst [.str (Str.ofString "refused"), .int i, .bl true]) → Q (.ref a) H2) → E (.ref C) (some dd) H') →
  (∀ v H', Ex H0 H' → (∀ a H2, Ex H' H2 → H2 a = some (.lst [.str (Str.ofString "read"), v]) → Q (.ref a) H2) → Qn v H') → tl E H0 Qn
/-- a list that tells of a text: at r -/
def ToldT (K : PySem.W.Frag) (d : PyData) (r : Addr) (H : Hp) : Prop :=
  (∃ l e x, d = .str (S l) ∧ prV l = some e ∧ Fl K H x e ∧ H r = some (.lst [.str (Str.ofString "read"), x])) ∨ (∃ i : Int, dueT d = refD i ∧ H r = some (.lst [.str (Str.ofString "refused"), .int i, .bl true]))
theorem ToldT.dt {K : PySem.W.Frag} {d : PyData} {r : Addr} {H : Hp} (h : ToldT K d r H) : Dt K H (.ref r) (dueT d) := by
  rcases h with ⟨l, e, x, rfl, hp, hF, h⟩ | ⟨i, hd, h⟩
  · rw [dueT_S, hp]
    exact .lst (.of h) (.cons (.str _) (.cons hF.dt .nil))
  · rw [hd]
    exact .lst (.of h) (.cons (.str _) (.cons (.int _) (.cons (.bl _) .nil)))
theorem ToldT.fst {K : PySem.W.Frag} {d : PyData} {r : Addr} {H : Hp} (h : ToldT K d r H) : ∃ z xs, H r = some (.lst (.str z :: xs)) := by
  rcases h with ⟨_, _, _, _, _, _, h⟩ | ⟨_, _, h⟩ <;> exact ⟨_, _, h⟩
theorem ToldT.on {K : PySem.W.Frag} {d : PyData} {r : Addr} {H H' : Hp} (h : ToldT K d r H) (e : ∀ xs, H r = some (.lst xs) → H' r = some (.lst xs)) (t : Et H H') : ToldT K d r H' := by
  rcases h with ⟨l, x, y, a, b, c, h⟩ | ⟨i, a, h⟩
  · exact .inl ⟨l, x, y, a, b, c.mono t, e _ h⟩
  · exact .inr ⟨i, a, e _ h⟩
theorem twice_eqv (z : Str) : PyData.eqv (.list [.str z, .str z]) (.list [.str z, .str z]) = true := by
  have : PyData.eqv (.list [.str z, .str z]) (.list [.str z, .str z]) = ((z == z) && ((z == z) && true)) := rfl
  rw [this]
  simp
theorem pick_litT {K : PySem.W.Frag} {p : Addr} {H0 H : Hp} {g : PyData → Bool} {l : Addr} {vs : List V} {ds : List PyData} {Q : VK} {E : XK} (hP : Pt H p) (h00 : H0 p ≠ none) (hn : l ≠ p) (hl : H l = some (.lst vs)) (hD : DtAll K (nw H0 H) vs ds) (h0 : 0 < vs.length) (h1 : vs.length ≤ 1000) (hg : ds.all g = true)
    (q : ∀ v d H', Dt K (nw H0 H') v d → g d = true → Pt H' p → Em p H H' → Q v H') : sp_pick K [.ref p, .ref l] H Q E :=
  ⟨p, l, vs, rfl, hP, .of hl, hn, h0, h1, fun v H' hv P' e => by
    obtain ⟨d, hd, hv2⟩ := hD.mem hv
    exact q v d H' (hv2.mono (nw_em h00 e)) (List.all_eq_true.mp hg d hd) P' e⟩
def oddT (d : PyData) : Bool := bdB 60 3 d && !isStr d
/-- what the law asks about: a text, or another thing -/
def InT (K : PySem.W.Frag) (Ts : List (Addr × Str)) (p : Addr) (v : V) (d : PyData) (H0 H' : Hp) : Prop :=
  Dt K (mo H' p) v d ∧ ((∃ l : List Nat, d = .str (S l) ∧ l.length ≤ 30000) ∨ isStr d = false) ∧ Rw d ∧ Pt H' p ∧ Tabs Ts H' ∧ Eo p H0 H'
theorem eo_newT {p l : Addr} {H4 H5 H6 H7 : Hp} (e5 : Ex H4 H5) (n : H4 l = none) (e6 : Eo p H5 H6) (e7 : Em l H6 H7) : Eo p H4 H7 := fun a o h => by
  obtain ⟨n1, h1, z⟩ := mo_some h
  exact mo_of n1 (e7 _ _ (ne_of_none h1 n) (mo_some (e6 a o (mo_of n1 (e5 _ _ h1) z))).2.1) z
theorem pot_neS {H : Hp} {p r : Addr} {z : Str} {xs : List V} (hP : Pt H p) (h : H r = some (.lst (.str z :: xs))) : r ≠ p := fun e => by
  obtain ⟨_, _, hp, _⟩ := hP
  rw [e, hp] at h
  cases h
theorem pot_emT {H H1 : Hp} {p l : Addr} (h : Pt H p) (n : p ≠ l) (e : Em l H H1) : Pt H1 p := let ⟨a, b, h1, h2⟩ := h; ⟨a, b, e _ _ n h1, h2⟩
end Ls
end

section
set_option Elab.async false
set_option linter.all false
set_option maxRecDepth 100000
set_option maxHeartbeats 4000000
namespace My
open PySem PySem.Spec PyProof.Rows L2 Ls
def topS (i : Nat) : Stmt := PySem.Challenge.pw_leastsession_k12_texts_read.main.body.getD i (.Pass ⟨0, 0, 0, 0⟩)
abbrev s_is_int : Stmt := topS 15
abbrev N_is_int : List Str := ["value"]
abbrev P_is_int : List Str := ["value"]
theorem sc_is_int : FnScope N_is_int (P_is_int) (defScope s_is_int) := ⟨rfl, rfl, rfl, by decide +kernel, rfl, by decide +kernel, by decide +kernel⟩
abbrev s_is_nested : Stmt := topS 16
abbrev N_is_nested : List Str := ["value", "item"]
abbrev P_is_nested : List Str := ["value"]
theorem sc_is_nested : FnScope N_is_nested (P_is_nested) (defScope s_is_nested) := ⟨rfl, rfl, rfl, by decide +kernel, rfl, by decide +kernel, by decide +kernel⟩
abbrev s_depth_of : Stmt := topS 17
abbrev N_depth_of : List Str := ["datum", "item"]
abbrev P_depth_of : List Str := ["datum"]
theorem sc_depth_of : FnScope N_depth_of (P_depth_of) (defScope s_depth_of) := ⟨rfl, rfl, rfl, by decide +kernel, rfl, by decide +kernel, by decide +kernel⟩
abbrev s_datum_size : Stmt := topS 18
abbrev N_datum_size : List Str := ["datum", "item"]
abbrev P_datum_size : List Str := ["datum"]
theorem sc_datum_size : FnScope N_datum_size (P_datum_size) (defScope s_datum_size) := ⟨rfl, rfl, rfl, by decide +kernel, rfl, by decide +kernel, by decide +kernel⟩
abbrev s_is_datum : Stmt := topS 19
abbrev N_is_datum : List Str := ["value"]
abbrev P_is_datum : List Str := ["value"]
theorem sc_is_datum : FnScope N_is_datum (P_is_datum) (defScope s_is_datum) := ⟨rfl, rfl, rfl, by decide +kernel, rfl, by decide +kernel, by decide +kernel⟩
abbrev s_is_fault : Stmt := topS 20
abbrev N_is_fault : List Str := ["value"]
abbrev P_is_fault : List Str := ["value"]
theorem sc_is_fault : FnScope N_is_fault (P_is_fault) (defScope s_is_fault) := ⟨rfl, rfl, rfl, by decide +kernel, rfl, by decide +kernel, by decide +kernel⟩
abbrev s_is_value : Stmt := topS 21
abbrev N_is_value : List Str := ["value"]
abbrev P_is_value : List Str := ["value"]
theorem sc_is_value : FnScope N_is_value (P_is_value) (defScope s_is_value) := ⟨rfl, rfl, rfl, by decide +kernel, rfl, by decide +kernel, by decide +kernel⟩
abbrev s_check_value : Stmt := topS 22
abbrev N_check_value : List Str := ["value"]
abbrev P_check_value : List Str := ["value"]
theorem sc_check_value : FnScope N_check_value (P_check_value) (defScope s_check_value) := ⟨rfl, rfl, rfl, by decide +kernel, rfl, by decide +kernel, by decide +kernel⟩
abbrev s_datum_text : Stmt := topS 23
abbrev N_datum_text : List Str := ["datum", "item"]
abbrev P_datum_text : List Str := ["datum"]
theorem sc_datum_text : FnScope N_datum_text (P_datum_text) (defScope s_datum_text) := ⟨rfl, rfl, rfl, by decide +kernel, rfl, by decide +kernel, by decide +kernel⟩
abbrev s_format_value : Stmt := topS 24
abbrev N_format_value : List Str := ["value"]
abbrev P_format_value : List Str := ["value"]
theorem sc_format_value : FnScope N_format_value (P_format_value) (defScope s_format_value) := ⟨rfl, rfl, rfl, by decide +kernel, rfl, by decide +kernel, by decide +kernel⟩
abbrev s_read_integer : Stmt := topS 25
abbrev N_read_integer : List Str := ["text", "at", "first", "end", "word"]
abbrev P_read_integer : List Str := ["text", "at"]
theorem sc_read_integer : FnScope N_read_integer (P_read_integer) (defScope s_read_integer) := ⟨rfl, rfl, rfl, by decide +kernel, rfl, by decide +kernel, by decide +kernel⟩
abbrev s_read_tuple : Stmt := topS 26
abbrev N_read_tuple : List Str := ["text", "at", "depth", "items", "is_more", "item"]
abbrev P_read_tuple : List Str := ["text", "at", "depth"]
theorem sc_read_tuple : FnScope N_read_tuple (P_read_tuple) (defScope s_read_tuple) := ⟨rfl, rfl, rfl, by decide +kernel, rfl, by decide +kernel, by decide +kernel⟩
abbrev s_read_datum : Stmt := topS 27
abbrev N_read_datum : List Str := ["text", "at", "depth"]
abbrev P_read_datum : List Str := ["text", "at", "depth"]
theorem sc_read_datum : FnScope N_read_datum (P_read_datum) (defScope s_read_datum) := ⟨rfl, rfl, rfl, by decide +kernel, rfl, by decide +kernel, by decide +kernel⟩
abbrev s_parse_value : Stmt := topS 28
abbrev N_parse_value : List Str := ["text", "datum", "end"]
abbrev P_parse_value : List Str := ["text"]
theorem sc_parse_value : FnScope N_parse_value (P_parse_value) (defScope s_parse_value) := ⟨rfl, rfl, rfl, by decide +kernel, rfl, by decide +kernel, by decide +kernel⟩
abbrev s_law_pot : Stmt := topS 30
abbrev N_law_pot : List Str := ["_law_script", "_law_index", "_law_cell"]
abbrev P_law_pot : List Str := ["_law_script", "_law_index"]
theorem sc_law_pot : FnScope N_law_pot (P_law_pot) (defScope s_law_pot) := ⟨rfl, rfl, rfl, by decide +kernel, rfl, by decide +kernel, by decide +kernel⟩
abbrev s_law_digit : Stmt := topS 31
abbrev N_law_digit : List Str := ["_law_pot_here", "_law_many", "_law_digit_here"]
abbrev P_law_digit : List Str := ["_law_pot_here", "_law_many"]
theorem sc_law_digit : FnScope N_law_digit (P_law_digit) (defScope s_law_digit) := ⟨rfl, rfl, rfl, by decide +kernel, rfl, by decide +kernel, by decide +kernel⟩
abbrev s_law_pick : Stmt := topS 32
abbrev N_law_pick : List Str := ["_law_pot_here", "_law_some"]
abbrev P_law_pick : List Str := ["_law_pot_here", "_law_some"]
theorem sc_law_pick : FnScope N_law_pick (P_law_pick) (defScope s_law_pick) := ⟨rfl, rfl, rfl, by decide +kernel, rfl, by decide +kernel, by decide +kernel⟩
abbrev s_law_int : Stmt := topS 33
abbrev N_law_int : List Str := ["_law_pot_here", "_law_way", "_law_great"]
abbrev P_law_int : List Str := ["_law_pot_here"]
theorem sc_law_int : FnScope N_law_int (P_law_int) (defScope s_law_int) := ⟨rfl, rfl, rfl, by decide +kernel, rfl, by decide +kernel, by decide +kernel⟩
abbrev s_law_datum : Stmt := topS 34
abbrev N_law_datum : List Str := ["_law_pot_here", "_law_deep_here", "_law_k"]
abbrev P_law_datum : List Str := ["_law_pot_here", "_law_deep_here"]
theorem sc_law_datum : FnScope N_law_datum (P_law_datum) (defScope s_law_datum) := ⟨rfl, rfl, rfl, by decide +kernel, rfl, by decide +kernel, by decide +kernel⟩
abbrev s_law_size : Stmt := topS 35
abbrev N_law_size : List Str := ["_law_thing", "_law_each"]
abbrev P_law_size : List Str := ["_law_thing"]
theorem sc_law_size : FnScope N_law_size (P_law_size) (defScope s_law_size) := ⟨rfl, rfl, rfl, by decide +kernel, rfl, by decide +kernel, by decide +kernel⟩
abbrev s_law_deep : Stmt := topS 36
abbrev N_law_deep : List Str := ["_law_thing", "_law_each"]
abbrev P_law_deep : List Str := ["_law_thing"]
theorem sc_law_deep : FnScope N_law_deep (P_law_deep) (defScope s_law_deep) := ⟨rfl, rfl, rfl, by decide +kernel, rfl, by decide +kernel, by decide +kernel⟩
abbrev s_law_fits : Stmt := topS 37
abbrev N_law_fits : List Str := ["_law_thing", "_law_each"]
abbrev P_law_fits : List Str := ["_law_thing"]
theorem sc_law_fits : FnScope N_law_fits (P_law_fits) (defScope s_law_fits) := ⟨rfl, rfl, rfl, by decide +kernel, rfl, by decide +kernel, by decide +kernel⟩
abbrev s_law_text : Stmt := topS 38
abbrev N_law_text : List Str := ["_law_thing", "_law_each"]
abbrev P_law_text : List Str := ["_law_thing"]
theorem sc_law_text : FnScope N_law_text (P_law_text) (defScope s_law_text) := ⟨rfl, rfl, rfl, by decide +kernel, rfl, by decide +kernel, by decide +kernel⟩
abbrev s_law_spoilt : Stmt := topS 39
abbrev N_law_spoilt : List Str := ["_law_pot_here", "_law_words_here", "_law_turn", "_law_at", "_law_way", "_law_sign"]
abbrev P_law_spoilt : List Str := ["_law_pot_here", "_law_words_here"]
theorem sc_law_spoilt : FnScope N_law_spoilt (P_law_spoilt) (defScope s_law_spoilt) := ⟨rfl, rfl, rfl, by decide +kernel, rfl, by decide +kernel, by decide +kernel⟩
abbrev s_law_fixed : Stmt := topS 40
abbrev N_law_fixed : List Str := ["_law_pot_here", "_law_some"]
abbrev P_law_fixed : List Str := ["_law_pot_here"]
theorem sc_law_fixed : FnScope N_law_fixed (P_law_fixed) (defScope s_law_fixed) := ⟨rfl, rfl, rfl, by decide +kernel, rfl, by decide +kernel, by decide +kernel⟩
abbrev s_law_words : Stmt := topS 41
abbrev N_law_words : List Str := ["_law_pot_here", "_law_way", "_law_many", "_law_deep_here", "_law_inner", "_law_shut", "_law_wide"]
abbrev P_law_words : List Str := ["_law_pot_here"]
theorem sc_law_words : FnScope N_law_words (P_law_words) (defScope s_law_words) := ⟨rfl, rfl, rfl, by decide +kernel, rfl, by decide +kernel, by decide +kernel⟩
abbrev s_law_parts : Stmt := topS 42
abbrev N_law_parts : List Str := ["_law_words_here", "_law_found", "_law_deep_here", "_law_sign"]
abbrev P_law_parts : List Str := ["_law_words_here"]
theorem sc_law_parts : FnScope N_law_parts (P_law_parts) (defScope s_law_parts) := ⟨rfl, rfl, rfl, by decide +kernel, rfl, by decide +kernel, by decide +kernel⟩
abbrev s_law_read : Stmt := topS 43
abbrev N_law_read : List Str := ["_law_words_here", "_law_room", "_law_found", "_law_part", "_law_rest", "_law_sign"]
abbrev P_law_read : List Str := ["_law_words_here", "_law_room"]
theorem sc_law_read : FnScope N_law_read (P_law_read) (defScope s_law_read) := ⟨rfl, rfl, rfl, by decide +kernel, rfl, by decide +kernel, by decide +kernel⟩
abbrev s_law_due : Stmt := topS 44
abbrev N_law_due : List Str := ["_law_words_here", "_law_found"]
abbrev P_law_due : List Str := ["_law_words_here"]
theorem sc_law_due : FnScope N_law_due (P_law_due) (defScope s_law_due) := ⟨rfl, rfl, rfl, by decide +kernel, rfl, by decide +kernel, by decide +kernel⟩
abbrev s_law_told : Stmt := topS 45
abbrev N_law_told : List Str := ["_law_call", "_law_told_here", "e", "_law_others"]
abbrev P_law_told : List Str := ["_law_call"]
theorem sc_law_told : FnScope N_law_told (P_law_told) (defScope s_law_told) := ⟨rfl, rfl, rfl, by decide +kernel, rfl, by decide +kernel, by decide +kernel⟩
abbrev s_law_right : Stmt := topS 46
abbrev N_law_right : List Str := ["_law_pot_here", "_law_words_here", "_law_shown", "_law_due_here", "_law_told_here", "_law_each"]
abbrev P_law_right : List Str := ["_law_pot_here"]
theorem sc_law_right : FnScope N_law_right (P_law_right) (defScope s_law_right) := ⟨rfl, rfl, rfl, by decide +kernel, rfl, by decide +kernel, by decide +kernel⟩
abbrev s_law : Stmt := topS 47
abbrev N_law : List Str := ["_law_script", "_law_k", "_law_pot_here", "_law_turn"]
abbrev P_law : List Str := ["_law_script"]
theorem sc_law : FnScope N_law (P_law) (defScope s_law) := ⟨rfl, rfl, rfl, by decide +kernel, rfl, by decide +kernel, by decide +kernel⟩
abbrev i_InvalidValue : Stmt := (C8.clsBody (topS 2)).getD 0 (.Pass ⟨0, 0, 0, 0⟩)
abbrev P_i_InvalidValue : List Str := ["self", "value"]
theorem sc_i_InvalidValue : FnScope P_i_InvalidValue P_i_InvalidValue (defScope i_InvalidValue) := ⟨rfl, rfl, rfl, by decide +kernel, rfl, by decide +kernel, by decide +kernel⟩
abbrev i_InvalidText : Stmt := (C8.clsBody (topS 4)).getD 0 (.Pass ⟨0, 0, 0, 0⟩)
abbrev P_i_InvalidText : List Str := ["self", "line"]
theorem sc_i_InvalidText : FnScope P_i_InvalidText P_i_InvalidText (defScope i_InvalidText) := ⟨rfl, rfl, rfl, by decide +kernel, rfl, by decide +kernel, by decide +kernel⟩
structure Tx (K : PySem.W.Frag) (mg : Str → Option Value) (w : World) : Prop where
  n_ValueError : mg "ValueError" = none
  n_abs : mg "abs" = none
  n_all : mg "all" = none
  n_bool : mg "bool" = none
  n_divmod : mg "divmod" = none
  n_int : mg "int" = none
  n_isinstance : mg "isinstance" = none
  n_len : mg "len" = none
  n_max : mg "max" = none
  n_min : mg "min" = none
  n_range : mg "range" = none
  n_repr : mg "repr" = none
  n_str : mg "str" = none
  n_sum : mg "sum" = none
  n_tuple : mg "tuple" = none
  c_FAULT : ∃ u, mg "FAULT" = some u ∧ RelV (.str "fault") u
  c_MOST_ITEMS : ∃ u, mg "MOST_ITEMS" = some u ∧ RelV (.int 40) u
  c_MOST_DEPTH : ∃ u, mg "MOST_DEPTH" = some u ∧ RelV (.int 4) u
  c_MOST_SIZE : ∃ u, mg "MOST_SIZE" = some u ∧ RelV (.int 1000) u
  c_DIGITS : ∃ u, mg "DIGITS" = some u ∧ RelV (.str "0123456789") u
  d_is_int : Df K mg "is_int" s_is_int P_is_int
  d_is_nested : Df K mg "is_nested" s_is_nested P_is_nested
  d_depth_of : Df K mg "depth_of" s_depth_of P_depth_of
  d_datum_size : Df K mg "datum_size" s_datum_size P_datum_size
  d_is_datum : Df K mg "is_datum" s_is_datum P_is_datum
  d_is_fault : Df K mg "is_fault" s_is_fault P_is_fault
  d_is_value : Df K mg "is_value" s_is_value P_is_value
  d_check_value : Df K mg "check_value" s_check_value P_check_value
  d_datum_text : Df K mg "datum_text" s_datum_text P_datum_text
  d_format_value : Df K mg "format_value" s_format_value P_format_value
  d_read_integer : Df K mg "read_integer" s_read_integer P_read_integer
  d_read_tuple : Df K mg "read_tuple" s_read_tuple P_read_tuple
  d_read_datum : Df K mg "read_datum" s_read_datum P_read_datum
  d_parse_value : Df K mg "parse_value" s_parse_value P_parse_value
  d_law_pot : Df K mg "_law_pot" s_law_pot P_law_pot
  d_law_digit : Df K mg "_law_digit" s_law_digit P_law_digit
  d_law_pick : Df K mg "_law_pick" s_law_pick P_law_pick
  d_law_int : Df K mg "_law_int" s_law_int P_law_int
  d_law_datum : Df K mg "_law_datum" s_law_datum P_law_datum
  d_law_size : Df K mg "_law_size" s_law_size P_law_size
  d_law_deep : Df K mg "_law_deep" s_law_deep P_law_deep
  d_law_fits : Df K mg "_law_fits" s_law_fits P_law_fits
  d_law_text : Df K mg "_law_text" s_law_text P_law_text
  d_law_spoilt : Df K mg "_law_spoilt" s_law_spoilt P_law_spoilt
  d_law_fixed : Df K mg "_law_fixed" s_law_fixed P_law_fixed
  d_law_words : Df K mg "_law_words" s_law_words P_law_words
  d_law_parts : Df K mg "_law_parts" s_law_parts P_law_parts
  d_law_read : Df K mg "_law_read" s_law_read P_law_read
  d_law_due : Df K mg "_law_due" s_law_due P_law_due
  d_law_told : Df K mg "_law_told" s_law_told P_law_told
  d_law_right : Df K mg "_law_right" s_law_right P_law_right
  d_law : Df K mg "law" s_law P_law
  m_InvalidValue : mg "InvalidValue" = some (.ref (fA mg "InvalidValue"))
  m_SessionError : mg "SessionError" = some (.ref (fA mg "SessionError"))
  m_InvalidText : mg "InvalidText" = some (.ref (fA mg "InvalidText"))
  m_InvalidCommand : mg "InvalidCommand" = some (.ref (fA mg "InvalidCommand"))
  m_InvalidExpression : mg "InvalidExpression" = some (.ref (fA mg "InvalidExpression"))
  m_LimitError : mg "LimitError" = some (.ref (fA mg "LimitError"))
  m_MissingError : mg "MissingError" = some (.ref (fA mg "MissingError"))
  m_StateError : mg "StateError" = some (.ref (fA mg "StateError"))
  k_InvalidValue : Xd K mg "InvalidValue" bm_ValueError "ValueError.__new__" i_InvalidValue P_i_InvalidValue
  f_InvalidValue_value : PySem.W.takerIn K (fA mg "InvalidValue") "value" = some none
  g_InvalidValue_value : PySem.W.findIn K (.ref (fA mg "InvalidValue")) "value" = some none
  x_InvalidValue : ExcC K (fA mg "InvalidValue")
  v_InvalidValue : XfC K (fA mg "InvalidValue")
  e_InvalidValue_SessionError : PySem.W.exmOne K (.ref (fA mg "InvalidValue")) (.ref (fA mg "SessionError")) = some true
  q_InvalidValue_InvalidText : PySem.W.kitOne K (.ref (fA mg "InvalidValue")) (.ref (fA mg "InvalidText")) = some false
  q_InvalidValue_ValueError : PySem.W.kitOne K (.ref (fA mg "InvalidValue")) (.type "ValueError") = some true
  q_InvalidValue_InvalidCommand_InvalidExpression_InvalidValue : PySem.W.kitAny K (.ref (fA mg "InvalidValue")) [.ref (fA mg "InvalidCommand"), .ref (fA mg "InvalidExpression"), .ref (fA mg "InvalidValue")] = some true
  q_InvalidValue_LimitError_MissingError_StateError : PySem.W.kitAny K (.ref (fA mg "InvalidValue")) [.ref (fA mg "LimitError"), .ref (fA mg "MissingError"), .ref (fA mg "StateError")] = some false
  k_InvalidText : Xd K mg "InvalidText" bm_ValueError "ValueError.__new__" i_InvalidText P_i_InvalidText
  f_InvalidText_line : PySem.W.takerIn K (fA mg "InvalidText") "line" = some none
  g_InvalidText_line : PySem.W.findIn K (.ref (fA mg "InvalidText")) "line" = some none
  x_InvalidText : ExcC K (fA mg "InvalidText")
  v_InvalidText : XfC K (fA mg "InvalidText")
  e_InvalidText_SessionError : PySem.W.exmOne K (.ref (fA mg "InvalidText")) (.ref (fA mg "SessionError")) = some true
  q_InvalidText_InvalidText : PySem.W.kitOne K (.ref (fA mg "InvalidText")) (.ref (fA mg "InvalidText")) = some true
  q_InvalidText_ValueError : PySem.W.kitOne K (.ref (fA mg "InvalidText")) (.type "ValueError") = some true
  q_InvalidText_InvalidCommand_InvalidExpression_InvalidValue : PySem.W.kitAny K (.ref (fA mg "InvalidText")) [.ref (fA mg "InvalidCommand"), .ref (fA mg "InvalidExpression"), .ref (fA mg "InvalidValue")] = some false
  q_InvalidText_LimitError_MissingError_StateError : PySem.W.kitAny K (.ref (fA mg "InvalidText")) [.ref (fA mg "LimitError"), .ref (fA mg "MissingError"), .ref (fA mg "StateError")] = some false
  n_SessionError : Xn K mg "SessionError" "ValueError.__init__" (fA mg "SessionError")
end My
end

section
set_option Elab.async false
set_option linter.all false
set_option maxRecDepth 100000
set_option maxHeartbeats 4000000
namespace My
open PySem PySem.Spec PyProof.Rows L2 Ls SX
local macro_rules | `(tactic| walk_at "rd1") => `(tactic| (first | ((with_reducible refine' Ls.r_var ?hV ?_); (case hV => exact rfl)) | (with_reducible refine Ls.r_c ?_) | (with_reducible refine Ls.r_op ?_) | (with_reducible refine Ls.r_un ?_) | (with_reducible refine Ls.r_nil ?_) | (with_reducible refine Ls.r_cons ?_) | (with_reducible refine Ls.r_cb ?_) | (with_reducible refine Ls.r_ckw ?_) | (with_reducible refine Ls.r_cal ?_) | (with_reducible refine Ls.r_calK ?_) | (with_reducible refine Ls.r_tup ?_) | (with_reducible refine Ls.r_lst ?_) | (with_reducible refine Ls.r_if ?_) | (with_reducible refine Ls.r_andV ?_) | (with_reducible refine Ls.r_orV ?_) | (with_reducible refine Ls.r_notV ?_) | (with_reducible refine Ls.r_chain ?_) | (with_reducible refine Ls.r_sl ?_) | (with_reducible refine Ls.r_nopart ?_) | (with_reducible refine Ls.r_part ?_) | (with_reducible refine Ls.k_part ?_) | (with_reducible refine Ls.r_test ?_) | (with_reducible refine Ls.r_B ?_) | (with_reducible refine Ls.k_B ?_) | (with_reducible refine Ls.r_not ?_) | (with_reducible refine Ls.r_and ?_) | (with_reducible refine Ls.r_or ?_) | (with_reducible refine Ls.r_seq ?_) | (with_reducible refine Ls.r_ifS ?_) | (with_reducible refine Ls.r_next ?_) | (with_reducible refine Ls.r_brk ?_) | (with_reducible refine Ls.r_cont ?_) | (with_reducible refine Ls.r_ret ?_) | (with_reducible refine Ls.r_retN ?_) | (with_reducible refine Ls.r_drop ?_) | (with_reducible refine Ls.r_asg ?_) | (with_reducible refine Ls.r_par ?_) | (with_reducible refine Ls.k_par ?_) | ((with_reducible refine' Ls.r_aug ?hV ?_); (case hV => exact rfl)) | (with_reducible refine Ls.y_ip ?_) | (with_reducible refine Ls.g_name ?_) | (with_reducible refine Ls.g_nil ?_) | (with_reducible refine Ls.g_cons ?_) | (with_reducible refine Ls.g_sub ?_) | (with_reducible refine Ls.e_end ?_) | (with_reducible refine Ls.e_endr ?_) | (with_reducible refine Ls.e_nx ?_) | (with_reducible refine Ls.e_rt ?_) | (with_reducible refine Ls.e_bk ?_) | (with_reducible refine Ls.e_ct ?_) | (with_reducible refine Ls.r_for ?_) | (with_reducible refine Ls.i_seq ?_) | (with_reducible refine Ls.r_xi ?_) | (with_reducible refine Ls.r_xo ?_) | (with_reducible refine Ls.r_mk ?_) | (with_reducible refine Ls.r_xf ?_) | (with_reducible refine Ls.i_enum ?_) | (with_reducible refine Ls.i_rng1 ?_) | (with_reducible refine Ls.r_m1 ?_) | (with_reducible refine Ls.r_m0 ?_) | (with_reducible refine Ls.k_isS ?_) | (with_reducible refine Ls.r_bm ?_) | (with_reducible refine Ls.r_lc ?_) | (with_reducible refine Ls.y_add ?_) | (with_reducible refine Ls.y_sub ?_) | (with_reducible refine Ls.y_neg ?_) | (with_reducible refine Ls.y_lt ?_) | (with_reducible refine Ls.y_le ?_) | (with_reducible refine Ls.y_gt ?_) | (with_reducible refine Ls.y_ge ?_) | (with_reducible refine Ls.y_eqI ?_) | (with_reducible refine Ls.y_eqS ?_) | (with_reducible refine Ls.y_neI ?_) | (with_reducible refine Ls.y_neS ?_) | (with_reducible refine Ls.y_isNo ?_) | (with_reducible refine Ls.y_isntNo ?_) | (with_reducible refine Ls.y_abs ?_) | (with_reducible refine Ls.y_max2 ?_) | (with_reducible refine Ls.y_min2 ?_) | (with_reducible refine Ls.y_intI ?_) | (with_reducible refine Ls.y_intB ?_) | ((with_reducible refine' Ls.y_ixL ?hS ?hA ?_); (case hS => first | assumption | exact L2.SqL.of (by assumption)); (case hA => rfl)) | ((with_reducible refine' Ls.y_ixT ?hS ?hA ?_); (case hS => first | assumption | exact L2.SqT.of (by assumption)); (case hA => rfl)) | ((with_reducible refine' Ls.y_mod ?hC ?_); (case hC => first | decide | omega)) | ((with_reducible refine' Ls.y_fdiv ?hC ?_); (case hC => first | decide | (constructor <;> omega))) | ((with_reducible refine' Ls.y_pow ?hC ?_); (case hC => exact ⟨by decide, by decide, by decide⟩)) | ((with_reducible refine' Ls.y_mul ?hC ?_); (case hC => first | exact .inr ⟨by decide, by decide⟩ | exact .inl ⟨by decide, by decide⟩ | exact .inr ⟨by omega, by omega⟩ | exact .inl ⟨by omega, by omega⟩)) | (with_reducible refine L2.iteT ?_) | (with_reducible refine L2.iteF ?_) | (with_reducible refine Ls.iteNF ?_) | (with_reducible refine Ls.iteNT ?_)))
local macro_rules | `(tactic| walk_at "rd") => `(tactic| (repeat walk_at "rd1"))
local macro_rules | `(tactic| walk_at "lits") => `(tactic| (first | exact Ls.lit_nil | (refine' Ls.lit_cons ?hL ?hR; (case hL => walk_at "lits"); (case hR => walk_at "lits")) | exact Ls.lit_non | exact Ls.lit_bl | exact Ls.lit_int | exact Ls.lit_str | exact Ls.lit_neg | exact Ls.lit_dn | exact Ls.lit_d1 | exact Ls.lit_d1s | (refine' Ls.lit_tup ?hA ?hZ; (case hA => walk_at "lits"); (case hZ => first | decide | simp)) | (refine' Ls.lit_lst ?hA ?hZ; (case hA => walk_at "lits"); (case hZ => first | decide | simp))))

section
variable {P : Program} {w : World} {K : PySem.W.Frag} {mg : Str → Option Value} {base : Heap}
theorem xk_InvalidValue (T : Tx K mg w) : Xk P w K mg base 1 "InvalidValue" (fA mg "InvalidValue") ["value"] := by
  refine T.k_InvalidValue.ok xb_value sc_i_InvalidValue rfl fun f cdv A outer s H a ws Q E hw ha q => ?_
  obtain ⟨y, rfl⟩ : ∃ y, ws = [y] := by
    match ws, hw with
    | [y], _ => exact ⟨y, rfl⟩
  refine ⟨_, (pss_cons (ps_expr (pe_xi xb_value T.n_SessionError (pa_cons (pv 0) (pa_cons pe_str pa_nil)) (by decide +kernel))) (pss_one (ps_xo xb_value (pv 0) (pv 1)))), ?_⟩
  walk_at "rd"
  refine ⟨a, _, _, rfl, by simp, T.k_InvalidValue.T, ha, ?_⟩
  walk_at "rd"
  refine ⟨a, _, rfl, T.k_InvalidValue.T, T.f_InvalidValue_value, .inl ⟨ha, ?_⟩⟩
  exact xd_one q
theorem xk_InvalidText (T : Tx K mg w) : Xk P w K mg base 1 "InvalidText" (fA mg "InvalidText") ["line"] := by
  refine T.k_InvalidText.ok xb_value sc_i_InvalidText rfl fun f cdv A outer s H a ws Q E hw ha q => ?_
  obtain ⟨y, rfl⟩ : ∃ y, ws = [y] := by
    match ws, hw with
    | [y], _ => exact ⟨y, rfl⟩
  refine ⟨_, (pss_cons (ps_expr (pe_xi xb_value T.n_SessionError (pa_cons (pv 0) (pa_cons pe_str pa_nil)) (by decide +kernel))) (pss_one (ps_xo xb_value (pv 0) (pv 1)))), ?_⟩
  walk_at "rd"
  refine ⟨a, _, _, rfl, by simp, T.k_InvalidText.T, ha, ?_⟩
  walk_at "rd"
  refine ⟨a, _, rfl, T.k_InvalidText.T, T.f_InvalidText_line, .inl ⟨ha, ?_⟩⟩
  exact xd_one q
end
section
variable {P : Program} {w : World} {K : PySem.W.Frag} {mg : Str → Option Value} {base : Heap} (nd : base.NoDigits)
include nd
theorem ok_is_int (T : Tx K mg w) : Cal P w K mg base 1 "is_int" s_is_int P_is_int (sp_isint K) := by
  refine T.d_is_int.ok sc_is_int (fun vs H Q E h => ?_) (fun f cdv A outer s H vs Q E hr h => ?_)
  · obtain ⟨v, d, rfl, _⟩ := h; rfl
  obtain ⟨v, d, rfl, hd, q⟩ := h
  refine ⟨_, PSs.nox (pss_one (ps_ret (pe_and (pe_callB call_isiU (by rfl) T.n_isinstance (by decide +kernel) (pa_cons (pv 0) (pa_cons (pe_bltn (v := .ty "int") (u := .type "int") (by rfl) T.n_int (by decide +kernel) rfl) pa_nil))) (pe_one (pe_not (pe_callB call_isiU (by rfl) T.n_isinstance (by decide +kernel) (pa_cons (pv 0) (pa_cons (pe_bltn (v := .ty "bool") (u := .type "bool") (by rfl) T.n_bool (by decide +kernel) rfl) pa_nil)))))))), ?_⟩
  walk_at "rd"
  cases d with
  | int i =>
    refine y_isi hd (b := true) rfl ?_
    walk_at "rd"
    refine y_isi hd (b := false) rfl ?_
    walk_at "rd"
    exact q
  | bool i =>
    refine y_isi hd (b := true) rfl ?_
    walk_at "rd"
    refine y_isi hd (b := true) rfl ?_
    walk_at "rd"
    exact q
  | none => exact y_isi hd (b := false) rfl (by walk_at "rd"; exact q)
  | str x => exact y_isi hd (b := false) rfl (by walk_at "rd"; exact q)
  | list x => exact y_isi hd (b := false) rfl (by walk_at "rd"; exact q)
  | tuple x => exact y_isi hd (b := false) rfl (by walk_at "rd"; exact q)
  | dict x => exact y_isi hd (b := false) rfl (by walk_at "rd"; exact q)
theorem ok_is_nested (T : Tx K mg w) (C_is_int : Cal P w K mg base 1 "is_int" s_is_int P_is_int (sp_isint K)) : ∀ n, Cal P w K mg base (n + 2) "is_nested" s_is_nested P_is_nested (sp_nested K n)
  | 0 => (T.d_is_nested.never fun vs H Q E h => by obtain ⟨v, d, _, _, z, _⟩ := h; omega).up (by omega)
  | n + 1 => by
    have C_is_nested := ok_is_nested T C_is_int n
    refine T.d_is_nested.ok sc_is_nested (fun vs H Q E h => ?_) (fun f cdv A outer s H vs Q E hr h => ?_)
    · obtain ⟨v, d, rfl, _⟩ := h; rfl
    obtain ⟨v, d, rfl, hd, hn, q⟩ := h
    refine ⟨_, PSs.nox (pss_cons (ps_if (pt_val (pe_g C_is_int (hr.mono (by omega)) px0 (pa_cons (pv 0) pa_nil))) (pss_one (ps_ret pe_bl)) pss_nil)
      (pss_one (ps_ret (pe_and (pe_callB call_isiU (by rfl) T.n_isinstance (by decide +kernel) (pa_cons (pv 0) (pa_cons (pe_bltn (v := .ty "tuple") (u := .type "tuple") (by rfl) T.n_tuple (by decide +kernel) rfl) pa_nil))) (pe_and (pe_cmpR op_leU (pe_callB call_lenU (by rfl) T.n_len (by decide +kernel) (pa_cons (pv 0) pa_nil)) (pe_const T.c_MOST_ITEMS) (nomark _)) (pe_one (pe_callB (cr_all rfl) (by rfl) T.n_all (by decide +kernel) (pa_cons (pe_lc (own := [("item", 1)]) rfl sc_is_nested.nd (pi_seq (pv 0)) (blkOk_by (own := [("item", 1)]) (N := N_is_nested) (sc := defScope s_is_nested) (by decide +kernel)) (fun _ _ _ _ _ => (pg_name (i := 1) sc_is_nested.nd rfl (Or.inl rfl))) (fun _ _ _ _ _ => pts_nil) (fun _ _ _ _ _ => (pe_g C_is_nested (hr.mono (by omega)) px0 (pa_cons (pv 1) pa_nil)))) pa_nil)))))))), ?_⟩
    walk_at "rd"
    refine ⟨v, d, rfl, hd, ?_⟩
    cases d with
    | int i =>
      walk_at "rd"
      exact q H (Ex.refl H)
    | tuple ds =>
      walk_at "rd"
      refine y_isi hd (b := true) rfl ?_
      walk_at "rd"
      cases hd with | tup hS hA =>
      refine y_lenT hS ?_
      walk_at "rd"
      have hl := hA.length
      refine br (fun hle => ?_) fun hle => ?_
      · walk_at "rd"
        refine i_T hS ?_
        refine k_lcDt (fun d => .bl (nsD d)) hS hA (by omega) (fun x d H1 Q1 hm e hx hq => ?_) (fun x => rfl) fun D H2 nD e hD => ?_
        · walk_at "rd"
          exact ⟨x, d, rfl, hx, tdp_tup hn hm, hq⟩
        · walk_at "rd"
          refine y_all (bs := ds.map nsD) (.of (by rw [hD, List.map_map]; rfl)) ?_
          rw [← nsL_all]
          have z := q H2 e
          rw [nsD, decide_eq_true (by omega : ds.length ≤ 40), Bool.true_and] at z
          exact z
      · have z := q H (Ex.refl H)
        rw [nsD, decide_eq_false (by omega : ¬ ds.length ≤ 40), Bool.false_and] at z
        exact z
    | none => walk_at "rd"; exact y_isi hd (b := false) rfl (by walk_at "rd"; exact q H (Ex.refl H))
    | bool b => walk_at "rd"; exact y_isi hd (b := false) rfl (by walk_at "rd"; exact q H (Ex.refl H))
    | str x => walk_at "rd"; exact y_isi hd (b := false) rfl (by walk_at "rd"; exact q H (Ex.refl H))
    | list x => walk_at "rd"; exact y_isi hd (b := false) rfl (by walk_at "rd"; exact q H (Ex.refl H))
    | dict x => walk_at "rd"; exact y_isi hd (b := false) rfl (by walk_at "rd"; exact q H (Ex.refl H))
theorem ok_depth_of (T : Tx K mg w) (C_is_int : Cal P w K mg base 1 "is_int" s_is_int P_is_int (sp_isint K)) : ∀ n, Cal P w K mg base (n + 2) "depth_of" s_depth_of P_depth_of (sp_depth K n)
  | 0 => (T.d_depth_of.never fun vs H Q E h => by obtain ⟨v, d, _, _, _, z, _⟩ := h; omega).up (by omega)
  | n + 1 => by
    have C_depth_of := ok_depth_of T C_is_int n
    refine T.d_depth_of.ok sc_depth_of (fun vs H Q E h => ?_) (fun f cdv A outer s H vs Q E hr h => ?_)
    · obtain ⟨v, d, rfl, _⟩ := h; rfl
    obtain ⟨v, d, rfl, hd, hs, hn, q⟩ := h
    refine ⟨_, PSs.nox (pss_one (ps_ret (pe_ifExp (pt_val (pe_g C_is_int (hr.mono (by omega)) px0 (pa_cons (pv 0) pa_nil))) pe_int (pe_op op_addU pe_int (pe_callBK (call_maxD rfl hr) (by rfl) T.n_max (by decide +kernel) (pa_cons (pe_lc (own := [("item", 1)]) rfl sc_depth_of.nd (pi_seq (pv 0)) (blkOk_by (own := [("item", 1)]) (N := N_depth_of) (sc := defScope s_depth_of) (by decide +kernel)) (fun _ _ _ _ _ => (pg_name (i := 1) sc_depth_of.nd rfl (Or.inl rfl))) (fun _ _ _ _ _ => pts_nil) (fun _ _ _ _ _ => (pe_g C_depth_of (hr.mono (by omega)) px0 (pa_cons (pv 1) pa_nil)))) pa_nil) (pk_cons pe_int pk_nil)))))), ?_⟩
    walk_at "rd"
    refine ⟨v, d, rfl, hd, ?_⟩
    cases d with
    | int i =>
      walk_at "rd"
      exact q H (Ex.refl H)
    | tuple ds =>
      walk_at "rd"
      cases hd with | tup hS hA =>
      rw [nsD, Bool.and_eq_true, decide_eq_true_eq] at hs
      have hl := hA.length
      refine i_T hS ?_
      refine k_lcDt (fun d => .int (tdp d : Nat)) hS hA (by omega) (fun x d H1 Q1 hm e hx hq => ?_) (fun x => rfl) fun D H2 nD e hD => ?_
      · walk_at "rd"
        exact ⟨x, d, rfl, hx, nsL_mem hs.2 hm, tdp_tup hn hm, hq⟩
      · walk_at "rd"
        refine y_maxD (ns := ds.map fun d => (tdp d : Int)) (.of (by rw [hD, List.map_map]; rfl)) fun m m0 m1 => ?_
        walk_at "rd"
        have z := q H2 e
        rw [tdpL_max m0 m1]
        rw [tdp] at z
        have e2 : ((1 + tdpL ds : Nat) : Int) = 1 + (tdpL ds : Int) := by omega
        rw [e2] at z
        exact z
    | none => simp [nsD] at hs
    | bool b => simp [nsD] at hs
    | str x => simp [nsD] at hs
    | list x => simp [nsD] at hs
    | dict x => simp [nsD] at hs
theorem ok_datum_size (T : Tx K mg w) (C_is_int : Cal P w K mg base 1 "is_int" s_is_int P_is_int (sp_isint K)) : ∀ n, Cal P w K mg base (n + 2) "datum_size" s_datum_size P_datum_size (sp_dsize K n)
  | 0 => (T.d_datum_size.never fun vs H Q E h => by obtain ⟨v, d, _, _, _, _, z, _⟩ := h; omega).up (by omega)
  | n + 1 => by
    have C_datum_size := ok_datum_size T C_is_int n
    refine T.d_datum_size.ok sc_datum_size (fun vs H Q E h => ?_) (fun f cdv A outer s H vs Q E hr h => ?_)
    · obtain ⟨v, d, rfl, _⟩ := h; rfl
    obtain ⟨v, d, rfl, hd, hs, hm, hn, q⟩ := h
    refine ⟨_, PSs.nox (pss_cons (ps_if (pt_val (pe_g C_is_int (hr.mono (by omega)) px0 (pa_cons (pv 0) pa_nil))) (pss_one (ps_ret (pe_op op_addU (pe_callB call_lenU (by rfl) T.n_len (by decide +kernel) (pa_cons (pe_callTy (call_strU nd hr) (by rfl) T.n_str (by decide +kernel) (pa_cons (pe_callB call_absU (by rfl) T.n_abs (by decide +kernel) (pa_cons (pv 0) pa_nil)) pa_nil)) pa_nil)) (pe_callTy (call_intU nd) (by rfl) T.n_int (by decide +kernel) (pa_cons (pe_cmpR op_ltU (pv 0) pe_int (nomark _)) pa_nil))))) pss_nil)
      (pss_one (ps_ret (pe_op op_addU pe_int (pe_callB (call_sumU rfl) (by rfl) T.n_sum (by decide +kernel) (pa_cons (pe_lc (own := [("item", 1)]) rfl sc_datum_size.nd (pi_seq (pv 0)) (blkOk_by (own := [("item", 1)]) (N := N_datum_size) (sc := defScope s_datum_size) (by decide +kernel)) (fun _ _ _ _ _ => (pg_name (i := 1) sc_datum_size.nd rfl (Or.inl rfl))) (fun _ _ _ _ _ => pts_nil) (fun _ _ _ _ _ => (pe_g C_datum_size (hr.mono (by omega)) px0 (pa_cons (pv 1) pa_nil)))) pa_nil)))))), ?_⟩
    walk_at "rd"
    refine ⟨v, d, rfl, hd, ?_⟩
    cases d with
    | int i =>
      walk_at "rd"
      cases hd
      walk_at "rd"
      have hm' : i.natAbs < DL := by rw [smD, decide_eq_true_eq] at hm; exact hm
      refine y_str (by rw [abs_if, Int.natAbs_natCast]; exact hm') ?_
      walk_at "rd"
      refine y_lenS ?_ ?_
      · rw [abs_if, num_S, S_len]
        have := int_digits hm'
        exact Nat.le_trans this (by decide)
      walk_at "rd"
      exact q H (Ex.refl H)
    | tuple ds =>
      walk_at "rd"
      cases hd with | tup hS hA =>
      rw [nsD, Bool.and_eq_true, decide_eq_true_eq] at hs
      rw [smD] at hm
      have hl := hA.length
      refine i_T hS ?_
      refine k_lcDt (fun d => .int (szD d)) hS hA (by omega) (fun x d H1 Q1 hmm e hx hq => ?_) (fun x => rfl) fun D H2 nD e hD => ?_
      · walk_at "rd"
        exact ⟨x, d, rfl, hx, nsL_mem hs.2 hmm, smL_mem hm hmm, tdp_tup hn hmm, hq⟩
      · walk_at "rd"
        refine y_sumL (ns := ds.map szD) (.of (by rw [hD, List.map_map]; rfl)) ?_
        walk_at "rd"
        have z := q H2 e
        rw [szD, szL_sum] at z
        exact z
    | none => simp [nsD] at hs
    | bool b => simp [nsD] at hs
    | str x => simp [nsD] at hs
    | list x => simp [nsD] at hs
    | dict x => simp [nsD] at hs
theorem ok_is_datum (T : Tx K mg w) {n : Nat} (C_is_nested : Cal P w K mg base (n + 2) "is_nested" s_is_nested P_is_nested (sp_nested K n)) (C_depth_of : Cal P w K mg base (n + 2) "depth_of" s_depth_of P_depth_of (sp_depth K n)) (C_datum_size : Cal P w K mg base (n + 2) "datum_size" s_datum_size P_datum_size (sp_dsize K n)) :
    Cal P w K mg base (n + 3) "is_datum" s_is_datum P_is_datum (sp_isdatum K n) := by
  refine T.d_is_datum.ok sc_is_datum (fun vs H Q E h => ?_) (fun f cdv A outer s H vs Q E hr h => ?_)
  · obtain ⟨v, d, rfl, _⟩ := h; rfl
  obtain ⟨v, d, rfl, hd, hm, hn, q⟩ := h
  refine ⟨_, PSs.nox (pss_one (ps_ret (pe_and (pe_g C_is_nested (hr.mono (by omega)) px0 (pa_cons (pv 0) pa_nil)) (pe_and (pe_cmpR op_leU (pe_g C_depth_of (hr.mono (by omega)) px0 (pa_cons (pv 0) pa_nil)) (pe_const T.c_MOST_DEPTH) (nomark _)) (pe_one (pe_cmpR op_leU (pe_g C_datum_size (hr.mono (by omega)) px0 (pa_cons (pv 0) pa_nil)) (pe_const T.c_MOST_SIZE) (nomark _))))))), ?_⟩
  walk_at "rd"
  refine ⟨v, d, rfl, hd, hn, fun H1 e1 => ?_⟩
  walk_at "rd"
  unfold isD at q
  refine brB (fun h1 => ?_) fun h1 => ?_
  · walk_at "rd"
    refine ⟨v, d, rfl, hd.mono e1, h1, hn, fun H2 e2 => ?_⟩
    walk_at "rd"
    refine br (fun h2 => ?_) fun h2 => ?_
    · walk_at "rd"
      refine ⟨v, d, rfl, hd.mono (e1.trans e2), h1, hm, hn, fun H3 e3 => ?_⟩
      walk_at "rd"
      have z := q H3 (e1.trans (e2.trans e3))
      rw [h1, decide_eq_true h2, Bool.true_and, Bool.true_and] at z
      exact z
    · have z := q H2 (e1.trans e2)
      rw [h1, decide_eq_false h2, Bool.false_and, Bool.and_false] at z
      exact z
  · have z := q H1 e1
    rw [h1, Bool.false_and] at z
    exact z
theorem ok_is_fault (T : Tx K mg w) : Cal P w K mg base 1 "is_fault" s_is_fault P_is_fault (sp_isfault K) := by
  refine T.d_is_fault.ok sc_is_fault (fun vs H Q E h => ?_) (fun f cdv A outer s H vs Q E hr h => ?_)
  · obtain ⟨v, d, rfl, _⟩ := h; rfl
  obtain ⟨v, d, rfl, hd, q⟩ := h
  refine ⟨_, PSs.nox (pss_one (ps_ret (pe_and (pe_callB call_isiU (by rfl) T.n_isinstance (by decide +kernel) (pa_cons (pv 0) (pa_cons (pe_bltn (v := .ty "str") (u := .type "str") (by rfl) T.n_str (by decide +kernel) rfl) pa_nil))) (pe_one (pe_cmpR (op_eqU hr) (pv 0) (pe_const T.c_FAULT) (nomark _)))))), ?_⟩
  walk_at "rd"
  cases d with
  | str x =>
    refine y_isi hd (b := true) rfl ?_
    walk_at "rd"
    cases hd
    walk_at "rd"
    exact q
  | int i => exact y_isi hd (b := false) rfl (by walk_at "rd"; exact q)
  | bool i => exact y_isi hd (b := false) rfl (by walk_at "rd"; exact q)
  | none => exact y_isi hd (b := false) rfl (by walk_at "rd"; exact q)
  | list x => exact y_isi hd (b := false) rfl (by walk_at "rd"; exact q)
  | tuple x => exact y_isi hd (b := false) rfl (by walk_at "rd"; exact q)
  | dict x => exact y_isi hd (b := false) rfl (by walk_at "rd"; exact q)
theorem ok_is_value (T : Tx K mg w) {n : Nat} (C_is_fault : Cal P w K mg base 1 "is_fault" s_is_fault P_is_fault (sp_isfault K)) (C_is_datum : Cal P w K mg base (n + 3) "is_datum" s_is_datum P_is_datum (sp_isdatum K n)) :
    Cal P w K mg base (n + 4) "is_value" s_is_value P_is_value (sp_isvalue K n) := by
  refine T.d_is_value.ok sc_is_value (fun vs H Q E h => ?_) (fun f cdv A outer s H vs Q E hr h => ?_)
  · obtain ⟨v, d, rfl, _⟩ := h; rfl
  obtain ⟨v, d, rfl, hd, hm, hn, q⟩ := h
  refine ⟨_, PSs.nox (pss_one (ps_ret (pe_or (pe_g C_is_fault (hr.mono (by omega)) px0 (pa_cons (pv 0) pa_nil)) (pe_one (pe_g C_is_datum (hr.mono (by omega)) px0 (pa_cons (pv 0) pa_nil)))))), ?_⟩
  walk_at "rd"
  refine ⟨v, d, rfl, hd, ?_⟩
  walk_at "rd"
  refine brB (fun h1 => ?_) fun h1 => ?_
  · have z := q H (Ex.refl H)
    rw [h1, Bool.true_or] at z
    exact z
  · walk_at "rd"
    refine ⟨v, d, rfl, hd, hm, hn, fun H1 e1 => ?_⟩
    walk_at "rd"
    have z := q H1 e1
    rw [h1, Bool.false_or] at z
    exact z
end

section
variable {P : Program} {w : World} {K : PySem.W.Frag} {mg : Str → Option Value} {base : Heap} (nd : base.NoDigits)
include nd
theorem ok_datum_text (T : Tx K mg w) (C_is_int : Cal P w K mg base 1 "is_int" s_is_int P_is_int (sp_isint K)) : ∀ n, Cal P w K mg base (n + 2) "datum_text" s_datum_text P_datum_text (sp_dtext K n)
  | 0 => (T.d_datum_text.never fun vs H Q E h => by obtain ⟨v, d, _, _, _, _, _, z, _⟩ := h; omega).up (by omega)
  | n + 1 => by
    have C_datum_text := ok_datum_text T C_is_int n
    refine T.d_datum_text.ok sc_datum_text (fun vs H Q E h => ?_) (fun f cdv A outer s H vs Q E hr h => ?_)
    · obtain ⟨v, d, rfl, _⟩ := h; rfl
    obtain ⟨v, d, rfl, hd, hs, hm, hz, hn, q⟩ := h
    refine ⟨_, PSs.nox (pss_cons (ps_if (pt_val (pe_g C_is_int (hr.mono (by omega)) px0 (pa_cons (pv 0) pa_nil))) (pss_one (ps_ret (pe_callTy (call_strU nd hr) (by rfl) T.n_str (by decide +kernel) (pa_cons (pv 0) pa_nil)))) pss_nil)
      (pss_one (ps_ret (pe_op op_addU (pe_op op_addU pe_str (pe_joinU pe_str (pe_lc (own := [("item", 1)]) rfl sc_datum_text.nd (pi_seq (pv 0)) (blkOk_by (own := [("item", 1)]) (N := N_datum_text) (sc := defScope s_datum_text) (by decide +kernel)) (fun _ _ _ _ _ => (pg_name (i := 1) sc_datum_text.nd rfl (Or.inl rfl))) (fun _ _ _ _ _ => pts_nil) (fun _ _ _ _ _ => (pe_g C_datum_text (hr.mono (by omega)) px0 (pa_cons (pv 1) pa_nil)))))) pe_str)))), ?_⟩
    walk_at "rd"
    refine ⟨v, d, rfl, hd, ?_⟩
    cases d with
    | int i =>
      walk_at "rd"
      cases hd
      walk_at "rd"
      refine y_strC (by rw [smD, decide_eq_true_eq] at hm; exact hm) ?_
      exact q H (Ex.refl H)
    | tuple ds =>
      walk_at "rd"
      cases hd with | tup hS hA =>
      rw [nsD, Bool.and_eq_true, decide_eq_true_eq] at hs
      rw [smD] at hm
      rw [szD] at hz
      have hl := hA.length
      refine i_T hS ?_
      have hlen := txL_len ds hs.2
      have hsum := txL_sum hs.2
      refine k_lcDt (fun d => .str (S (txD d))) hS hA (by omega) (fun x d H1 Q1 hmm e hx hq => ?_) (fun x => rfl) fun D H2 nD e hD => ?_
      · walk_at "rd"
        exact ⟨x, d, rfl, hx, nsL_mem hs.2 hmm, smL_mem hm hmm, by have := szL_mem hs.2 hmm; omega, tdp_tup hn hmm, hq⟩
      · walk_at "rd"
        rw [q_comma]
        refine y_join (ys := ds.map fun d => S (txD d)) (.of (by rw [hD, List.map_map]; rfl)) ?_ ?_
        · rw [lens_tx, List.length_map, S_len]
          show _ + ds.length * 1 ≤ _
          omega
        rw [join_tx, q_open, q_close]
        refine y_addC (by have h2 : sizeLine = 16777216 := rfl; simp only [List.length_singleton]; omega) ?_
        refine y_addC (by have h2 : sizeLine = 16777216 := rfl; simp only [List.length_singleton, List.length_append]; omega) ?_
        exact q H2 e
    | none => simp [nsD] at hs
    | bool b => simp [nsD] at hs
    | str x => simp [nsD] at hs
    | list x => simp [nsD] at hs
    | dict x => simp [nsD] at hs
end

section
variable {P : Program} {w : World} {K : PySem.W.Frag} {mg : Str → Option Value} {base : Heap} (nd : base.NoDigits)
include nd
theorem ok_check_value (T : Tx K mg w) {n : Nat} (X_InvalidValue : Xk P w K mg base 1 "InvalidValue" (fA mg "InvalidValue") ["value"]) (C_is_value : Cal P w K mg base (n + 4) "is_value" s_is_value P_is_value (sp_isvalue K n)) :
    Cal P w K mg base (n + 5) "check_value" s_check_value P_check_value (sp_checkX K (fA mg "InvalidValue") n) := by
  refine T.d_check_value.ok sc_check_value (fun vs H Q E h => ?_) (fun f cdv A outer s H vs Q E hr h => ?_)
  · obtain ⟨v, d, rfl, _⟩ := h; rfl
  obtain ⟨v, d, rfl, hd, hm, hn, q, qe⟩ := h
  refine ⟨_, (pss_one (ps_if (pt_not (pt_val (pe_g C_is_value (hr.mono (by omega)) px0 (pa_cons (pv 0) pa_nil)))) (pss_one (ps_raise rfl (takes_of rfl rfl rfl rfl) (pmk_x X_InvalidValue hr (by omega) (pa_cons (pv 0) pa_nil)))) pss_nil)), ?_⟩
  walk_at "rd"
  refine ⟨v, d, rfl, hd, hm, hn, fun H1 e1 => ?_⟩
  walk_at "rd"
  refine brBN (fun ho => ?_) fun ho => ?_
  · walk_at "rd"
    refine ⟨rfl, by simp, fun dd H2 nd same hx => ?_⟩
    exact qe ho dd H2 (e1.trans (ex_same nd same)) hx
  · walk_at "rd"
    exact q ho H1 e1
theorem ok_format_value (T : Tx K mg w) {n : Nat} (C_check_value : Cal P w K mg base (n + 5) "check_value" s_check_value P_check_value (sp_checkX K (fA mg "InvalidValue") n)) (C_is_fault : Cal P w K mg base 1 "is_fault" s_is_fault P_is_fault (sp_isfault K)) (C_datum_text : Cal P w K mg base (n + 2) "datum_text" s_datum_text P_datum_text (sp_dtext K n)) :
    Cal P w K mg base (n + 6) "format_value" s_format_value P_format_value (sp_onV K (fA mg "InvalidValue") n (fun d => .str (S (txD d)))) := by
  refine T.d_format_value.ok sc_format_value (fun vs H Q E h => ?_) (fun f cdv A outer s H vs Q E hr h => ?_)
  · obtain ⟨v, d, rfl, _⟩ := h; rfl
  obtain ⟨v, d, rfl, hd, hm, hn, q, qe⟩ := h
  refine ⟨_, (pss_cons (ps_expr (pe_g C_check_value (hr.mono (by omega)) (pxE (takes_of rfl rfl rfl rfl) (fun _ _ _ _ h => h)) (pa_cons (pv 0) pa_nil)))
      (pss_one (ps_ret (pe_ifExp (pt_val (pe_g C_is_fault (hr.mono (by omega)) px0 (pa_cons (pv 0) pa_nil))) (pe_const T.c_FAULT) (pe_g C_datum_text (hr.mono (by omega)) px0 (pa_cons (pv 0) pa_nil)))))), ?_⟩
  walk_at "rd"
  refine ⟨v, d, rfl, hd, hm, hn, fun ho H1 e1 => ?_, qe⟩
  walk_at "rd"
  refine ⟨v, d, rfl, hd.mono e1, ?_⟩
  walk_at "rd"
  refine brB (fun hf => ?_) fun hf => ?_
  · walk_at "rd"
    have z := q ho H1 e1
    dsimp only at z
    rw [isF_tx hf, ← q_fault] at z
    exact z
  · walk_at "rd"
    exact ⟨v, d, rfl, hd.mono e1, (isD_of ⟨hm, hn, ho⟩ hf).1, hm, (isD_of ⟨hm, hn, ho⟩ hf).2.2, hn, fun H2 e2 => q ho H2 (e1.trans e2)⟩
end

end My
end

section
set_option Elab.async false
set_option linter.all false
set_option maxRecDepth 100000
set_option maxHeartbeats 4000000
namespace My
open PySem PySem.Spec PyProof.Rows L2 Ls SX
local macro_rules | `(tactic| walk_at "rd1") => `(tactic| (first | ((with_reducible refine' Ls.r_var ?hV ?_); (case hV => exact rfl)) | (with_reducible refine Ls.r_c ?_) | (with_reducible refine Ls.r_op ?_) | (with_reducible refine Ls.r_un ?_) | (with_reducible refine Ls.r_nil ?_) | (with_reducible refine Ls.r_cons ?_) | (with_reducible refine Ls.r_cb ?_) | (with_reducible refine Ls.r_ckw ?_) | (with_reducible refine Ls.r_cal ?_) | (with_reducible refine Ls.r_calK ?_) | (with_reducible refine Ls.r_tup ?_) | (with_reducible refine Ls.r_lst ?_) | (with_reducible refine Ls.r_if ?_) | (with_reducible refine Ls.r_andV ?_) | (with_reducible refine Ls.r_orV ?_) | (with_reducible refine Ls.r_notV ?_) | (with_reducible refine Ls.r_chain ?_) | (with_reducible refine Ls.r_sl ?_) | (with_reducible refine Ls.r_nopart ?_) | (with_reducible refine Ls.r_part ?_) | (with_reducible refine Ls.k_part ?_) | (with_reducible refine Ls.r_test ?_) | (with_reducible refine Ls.r_B ?_) | (with_reducible refine Ls.k_B ?_) | (with_reducible refine Ls.r_not ?_) | (with_reducible refine Ls.r_and ?_) | (with_reducible refine Ls.r_or ?_) | (with_reducible refine Ls.r_seq ?_) | (with_reducible refine Ls.r_ifS ?_) | (with_reducible refine Ls.r_next ?_) | (with_reducible refine Ls.r_brk ?_) | (with_reducible refine Ls.r_cont ?_) | (with_reducible refine Ls.r_ret ?_) | (with_reducible refine Ls.r_retN ?_) | (with_reducible refine Ls.r_drop ?_) | (with_reducible refine Ls.r_asg ?_) | (with_reducible refine Ls.r_par ?_) | (with_reducible refine Ls.k_par ?_) | ((with_reducible refine' Ls.r_aug ?hV ?_); (case hV => exact rfl)) | (with_reducible refine Ls.y_ip ?_) | (with_reducible refine Ls.g_name ?_) | (with_reducible refine Ls.g_nil ?_) | (with_reducible refine Ls.g_cons ?_) | (with_reducible refine Ls.g_sub ?_) | (with_reducible refine Ls.e_end ?_) | (with_reducible refine Ls.e_endr ?_) | (with_reducible refine Ls.e_nx ?_) | (with_reducible refine Ls.e_rt ?_) | (with_reducible refine Ls.e_bk ?_) | (with_reducible refine Ls.e_ct ?_) | (with_reducible refine Ls.r_for ?_) | (with_reducible refine Ls.i_seq ?_) | (with_reducible refine Ls.r_xi ?_) | (with_reducible refine Ls.r_xo ?_) | (with_reducible refine Ls.r_mk ?_) | (with_reducible refine Ls.r_xf ?_) | (with_reducible refine Ls.i_enum ?_) | (with_reducible refine Ls.i_rng1 ?_) | (with_reducible refine Ls.r_m1 ?_) | (with_reducible refine Ls.r_m0 ?_) | (with_reducible refine Ls.k_isS ?_) | (with_reducible refine Ls.r_bm ?_) | (with_reducible refine Ls.r_lc ?_) | (with_reducible refine Ls.y_add ?_) | (with_reducible refine Ls.y_sub ?_) | (with_reducible refine Ls.y_neg ?_) | (with_reducible refine Ls.y_lt ?_) | (with_reducible refine Ls.y_le ?_) | (with_reducible refine Ls.y_gt ?_) | (with_reducible refine Ls.y_ge ?_) | (with_reducible refine Ls.y_eqI ?_) | (with_reducible refine Ls.y_eqS ?_) | (with_reducible refine Ls.y_neI ?_) | (with_reducible refine Ls.y_neS ?_) | (with_reducible refine Ls.y_isNo ?_) | (with_reducible refine Ls.y_isntNo ?_) | (with_reducible refine Ls.y_abs ?_) | (with_reducible refine Ls.y_max2 ?_) | (with_reducible refine Ls.y_min2 ?_) | (with_reducible refine Ls.y_intI ?_) | (with_reducible refine Ls.y_intB ?_) | ((with_reducible refine' Ls.y_ixL ?hS ?hA ?_); (case hS => first | assumption | exact L2.SqL.of (by assumption)); (case hA => rfl)) | ((with_reducible refine' Ls.y_ixT ?hS ?hA ?_); (case hS => first | assumption | exact L2.SqT.of (by assumption)); (case hA => rfl)) | ((with_reducible refine' Ls.y_mod ?hC ?_); (case hC => first | decide | omega)) | ((with_reducible refine' Ls.y_fdiv ?hC ?_); (case hC => first | decide | (constructor <;> omega))) | ((with_reducible refine' Ls.y_pow ?hC ?_); (case hC => exact ⟨by decide, by decide, by decide⟩)) | ((with_reducible refine' Ls.y_mul ?hC ?_); (case hC => first | exact .inr ⟨by decide, by decide⟩ | exact .inl ⟨by decide, by decide⟩ | exact .inr ⟨by omega, by omega⟩ | exact .inl ⟨by omega, by omega⟩)) | (with_reducible refine L2.iteT ?_) | (with_reducible refine L2.iteF ?_) | (with_reducible refine Ls.iteNF ?_) | (with_reducible refine Ls.iteNT ?_)))
local macro_rules | `(tactic| walk_at "rd") => `(tactic| (repeat walk_at "rd1"))
local macro_rules | `(tactic| walk_at "lits") => `(tactic| (first | exact Ls.lit_nil | (refine' Ls.lit_cons ?hL ?hR; (case hL => walk_at "lits"); (case hR => walk_at "lits")) | exact Ls.lit_non | exact Ls.lit_bl | exact Ls.lit_int | exact Ls.lit_str | exact Ls.lit_neg | exact Ls.lit_dn | exact Ls.lit_d1 | exact Ls.lit_d1s | (refine' Ls.lit_tup ?hA ?hZ; (case hA => walk_at "lits"); (case hZ => first | decide | simp)) | (refine' Ls.lit_lst ?hA ?hZ; (case hA => walk_at "lits"); (case hZ => first | decide | simp))))

section
variable {P : Program} {w : World} {K : PySem.W.Frag} {mg : Str → Option Value} {base : Heap} (nd : base.NoDigits)
include nd
theorem ok_read_integerX (T : Tx K mg w) (X_InvalidText : Xk P w K mg base 1 "InvalidText" (fA mg "InvalidText") ["line"]) : Cal P w K mg base 3 "read_integer" s_read_integer P_read_integer (sp_rintX K (fA mg "InvalidText")) := by
  refine T.d_read_integer.ok sc_read_integer (fun vs H Q E h => ?_) (fun f cdv A outer s H vs Q E hr h => ?_)
  · obtain ⟨l, a, rfl, _⟩ := h; rfl
  obtain ⟨l, a, rfl, hz, ha, q, qe⟩ := h
  refine ⟨_, (pss_cons (ps_set (i := 2) sc_read_integer.nd rfl (by first | exact .inl rfl | exact .inr rfl) (pe_op op_addU (pv 1) (pe_callTy (call_intU nd) (by rfl) T.n_int (by decide +kernel) (pa_cons (pe_cmpR (op_eqU hr) (pe_slice sl_U (pv 0) (po_some (pv 1)) (po_some (pe_op op_addU (pv 1) pe_int))) pe_str (nomark _)) pa_nil))))
      (pss_cons (ps_set (i := 3) sc_read_integer.nd rfl (by first | exact .inl rfl | exact .inr rfl) (pv 2))
      (pss_cons (ps_while (passes_of rfl) (PW.pt (pw_and (pt_cmpR op_ltU (pv 3) (pe_callB call_lenU (by rfl) T.n_len (by decide +kernel) (pa_cons (pv 0) pa_nil)) (nomark _)) (pw_and1 (pt_cmpR (op_inU hr) (pe_ix ix_seq (pv 0) (pv 3) (fun _ _ => rfl)) (pe_const T.c_DIGITS) (by rfl))))) (pss_one (ps_aug (i := 3) sc_read_integer.nd rfl (by first | exact .inl rfl | exact .inr rfl) pe_int ip_add)))
      (pss_cons (ps_set (i := 4) sc_read_integer.nd rfl (by first | exact .inl rfl | exact .inr rfl) (pe_slice sl_U (pv 0) (po_some (pv 2)) (po_some (pv 3))))
      (pss_cons (ps_if (PW.pt (pw_or (pt_cmpR (op_eqU hr) (pv 4) pe_str (nomark _)) (pw_or (pt_cmpR op_gtU (pe_callB call_lenU (by rfl) T.n_len (by decide +kernel) (pa_cons (pv 4) pa_nil)) (pe_const T.c_MOST_SIZE) (nomark _)) (pw_or1 (PW.pt (pw_and (pt_cmpR (op_eqU hr) (pe_ix ix_seq (pv 4) pe_int (fun _ _ => rfl)) pe_str (nomark _)) (pw_and1 (PW.pt (pw_or (pt_cmpR op_gtU (pe_callB call_lenU (by rfl) T.n_len (by decide +kernel) (pa_cons (pv 4) pa_nil)) pe_int (nomark _)) (pw_or1 (pt_cmpR op_gtU (pv 2) (pv 1) (nomark _)))))))))))) (pss_one (ps_raise rfl (takes_of rfl rfl rfl rfl) (pmk_x X_InvalidText hr (by omega) (pa_cons pe_int pa_nil)))) pss_nil)
      (pss_one (ps_ret (pe_tup (pa_cons (pe_callTy (call_intU nd) (by rfl) T.n_int (by decide +kernel) (pa_cons (pe_slice sl_U (pv 0) (po_some (pv 1)) (po_some (pv 3))) pa_nil)) (pa_cons (pv 3) pa_nil)))))))))), ?_⟩
  have h2 : sizeLine = 16777216 := rfl
  generalize hr0 : l.drop a = r at q qe
  have hrl : r.length + a = l.length := by rw [← hr0, List.length_drop]; omega
  have hp := rd_parts r
  have hwd : NumText.AllDigits (rdW r) := tw_digits
  generalize hrest : (rdB r).dropWhile isDg = rest at hp
  have hnd : noDig rest := by rw [← hrest]; exact dw_noDig _
  have hB : rdB r = rdW r ++ rest := by rw [← hrest]; exact (List.takeWhile_append_dropWhile).symm
  have hsg : (sgL (rdS r)).length ≤ 1 := by unfold sgL; split <;> decide
  have hlen : r.length = (sgL (rdS r)).length + ((rdW r).length + rest.length) := by
    have := congrArg List.length hp
    rw [List.length_append, List.length_append] at this
    exact this
  walk_at "rd"
  refine y_cut (a := a) (b := a + 1) (by omega) rfl (by omega) ?_
  walk_at "rd"
  rw [q_minus, S_dec]
  have e45 : decide ((l.drop a).take (a + 1 - a) = [45]) = rdS r := by
    rw [hr0, Nat.add_sub_cancel_left]
    unfold rdS
    cases r with
    | nil => rfl
    | cons x t => show decide ([x] = [45]) = decide (some x = some 45); simp
  rw [e45]
  have ef : (a : Int) + (if rdS r = true then 1 else 0) = ((a + (sgL (rdS r)).length : Nat) : Int) := by
    unfold sgL
    cases rdS r <;> simp
  walk_at "rd"
  rw [ef]
  walk_at "rd"
  generalize hF : a + (sgL (rdS r)).length = F
  have hdF : l.drop F = rdB r := by
    rw [← hF, ← List.drop_drop, hr0, hB]
    exact (congrArg (List.drop _) hp).trans List.drop_left
  have at_ : ∀ j, l[F + j]? = (rdW r ++ rest)[j]? := fun j => by rw [← hB, ← hdF, List.getElem?_drop]
  generalize hD : rdW r = ds at *
  have htl : l.length = F + (ds.length + rest.length) := by omega
  refine k_while (m0 := ds.length) (fun m σ' H' => H' = H ∧ ∃ j, m + j = ds.length ∧ σ' = [some (.str (S l)), some (.int (a : Nat)), some (.int (F : Nat)), some (.int ((F + j : Nat) : Int)), none]) ⟨rfl, 0, rfl, rfl⟩ ?_
  rintro m σ' H' ⟨rfl, j, hj, rfl⟩
  walk_at "rd"
  refine y_lenC (by omega) ?_
  walk_at "rd"
  by_cases hm : m = 0
  · have hjl : j = ds.length := by omega
    subst hjl
    by_cases hr0' : F + ds.length < l.length
    case' neg => refine ifN (by omega) ?_
    case' pos =>
      refine ifY (by omega) ?_
      have hr1 : 0 < rest.length := by omega
      have hget : l[F + ds.length]? = some rest[0] := by rw [at_, List.getElem?_append_right (Nat.le_refl _), Nat.sub_self, List.getElem?_eq_getElem hr1]
      walk_at "rd"
      refine y_ixC (by omega) rfl hget ?_
      walk_at "rd"
      rw [q_digits]
      refine y_inC ?_
      walk_at "rd"
      have hdg := hnd rest[0] (by rw [List.head?_eq_getElem?, List.getElem?_eq_getElem hr1])
      refine ifN (by simp only [List.mem_cons, List.not_mem_nil, or_false]; omega) ?_
    all_goals
      walk_at "rd"
      refine y_cut (a := F) (b := F + ds.length) (by omega) rfl rfl ?_
      have ew : (l.drop F).take (F + ds.length - F) = ds := by
        rw [hdF, hB, Nat.add_sub_cancel_left]
        exact List.take_left
      rw [ew]
      refine g_name (e_nx (r_seq (r_ifS (cutT (!okW (rdS r) ds) (fun Q1 k1 => ?_) ?_))))
      · walk_at "rd"
        rw [q_empty, S_dec]
        have fin : ∀ {b : Bool}, b = !okW (rdS r) ds → Q1 b H' := fun {b} e => by rw [e]; exact k1
        refine br (fun h0 => ?_) fun h0 => ?_
        · refine fin ?_
          unfold okW
          rw [decide_eq_true h0]
          rfl
        · walk_at "rd"
          refine y_lenC (by omega) ?_
          walk_at "rd"
          refine br (fun h1 => ?_) fun h1 => ?_
          · refine fin ?_
            unfold okW
            rw [decide_eq_false (by omega : ¬ ds.length ≤ 1000)]
            simp
          · obtain ⟨c, t, ec⟩ : ∃ c t, ds = c :: t := by
              cases ds with
              | nil => exact absurd rfl h0
              | cons c t => exact ⟨c, t, rfl⟩
            have hl1 : ds.length ≤ 1000 := by omega
            walk_at "rd"
            refine y_ixC (a := 0) (c := c) (by omega) rfl (by rw [ec]; rfl) ?_
            walk_at "rd"
            rw [q_zero, S_dec]
            have e48 : decide (ds.head? = some 48) = decide ([c] = [48]) := by rw [ec]; simp
            refine br (fun h3 => ?_) fun h3 => ?_
            · walk_at "rd"
              refine y_lenC (by omega) ?_
              walk_at "rd"
              refine br (fun h4 => ?_) fun h4 => ?_
              · refine fin ?_
                unfold okW
                rw [e48, decide_eq_true h3, decide_eq_true (by omega : 1 < ds.length)]
                simp
              · walk_at "rd"
                refine fin ?_
                unfold okW
                rw [e48, decide_eq_true h3, decide_eq_false (by omega : ¬ 1 < ds.length), decide_eq_false h0, decide_eq_true hl1]
                have : decide ((a : Int) < ((F : Nat) : Int)) = rdS r := by
                  rw [← hF]
                  unfold sgL
                  cases rdS r with
                  | false => simp
                  | true => exact decide_eq_true (by rw [if_pos rfl]; simp only [List.length_singleton]; omega)
                rw [this]
                simp
            · refine fin ?_
              unfold okW
              rw [e48, decide_eq_false h3, decide_eq_false h0, decide_eq_true hl1]
              rfl
      · refine brBN (fun hk => ?_) fun hk => ?_
        · walk_at "rd"
          refine ⟨rfl, by simp, fun dd H2 n2 same hx => ?_⟩
          refine qe ?_ dd H2 (ex_same n2 same) hx
          unfold rdI
          rw [hD, hk, if_neg Bool.false_ne_true]
        · walk_at "rd"
          refine y_cut (a := a) (b := F + ds.length) (by omega) rfl rfl ?_
          obtain ⟨i1, i2, i3⟩ := decI_intL hk hwd
          have ei : (l.drop a).take (F + ds.length - a) = intL (decI (rdS r) ds) := by
            rw [hr0, i1, show F + ds.length - a = (sgL (rdS r) ++ ds).length by rw [List.length_append]; omega]
            rw [← List.append_assoc] at hp
            exact (congrArg (List.take _) hp).trans List.take_left
          rw [ei]
          walk_at "rd"
          have hl1 := (okW_parts hk).2.1
          refine y_intC (int_back (by rw [i1, List.length_append]; omega)) (by rw [i1, List.length_append]; omega) ?_
          walk_at "rd"
          refine k_tup fun t H2 nt e4 ht => ?_
          refine q (.int (decI (rdS r) ds)) rest _ t H2 ?_ e4 (.int _) (by rw [ht, show l.length - rest.length = F + ds.length by omega])
          unfold rdI
          rw [hD, hk, if_pos rfl, hrest]
  · have hlt : F + j < l.length := by omega
    refine ifY (by omega) ?_
    have hjd : j < ds.length := by omega
    have hget : l[F + j]? = some ds[j] := by rw [at_, List.getElem?_append_left hjd, List.getElem?_eq_getElem hjd]
    walk_at "rd"
    refine y_ixC (by omega) rfl hget ?_
    walk_at "rd"
    rw [q_digits]
    refine y_inC ?_
    walk_at "rd"
    have hdg : 48 ≤ ds[j] ∧ ds[j] ≤ 57 := hwd ds[j] (List.getElem_mem hjd)
    refine ifY (by simp only [List.mem_cons, List.not_mem_nil, or_false]; omega) ?_
    refine k_body ?_
    walk_at "rd"
    exact ⟨m - 1, by omega, rfl, j + 1, by omega, by
      show _ = _
      rfl⟩
theorem ok_read_tupleX (T : Tx K mg w) (X_InvalidText : Xk P w K mg base 1 "InvalidText" (fA mg "InvalidText") ["line"]) {n : Nat} (C_read_datum : Cal P w K mg base (2 * n + 3) "read_datum" s_read_datum P_read_datum (sp_rdatX K (fA mg "InvalidText") n)) :
    Cal P w K mg base (2 * n + 4) "read_tuple" s_read_tuple P_read_tuple (sp_rtupX K (fA mg "InvalidText") n) := by
  refine T.d_read_tuple.ok sc_read_tuple (fun vs H Q E h => ?_) (fun f cdv A outer s H vs Q E hr h => ?_)
  · obtain ⟨l, a, dp, rfl, _⟩ := h; rfl
  obtain ⟨l, a, dp, rfl, hz, ha, hdp, hn, q, qe⟩ := h
  refine ⟨_, (pss_cons (ps_if (pt_cmpR op_gtU (pv 2) (pe_const T.c_MOST_DEPTH) (nomark _)) (pss_one (ps_raise rfl (takes_of rfl rfl rfl rfl) (pmk_x X_InvalidText hr (by omega) (pa_cons pe_int pa_nil)))) pss_nil)
      (pss_cons (ps_par (i := 3) (j := 1) rfl sc_read_tuple.nd rfl rfl (by decide) rfl rfl (pa_cons (pe_lstN pa_nil) (pa_cons (pe_op op_addU (pv 1) pe_int) pa_nil)) (by rfl))
      (pss_cons (ps_set (i := 4) sc_read_tuple.nd rfl (by first | exact .inl rfl | exact .inr rfl) (pe_cmpR (op_neU hr) (pe_slice sl_U (pv 0) (po_some (pv 1)) (po_some (pe_op op_addU (pv 1) pe_int))) pe_str (nomark _)))
      (pss_cons (ps_while (passes_of rfl) (pt_val (pv 4)) (pss_cons (ps_asg (pe_g C_read_datum (hr.mono (by omega)) (pxE (takes_of rfl rfl rfl rfl) (fun _ _ _ _ h => h)) (pa_cons (pv 0) (pa_cons (pv 1) (pa_cons (pv 2) pa_nil)))) (pg_tup rfl (pgs_cons (pg_name (i := 5) sc_read_tuple.nd rfl (by first | exact .inl rfl | exact .inr rfl)) (pgs_cons (pg_name (i := 1) sc_read_tuple.nd rfl (by first | exact .inl rfl | exact .inr rfl)) pgs_nil))))
      (pss_cons (ps_expr (pe_bm PySem.F.plainAttrs_list PySem.F.slot_list_append PySem.F.type_list_append mt_append (pv 3) (pa_cons (pv 5) pa_nil)))
      (pss_cons (ps_set (i := 4) sc_read_tuple.nd rfl (by first | exact .inl rfl | exact .inr rfl) (pe_cmpR (op_eqU hr) (pe_slice sl_U (pv 0) (po_some (pv 1)) (po_some (pe_op op_addU (pv 1) pe_int))) pe_str (nomark _)))
      (pss_one (ps_aug (i := 1) sc_read_tuple.nd rfl (by first | exact .inl rfl | exact .inr rfl) (pe_callTy (call_intU nd) (by rfl) T.n_int (by decide +kernel) (pa_cons (pv 4) pa_nil)) ip_add))))))
      (pss_cons (ps_if (pt_cmpR (op_neU hr) (pe_slice sl_U (pv 0) (po_some (pv 1)) (po_some (pe_op op_addU (pv 1) pe_int))) pe_str (nomark _)) (pss_one (ps_raise rfl (takes_of rfl rfl rfl rfl) (pmk_x X_InvalidText hr (by omega) (pa_cons pe_int pa_nil)))) pss_nil)
      (pss_one (ps_ret (pe_tup (pa_cons (pe_callTy call_tupleU (by rfl) T.n_tuple (by decide +kernel) (pa_cons (pv 3) pa_nil)) (pa_cons (pe_op op_addU (pv 1) pe_int) pa_nil)))))))))), ?_⟩
  have h2 : sizeLine = 16777216 := rfl
  walk_at "rd"
  refine br (fun h4 => ?_) fun h4 => ?_
  · have h4' : 4 < dp := by omega
    rw [if_pos h4'] at qe
    walk_at "rd"
    refine ⟨rfl, by simp, fun dd H2 n2 same hx => ?_⟩
    exact qe rfl dd H2 (ex_same n2 same) hx
  · have h4' : ¬ 4 < dp := by omega
    rw [if_neg h4'] at q qe
    have hn' : 4 - dp < n := hn.resolve_left h4'
    have hsnd := rdD_sound (4 - dp)
    walk_at "rd"
    refine k_lst fun L H1 nL _ e1 hL => ?_
    walk_at "rd"
    refine y_cut (a := a + 1) (b := a + 2) (by omega) (by omega) (by omega) ?_
    have e9 : ∀ p, (l.drop p).take (p + 1 - p) = (l.drop p).take 1 := fun p => by rw [Nat.add_sub_cancel_left]
    have hd : ∀ (r : List Nat) (c : Nat), decide (r.take 1 = [c]) = decide (r.head? = some c) := fun r c => by
      cases r with
      | nil => rfl
      | cons x t => show decide ([x] = [c]) = decide (some x = some c); simp
    rw [show a + 2 - (a + 1) = 1 by omega]
    walk_at "rd"
    rw [q_close, S_dec, hd]
    -- the loop: what is read, what is left, whether more is to come
    generalize hb0 : (!decide ((l.drop (a + 1)).head? = some 93)) = b0
    refine k_while (m0 := l.length - (a + 1) + (if b0 = true then 1 else 0)) (fun m σ' H' => ∃ (p : Nat) (es : List PyData) (xs : List V) (b : Bool) (it : Option V), FlAll K H' xs es ∧ H' L = some (.lst xs) ∧ Ex H H' ∧ p ≤ l.length ∧ xs.length ≤ p ∧ m = l.length - p + (if b = true then 1 else 0) ∧
      (b = true → ∃ n, (l.drop p).length < n ∧ rdT (rdD (4 - dp)) (l.drop (a + 1)) = rdE (rdL (rdD (4 - dp)) n es (l.drop p))) ∧ (b = false → rdT (rdD (4 - dp)) (l.drop (a + 1)) = rdE (some (es, l.drop p))) ∧
      σ' = [some (.str (S l)), some (.int (p : Nat)), some (.int (dp : Nat)), some (.ref L), some (.bl b), it]) ?_ ?_
    · refine ⟨a + 1, [], [], b0, none, .nil, hL, e1, by omega, Nat.zero_le _, rfl, fun hb => ⟨(l.drop (a + 1)).length + 1, Nat.lt_succ_self _, ?_⟩, fun hb => ?_, rfl⟩
      · unfold rdT
        rw [if_neg fun z => by rw [z] at hb0; rw [← hb0] at hb; simp at hb]
      · have z : (l.drop (a + 1)).head? = some 93 := by rw [← hb0] at hb; simpa using hb
        unfold rdT rdE
        dsimp only
        rw [if_pos z, if_pos z]
    · rintro m σ' H' ⟨p, es, xs, b, it, hF, hHL, eH, hp, hxp, rfl, hT, hFa, rfl⟩
      have hdl : (l.drop p).length = l.length - p := List.length_drop
      walk_at "rd"
      cases b with
      | true =>
        obtain ⟨n2, hn2, eT⟩ := hT rfl
        obtain ⟨n3, rfl⟩ : ∃ k, n2 = k + 1 := ⟨n2 - 1, by omega⟩
        rw [if_pos rfl]
        refine k_body ?_
        walk_at "rd"
        refine ⟨l, p, dp, rfl, hz, hp, by omega, hn', fun d r' v t H2 hrd e2 hv ht => ?_, fun hrd dd H2 e2 hx => ?_⟩
        · obtain ⟨s1, s2, s3, s4⟩ := hsnd _ _ _ hrd
          obtain ⟨c, tl, ec, _⟩ := txD_head d
          have hl1 : (txD d).length = tl.length + 1 := by rw [ec, List.length_cons]
          have hl2 : l.length - p = (txD d).length + r'.length := by rw [← hdl, s1, List.length_append]
          generalize hp1 : l.length - r'.length = p1 at ht
          have hp1' : p1 = p + (txD d).length := by omega
          have hdr : l.drop p1 = r' := by rw [hp1', ← List.drop_drop, s1, List.drop_left]
          refine g_tup (.of ht) rfl ?_
          walk_at "rd"
          refine k_isL (.of (e2 _ _ hHL)) ?_
          walk_at "rd"
          refine y_append (e2 _ _ hHL) (by omega) fun H3 e3 hL3 => ?_
          walk_at "rd"
          have t3 : Et H2 H3 := e3.et (e2 _ _ hHL)
          refine y_cut (a := p1) (b := p1 + 1) (by omega) rfl (by omega) ?_
          walk_at "rd"
          rw [e9, q_comma, S_dec, hd, hdr]
          generalize hb1 : decide (r'.head? = some 44) = b1
          walk_at "rd"
          have hrl : rdL (rdD (4 - dp)) (n3 + 1) es (l.drop p) = if r'.head? = some 44 then rdL (rdD (4 - dp)) n3 (es ++ [d]) r'.tail else some (es ++ [d], r') := by rw [rdL, hrd]
          have hF3 := (hF.mono (e2.et.trans t3)).snoc (hv.mono t3)
          have hx3 : (xs ++ [v]).length = xs.length + 1 := by rw [List.length_append]; rfl
          cases b1 with
          | true =>
            have z : r'.head? = some 44 := of_decide_eq_true hb1
            have hr' := head_cons z
            have hr2 : r'.length = r'.tail.length + 1 := by have := congrArg List.length hr'; rw [List.length_cons] at this; exact this
            have hdr2 : l.drop (p1 + 1) = r'.tail := by rw [← List.drop_drop, hdr, hr']; rfl
            refine ⟨l.length - (p1 + 1) + 1, by rw [if_pos rfl]; omega, p1 + 1, es ++ [d], xs ++ [v], true, some v, hF3, hL3, (eH.trans e2).lstN nL e3, by omega, by omega, rfl, fun _ => ⟨n3, by rw [hdr2]; omega, ?_⟩, fun h => (nomatch h), rfl⟩
            rw [eT, hrl, if_pos z, hdr2]
          | false =>
            have z : ¬ r'.head? = some 44 := of_decide_eq_false hb1
            refine ⟨l.length - p1 + 0, by rw [if_pos rfl]; omega, p1, es ++ [d], xs ++ [v], false, some v, hF3, hL3, (eH.trans e2).lstN nL e3, by omega, by omega, rfl, fun h => (nomatch h), fun _ => ?_, ?_⟩
            · rw [eT, hrl, if_neg z, hdr]
            · have e0 : ((p1 : Nat) : Int) + (if false = true then 1 else 0) = ((p1 : Nat) : Int) := by rw [if_neg Bool.false_ne_true]; omega
              rw [e0]
              rfl
        · refine qe ?_ dd H2 (eH.trans e2) hx
          rw [eT, rdL, hrd]
          rfl
      | false =>
        have eF := hFa rfl
        rw [if_neg Bool.false_ne_true]
        walk_at "rd"
        refine y_cut (a := p) (b := p + 1) (by omega) rfl (by omega) ?_
        walk_at "rd"
        rw [e9, S_dec, hd]
        refine brN (fun hc => ?_) fun hc => ?_
        · walk_at "rd"
          refine ⟨rfl, by simp, fun dd H2 n2 same hx => ?_⟩
          refine qe ?_ dd H2 (eH.trans (ex_same n2 same)) hx
          rw [eF]
          unfold rdE
          dsimp only
          rw [if_neg hc]
        · walk_at "rd"
          refine y_tupL (.of hHL) fun u H2 nu e2 hu => ?_
          walk_at "rd"
          refine k_tup fun t H3 nt e3 ht => ?_
          have hr' := head_cons hc
          have hr2 : (l.drop p).length = (l.drop p).tail.length + 1 := by have := congrArg List.length hr'; rw [List.length_cons] at this; exact this
          refine q (.tuple es) (l.drop p).tail (.ref u) t H3 ?_ (eH.trans (e2.trans e3)) (.tup (.of (e3 _ _ hu)) (hF.mono (e2.trans e3).et)) ?_
          · rw [eF]
            unfold rdE
            dsimp only
            rw [if_pos hc]
          · rw [ht, show ((p : Nat) : Int) + 1 = ((l.length - (l.drop p).tail.length : Nat) : Int) by omega]
theorem ok_read_datumX (T : Tx K mg w) (X_InvalidText : Xk P w K mg base 1 "InvalidText" (fA mg "InvalidText") ["line"]) (C_read_integer : Cal P w K mg base 3 "read_integer" s_read_integer P_read_integer (sp_rintX K (fA mg "InvalidText"))) : ∀ n, Cal P w K mg base (2 * n + 3) "read_datum" s_read_datum P_read_datum (sp_rdatX K (fA mg "InvalidText") n)
  | 0 => (T.d_read_datum.never fun vs H Q E h => by obtain ⟨l, a, dp, _, _, _, _, z, _⟩ := h; omega).up (by omega)
  | n + 1 => by
    have C_read_tuple := ok_read_tupleX nd T X_InvalidText (ok_read_datumX T X_InvalidText C_read_integer n)
    refine T.d_read_datum.ok sc_read_datum (fun vs H Q E h => ?_) (fun f cdv A outer s H vs Q E hr h => ?_)
    · obtain ⟨l, a, dp, rfl, _⟩ := h; rfl
    obtain ⟨l, a, dp, rfl, hz, ha, hdp, hn, q, qe⟩ := h
    refine ⟨_, (pss_cons (ps_if (pt_cmpR (op_eqU hr) (pe_slice sl_U (pv 0) (po_some (pv 1)) (po_some (pe_op op_addU (pv 1) pe_int))) pe_str (nomark _)) (pss_one (ps_ret (pe_g C_read_tuple (hr.mono (by omega)) (pxE (takes_of rfl rfl rfl rfl) (fun _ _ _ _ h => h)) (pa_cons (pv 0) (pa_cons (pv 1) (pa_cons (pe_op op_addU (pv 2) pe_int) pa_nil)))))) pss_nil)
      (pss_one (ps_ret (pe_g C_read_integer (hr.mono (by omega)) (pxE (takes_of rfl rfl rfl rfl) (fun _ _ _ _ h => h)) (pa_cons (pv 0) (pa_cons (pv 1) pa_nil)))))), ?_⟩
    have h2 : sizeLine = 16777216 := rfl
    have hd : ∀ (r : List Nat) (c : Nat), decide (r.take 1 = [c]) = decide (r.head? = some c) := fun r c => by
      cases r with
      | nil => rfl
      | cons x t => show decide ([x] = [c]) = decide (some x = some c); simp
    walk_at "rd"
    refine y_cut (a := a) (b := a + 1) (by omega) rfl (by omega) ?_
    walk_at "rd"
    rw [Nat.add_sub_cancel_left, q_open, S_dec, hd]
    refine br (fun hc => ?_) fun hc => ?_
    · have hr' := head_cons hc
      have hal : a < l.length := by
        have := congrArg List.length hr'
        rw [List.length_drop, List.length_cons] at this
        omega
      have hdr : l.drop (a + 1) = (l.drop a).tail := by rw [← List.drop_drop, hr']; rfl
      have key : rdD (4 - dp) (l.drop a) = if 4 < dp + 1 then none else rdT (rdD (4 - (dp + 1))) (l.drop (a + 1)) := by
        by_cases h4 : dp = 4
        · subst h4
          rw [if_pos (by omega), Nat.sub_self, rdD, if_pos hc]
        · rw [if_neg (by omega), hdr, show 4 - dp = (4 - (dp + 1)) + 1 by omega, rdD, if_pos hc]
      rw [key] at q qe
      walk_at "rd"
      exact ⟨l, a, dp + 1, rfl, hz, hal, by omega, by omega, q, qe⟩
    · have key : rdD (4 - dp) (l.drop a) = rdI (l.drop a) := by
        cases h4 : 4 - dp with
        | zero => rw [rdD, if_neg hc]
        | succ k => rw [rdD, if_neg hc]
      rw [key] at q qe
      walk_at "rd"
      exact ⟨l, a, rfl, hz, ha, q, qe⟩
theorem ok_parse_valueX (T : Tx K mg w) (X_InvalidText : Xk P w K mg base 1 "InvalidText" (fA mg "InvalidText") ["line"]) (C_read_datum : Cal P w K mg base 13 "read_datum" s_read_datum P_read_datum (sp_rdatX K (fA mg "InvalidText") 5)) (C_is_datum : Cal P w K mg base 13 "is_datum" s_is_datum P_is_datum (sp_isdatum K 10)) :
    Cal P w K mg base 14 "parse_value" s_parse_value P_parse_value (sp_parseX K (fA mg "InvalidText")) := by
  refine T.d_parse_value.ok sc_parse_value (fun vs H Q E h => ?_) (fun f cdv A outer s H vs Q E hr h => ?_)
  · obtain ⟨v, d, rfl, _⟩ := h; rfl
  obtain ⟨v, d, rfl, hd, h⟩ := h
  refine ⟨_, (pss_cons (ps_if (pt_not (pt_val (pe_callB call_isiU (by rfl) T.n_isinstance (by decide +kernel) (pa_cons (pv 0) (pa_cons (pe_bltn (v := .ty "str") (u := .type "str") (by rfl) T.n_str (by decide +kernel) rfl) pa_nil))))) (pss_one (ps_raise rfl (takes_of rfl rfl rfl rfl) (pmk_x X_InvalidText hr (by omega) (pa_cons pe_int pa_nil)))) pss_nil)
      (pss_cons (ps_if (pt_cmpR (op_eqU hr) (pv 0) (pe_const T.c_FAULT) (nomark _)) (pss_one (ps_ret (pe_const T.c_FAULT))) pss_nil)
      (pss_cons (ps_asg (pe_g C_read_datum (hr.mono (by omega)) (pxE (takes_of rfl rfl rfl rfl) (fun _ _ _ _ h => h)) (pa_cons (pv 0) (pa_cons pe_int (pa_cons pe_int pa_nil)))) (pg_tup rfl (pgs_cons (pg_name (i := 1) sc_parse_value.nd rfl (by first | exact .inl rfl | exact .inr rfl)) (pgs_cons (pg_name (i := 2) sc_parse_value.nd rfl (by first | exact .inl rfl | exact .inr rfl)) pgs_nil))))
      (pss_cons (ps_if (PW.pt (pw_or (pt_cmpR op_ltU (pv 2) (pe_callB call_lenU (by rfl) T.n_len (by decide +kernel) (pa_cons (pv 0) pa_nil)) (nomark _)) (pw_or1 (pt_not (pt_val (pe_g C_is_datum (hr.mono (by omega)) px0 (pa_cons (pv 1) pa_nil))))))) (pss_one (ps_raise rfl (takes_of rfl rfl rfl rfl) (pmk_x X_InvalidText hr (by omega) (pa_cons pe_int pa_nil)))) pss_nil)
      (pss_one (ps_ret (pv 1))))))), ?_⟩
  have h2 : sizeLine = 16777216 := rfl
  walk_at "rd"
  rcases h with ⟨l, rfl, hz, q, qe⟩ | ⟨hs, qe⟩
  · refine y_isi hd (b := true) rfl ?_
    cases hd
    walk_at "rd"
    rw [q_fault, S_dec]
    refine br (fun hf => ?_) fun hf => ?_
    · walk_at "rd"
      rw [← q_fault]
      refine q faultD _ H ?_ (Ex.refl H) fl_fault
      unfold prV
      rw [if_pos hf]
    · have key : prV l = prE (rdD 4 l) := by unfold prV; rw [if_neg hf]
      walk_at "rd"
      refine ⟨l, 0, 0, rfl, hz, Nat.zero_le _, by decide, by decide, fun d r' v t H1 hrd e1 hv ht => ?_, fun hrd dd H1 e1 hx => ?_⟩
      · have hrd' : rdD 4 l = some (d, r') := hrd
        obtain ⟨s1, s2, s3, s4⟩ := rdD_sound 4 _ _ _ hrd'
        have hl : l.length = (txD d).length + r'.length := by have := congrArg List.length s1; rw [List.length_append] at this; exact this
        rw [hrd'] at key
        refine g_tup (.of ht) rfl ?_
        walk_at "rd"
        refine y_lenC (by omega) ?_
        walk_at "rd"
        cases r' with
        | cons x r'' =>
          rw [List.length_cons] at hl
          refine ifY (by rw [List.length_cons]; omega) ?_
          walk_at "rd"
          refine ⟨rfl, by simp, fun dd H2 n2 same hx => ?_⟩
          exact qe key dd H2 (e1.trans (ex_same n2 same)) hx
        | nil =>
          have key : prV l = if isD d = true then some d else none := key
          refine ifN (by rw [List.length_nil]; omega) ?_
          walk_at "rd"
          refine ⟨v, d, rfl, hv.dt, okP_sm d s2, by omega, fun H2 e2 => ?_⟩
          walk_at "rd"
          refine brBN (fun hD => ?_) fun hD => ?_
          · walk_at "rd"
            refine ⟨rfl, by simp, fun dd H3 n3 same hx => ?_⟩
            refine qe ?_ dd H3 (e1.trans (e2.trans (ex_same n3 same))) hx
            rw [key, hD, if_neg Bool.false_ne_true]
          · walk_at "rd"
            refine q d v H2 ?_ (e1.trans e2) (hv.mono e2.et)
            rw [key, hD, if_pos rfl]
      · have hrd' : rdD 4 l = none := hrd
        rw [hrd'] at key
        exact qe key dd H1 e1 hx
  · cases d with
    | str x => cases hs
    | _ =>
      refine y_isi hd (b := false) rfl ?_
      walk_at "rd"
      refine ⟨rfl, by simp, fun dd H2 n2 same hx => ?_⟩
      exact qe dd H2 (ex_same n2 same) hx
end

end My
end

section
set_option Elab.async false
set_option linter.all false
set_option maxRecDepth 100000
set_option maxHeartbeats 4000000
namespace My
open PySem PySem.Spec PyProof.Rows L2 Ls SX LamX
local macro_rules | `(tactic| walk_at "rd1") => `(tactic| (first | ((with_reducible refine' Ls.r_var ?hV ?_); (case hV => exact rfl)) | (with_reducible refine Ls.r_c ?_) | (with_reducible refine Ls.r_op ?_) | (with_reducible refine Ls.r_un ?_) | (with_reducible refine Ls.r_nil ?_) | (with_reducible refine Ls.r_cons ?_) | (with_reducible refine Ls.r_cb ?_) | (with_reducible refine Ls.r_ckw ?_) | (with_reducible refine Ls.r_cal ?_) | (with_reducible refine Ls.r_calK ?_) | (with_reducible refine Ls.r_tup ?_) | (with_reducible refine Ls.r_lst ?_) | (with_reducible refine Ls.r_if ?_) | (with_reducible refine Ls.r_andV ?_) | (with_reducible refine Ls.r_orV ?_) | (with_reducible refine Ls.r_notV ?_) | (with_reducible refine Ls.r_chain ?_) | (with_reducible refine Ls.r_sl ?_) | (with_reducible refine Ls.r_nopart ?_) | (with_reducible refine Ls.r_part ?_) | (with_reducible refine Ls.k_part ?_) | (with_reducible refine Ls.r_test ?_) | (with_reducible refine Ls.r_B ?_) | (with_reducible refine Ls.k_B ?_) | (with_reducible refine Ls.r_not ?_) | (with_reducible refine Ls.r_and ?_) | (with_reducible refine Ls.r_or ?_) | (with_reducible refine Ls.r_seq ?_) | (with_reducible refine Ls.r_ifS ?_) | (with_reducible refine Ls.r_next ?_) | (with_reducible refine Ls.r_brk ?_) | (with_reducible refine Ls.r_cont ?_) | (with_reducible refine Ls.r_ret ?_) | (with_reducible refine Ls.r_retN ?_) | (with_reducible refine Ls.r_drop ?_) | (with_reducible refine Ls.r_asg ?_) | (with_reducible refine Ls.r_par ?_) | (with_reducible refine Ls.k_par ?_) | ((with_reducible refine' Ls.r_aug ?hV ?_); (case hV => exact rfl)) | (with_reducible refine Ls.y_ip ?_) | (with_reducible refine Ls.g_name ?_) | (with_reducible refine Ls.g_nil ?_) | (with_reducible refine Ls.g_cons ?_) | (with_reducible refine Ls.g_sub ?_) | (with_reducible refine Ls.e_end ?_) | (with_reducible refine Ls.e_endr ?_) | (with_reducible refine Ls.e_nx ?_) | (with_reducible refine Ls.e_rt ?_) | (with_reducible refine Ls.e_bk ?_) | (with_reducible refine Ls.e_ct ?_) | (with_reducible refine Ls.r_for ?_) | (with_reducible refine Ls.i_seq ?_) | (with_reducible refine Ls.r_xi ?_) | (with_reducible refine Ls.r_xo ?_) | (with_reducible refine Ls.r_mk ?_) | (with_reducible refine Ls.r_xf ?_) | (with_reducible refine Ls.i_enum ?_) | (with_reducible refine Ls.i_rng1 ?_) | (with_reducible refine Ls.r_m1 ?_) | (with_reducible refine Ls.r_m0 ?_) | (with_reducible refine Ls.k_isS ?_) | (with_reducible refine Ls.r_bm ?_) | (with_reducible refine Ls.r_lc ?_) | (with_reducible refine Ls.y_add ?_) | (with_reducible refine Ls.y_sub ?_) | (with_reducible refine Ls.y_neg ?_) | (with_reducible refine Ls.y_lt ?_) | (with_reducible refine Ls.y_le ?_) | (with_reducible refine Ls.y_gt ?_) | (with_reducible refine Ls.y_ge ?_) | (with_reducible refine Ls.y_eqI ?_) | (with_reducible refine Ls.y_eqS ?_) | (with_reducible refine Ls.y_neI ?_) | (with_reducible refine Ls.y_neS ?_) | (with_reducible refine Ls.y_isNo ?_) | (with_reducible refine Ls.y_isntNo ?_) | (with_reducible refine Ls.y_abs ?_) | (with_reducible refine Ls.y_max2 ?_) | (with_reducible refine Ls.y_min2 ?_) | (with_reducible refine Ls.y_intI ?_) | (with_reducible refine Ls.y_intB ?_) | ((with_reducible refine' Ls.y_ixL ?hS ?hA ?_); (case hS => first | assumption | exact L2.SqL.of (by assumption)); (case hA => rfl)) | ((with_reducible refine' Ls.y_ixT ?hS ?hA ?_); (case hS => first | assumption | exact L2.SqT.of (by assumption)); (case hA => rfl)) | ((with_reducible refine' Ls.y_mod ?hC ?_); (case hC => first | decide | omega)) | ((with_reducible refine' Ls.y_fdiv ?hC ?_); (case hC => first | decide | (constructor <;> omega))) | ((with_reducible refine' Ls.y_pow ?hC ?_); (case hC => exact ⟨by decide, by decide, by decide⟩)) | ((with_reducible refine' Ls.y_mul ?hC ?_); (case hC => first | exact .inr ⟨by decide, by decide⟩ | exact .inl ⟨by decide, by decide⟩ | exact .inr ⟨by omega, by omega⟩ | exact .inl ⟨by omega, by omega⟩)) | (with_reducible refine L2.iteT ?_) | (with_reducible refine L2.iteF ?_) | (with_reducible refine Ls.iteNF ?_) | (with_reducible refine Ls.iteNT ?_)))
local macro_rules | `(tactic| walk_at "rd") => `(tactic| (repeat walk_at "rd1"))
local macro_rules | `(tactic| walk_at "lits") => `(tactic| (first | exact Ls.lit_nil | (refine' Ls.lit_cons ?hL ?hR; (case hL => walk_at "lits"); (case hR => walk_at "lits")) | exact Ls.lit_non | exact Ls.lit_bl | exact Ls.lit_int | exact Ls.lit_str | exact Ls.lit_neg | exact Ls.lit_dn | exact Ls.lit_d1 | exact Ls.lit_d1s | (refine' Ls.lit_tup ?hA ?hZ; (case hA => walk_at "lits"); (case hZ => first | decide | simp)) | (refine' Ls.lit_lst ?hA ?hZ; (case hA => walk_at "lits"); (case hZ => first | decide | simp))))

theorem q_br2 : Str.ofString "[]" = S [91, 93] := by decide +kernel
section
variable {P : Program} {w : World} {K : PySem.W.Frag} {mg : Str → Option Value} {base : Heap} (nd : base.NoDigits)
include nd
theorem ok_lparts (T : Tx K mg w) : Cal P w K mg base 1 "_law_parts" s_law_parts P_law_parts sp_lparts := by
  refine T.d_law_parts.ok sc_law_parts (fun vs H Q E h => ?_) (fun f cdv A outer s H vs Q E hr h => ?_)
  · obtain ⟨l, rfl, _⟩ := h; rfl
  obtain ⟨l, rfl, hz, q⟩ := h
  refine ⟨_, PSs.nox (pss_cons (ps_par (i := 1) (j := 2) rfl sc_law_parts.nd rfl rfl (by decide) rfl rfl (pa_cons (pe_lstN (pa_cons pe_str pa_nil)) (pa_cons pe_int pa_nil)) (by rfl))
      (pss_cons (ps_for PassesOwn.never rfl (pi_seq (pv 0)) (pg_name (i := 3) sc_law_parts.nd rfl (by first | exact .inl rfl | exact .inr rfl)) (pss_cons (ps_set (i := 2) sc_law_parts.nd rfl (by first | exact .inl rfl | exact .inr rfl) (pe_op op_subU (pe_op op_addU (pv 2) (pe_callTy (call_intU nd) (by rfl) T.n_int (by decide +kernel) (pa_cons (pe_cmpR (op_eqU hr) (pv 3) pe_str (nomark _)) pa_nil))) (pe_callTy (call_intU nd) (by rfl) T.n_int (by decide +kernel) (pa_cons (pe_cmpR (op_eqU hr) (pv 3) pe_str (nomark _)) pa_nil))))
      (pss_one (ps_if (PW.pt (pw_and (pt_cmpR (op_eqU hr) (pv 3) pe_str (nomark _)) (pw_and1 (pt_cmpR (op_eqU hr) (pv 2) pe_int (nomark _))))) (pss_one (ps_expr (pe_bm PySem.F.plainAttrs_list PySem.F.slot_list_append PySem.F.type_list_append mt_append (pv 1) (pa_cons pe_str pa_nil)))) (pss_one (ps_asg (pe_op op_addU (pe_ix ix_seq (pv 1) (pe_un un_negU pe_int) (fun _ _ => rfl)) (pv 3)) (pg_sub (pv 1) (pe_un un_negU pe_int) set_list)))))))
      (pss_one (ps_ret (pv 1))))), ?_⟩
  have h2 : sizeLine = 16777216 := rfl
  walk_at "rd"
  rw [q_empty]
  refine k_lst fun D H1 nD _ e1 h1 => ?_
  walk_at "rd"
  refine i_S ?_
  refine k_forS (fun j σ' H' => ∃ (k : Int) (done : List (List Nat)) (cur : List Nat) (o : Option V), H' D = some (.lst ((done ++ [cur]).map fun p => V.str (S p))) ∧ partsF (l.drop j) k done cur = partsL l ∧ Ex H H' ∧ done.length ≤ j ∧ cur.length ≤ j ∧
    σ' = [some (.str (S l)), some (.ref D), some (.int k), o]) ⟨0, [], [], none, h1, rfl, e1, Nat.le_refl _, Nat.le_refl _, rfl⟩ ?_ ?_
  · rintro j c σ' H' hc ⟨k, done, cur, o, hD, hp, eH, hl1, hl2, rfl⟩
    have hj : j < l.length := (List.getElem?_eq_some_iff.mp hc).1
    have hdr : l.drop j = c :: l.drop (j + 1) := by
      have := List.drop_eq_getElem_cons hj
      rw [this]
      congr 1
      exact (List.getElem?_eq_some_iff.mp hc).2
    have hcl : ((done ++ [cur]).map fun p => V.str (S p)).length = done.length + 1 := by rw [List.length_map, List.length_append]; rfl
    rw [hdr, partsF] at hp
    walk_at "rd"
    simp only [q_open, q_close, q_comma, S_dec, one_dec]
    have ek : k + (if decide (c = 91) = true then (1 : Int) else 0) - (if decide (c = 93) = true then (1 : Int) else 0) = stepK k c := rfl
    rw [ek]
    have app : ∀ {Q2 : VK}, c = 44 ∧ stepK k c = 0 → (∀ H'', H'' D = some (.lst (((done ++ [cur]) ++ [[]]).map fun p => V.str (S p))) → Ex H H'' → partsF (l.drop (j + 1)) (stepK k c) (done ++ [cur]) [] = partsL l → Q2 .non H'') → rAppend (.ref D) [.str (S [])] H' Q2 := fun {Q2} hc2 k1 => by
      refine y_append hD (by rw [hcl]; omega) fun H'' e'' h'' => k1 H'' ?_ (eH.lstN nD e'') ?_
      · rw [h'', List.map_append (l₁ := done ++ [cur])]; rfl
      · rw [if_pos hc2] at hp; exact hp
    have other : ∀ {QH : Hp → Prop}, ¬ (c = 44 ∧ stepK k c = 0) → (∀ H'', H'' D = some (.lst ((done ++ [cur ++ [c]]).map fun p => V.str (S p))) → Ex H H'' → partsF (l.drop (j + 1)) (stepK k c) done (cur ++ [c]) = partsL l → QH H'') → rSetL (.ref D) (.int (-1)) (.str (S (cur ++ [c]))) H' QH := fun {QH} hc2 k1 => by
      refine y_setL hD (by rw [hcl]; exact ixN_last _) fun H'' e'' h'' => k1 H'' ?_ (eH.lstN nD e'') ?_
      · rw [h'', List.map_append, List.map_append]
        have := set_last (done.map fun p => V.str (S p)) (V.str (S cur)) (V.str (S (cur ++ [c])))
        rw [List.length_map] at this
        rw [show ([cur].map fun p => V.str (S p)) = [V.str (S cur)] from rfl, this]
        rfl
      · rw [if_neg hc2] at hp; exact hp
    have last : atI ((done ++ [cur]).map fun p => V.str (S p)) (-1) = some (V.str (S cur)) := by rw [List.map_append]; exact atI_last _ _
    refine br (fun h44 => ?_) fun h44 => ?_
    · walk_at "rd"
      refine br (fun h0 => ?_) fun h0 => ?_
      · walk_at "rd"
        refine k_isL (.of hD) ?_
        walk_at "rd"
        refine app ⟨h44, h0⟩ fun H'' a b c2 => ?_
        walk_at "rd"
        exact ⟨stepK k c, done ++ [cur], [], _, a, c2, b, by rw [List.length_append]; simp; omega, Nat.zero_le _, rfl⟩
      · walk_at "rd"
        refine y_ixL (.of hD) last ?_
        walk_at "rd"
        refine y_addC (by simp only [List.length_singleton]; omega) ?_
        walk_at "rd"
        refine other (fun z => h0 z.2) fun H'' a b c2 => ?_
        walk_at "rd"
        exact ⟨stepK k c, done, cur ++ [c], _, a, c2, b, by omega, by rw [List.length_append]; simp; omega, rfl⟩
    · walk_at "rd"
      refine y_ixL (.of hD) last ?_
      walk_at "rd"
      refine y_addC (by simp only [List.length_singleton]; omega) ?_
      walk_at "rd"
      refine other (fun z => h44 z.1) fun H'' a b c2 => ?_
      walk_at "rd"
      exact ⟨stepK k c, done, cur ++ [c], _, a, c2, b, by omega, by rw [List.length_append]; simp; omega, rfl⟩
  · rintro σ' H' ⟨k, done, cur, o, hD, hp, eH, hl1, hl2, rfl⟩
    walk_at "rd"
    rw [List.drop_length, partsF] at hp
    rw [hp] at hD
    exact q D H' nD eH hD
end

end My
end

section
set_option Elab.async false
set_option linter.all false
set_option maxRecDepth 100000
set_option maxHeartbeats 4000000
namespace My
open PySem PySem.Spec PyProof.Rows L2 Ls SX LamX
local macro_rules | `(tactic| walk_at "rd1") => `(tactic| (first | ((with_reducible refine' Ls.r_var ?hV ?_); (case hV => exact rfl)) | (with_reducible refine Ls.r_c ?_) | (with_reducible refine Ls.r_op ?_) | (with_reducible refine Ls.r_un ?_) | (with_reducible refine Ls.r_nil ?_) | (with_reducible refine Ls.r_cons ?_) | (with_reducible refine Ls.r_cb ?_) | (with_reducible refine Ls.r_ckw ?_) | (with_reducible refine Ls.r_cal ?_) | (with_reducible refine Ls.r_calK ?_) | (with_reducible refine Ls.r_tup ?_) | (with_reducible refine Ls.r_lst ?_) | (with_reducible refine Ls.r_if ?_) | (with_reducible refine Ls.r_andV ?_) | (with_reducible refine Ls.r_orV ?_) | (with_reducible refine Ls.r_notV ?_) | (with_reducible refine Ls.r_chain ?_) | (with_reducible refine Ls.r_sl ?_) | (with_reducible refine Ls.r_nopart ?_) | (with_reducible refine Ls.r_part ?_) | (with_reducible refine Ls.k_part ?_) | (with_reducible refine Ls.r_test ?_) | (with_reducible refine Ls.r_B ?_) | (with_reducible refine Ls.k_B ?_) | (with_reducible refine Ls.r_not ?_) | (with_reducible refine Ls.r_and ?_) | (with_reducible refine Ls.r_or ?_) | (with_reducible refine Ls.r_seq ?_) | (with_reducible refine Ls.r_ifS ?_) | (with_reducible refine Ls.r_next ?_) | (with_reducible refine Ls.r_brk ?_) | (with_reducible refine Ls.r_cont ?_) | (with_reducible refine Ls.r_ret ?_) | (with_reducible refine Ls.r_retN ?_) | (with_reducible refine Ls.r_drop ?_) | (with_reducible refine Ls.r_asg ?_) | (with_reducible refine Ls.r_par ?_) | (with_reducible refine Ls.k_par ?_) | ((with_reducible refine' Ls.r_aug ?hV ?_); (case hV => exact rfl)) | (with_reducible refine Ls.y_ip ?_) | (with_reducible refine Ls.g_name ?_) | (with_reducible refine Ls.g_nil ?_) | (with_reducible refine Ls.g_cons ?_) | (with_reducible refine Ls.g_sub ?_) | (with_reducible refine Ls.e_end ?_) | (with_reducible refine Ls.e_endr ?_) | (with_reducible refine Ls.e_nx ?_) | (with_reducible refine Ls.e_rt ?_) | (with_reducible refine Ls.e_bk ?_) | (with_reducible refine Ls.e_ct ?_) | (with_reducible refine Ls.r_for ?_) | (with_reducible refine Ls.i_seq ?_) | (with_reducible refine Ls.r_xi ?_) | (with_reducible refine Ls.r_xo ?_) | (with_reducible refine Ls.r_mk ?_) | (with_reducible refine Ls.r_xf ?_) | (with_reducible refine Ls.i_enum ?_) | (with_reducible refine Ls.i_rng1 ?_) | (with_reducible refine Ls.r_m1 ?_) | (with_reducible refine Ls.r_m0 ?_) | (with_reducible refine Ls.k_isS ?_) | (with_reducible refine Ls.r_bm ?_) | (with_reducible refine Ls.r_lc ?_) | (with_reducible refine Ls.y_add ?_) | (with_reducible refine Ls.y_sub ?_) | (with_reducible refine Ls.y_neg ?_) | (with_reducible refine Ls.y_lt ?_) | (with_reducible refine Ls.y_le ?_) | (with_reducible refine Ls.y_gt ?_) | (with_reducible refine Ls.y_ge ?_) | (with_reducible refine Ls.y_eqI ?_) | (with_reducible refine Ls.y_eqS ?_) | (with_reducible refine Ls.y_neI ?_) | (with_reducible refine Ls.y_neS ?_) | (with_reducible refine Ls.y_isNo ?_) | (with_reducible refine Ls.y_isntNo ?_) | (with_reducible refine Ls.y_abs ?_) | (with_reducible refine Ls.y_max2 ?_) | (with_reducible refine Ls.y_min2 ?_) | (with_reducible refine Ls.y_intI ?_) | (with_reducible refine Ls.y_intB ?_) | ((with_reducible refine' Ls.y_ixL ?hS ?hA ?_); (case hS => first | assumption | exact L2.SqL.of (by assumption)); (case hA => rfl)) | ((with_reducible refine' Ls.y_ixT ?hS ?hA ?_); (case hS => first | assumption | exact L2.SqT.of (by assumption)); (case hA => rfl)) | ((with_reducible refine' Ls.y_mod ?hC ?_); (case hC => first | decide | omega)) | ((with_reducible refine' Ls.y_fdiv ?hC ?_); (case hC => first | decide | (constructor <;> omega))) | ((with_reducible refine' Ls.y_pow ?hC ?_); (case hC => exact ⟨by decide, by decide, by decide⟩)) | ((with_reducible refine' Ls.y_mul ?hC ?_); (case hC => first | exact .inr ⟨by decide, by decide⟩ | exact .inl ⟨by decide, by decide⟩ | exact .inr ⟨by omega, by omega⟩ | exact .inl ⟨by omega, by omega⟩)) | (with_reducible refine L2.iteT ?_) | (with_reducible refine L2.iteF ?_) | (with_reducible refine Ls.iteNF ?_) | (with_reducible refine Ls.iteNT ?_)))
local macro_rules | `(tactic| walk_at "rd") => `(tactic| (repeat walk_at "rd1"))
local macro_rules | `(tactic| walk_at "lits") => `(tactic| (first | exact Ls.lit_nil | (refine' Ls.lit_cons ?hL ?hR; (case hL => walk_at "lits"); (case hR => walk_at "lits")) | exact Ls.lit_non | exact Ls.lit_bl | exact Ls.lit_int | exact Ls.lit_str | exact Ls.lit_neg | exact Ls.lit_dn | exact Ls.lit_d1 | exact Ls.lit_d1s | (refine' Ls.lit_tup ?hA ?hZ; (case hA => walk_at "lits"); (case hZ => first | decide | simp)) | (refine' Ls.lit_lst ?hA ?hZ; (case hA => walk_at "lits"); (case hZ => first | decide | simp))))

section
variable {P : Program} {w : World} {K : PySem.W.Frag} {mg : Str → Option Value} {base : Heap} (nd : base.NoDigits)
include nd
theorem ok_lread (T : Tx K mg w) (C_law_parts : Cal P w K mg base 1 "_law_parts" s_law_parts P_law_parts sp_lparts) : ∀ n, Cal P w K mg base (n + 2) "_law_read" s_law_read P_law_read (sp_lread K n)
  | 0 => (T.d_law_read.never fun vs H Q E h => by obtain ⟨l, m, _, _, z, _⟩ := h; omega).up (by omega)
  | n + 1 => by
    have C_law_read := ok_lread T C_law_parts n
    refine T.d_law_read.ok sc_law_read (fun vs H Q E h => ?_) (fun f cdv A outer s H vs Q E hr h => ?_)
    · obtain ⟨l, m, rfl, _⟩ := h; rfl
    obtain ⟨l, m, rfl, hz, hn, hm4, q⟩ := h
    refine ⟨_, PSs.nox (pss_cons (ps_if (PW.pt (pw_and (pt_cmpR (op_eqU hr) (pe_slice sl_U (pv 0) po_none (po_some pe_int)) pe_str (nomark _)) (pw_and (pt_cmpR (op_eqU hr) (pe_slice sl_U (pv 0) (po_some (pe_un un_negU pe_int)) po_none) pe_str (nomark _)) (pw_and1 (pt_cmpR op_gtU (pe_callB call_lenU (by rfl) T.n_len (by decide +kernel) (pa_cons (pv 0) pa_nil)) pe_int (nomark _)))))) (pss_cons (ps_if (PW.pt (pw_or (pt_cmpR (op_eqU hr) (pv 0) pe_str (nomark _)) (pw_or1 (pt_cmpR (op_eqU hr) (pv 1) pe_int (nomark _))))) (pss_one (ps_ret (pe_ifExp (pt_cmpR (op_eqU hr) (pv 1) pe_int (nomark _)) pe_non (pe_tup pa_nil)))) pss_nil)
      (pss_cons (ps_setLc (i := 2) (own := [("_law_part", 3)]) rfl sc_law_read.nd rfl rfl (sw_true rfl rfl rfl (by decide +kernel)) (pi_seq (pe_g C_law_parts (hr.mono (by omega)) px0 (pa_cons (pe_slice sl_U (pv 0) (po_some pe_int) (po_some (pe_un un_negU pe_int))) pa_nil))) (blkOk_by (own := [("_law_part", 3)]) (N := N_law_read) (sc := defScope s_law_read) (by decide +kernel)) (fun _ _ _ _ _ => (pg_name (i := 3) sc_law_read.nd rfl (Or.inl rfl))) (fun _ _ _ _ _ => pts_nil) (fun _ _ _ _ _ => (pe_g C_law_read (hr.mono (by omega)) px0 (pa_cons (pv 3) (pa_cons (pe_op op_subU (pv 1) pe_int) pa_nil)))))
      (pss_one (ps_ret (pe_ifExp (pt_cmpR (op_inU hr) pe_non (pv 2) (by rfl)) pe_non (pe_callTy call_tupleU (by rfl) T.n_tuple (by decide +kernel) (pa_cons (pv 2) pa_nil))))))) pss_nil)
      (pss_cons (ps_set (i := 4) sc_law_read.nd rfl (by first | exact .inl rfl | exact .inr rfl) (pe_ifExp (pt_cmpR (op_eqU hr) (pe_slice sl_U (pv 0) po_none (po_some pe_int)) pe_str (nomark _)) (pe_slice sl_U (pv 0) (po_some pe_int) po_none) (pv 0)))
      (pss_cons (ps_if (PW.pt (pw_or (pt_cmpR (op_eqU hr) (pv 4) pe_str (nomark _)) (pw_or (pt_cmpR op_gtU (pe_callB call_lenU (by rfl) T.n_len (by decide +kernel) (pa_cons (pv 4) pa_nil)) pe_int (nomark _)) (pw_or1 (pt_not (pt_val (pe_callB (cr_all rfl) (by rfl) T.n_all (by decide +kernel) (pa_cons (pe_lc (own := [("_law_sign", 5)]) rfl sc_law_read.nd (pi_seq (pv 4)) (blkOk_by (own := [("_law_sign", 5)]) (N := N_law_read) (sc := defScope s_law_read) (by decide +kernel)) (fun _ _ _ _ _ => (pg_name (i := 5) sc_law_read.nd rfl (Or.inl rfl))) (fun _ _ _ _ _ => pts_nil) (fun _ _ _ _ _ => (pe_cmpR (r := rInU K) (op_inU hr) (pv 5) pe_str (by rfl)))) pa_nil)))))))) (pss_one (ps_ret pe_non)) pss_nil)
      (pss_cons (ps_if (PW.pt (pw_and (pt_cmpR (op_eqU hr) (pe_ix ix_seq (pv 4) pe_int (fun _ _ => rfl)) pe_str (nomark _)) (pw_and1 (pt_cmpR (op_neU hr) (pv 0) pe_str (nomark _))))) (pss_one (ps_ret pe_non)) pss_nil)
      (pss_one (ps_ret (pe_callTy (call_intU nd) (by rfl) T.n_int (by decide +kernel) (pa_cons (pv 0) pa_nil)))))))), ?_⟩
    have h2 : sizeLine = 16777216 := rfl
    have hd1 : ∀ (r : List Nat) (c : Nat), decide (r.take 1 = [c]) = decide (r.head? = some c) := fun r c => by
      cases r with
      | nil => rfl
      | cons x t => show decide ([x] = [c]) = decide (some x = some c); simp
    refine r_seq (r_ifS (cutT (isBr l) (fun Q1 k1 => ?_) ?_))
    · have fin : ∀ {b : Bool}, b = isBr l → Q1 b H := fun {b} e => by rw [e]; exact k1
      walk_at "rd"
      refine y_cutTo (b := 1) (by omega) rfl ?_
      walk_at "rd"
      rw [q_open, S_dec]
      refine br (fun c1 => ?_) fun c1 => ?_
      · walk_at "rd"
        refine y_cutEnd (k := 1) (by omega) (by decide) rfl ?_
        walk_at "rd"
        rw [q_close, S_dec]
        refine br (fun c2 => ?_) fun c2 => ?_
        · walk_at "rd"
          refine y_lenC (by omega) ?_
          walk_at "rd"
          refine fin ?_
          unfold isBr
          rw [decide_eq_true c1, decide_eq_true c2, Bool.true_and, Bool.true_and]
          by_cases c3 : 1 < l.length
          · rw [decide_eq_true c3, decide_eq_true (by omega)]
          · rw [decide_eq_false c3, decide_eq_false (by omega)]
        · refine fin ?_
          unfold isBr
          rw [decide_eq_false c2, Bool.false_and, Bool.and_false]
      · refine fin ?_
        unfold isBr
        rw [decide_eq_false c1, Bool.false_and]
    · refine brB (fun hb => ?_) fun hb => ?_
      · walk_at "rd"
        rw [q_br2, S_dec]
        cases m with
        | zero =>
          have hr0 : readL 0 l = none := by rw [readL, if_pos hb]
          rw [hr0] at q
          refine br (fun c1 => ?_) fun c1 => ?_
          · walk_at "rd"
            refine ifY rfl ?_
            walk_at "rd"
            exact q .non H (Ex.refl H) .non
          · walk_at "rd"
            refine ifY rfl ?_
            walk_at "rd"
            refine ifY rfl ?_
            walk_at "rd"
            exact q .non H (Ex.refl H) .non
        | succ m =>
          have hne : ¬ (((m + 1 : Nat) : Int) = 0) := by omega
          have hrd : readL (m + 1) l = if l = [91, 93] then some (.tuple []) else (optAll ((partsL (inBr l)).map (readL m))).map PyData.tuple := by rw [readL, if_pos hb]
          refine br (fun c1 => ?_) fun c1 => ?_
          · rw [hrd, if_pos c1] at q
            walk_at "rd"
            refine ifN hne ?_
            walk_at "rd"
            refine k_tup fun t H1 n1 e1 h1 => ?_
            exact q (.ref t) H1 e1 (.tup (.of h1) .nil)
          · rw [hrd, if_neg c1] at q
            walk_at "rd"
            refine ifN hne ?_
            walk_at "rd"
            have hlb : (inBr l).length ≤ l.length := by unfold inBr; rw [List.length_take, List.length_drop]; omega
            have hl1 : 1 ≤ l.length := by
              have := congrArg List.length (isBr_iff.mp hb)
              rw [List.length_cons] at this
              omega
            refine y_cutIn (a := 1) (k := 1) (by omega) (by decide) rfl rfl hl1 ?_
            walk_at "rd"
            refine ⟨inBr l, rfl, by omega, fun D H1 nD e1 h1 => ?_⟩
            generalize hps : partsL (inBr l) = ps at h1 q
            have hpl : ∀ p ∈ ps, p.length ≤ 30000 := fun p hp => by
              rw [← hps] at hp
              exact partsF_mem (b := 30000) (inBr l) 0 [] [] (fun _ h => (nomatch h)) (by rw [List.length_nil]; omega) p hp
            have hpn : ps.length ≤ 30001 := by
              rw [← hps]
              have := partsF_len (inBr l) 0 [] []
              unfold partsL
              rw [List.length_nil] at this
              omega
            refine i_L (.of h1) ?_
            refine k_lcG (fun d => match d with | .str z => optD (readL m z.cps.toList) | _ => .none) (.of h1) (flS ps) (by rw [List.length_map]; omega) (fun x d H2 Q2 hm e hx hq => ?_) (fun x => rfl) fun D2 ys H3 nD2 e3 hD2 hF => ?_
            · obtain ⟨p, hp, rfl⟩ := List.mem_map.mp hm
              have := fl_str hx
              subst this
              walk_at "rd"
              refine ⟨p, m, by rw [show ((m + 1 : Nat) : Int) - 1 = ((m : Nat) : Int) by omega], hpl p hp, by omega, by omega, fun v H4 e4 hv => hq v H4 e4 ?_⟩
              exact hv
            · have hF2 : FlAll K H3 ys ((ps.map (readL m)).map optD) := by
                have e : (ps.map fun p => PyData.str (S p)).map (fun d => match d with | .str z => optD (readL m z.cps.toList) | _ => .none) = (ps.map (readL m)).map optD := by
                  rw [List.map_map, List.map_map]
                  refine List.map_congr_left fun p _ => ?_
                  show optD (readL m (S p).cps.toList) = optD (readL m p)
                  rw [S_codes]
                rw [← e]
                exact hF
              have hok : ∀ d, some d ∈ ps.map (readL m) → okQ d = true ∧ tdp d ≤ m := fun d hd => by
                obtain ⟨p, _, hp⟩ := List.mem_map.mp hd
                exact (readL_sound m hp).2
              have hsh : SeqAt.shaped (.list ((ps.map (readL m)).map optD)) = true := shaped_list fun d hd => by
                obtain ⟨o, ho, rfl⟩ := List.mem_map.mp hd
                cases o with
                | none => exact ⟨rfl, Nat.zero_le _⟩
                | some d =>
                  obtain ⟨a, b⟩ := hok d ho
                  obtain ⟨a1, b1⟩ := okQ_lay d a
                  exact ⟨a1, by show PyData.depth d ≤ 50; omega⟩
              walk_at "rd"
              refine y_inD .non (.of hD2) hF2 (by decide +kernel) hsh ?_
              rw [any_none fun d hd => (hok d hd).1]
              cases hO : optAll (ps.map (readL m)) with
              | none =>
                rw [hO] at q
                rw [show (none : Option (List PyData)).isNone = true from rfl]
                walk_at "rd"
                exact q .non H3 (e1.trans e3) .non
              | some ds =>
                rw [hO] at q
                rw [show (some ds).isNone = false from rfl]
                walk_at "rd"
                refine y_tupL (.of hD2) fun t H4 nt e4 ht => ?_
                have e := optAll_some.mp hO
                rw [e] at hF2
                have e5 : (ds.map some).map optD = ds := by
                  rw [List.map_map]
                  exact List.map_id ds
                rw [e5] at hF2
                exact q (.ref t) H4 (e1.trans (e3.trans e4)) (.tup (.of ht) (hF2.mono e4.et))
      · have hrd : readL m l = if isNum l = true then some (.int (decI (rdS l) (rdB l))) else none := by
          cases m <;> rw [readL, hb, if_neg Bool.false_ne_true]
        rw [hrd] at q
        have hBl : (rdB l).length ≤ l.length := by
          unfold rdB
          split
          · rw [List.length_tail]; omega
          · omega
        refine r_next (e_nx (r_seq (r_asg (cut (fun v H' => v = .str (S (rdB l)) ∧ H' = H) (fun Q1 k1 => ?_) ?_))))
        · walk_at "rd"
          refine y_cutTo (b := 1) (by omega) rfl ?_
          walk_at "rd"
          rw [q_minus, S_dec, hd1]
          refine brB (fun c1 => ?_) fun c1 => ?_
          · walk_at "rd"
            refine y_cutFrom (a := 1) (by omega) rfl ?_
            refine k1 _ _ ⟨?_, rfl⟩
            unfold rdB rdS
            rw [c1, if_pos rfl, List.drop_one]
          · walk_at "rd"
            refine k1 _ _ ⟨?_, rfl⟩
            unfold rdB rdS
            rw [c1, if_neg Bool.false_ne_true]
        rintro _ H0 ⟨rfl, eH0⟩
        rw [eH0]
        refine g_name (e_nx (r_seq (r_ifS (cut3 (fun b H' => b = !(!decide (rdB l = []) && (decide ((rdB l).length ≤ 1001) && (rdB l).all isDg)) ∧ Ex H H') (fun Q1 k1 => ?_) ?_))))
        · walk_at "rd"
          rw [q_empty, S_dec]
          refine br (fun c1 => ?_) fun c1 => ?_
          · refine k1 _ _ ⟨?_, Ex.refl H⟩
            rw [decide_eq_true c1]; rfl
          · walk_at "rd"
            refine y_lenC (by omega) ?_
            walk_at "rd"
            refine br (fun c2 => ?_) fun c2 => ?_
            · refine k1 _ _ ⟨?_, Ex.refl H⟩
              rw [decide_eq_false (by omega : ¬ (rdB l).length ≤ 1001), Bool.false_and, Bool.and_false]; rfl
            · walk_at "rd"
              refine i_S ?_
              refine k_lcSB isDg (by omega) (fun c H1 Q2 hq => ?_) (fun x => rfl) fun D H1 nD e1 h1 => ?_
              · walk_at "rd"
                rw [q_digits]
                refine y_inC ?_
                have : decide (c ∈ [48, 49, 50, 51, 52, 53, 54, 55, 56, 57]) = isDg c := by
                  unfold isDg
                  by_cases hc : 48 ≤ c ∧ c ≤ 57
                  · rw [decide_eq_true hc.1, decide_eq_true hc.2]
                    exact decide_eq_true (by simp only [List.mem_cons, List.not_mem_nil, or_false]; omega)
                  · rw [decide_eq_false (by simp only [List.mem_cons, List.not_mem_nil, or_false]; omega)]
                    by_cases h3 : 48 ≤ c
                    · rw [decide_eq_true h3, decide_eq_false (by omega)]; rfl
                    · rw [decide_eq_false h3]; rfl
                rw [this]
                exact hq
              · walk_at "rd"
                refine y_all (bs := (rdB l).map isDg) (.of h1) ?_
                walk_at "rd"
                refine k1 _ _ ⟨?_, e1⟩
                rw [decide_eq_false c1, decide_eq_true (by omega : (rdB l).length ≤ 1001), List.all_map]
                rfl
        rintro _ H1 ⟨rfl, e1⟩
        refine brBN (fun c1 => ?_) fun c1 => ?_
        · walk_at "rd"
          have : isNum l = false := by
            unfold isNum
            cases hA : (rdB l).all isDg <;> rw [hA] at c1 <;> revert c1 <;> cases decide (rdB l = []) <;> cases decide ((rdB l).length ≤ 1001) <;> simp
          rw [this, if_neg Bool.false_ne_true] at q
          exact q .non H1 e1 .non
        · simp only [Bool.and_eq_true, Bool.not_eq_true', decide_eq_true_eq, decide_eq_false_iff_not] at c1
          obtain ⟨c1, c2, c3⟩ := c1
          obtain ⟨c, t, ec⟩ : ∃ c t, rdB l = c :: t := by
            cases hx : rdB l with
            | nil => exact absurd hx c1
            | cons c t => exact ⟨c, t, rfl⟩
          have key : isNum l = !(decide (c = 48) && !decide (l = [48])) := by
            unfold isNum
            rw [decide_eq_false c1, decide_eq_true c2, c3, ec]
            have : decide ((c :: t).take 1 = [48]) = decide (c = 48) := one_dec c 48
            rw [this]
            rfl
          rw [key] at q
          walk_at "rd"
          refine y_ixC (a := 0) (c := c) (by omega) rfl (by rw [ec]; rfl) ?_
          walk_at "rd"
          simp only [q_zero, S_dec, one_dec]
          have go : isNum l = true → Q (.int (decI (rdS l) (rdB l))) H1 := fun hk => by
            rw [key] at hk
            rw [hk, if_pos rfl] at q
            exact q _ H1 e1 (.int _)
          have num : isNum l = true → ∀ {σ : L2.St}, σ[0]? = some (some (.str (S l))) → rIntU [.str (S l)] H1 Q := fun hk {σ} _ => by
            obtain ⟨a, b⟩ := isNum_back hk
            have hlen : l.length ≤ 1002 := by
              have := congrArg List.length a
              rw [← this]
              unfold intL
              split
              · rw [List.length_cons]; omega
              · omega
            have e := int_back (i := decI (rdS l) (rdB l)) (by rw [a]; omega)
            rw [a] at e
            exact y_intC e (by omega) (go hk)
          refine br (fun c4 => ?_) fun c4 => ?_
          · walk_at "rd"
            simp only [q_zero, S_dec]
            refine brN (fun c5 => ?_) fun c5 => ?_
            · walk_at "rd"
              rw [decide_eq_true c4, decide_eq_false c5] at q
              exact q .non H1 e1 .non
            · walk_at "rd"
              exact num (by rw [key, decide_eq_true c5]; simp) (σ := [some (.str (S l))]) rfl
          · walk_at "rd"
            exact num (by rw [key, decide_eq_false c4]; rfl) (σ := [some (.str (S l))]) rfl
end

end My
end

section
set_option Elab.async false
set_option linter.all false
set_option maxRecDepth 100000
set_option maxHeartbeats 4000000
namespace My
open PySem PySem.Spec PyProof.Rows L2 Ls SX LamX
local macro_rules | `(tactic| walk_at "rd1") => `(tactic| (first | ((with_reducible refine' Ls.r_var ?hV ?_); (case hV => exact rfl)) | (with_reducible refine Ls.r_c ?_) | (with_reducible refine Ls.r_op ?_) | (with_reducible refine Ls.r_un ?_) | (with_reducible refine Ls.r_nil ?_) | (with_reducible refine Ls.r_cons ?_) | (with_reducible refine Ls.r_cb ?_) | (with_reducible refine Ls.r_ckw ?_) | (with_reducible refine Ls.r_cal ?_) | (with_reducible refine Ls.r_calK ?_) | (with_reducible refine Ls.r_tup ?_) | (with_reducible refine Ls.r_lst ?_) | (with_reducible refine Ls.r_if ?_) | (with_reducible refine Ls.r_andV ?_) | (with_reducible refine Ls.r_orV ?_) | (with_reducible refine Ls.r_notV ?_) | (with_reducible refine Ls.r_chain ?_) | (with_reducible refine Ls.r_sl ?_) | (with_reducible refine Ls.r_nopart ?_) | (with_reducible refine Ls.r_part ?_) | (with_reducible refine Ls.k_part ?_) | (with_reducible refine Ls.r_test ?_) | (with_reducible refine Ls.r_B ?_) | (with_reducible refine Ls.k_B ?_) | (with_reducible refine Ls.r_not ?_) | (with_reducible refine Ls.r_and ?_) | (with_reducible refine Ls.r_or ?_) | (with_reducible refine Ls.r_seq ?_) | (with_reducible refine Ls.r_ifS ?_) | (with_reducible refine Ls.r_next ?_) | (with_reducible refine Ls.r_brk ?_) | (with_reducible refine Ls.r_cont ?_) | (with_reducible refine Ls.r_ret ?_) | (with_reducible refine Ls.r_retN ?_) | (with_reducible refine Ls.r_drop ?_) | (with_reducible refine Ls.r_asg ?_) | (with_reducible refine Ls.r_par ?_) | (with_reducible refine Ls.k_par ?_) | ((with_reducible refine' Ls.r_aug ?hV ?_); (case hV => exact rfl)) | (with_reducible refine Ls.y_ip ?_) | (with_reducible refine Ls.g_name ?_) | (with_reducible refine Ls.g_nil ?_) | (with_reducible refine Ls.g_cons ?_) | (with_reducible refine Ls.g_sub ?_) | (with_reducible refine Ls.e_end ?_) | (with_reducible refine Ls.e_endr ?_) | (with_reducible refine Ls.e_nx ?_) | (with_reducible refine Ls.e_rt ?_) | (with_reducible refine Ls.e_bk ?_) | (with_reducible refine Ls.e_ct ?_) | (with_reducible refine Ls.r_for ?_) | (with_reducible refine Ls.i_seq ?_) | (with_reducible refine Ls.r_xi ?_) | (with_reducible refine Ls.r_xo ?_) | (with_reducible refine Ls.r_mk ?_) | (with_reducible refine Ls.r_xf ?_) | (with_reducible refine Ls.i_enum ?_) | (with_reducible refine Ls.i_rng1 ?_) | (with_reducible refine Ls.r_m1 ?_) | (with_reducible refine Ls.r_m0 ?_) | (with_reducible refine Ls.k_isS ?_) | (with_reducible refine Ls.r_bm ?_) | (with_reducible refine Ls.r_lc ?_) | (with_reducible refine Ls.y_add ?_) | (with_reducible refine Ls.y_sub ?_) | (with_reducible refine Ls.y_neg ?_) | (with_reducible refine Ls.y_lt ?_) | (with_reducible refine Ls.y_le ?_) | (with_reducible refine Ls.y_gt ?_) | (with_reducible refine Ls.y_ge ?_) | (with_reducible refine Ls.y_eqI ?_) | (with_reducible refine Ls.y_eqS ?_) | (with_reducible refine Ls.y_neI ?_) | (with_reducible refine Ls.y_neS ?_) | (with_reducible refine Ls.y_isNo ?_) | (with_reducible refine Ls.y_isntNo ?_) | (with_reducible refine Ls.y_abs ?_) | (with_reducible refine Ls.y_max2 ?_) | (with_reducible refine Ls.y_min2 ?_) | (with_reducible refine Ls.y_intI ?_) | (with_reducible refine Ls.y_intB ?_) | ((with_reducible refine' Ls.y_ixL ?hS ?hA ?_); (case hS => first | assumption | exact L2.SqL.of (by assumption)); (case hA => rfl)) | ((with_reducible refine' Ls.y_ixT ?hS ?hA ?_); (case hS => first | assumption | exact L2.SqT.of (by assumption)); (case hA => rfl)) | ((with_reducible refine' Ls.y_mod ?hC ?_); (case hC => first | decide | omega)) | ((with_reducible refine' Ls.y_fdiv ?hC ?_); (case hC => first | decide | (constructor <;> omega))) | ((with_reducible refine' Ls.y_pow ?hC ?_); (case hC => exact ⟨by decide, by decide, by decide⟩)) | ((with_reducible refine' Ls.y_mul ?hC ?_); (case hC => first | exact .inr ⟨by decide, by decide⟩ | exact .inl ⟨by decide, by decide⟩ | exact .inr ⟨by omega, by omega⟩ | exact .inl ⟨by omega, by omega⟩)) | (with_reducible refine L2.iteT ?_) | (with_reducible refine L2.iteF ?_) | (with_reducible refine Ls.iteNF ?_) | (with_reducible refine Ls.iteNT ?_)))
local macro_rules | `(tactic| walk_at "rd") => `(tactic| (repeat walk_at "rd1"))
local macro_rules | `(tactic| walk_at "lits") => `(tactic| (first | exact Ls.lit_nil | (refine' Ls.lit_cons ?hL ?hR; (case hL => walk_at "lits"); (case hR => walk_at "lits")) | exact Ls.lit_non | exact Ls.lit_bl | exact Ls.lit_int | exact Ls.lit_str | exact Ls.lit_neg | exact Ls.lit_dn | exact Ls.lit_d1 | exact Ls.lit_d1s | (refine' Ls.lit_tup ?hA ?hZ; (case hA => walk_at "lits"); (case hZ => first | decide | simp)) | (refine' Ls.lit_lst ?hA ?hZ; (case hA => walk_at "lits"); (case hZ => first | decide | simp))))

section
variable {P : Program} {w : World} {K : PySem.W.Frag} {mg : Str → Option Value} {base : Heap} (nd : base.NoDigits)
include nd
theorem ok_pot (T : Tx K mg w) : Cal P w K mg base 1 "_law_pot" s_law_pot P_law_pot (sp_pot K) := by
  refine T.d_law_pot.ok sc_law_pot (fun vs H Q E h => ?_) (fun f cdv A outer s H vs Q E hr h => ?_)
  · obtain ⟨p, m, k, rfl, _⟩ := h; rfl
  obtain ⟨sa, ns, k, rfl, hS, hk, q⟩ := h
  refine ⟨_, PSs.nox (pss_cons (ps_set (i := 2) sc_law_pot.nd rfl (by first | exact .inl rfl | exact .inr rfl) (pe_ifExp (pt_cmpR op_ltU (pv 1) (pe_callB call_lenU (by rfl) T.n_len (by decide +kernel) (pa_cons (pv 0) pa_nil)) (nomark _)) (pe_callB call_absU (by rfl) T.n_abs (by decide +kernel) (pa_cons (pe_ix ix_seq (pv 0) (pv 1) (fun _ _ => rfl)) pa_nil)) pe_int))
      (pss_one (ps_ret (pe_lstN (pa_cons (pe_callB (call_maxU rfl) (by rfl) T.n_max (by decide +kernel) (pa_cons pe_int (pa_cons (pe_op op_subU (pv 2) (pe_op op_powU pe_int pe_int)) pa_nil))) (pa_cons (pe_op op_modU (pe_op op_addU (pe_op op_addU (pe_op op_mulU (pe_op op_modU (pv 2) pe_int) pe_int) (pe_op op_mulU pe_int (pv 1))) pe_int) pe_int) pa_nil)))))), ?_⟩
  walk_at "rd"
  refine y_lenL hS ?_
  walk_at "rd"
  rw [List.length_map]
  have fin : ∀ c : Int, 0 ≤ c → 0 ≤ (if c - 10 ^ (18 : Int).toNat > 0 then c - 10 ^ (18 : Int).toNat else 0) := fun c hc => by split <;> omega
  have m0 : ∀ z : Int, 0 ≤ z % 2147483647 := fun z => Int.emod_nonneg _ (by decide)
  have m1 : ∀ z : Int, z % 2147483647 < 2147483648 := fun z => Int.lt_trans (Int.emod_lt_of_pos _ (by decide)) (by decide)
  refine br (fun hlt => ?_) fun hge => ?_
  · have hlt' : k < ns.length := by omega
    walk_at "rd"
    refine y_ixL (v := .int ns[k]) hS (atI_nat (by rw [List.getElem?_map, List.getElem?_eq_getElem hlt']; rfl)) ?_
    walk_at "rd"
    refine k_lst fun p H1 n _ e h1 => ?_
    exact q p H1 n e ⟨_, _, h1, fin _ (by split <;> omega), m0 _, m1 _⟩
  · walk_at "rd"
    refine k_lst fun p H1 n _ e h1 => ?_
    exact q p H1 n e ⟨_, _, h1, fin _ (by decide), m0 _, m1 _⟩
theorem ok_digit (T : Tx K mg w) : Cal P w K mg base 1 "_law_digit" s_law_digit P_law_digit sp_digit := by
  refine T.d_law_digit.ok sc_law_digit (fun vs H Q E h => ?_) (fun f cdv A outer s H vs Q E hr h => ?_)
  · obtain ⟨p, m, rfl, _⟩ := h; rfl
  obtain ⟨p, m, rfl, ⟨a, b, hp, a0, b0, b1⟩, m0, m1, q⟩ := h
  refine ⟨_, PSs.nox (pss_cons (ps_if (pt_cmpR op_gtU (pe_ix ix_seq (pv 0) pe_int (fun _ _ => rfl)) pe_int (nomark _)) (pss_cons (ps_asg (pe_callB call_divmodU (by rfl) T.n_divmod (by decide +kernel) (pa_cons (pe_ix ix_seq (pv 0) pe_int (fun _ _ => rfl)) (pa_cons (pv 1) pa_nil))) (pg_tup rfl (pgs_cons (pg_sub (pv 0) pe_int set_list) (pgs_cons (pg_name (i := 2) sc_law_digit.nd rfl (by first | exact .inl rfl | exact .inr rfl)) pgs_nil))))
      (pss_one (ps_ret (pv 2)))) pss_nil)
      (pss_cons (ps_asg (pe_op op_modU (pe_op op_addU (pe_op op_mulU (pe_ix ix_seq (pv 0) pe_int (fun _ _ => rfl)) pe_int) pe_int) pe_int) (pg_sub (pv 0) pe_int set_list))
      (pss_one (ps_ret (pe_op op_modU (pe_op op_fdivU (pe_op op_modU (pe_op op_mulU (pe_ix ix_seq (pv 0) pe_int (fun _ _ => rfl)) (pe_ix ix_seq (pv 0) pe_int (fun _ _ => rfl))) pe_int) pe_int) (pv 1)))))), ?_⟩
  walk_at "rd"
  refine br (fun ha => ?_) fun ha => ?_
  · walk_at "rd"
    refine y_divmod ⟨m0, m1⟩ fun t H1 nt e1 ht => ?_
    refine g_tup (.of ht) rfl ?_
    walk_at "rd"
    refine y_setL (e1 _ _ hp) rfl fun H2 e2 h2 => ?_
    walk_at "rd"
    exact q _ H2 (Int.emod_nonneg _ (by omega)) (Int.emod_lt_of_pos _ m0) ⟨_, _, h2, Int.ediv_nonneg a0 (by omega), b0, b1⟩ ((e1.em p).trans e2)
  · walk_at "rd"
    refine y_setL hp rfl fun H2 e2 h2 => ?_
    have c0 : 0 ≤ (b * 39373 + 12227) % 2147483629 := Int.emod_nonneg _ (by decide)
    have c1 : (b * 39373 + 12227) % 2147483629 < 2147483629 := Int.emod_lt_of_pos _ (by decide)
    walk_at "rd"
    exact q _ H2 (Int.emod_nonneg _ (by omega)) (Int.emod_lt_of_pos _ m0) ⟨_, _, h2, a0, c0, by omega⟩ e2
theorem ok_int (T : Tx K mg w) (C_law_digit : Cal P w K mg base 1 "_law_digit" s_law_digit P_law_digit sp_digit) : Cal P w K mg base 2 "_law_int" s_law_int P_law_int sp_int := by
  refine T.d_law_int.ok sc_law_int (fun vs H Q E h => ?_) (fun f cdv A outer s H vs Q E hr h => ?_)
  · obtain ⟨p, rfl, _⟩ := h; rfl
  obtain ⟨p, rfl, hP, q⟩ := h
  refine ⟨_, PSs.nox (pss_cons (ps_set (i := 1) sc_law_int.nd rfl (by first | exact .inl rfl | exact .inr rfl) (pe_g C_law_digit (hr.mono (by omega)) px0 (pa_cons (pv 0) (pa_cons pe_int pa_nil))))
      (pss_cons (ps_if (pt_cmpR op_ltU (pv 1) pe_int (nomark _)) (pss_one (ps_ret (pe_ix ix_seq (pe_lstN (pa_cons pe_int (pa_cons pe_int (pa_cons pe_int (pa_cons (pe_un un_negU pe_int) pa_nil))))) (pv 1) (fun _ _ => rfl)))) pss_nil)
      (pss_cons (ps_set (i := 2) sc_law_int.nd rfl (by first | exact .inl rfl | exact .inr rfl) (pe_lstN (pa_cons (pe_g C_law_digit (hr.mono (by omega)) px0 (pa_cons (pv 0) (pa_cons pe_int pa_nil))) (pa_cons (pe_un un_negU (pe_g C_law_digit (hr.mono (by omega)) px0 (pa_cons (pv 0) (pa_cons pe_int pa_nil)))) (pa_cons (pe_g C_law_digit (hr.mono (by omega)) px0 (pa_cons (pv 0) (pa_cons (pe_op op_powU pe_int pe_int) pa_nil))) (pa_cons (pe_op op_addU (pe_op op_powU pe_int pe_int) (pe_g C_law_digit (hr.mono (by omega)) px0 (pa_cons (pv 0) (pa_cons pe_int pa_nil)))) pa_nil))))))
      (pss_one (ps_ret (pe_ix ix_seq (pv 2) (pe_op op_subU (pv 1) pe_int) (fun _ _ => rfl))))))), ?_⟩
  walk_at "rd"
  refine ⟨p, 8, rfl, hP, by decide, by decide, fun w1 H1 w0 w8 P1 e1 => ?_⟩
  walk_at "rd"
  refine br (fun hw => ?_) fun hw => ?_
  · walk_at "rd"
    refine k_lst fun l H2 n2 _ x2 h2 => ?_
    walk_at "rd"
    have fin : ∀ i : Int, i.natAbs ≤ 10 ^ 21 → Q (.int i) H2 := fun i hi => q i H2 hi (P1.ex x2) (e1.trans (x2.em p))
    rcases (show w1 = 0 ∨ w1 = 1 ∨ w1 = 2 ∨ w1 = 3 by omega) with rfl | rfl | rfl | rfl
    · exact y_ixL (.of h2) rfl (fin _ (by decide))
    · exact y_ixL (.of h2) rfl (fin _ (by decide))
    · exact y_ixL (.of h2) rfl (fin _ (by decide))
    · exact y_ixL (.of h2) rfl (fin _ (by decide))
  · walk_at "rd"
    refine ⟨p, 10, rfl, P1, by decide, by decide, fun a H2 a0 a1 P2 e2 => ?_⟩
    walk_at "rd"
    refine ⟨p, 100, rfl, P2, by decide, by decide, fun b H3 b0 b1 P3 e3 => ?_⟩
    walk_at "rd"
    refine ⟨p, 100000, rfl, P3, by decide, by decide, fun c H4 c0 c1 P4 e4 => ?_⟩
    walk_at "rd"
    refine ⟨p, 1000, rfl, P4, by decide, by decide, fun d H5 d0 d1 P5 e5 => ?_⟩
    walk_at "rd"
    refine k_lst fun l H6 n6 _ x6 h6 => ?_
    walk_at "rd"
    have fin : ∀ i : Int, i.natAbs ≤ 10 ^ 21 → Q (.int i) H6 := fun i hi => q i H6 hi (P5.ex x6) ((e1.trans (e2.trans (e3.trans (e4.trans e5)))).trans (x6.em p))
    have p20 : (10 : Int) ^ (20 : Int).toNat = 100000000000000000000 := by decide
    rcases (show w1 = 4 ∨ w1 = 5 ∨ w1 = 6 ∨ w1 = 7 by omega) with rfl | rfl | rfl | rfl
    · exact y_ixL (.of h6) rfl (fin _ (by omega))
    · exact y_ixL (.of h6) rfl (fin _ (by omega))
    · exact y_ixL (.of h6) rfl (fin _ (by omega))
    · exact y_ixL (.of h6) rfl (fin _ (by rw [p20]; omega))
end

section
variable {P : Program} {w : World} {K : PySem.W.Frag} {mg : Str → Option Value} {base : Heap} (nd : base.NoDigits)
include nd
theorem ok_pick (T : Tx K mg w) (C_law_digit : Cal P w K mg base 1 "_law_digit" s_law_digit P_law_digit sp_digit) : Cal P w K mg base 2 "_law_pick" s_law_pick P_law_pick (sp_pick K) := by
  refine T.d_law_pick.ok sc_law_pick (fun vs H Q E h => ?_) (fun f cdv A outer s H vs Q E hr h => ?_)
  · obtain ⟨p, l, xs, rfl, _⟩ := h; rfl
  obtain ⟨p, l, xs, rfl, hP, hS, nl, h0, h1, q⟩ := h
  refine ⟨_, PSs.nox (pss_one (ps_ret (pe_ix ix_seq (pv 1) (pe_g C_law_digit (hr.mono (by omega)) px0 (pa_cons (pv 0) (pa_cons (pe_callB call_lenU (by rfl) T.n_len (by decide +kernel) (pa_cons (pv 1) pa_nil)) pa_nil))) (fun _ _ => rfl)))), ?_⟩
  walk_at "rd"
  refine y_lenL hS ?_
  walk_at "rd"
  refine ⟨p, _, rfl, hP, by omega, by omega, fun d H1 d0 d1 P1 e1 => ?_⟩
  obtain ⟨i, rfl⟩ : ∃ i : Nat, d = (i : Nat) := ⟨d.toNat, by omega⟩
  have hd : i < xs.length := by omega
  exact y_ixL (v := xs[i]) (seq_em hS nl e1) (atI_nat (List.getElem?_eq_getElem hd)) (q _ H1 (List.getElem_mem hd) P1 e1)
end

section
variable {P : Program} {w : World} {K : PySem.W.Frag} {mg : Str → Option Value} {base : Heap} (nd : base.NoDigits)
include nd
theorem ok_datumL (T : Tx K mg w) (C_law_digit : Cal P w K mg base 1 "_law_digit" s_law_digit P_law_digit sp_digit) (C_law_int : Cal P w K mg base 2 "_law_int" s_law_int P_law_int sp_int) : ∀ n, Cal P w K mg base (n + 3) "_law_datum" s_law_datum P_law_datum (sp_ldatumL K n)
  | 0 => (T.d_law_datum.never fun vs H Q E h => by obtain ⟨p, m, _, _, z, _⟩ := h; omega).up (by omega)
  | n + 1 => by
    have C_law_datum := ok_datumL T C_law_digit C_law_int n
    refine T.d_law_datum.ok sc_law_datum (fun vs H Q E h => ?_) (fun f cdv A outer s H vs Q E hr h => ?_)
    · obtain ⟨p, m, rfl, _⟩ := h; rfl
    obtain ⟨p, m, rfl, hP, hm, q⟩ := h
    refine ⟨_, PSs.nox (pss_cons (ps_if (PW.pt (pw_or (pt_cmpR (op_eqU hr) (pv 1) pe_int (nomark _)) (pw_or1 (pt_cmpR op_gtU (pe_g C_law_digit (hr.mono (by omega)) px0 (pa_cons (pv 0) (pa_cons pe_int pa_nil))) pe_int (nomark _))))) (pss_one (ps_ret (pe_g C_law_int (hr.mono (by omega)) px0 (pa_cons (pv 0) pa_nil)))) pss_nil)
      (pss_one (ps_ret (pe_callTy call_tupleU (by rfl) T.n_tuple (by decide +kernel) (pa_cons (pe_lc (own := [("_law_k", 2)]) rfl sc_law_datum.nd (pi_range1 rfl T.n_range (pa_cons (pe_g C_law_digit (hr.mono (by omega)) px0 (pa_cons (pv 0) (pa_cons pe_int pa_nil))) pa_nil)) (blkOk_by (own := [("_law_k", 2)]) (N := N_law_datum) (sc := defScope s_law_datum) (by decide +kernel)) (fun _ _ _ _ _ => (pg_name (i := 2) sc_law_datum.nd rfl (Or.inl rfl))) (fun _ _ _ _ _ => pts_nil) (fun _ _ _ _ _ => (pe_g C_law_datum (hr.mono (by omega)) px0 (pa_cons (pv 0) (pa_cons (pe_op op_subU (pv 1) pe_int) pa_nil))))) pa_nil))))), ?_⟩
    have leaf : ∀ (i : Int) H', i.natAbs ≤ 10 ^ 21 → Pt H' p → Em p H H' → Q (.int i) H' := fun i H' hi P1 e1 => q (.int i) (.int i) H' (.int i) (lv_int hi m) P1 e1
    walk_at "rd"
    refine br (fun h0 => ?_) fun h0 => ?_
    · walk_at "rd"
      exact ⟨p, rfl, hP, leaf⟩
    · walk_at "rd"
      refine ⟨p, 3, rfl, hP, by decide, by decide, fun w1 H1 w0 w3 P1 e1 => ?_⟩
      walk_at "rd"
      refine br (fun hw => ?_) fun hw => ?_
      · walk_at "rd"
        exact ⟨p, rfl, P1, fun i H' hi P2 e2 => leaf i H' hi P2 (e1.trans e2)⟩
      · walk_at "rd"
        refine ⟨p, _, rfl, P1, by decide, by decide, fun c H2 c0 c5 P2 e2 => ?_⟩
        walk_at "rd"
        refine i_r1 (by omega) (by omega) ?_
        obtain ⟨m, rfl⟩ : ∃ k, m = k + 1 := ⟨m - 1, by omega⟩
        have hm1 : ((m + 1 : Nat) : Int) - 1 = ((m : Nat) : Int) := by omega
        refine k_lcPot (fun y H' => ∃ d, Fl K H' y d ∧ lv m d) (fun y H H' e ⟨d, h1, h2⟩ => ⟨d, h1.mono e, h2⟩) P2 (by omega) (fun j H3 Q1 hj e3 P3 hq => ?_) (fun x => rfl) fun D ys H3 nD e3 P3 hD hl hy => ?_
        · walk_at "rd"
          rw [hm1]
          exact ⟨p, m, rfl, P3, by omega, fun v d H4 hv hg P4 e4 => hq v H4 e4 P4 ⟨d, hv, hg⟩⟩
        · walk_at "rd"
          obtain ⟨ds, hF, hG⟩ := fl_all hy
          refine y_tupL (.of hD) fun l H4 nl e4 h4 => ?_
          have hl2 := hF.length
          exact q (.ref l) (.tuple ds) H4 (.tup (.of h4) (hF.mono e4.et)) (.inr ⟨ds, rfl, by omega, hG⟩) (P3.ex e4) ((e1.trans (e2.trans e3)).trans (e4.em p))
end

section
variable {P : Program} {w : World} {K : PySem.W.Frag} {mg : Str → Option Value} {base : Heap} (nd : base.NoDigits)
include nd
theorem ok_lsize (T : Tx K mg w) : ∀ n, Cal P w K mg base (n + 1) "_law_size" s_law_size P_law_size (sp_lsizeW K n)
  | 0 => (T.d_law_size.never fun vs H Q E h => by obtain ⟨v, d, _, _, _, z, _⟩ := h; omega).up (by omega)
  | n + 1 => by
    have C_law_size := ok_lsize T n
    refine T.d_law_size.ok sc_law_size (fun vs H Q E h => ?_) (fun f cdv A outer s H vs Q E hr h => ?_)
    · obtain ⟨v, d, rfl, _⟩ := h; rfl
    obtain ⟨v, d, rfl, hd, hg, hn, h60, q⟩ := h
    refine ⟨_, PSs.nox (pss_cons (ps_if (pt_cmpR (op_eqU hr) (pv 0) pe_str (nomark _)) (pss_one (ps_ret pe_int)) pss_nil)
      (pss_cons (ps_if (pt_val (pe_callB call_isiU (by rfl) T.n_isinstance (by decide +kernel) (pa_cons (pv 0) (pa_cons (pe_bltn (v := .ty "int") (u := .type "int") (by rfl) T.n_int (by decide +kernel) rfl) pa_nil)))) (pss_one (ps_ret (pe_op op_addU (pe_callB call_lenU (by rfl) T.n_len (by decide +kernel) (pa_cons (pe_callTy (call_strU nd hr) (by rfl) T.n_str (by decide +kernel) (pa_cons (pe_callB call_absU (by rfl) T.n_abs (by decide +kernel) (pa_cons (pv 0) pa_nil)) pa_nil)) pa_nil)) (pe_callTy (call_intU nd) (by rfl) T.n_int (by decide +kernel) (pa_cons (pe_cmpR op_ltU (pv 0) pe_int (nomark _)) pa_nil))))) pss_nil)
      (pss_one (ps_ret (pe_op op_addU pe_int (pe_callB (call_sumU rfl) (by rfl) T.n_sum (by decide +kernel) (pa_cons (pe_lc (own := [("_law_each", 1)]) rfl sc_law_size.nd (pi_seq (pv 0)) (blkOk_by (own := [("_law_each", 1)]) (N := N_law_size) (sc := defScope s_law_size) (by decide +kernel)) (fun _ _ _ _ _ => (pg_name (i := 1) sc_law_size.nd rfl (Or.inl rfl))) (fun _ _ _ _ _ => pts_nil) (fun _ _ _ _ _ => (pe_g C_law_size (hr.mono (by omega)) px0 (pa_cons (pv 1) pa_nil)))) pa_nil))))))), ?_⟩
    cases hF : isF d with
    | true =>
      have e := isF_inv hF
      subst e
      cases hd
      walk_at "rd"
      refine ifY rfl ?_
      walk_at "rd"
      exact q H (Ex.refl H)
    | false =>
    rw [hF, Bool.false_or] at hg
    cases d with
    | int i =>
      cases hd
      walk_at "rd"
      refine y_eqFaultW (.int i) hg (Nat.zero_le _) ?_
      walk_at "rd"
      refine y_isi (.int i) (b := true) rfl ?_
      walk_at "rd"
      have hm' : i.natAbs < DL := by rw [gwD, decide_eq_true_eq] at hg; exact hg
      refine y_str (by rw [abs_if, Int.natAbs_natCast]; exact hm') ?_
      walk_at "rd"
      refine y_lenS ?_ ?_
      · rw [abs_if, num_S, S_len]
        have := int_digits hm'
        exact Nat.le_trans this (by decide)
      walk_at "rd"
      exact q H (Ex.refl H)
    | tuple ds =>
      cases hd with | tup hS hA =>
      walk_at "rd"
      refine y_eqFaultW (.tup hS hA) hg h60 ?_
      walk_at "rd"
      refine y_isi (Fl.dt (.tup hS hA)) (b := false) rfl ?_
      walk_at "rd"
      rw [gwD, Bool.and_eq_true, decide_eq_true_eq] at hg
      have hl := hA.length
      refine i_T hS ?_
      refine k_lcFl (fun d => .int (szD d)) hS hA (by omega) (fun x d H1 Q1 hmm e hx hq => ?_) (fun x => rfl) fun D H2 nD e hD => ?_
      · walk_at "rd"
        exact ⟨x, d, rfl, hx, by rw [gwL_mem hg.2 hmm, Bool.or_true], tdp_tup hn hmm, Nat.le_of_lt (tdp_tup (Nat.lt_succ_of_le h60) hmm), hq⟩
      · walk_at "rd"
        refine y_sumL (ns := ds.map szD) (.of (by rw [hD, List.map_map]; rfl)) ?_
        walk_at "rd"
        have z := q H2 e
        rw [szD, szL_sum] at z
        exact z
    | none => simp [gwD] at hg
    | bool b => simp [gwD] at hg
    | str x => simp [gwD] at hg
    | list x => simp [gwD] at hg
    | dict x => simp [gwD] at hg
theorem ok_ldeep (T : Tx K mg w) : ∀ n, Cal P w K mg base (n + 1) "_law_deep" s_law_deep P_law_deep (sp_ldeepW K n)
  | 0 => (T.d_law_deep.never fun vs H Q E h => by obtain ⟨v, d, _, _, _, z, _⟩ := h; omega).up (by omega)
  | n + 1 => by
    have C_law_deep := ok_ldeep T n
    refine T.d_law_deep.ok sc_law_deep (fun vs H Q E h => ?_) (fun f cdv A outer s H vs Q E hr h => ?_)
    · obtain ⟨v, d, rfl, _⟩ := h; rfl
    obtain ⟨v, d, rfl, hd, hg, hn, q⟩ := h
    refine ⟨_, PSs.nox (pss_one (ps_ret (pe_ifExp (pt_val (pe_callB call_isiU (by rfl) T.n_isinstance (by decide +kernel) (pa_cons (pv 0) (pa_cons (pe_bltn (v := .ty "int") (u := .type "int") (by rfl) T.n_int (by decide +kernel) rfl) pa_nil)))) pe_int (pe_op op_addU pe_int (pe_callB (call_maxU rfl) (by rfl) T.n_max (by decide +kernel) (pa_cons (pe_op op_addU (pe_lstN (pa_cons pe_int pa_nil)) (pe_lc (own := [("_law_each", 1)]) rfl sc_law_deep.nd (pi_seq (pv 0)) (blkOk_by (own := [("_law_each", 1)]) (N := N_law_deep) (sc := defScope s_law_deep) (by decide +kernel)) (fun _ _ _ _ _ => (pg_name (i := 1) sc_law_deep.nd rfl (Or.inl rfl))) (fun _ _ _ _ _ => pts_nil) (fun _ _ _ _ _ => (pe_g C_law_deep (hr.mono (by omega)) px0 (pa_cons (pv 1) pa_nil))))) pa_nil)))))), ?_⟩
    cases d with
    | int i =>
      cases hd
      walk_at "rd"
      refine y_isi (.int i) (b := true) rfl ?_
      walk_at "rd"
      exact q H (Ex.refl H)
    | tuple ds =>
      cases hd with | tup hS hA =>
      walk_at "rd"
      refine y_isi (Fl.dt (.tup hS hA)) (b := false) rfl ?_
      walk_at "rd"
      rw [gwD, Bool.and_eq_true, decide_eq_true_eq] at hg
      have hl := hA.length
      refine k_lst fun Z H1 nZ _ e1 hZ => ?_
      walk_at "rd"
      refine i_T (e1.st hS) ?_
      refine k_lcFl (fun d => .int (tdp d : Nat)) (e1.st hS) (hA.mono e1.et) (by omega) (fun x d H2 Q1 hmm e hx hq => ?_) (fun x => rfl) fun D H2 nD e hD => ?_
      · walk_at "rd"
        exact ⟨x, d, rfl, hx, gwL_mem hg.2 hmm, tdp_tup hn hmm, hq⟩
      · walk_at "rd"
        refine y_addL (e _ _ hZ) hD (by have h2 : sizeLine = 16777216 := rfl; simp only [List.length_singleton, List.length_map]; omega) fun L H3 nL e3 hL => ?_
        walk_at "rd"
        refine y_maxL (ns := 0 :: ds.map fun d => (tdp d : Int)) (.of (by rw [hL, List.map_cons, List.map_map]; rfl)) (Nat.succ_pos _) fun m m1 m2 => ?_
        walk_at "rd"
        have z := q H3 (e1.trans (e.trans e3))
        rw [tdpL_max0 m1 m2]
        rw [tdp] at z
        have e2 : ((1 + tdpL ds : Nat) : Int) = 1 + (tdpL ds : Int) := by omega
        rw [e2] at z
        exact z
    | none => simp [gwD] at hg
    | bool b => simp [gwD] at hg
    | str x => simp [gwD] at hg
    | list x => simp [gwD] at hg
    | dict x => simp [gwD] at hg
theorem ok_lfits (T : Tx K mg w) (C_size : ∀ n, Cal P w K mg base (n + 1) "_law_size" s_law_size P_law_size (sp_lsizeW K n)) (C_deep : ∀ n, Cal P w K mg base (n + 1) "_law_deep" s_law_deep P_law_deep (sp_ldeepW K n)) : ∀ n, Cal P w K mg base (n + 2) "_law_fits" s_law_fits P_law_fits (sp_lfitsW K n)
  | 0 => (T.d_law_fits.never fun vs H Q E h => by obtain ⟨v, d, _, _, _, z, _⟩ := h; omega).up (by omega)
  | n + 1 => by
    have C_law_fits := ok_lfits T C_size C_deep n
    have C_law_size := C_size (n + 1)
    have C_law_deep := C_deep (n + 1)
    refine T.d_law_fits.ok sc_law_fits (fun vs H Q E h => ?_) (fun f cdv A outer s H vs Q E hr h => ?_)
    · obtain ⟨v, d, rfl, _⟩ := h; rfl
    obtain ⟨v, d, rfl, hd, hg, hn, h60, q⟩ := h
    refine ⟨_, PSs.nox (pss_cons (ps_if (pt_val (pe_callB call_isiU (by rfl) T.n_isinstance (by decide +kernel) (pa_cons (pv 0) (pa_cons (pe_bltn (v := .ty "int") (u := .type "int") (by rfl) T.n_int (by decide +kernel) rfl) pa_nil)))) (pss_one (ps_ret (pe_cmpR op_leU (pe_g C_law_size (hr.mono (by omega)) px0 (pa_cons (pv 0) pa_nil)) pe_int (nomark _)))) pss_nil)
      (pss_cons (ps_if (PW.pt (pw_or (pt_cmpR op_gtU (pe_callB call_lenU (by rfl) T.n_len (by decide +kernel) (pa_cons (pv 0) pa_nil)) pe_int (nomark _)) (pw_or1 (pt_not (pt_val (pe_callB (cr_all rfl) (by rfl) T.n_all (by decide +kernel) (pa_cons (pe_lc (own := [("_law_each", 1)]) rfl sc_law_fits.nd (pi_seq (pv 0)) (blkOk_by (own := [("_law_each", 1)]) (N := N_law_fits) (sc := defScope s_law_fits) (by decide +kernel)) (fun _ _ _ _ _ => (pg_name (i := 1) sc_law_fits.nd rfl (Or.inl rfl))) (fun _ _ _ _ _ => pts_nil) (fun _ _ _ _ _ => (pe_g C_law_fits (hr.mono (by omega)) px0 (pa_cons (pv 1) pa_nil)))) pa_nil))))))) (pss_one (ps_ret pe_bl)) pss_nil)
      (pss_one (ps_ret (pe_and (pe_cmpR op_leU (pe_g C_law_deep (hr.mono (by omega)) px0 (pa_cons (pv 0) pa_nil)) pe_int (nomark _)) (pe_one (pe_cmpR op_leU (pe_g C_law_size (hr.mono (by omega)) px0 (pa_cons (pv 0) pa_nil)) pe_int (nomark _)))))))), ?_⟩
    cases d with
    | int i =>
      cases hd
      walk_at "rd"
      refine y_isi (.int i) (b := true) rfl ?_
      walk_at "rd"
      refine ⟨.int i, .int i, rfl, .int i, by rw [hg, Bool.or_true], hn, h60, fun H1 e1 => ?_⟩
      walk_at "rd"
      exact q H1 e1
    | tuple ds =>
      have hg0 := hg
      cases hd with | tup hS hA =>
      walk_at "rd"
      refine y_isi (Fl.dt (.tup hS hA)) (b := false) rfl ?_
      walk_at "rd"
      rw [gwD, Bool.and_eq_true, decide_eq_true_eq] at hg
      have hl := hA.length
      refine y_lenT hS ?_
      walk_at "rd"
      refine br (fun h40 => ?_) fun h40 => ?_
      · walk_at "rd"
        have z := q H (Ex.refl H)
        rw [ftD, decide_eq_false (by omega : ¬ ds.length ≤ 40), Bool.false_and, Bool.false_and] at z
        exact z
      · walk_at "rd"
        refine i_T hS ?_
        refine k_lcFl (fun d => .bl (ftD d)) hS hA (by omega) (fun x d H1 Q1 hmm e hx hq => ?_) (fun x => rfl) fun D H2 nD e hD => ?_
        · walk_at "rd"
          exact ⟨x, d, rfl, hx, gwL_mem hg.2 hmm, tdp_tup hn hmm, Nat.le_of_lt (tdp_tup (Nat.lt_succ_of_le h60) hmm), hq⟩
        · walk_at "rd"
          refine y_all (bs := ds.map ftD) (.of (by rw [hD, List.map_map]; rfl)) ?_
          rw [← ftL_all]
          walk_at "rd"
          refine brBN (fun hf => ?_) fun hf => ?_
          · walk_at "rd"
            have z := q H2 e
            rw [ftD, hf, Bool.and_false, Bool.false_and] at z
            exact z
          · walk_at "rd"
            refine ⟨_, .tuple ds, rfl, .tup (e.st hS) (hA.mono e.et), hg0, hn, fun H3 e3 => ?_⟩
            walk_at "rd"
            have fin : ∀ H', Ex H H' → Q (.bl (decide (tdpL ds ≤ 3) && decide (1 + szL ds ≤ 1000))) H' := fun H' e' => by
              have z := q H' e'
              rw [ftD, hf, decide_eq_true (by omega : ds.length ≤ 40), Bool.true_and, Bool.true_and] at z
              exact z
            refine br (fun h4 => ?_) fun h4 => ?_
            · rw [tdp] at h4
              walk_at "rd"
              refine ⟨_, .tuple ds, rfl, .tup ((e.trans e3).st hS) (hA.mono (e.trans e3).et), by rw [hg0, Bool.or_true], hn, h60, fun H4 e4 => ?_⟩
              walk_at "rd"
              have z := fin H4 (e.trans (e3.trans e4))
              rw [decide_eq_true (by omega : tdpL ds ≤ 3), Bool.true_and] at z
              rw [szD]
              exact z
            · rw [tdp] at h4
              have z := fin H3 (e.trans e3)
              rw [decide_eq_false (by omega : ¬ tdpL ds ≤ 3), Bool.false_and] at z
              exact z
    | none => simp [gwD] at hg
    | bool b => simp [gwD] at hg
    | str x => simp [gwD] at hg
    | list x => simp [gwD] at hg
    | dict x => simp [gwD] at hg
end

theorem q_signs : Str.ofString "0123456789-,[] ftx_" = S [48, 49, 50, 51, 52, 53, 54, 55, 56, 57, 45, 44, 91, 93, 32, 102, 116, 120, 95] := by decide +kernel
theorem q_seven : Str.ofString "7" = S [55] := by decide +kernel
theorem q_five : Str.ofString "5" = S [53] := by decide +kernel
theorem q_w1 : Str.ofString "[1," = S [91, 49, 44] := by decide +kernel
theorem q_w2 : Str.ofString "[[" = S [91, 91] := by decide +kernel
theorem q_w3 : Str.ofString "],2]" = S [93, 44, 50, 93] := by decide +kernel
section
variable {P : Program} {w : World} {K : PySem.W.Frag} {mg : Str → Option Value} {base : Heap} (nd : base.NoDigits)
include nd
theorem ok_ltext (T : Tx K mg w) : ∀ n, Cal P w K mg base (n + 1) "_law_text" s_law_text P_law_text (sp_ltextW K n)
  | 0 => (T.d_law_text.never fun vs H Q E h => by obtain ⟨v, d, _, _, _, _, _, z, _⟩ := h; omega).up (by omega)
  | n + 1 => by
    have C_law_text := ok_ltext T n
    refine T.d_law_text.ok sc_law_text (fun vs H Q E h => ?_) (fun f cdv A outer s H vs Q E hr h => ?_)
    · obtain ⟨v, d, rfl, _⟩ := h; rfl
    obtain ⟨v, d, rfl, hd, hs, hm, hz, hn, q⟩ := h
    refine ⟨_, PSs.nox (pss_cons (ps_if (pt_val (pe_callB call_isiU (by rfl) T.n_isinstance (by decide +kernel) (pa_cons (pv 0) (pa_cons (pe_bltn (v := .ty "int") (u := .type "int") (by rfl) T.n_int (by decide +kernel) rfl) pa_nil)))) (pss_one (ps_ret (pe_callTy (call_strU nd hr) (by rfl) T.n_str (by decide +kernel) (pa_cons (pv 0) pa_nil)))) pss_nil)
      (pss_one (ps_ret (pe_op op_addU (pe_op op_addU pe_str (pe_joinU pe_str (pe_lc (own := [("_law_each", 1)]) rfl sc_law_text.nd (pi_seq (pv 0)) (blkOk_by (own := [("_law_each", 1)]) (N := N_law_text) (sc := defScope s_law_text) (by decide +kernel)) (fun _ _ _ _ _ => (pg_name (i := 1) sc_law_text.nd rfl (Or.inl rfl))) (fun _ _ _ _ _ => pts_nil) (fun _ _ _ _ _ => (pe_g C_law_text (hr.mono (by omega)) px0 (pa_cons (pv 1) pa_nil)))))) pe_str)))), ?_⟩
    cases d with
    | int i =>
      cases hd
      walk_at "rd"
      refine y_isi (.int i) (b := true) rfl ?_
      walk_at "rd"
      refine y_strC (by rw [smD, decide_eq_true_eq] at hm; exact hm) ?_
      exact q H (Ex.refl H)
    | tuple ds =>
      cases hd with | tup hS hA =>
      walk_at "rd"
      refine y_isi (Fl.dt (.tup hS hA)) (b := false) rfl ?_
      walk_at "rd"
      rw [nsD, Bool.and_eq_true, decide_eq_true_eq] at hs
      rw [smD] at hm
      rw [szD] at hz
      have hl := hA.length
      refine i_T hS ?_
      have hlen := txL_len ds hs.2
      have hsum := txL_sum hs.2
      refine k_lcFl (fun d => .str (S (txD d))) hS hA (by omega) (fun x d H1 Q1 hmm e hx hq => ?_) (fun x => rfl) fun D H2 nD e hD => ?_
      · walk_at "rd"
        exact ⟨x, d, rfl, hx, nsL_mem hs.2 hmm, smL_mem hm hmm, by have := szL_mem hs.2 hmm; omega, tdp_tup hn hmm, hq⟩
      · walk_at "rd"
        rw [q_comma]
        refine y_join (ys := ds.map fun d => S (txD d)) (.of (by rw [hD, List.map_map]; rfl)) ?_ ?_
        · rw [lens_tx, List.length_map, S_len]
          show _ + ds.length * 1 ≤ _
          omega
        rw [join_tx, q_open, q_close]
        refine y_addC (by have h2 : sizeLine = 16777216 := rfl; simp only [List.length_singleton]; omega) ?_
        refine y_addC (by have h2 : sizeLine = 16777216 := rfl; simp only [List.length_singleton, List.length_append]; omega) ?_
        exact q H2 e
    | none => simp [nsD] at hs
    | bool b => simp [nsD] at hs
    | str x => simp [nsD] at hs
    | list x => simp [nsD] at hs
    | dict x => simp [nsD] at hs
theorem ok_lspoilt (T : Tx K mg w) (C_law_digit : Cal P w K mg base 1 "_law_digit" s_law_digit P_law_digit sp_digit) : Cal P w K mg base 2 "_law_spoilt" s_law_spoilt P_law_spoilt sp_lspoilt := by
  refine T.d_law_spoilt.ok sc_law_spoilt (fun vs H Q E h => ?_) (fun f cdv A outer s H vs Q E hr h => ?_)
  · obtain ⟨p, l, rfl, _⟩ := h; rfl
  obtain ⟨p, l, rfl, hP, hl, ha, q⟩ := h
  refine ⟨_, PSs.nox (pss_cons (ps_for PassesOwn.never rfl (pi_range1 rfl T.n_range (pa_cons (pe_g C_law_digit (hr.mono (by omega)) px0 (pa_cons (pv 0) (pa_cons pe_int pa_nil))) pa_nil)) (pg_name (i := 2) sc_law_spoilt.nd rfl (by first | exact .inl rfl | exact .inr rfl)) (pss_cons (ps_par (i := 3) (j := 4) rfl sc_law_spoilt.nd rfl rfl (by decide) rfl rfl (pa_cons (pe_g C_law_digit (hr.mono (by omega)) px0 (pa_cons (pv 0) (pa_cons (pe_op op_addU (pe_callB call_lenU (by rfl) T.n_len (by decide +kernel) (pa_cons (pv 1) pa_nil)) pe_int) pa_nil))) (pa_cons (pe_g C_law_digit (hr.mono (by omega)) px0 (pa_cons (pv 0) (pa_cons pe_int pa_nil))) pa_nil)) (by rfl))
      (pss_cons (ps_set (i := 5) sc_law_spoilt.nd rfl (by first | exact .inl rfl | exact .inr rfl) (pe_ix ix_seq pe_str (pe_g C_law_digit (hr.mono (by omega)) px0 (pa_cons (pv 0) (pa_cons pe_int pa_nil))) (fun _ _ => rfl)))
      (pss_one (ps_set (i := 1) sc_law_spoilt.nd rfl (by first | exact .inl rfl | exact .inr rfl) (pe_op op_addU (pe_op op_addU (pe_slice sl_U (pv 1) po_none (po_some (pv 3))) (pe_ix ix_seq (pe_lstN (pa_cons (pv 5) (pa_cons pe_str (pa_cons (pv 5) pa_nil)))) (pv 4) (fun _ _ => rfl))) (pe_slice sl_U (pv 1) (po_some (pe_op op_addU (pv 3) (pe_ix ix_seq (pe_lstN (pa_cons pe_int (pa_cons pe_int (pa_cons pe_int pa_nil)))) (pv 4) (fun _ _ => rfl)))) po_none)))))))
      (pss_one (ps_ret (pv 1)))), ?_⟩
  have h2 : sizeLine = 16777216 := rfl
  walk_at "rd"
  refine ⟨p, 4, rfl, hP, by decide, by decide, fun n H1 n0 n4 P1 e1 => ?_⟩
  walk_at "rd"
  refine i_r1 (by omega) (by omega) ?_
  refine k_forR (fun j σ' H' => ∃ l' o2 o3 o4 o5, σ' = [some (.ref p), some (.str (S l')), o2, o3, o4, o5] ∧ l'.length ≤ l.length + j ∧ As l' ∧ Pt H' p ∧ Em p H H') ⟨l, none, none, none, none, rfl, Nat.le_refl _, ha, P1, e1⟩ ?_ ?_
  · rintro j σ' H2 hj ⟨l', o2, o3, o4, o5, rfl, hl', ha', P2, e2⟩
    walk_at "rd"
    refine y_lenC (by omega) ?_
    walk_at "rd"
    refine ⟨p, _, rfl, P2, by omega, by omega, fun a H3 a0 a1 P3 e3 => ?_⟩
    walk_at "rd"
    refine ⟨p, 3, rfl, P3, by decide, by decide, fun b H4 b0 b3 P4 e4 => ?_⟩
    walk_at "rd"
    refine ⟨p, 19, rfl, P4, by decide, by decide, fun c H5 c0 c19 P5 e5 => ?_⟩
    rw [q_signs]
    obtain ⟨i, rfl⟩ : ∃ i : Nat, a = (i : Nat) := ⟨a.toNat, by omega⟩
    obtain ⟨x, hx, hx2⟩ : ∃ x, ([48, 49, 50, 51, 52, 53, 54, 55, 56, 57, 45, 44, 91, 93, 32, 102, 116, 120, 95] : List Nat)[c.toNat]? = some x ∧ x < 128 := by
      have hb : c.toNat < ([48, 49, 50, 51, 52, 53, 54, 55, 56, 57, 45, 44, 91, 93, 32, 102, 116, 120, 95] : List Nat).length := by show c.toNat < 19; omega
      refine ⟨_, List.getElem?_eq_getElem hb, ?_⟩
      have : As [48, 49, 50, 51, 52, 53, 54, 55, 56, 57, 45, 44, 91, 93, 32, 102, 116, 120, 95] := by decide
      exact this _ (List.getElem_mem hb)
    refine y_ixC (a := c.toNat) (by simp only [List.length_cons, List.length_nil]; omega) (by omega) hx ?_
    walk_at "rd"
    refine y_cutTo (b := i) (by omega) rfl ?_
    walk_at "rd"
    refine k_lst fun d1 H6 m6 _ e6 h6 => ?_
    walk_at "rd"
    refine y_ixAll (okSB 1) (.of h6) b0 (by simp only [List.length_cons, List.length_nil]; omega) ?_ fun v hv => ?_
    · have : okSB 1 (V.str (S [x])) = true := by
        show (decide ((S [x]).cps.toList.length ≤ 1) && (S [x]).cps.toList.all (fun c => decide (c < 128))) = true
        rw [S_codes]
        simp [hx2]
      simp only [List.all_cons, List.all_nil, this]
      decide +kernel
    obtain ⟨m, rfl, hm1, hm2⟩ := okSB_inv hv
    walk_at "rd"
    refine y_addC (by rw [List.length_take]; omega) ?_
    walk_at "rd"
    refine k_lst fun d2 H7 m7 _ e7 h7 => ?_
    walk_at "rd"
    refine y_ixAll (okIB 0 1) (.of h7) b0 (by simp only [List.length_cons, List.length_nil]; omega) (by decide) fun v hv => ?_
    obtain ⟨k, rfl, k0, k1⟩ := okIB_inv hv
    walk_at "rd"
    refine y_cutFrom (a := (i + k.toNat)) (by omega) (by omega) ?_
    walk_at "rd"
    refine y_addC (by rw [List.length_append, List.length_take, List.length_drop]; omega) ?_
    walk_at "rd"
    refine ⟨_, _, _, _, _, rfl, ?_, ((ha'.take _).app hm2).app (ha'.drop _), ((P5.ex e6).ex e7), e2.trans (e3.trans (e4.trans (e5.trans ((e6.trans e7).em p))))⟩
    rw [List.length_append, List.length_append, List.length_take, List.length_drop]
    omega
  · rintro σ' H2 ⟨l', o2, o3, o4, o5, rfl, hl', ha', P2, e2⟩
    walk_at "rd"
    exact q l' H2 (by omega) ha' P2 e2
theorem ok_lfixed (T : Tx K mg w) (C_law_pick : Cal P w K mg base 2 "_law_pick" s_law_pick P_law_pick (sp_pick K)) : Cal P w K mg base 3 "_law_fixed" s_law_fixed P_law_fixed (sp_drawT 20) := by
  refine T.d_law_fixed.ok sc_law_fixed (fun vs H Q E h => ?_) (fun f cdv A outer s H vs Q E hr h => ?_)
  · obtain ⟨p, rfl, _⟩ := h; rfl
  obtain ⟨p, rfl, hP, q⟩ := h
  refine ⟨_, PSs.nox (pss_cons (ps_set (i := 1) sc_law_fixed.nd rfl (by first | exact .inl rfl | exact .inr rfl) (pe_lstN (pa_cons pe_str (pa_cons pe_str (pa_cons pe_str (pa_cons pe_str (pa_cons pe_str (pa_cons pe_str (pa_cons pe_str (pa_cons pe_str (pa_cons pe_str (pa_cons pe_str (pa_cons pe_str (pa_cons pe_str (pa_cons pe_str (pa_cons pe_str (pa_cons pe_str (pa_cons pe_str pa_nil))))))))))))))))))
      (pss_cons (ps_set (i := 1) sc_law_fixed.nd rfl (by first | exact .inl rfl | exact .inr rfl) (pe_op op_addU (pv 1) (pe_lstN (pa_cons pe_str (pa_cons pe_str (pa_cons pe_str (pa_cons pe_str (pa_cons pe_str (pa_cons pe_str (pa_cons pe_str (pa_cons pe_str (pa_cons pe_str (pa_cons pe_str (pa_cons pe_str (pa_cons pe_str (pa_cons pe_str pa_nil))))))))))))))))
      (pss_cons (ps_set (i := 1) sc_law_fixed.nd rfl (by first | exact .inl rfl | exact .inr rfl) (pe_op op_addU (pv 1) (pe_lstN (pa_cons pe_str (pa_cons pe_str (pa_cons pe_str (pa_cons pe_str (pa_cons pe_str (pa_cons pe_str (pa_cons pe_str pa_nil))))))))))
      (pss_one (ps_ret (pe_g C_law_pick (hr.mono (by omega)) px0 (pa_cons (pv 0) (pa_cons (pv 1) pa_nil)))))))), ?_⟩
  walk_at "rd"
  refine k_lst fun l1 H1 n1 _ e1 h1 => ?_
  walk_at "rd"
  refine k_lst fun l2 H2 n2 _ e2 h2 => ?_
  walk_at "rd"
  refine y_addL (e2 _ _ h1) h2 (by decide) fun l3 H3 n3 e3 h3 => ?_
  walk_at "rd"
  refine k_lst fun l4 H4 n4 _ e4 h4 => ?_
  walk_at "rd"
  refine y_addL (e4 _ _ h3) h4 (by decide) fun l5 H5 n5 e5 h5 => ?_
  have e15 := e1.trans (e2.trans (e3.trans (e4.trans e5)))
  have P5 := hP.ex e15
  walk_at "rd"
  refine ⟨p, l5, _, rfl, P5, .of h5, fun z => (((((hP.ex e1).ex e2).ex e3).ex e4)).ne n5 z.symm, by decide, by decide, fun v H6 hv P6 e6 => ?_⟩
  obtain ⟨l, rfl, hl1, hl2⟩ := okSB_inv (List.all_eq_true.mp (show List.all _ (okSB 20) = true from by decide +kernel) v hv)
  exact q l H6 hl1 hl2 P6 ((e15.em p).trans e6)
theorem ok_lwords (T : Tx K mg w) (C_law_digit : Cal P w K mg base 1 "_law_digit" s_law_digit P_law_digit sp_digit) (C_law_pick : Cal P w K mg base 2 "_law_pick" s_law_pick P_law_pick (sp_pick K)) (C_law_datum : Cal P w K mg base 8 "_law_datum" s_law_datum P_law_datum (sp_ldatumL K 5))
    (C_law_text : Cal P w K mg base 9 "_law_text" s_law_text P_law_text (sp_ltextW K 8)) (C_law_spoilt : Cal P w K mg base 2 "_law_spoilt" s_law_spoilt P_law_spoilt sp_lspoilt) (C_law_fixed : Cal P w K mg base 3 "_law_fixed" s_law_fixed P_law_fixed (sp_drawT 20)) :
    Cal P w K mg base 10 "_law_words" s_law_words P_law_words (sp_drawT 25000) := by
  refine T.d_law_words.ok sc_law_words (fun vs H Q E h => ?_) (fun f cdv A outer s H vs Q E hr h => ?_)
  · obtain ⟨p, rfl, _⟩ := h; rfl
  obtain ⟨p, rfl, hP, q⟩ := h
  refine ⟨_, PSs.nox (pss_cons (ps_set (i := 1) sc_law_words.nd rfl (by first | exact .inl rfl | exact .inr rfl) (pe_g C_law_digit (hr.mono (by omega)) px0 (pa_cons (pv 0) (pa_cons pe_int pa_nil))))
      (pss_cons (ps_if (pt_cmpR (op_eqU hr) (pv 1) pe_int (nomark _)) (pss_one (ps_ret (pe_g C_law_fixed (hr.mono (by omega)) px0 (pa_cons (pv 0) pa_nil)))) pss_nil)
      (pss_cons (ps_if (pt_cmpR (op_eqU hr) (pv 1) pe_int (nomark _)) (pss_cons (ps_set (i := 2) sc_law_words.nd rfl (by first | exact .inl rfl | exact .inr rfl) (pe_ix ix_seq (pe_lstN (pa_cons pe_int (pa_cons pe_int (pa_cons pe_int (pa_cons pe_int (pa_cons pe_int (pa_cons pe_int (pa_cons pe_int (pa_cons pe_int pa_nil))))))))) (pe_g C_law_digit (hr.mono (by omega)) px0 (pa_cons (pv 0) (pa_cons pe_int pa_nil))) (fun _ _ => rfl)))
      (pss_one (ps_ret (pe_op op_addU (pe_ix ix_seq (pe_lstN (pa_cons pe_str (pa_cons pe_str (pa_cons pe_str (pa_cons pe_str pa_nil))))) (pe_g C_law_digit (hr.mono (by omega)) px0 (pa_cons (pv 0) (pa_cons pe_int pa_nil))) (fun _ _ => rfl)) (pe_op op_mulU pe_str (pv 2)))))) pss_nil)
      (pss_cons (ps_if (pt_cmpR (op_eqU hr) (pv 1) pe_int (nomark _)) (pss_cons (ps_set (i := 3) sc_law_words.nd rfl (by first | exact .inl rfl | exact .inr rfl) (pe_ix ix_seq (pe_lstN (pa_cons pe_int (pa_cons pe_int (pa_cons pe_int (pa_cons pe_int (pa_cons pe_int (pa_cons pe_int (pa_cons pe_int pa_nil)))))))) (pe_g C_law_digit (hr.mono (by omega)) px0 (pa_cons (pv 0) (pa_cons pe_int pa_nil))) (fun _ _ => rfl)))
      (pss_cons (ps_par (i := 4) (j := 5) rfl sc_law_words.nd rfl rfl (by decide) rfl rfl (pa_cons (pe_ix ix_seq (pe_lstN (pa_cons pe_str (pa_cons pe_str (pa_cons pe_str (pa_cons pe_str pa_nil))))) (pe_g C_law_digit (hr.mono (by omega)) px0 (pa_cons (pv 0) (pa_cons pe_int pa_nil))) (fun _ _ => rfl)) (pa_cons (pe_ix ix_seq (pe_lstN (pa_cons (pv 3) (pa_cons (pv 3) (pa_cons (pv 3) (pa_cons (pe_op op_subU (pv 3) pe_int) (pa_cons pe_int pa_nil)))))) (pe_g C_law_digit (hr.mono (by omega)) px0 (pa_cons (pv 0) (pa_cons pe_int pa_nil))) (fun _ _ => rfl)) pa_nil)) (by rfl))
      (pss_one (ps_ret (pe_op op_addU (pe_op op_addU (pe_op op_mulU pe_str (pv 3)) (pv 4)) (pe_op op_mulU pe_str (pv 5))))))) pss_nil)
      (pss_cons (ps_if (pt_cmpR (op_eqU hr) (pv 1) pe_int (nomark _)) (pss_cons (ps_set (i := 6) sc_law_words.nd rfl (by first | exact .inl rfl | exact .inr rfl) (pe_op op_addU (pe_op op_addU pe_str (pe_joinU pe_str (pe_op op_mulU (pe_lstN (pa_cons pe_str pa_nil)) (pe_ix ix_seq (pe_lstN (pa_cons pe_int (pa_cons pe_int (pa_cons pe_int (pa_cons pe_int pa_nil))))) (pe_g C_law_digit (hr.mono (by omega)) px0 (pa_cons (pv 0) (pa_cons pe_int pa_nil))) (fun _ _ => rfl))))) pe_str))
      (pss_one (ps_ret (pe_g C_law_pick (hr.mono (by omega)) px0 (pa_cons (pv 0) (pa_cons (pe_lstN (pa_cons (pv 6) (pa_cons (pe_op op_addU (pe_op op_addU pe_str (pv 6)) pe_str) (pa_cons (pe_op op_addU (pe_op op_addU pe_str (pv 6)) pe_str) pa_nil)))) pa_nil)))))) pss_nil)
      (pss_one (ps_ret (pe_g C_law_spoilt (hr.mono (by omega)) px0 (pa_cons (pv 0) (pa_cons (pe_g C_law_text (hr.mono (by omega)) px0 (pa_cons (pe_g C_law_datum (hr.mono (by omega)) px0 (pa_cons (pv 0) (pa_cons pe_int pa_nil))) pa_nil)) pa_nil)))))))))), ?_⟩
  have h2 : sizeLine = 16777216 := rfl
  walk_at "rd"
  refine ⟨p, 6, rfl, hP, by decide, by decide, fun w1 H1 w0 w6 P1 e1 => ?_⟩
  walk_at "rd"
  refine br (fun c => ?_) fun c => ?_
  · walk_at "rd"
    exact ⟨p, rfl, P1, fun l H2 hl ha P2 e2 => q l H2 (by omega) ha P2 (e1.trans e2)⟩
  walk_at "rd"
  refine br (fun c => ?_) fun c => ?_
  · walk_at "rd"
    refine k_lst fun d1 H2 n2 _ e2 hd1 => ?_
    have P2 := P1.ex e2
    walk_at "rd"
    refine ⟨p, 8, rfl, P2, by decide, by decide, fun a H3 a0 a8 P3 e3 => ?_⟩
    refine y_ixAll (okIB 0 9000) (.of (e3 _ _ (fun z => P1.ne n2 z.symm) hd1)) a0 (by simp only [List.length_cons, List.length_nil]; omega) (by decide) fun v hv => ?_
    obtain ⟨k, rfl, k0, k1⟩ := okIB_inv hv
    obtain ⟨k, rfl⟩ : ∃ n : Nat, k = (n : Nat) := ⟨k.toNat, by omega⟩
    walk_at "rd"
    refine k_lst fun d2 H4 n4 _ e4 hd2 => ?_
    have P4 := P3.ex e4
    walk_at "rd"
    refine ⟨p, 4, rfl, P4, by decide, by decide, fun b H5 b0 b4 P5 e5 => ?_⟩
    refine y_ixAll (okSB 4) (.of (e5 _ _ (fun z => P3.ne n4 z.symm) hd2)) b0 (by simp only [List.length_cons, List.length_nil]; omega) (by decide +kernel) fun v hv => ?_
    obtain ⟨m, rfl, hm1, hm2⟩ := okSB_inv hv
    walk_at "rd"
    rw [q_seven]
    refine y_mulS (c := 55) (n := k) (by omega) ?_
    walk_at "rd"
    refine y_addC (b := List.replicate k 55) (by rw [List.length_replicate]; omega) ?_
    refine q _ H5 (by rw [List.length_append, List.length_replicate]; omega) (hm2.app (As.rep (by decide))) P5 (e1.trans ((e2.em p).trans (e3.trans ((e4.em p).trans e5))))
  walk_at "rd"
  refine br (fun c => ?_) fun c => ?_
  · walk_at "rd"
    refine k_lst fun d1 H2 n2 _ e2 hd1 => ?_
    have P2 := P1.ex e2
    walk_at "rd"
    refine ⟨p, 7, rfl, P2, by decide, by decide, fun a H3 a0 a8 P3 e3 => ?_⟩
    refine y_ixAll (okIB 1 9000) (.of (e3 _ _ (fun z => P1.ne n2 z.symm) hd1)) a0 (by simp only [List.length_cons, List.length_nil]; omega) (by decide) fun v hv => ?_
    obtain ⟨k, rfl, k0, k1⟩ := okIB_inv hv
    obtain ⟨k, rfl⟩ : ∃ n : Nat, k = (n : Nat) := ⟨k.toNat, by omega⟩
    walk_at "rd"
    refine k_lst fun d2 H4 n4 _ e4 hd2 => ?_
    have P4 := P3.ex e4
    walk_at "rd"
    refine ⟨p, 4, rfl, P4, by decide, by decide, fun b H5 b0 b4 P5 e5 => ?_⟩
    refine y_ixAll (okSB 4) (.of (e5 _ _ (fun z => P3.ne n4 z.symm) hd2)) b0 (by simp only [List.length_cons, List.length_nil]; omega) (by decide +kernel) fun v hv => ?_
    obtain ⟨m, rfl, hm1, hm2⟩ := okSB_inv hv
    walk_at "rd"
    refine k_lst fun d3 H6 n6 _ e6 hd3 => ?_
    have P6 := P5.ex e6
    walk_at "rd"
    refine ⟨p, 5, rfl, P6, by decide, by decide, fun g H7 g0 g5 P7 e7 => ?_⟩
    refine y_ixAll (okIB 0 9000) (.of (e7 _ _ (fun z => P5.ne n6 z.symm) hd3)) g0 (by simp only [List.length_cons, List.length_nil]; omega) ?_ fun v hv => ?_
    · simp only [List.all_cons, List.all_nil, okIB, Bool.and_true, Bool.and_eq_true, decide_eq_true_eq]
      omega
    obtain ⟨r, rfl, r0, r1⟩ := okIB_inv hv
    obtain ⟨r, rfl⟩ : ∃ n : Nat, r = (n : Nat) := ⟨r.toNat, by omega⟩
    walk_at "rd"
    rw [q_open]
    refine y_mulS (c := 91) (n := k) (by omega) ?_
    walk_at "rd"
    refine y_addC (a := List.replicate k 91) (by rw [List.length_replicate]; omega) ?_
    walk_at "rd"
    rw [q_close]
    refine y_mulS (c := 93) (n := r) (by omega) ?_
    walk_at "rd"
    refine y_addC (b := List.replicate r 93) (by rw [List.length_append, List.length_replicate, List.length_replicate]; omega) ?_
    refine q _ H7 (by rw [List.length_append, List.length_append, List.length_replicate, List.length_replicate]; omega) (((As.rep (by decide)).app hm2).app (As.rep (by decide))) P7 (e1.trans ((e2.em p).trans (e3.trans ((e4.em p).trans (e5.trans ((e6.em p).trans e7))))))
  walk_at "rd"
  refine br (fun c => ?_) fun c => ?_
  · walk_at "rd"
    refine k_lst fun d0 H2 n2 _ e2 hd0 => ?_
    have P2 := P1.ex e2
    walk_at "rd"
    refine k_lst fun d1 H3 n3 _ e3 hd1 => ?_
    have P3 := P2.ex e3
    walk_at "rd"
    refine ⟨p, 4, rfl, P3, by decide, by decide, fun a H4 a0 a4 P4 e4 => ?_⟩
    have n0p : d0 ≠ p := fun z => P1.ne n2 z.symm
    refine y_ixAll (okIB 0 200) (.of (e4 _ _ (fun z => P2.ne n3 z.symm) hd1)) a0 (by simp only [List.length_cons, List.length_nil]; omega) (by decide) fun v hv => ?_
    obtain ⟨k, rfl, k0, k1⟩ := okIB_inv hv
    obtain ⟨k, rfl⟩ : ∃ n : Nat, k = (n : Nat) := ⟨k.toNat, by omega⟩
    walk_at "rd"
    refine y_mulL (e4 _ _ n0p (e3 _ _ hd0)) (by omega) (by omega) (by simp) fun d2 H5 n5 e5 hd2 => ?_
    walk_at "rd"
    simp only [q_comma, q_five, q_open, q_close, q_w1, q_w2, q_w3] at hd2 ⊢
    have erep : (List.replicate k ([V.str (S [53])] : List V)).flatten = ((List.replicate k [53]).map S).map V.str := by
      rw [List.map_map, List.map_replicate]
      have : ∀ n : Nat, (List.replicate n ([V.str (S [53])] : List V)).flatten = List.replicate n (V.str (S [53])) := by
        intro n
        induction n with
        | zero => rfl
        | succ n ih => rw [List.replicate_succ, List.flatten_cons, ih, List.replicate_succ]; rfl
      exact this k
    rw [Int.toNat_natCast, erep] at hd2
    have hjl := joinL_rep k
    have hja : As (TL.joinL [44] (List.replicate k [53])) := As.join (by decide) fun y hy => by rw [List.eq_of_mem_replicate hy]; decide
    refine y_join (ys := (List.replicate k [53]).map S) (.of hd2) ?_ ?_
    · rw [List.map_map, List.map_replicate, List.length_map, List.length_replicate, S_len]
      have e1 : (List.replicate k ((fun x => x.length) ∘ S <| [53])).sum = k := by
        have : ((fun x : Str => x.length) ∘ S) [53] = 1 := by show (S [53]).length = 1; rw [S_len]; rfl
        rw [this]
        simp
      rw [e1]
      simp only [List.length_singleton]
      omega
    rw [join_S]
    generalize TL.joinL [44] (List.replicate k [53]) = J at hjl hja ⊢
    refine y_addC (by simp only [List.length_singleton]; omega) ?_
    refine y_addC (by simp only [List.length_singleton, List.length_append]; omega) ?_
    walk_at "rd"
    refine y_addC (by simp only [List.length_cons, List.length_nil, List.length_append]; omega) ?_
    walk_at "rd"
    refine y_addC (by simp only [List.length_cons, List.length_nil, List.length_append]; omega) ?_
    walk_at "rd"
    refine y_addC (by simp only [List.length_cons, List.length_nil, List.length_append]; omega) ?_
    walk_at "rd"
    refine y_addC (by simp only [List.length_cons, List.length_nil, List.length_append]; omega) ?_
    walk_at "rd"
    refine k_lst fun d3 H6 n6 _ e6 hd3 => ?_
    have P5 := P4.ex e5
    have P6 := P5.ex e6
    walk_at "rd"
    refine ⟨p, d3, _, rfl, P6, .of hd3, fun z => P5.ne n6 z.symm, by simp, by simp, fun v H7 hv P7 e7 => ?_⟩
    have eZ : Em p H H7 := e1.trans ((e2.em p).trans ((e3.em p).trans (e4.trans ((e5.em p).trans ((e6.em p).trans e7)))))
    simp only [List.mem_cons, List.not_mem_nil, or_false] at hv
    have hW : As ([91] ++ J ++ [93]) := ((show As [91] by decide).app hja).app (by decide)
    rcases hv with rfl | rfl | rfl
    · exact q _ H7 (by simp only [List.length_cons, List.length_nil, List.length_append]; omega) hW P7 eZ
    · exact q _ H7 (by simp only [List.length_cons, List.length_nil, List.length_append]; omega) (((show As [91, 49, 44] by decide).app hW).app (by decide)) P7 eZ
    · exact q _ H7 (by simp only [List.length_cons, List.length_nil, List.length_append]; omega) (((show As [91, 91] by decide).app hW).app (by decide)) P7 eZ
  walk_at "rd"
  refine ⟨p, 4, rfl, P1, by decide, fun v d H2 hv hd P2 e2 => ?_⟩
  obtain ⟨z1, z2⟩ := lv_ns hd
  have hb := (lv_bd hd).1
  have ht := tdp_dep d
  have hbd := hb.dep
  have z3 : szD d ≤ 5973 := z2
  have hlen := txD_len d z1
  walk_at "rd"
  refine ⟨v, d, rfl, hv, z1, in_sm d hb.inn, by omega, by omega, fun H3 e3 => ?_⟩
  walk_at "rd"
  exact ⟨p, txD d, rfl, P2.ex e3, by omega, txD_ascii d, fun l' H4 hl ha P4 e4 => q l' H4 (by omega) ha P4 (e1.trans (e2.trans ((e3.em p).trans e4)))⟩
end

end My
end

section
set_option Elab.async false
set_option linter.all false
set_option maxRecDepth 100000
set_option maxHeartbeats 4000000
namespace My
open PySem PySem.Spec PyProof.Rows L2 Ls SX LamX
local macro_rules | `(tactic| walk_at "rd1") => `(tactic| (first | ((with_reducible refine' Ls.r_var ?hV ?_); (case hV => exact rfl)) | (with_reducible refine Ls.r_c ?_) | (with_reducible refine Ls.r_op ?_) | (with_reducible refine Ls.r_un ?_) | (with_reducible refine Ls.r_nil ?_) | (with_reducible refine Ls.r_cons ?_) | (with_reducible refine Ls.r_cb ?_) | (with_reducible refine Ls.r_ckw ?_) | (with_reducible refine Ls.r_cal ?_) | (with_reducible refine Ls.r_calK ?_) | (with_reducible refine Ls.r_tup ?_) | (with_reducible refine Ls.r_lst ?_) | (with_reducible refine Ls.r_if ?_) | (with_reducible refine Ls.r_andV ?_) | (with_reducible refine Ls.r_orV ?_) | (with_reducible refine Ls.r_notV ?_) | (with_reducible refine Ls.r_chain ?_) | (with_reducible refine Ls.r_sl ?_) | (with_reducible refine Ls.r_nopart ?_) | (with_reducible refine Ls.r_part ?_) | (with_reducible refine Ls.k_part ?_) | (with_reducible refine Ls.r_test ?_) | (with_reducible refine Ls.r_B ?_) | (with_reducible refine Ls.k_B ?_) | (with_reducible refine Ls.r_not ?_) | (with_reducible refine Ls.r_and ?_) | (with_reducible refine Ls.r_or ?_) | (with_reducible refine Ls.r_seq ?_) | (with_reducible refine Ls.r_ifS ?_) | (with_reducible refine Ls.r_next ?_) | (with_reducible refine Ls.r_brk ?_) | (with_reducible refine Ls.r_cont ?_) | (with_reducible refine Ls.r_ret ?_) | (with_reducible refine Ls.r_retN ?_) | (with_reducible refine Ls.r_drop ?_) | (with_reducible refine Ls.r_asg ?_) | (with_reducible refine Ls.r_par ?_) | (with_reducible refine Ls.k_par ?_) | ((with_reducible refine' Ls.r_aug ?hV ?_); (case hV => exact rfl)) | (with_reducible refine Ls.y_ip ?_) | (with_reducible refine Ls.g_name ?_) | (with_reducible refine Ls.g_nil ?_) | (with_reducible refine Ls.g_cons ?_) | (with_reducible refine Ls.g_sub ?_) | (with_reducible refine Ls.e_end ?_) | (with_reducible refine Ls.e_endr ?_) | (with_reducible refine Ls.e_nx ?_) | (with_reducible refine Ls.e_rt ?_) | (with_reducible refine Ls.e_bk ?_) | (with_reducible refine Ls.e_ct ?_) | (with_reducible refine Ls.r_for ?_) | (with_reducible refine Ls.i_seq ?_) | (with_reducible refine Ls.r_xi ?_) | (with_reducible refine Ls.r_xo ?_) | (with_reducible refine Ls.r_mk ?_) | (with_reducible refine Ls.r_xf ?_) | (with_reducible refine Ls.i_enum ?_) | (with_reducible refine Ls.i_rng1 ?_) | (with_reducible refine Ls.r_m1 ?_) | (with_reducible refine Ls.r_m0 ?_) | (with_reducible refine Ls.k_isS ?_) | (with_reducible refine Ls.r_bm ?_) | (with_reducible refine Ls.r_lc ?_) | (with_reducible refine Ls.y_add ?_) | (with_reducible refine Ls.y_sub ?_) | (with_reducible refine Ls.y_neg ?_) | (with_reducible refine Ls.y_lt ?_) | (with_reducible refine Ls.y_le ?_) | (with_reducible refine Ls.y_gt ?_) | (with_reducible refine Ls.y_ge ?_) | (with_reducible refine Ls.y_eqI ?_) | (with_reducible refine Ls.y_eqS ?_) | (with_reducible refine Ls.y_neI ?_) | (with_reducible refine Ls.y_neS ?_) | (with_reducible refine Ls.y_isNo ?_) | (with_reducible refine Ls.y_isntNo ?_) | (with_reducible refine Ls.y_abs ?_) | (with_reducible refine Ls.y_max2 ?_) | (with_reducible refine Ls.y_min2 ?_) | (with_reducible refine Ls.y_intI ?_) | (with_reducible refine Ls.y_intB ?_) | ((with_reducible refine' Ls.y_ixL ?hS ?hA ?_); (case hS => first | assumption | exact L2.SqL.of (by assumption)); (case hA => rfl)) | ((with_reducible refine' Ls.y_ixT ?hS ?hA ?_); (case hS => first | assumption | exact L2.SqT.of (by assumption)); (case hA => rfl)) | ((with_reducible refine' Ls.y_mod ?hC ?_); (case hC => first | decide | omega)) | ((with_reducible refine' Ls.y_fdiv ?hC ?_); (case hC => first | decide | (constructor <;> omega))) | ((with_reducible refine' Ls.y_pow ?hC ?_); (case hC => exact ⟨by decide, by decide, by decide⟩)) | ((with_reducible refine' Ls.y_mul ?hC ?_); (case hC => first | exact .inr ⟨by decide, by decide⟩ | exact .inl ⟨by decide, by decide⟩ | exact .inr ⟨by omega, by omega⟩ | exact .inl ⟨by omega, by omega⟩)) | (with_reducible refine L2.iteT ?_) | (with_reducible refine L2.iteF ?_) | (with_reducible refine Ls.iteNF ?_) | (with_reducible refine Ls.iteNT ?_)))
local macro_rules | `(tactic| walk_at "rd") => `(tactic| (repeat walk_at "rd1"))
local macro_rules | `(tactic| walk_at "lits") => `(tactic| (first | exact Ls.lit_nil | (refine' Ls.lit_cons ?hL ?hR; (case hL => walk_at "lits"); (case hR => walk_at "lits")) | exact Ls.lit_non | exact Ls.lit_bl | exact Ls.lit_int | exact Ls.lit_str | exact Ls.lit_neg | exact Ls.lit_dn | exact Ls.lit_d1 | exact Ls.lit_d1s | (refine' Ls.lit_tup ?hA ?hZ; (case hA => walk_at "lits"); (case hZ => first | decide | simp)) | (refine' Ls.lit_lst ?hA ?hZ; (case hA => walk_at "lits"); (case hZ => first | decide | simp))))

abbrev tabR (K : PySem.W.Frag) (mg : Str → Option Value) : List (Addr × Str) := [(pA K mg "_law_right", lamQ "_law_right")]
section
variable {P : Program} {w : World} {K : PySem.W.Frag} {mg : Str → Option Value} {base : Heap} (nd : base.NoDigits)
include nd
theorem ok_ldue (T : Tx K mg w) (C_law_read : Cal P w K mg base 7 "_law_read" s_law_read P_law_read (sp_lread K 5)) (C_law_fits : Cal P w K mg base 13 "_law_fits" s_law_fits P_law_fits (sp_lfitsW K 11)) : Cal P w K mg base 14 "_law_due" s_law_due P_law_due (sp_ldueT K) := by
  refine T.d_law_due.ok sc_law_due (fun vs H Q E h => ?_) (fun f cdv A outer s H vs Q E hr h => ?_)
  · obtain ⟨v, d, rfl, _⟩ := h; rfl
  obtain ⟨v, d, rfl, hd, hk, q⟩ := h
  refine ⟨_, PSs.nox (pss_cons (ps_if (pt_not (pt_val (pe_callB call_isiU (by rfl) T.n_isinstance (by decide +kernel) (pa_cons (pv 0) (pa_cons (pe_bltn (v := .ty "str") (u := .type "str") (by rfl) T.n_str (by decide +kernel) rfl) pa_nil))))) (pss_one (ps_ret (pe_lstN (pa_cons pe_str (pa_cons pe_int (pa_cons pe_bl pa_nil)))))) pss_nil)
      (pss_cons (ps_set (i := 1) sc_law_due.nd rfl (by first | exact .inl rfl | exact .inr rfl) (pe_ifExp (pt_cmpR (op_eqU hr) (pv 0) pe_str (nomark _)) pe_str (pe_g C_law_read (hr.mono (by omega)) px0 (pa_cons (pv 0) (pa_cons pe_int pa_nil)))))
      (pss_cons (ps_if (PW.pt (pw_or (pt_cmpR op_isU (pv 1) pe_non (nomark _)) (pw_or1 (PW.pt (pw_and (pt_cmpR (op_neU hr) (pv 1) pe_str (nomark _)) (pw_and1 (pt_not (pt_val (pe_g C_law_fits (hr.mono (by omega)) px0 (pa_cons (pv 1) pa_nil)))))))))) (pss_one (ps_ret (pe_lstN (pa_cons pe_str (pa_cons pe_int (pa_cons pe_bl pa_nil)))))) pss_nil)
      (pss_one (ps_ret (pe_lstN (pa_cons pe_str (pa_cons (pv 1) pa_nil)))))))), ?_⟩
  walk_at "rd"
  rcases hk with ⟨l, rfl, hz⟩ | hs
  · refine y_isi hd (b := true) rfl ?_
    cases hd
    rw [dueT_S, ← dueV_prV] at q
    have key : dueV l = if l = [102, 97, 117, 108, 116] then some faultD else match readL 4 l with
      | some d => if isD d = true then some d else none
      | none => none := rfl
    walk_at "rd"
    rw [show decide (S l = Str.ofString "fault") = decide (l = [102, 97, 117, 108, 116]) by rw [q_fault, S_dec]]
    refine br (fun hf => ?_) fun hf => ?_
    · rw [key, if_pos hf] at q
      have e1 := Ex.refl H
      walk_at "rd"
      refine ifN (by decide) ?_
      walk_at "rd"
      refine ifnN rfl ?_
      walk_at "rd"
      refine k_lst fun r H2 n2 _ e2 h2 => ?_
      exact q r H2 (e1.trans e2) (.lst (.of h2) (.cons (.str _) (.cons (.str _) .nil)))
    · rw [key, if_neg hf] at q
      walk_at "rd"
      refine ⟨l, 4, rfl, hz, by decide, by decide, fun v H1 e1 hv => ?_⟩
      cases hr4 : readL 4 l with
      | none =>
        rw [hr4] at hv q
        cases hv
        walk_at "rd"
        refine ifY rfl ?_
        walk_at "rd"
        refine k_lst fun r H2 n2 _ e2 h2 => ?_
        exact q r H2 (e1.trans e2) (.lst (.of h2) (.cons (.str _) (.cons (.int _) (.cons (.bl _) .nil))))
      | some e =>
        rw [hr4] at hv q
        obtain ⟨s1, s2, s3⟩ := readL_sound 4 hr4
        have hv : Fl K H1 v e := hv
        have hg : gwD e = true := okQ_gw e s2 (by rw [← s1]; exact hz)
        have hnn : ¬ v = .non := fun z => by
          rw [z] at hv
          cases hv
          simp [okQ] at s2
        walk_at "rd"
        refine ifN hnn ?_
        walk_at "rd"
        refine y_neFaultW hv hg (by omega) ?_
        walk_at "rd"
        refine ⟨v, e, rfl, hv, hg, by omega, by omega, fun H2 e2 => ?_⟩
        rw [ft_eq]
        dsimp only at q
        walk_at "rd"
        refine brBN (fun hD => ?_) fun hD => ?_
        · rw [hD, if_neg Bool.false_ne_true] at q
          walk_at "rd"
          refine k_lst fun r H3 n3 _ e3 h3 => ?_
          exact q r H3 (e1.trans (e2.trans e3)) (.lst (.of h3) (.cons (.str _) (.cons (.int _) (.cons (.bl _) .nil))))
        · rw [hD, if_pos rfl] at q
          walk_at "rd"
          refine k_lst fun r H3 n3 _ e3 h3 => ?_
          exact q r H3 (e1.trans (e2.trans e3)) (.lst (.of h3) (.cons (.str _) (.cons ((hv.mono (e2.trans e3).et)).dt .nil)))
  · rw [dueT_no hs] at q
    have fin : ∀ r H', Ex H H' → H' r = some (.lst [.str (Str.ofString "refused"), .int 0, .bl true]) → Q (.ref r) H' := fun r H' e h => q r H' e (.lst (.of h) (.cons (.str _) (.cons (.int _) (.cons (.bl _) .nil))))
    cases d with
    | str x => cases hs
    | _ =>
      refine y_isi hd (b := false) rfl ?_
      walk_at "rd"
      refine k_lst fun r H2 n2 _ e2 h2 => ?_
      exact fin r H2 e2 h2
theorem giv_told (T : Tx K mg w) : Giv P w K mg base 1 "_law_told" s_law_told "_law_call" N_law_told (TTtext K (fA mg "InvalidText")) := by
  intro g cdv A outer s H Q f c' q tl hr act hc h
  refine ⟨_, (pss_cons (ps_set (i := 1) sc_law_told.nd rfl (by first | exact .inl rfl | exact .inr rfl) (pe_lstN (pa_cons pe_str pa_nil)))
      (pss_cons (ps_try_cls rfl rfl takes0 (fun W pn xe tk _ => (pss_one (ps_set (i := 1) sc_law_told.nd rfl (by first | exact .inl rfl | exact .inr rfl) (pe_lstN (pa_cons pe_str (pa_cons (pe_actE fun E p1 p2 => act W pn xe E p1 p2 tk) pa_nil)))))) (.named (i := 2) sc_law_told.nd rfl rfl ⟨rfl, by decide, .inl T.m_SessionError⟩ (fun a oe cls d pn hz hf => (pss_one (ps_if (pt_val (pe_callB (call_isS hz hf) (by rfl) T.n_isinstance (by decide +kernel) (pa_cons (pv 2) (pa_cons (pe_const (v := .ref (fA mg "InvalidText")) ⟨_, T.m_InvalidText, rfl⟩) pa_nil)))) (pss_cons (ps_set (i := 3) sc_law_told.nd rfl (by first | exact .inl rfl | exact .inr rfl) (pe_callB (call_isS hz hf) (by rfl) T.n_isinstance (by decide +kernel) (pa_cons (pv 2) (pa_cons (pe_tup (pa_cons (pe_const (v := .ref (fA mg "InvalidCommand")) ⟨_, T.m_InvalidCommand, rfl⟩) (pa_cons (pe_const (v := .ref (fA mg "InvalidExpression")) ⟨_, T.m_InvalidExpression, rfl⟩) (pa_cons (pe_const (v := .ref (fA mg "InvalidValue")) ⟨_, T.m_InvalidValue, rfl⟩) pa_nil)))) pa_nil))))
      (pss_cons (ps_set (i := 3) sc_law_told.nd rfl (by first | exact .inl rfl | exact .inr rfl) (pe_or (pv 3) (pe_one (pe_callB (call_isS hz hf) (by rfl) T.n_isinstance (by decide +kernel) (pa_cons (pv 2) (pa_cons (pe_tup (pa_cons (pe_const (v := .ref (fA mg "LimitError")) ⟨_, T.m_LimitError, rfl⟩) (pa_cons (pe_const (v := .ref (fA mg "MissingError")) ⟨_, T.m_MissingError, rfl⟩) (pa_cons (pe_const (v := .ref (fA mg "StateError")) ⟨_, T.m_StateError, rfl⟩) pa_nil)))) pa_nil))))))
      (pss_one (ps_set (i := 1) sc_law_told.nd rfl (by first | exact .inl rfl | exact .inr rfl) (pe_lstN (pa_cons pe_str (pa_cons (pe_xf T.v_InvalidText T.g_InvalidText_line hz hf (pv 2)) (pa_cons (pe_and (pe_callB (call_isS hz hf) (by rfl) T.n_isinstance (by decide +kernel) (pa_cons (pv 2) (pa_cons (pe_bltn (v := .ty "ValueError") (u := .type "ValueError") (by rfl) T.n_ValueError (by decide +kernel) rfl) pa_nil))) (pe_one (pe_not (pv 3)))) pa_nil)))))))) pss_nil))) .nil))
      (pss_one (ps_ret (pv 1))))), ?_⟩
  walk_at "rd"
  refine k_lst fun l0 H0 n0 _ e0 h0 => ?_
  walk_at "rd"
  refine ⟨_, fun cls d H' z => z, rfl, e0 _ _ hc, h H0 _ _ e0 (fun H' dd i hx e1 fin => ?_) fun v H' e1 fin => ?_⟩
  · refine w_yes T.e_InvalidText_SessionError fun a na => ?_
    refine go_named ?_
    walk_at "rd"
    refine ⟨_, _, dd, _, true, rfl, rfl, rfl, hx, T.x_InvalidText, .inl ⟨rfl, T.q_InvalidText_InvalidText⟩, ?_⟩
    walk_at "rd"
    refine k_tup fun t1 H1 n1 x1 h1 => ?_
    walk_at "rd"
    refine ⟨_, _, dd, _, false, rfl, rfl, rfl, x1 _ _ hx, T.x_InvalidText, .inr ⟨t1, _, rfl, .of h1, rfl, T.q_InvalidText_InvalidCommand_InvalidExpression_InvalidValue⟩, ?_⟩
    walk_at "rd"
    refine k_tup fun t2 H2 n2 x2 h2 => ?_
    walk_at "rd"
    have hx2 := (x1.trans x2) _ _ hx
    refine ⟨_, _, dd, _, false, rfl, rfl, rfl, hx2, T.x_InvalidText, .inr ⟨t2, _, rfl, .of h2, rfl, T.q_InvalidText_LimitError_MissingError_StateError⟩, ?_⟩
    walk_at "rd"
    refine ⟨rfl, rfl, dd, _, .int i, rfl, hx2, rfl, ?_⟩
    walk_at "rd"
    refine ⟨_, _, dd, _, true, rfl, rfl, rfl, hx2, T.x_InvalidText, .inl ⟨rfl, T.q_InvalidText_ValueError⟩, ?_⟩
    walk_at "rd"
    refine k_lst fun l2 H3 n3 _ x3 h3 => ?_
    walk_at "rd"
    exact fin l2 H3 (x1.trans (x2.trans x3)) h3
  · walk_at "rd"
    refine k_lst fun l2 H2 n2 _ x2 h2 => ?_
    walk_at "rd"
    exact fin l2 H2 x2 h2
theorem ok_right (T : Tx K mg w) (B : Tb K mg "_law_right") (TBb : TabB base mg (kA K mg "_law_right") (pA K mg "_law_right")) (C_law_digit : Cal P w K mg base 1 "_law_digit" s_law_digit P_law_digit sp_digit) (C_law_pick : Cal P w K mg base 2 "_law_pick" s_law_pick P_law_pick (sp_pick K))
    (C_law_words : Cal P w K mg base 10 "_law_words" s_law_words P_law_words (sp_drawT 25000)) (C_law_due : Cal P w K mg base 14 "_law_due" s_law_due P_law_due (sp_ldueT K)) (C_parse_value : Cal P w K mg base 14 "parse_value" s_parse_value P_parse_value (sp_parseX K (fA mg "InvalidText")))
    (C_format_value : Cal P w K mg base 16 "format_value" s_format_value P_format_value (sp_onV K (fA mg "InvalidValue") 10 (fun d => .str (S (txD d))))) (G_law_told : Giv P w K mg base 17 "_law_told" s_law_told "_law_call" N_law_told (TTtext K (fA mg "InvalidText"))) :
    Cal P w K mg base 19 "_law_right" s_law_right P_law_right (sp_tright (tabR K mg)) := by
  let Ts := tabR K mg
  refine T.d_law_right.okT B sc_law_right (fun vs H Q E h => ?_) (fun f A outer s H vs Q E hr h => ?_)
  · obtain ⟨p, rfl, _⟩ := h; rfl
  obtain ⟨p, rfl, hP, hT, q⟩ := h
  refine ⟨_, PSs.nox (pss_cons (ps_set (i := 1) sc_law_right.nd rfl (by first | exact .inl rfl | exact .inr rfl) (pe_g C_law_words (hr.mono (by omega)) px0 (pa_cons (pv 0) pa_nil)))
      (pss_cons (ps_if (pt_cmpR (op_eqU hr) (pe_g C_law_digit (hr.mono (by omega)) px0 (pa_cons (pv 0) (pa_cons pe_int pa_nil))) pe_int (nomark _)) (pss_one (ps_set (i := 1) sc_law_right.nd rfl (by first | exact .inl rfl | exact .inr rfl) (pe_g C_law_pick (hr.mono (by omega)) px0 (pa_cons (pv 0) (pa_cons (pe_lstN (pa_cons pe_non (pa_cons pe_int (pa_cons pe_int (pa_cons pe_bl (pa_cons pe_bl (pa_cons (pe_tup pa_nil) (pa_cons (pe_lstN pa_nil) (pa_cons (pe_tup (pa_cons pe_str pa_nil)) (pa_cons (pe_lstN (pa_cons pe_str pa_nil)) (pa_cons pe_dnewK (pa_cons (pe_disp (pps_cons pe_str pe_int pps_nil) (by rfl) (by rfl) (by simp) (by decide)) pa_nil)))))))))))) pa_nil))))) pss_nil)
      (pss_cons (ps_par (i := 2) (j := 3) rfl sc_law_right.nd rfl rfl (by decide) rfl rfl (pa_cons (pe_callB (call_repr nd hr) (by rfl) T.n_repr (by decide +kernel) (pa_cons (pv 1) pa_nil)) (pa_cons (pe_callB (call_repr nd hr) (by rfl) T.n_repr (by decide +kernel) (pa_cons (pe_g C_law_due (hr.mono (by omega)) px0 (pa_cons (pv 1) pa_nil)) pa_nil)) pa_nil)) (by rfl))
      (pss_cons (ps_set (i := 4) sc_law_right.nd rfl (by first | exact .inl rfl | exact .inr rfl) (pe_lstN (pa_cons (pe_lamG (T := Ts) T.d_law_told sc_law_told G_law_told TBb rfl (List.mem_singleton.mpr rfl) (fun p hp _ => by rw [List.mem_singleton.mp hp]; rfl) (hr.mono (by omega)) (lamS_by (by rfl)) (fun A outer s H E f c' hr => (pe_g C_parse_value (hr.mono (by omega)) (pxE (takes_of rfl rfl rfl rfl) (fun _ _ _ _ h => h)) (pa_cons (pv 1) pa_nil)))) pa_nil)))
      (pss_cons (ps_expr (pe_bm PySem.F.plainAttrs_list PySem.F.slot_list_append PySem.F.type_list_append mt_append (pv 4) (pa_cons (pe_lamG (T := Ts) T.d_law_told sc_law_told G_law_told TBb rfl (List.mem_singleton.mpr rfl) (fun p hp _ => by rw [List.mem_singleton.mp hp]; rfl) (hr.mono (by omega)) (lamS_by (by rfl)) (fun A outer s H E f c' hr => (pe_gi (ks := ["text"]) C_parse_value (hr.mono (by omega)) (pxE (takes_of rfl rfl rfl rfl) (fun _ _ _ _ h => h)) (pk_cons (pv 1) pk_nil) (by rfl) (fun _ _ _ _ _ _ us hl => match us, hl with | [_], _ => rfl)))) pa_nil)))
      (pss_cons (ps_if (PW.pt (pw_or (pt_cmpR (op_neU hr) (pe_lc (own := [("_law_each", 5)]) rfl sc_law_right.nd (pi_seq (pv 4)) (blkOk_by (own := [("_law_each", 5)]) (N := N_law_right) (sc := defScope s_law_right) (by decide +kernel)) (fun _ _ _ _ _ => (pg_name (i := 5) sc_law_right.nd rfl (Or.inl rfl))) (fun _ _ _ _ _ => pts_nil) (fun _ _ _ _ _ => (pe_callB (id := "repr") (r := rRepr K) (call_repr nd hr) (by rfl) T.n_repr (by decide +kernel) (pa_cons (pv 5) pa_nil)))) (pe_lstN (pa_cons (pv 3) (pa_cons (pv 3) pa_nil))) (nomark _)) (pw_or1 (pt_cmpR (op_neU hr) (pe_callB (call_repr nd hr) (by rfl) T.n_repr (by decide +kernel) (pa_cons (pv 1) pa_nil)) (pv 2) (nomark _))))) (pss_one (ps_ret pe_bl)) pss_nil)
      (pss_cons (ps_if (PW.pt (pw_and (pt_cmpR (op_eqU hr) (pe_ix ix_seq (pe_ix ix_seq (pv 4) pe_int (fun _ _ => rfl)) pe_int (fun _ _ => rfl)) pe_str (nomark _)) (pw_and1 (pt_cmpR (op_neU hr) (pe_g C_format_value (hr.mono (by omega)) px0 (pa_cons (pe_ix ix_seq (pe_ix ix_seq (pv 4) pe_int (fun _ _ => rfl)) pe_int (fun _ _ => rfl)) pa_nil)) (pv 1) (nomark _))))) (pss_one (ps_ret pe_bl)) pss_nil)
      (pss_one (ps_ret (pe_cmpR (op_eqU hr) (pe_callB (call_repr nd hr) (by rfl) T.n_repr (by decide +kernel) (pa_cons (pe_lamG (T := Ts) T.d_law_told sc_law_told G_law_told TBb rfl (List.mem_singleton.mpr rfl) (fun p hp _ => by rw [List.mem_singleton.mp hp]; rfl) (hr.mono (by omega)) (lamS_by (by rfl)) (fun A outer s H E f c' hr => (pe_g C_parse_value (hr.mono (by omega)) (pxE (takes_of rfl rfl rfl rfl) (fun _ _ _ _ h => h)) (pa_cons (pv 1) pa_nil)))) pa_nil)) (pv 3) (nomark _))))))))))), ?_⟩
  walk_at "rd"
  refine ⟨p, rfl, hP, fun l H1 hl ha P1 e1 => ?_⟩
  refine g_name (e_nx (r_seq (cutS (fun σ' H' => ∃ v d, σ' = [some (.ref p), some v, none, none, none, none] ∧ InT K Ts p v d H H') ?_ ?_)))
  · intro N kN
    walk_at "rd"
    refine ⟨p, 8, rfl, P1, by decide, by decide, fun c H2 c0 c8 P2 e2 => ?_⟩
    have e12 := e1.trans e2
    walk_at "rd"
    refine br (fun h0 => ?_) fun h0 => ?_
    · refine r_asg (r_cal (r_cons (r_var rfl (r_cons ?_))))
      refine lits (K := K) (by walk_at "lits") (by decide) fun l1 vs1 H3 n3 x3 h3 d3 => ?_
      have L1 := d3.length
      simp only [List.length_cons, List.length_nil] at L1
      walk_at "rd"
      refine pick_litT (g := oddT) (P2.ex x3) P2.is (fun z => P2.ne n3 z.symm) h3 d3 (by rw [L1]; decide) (by rw [L1]; decide) (by decide +kernel) fun v d H' hv hg P' e' => ?_
      walk_at "rd"
      unfold oddT at hg
      rw [Bool.and_eq_true, Bool.not_eq_true'] at hg
      have eZ := e12.trans ((x3.em p).trans e')
      exact kN _ _ ⟨v, d, rfl, hv.mono (nw_mo P2.is), .inr hg.2, Rw.of ((bdB_ok hg.1).rq (by decide) (by decide)), P', hP.tabs hT eZ, eZ.eo⟩
    · walk_at "rd"
      exact kN _ _ ⟨.str (S l), .str (S l), rfl, .str _, .inl ⟨l, rfl, by omega⟩, Rw.str (by omega) ha, P2, hP.tabs hT e12, e12.eo⟩
  rintro _ H2 ⟨v, d, rfl, hv2, hk, hrw, P2, T2, E2⟩
  walk_at "rd"
  refine y_repW (hv2.mono mo_ex) hrw ?_
  walk_at "rd"
  refine ⟨v, d, rfl, hv2.mono mo_ex, hk, fun r0 H3 e3 hd3 => ?_⟩
  walk_at "rd"
  have hdw : Rw (dueT d) := Rw.of ((dueT_bs d).rq (by decide) (by decide))
  refine y_repW hd3 hdw ?_
  have P3 := P2.ex e3
  have T3 : Tabs Ts H3 := T2.ext e3
  have v3 := hv2.mono (e3.eo p)
  have askT : ∀ {Hx : Hp} {Q1 : VK} {tl : XK → Hp → VK → Prop}, Dt K Hx v d → (∀ H0 (E0 : XK) (Qn : VK), sp_parseX K (fA mg "InvalidText") [v] H0 Qn E0 → tl E0 H0 Qn) →
      (∀ x H', (∃ r, x = .ref r ∧ ToldT K d r H' ∧ Ex Hx H') → Q1 x H') → TTtext K (fA mg "InvalidText") tl Hx Q1 := by
    intro Hx Q1 tl hvx htl k1 H0 E0 Qn e0 hE hO
    refine htl H0 E0 Qn ⟨v, d, rfl, hvx.mono e0, ?_⟩
    rcases hk with ⟨l2, rfl, hl2⟩ | hs
    · refine .inl ⟨l2, rfl, hl2, fun e x H5 hp e5 hx => hO x H5 e5 fun a H6 e6 h6 => k1 _ H6 ⟨a, rfl, .inl ⟨l2, e, x, rfl, hp, hx.mono e6.et, h6⟩, e0.trans (e5.trans e6)⟩, fun hp dd H5 e5 hx => hE H5 dd 1 hx e5 fun a H6 e6 h6 => k1 _ H6 ⟨a, rfl, .inr ⟨1, by rw [dueT_S, hp], h6⟩, e0.trans (e5.trans e6)⟩⟩
    · exact .inr ⟨hs, fun dd H5 e5 hx => hE H5 dd 0 hx e5 fun a H6 e6 h6 => k1 _ H6 ⟨a, rfl, .inr ⟨0, dueT_no hs, h6⟩, e0.trans (e5.trans e6)⟩⟩
  walk_at "rd"
  refine (cut (fun x H' => ∃ r, x = .ref r ∧ ToldT K d r H' ∧ Pt H' p ∧ Tabs Ts H' ∧ Eo p H3 H') ?_ ?_)
  · intro Q1 k1
    refine r_lam T3 fun H4 x4 T4 => ?_
    refine askT ((v3.mono (extN_eo p x4)).mono mo_ex) (fun H0 E0 Qn hs => ?_) fun x H' ⟨r, a, b, e⟩ => k1 x H' ⟨r, a, b, (P3.extN x4).ex e, T4.ext e, (extN_eo p x4).trans (e.eo p)⟩
    walk_at "rd"
    exact hs
  rintro _ H4 ⟨r1, rfl, t1, P4, T4, E4⟩
  walk_at "rd"
  refine k_lst fun lt H5 n5 _ e5 h5 => ?_
  have P5 := P4.ex e5
  have T5 : Tabs Ts H5 := T4.ext e5
  have v4 := v3.mono E4
  have v5 := v4.mono (e5.eo p)
  have nlt : lt ≠ p := fun z => P4.ne n5 z.symm
  obtain ⟨z1, ys1, g1⟩ := t1.fst
  have np1 := pot_neS P4 g1
  walk_at "rd"
  refine k_isL (.of h5) (r_cons (cut (fun x H' => ∃ r, x = .ref r ∧ ToldT K d r H' ∧ Pt H' p ∧ Tabs Ts H' ∧ Eo p H5 H') ?_ ?_))
  · intro Q1 k1
    refine r_lam T5 fun H6 x6 T6 => ?_
    refine askT ((v5.mono (extN_eo p x6)).mono mo_ex) (fun H0 E0 Qn hs => ?_) fun x H' ⟨r, a, b, e⟩ => k1 x H' ⟨r, a, b, (P5.extN x6).ex e, T6.ext e, (extN_eo p x6).trans (e.eo p)⟩
    walk_at "rd"
    exact hs
  rintro _ H6 ⟨r2, rfl, t2, P6, T6, E6⟩
  walk_at "rd"
  have hlt6 := E6.lst nlt h5
  refine y_append hlt6 (show (1 : Nat) < sizeLine by decide) fun H7 e7 h7 => ?_
  have T7 : Tabs Ts H7 := tabs_em T6 hlt6 e7
  have P7 : Pt H7 p := pot_emT P6 nlt.symm e7
  have E47 : Eo p H4 H7 := eo_newT e5 n5 E6 e7
  have v7 := v4.mono E47
  have E27 : Eo p H2 H7 := (e3.eo p).trans (E4.trans E47)
  have t1' : ToldT K d r1 H7 := t1.on (fun xs h => e7 _ _ (ne_of_none h n5) (E6.lst np1 (e5 _ _ h))) (eo_et P4 E47)
  have t2' : ToldT K d r2 H7 := t2.on (fun xs h => e7 _ _ (fun z => by
    obtain ⟨z2, ys2, g2⟩ := t2.fst
    rw [z, hlt6] at g2
    cases g2) h) (e7.et hlt6)
  generalize hz : (dueT d).shown = z
  have has : As (TL.tl z) := by rw [← hz]; exact dueT_as d
  walk_at "rd"
  refine i_L (.of h7) ?_
  refine k_lcL (xs := [.ref r1, .ref r2]) (fun j ys H' => Ex H7 H' ∧ ys = List.replicate j (.str z)) (fun D n => ⟨Ex.new n, rfl⟩) (fun j ys H' _ c => c.1.sl (.of h7)) (fun D j x ys H' nD hx hj hl hHD c => ?_) (fun x => rfl) fun D ys H8 nD hl8 hHD c => ?_
  · obtain ⟨eH, rfl⟩ := c
    have hm := List.mem_of_getElem? hx
    simp only [List.mem_cons, List.not_mem_nil, or_false] at hm
    have hdt : Dt K H' x (dueT d) := by
      rcases hm with rfl | rfl
      · exact t1'.dt.mono eH
      · exact t2'.dt.mono eH
    walk_at "rd"
    refine y_repW hdt hdw ?_
    rw [hz]
    refine k_turn hHD hl (by simp only [List.length_cons, List.length_nil] at hj; omega) ⟨Ex.putN eH nD, ?_⟩
    rw [List.replicate_succ']
  obtain ⟨e8, rfl⟩ := c
  walk_at "rd"
  refine k_lst fun lu H9 n9 _ e9 h9 => ?_
  walk_at "rd"
  refine y_neD (d := .list [.str z, .str z]) (e := .list [.str z, .str z]) (.lst (.of (e9 _ _ hHD)) (.cons (.str _) (.cons (.str _) .nil))) (.lst (.of h9) (.cons (.str _) (.cons (.str _) .nil))) (twice_shaped has) (twice_shaped has) ?_
  rw [twice_eqv]
  have e79 := e8.trans e9
  have P9 := P7.ex e79
  have T9 : Tabs Ts H9 := T7.ext e79
  have v9 := v7.mono (e79.eo p)
  have E29 : Eo p H2 H9 := E27.trans (e79.eo p)
  walk_at "rd"
  refine y_repW (v9.mono mo_ex) hrw ?_
  walk_at "rd"
  refine ifnN rfl ?_
  have h9t := e79 _ _ h7
  have last : ∀ Hz, Pt Hz p → Tabs Ts Hz → Dt K (mo Hz p) v d → Eo p H Hz → ∀ {σ' : L2.St} {te : TE} {Q2 : VK}, True := fun _ _ _ _ _ _ _ _ => trivial
  refine r_next (e_nx (r_seq (cutS (fun σ' H' => σ' = [some (.ref p), some v, some (.str d.shown), some (.str z), some (.ref lt), none] ∧ Pt H' p ∧ Tabs Ts H' ∧ Dt K (mo H' p) v d ∧ Eo p H2 H') ?_ ?_)))
  · intro N kN
    walk_at "rd"
    rcases t1' with ⟨l2, e, x, rfl, hp, hF, h1⟩ | ⟨i, _, h1⟩
    · refine y_ixL (v := .str (Str.ofString "read")) (.of (e79 _ _ h1)) rfl ?_
      walk_at "rd"
      refine ifY rfl ?_
      walk_at "rd"
      refine y_ixL (v := x) (.of (e79 _ _ h1)) rfl ?_
      obtain ⟨hV, htx⟩ := prV_some hp
      have hsm := isV_sm hV
      walk_at "rd"
      refine ⟨x, e, rfl, (hF.mono e79.et).dt, hsm.1, by omega, fun _ H10 e10 => ?_, fun hb => ?_⟩
      · have hv10 := v9
        cases hv10
        walk_at "rd"
        refine ifnN (by rw [htx]) ?_
        walk_at "rd"
        exact kN _ _ ⟨rfl, P9.ex e10, T9.ext e10, .str _, E29.trans (e10.eo p)⟩
      · have hb2 : isV e = false := hb
        rw [hV] at hb2
        cases hb2
    · refine y_ixL (v := .str (Str.ofString "refused")) (.of (e79 _ _ h1)) rfl ?_
      walk_at "rd"
      refine ifN (by decide +kernel) ?_
      walk_at "rd"
      exact kN _ _ ⟨rfl, P9, T9, v9, E29⟩
  rintro _ H10 ⟨rfl, P10, T10, v10, E10⟩
  walk_at "rd"
  refine (cut (fun x H' => ∃ r, x = .ref r ∧ ToldT K d r H' ∧ Pt H' p ∧ Tabs Ts H' ∧ Eo p H10 H') ?_ ?_)
  · intro Q1 k1
    refine r_lam T10 fun H4 x4 T4 => ?_
    refine askT ((v10.mono (extN_eo p x4)).mono mo_ex) (fun H0 E0 Qn hs => ?_) fun x H' ⟨r, a, b, e⟩ => k1 x H' ⟨r, a, b, (P10.extN x4).ex e, T4.ext e, (extN_eo p x4).trans (e.eo p)⟩
    walk_at "rd"
    exact hs
  rintro _ H11 ⟨r3, rfl, t3, P11, T11, E11⟩
  walk_at "rd"
  refine y_repW t3.dt hdw ?_
  walk_at "rd"
  rw [hz, show decide (z = z) = true from decide_eq_true rfl]
  exact q H11 P11 T11 (E2.trans (E10.trans E11))
theorem ok_law (T : Tx K mg w) (C_law_pot : Cal P w K mg base 1 "_law_pot" s_law_pot P_law_pot (sp_pot K)) (C_law_right : Cal P w K mg base 19 "_law_right" s_law_right P_law_right (sp_tright (tabR K mg))) :
    Cal P w K mg base 20 "law" s_law P_law (sp_lawT K (tabR K mg)) := by
  refine T.d_law.ok sc_law (fun vs H Q E h => ?_) (fun f cdv A outer s H vs Q E hr h => ?_)
  · obtain ⟨a, ns, rfl, _⟩ := h; rfl
  obtain ⟨a, ns, rfl, hS, hn, hT, q⟩ := h
  refine ⟨_, PSs.nox (pss_cons (ps_for PassesOwn.never rfl (pi_range1 rfl T.n_range (pa_cons (pe_callB (call_maxU rfl) (by rfl) T.n_max (by decide +kernel) (pa_cons pe_int (pa_cons (pe_callB (call_minU rfl) (by rfl) T.n_min (by decide +kernel) (pa_cons (pe_callB call_lenU (by rfl) T.n_len (by decide +kernel) (pa_cons (pv 0) pa_nil)) (pa_cons pe_int pa_nil))) pa_nil))) pa_nil)) (pg_name (i := 1) sc_law.nd rfl (by first | exact .inl rfl | exact .inr rfl)) (pss_cons (ps_set (i := 2) sc_law.nd rfl (by first | exact .inl rfl | exact .inr rfl) (pe_g C_law_pot (hr.mono (by omega)) px0 (pa_cons (pv 0) (pa_cons (pv 1) pa_nil))))
      (pss_one (ps_if (pt_not (pt_val (pe_callB (cr_all rfl) (by rfl) T.n_all (by decide +kernel) (pa_cons (pe_lc (own := [("_law_turn", 3)]) rfl sc_law.nd (pi_range1 rfl T.n_range (pa_cons pe_int pa_nil)) (blkOk_by (own := [("_law_turn", 3)]) (N := N_law) (sc := defScope s_law) (by decide +kernel)) (fun _ _ _ _ _ => (pg_name (i := 3) sc_law.nd rfl (Or.inl rfl))) (fun _ _ _ _ _ => pts_nil) (fun _ _ _ _ _ => (pe_g C_law_right (hr.mono (by omega)) px0 (pa_cons (pv 2) pa_nil)))) pa_nil)))) (pss_one (ps_ret pe_bl)) pss_nil))))
      (pss_one (ps_ret pe_bl))), ?_⟩
  walk_at "rd"
  refine y_lenL hS ?_
  walk_at "rd"
  rw [List.length_map]
  generalize hm : (if (if (5 : Int) < (ns.length : Nat) then (5 : Int) else (ns.length : Nat)) > 1 then (if (5 : Int) < (ns.length : Nat) then (5 : Int) else (ns.length : Nat)) else (1 : Int)) = m
  have hm5 : 1 ≤ m ∧ m ≤ 5 := by
    rw [← hm]
    constructor <;> (split <;> (try split) <;> omega)
  refine i_r1 (by omega) (by omega) ?_
  refine k_forR (fun j σ' H' => SqL K H' a (ns.map V.int) ∧ Tabs (tabR K mg) H' ∧ ∃ o1 o2 o3, σ' = [some (.ref a), o1, o2, o3]) ⟨hS, hT, none, none, none, rfl⟩ ?_ ?_
  · rintro j σ' H1 hj ⟨hS1, hT1, o1, o2, o3, rfl⟩
    walk_at "rd"
    refine ⟨a, ns, j, by rw [Int.zero_add], hS1, by omega, fun p H2 np e2 P2 => ?_⟩
    walk_at "rd"
    refine i_r1 (by decide) (by decide) ?_
    refine k_lcPotT (fun y => y = .bl true) P2 (hT1.ext e2) (by decide) (fun i H3 Q1 hi e3 P3 T3 hq => ?_) (fun x => rfl) fun D ys H3 nD e3 P3 T3 hD hl hy => ?_
    · walk_at "rd"
      exact ⟨p, rfl, P3, T3, fun H4 P4 T4 e4 => hq _ H4 e4 P4 T4 rfl⟩
    · walk_at "rd"
      have hys : ys = (List.replicate ys.length true).map V.bl := by
        rw [List.map_replicate]
        exact List.eq_replicate_iff.mpr ⟨rfl, hy⟩
      refine y_all (bs := List.replicate ys.length true) (.of (by rw [hD, ← hys])) ?_
      have hall : (List.replicate ys.length true).all id = true := by
        rw [List.all_eq_true]
        intro b hb
        rw [List.eq_of_mem_replicate hb]
        rfl
      rw [hall]
      walk_at "rd"
      exact ⟨seq_newO hS1 np e2 e3, T3, _, _, _, rfl⟩
  · rintro σ' H1 ⟨hS1, hT1, o1, o2, o3, rfl⟩
    walk_at "rd"
    exact q _
def sp_law (K : PySem.W.Frag) (mg : Str → Option Value) : Sp := sp_lawT K (tabR K mg)
theorem all_ok (T : Tx K mg w) (B' : ∀ y ∈ (["_law_right"] : List Str), Tb K mg y) (TBb' : ∀ y ∈ (["_law_right"] : List Str), TabB base mg (kA K mg y) (pA K mg y)) : Cal P w K mg base 20 "law" s_law P_law (sp_law K mg) := by
  have B := B' "_law_right" (List.mem_singleton.mpr rfl)
  have TBb := TBb' "_law_right" (List.mem_singleton.mpr rfl)
  have X1 := xk_InvalidText (P := P) (w := w) (base := base) T
  have X2 := xk_InvalidValue (P := P) (w := w) (base := base) T
  have C1 := ok_is_int (P := P) (w := w) (base := base) nd T
  have C2 := ok_is_nested (P := P) (w := w) (base := base) nd T C1 10
  have C3 := ok_depth_of (P := P) (w := w) (base := base) nd T C1 10
  have C4 := ok_datum_size (P := P) (w := w) (base := base) nd T C1 10
  have C5 := ok_is_datum (P := P) (w := w) (base := base) nd T C2 C3 C4
  have C6 := ok_is_fault (P := P) (w := w) (base := base) nd T
  have C7 := ok_is_value (P := P) (w := w) (base := base) nd T C6 C5
  have C8 := ok_check_value (P := P) (w := w) (base := base) nd T X2 C7
  have C9 := ok_datum_text (P := P) (w := w) (base := base) nd T C1 10
  have C10 := ok_format_value (P := P) (w := w) (base := base) nd T C8 C6 C9
  have R1 := ok_read_integerX (P := P) (w := w) (base := base) nd T X1
  have R2 := ok_read_datumX (P := P) (w := w) (base := base) nd T X1 R1 5
  have R3 := ok_parse_valueX (P := P) (w := w) (base := base) nd T X1 R2 C5
  have D1 := ok_pot (P := P) (w := w) (base := base) nd T
  have D2 := ok_digit (P := P) (w := w) (base := base) nd T
  have D3 := ok_int (P := P) (w := w) (base := base) nd T D2
  have D4 := ok_pick (P := P) (w := w) (base := base) nd T D2
  have D5 := ok_datumL (P := P) (w := w) (base := base) nd T D2 D3 5
  have L1 := ok_ltext (P := P) (w := w) (base := base) nd T 8
  have L2 := ok_lspoilt (P := P) (w := w) (base := base) nd T D2
  have L3 := ok_lfixed (P := P) (w := w) (base := base) nd T D4
  have L4 := ok_lwords (P := P) (w := w) (base := base) nd T D2 D4 D5 L1 L2 L3
  have F1 := ok_lsize (P := P) (w := w) (base := base) nd T
  have F2 := ok_ldeep (P := P) (w := w) (base := base) nd T
  have F3 := ok_lfits (P := P) (w := w) (base := base) nd T F1 F2 11
  have L5 := ok_lparts (P := P) (w := w) (base := base) nd T
  have L6 := ok_lread (P := P) (w := w) (base := base) nd T L5 5
  have L7 := ok_ldue (P := P) (w := w) (base := base) nd T L6 F3
  have G1 := (giv_told (P := P) (w := w) (base := base) nd T).up (k := 17) (by decide)
  exact ok_law nd T D1 (ok_right nd T B TBb D2 D4 L4 L7 R3 C10 G1)
end
theorem tx_mk {K : PySem.W.Frag} {w : World} {h : Heap} {mg : Str → Option Value} (X : K.In h) (G : h.Ns mainGlobals mg)
    (z_ValueError : PySem.W.nsIn K mainGlobals "ValueError" = some none)
    (z_abs : PySem.W.nsIn K mainGlobals "abs" = some none)
    (z_all : PySem.W.nsIn K mainGlobals "all" = some none)
    (z_bool : PySem.W.nsIn K mainGlobals "bool" = some none)
    (z_divmod : PySem.W.nsIn K mainGlobals "divmod" = some none)
    (z_int : PySem.W.nsIn K mainGlobals "int" = some none)
    (z_isinstance : PySem.W.nsIn K mainGlobals "isinstance" = some none)
    (z_len : PySem.W.nsIn K mainGlobals "len" = some none)
    (z_max : PySem.W.nsIn K mainGlobals "max" = some none)
    (z_min : PySem.W.nsIn K mainGlobals "min" = some none)
    (z_range : PySem.W.nsIn K mainGlobals "range" = some none)
    (z_repr : PySem.W.nsIn K mainGlobals "repr" = some none)
    (z_str : PySem.W.nsIn K mainGlobals "str" = some none)
    (z_sum : PySem.W.nsIn K mainGlobals "sum" = some none)
    (z_tuple : PySem.W.nsIn K mainGlobals "tuple" = some none)
    {t_FAULT : Tok} (y_FAULT : PySem.W.nsIn K mainGlobals "FAULT" = some (some (.str "fault" t_FAULT)))
    {t_MOST_ITEMS : Tok} (y_MOST_ITEMS : PySem.W.nsIn K mainGlobals "MOST_ITEMS" = some (some (.int 40 t_MOST_ITEMS)))
    {t_MOST_DEPTH : Tok} (y_MOST_DEPTH : PySem.W.nsIn K mainGlobals "MOST_DEPTH" = some (some (.int 4 t_MOST_DEPTH)))
    {t_MOST_SIZE : Tok} (y_MOST_SIZE : PySem.W.nsIn K mainGlobals "MOST_SIZE" = some (some (.int 1000 t_MOST_SIZE)))
    {t_DIGITS : Tok} (y_DIGITS : PySem.W.nsIn K mainGlobals "DIGITS" = some (some (.str "0123456789" t_DIGITS)))
    {f_is_int : Addr} {od_is_int an_is_int : Option Addr} {sl_is_int : Array (Option Value)} {oc_is_int kV_is_int dc_is_int pm_is_int cd_is_int ct_is_int : Value}
    (a_is_int : PySem.W.nsIn K mainGlobals "is_int" = some (some (.ref f_is_int)))
    (l_is_int : K.lookup f_is_int = some ⟨oc_is_int, od_is_int, .func (PySem.W.fnOf "is_int" "is_int" (defArgs s_is_int) (defBody s_is_int) (defScope s_is_int) .none kV_is_int dc_is_int pm_is_int an_is_int cd_is_int ct_is_int), sl_is_int⟩)
    (g_is_int : PySem.W.codeIn K cd_is_int "is_int" = true) (k_is_int : PySem.W.keepIn K (.ref f_is_int) = true)
    {f_is_nested : Addr} {od_is_nested an_is_nested : Option Addr} {sl_is_nested : Array (Option Value)} {oc_is_nested kV_is_nested dc_is_nested pm_is_nested cd_is_nested ct_is_nested : Value}
    (a_is_nested : PySem.W.nsIn K mainGlobals "is_nested" = some (some (.ref f_is_nested)))
    (l_is_nested : K.lookup f_is_nested = some ⟨oc_is_nested, od_is_nested, .func (PySem.W.fnOf "is_nested" "is_nested" (defArgs s_is_nested) (defBody s_is_nested) (defScope s_is_nested) .none kV_is_nested dc_is_nested pm_is_nested an_is_nested cd_is_nested ct_is_nested), sl_is_nested⟩)
    (g_is_nested : PySem.W.codeIn K cd_is_nested "is_nested" = true) (k_is_nested : PySem.W.keepIn K (.ref f_is_nested) = true)
    {f_depth_of : Addr} {od_depth_of an_depth_of : Option Addr} {sl_depth_of : Array (Option Value)} {oc_depth_of kV_depth_of dc_depth_of pm_depth_of cd_depth_of ct_depth_of : Value}
    (a_depth_of : PySem.W.nsIn K mainGlobals "depth_of" = some (some (.ref f_depth_of)))
    (l_depth_of : K.lookup f_depth_of = some ⟨oc_depth_of, od_depth_of, .func (PySem.W.fnOf "depth_of" "depth_of" (defArgs s_depth_of) (defBody s_depth_of) (defScope s_depth_of) .none kV_depth_of dc_depth_of pm_depth_of an_depth_of cd_depth_of ct_depth_of), sl_depth_of⟩)
    (g_depth_of : PySem.W.codeIn K cd_depth_of "depth_of" = true) (k_depth_of : PySem.W.keepIn K (.ref f_depth_of) = true)
    {f_datum_size : Addr} {od_datum_size an_datum_size : Option Addr} {sl_datum_size : Array (Option Value)} {oc_datum_size kV_datum_size dc_datum_size pm_datum_size cd_datum_size ct_datum_size : Value}
    (a_datum_size : PySem.W.nsIn K mainGlobals "datum_size" = some (some (.ref f_datum_size)))
    (l_datum_size : K.lookup f_datum_size = some ⟨oc_datum_size, od_datum_size, .func (PySem.W.fnOf "datum_size" "datum_size" (defArgs s_datum_size) (defBody s_datum_size) (defScope s_datum_size) .none kV_datum_size dc_datum_size pm_datum_size an_datum_size cd_datum_size ct_datum_size), sl_datum_size⟩)
    (g_datum_size : PySem.W.codeIn K cd_datum_size "datum_size" = true) (k_datum_size : PySem.W.keepIn K (.ref f_datum_size) = true)
    {f_is_datum : Addr} {od_is_datum an_is_datum : Option Addr} {sl_is_datum : Array (Option Value)} {oc_is_datum kV_is_datum dc_is_datum pm_is_datum cd_is_datum ct_is_datum : Value}
    (a_is_datum : PySem.W.nsIn K mainGlobals "is_datum" = some (some (.ref f_is_datum)))
    (l_is_datum : K.lookup f_is_datum = some ⟨oc_is_datum, od_is_datum, .func (PySem.W.fnOf "is_datum" "is_datum" (defArgs s_is_datum) (defBody s_is_datum) (defScope s_is_datum) .none kV_is_datum dc_is_datum pm_is_datum an_is_datum cd_is_datum ct_is_datum), sl_is_datum⟩)
    (g_is_datum : PySem.W.codeIn K cd_is_datum "is_datum" = true) (k_is_datum : PySem.W.keepIn K (.ref f_is_datum) = true)
    {f_is_fault : Addr} {od_is_fault an_is_fault : Option Addr} {sl_is_fault : Array (Option Value)} {oc_is_fault kV_is_fault dc_is_fault pm_is_fault cd_is_fault ct_is_fault : Value}
    (a_is_fault : PySem.W.nsIn K mainGlobals "is_fault" = some (some (.ref f_is_fault)))
    (l_is_fault : K.lookup f_is_fault = some ⟨oc_is_fault, od_is_fault, .func (PySem.W.fnOf "is_fault" "is_fault" (defArgs s_is_fault) (defBody s_is_fault) (defScope s_is_fault) .none kV_is_fault dc_is_fault pm_is_fault an_is_fault cd_is_fault ct_is_fault), sl_is_fault⟩)
    (g_is_fault : PySem.W.codeIn K cd_is_fault "is_fault" = true) (k_is_fault : PySem.W.keepIn K (.ref f_is_fault) = true)
    {f_is_value : Addr} {od_is_value an_is_value : Option Addr} {sl_is_value : Array (Option Value)} {oc_is_value kV_is_value dc_is_value pm_is_value cd_is_value ct_is_value : Value}
    (a_is_value : PySem.W.nsIn K mainGlobals "is_value" = some (some (.ref f_is_value)))
    (l_is_value : K.lookup f_is_value = some ⟨oc_is_value, od_is_value, .func (PySem.W.fnOf "is_value" "is_value" (defArgs s_is_value) (defBody s_is_value) (defScope s_is_value) .none kV_is_value dc_is_value pm_is_value an_is_value cd_is_value ct_is_value), sl_is_value⟩)
    (g_is_value : PySem.W.codeIn K cd_is_value "is_value" = true) (k_is_value : PySem.W.keepIn K (.ref f_is_value) = true)
    {f_check_value : Addr} {od_check_value an_check_value : Option Addr} {sl_check_value : Array (Option Value)} {oc_check_value kV_check_value dc_check_value pm_check_value cd_check_value ct_check_value : Value}
    (a_check_value : PySem.W.nsIn K mainGlobals "check_value" = some (some (.ref f_check_value)))
    (l_check_value : K.lookup f_check_value = some ⟨oc_check_value, od_check_value, .func (PySem.W.fnOf "check_value" "check_value" (defArgs s_check_value) (defBody s_check_value) (defScope s_check_value) .none kV_check_value dc_check_value pm_check_value an_check_value cd_check_value ct_check_value), sl_check_value⟩)
    (g_check_value : PySem.W.codeIn K cd_check_value "check_value" = true) (k_check_value : PySem.W.keepIn K (.ref f_check_value) = true)
    {f_datum_text : Addr} {od_datum_text an_datum_text : Option Addr} {sl_datum_text : Array (Option Value)} {oc_datum_text kV_datum_text dc_datum_text pm_datum_text cd_datum_text ct_datum_text : Value}
    (a_datum_text : PySem.W.nsIn K mainGlobals "datum_text" = some (some (.ref f_datum_text)))
    (l_datum_text : K.lookup f_datum_text = some ⟨oc_datum_text, od_datum_text, .func (PySem.W.fnOf "datum_text" "datum_text" (defArgs s_datum_text) (defBody s_datum_text) (defScope s_datum_text) .none kV_datum_text dc_datum_text pm_datum_text an_datum_text cd_datum_text ct_datum_text), sl_datum_text⟩)
    (g_datum_text : PySem.W.codeIn K cd_datum_text "datum_text" = true) (k_datum_text : PySem.W.keepIn K (.ref f_datum_text) = true)
    {f_format_value : Addr} {od_format_value an_format_value : Option Addr} {sl_format_value : Array (Option Value)} {oc_format_value kV_format_value dc_format_value pm_format_value cd_format_value ct_format_value : Value}
    (a_format_value : PySem.W.nsIn K mainGlobals "format_value" = some (some (.ref f_format_value)))
    (l_format_value : K.lookup f_format_value = some ⟨oc_format_value, od_format_value, .func (PySem.W.fnOf "format_value" "format_value" (defArgs s_format_value) (defBody s_format_value) (defScope s_format_value) .none kV_format_value dc_format_value pm_format_value an_format_value cd_format_value ct_format_value), sl_format_value⟩)
    (g_format_value : PySem.W.codeIn K cd_format_value "format_value" = true) (k_format_value : PySem.W.keepIn K (.ref f_format_value) = true)
    {f_read_integer : Addr} {od_read_integer an_read_integer : Option Addr} {sl_read_integer : Array (Option Value)} {oc_read_integer kV_read_integer dc_read_integer pm_read_integer cd_read_integer ct_read_integer : Value}
    (a_read_integer : PySem.W.nsIn K mainGlobals "read_integer" = some (some (.ref f_read_integer)))
    (l_read_integer : K.lookup f_read_integer = some ⟨oc_read_integer, od_read_integer, .func (PySem.W.fnOf "read_integer" "read_integer" (defArgs s_read_integer) (defBody s_read_integer) (defScope s_read_integer) .none kV_read_integer dc_read_integer pm_read_integer an_read_integer cd_read_integer ct_read_integer), sl_read_integer⟩)
    (g_read_integer : PySem.W.codeIn K cd_read_integer "read_integer" = true) (k_read_integer : PySem.W.keepIn K (.ref f_read_integer) = true)
    {f_read_tuple : Addr} {od_read_tuple an_read_tuple : Option Addr} {sl_read_tuple : Array (Option Value)} {oc_read_tuple kV_read_tuple dc_read_tuple pm_read_tuple cd_read_tuple ct_read_tuple : Value}
    (a_read_tuple : PySem.W.nsIn K mainGlobals "read_tuple" = some (some (.ref f_read_tuple)))
    (l_read_tuple : K.lookup f_read_tuple = some ⟨oc_read_tuple, od_read_tuple, .func (PySem.W.fnOf "read_tuple" "read_tuple" (defArgs s_read_tuple) (defBody s_read_tuple) (defScope s_read_tuple) .none kV_read_tuple dc_read_tuple pm_read_tuple an_read_tuple cd_read_tuple ct_read_tuple), sl_read_tuple⟩)
    (g_read_tuple : PySem.W.codeIn K cd_read_tuple "read_tuple" = true) (k_read_tuple : PySem.W.keepIn K (.ref f_read_tuple) = true)
    {f_read_datum : Addr} {od_read_datum an_read_datum : Option Addr} {sl_read_datum : Array (Option Value)} {oc_read_datum kV_read_datum dc_read_datum pm_read_datum cd_read_datum ct_read_datum : Value}
    (a_read_datum : PySem.W.nsIn K mainGlobals "read_datum" = some (some (.ref f_read_datum)))
    (l_read_datum : K.lookup f_read_datum = some ⟨oc_read_datum, od_read_datum, .func (PySem.W.fnOf "read_datum" "read_datum" (defArgs s_read_datum) (defBody s_read_datum) (defScope s_read_datum) .none kV_read_datum dc_read_datum pm_read_datum an_read_datum cd_read_datum ct_read_datum), sl_read_datum⟩)
    (g_read_datum : PySem.W.codeIn K cd_read_datum "read_datum" = true) (k_read_datum : PySem.W.keepIn K (.ref f_read_datum) = true)
    {f_parse_value : Addr} {od_parse_value an_parse_value : Option Addr} {sl_parse_value : Array (Option Value)} {oc_parse_value kV_parse_value dc_parse_value pm_parse_value cd_parse_value ct_parse_value : Value}
    (a_parse_value : PySem.W.nsIn K mainGlobals "parse_value" = some (some (.ref f_parse_value)))
    (l_parse_value : K.lookup f_parse_value = some ⟨oc_parse_value, od_parse_value, .func (PySem.W.fnOf "parse_value" "parse_value" (defArgs s_parse_value) (defBody s_parse_value) (defScope s_parse_value) .none kV_parse_value dc_parse_value pm_parse_value an_parse_value cd_parse_value ct_parse_value), sl_parse_value⟩)
    (g_parse_value : PySem.W.codeIn K cd_parse_value "parse_value" = true) (k_parse_value : PySem.W.keepIn K (.ref f_parse_value) = true)
    {f_law_pot : Addr} {od_law_pot an_law_pot : Option Addr} {sl_law_pot : Array (Option Value)} {oc_law_pot kV_law_pot dc_law_pot pm_law_pot cd_law_pot ct_law_pot : Value}
    (a_law_pot : PySem.W.nsIn K mainGlobals "_law_pot" = some (some (.ref f_law_pot)))
    (l_law_pot : K.lookup f_law_pot = some ⟨oc_law_pot, od_law_pot, .func (PySem.W.fnOf "_law_pot" "_law_pot" (defArgs s_law_pot) (defBody s_law_pot) (defScope s_law_pot) .none kV_law_pot dc_law_pot pm_law_pot an_law_pot cd_law_pot ct_law_pot), sl_law_pot⟩)
    (g_law_pot : PySem.W.codeIn K cd_law_pot "_law_pot" = true) (k_law_pot : PySem.W.keepIn K (.ref f_law_pot) = true)
    {f_law_digit : Addr} {od_law_digit an_law_digit : Option Addr} {sl_law_digit : Array (Option Value)} {oc_law_digit kV_law_digit dc_law_digit pm_law_digit cd_law_digit ct_law_digit : Value}
    (a_law_digit : PySem.W.nsIn K mainGlobals "_law_digit" = some (some (.ref f_law_digit)))
    (l_law_digit : K.lookup f_law_digit = some ⟨oc_law_digit, od_law_digit, .func (PySem.W.fnOf "_law_digit" "_law_digit" (defArgs s_law_digit) (defBody s_law_digit) (defScope s_law_digit) .none kV_law_digit dc_law_digit pm_law_digit an_law_digit cd_law_digit ct_law_digit), sl_law_digit⟩)
    (g_law_digit : PySem.W.codeIn K cd_law_digit "_law_digit" = true) (k_law_digit : PySem.W.keepIn K (.ref f_law_digit) = true)
    {f_law_pick : Addr} {od_law_pick an_law_pick : Option Addr} {sl_law_pick : Array (Option Value)} {oc_law_pick kV_law_pick dc_law_pick pm_law_pick cd_law_pick ct_law_pick : Value}
    (a_law_pick : PySem.W.nsIn K mainGlobals "_law_pick" = some (some (.ref f_law_pick)))
    (l_law_pick : K.lookup f_law_pick = some ⟨oc_law_pick, od_law_pick, .func (PySem.W.fnOf "_law_pick" "_law_pick" (defArgs s_law_pick) (defBody s_law_pick) (defScope s_law_pick) .none kV_law_pick dc_law_pick pm_law_pick an_law_pick cd_law_pick ct_law_pick), sl_law_pick⟩)
    (g_law_pick : PySem.W.codeIn K cd_law_pick "_law_pick" = true) (k_law_pick : PySem.W.keepIn K (.ref f_law_pick) = true)
    {f_law_int : Addr} {od_law_int an_law_int : Option Addr} {sl_law_int : Array (Option Value)} {oc_law_int kV_law_int dc_law_int pm_law_int cd_law_int ct_law_int : Value}
    (a_law_int : PySem.W.nsIn K mainGlobals "_law_int" = some (some (.ref f_law_int)))
    (l_law_int : K.lookup f_law_int = some ⟨oc_law_int, od_law_int, .func (PySem.W.fnOf "_law_int" "_law_int" (defArgs s_law_int) (defBody s_law_int) (defScope s_law_int) .none kV_law_int dc_law_int pm_law_int an_law_int cd_law_int ct_law_int), sl_law_int⟩)
    (g_law_int : PySem.W.codeIn K cd_law_int "_law_int" = true) (k_law_int : PySem.W.keepIn K (.ref f_law_int) = true)
    {f_law_datum : Addr} {od_law_datum an_law_datum : Option Addr} {sl_law_datum : Array (Option Value)} {oc_law_datum kV_law_datum dc_law_datum pm_law_datum cd_law_datum ct_law_datum : Value}
    (a_law_datum : PySem.W.nsIn K mainGlobals "_law_datum" = some (some (.ref f_law_datum)))
    (l_law_datum : K.lookup f_law_datum = some ⟨oc_law_datum, od_law_datum, .func (PySem.W.fnOf "_law_datum" "_law_datum" (defArgs s_law_datum) (defBody s_law_datum) (defScope s_law_datum) .none kV_law_datum dc_law_datum pm_law_datum an_law_datum cd_law_datum ct_law_datum), sl_law_datum⟩)
    (g_law_datum : PySem.W.codeIn K cd_law_datum "_law_datum" = true) (k_law_datum : PySem.W.keepIn K (.ref f_law_datum) = true)
    {f_law_size : Addr} {od_law_size an_law_size : Option Addr} {sl_law_size : Array (Option Value)} {oc_law_size kV_law_size dc_law_size pm_law_size cd_law_size ct_law_size : Value}
    (a_law_size : PySem.W.nsIn K mainGlobals "_law_size" = some (some (.ref f_law_size)))
    (l_law_size : K.lookup f_law_size = some ⟨oc_law_size, od_law_size, .func (PySem.W.fnOf "_law_size" "_law_size" (defArgs s_law_size) (defBody s_law_size) (defScope s_law_size) .none kV_law_size dc_law_size pm_law_size an_law_size cd_law_size ct_law_size), sl_law_size⟩)
    (g_law_size : PySem.W.codeIn K cd_law_size "_law_size" = true) (k_law_size : PySem.W.keepIn K (.ref f_law_size) = true)
    {f_law_deep : Addr} {od_law_deep an_law_deep : Option Addr} {sl_law_deep : Array (Option Value)} {oc_law_deep kV_law_deep dc_law_deep pm_law_deep cd_law_deep ct_law_deep : Value}
    (a_law_deep : PySem.W.nsIn K mainGlobals "_law_deep" = some (some (.ref f_law_deep)))
    (l_law_deep : K.lookup f_law_deep = some ⟨oc_law_deep, od_law_deep, .func (PySem.W.fnOf "_law_deep" "_law_deep" (defArgs s_law_deep) (defBody s_law_deep) (defScope s_law_deep) .none kV_law_deep dc_law_deep pm_law_deep an_law_deep cd_law_deep ct_law_deep), sl_law_deep⟩)
    (g_law_deep : PySem.W.codeIn K cd_law_deep "_law_deep" = true) (k_law_deep : PySem.W.keepIn K (.ref f_law_deep) = true)
    {f_law_fits : Addr} {od_law_fits an_law_fits : Option Addr} {sl_law_fits : Array (Option Value)} {oc_law_fits kV_law_fits dc_law_fits pm_law_fits cd_law_fits ct_law_fits : Value}
    (a_law_fits : PySem.W.nsIn K mainGlobals "_law_fits" = some (some (.ref f_law_fits)))
    (l_law_fits : K.lookup f_law_fits = some ⟨oc_law_fits, od_law_fits, .func (PySem.W.fnOf "_law_fits" "_law_fits" (defArgs s_law_fits) (defBody s_law_fits) (defScope s_law_fits) .none kV_law_fits dc_law_fits pm_law_fits an_law_fits cd_law_fits ct_law_fits), sl_law_fits⟩)
    (g_law_fits : PySem.W.codeIn K cd_law_fits "_law_fits" = true) (k_law_fits : PySem.W.keepIn K (.ref f_law_fits) = true)
    {f_law_text : Addr} {od_law_text an_law_text : Option Addr} {sl_law_text : Array (Option Value)} {oc_law_text kV_law_text dc_law_text pm_law_text cd_law_text ct_law_text : Value}
    (a_law_text : PySem.W.nsIn K mainGlobals "_law_text" = some (some (.ref f_law_text)))
    (l_law_text : K.lookup f_law_text = some ⟨oc_law_text, od_law_text, .func (PySem.W.fnOf "_law_text" "_law_text" (defArgs s_law_text) (defBody s_law_text) (defScope s_law_text) .none kV_law_text dc_law_text pm_law_text an_law_text cd_law_text ct_law_text), sl_law_text⟩)
    (g_law_text : PySem.W.codeIn K cd_law_text "_law_text" = true) (k_law_text : PySem.W.keepIn K (.ref f_law_text) = true)
    {f_law_spoilt : Addr} {od_law_spoilt an_law_spoilt : Option Addr} {sl_law_spoilt : Array (Option Value)} {oc_law_spoilt kV_law_spoilt dc_law_spoilt pm_law_spoilt cd_law_spoilt ct_law_spoilt : Value}
    (a_law_spoilt : PySem.W.nsIn K mainGlobals "_law_spoilt" = some (some (.ref f_law_spoilt)))
    (l_law_spoilt : K.lookup f_law_spoilt = some ⟨oc_law_spoilt, od_law_spoilt, .func (PySem.W.fnOf "_law_spoilt" "_law_spoilt" (defArgs s_law_spoilt) (defBody s_law_spoilt) (defScope s_law_spoilt) .none kV_law_spoilt dc_law_spoilt pm_law_spoilt an_law_spoilt cd_law_spoilt ct_law_spoilt), sl_law_spoilt⟩)
    (g_law_spoilt : PySem.W.codeIn K cd_law_spoilt "_law_spoilt" = true) (k_law_spoilt : PySem.W.keepIn K (.ref f_law_spoilt) = true)
    {f_law_fixed : Addr} {od_law_fixed an_law_fixed : Option Addr} {sl_law_fixed : Array (Option Value)} {oc_law_fixed kV_law_fixed dc_law_fixed pm_law_fixed cd_law_fixed ct_law_fixed : Value}
    (a_law_fixed : PySem.W.nsIn K mainGlobals "_law_fixed" = some (some (.ref f_law_fixed)))
    (l_law_fixed : K.lookup f_law_fixed = some ⟨oc_law_fixed, od_law_fixed, .func (PySem.W.fnOf "_law_fixed" "_law_fixed" (defArgs s_law_fixed) (defBody s_law_fixed) (defScope s_law_fixed) .none kV_law_fixed dc_law_fixed pm_law_fixed an_law_fixed cd_law_fixed ct_law_fixed), sl_law_fixed⟩)
    (g_law_fixed : PySem.W.codeIn K cd_law_fixed "_law_fixed" = true) (k_law_fixed : PySem.W.keepIn K (.ref f_law_fixed) = true)
    {f_law_words : Addr} {od_law_words an_law_words : Option Addr} {sl_law_words : Array (Option Value)} {oc_law_words kV_law_words dc_law_words pm_law_words cd_law_words ct_law_words : Value}
    (a_law_words : PySem.W.nsIn K mainGlobals "_law_words" = some (some (.ref f_law_words)))
    (l_law_words : K.lookup f_law_words = some ⟨oc_law_words, od_law_words, .func (PySem.W.fnOf "_law_words" "_law_words" (defArgs s_law_words) (defBody s_law_words) (defScope s_law_words) .none kV_law_words dc_law_words pm_law_words an_law_words cd_law_words ct_law_words), sl_law_words⟩)
    (g_law_words : PySem.W.codeIn K cd_law_words "_law_words" = true) (k_law_words : PySem.W.keepIn K (.ref f_law_words) = true)
    {f_law_parts : Addr} {od_law_parts an_law_parts : Option Addr} {sl_law_parts : Array (Option Value)} {oc_law_parts kV_law_parts dc_law_parts pm_law_parts cd_law_parts ct_law_parts : Value}
    (a_law_parts : PySem.W.nsIn K mainGlobals "_law_parts" = some (some (.ref f_law_parts)))
    (l_law_parts : K.lookup f_law_parts = some ⟨oc_law_parts, od_law_parts, .func (PySem.W.fnOf "_law_parts" "_law_parts" (defArgs s_law_parts) (defBody s_law_parts) (defScope s_law_parts) .none kV_law_parts dc_law_parts pm_law_parts an_law_parts cd_law_parts ct_law_parts), sl_law_parts⟩)
    (g_law_parts : PySem.W.codeIn K cd_law_parts "_law_parts" = true) (k_law_parts : PySem.W.keepIn K (.ref f_law_parts) = true)
    {f_law_read : Addr} {od_law_read an_law_read : Option Addr} {sl_law_read : Array (Option Value)} {oc_law_read kV_law_read dc_law_read pm_law_read cd_law_read ct_law_read : Value}
    (a_law_read : PySem.W.nsIn K mainGlobals "_law_read" = some (some (.ref f_law_read)))
    (l_law_read : K.lookup f_law_read = some ⟨oc_law_read, od_law_read, .func (PySem.W.fnOf "_law_read" "_law_read" (defArgs s_law_read) (defBody s_law_read) (defScope s_law_read) .none kV_law_read dc_law_read pm_law_read an_law_read cd_law_read ct_law_read), sl_law_read⟩)
    (g_law_read : PySem.W.codeIn K cd_law_read "_law_read" = true) (k_law_read : PySem.W.keepIn K (.ref f_law_read) = true)
    {f_law_due : Addr} {od_law_due an_law_due : Option Addr} {sl_law_due : Array (Option Value)} {oc_law_due kV_law_due dc_law_due pm_law_due cd_law_due ct_law_due : Value}
    (a_law_due : PySem.W.nsIn K mainGlobals "_law_due" = some (some (.ref f_law_due)))
    (l_law_due : K.lookup f_law_due = some ⟨oc_law_due, od_law_due, .func (PySem.W.fnOf "_law_due" "_law_due" (defArgs s_law_due) (defBody s_law_due) (defScope s_law_due) .none kV_law_due dc_law_due pm_law_due an_law_due cd_law_due ct_law_due), sl_law_due⟩)
    (g_law_due : PySem.W.codeIn K cd_law_due "_law_due" = true) (k_law_due : PySem.W.keepIn K (.ref f_law_due) = true)
    {f_law_told : Addr} {od_law_told an_law_told : Option Addr} {sl_law_told : Array (Option Value)} {oc_law_told kV_law_told dc_law_told pm_law_told cd_law_told ct_law_told : Value}
    (a_law_told : PySem.W.nsIn K mainGlobals "_law_told" = some (some (.ref f_law_told)))
    (l_law_told : K.lookup f_law_told = some ⟨oc_law_told, od_law_told, .func (PySem.W.fnOf "_law_told" "_law_told" (defArgs s_law_told) (defBody s_law_told) (defScope s_law_told) .none kV_law_told dc_law_told pm_law_told an_law_told cd_law_told ct_law_told), sl_law_told⟩)
    (g_law_told : PySem.W.codeIn K cd_law_told "_law_told" = true) (k_law_told : PySem.W.keepIn K (.ref f_law_told) = true)
    {f_law_right : Addr} {od_law_right an_law_right : Option Addr} {sl_law_right : Array (Option Value)} {oc_law_right kV_law_right dc_law_right pm_law_right cd_law_right ct_law_right : Value}
    (a_law_right : PySem.W.nsIn K mainGlobals "_law_right" = some (some (.ref f_law_right)))
    (l_law_right : K.lookup f_law_right = some ⟨oc_law_right, od_law_right, .func (PySem.W.fnOf "_law_right" "_law_right" (defArgs s_law_right) (defBody s_law_right) (defScope s_law_right) .none kV_law_right dc_law_right pm_law_right an_law_right cd_law_right ct_law_right), sl_law_right⟩)
    (g_law_right : PySem.W.codeIn K cd_law_right "_law_right" = true) (k_law_right : PySem.W.keepIn K (.ref f_law_right) = true)
    {f_law : Addr} {od_law an_law : Option Addr} {sl_law : Array (Option Value)} {oc_law kV_law dc_law pm_law cd_law ct_law : Value}
    (a_law : PySem.W.nsIn K mainGlobals "law" = some (some (.ref f_law)))
    (l_law : K.lookup f_law = some ⟨oc_law, od_law, .func (PySem.W.fnOf "law" "law" (defArgs s_law) (defBody s_law) (defScope s_law) .none kV_law dc_law pm_law an_law cd_law ct_law), sl_law⟩)
    (g_law : PySem.W.codeIn K cd_law "law" = true) (k_law : PySem.W.keepIn K (.ref f_law) = true)
    {C_InvalidValue : Addr}
    (a_InvalidValue : PySem.W.nsIn K mainGlobals "InvalidValue" = some (some (.ref C_InvalidValue)))
    {C_SessionError : Addr}
    (a_SessionError : PySem.W.nsIn K mainGlobals "SessionError" = some (some (.ref C_SessionError)))
    {C_InvalidText : Addr}
    (a_InvalidText : PySem.W.nsIn K mainGlobals "InvalidText" = some (some (.ref C_InvalidText)))
    {C_InvalidCommand : Addr}
    (a_InvalidCommand : PySem.W.nsIn K mainGlobals "InvalidCommand" = some (some (.ref C_InvalidCommand)))
    {C_InvalidExpression : Addr}
    (a_InvalidExpression : PySem.W.nsIn K mainGlobals "InvalidExpression" = some (some (.ref C_InvalidExpression)))
    {C_LimitError : Addr}
    (a_LimitError : PySem.W.nsIn K mainGlobals "LimitError" = some (some (.ref C_LimitError)))
    {C_MissingError : Addr}
    (a_MissingError : PySem.W.nsIn K mainGlobals "MissingError" = some (some (.ref C_MissingError)))
    {C_StateError : Addr}
    (a_StateError : PySem.W.nsIn K mainGlobals "StateError" = some (some (.ref C_StateError)))
    {I_InvalidValue : Addr} {oc_InvalidValue : Value} {od_InvalidValue an_InvalidValue : Option Addr} {sl_InvalidValue : Array (Option Value)} {kV_InvalidValue dc_InvalidValue pm_InvalidValue cd_InvalidValue ct_InvalidValue : Value}
    (k1_InvalidValue : PySem.W.excInitIn K C_InvalidValue bm_ValueError "ValueError.__new__" = true)
    (k2_InvalidValue : PySem.W.excOver K C_InvalidValue bm_ValueError = true)
    (k3_InvalidValue : PySem.W.hasDictIn K C_InvalidValue = true)
    (k4_InvalidValue : PySem.W.findIn K (.ref C_InvalidValue) "__setattr__" = some (some (.builtin "object.__setattr__")))
    (k5_InvalidValue : PySem.W.subIn K (.ref C_InvalidValue) (.type "BaseException") = some true)
    (k6_InvalidValue : PySem.W.typeIn K (.ref C_InvalidValue) = some (.type "type"))
    (k7_InvalidValue : PySem.W.keepIn K (.ref C_InvalidValue) = true)
    (k8_InvalidValue : PySem.W.findIn K (.ref C_InvalidValue) "__init__" = some (some (.ref I_InvalidValue)))
    (k9_InvalidValue : PySem.W.typeIn K (.ref I_InvalidValue) = some (.type "function"))
    (ka_InvalidValue : K.lookup I_InvalidValue = some ⟨oc_InvalidValue, od_InvalidValue, .func (PySem.W.fnOf "__init__" "InvalidValue.__init__" (defArgs i_InvalidValue) (defBody i_InvalidValue) (defScope i_InvalidValue) .none kV_InvalidValue dc_InvalidValue pm_InvalidValue an_InvalidValue cd_InvalidValue ct_InvalidValue), sl_InvalidValue⟩)
    (kb_InvalidValue : PySem.W.codeIn K cd_InvalidValue "InvalidValue.__init__" = true)
    (kc_InvalidValue : PySem.W.keepIn K (.ref I_InvalidValue) = true)
    (f_InvalidValue_value : PySem.W.takerIn K C_InvalidValue "value" = some none)
    (g_InvalidValue_value : PySem.W.findIn K (.ref C_InvalidValue) "value" = some none)
    (x1_InvalidValue : PySem.W.findIn K (.ref C_InvalidValue) "__getattribute__" = some (some (.builtin "BaseException.__getattribute__")))
    (x2_InvalidValue : PySem.W.findIn K (.ref C_InvalidValue) "__getattr__" = some none)
    (x3_InvalidValue : PySem.W.findIn K (.ref C_InvalidValue) "__class__" = some (some (.builtin "object.__class__")))
    (x4_InvalidValue : PySem.W.mroIn K C_InvalidValue (.type "object") = some true)
    (z_InvalidValue : PySem.W.subIn K (.ref C_InvalidValue) (.ref C_InvalidValue) = some true)
    (s_InvalidValue_SessionError : PySem.W.subIn K (.ref C_InvalidValue) (.ref C_SessionError) = some true)
    (s_InvalidValue_InvalidText : PySem.W.subIn K (.ref C_InvalidValue) (.ref C_InvalidText) = some false)
    (s_InvalidValue_ValueError : PySem.W.subIn K (.ref C_InvalidValue) (.type "ValueError") = some true)
    (s_InvalidValue_InvalidCommand : PySem.W.subIn K (.ref C_InvalidValue) (.ref C_InvalidCommand) = some false)
    (s_InvalidValue_InvalidExpression : PySem.W.subIn K (.ref C_InvalidValue) (.ref C_InvalidExpression) = some false)
    (s_InvalidValue_InvalidValue : PySem.W.subIn K (.ref C_InvalidValue) (.ref C_InvalidValue) = some true)
    (s_InvalidValue_LimitError : PySem.W.subIn K (.ref C_InvalidValue) (.ref C_LimitError) = some false)
    (s_InvalidValue_MissingError : PySem.W.subIn K (.ref C_InvalidValue) (.ref C_MissingError) = some false)
    (s_InvalidValue_StateError : PySem.W.subIn K (.ref C_InvalidValue) (.ref C_StateError) = some false)
    {I_InvalidText : Addr} {oc_InvalidText : Value} {od_InvalidText an_InvalidText : Option Addr} {sl_InvalidText : Array (Option Value)} {kV_InvalidText dc_InvalidText pm_InvalidText cd_InvalidText ct_InvalidText : Value}
    (k1_InvalidText : PySem.W.excInitIn K C_InvalidText bm_ValueError "ValueError.__new__" = true)
    (k2_InvalidText : PySem.W.excOver K C_InvalidText bm_ValueError = true)
    (k3_InvalidText : PySem.W.hasDictIn K C_InvalidText = true)
    (k4_InvalidText : PySem.W.findIn K (.ref C_InvalidText) "__setattr__" = some (some (.builtin "object.__setattr__")))
    (k5_InvalidText : PySem.W.subIn K (.ref C_InvalidText) (.type "BaseException") = some true)
    (k6_InvalidText : PySem.W.typeIn K (.ref C_InvalidText) = some (.type "type"))
    (k7_InvalidText : PySem.W.keepIn K (.ref C_InvalidText) = true)
    (k8_InvalidText : PySem.W.findIn K (.ref C_InvalidText) "__init__" = some (some (.ref I_InvalidText)))
    (k9_InvalidText : PySem.W.typeIn K (.ref I_InvalidText) = some (.type "function"))
    (ka_InvalidText : K.lookup I_InvalidText = some ⟨oc_InvalidText, od_InvalidText, .func (PySem.W.fnOf "__init__" "InvalidText.__init__" (defArgs i_InvalidText) (defBody i_InvalidText) (defScope i_InvalidText) .none kV_InvalidText dc_InvalidText pm_InvalidText an_InvalidText cd_InvalidText ct_InvalidText), sl_InvalidText⟩)
    (kb_InvalidText : PySem.W.codeIn K cd_InvalidText "InvalidText.__init__" = true)
    (kc_InvalidText : PySem.W.keepIn K (.ref I_InvalidText) = true)
    (f_InvalidText_line : PySem.W.takerIn K C_InvalidText "line" = some none)
    (g_InvalidText_line : PySem.W.findIn K (.ref C_InvalidText) "line" = some none)
    (x1_InvalidText : PySem.W.findIn K (.ref C_InvalidText) "__getattribute__" = some (some (.builtin "BaseException.__getattribute__")))
    (x2_InvalidText : PySem.W.findIn K (.ref C_InvalidText) "__getattr__" = some none)
    (x3_InvalidText : PySem.W.findIn K (.ref C_InvalidText) "__class__" = some (some (.builtin "object.__class__")))
    (x4_InvalidText : PySem.W.mroIn K C_InvalidText (.type "object") = some true)
    (z_InvalidText : PySem.W.subIn K (.ref C_InvalidText) (.ref C_InvalidText) = some true)
    (s_InvalidText_SessionError : PySem.W.subIn K (.ref C_InvalidText) (.ref C_SessionError) = some true)
    (s_InvalidText_InvalidText : PySem.W.subIn K (.ref C_InvalidText) (.ref C_InvalidText) = some true)
    (s_InvalidText_ValueError : PySem.W.subIn K (.ref C_InvalidText) (.type "ValueError") = some true)
    (s_InvalidText_InvalidCommand : PySem.W.subIn K (.ref C_InvalidText) (.ref C_InvalidCommand) = some false)
    (s_InvalidText_InvalidExpression : PySem.W.subIn K (.ref C_InvalidText) (.ref C_InvalidExpression) = some false)
    (s_InvalidText_InvalidValue : PySem.W.subIn K (.ref C_InvalidText) (.ref C_InvalidValue) = some false)
    (s_InvalidText_LimitError : PySem.W.subIn K (.ref C_InvalidText) (.ref C_LimitError) = some false)
    (s_InvalidText_MissingError : PySem.W.subIn K (.ref C_InvalidText) (.ref C_MissingError) = some false)
    (s_InvalidText_StateError : PySem.W.subIn K (.ref C_InvalidText) (.ref C_StateError) = some false)
    (iy_SessionError : PySem.W.isClsIn K C_SessionError = true)
    (ty_SessionError : PySem.W.typeIn K (.ref C_SessionError) = some (.type "type"))
    (by_SessionError : PySem.W.subIn K (.ref C_SessionError) (.type "BaseException") = some true)
    (iy_InvalidText : PySem.W.isClsIn K C_InvalidText = true)
    (ty_InvalidText : PySem.W.typeIn K (.ref C_InvalidText) = some (.type "type"))
    (by_InvalidText : PySem.W.subIn K (.ref C_InvalidText) (.type "BaseException") = some true)
    (iy_InvalidCommand : PySem.W.isClsIn K C_InvalidCommand = true)
    (ty_InvalidCommand : PySem.W.typeIn K (.ref C_InvalidCommand) = some (.type "type"))
    (by_InvalidCommand : PySem.W.subIn K (.ref C_InvalidCommand) (.type "BaseException") = some true)
    (iy_InvalidExpression : PySem.W.isClsIn K C_InvalidExpression = true)
    (ty_InvalidExpression : PySem.W.typeIn K (.ref C_InvalidExpression) = some (.type "type"))
    (by_InvalidExpression : PySem.W.subIn K (.ref C_InvalidExpression) (.type "BaseException") = some true)
    (iy_InvalidValue : PySem.W.isClsIn K C_InvalidValue = true)
    (ty_InvalidValue : PySem.W.typeIn K (.ref C_InvalidValue) = some (.type "type"))
    (by_InvalidValue : PySem.W.subIn K (.ref C_InvalidValue) (.type "BaseException") = some true)
    (iy_LimitError : PySem.W.isClsIn K C_LimitError = true)
    (ty_LimitError : PySem.W.typeIn K (.ref C_LimitError) = some (.type "type"))
    (by_LimitError : PySem.W.subIn K (.ref C_LimitError) (.type "BaseException") = some true)
    (iy_MissingError : PySem.W.isClsIn K C_MissingError = true)
    (ty_MissingError : PySem.W.typeIn K (.ref C_MissingError) = some (.type "type"))
    (by_MissingError : PySem.W.subIn K (.ref C_MissingError) (.type "BaseException") = some true)
    (iy_StateError : PySem.W.isClsIn K C_StateError = true)
    (ty_StateError : PySem.W.typeIn K (.ref C_StateError) = some (.type "type"))
    (by_StateError : PySem.W.subIn K (.ref C_StateError) (.type "BaseException") = some true)
    (x5_exc : PySem.W.specialIn K (.builtin "object.__class__") "__get__" = some (some (.builtin "getset_descriptor.__get__")))
    (x6_exc : PySem.W.takesIn K (.builtin "object.__class__") = some true)
    (b1_SessionError : PySem.W.readsIn K C_SessionError (.type "type") = true)
    (b2_SessionError : PySem.W.findCls K (.ref C_SessionError) (.type "type") "__init__" = some (.val (.builtin "ValueError.__init__")))
    (b3_SessionError : PySem.W.specialIn K (.ref C_SessionError) "__getattribute__" = some (some (.builtin "type.__getattribute__"))) :
    Tx K mg w := {
    n_ValueError := PySem.W.mg_none_of X G z_ValueError
    n_abs := PySem.W.mg_none_of X G z_abs
    n_all := PySem.W.mg_none_of X G z_all
    n_bool := PySem.W.mg_none_of X G z_bool
    n_divmod := PySem.W.mg_none_of X G z_divmod
    n_int := PySem.W.mg_none_of X G z_int
    n_isinstance := PySem.W.mg_none_of X G z_isinstance
    n_len := PySem.W.mg_none_of X G z_len
    n_max := PySem.W.mg_none_of X G z_max
    n_min := PySem.W.mg_none_of X G z_min
    n_range := PySem.W.mg_none_of X G z_range
    n_repr := PySem.W.mg_none_of X G z_repr
    n_str := PySem.W.mg_none_of X G z_str
    n_sum := PySem.W.mg_none_of X G z_sum
    n_tuple := PySem.W.mg_none_of X G z_tuple
    c_FAULT := ⟨_, PySem.W.mg_of X G y_FAULT, _, rfl⟩
    c_MOST_ITEMS := ⟨_, PySem.W.mg_of X G y_MOST_ITEMS, _, rfl⟩
    c_MOST_DEPTH := ⟨_, PySem.W.mg_of X G y_MOST_DEPTH, _, rfl⟩
    c_MOST_SIZE := ⟨_, PySem.W.mg_of X G y_MOST_SIZE, _, rfl⟩
    c_DIGITS := ⟨_, PySem.W.mg_of X G y_DIGITS, _, rfl⟩
    d_is_int := Df.make (PySem.W.mg_of X G a_is_int) l_is_int g_is_int k_is_int fun _ _ _ _ _ _ us hl => match us, hl with | [_], _ => rfl
    d_is_nested := Df.make (PySem.W.mg_of X G a_is_nested) l_is_nested g_is_nested k_is_nested fun _ _ _ _ _ _ us hl => match us, hl with | [_], _ => rfl
    d_depth_of := Df.make (PySem.W.mg_of X G a_depth_of) l_depth_of g_depth_of k_depth_of fun _ _ _ _ _ _ us hl => match us, hl with | [_], _ => rfl
    d_datum_size := Df.make (PySem.W.mg_of X G a_datum_size) l_datum_size g_datum_size k_datum_size fun _ _ _ _ _ _ us hl => match us, hl with | [_], _ => rfl
    d_is_datum := Df.make (PySem.W.mg_of X G a_is_datum) l_is_datum g_is_datum k_is_datum fun _ _ _ _ _ _ us hl => match us, hl with | [_], _ => rfl
    d_is_fault := Df.make (PySem.W.mg_of X G a_is_fault) l_is_fault g_is_fault k_is_fault fun _ _ _ _ _ _ us hl => match us, hl with | [_], _ => rfl
    d_is_value := Df.make (PySem.W.mg_of X G a_is_value) l_is_value g_is_value k_is_value fun _ _ _ _ _ _ us hl => match us, hl with | [_], _ => rfl
    d_check_value := Df.make (PySem.W.mg_of X G a_check_value) l_check_value g_check_value k_check_value fun _ _ _ _ _ _ us hl => match us, hl with | [_], _ => rfl
    d_datum_text := Df.make (PySem.W.mg_of X G a_datum_text) l_datum_text g_datum_text k_datum_text fun _ _ _ _ _ _ us hl => match us, hl with | [_], _ => rfl
    d_format_value := Df.make (PySem.W.mg_of X G a_format_value) l_format_value g_format_value k_format_value fun _ _ _ _ _ _ us hl => match us, hl with | [_], _ => rfl
    d_read_integer := Df.make (PySem.W.mg_of X G a_read_integer) l_read_integer g_read_integer k_read_integer fun _ _ _ _ _ _ us hl => match us, hl with | [_, _], _ => rfl
    d_read_tuple := Df.make (PySem.W.mg_of X G a_read_tuple) l_read_tuple g_read_tuple k_read_tuple fun _ _ _ _ _ _ us hl => match us, hl with | [_, _, _], _ => rfl
    d_read_datum := Df.make (PySem.W.mg_of X G a_read_datum) l_read_datum g_read_datum k_read_datum fun _ _ _ _ _ _ us hl => match us, hl with | [_, _, _], _ => rfl
    d_parse_value := Df.make (PySem.W.mg_of X G a_parse_value) l_parse_value g_parse_value k_parse_value fun _ _ _ _ _ _ us hl => match us, hl with | [_], _ => rfl
    d_law_pot := Df.make (PySem.W.mg_of X G a_law_pot) l_law_pot g_law_pot k_law_pot fun _ _ _ _ _ _ us hl => match us, hl with | [_, _], _ => rfl
    d_law_digit := Df.make (PySem.W.mg_of X G a_law_digit) l_law_digit g_law_digit k_law_digit fun _ _ _ _ _ _ us hl => match us, hl with | [_, _], _ => rfl
    d_law_pick := Df.make (PySem.W.mg_of X G a_law_pick) l_law_pick g_law_pick k_law_pick fun _ _ _ _ _ _ us hl => match us, hl with | [_, _], _ => rfl
    d_law_int := Df.make (PySem.W.mg_of X G a_law_int) l_law_int g_law_int k_law_int fun _ _ _ _ _ _ us hl => match us, hl with | [_], _ => rfl
    d_law_datum := Df.make (PySem.W.mg_of X G a_law_datum) l_law_datum g_law_datum k_law_datum fun _ _ _ _ _ _ us hl => match us, hl with | [_, _], _ => rfl
    d_law_size := Df.make (PySem.W.mg_of X G a_law_size) l_law_size g_law_size k_law_size fun _ _ _ _ _ _ us hl => match us, hl with | [_], _ => rfl
    d_law_deep := Df.make (PySem.W.mg_of X G a_law_deep) l_law_deep g_law_deep k_law_deep fun _ _ _ _ _ _ us hl => match us, hl with | [_], _ => rfl
    d_law_fits := Df.make (PySem.W.mg_of X G a_law_fits) l_law_fits g_law_fits k_law_fits fun _ _ _ _ _ _ us hl => match us, hl with | [_], _ => rfl
    d_law_text := Df.make (PySem.W.mg_of X G a_law_text) l_law_text g_law_text k_law_text fun _ _ _ _ _ _ us hl => match us, hl with | [_], _ => rfl
    d_law_spoilt := Df.make (PySem.W.mg_of X G a_law_spoilt) l_law_spoilt g_law_spoilt k_law_spoilt fun _ _ _ _ _ _ us hl => match us, hl with | [_, _], _ => rfl
    d_law_fixed := Df.make (PySem.W.mg_of X G a_law_fixed) l_law_fixed g_law_fixed k_law_fixed fun _ _ _ _ _ _ us hl => match us, hl with | [_], _ => rfl
    d_law_words := Df.make (PySem.W.mg_of X G a_law_words) l_law_words g_law_words k_law_words fun _ _ _ _ _ _ us hl => match us, hl with | [_], _ => rfl
    d_law_parts := Df.make (PySem.W.mg_of X G a_law_parts) l_law_parts g_law_parts k_law_parts fun _ _ _ _ _ _ us hl => match us, hl with | [_], _ => rfl
    d_law_read := Df.make (PySem.W.mg_of X G a_law_read) l_law_read g_law_read k_law_read fun _ _ _ _ _ _ us hl => match us, hl with | [_, _], _ => rfl
    d_law_due := Df.make (PySem.W.mg_of X G a_law_due) l_law_due g_law_due k_law_due fun _ _ _ _ _ _ us hl => match us, hl with | [_], _ => rfl
    d_law_told := Df.make (PySem.W.mg_of X G a_law_told) l_law_told g_law_told k_law_told fun _ _ _ _ _ _ us hl => match us, hl with | [_], _ => rfl
    d_law_right := Df.make (PySem.W.mg_of X G a_law_right) l_law_right g_law_right k_law_right fun _ _ _ _ _ _ us hl => match us, hl with | [_], _ => rfl
    d_law := Df.make (PySem.W.mg_of X G a_law) l_law g_law k_law fun _ _ _ _ _ _ us hl => match us, hl with | [_], _ => rfl
    m_InvalidValue := by rw [fA_eq (PySem.W.mg_of X G a_InvalidValue)]; exact PySem.W.mg_of X G a_InvalidValue
    m_SessionError := by rw [fA_eq (PySem.W.mg_of X G a_SessionError)]; exact PySem.W.mg_of X G a_SessionError
    m_InvalidText := by rw [fA_eq (PySem.W.mg_of X G a_InvalidText)]; exact PySem.W.mg_of X G a_InvalidText
    m_InvalidCommand := by rw [fA_eq (PySem.W.mg_of X G a_InvalidCommand)]; exact PySem.W.mg_of X G a_InvalidCommand
    m_InvalidExpression := by rw [fA_eq (PySem.W.mg_of X G a_InvalidExpression)]; exact PySem.W.mg_of X G a_InvalidExpression
    m_LimitError := by rw [fA_eq (PySem.W.mg_of X G a_LimitError)]; exact PySem.W.mg_of X G a_LimitError
    m_MissingError := by rw [fA_eq (PySem.W.mg_of X G a_MissingError)]; exact PySem.W.mg_of X G a_MissingError
    m_StateError := by rw [fA_eq (PySem.W.mg_of X G a_StateError)]; exact PySem.W.mg_of X G a_StateError
    k_InvalidValue := xd_mk (PySem.W.mg_of X G a_InvalidValue) k1_InvalidValue k2_InvalidValue k3_InvalidValue k4_InvalidValue k5_InvalidValue k6_InvalidValue k7_InvalidValue k8_InvalidValue k9_InvalidValue ka_InvalidValue kb_InvalidValue kc_InvalidValue fun _ _ _ _ _ _ us hl => match us, hl with | [_, _], _ => rfl
    f_InvalidValue_value := by rw [fA_eq (PySem.W.mg_of X G a_InvalidValue)]; exact f_InvalidValue_value
    g_InvalidValue_value := by rw [fA_eq (PySem.W.mg_of X G a_InvalidValue)]; exact g_InvalidValue_value
    x_InvalidValue := by rw [fA_eq (PySem.W.mg_of X G a_InvalidValue)]; exact ⟨x1_InvalidValue, x2_InvalidValue, k5_InvalidValue, k3_InvalidValue, x3_InvalidValue, x5_exc, x6_exc, x4_InvalidValue⟩
    v_InvalidValue := by rw [fA_eq (PySem.W.mg_of X G a_InvalidValue)]; exact ⟨x1_InvalidValue, x2_InvalidValue, k5_InvalidValue, k3_InvalidValue⟩
    e_InvalidValue_SessionError := by rw [fA_eq (PySem.W.mg_of X G a_InvalidValue), fA_eq (PySem.W.mg_of X G a_SessionError)]; exact kit_exm (kit_own iy_SessionError ty_SessionError s_InvalidValue_SessionError) by_SessionError
    q_InvalidValue_InvalidText := by rw [fA_eq (PySem.W.mg_of X G a_InvalidValue), fA_eq (PySem.W.mg_of X G a_InvalidText)]; exact (kit_one (kit_own iy_InvalidText ty_InvalidText s_InvalidValue_InvalidText) z_InvalidValue s_InvalidValue_InvalidText)
    q_InvalidValue_ValueError := by rw [fA_eq (PySem.W.mg_of X G a_InvalidValue)]; exact (kit_one (kit_bi (by decide +kernel) s_InvalidValue_ValueError) z_InvalidValue s_InvalidValue_ValueError)
    q_InvalidValue_InvalidCommand_InvalidExpression_InvalidValue := by rw [fA_eq (PySem.W.mg_of X G a_InvalidValue), fA_eq (PySem.W.mg_of X G a_InvalidCommand), fA_eq (PySem.W.mg_of X G a_InvalidExpression)]; exact (any_f (kit_one (kit_own iy_InvalidCommand ty_InvalidCommand s_InvalidValue_InvalidCommand) z_InvalidValue s_InvalidValue_InvalidCommand) (any_f (kit_one (kit_own iy_InvalidExpression ty_InvalidExpression s_InvalidValue_InvalidExpression) z_InvalidValue s_InvalidValue_InvalidExpression) (any_t (kit_one (kit_own iy_InvalidValue ty_InvalidValue s_InvalidValue_InvalidValue) z_InvalidValue s_InvalidValue_InvalidValue))))
    q_InvalidValue_LimitError_MissingError_StateError := by rw [fA_eq (PySem.W.mg_of X G a_InvalidValue), fA_eq (PySem.W.mg_of X G a_LimitError), fA_eq (PySem.W.mg_of X G a_MissingError), fA_eq (PySem.W.mg_of X G a_StateError)]; exact (any_f (kit_one (kit_own iy_LimitError ty_LimitError s_InvalidValue_LimitError) z_InvalidValue s_InvalidValue_LimitError) (any_f (kit_one (kit_own iy_MissingError ty_MissingError s_InvalidValue_MissingError) z_InvalidValue s_InvalidValue_MissingError) (any_f (kit_one (kit_own iy_StateError ty_StateError s_InvalidValue_StateError) z_InvalidValue s_InvalidValue_StateError) any_0)))
    k_InvalidText := xd_mk (PySem.W.mg_of X G a_InvalidText) k1_InvalidText k2_InvalidText k3_InvalidText k4_InvalidText k5_InvalidText k6_InvalidText k7_InvalidText k8_InvalidText k9_InvalidText ka_InvalidText kb_InvalidText kc_InvalidText fun _ _ _ _ _ _ us hl => match us, hl with | [_, _], _ => rfl
    f_InvalidText_line := by rw [fA_eq (PySem.W.mg_of X G a_InvalidText)]; exact f_InvalidText_line
    g_InvalidText_line := by rw [fA_eq (PySem.W.mg_of X G a_InvalidText)]; exact g_InvalidText_line
    x_InvalidText := by rw [fA_eq (PySem.W.mg_of X G a_InvalidText)]; exact ⟨x1_InvalidText, x2_InvalidText, k5_InvalidText, k3_InvalidText, x3_InvalidText, x5_exc, x6_exc, x4_InvalidText⟩
    v_InvalidText := by rw [fA_eq (PySem.W.mg_of X G a_InvalidText)]; exact ⟨x1_InvalidText, x2_InvalidText, k5_InvalidText, k3_InvalidText⟩
    e_InvalidText_SessionError := by rw [fA_eq (PySem.W.mg_of X G a_InvalidText), fA_eq (PySem.W.mg_of X G a_SessionError)]; exact kit_exm (kit_own iy_SessionError ty_SessionError s_InvalidText_SessionError) by_SessionError
    q_InvalidText_InvalidText := by rw [fA_eq (PySem.W.mg_of X G a_InvalidText)]; exact (kit_one (kit_own iy_InvalidText ty_InvalidText s_InvalidText_InvalidText) z_InvalidText s_InvalidText_InvalidText)
    q_InvalidText_ValueError := by rw [fA_eq (PySem.W.mg_of X G a_InvalidText)]; exact (kit_one (kit_bi (by decide +kernel) s_InvalidText_ValueError) z_InvalidText s_InvalidText_ValueError)
    q_InvalidText_InvalidCommand_InvalidExpression_InvalidValue := by rw [fA_eq (PySem.W.mg_of X G a_InvalidText), fA_eq (PySem.W.mg_of X G a_InvalidCommand), fA_eq (PySem.W.mg_of X G a_InvalidExpression), fA_eq (PySem.W.mg_of X G a_InvalidValue)]; exact (any_f (kit_one (kit_own iy_InvalidCommand ty_InvalidCommand s_InvalidText_InvalidCommand) z_InvalidText s_InvalidText_InvalidCommand) (any_f (kit_one (kit_own iy_InvalidExpression ty_InvalidExpression s_InvalidText_InvalidExpression) z_InvalidText s_InvalidText_InvalidExpression) (any_f (kit_one (kit_own iy_InvalidValue ty_InvalidValue s_InvalidText_InvalidValue) z_InvalidText s_InvalidText_InvalidValue) any_0)))
    q_InvalidText_LimitError_MissingError_StateError := by rw [fA_eq (PySem.W.mg_of X G a_InvalidText), fA_eq (PySem.W.mg_of X G a_LimitError), fA_eq (PySem.W.mg_of X G a_MissingError), fA_eq (PySem.W.mg_of X G a_StateError)]; exact (any_f (kit_one (kit_own iy_LimitError ty_LimitError s_InvalidText_LimitError) z_InvalidText s_InvalidText_LimitError) (any_f (kit_one (kit_own iy_MissingError ty_MissingError s_InvalidText_MissingError) z_InvalidText s_InvalidText_MissingError) (any_f (kit_one (kit_own iy_StateError ty_StateError s_InvalidText_StateError) z_InvalidText s_InvalidText_StateError) any_0)))
    n_SessionError := by rw [fA_eq (PySem.W.mg_of X G a_SessionError)]; exact ⟨PySem.W.mg_of X G a_SessionError, b1_SessionError, b2_SessionError, b3_SessionError⟩ }

end My
end

section
set_option Elab.async false
set_option linter.all false
set_option maxRecDepth 100000
set_option maxHeartbeats 4000000
open PySem PySem.W PyProof.Rows
set_option maxHeartbeats 0 in
theorem PySem.Challenge.cw_leastsession_k12_texts_read_holds : PySem.Challenge.rw_leastsession_k12_texts_read.Holds := by
  w_on; o_law; k_head; (case hw => w_witness2)
  k_fill
  refine Ls.walk_gT (l := PySem.Challenge.rw_leastsession_k12_texts_read) (n := 63) (k := 20) (x := "_law_script") (st := My.s_law) (sp := fun K mg => My.sp_law K mg) (nms := ["_law_right"]) rfl (by decide) rfl ⟨rfl, by decide, by decide⟩ (by decide +kernel) (fun w h Y => by first | exact PySem.W.km_in_of Y | exact PySem.W.kIn_of Y) ?T ?F (fun K mg H a ns hn ht hS => Ls.lawT_start K mg H a ns hn ht hS)
  case T =>
    intro w mg h KX G y hy
    repeat' (first | (obtain ⟨⟩ := hy; done) | rcases List.mem_cons.mp hy with rfl | hy)
    all_goals
      refine' Ls.tb_mk (PySem.W.mg_of KX G ?a) ?l ?fc ?lc ?fv ?fn
      (case a => k_is)
      (case l => k_is)
      (case fc => exact rfl)
      (case lc => k_is)
      (case fv => exact rfl)
      (case fn => kernel_rfl)
  case F =>
    intro w mg fa h KX G hmg TB base hb1 hb2 hb3 nd
    refine My.all_ok nd ?T TB hb3
    refine' My.tx_mk (w := w) KX G ?z_ValueError ?z_abs ?z_all ?z_bool ?z_divmod ?z_int ?z_isinstance ?z_len ?z_max ?z_min ?z_range ?z_repr ?z_str ?z_sum ?z_tuple ?y_FAULT ?y_MOST_ITEMS ?y_MOST_DEPTH ?y_MOST_SIZE ?y_DIGITS ?a_is_int ?l_is_int ?g_is_int ?k_is_int ?a_is_nested ?l_is_nested ?g_is_nested ?k_is_nested ?a_depth_of ?l_depth_of ?g_depth_of ?k_depth_of ?a_datum_size ?l_datum_size ?g_datum_size ?k_datum_size ?a_is_datum ?l_is_datum ?g_is_datum ?k_is_datum ?a_is_fault ?l_is_fault ?g_is_fault ?k_is_fault ?a_is_value ?l_is_value ?g_is_value ?k_is_value ?a_check_value ?l_check_value ?g_check_value ?k_check_value ?a_datum_text ?l_datum_text ?g_datum_text ?k_datum_text ?a_format_value ?l_format_value ?g_format_value ?k_format_value ?a_read_integer ?l_read_integer ?g_read_integer ?k_read_integer ?a_read_tuple ?l_read_tuple ?g_read_tuple ?k_read_tuple ?a_read_datum ?l_read_datum ?g_read_datum ?k_read_datum ?a_parse_value ?l_parse_value ?g_parse_value ?k_parse_value ?a_law_pot ?l_law_pot ?g_law_pot ?k_law_pot ?a_law_digit ?l_law_digit ?g_law_digit ?k_law_digit ?a_law_pick ?l_law_pick ?g_law_pick ?k_law_pick ?a_law_int ?l_law_int ?g_law_int ?k_law_int ?a_law_datum ?l_law_datum ?g_law_datum ?k_law_datum ?a_law_size ?l_law_size ?g_law_size ?k_law_size ?a_law_deep ?l_law_deep ?g_law_deep ?k_law_deep ?a_law_fits ?l_law_fits ?g_law_fits ?k_law_fits ?a_law_text ?l_law_text ?g_law_text ?k_law_text ?a_law_spoilt ?l_law_spoilt ?g_law_spoilt ?k_law_spoilt ?a_law_fixed ?l_law_fixed ?g_law_fixed ?k_law_fixed ?a_law_words ?l_law_words ?g_law_words ?k_law_words ?a_law_parts ?l_law_parts ?g_law_parts ?k_law_parts ?a_law_read ?l_law_read ?g_law_read ?k_law_read ?a_law_due ?l_law_due ?g_law_due ?k_law_due ?a_law_told ?l_law_told ?g_law_told ?k_law_told ?a_law_right ?l_law_right ?g_law_right ?k_law_right ?a_law ?l_law ?g_law ?k_law ?a_InvalidValue ?a_SessionError ?a_InvalidText ?a_InvalidCommand ?a_InvalidExpression ?a_LimitError ?a_MissingError ?a_StateError ?k1_InvalidValue ?k2_InvalidValue ?k3_InvalidValue ?k4_InvalidValue ?k5_InvalidValue ?k6_InvalidValue ?k7_InvalidValue ?k8_InvalidValue ?k9_InvalidValue ?ka_InvalidValue ?kb_InvalidValue ?kc_InvalidValue ?f_InvalidValue_value ?g_InvalidValue_value ?x1_InvalidValue ?x2_InvalidValue ?x3_InvalidValue ?x4_InvalidValue ?z_InvalidValue ?s_InvalidValue_SessionError ?s_InvalidValue_InvalidText ?s_InvalidValue_ValueError ?s_InvalidValue_InvalidCommand ?s_InvalidValue_InvalidExpression ?s_InvalidValue_InvalidValue ?s_InvalidValue_LimitError ?s_InvalidValue_MissingError ?s_InvalidValue_StateError ?k1_InvalidText ?k2_InvalidText ?k3_InvalidText ?k4_InvalidText ?k5_InvalidText ?k6_InvalidText ?k7_InvalidText ?k8_InvalidText ?k9_InvalidText ?ka_InvalidText ?kb_InvalidText ?kc_InvalidText ?f_InvalidText_line ?g_InvalidText_line ?x1_InvalidText ?x2_InvalidText ?x3_InvalidText ?x4_InvalidText ?z_InvalidText ?s_InvalidText_SessionError ?s_InvalidText_InvalidText ?s_InvalidText_ValueError ?s_InvalidText_InvalidCommand ?s_InvalidText_InvalidExpression ?s_InvalidText_InvalidValue ?s_InvalidText_LimitError ?s_InvalidText_MissingError ?s_InvalidText_StateError ?iy_SessionError ?ty_SessionError ?by_SessionError ?iy_InvalidText ?ty_InvalidText ?by_InvalidText ?iy_InvalidCommand ?ty_InvalidCommand ?by_InvalidCommand ?iy_InvalidExpression ?ty_InvalidExpression ?by_InvalidExpression ?iy_InvalidValue ?ty_InvalidValue ?by_InvalidValue ?iy_LimitError ?ty_LimitError ?by_LimitError ?iy_MissingError ?ty_MissingError ?by_MissingError ?iy_StateError ?ty_StateError ?by_StateError ?x5_exc ?x6_exc ?b1_SessionError ?b2_SessionError ?b3_SessionError
    (case z_ValueError => first | k_is | kx_is)
    (case z_abs => first | k_is | kx_is)
    (case z_all => first | k_is | kx_is)
    (case z_bool => first | k_is | kx_is)
    (case z_divmod => first | k_is | kx_is)
    (case z_int => first | k_is | kx_is)
    (case z_isinstance => first | k_is | kx_is)
    (case z_len => first | k_is | kx_is)
    (case z_max => first | k_is | kx_is)
    (case z_min => first | k_is | kx_is)
    (case z_range => first | k_is | kx_is)
    (case z_repr => first | k_is | kx_is)
    (case z_str => first | k_is | kx_is)
    (case z_sum => first | k_is | kx_is)
    (case z_tuple => first | k_is | kx_is)
    (case y_FAULT => first | k_is | kx_is)
    (case y_MOST_ITEMS => first | k_is | kx_is)
    (case y_MOST_DEPTH => first | k_is | kx_is)
    (case y_MOST_SIZE => first | k_is | kx_is)
    (case y_DIGITS => first | k_is | kx_is)
    (case a_is_int => first | k_is | kx_is)
    (case l_is_int => first | k_is | kx_is)
    (case g_is_int => first | k_is | kx_is)
    (case k_is_int => first | k_is | kx_is)
    (case a_is_nested => first | k_is | kx_is)
    (case l_is_nested => first | k_is | kx_is)
    (case g_is_nested => first | k_is | kx_is)
    (case k_is_nested => first | k_is | kx_is)
    (case a_depth_of => first | k_is | kx_is)
    (case l_depth_of => first | k_is | kx_is)
    (case g_depth_of => first | k_is | kx_is)
    (case k_depth_of => first | k_is | kx_is)
    (case a_datum_size => first | k_is | kx_is)
    (case l_datum_size => first | k_is | kx_is)
    (case g_datum_size => first | k_is | kx_is)
    (case k_datum_size => first | k_is | kx_is)
    (case a_is_datum => first | k_is | kx_is)
    (case l_is_datum => first | k_is | kx_is)
    (case g_is_datum => first | k_is | kx_is)
    (case k_is_datum => first | k_is | kx_is)
    (case a_is_fault => first | k_is | kx_is)
    (case l_is_fault => first | k_is | kx_is)
    (case g_is_fault => first | k_is | kx_is)
    (case k_is_fault => first | k_is | kx_is)
    (case a_is_value => first | k_is | kx_is)
    (case l_is_value => first | k_is | kx_is)
    (case g_is_value => first | k_is | kx_is)
    (case k_is_value => first | k_is | kx_is)
    (case a_check_value => first | k_is | kx_is)
    (case l_check_value => first | k_is | kx_is)
    (case g_check_value => first | k_is | kx_is)
    (case k_check_value => first | k_is | kx_is)
    (case a_datum_text => first | k_is | kx_is)
    (case l_datum_text => first | k_is | kx_is)
    (case g_datum_text => first | k_is | kx_is)
    (case k_datum_text => first | k_is | kx_is)
    (case a_format_value => first | k_is | kx_is)
    (case l_format_value => first | k_is | kx_is)
    (case g_format_value => first | k_is | kx_is)
    (case k_format_value => first | k_is | kx_is)
    (case a_read_integer => first | k_is | kx_is)
    (case l_read_integer => first | k_is | kx_is)
    (case g_read_integer => first | k_is | kx_is)
    (case k_read_integer => first | k_is | kx_is)
    (case a_read_tuple => first | k_is | kx_is)
    (case l_read_tuple => first | k_is | kx_is)
    (case g_read_tuple => first | k_is | kx_is)
    (case k_read_tuple => first | k_is | kx_is)
    (case a_read_datum => first | k_is | kx_is)
    (case l_read_datum => first | k_is | kx_is)
    (case g_read_datum => first | k_is | kx_is)
    (case k_read_datum => first | k_is | kx_is)
    (case a_parse_value => first | k_is | kx_is)
    (case l_parse_value => first | k_is | kx_is)
    (case g_parse_value => first | k_is | kx_is)
    (case k_parse_value => first | k_is | kx_is)
    (case a_law_pot => first | k_is | kx_is)
    (case l_law_pot => first | k_is | kx_is)
    (case g_law_pot => first | k_is | kx_is)
    (case k_law_pot => first | k_is | kx_is)
    (case a_law_digit => first | k_is | kx_is)
    (case l_law_digit => first | k_is | kx_is)
    (case g_law_digit => first | k_is | kx_is)
    (case k_law_digit => first | k_is | kx_is)
    (case a_law_pick => first | k_is | kx_is)
    (case l_law_pick => first | k_is | kx_is)
    (case g_law_pick => first | k_is | kx_is)
    (case k_law_pick => first | k_is | kx_is)
    (case a_law_int => first | k_is | kx_is)
    (case l_law_int => first | k_is | kx_is)
    (case g_law_int => first | k_is | kx_is)
    (case k_law_int => first | k_is | kx_is)
    (case a_law_datum => first | k_is | kx_is)
    (case l_law_datum => first | k_is | kx_is)
    (case g_law_datum => first | k_is | kx_is)
    (case k_law_datum => first | k_is | kx_is)
    (case a_law_size => first | k_is | kx_is)
    (case l_law_size => first | k_is | kx_is)
    (case g_law_size => first | k_is | kx_is)
    (case k_law_size => first | k_is | kx_is)
    (case a_law_deep => first | k_is | kx_is)
    (case l_law_deep => first | k_is | kx_is)
    (case g_law_deep => first | k_is | kx_is)
    (case k_law_deep => first | k_is | kx_is)
    (case a_law_fits => first | k_is | kx_is)
    (case l_law_fits => first | k_is | kx_is)
    (case g_law_fits => first | k_is | kx_is)
    (case k_law_fits => first | k_is | kx_is)
    (case a_law_text => first | k_is | kx_is)
    (case l_law_text => first | k_is | kx_is)
    (case g_law_text => first | k_is | kx_is)
    (case k_law_text => first | k_is | kx_is)
    (case a_law_spoilt => first | k_is | kx_is)
    (case l_law_spoilt => first | k_is | kx_is)
    (case g_law_spoilt => first | k_is | kx_is)
    (case k_law_spoilt => first | k_is | kx_is)
    (case a_law_fixed => first | k_is | kx_is)
    (case l_law_fixed => first | k_is | kx_is)
    (case g_law_fixed => first | k_is | kx_is)
    (case k_law_fixed => first | k_is | kx_is)
    (case a_law_words => first | k_is | kx_is)
    (case l_law_words => first | k_is | kx_is)
    (case g_law_words => first | k_is | kx_is)
    (case k_law_words => first | k_is | kx_is)
    (case a_law_parts => first | k_is | kx_is)
    (case l_law_parts => first | k_is | kx_is)
    (case g_law_parts => first | k_is | kx_is)
    (case k_law_parts => first | k_is | kx_is)
    (case a_law_read => first | k_is | kx_is)
    (case l_law_read => first | k_is | kx_is)
    (case g_law_read => first | k_is | kx_is)
    (case k_law_read => first | k_is | kx_is)
    (case a_law_due => first | k_is | kx_is)
    (case l_law_due => first | k_is | kx_is)
    (case g_law_due => first | k_is | kx_is)
    (case k_law_due => first | k_is | kx_is)
    (case a_law_told => first | k_is | kx_is)
    (case l_law_told => first | k_is | kx_is)
    (case g_law_told => first | k_is | kx_is)
    (case k_law_told => first | k_is | kx_is)
    (case a_law_right => first | k_is | kx_is)
    (case l_law_right => first | k_is | kx_is)
    (case g_law_right => first | k_is | kx_is)
    (case k_law_right => first | k_is | kx_is)
    (case a_law => first | k_is | kx_is)
    (case l_law => first | k_is | kx_is)
    (case g_law => first | k_is | kx_is)
    (case k_law => first | k_is | kx_is)
    (case a_InvalidValue => first | k_is | kx_is)
    (case a_SessionError => first | k_is | kx_is)
    (case a_InvalidText => first | k_is | kx_is)
    (case a_InvalidCommand => first | k_is | kx_is)
    (case a_InvalidExpression => first | k_is | kx_is)
    (case a_LimitError => first | k_is | kx_is)
    (case a_MissingError => first | k_is | kx_is)
    (case a_StateError => first | k_is | kx_is)
    (case k1_InvalidValue => first | k_is | kx_is)
    (case k2_InvalidValue => first | k_is | kx_is)
    (case k3_InvalidValue => first | k_is | kx_is)
    (case k4_InvalidValue => first | k_is | kx_is)
    (case k5_InvalidValue => first | k_is | kx_is)
    (case k6_InvalidValue => first | k_is | kx_is)
    (case k7_InvalidValue => first | k_is | kx_is)
    (case k8_InvalidValue => first | k_is | kx_is)
    (case k9_InvalidValue => first | k_is | kx_is)
    (case ka_InvalidValue => first | k_is | kx_is)
    (case kb_InvalidValue => first | k_is | kx_is)
    (case kc_InvalidValue => first | k_is | kx_is)
    (case f_InvalidValue_value => first | k_is | kx_is)
    (case g_InvalidValue_value => first | k_is | kx_is)
    (case x1_InvalidValue => first | k_is | kx_is)
    (case x2_InvalidValue => first | k_is | kx_is)
    (case x3_InvalidValue => first | k_is | kx_is)
    (case x4_InvalidValue => first | k_is | kx_is)
    (case z_InvalidValue => first | k_is | kx_is)
    (case s_InvalidValue_SessionError => first | k_is | kx_is)
    (case s_InvalidValue_InvalidText => first | k_is | kx_is)
    (case s_InvalidValue_ValueError => first | k_is | kx_is)
    (case s_InvalidValue_InvalidCommand => first | k_is | kx_is)
    (case s_InvalidValue_InvalidExpression => first | k_is | kx_is)
    (case s_InvalidValue_InvalidValue => first | k_is | kx_is)
    (case s_InvalidValue_LimitError => first | k_is | kx_is)
    (case s_InvalidValue_MissingError => first | k_is | kx_is)
    (case s_InvalidValue_StateError => first | k_is | kx_is)
    (case k1_InvalidText => first | k_is | kx_is)
    (case k2_InvalidText => first | k_is | kx_is)
    (case k3_InvalidText => first | k_is | kx_is)
    (case k4_InvalidText => first | k_is | kx_is)
    (case k5_InvalidText => first | k_is | kx_is)
    (case k6_InvalidText => first | k_is | kx_is)
    (case k7_InvalidText => first | k_is | kx_is)
    (case k8_InvalidText => first | k_is | kx_is)
    (case k9_InvalidText => first | k_is | kx_is)
    (case ka_InvalidText => first | k_is | kx_is)
    (case kb_InvalidText => first | k_is | kx_is)
    (case kc_InvalidText => first | k_is | kx_is)
    (case f_InvalidText_line => first | k_is | kx_is)
    (case g_InvalidText_line => first | k_is | kx_is)
    (case x1_InvalidText => first | k_is | kx_is)
    (case x2_InvalidText => first | k_is | kx_is)
    (case x3_InvalidText => first | k_is | kx_is)
    (case x4_InvalidText => first | k_is | kx_is)
    (case z_InvalidText => first | k_is | kx_is)
    (case s_InvalidText_SessionError => first | k_is | kx_is)
    (case s_InvalidText_InvalidText => first | k_is | kx_is)
    (case s_InvalidText_ValueError => first | k_is | kx_is)
    (case s_InvalidText_InvalidCommand => first | k_is | kx_is)
    (case s_InvalidText_InvalidExpression => first | k_is | kx_is)
    (case s_InvalidText_InvalidValue => first | k_is | kx_is)
    (case s_InvalidText_LimitError => first | k_is | kx_is)
    (case s_InvalidText_MissingError => first | k_is | kx_is)
    (case s_InvalidText_StateError => first | k_is | kx_is)
    (case iy_SessionError => first | k_is | kx_is)
    (case ty_SessionError => first | k_is | kx_is)
    (case by_SessionError => first | k_is | kx_is)
    (case iy_InvalidText => first | k_is | kx_is)
    (case ty_InvalidText => first | k_is | kx_is)
    (case by_InvalidText => first | k_is | kx_is)
    (case iy_InvalidCommand => first | k_is | kx_is)
    (case ty_InvalidCommand => first | k_is | kx_is)
    (case by_InvalidCommand => first | k_is | kx_is)
    (case iy_InvalidExpression => first | k_is | kx_is)
    (case ty_InvalidExpression => first | k_is | kx_is)
    (case by_InvalidExpression => first | k_is | kx_is)
    (case iy_InvalidValue => first | k_is | kx_is)
    (case ty_InvalidValue => first | k_is | kx_is)
    (case by_InvalidValue => first | k_is | kx_is)
    (case iy_LimitError => first | k_is | kx_is)
    (case ty_LimitError => first | k_is | kx_is)
    (case by_LimitError => first | k_is | kx_is)
    (case iy_MissingError => first | k_is | kx_is)
    (case ty_MissingError => first | k_is | kx_is)
    (case by_MissingError => first | k_is | kx_is)
    (case iy_StateError => first | k_is | kx_is)
    (case ty_StateError => first | k_is | kx_is)
    (case by_StateError => first | k_is | kx_is)
    (case x5_exc => first | k_is | kx_is)
    (case x6_exc => first | k_is | kx_is)
    (case b1_SessionError => first | k_is | kx_is)
    (case b2_SessionError => first | k_is | kx_is)
    (case b3_SessionError => first | k_is | kx_is)
end
