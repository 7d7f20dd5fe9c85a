import PyProof.Rows.All
import Wide.All
import OpenK.AllK
import Wide.FinOn
import HandS.ForMost
import HandS.Exc
import HandS.ExcOwn
import HandS.TryOnly
import HandS.TryMany
import HandS.Lambda
import HandS.IsInst
import HandS.Flow
import HandS.Style
import HandS.TupAny
import HandS.Wide
import HandS.Codes
import HandS.TupMul
import HandS.SortKw
import KE.DatumOrd
import HandS.Comp
import KE.GoesEnum
import HandS.Iter
import HandS.Walk
import HandS.ExcInit
import KE.KExcInit
import HandS.ExcIs
import HandS.ExcField
import KE.KExcLine
import PySem.Challenge.RW_leastsession_k10_values_judged
section
set_option Elab.async false
set_option linter.all false
set_option maxRecDepth 100000
set_option maxHeartbeats 4000000
namespace Ls
open PySem PySem.Spec PyProof.Rows L2

/-- there is room, and no repr runs around -/
structure RoomG (k : Nat) (A : Around) : Prop where
  rm : Room k A
  gd : A.guards = some []
theorem RoomG.mono {j k : Nat} {A : Around} (r : RoomG k A) (h : j ≤ k) : RoomG j A := ⟨r.rm.mono h, r.gd⟩

/-- the promise of a def, kept where no repr is under way -/
structure FnG (P : Program) (w : World) (K : PySem.W.Frag) (mg : Str → Option Value) (base : Heap) (k : Nat) (f : Addr) (fd : FuncData) (ps : List Str) (sp : Sp) : Prop where
  len : ∀ vs H Q E, sp vs H Q E → vs.length = ps.length
  run : ∀ (A : Around) (outer : List Env) (s : Shared) (H : Hp) (args : Args) (us : List Value) (vs : List V) (Q : VK) (E : XK), RoomG k A →
    Env0 P w K mg base A outer s H → BindsTo s fd args (ps.zip us) → Vals vs us → sp vs H Q E →
    codeAny (model P w) A (.call (.ref f) args) (CR (L2.CX P w) outer P w H s Q E) s

/-- what the top has written of one def: its name, its statement, its parameters -/
structure Df (K : PySem.W.Frag) (mg : Str → Option Value) (x : Str) (st : Stmt) (ps : List Str) : Prop where
  ex : ∃ (f : Addr) (fd : FuncData), Fun K x x st f fd ∧ mg x = some (.ref f) ∧ ∀ (us : List Value), us.length = ps.length → bindArgs fd ⟨us, []⟩ = pure (ps.zip us)
/-- a module's name that stands for a def with this promise -/
structure Cal (P : Program) (w : World) (K : PySem.W.Frag) (mg : Str → Option Value) (base : Heap) (k : Nat) (x : Str) (st : Stmt) (ps : List Str) (sp : Sp) : Prop where
  ex : ∃ (f : Addr) (fd : FuncData), FnG P w K mg base k f fd ps sp ∧ mg x = some (.ref f) ∧ Fun K x x st f fd ∧ ∀ (us : List Value), us.length = ps.length → bindArgs fd ⟨us, []⟩ = pure (ps.zip us)

section
variable {P : Program} {w : World} {K : PySem.W.Frag} {mg : Str → Option Value} {base : Heap} {x : Str} {st : Stmt} {ps : List Str}
theorem Cal.imp {k : Nat} {sp sp' : Sp} (c : Cal P w K mg base k x st ps sp) (h : ∀ vs H Q E, sp' vs H Q E → sp vs H Q E) : Cal P w K mg base k x st ps sp' := by
  obtain ⟨f, fd, F, a, b, d⟩ := c.ex
  exact ⟨f, fd, ⟨fun vs H Q E q => F.len vs H Q E (h _ _ _ _ q), fun A outer s H args us vs Q E hr he hb hv hs => F.run A outer s H args us vs Q E hr he hb hv (h _ _ _ _ hs)⟩, a, b, d⟩
theorem Df.make {f : Addr} {oc : Value} {od an : Option Addr} {osl : Array (Option Value)} {kV doc pm cdv ct : Value}
    (g : mg x = some (.ref f)) (l : K.lookup f = some ⟨oc, od, .func (PySem.W.fnOf x x (defArgs st) (defBody st) (defScope st) .none kV doc pm an cdv ct), osl⟩)
    (c : PySem.W.codeIn K cdv x = true) (k : PySem.W.keepIn K (.ref f) = true)
    (h : ∀ (kV doc pm : Value) (an : Option Addr) (cdv ct : Value) (us : List Value), us.length = ps.length → bindArgs (PySem.W.fnOf x x (defArgs st) (defBody st) (defScope st) .none kV doc pm an cdv ct) ⟨us, []⟩ = pure (ps.zip us)) : Df K mg x st ps :=
  ⟨f, _, fun_mk l c k, g, h kV doc pm an cdv ct⟩

/-- a def keeps its promise: its body as a term of rules, and the reading of that term -/
theorem Df.ok {N : List Str} {k : Nat} {sp : Sp} (D : Df K mg x st ps) (S : FnScope N ps (defScope st)) (len : ∀ vs H Q E, sp vs H Q E → vs.length = ps.length)
    (body : ∀ (f : Addr) (cdv : Value) (A : Around) (outer : List Env) (s : Shared) (H : Hp) (vs : List V) (Q : VK) (E : XK), RoomG k (A.deeper (envOfC x (defScope st) s.heap.objs.size f cdv)) → sp vs H Q E →
      ∃ t, PSs (cxOf (L2.CX P w) P w K mg base N x (defScope st) f cdv A outer s H E) (defBody st) t ∧ t { nx := fun _ H' => Q .non H', rt := Q } (start N vs) H) : Cal P w K mg base (k + 1) x st ps sp := by
  obtain ⟨f, fd, F, g, b⟩ := D.ex
  obtain ⟨oc, od, kV, doc, pm, an, cdv, ct, osl, rfl, lk, hcd⟩ := F.ex
  refine ⟨f, _, ⟨len, fun A outer s H args us vs Q E hr e0 hb r hsp => ?_⟩, g, F, b⟩
  exact LamX.run_ofS lk hcd S hr.rm e0 hb r (len _ _ _ _ hsp) fun hr' => body f cdv A outer s H vs Q E ⟨hr', hr.gd⟩ hsp
end

/-- a promise that is never asked for -/
theorem Df.never {P : Program} {w : World} {K : PySem.W.Frag} {mg : Str → Option Value} {base : Heap} {x : Str} {st : Stmt} {ps : List Str} {sp : Sp} (D : Df K mg x st ps) (h : ∀ vs H Q E, ¬ sp vs H Q E) : Cal P w K mg base 0 x st ps sp := by
  obtain ⟨f, fd, F, g, b⟩ := D.ex
  exact ⟨f, fd, ⟨fun vs H Q E q => absurd q (h vs H Q E), fun A outer s H args us vs Q E _ _ _ _ q => absurd q (h vs H Q E)⟩, g, F, b⟩
theorem Cal.up {P : Program} {w : World} {K : PySem.W.Frag} {mg : Str → Option Value} {base : Heap} {x : Str} {st : Stmt} {ps : List Str} {sp : Sp} {j k : Nat} (C : Cal P w K mg base j x st ps sp) (h : j ≤ k) : Cal P w K mg base k x st ps sp := by
  obtain ⟨f, fd, F, g, b⟩ := C.ex
  exact ⟨f, fd, ⟨F.len, fun A outer s H args us vs Q E hr => F.run A outer s H args us vs Q E (hr.mono h)⟩, g, b⟩
/-- x(e, ..): the values, then the promise; E: the wish about exceptions -/
def tCal (sp : Sp) (E : XK) (t : TA) : TE := fun σ H Q => t σ H fun vs H1 => sp vs H1 Q E
/-- keywords: perm brings the written order into the parameters' -/
def tCalK (sp : Sp) (E : XK) (perm : List V → List V) (t : TA) : TE := fun σ H Q => t σ H fun vs H1 => sp (perm vs) H1 Q E
section
variable {X : Cx} {k : Nat} {ps : List Str} {st : Stmt} {sp : Sp} {E : XK} {x : Str} {p pos : Pos} {e : Expr} {es : List Expr} {t : TA}
/-- the callee runs; args: how the values come (positions, keywords), us: in the parameters' order -/
theorem run_g {pins : List (Addr × Obj)} {σ : L2.St} {H : Hp} {s : Shared} {Q : VK} {args : Args} {us : List Value} {vs : List V} {f : Addr} {fd : FuncData}
    (F : FnG X.prog X.w X.K X.mg X.base k f fd ps sp) (hr : RoomG k X.A) (hb : BindsTo s fd args (ps.zip us)) (hx : Passes (L2.CX X.prog X.w) X E)
    (I : Inv X pins σ H s) (r : Vals vs us) (h : sp vs H Q E) : codeAny (model X.prog X.w) X.A (.call (.ref f) args) (fun r s' => match r with | .ok (.ret u) => EP X pins σ Q u s' | .ok _ => False | .error e => X.xe e s') s := by
  refine codeAny_mono (F.run X.A X.stack s H args us vs Q E hr I.env0 hb r h) fun z s' hq => ?_
  cases z with
  | error e => exact hx pins σ H s e s' I hq
  | ok fl =>
    cases fl with
    | ret u => exact I.after hq
    | next => exact False.elim hq
    | brk => exact False.elim hq
    | cont => exact False.elim hq
theorem call_g {pins : List (Addr × Obj)} {σ : L2.St} {s : Shared} {Q : VK} {f : Addr} {us : List Value} {kw : List (Str × Value)}
    (h : codeAny (model X.prog X.w) X.A (.call (.ref f) ⟨us, kw⟩) (fun r s' => match r with | .ok (.ret u) => EP X pins σ Q u s' | .ok _ => False | .error e => X.xe e s') s) : wpAny (model X.prog X.w) X.A (call (.ref f) us kw) (EP X pins σ Q) X.xe s := by
  refine wpAny_call (codeAny_mono h fun z s' hq => ?_)
  cases z with
  | error e => exact hq
  | ok fl => cases fl <;> first | exact hq | exact False.elim hq
/-- x(e, ..) -/
theorem pe_g (c : Cal X.prog X.w X.K X.mg X.base k x st ps sp) (hr : RoomG k X.A) (hx : Passes (L2.CX X.prog X.w) X E) (ha : PA X (e :: es) t) (hg : Gl X x := by rfl)
    (hdb : (x == ("__debug__" : Str)) = false := by decide) (he : starEach (e :: es) X.env = (false, eval e X.env) :: starEach es X.env := by rfl) (hpl : (backTo pos (starEach es X.env)).any (·.1) = false := by rfl) :
    PE X (.Call (.Name x p) (e :: es) [] pos) (tCal sp E t) := by
  obtain ⟨f, fd, F, hm, hk, hb⟩ := c.ex
  refine ⟨fun pins s σ H Q I h => ?_⟩
  refine wpAny_Call_Name_kw (ld_glob I hg hm ?_ hdb)
  refine PySem.W.callWith_K (h₀ := X.base) I.ok.mod.kin hk.kp (thn (ha.run pos pins s σ H _ I h) fun us s1 ⟨vs, H1, I1, r, q⟩ => ⟨I1.kIn, ?_⟩) he hpl
  have hl : us.length = ps.length := by rw [← r.length]; exact F.len _ _ _ _ q
  exact call_g (run_g F hr (.of_eq (hb us hl)) hx I1 r q)
/-- x() -/
theorem pe_g0 (c : Cal X.prog X.w X.K X.mg X.base k x st ps sp) (hr : RoomG k X.A) (hx : Passes (L2.CX X.prog X.w) X E) (hg : Gl X x := by rfl)
    (hdb : (x == ("__debug__" : Str)) = false := by decide) : PE X (.Call (.Name x p) [] [] pos) (tCal sp E tNil) := by
  obtain ⟨f, fd, F, hm, hk, hb⟩ := c.ex
  refine ⟨fun pins s σ H Q I h => ?_⟩
  refine wpAny_Call_Name_kw (ld_glob I hg hm ?_ hdb)
  have hl : ([] : List Value).length = ps.length := F.len _ _ _ _ h
  exact PySem.W.callWith_K0 I.kIn hk.kp (call_g (run_g (us := []) F hr (.of_eq (hb [] hl)) hx I .nil h))
/-- x(k = v, ..), keywords alone, in any order -/
theorem pe_gk {kws : List Keyword} {ks : List Str} {perm : List V → List V} {permV : List Value → List Value} (c : Cal X.prog X.w X.K X.mg X.base k x st ps sp) (hr : RoomG k X.A) (hx : Passes (L2.CX X.prog X.w) X E) (hkw : PK X kws t)
    (hks : (backToKw pos (keywordEach kws X.env)).filterMap (·.1) = ks)
    (hb : ∀ (kV doc pm : Value) (an : Option Addr) (cdv ct : Value) (us : List Value), us.length = ks.length → bindArgs (PySem.W.fnOf x x (defArgs st) (defBody st) (defScope st) .none kV doc pm an cdv ct) ⟨[], ks.zip us⟩ = pure (ps.zip (permV us)))
    (hp : ∀ vs us, Vals vs us → Vals (perm vs) (permV us)) (hn : ∀ (vs : List V) H Q, sp (perm vs) H Q E → vs.length = ks.length) (hg : Gl X x := by rfl) (hall : (backToKw pos (keywordEach kws X.env)).all (·.1.isSome) = true := by rfl)
    (hdb : (x == ("__debug__" : Str)) = false := by decide) (hpl : ((backTo pos (starEach [] X.env)).any (·.1) || (backToKw pos (keywordEach kws X.env)).any (·.1.isNone)) = false := by rfl) :
    PE X (.Call (.Name x p) [] kws pos) (tCalK sp E perm t) := by
  obtain ⟨f, fd, F, hm, hk, _⟩ := c.ex
  refine ⟨fun pins s σ H Q I h => ?_⟩
  refine wpAny_Call_Name_kw (ld_glob I hg hm ?_ hdb)
  refine PySem.W.callWith_KW0 (h₀ := X.base) I.ok.mod.kin hk.kp hall (thn (hkw.run pos pins s σ H _ I h) fun us s1 ⟨vs, H1, I1, r, q⟩ => ⟨I1.kIn, ?_⟩) hpl
  rw [hks]
  obtain ⟨oc, od, kV, doc, pm, an, cdv, ct, osl, rfl, _, _⟩ := hk.ex
  have hl : us.length = ks.length := by rw [← r.length]; exact hn vs H1 Q q
  exact call_g (run_g F hr (.of_eq (hb kV doc pm an cdv ct us hl)) hx I1 (hp vs us r) q)
/-- .. in the parameters' order -/
theorem pe_gi {kws : List Keyword} {ks : List Str} (c : Cal X.prog X.w X.K X.mg X.base k x st ps sp) (hr : RoomG k X.A) (hx : Passes (L2.CX X.prog X.w) X E) (hkw : PK X kws t)
    (hks : (backToKw pos (keywordEach kws X.env)).filterMap (·.1) = ks)
    (hb : ∀ (kV doc pm : Value) (an : Option Addr) (cdv ct : Value) (us : List Value), us.length = ks.length → bindArgs (PySem.W.fnOf x x (defArgs st) (defBody st) (defScope st) .none kV doc pm an cdv ct) ⟨[], ks.zip us⟩ = pure (ps.zip us))
    (hkl : ps.length = ks.length := by rfl) (hg : Gl X x := by rfl) (hall : (backToKw pos (keywordEach kws X.env)).all (·.1.isSome) = true := by rfl)
    (hdb : (x == ("__debug__" : Str)) = false := by decide) (hpl : ((backTo pos (starEach [] X.env)).any (·.1) || (backToKw pos (keywordEach kws X.env)).any (·.1.isNone)) = false := by rfl) :
    PE X (.Call (.Name x p) [] kws pos) (tCal sp E t) :=
  pe_gk (perm := fun l => l) (permV := fun l => l) c hr hx hkw hks hb (fun _ _ r => r) (fun vs H Q h => by obtain ⟨f, fd, F, _⟩ := c.ex; exact (F.len _ _ _ _ h).trans hkl) hg hall hdb hpl
/-- no exception -/
theorem px0 {X : Cx} : Passes (L2.CX X.prog X.w) X E0 := fun _ _ _ _ _ _ _ h => by
  obtain ⟨_, _, _, _, _, _, _, _, _, _, _, _, z⟩ := h
  exact z.elim
/-- what leaves the callee leaves the def, too -/
theorem pxE {W : WX} (tk : Takes X W) (h : ∀ cls d σ H, E cls d H → W cls d σ H) : Passes (L2.CX X.prog X.w) X E := passes_call tk h
end
end Ls
end

section
set_option Elab.async false
set_option linter.all false
set_option maxRecDepth 100000
set_option maxHeartbeats 4000000
namespace Ls
open PySem PySem.Spec PyProof.Rows L2
/-- the script's object -/
abbrev scrO (vs : List Value) : Obj := { cls := .type "list", data := .seq vs.toArray }
open Classical in
/-- the script alone is tracked, where it is no object of the module's own -/
noncomputable def scrH (K : PySem.W.Frag) (a : Addr) (vs : List Value) (ns : List Int) : Hp := fun b => if b = a ∧ K.lookup a = none then some (.frz (scrO vs) (.lst (ns.map V.int))) else none
section
variable {K : PySem.W.Frag} {a b : Addr} {vs : List Value} {ns : List Int} {u : HO}
theorem scrH_some (h : scrH K a vs ns b = some u) : b = a ∧ K.lookup a = none ∧ u = .frz (scrO vs) (.lst (ns.map V.int)) := by
  unfold scrH at h
  split at h
  · rename_i c; exact ⟨c.1, c.2, (Option.some.inj h).symm⟩
  · cases h
theorem scrH_at (h : K.lookup a = none) : scrH K a vs ns a = some (.frz (scrO vs) (.lst (ns.map V.int))) := if_pos ⟨rfl, h⟩
theorem scrH_only : Only (scrH K a vs ns) := fun b => by
  cases e : scrH K a vs ns b with
  | none => exact .inl rfl
  | some u => obtain ⟨_, _, rfl⟩ := scrH_some e; exact .inr ⟨_, _, rfl⟩
end
/-- nothing is tracked but what is locked -/
theorem law_g {P : Program} {w : World} {K : PySem.W.Frag} {mg mb : Str → Option Value} {k : Nat} {fa a : Addr} {x nm : Str} {st : Stmt} {sp : Sp} {s1 : Shared} {vs : List Value} {ns : List Int}
    (KX : K.In s1.heap) (hns : s1.heap.Ns mainGlobals mg) (hb : s1.heap.Ns builtinsNs mb) (hbb : ∀ x : Str, x ≠ "__name__" → mb x = bootBuiltins x) (hlim : s1.heap.NoLimit) (hg : s1.gens = #[])
    (ha : s1.heap.get? a = some (scrO vs)) (hi : IntsAre vs ns) (hl : ns.length ≤ sizeLine) (hr : Room k callerA) (hfa : mg nm = some (.ref fa))
    (F : ∀ base : Heap, K.In base → base.Ns mainGlobals mg → (∃ mc, base.Ns builtinsNs mc ∧ ∀ x : Str, x ≠ "__name__" → mc x = bootBuiltins x) → base.objs.size ≤ s1.heap.objs.size → Cal P w K mg base k nm st [x] sp)
    (hsp : ∀ H : Hp, Only H → SqL K H a (ns.map V.int) → sp [.ref a] H (fun v _ => v = .bl true) fun _ _ _ => False) :
    codeAny (model P w) callerA (.call (.ref fa) ⟨[.ref a], []⟩) (fun r s' => r = .ok (.ret (.bool true)) ∧ OldK s1.heap s'.heap ∧ s'.os = s1.os ∧ AllBare s'.gens) s1 := by
  have rv := vals_ints hi
  let H := scrH K a vs ns
  have len : vs.length = ns.length := hi.length
  have seq : SqL K H a (ns.map V.int) := by
    cases e : K.lookup a with
    | none => exact .inl (.inr ⟨_, scrH_at e⟩)
    | some o =>
      have q := KX a o e
      rw [ha] at q
      cases q
      exact .inr ⟨_, vs.toArray, _, e, rfl, rfl, rfl, by rw [List.size_toArray, len]; exact hl, by simpa using rv⟩
  have hok : HOk P w H s1.heap := fun b u e => by
    obtain ⟨rfl, _, rfl⟩ := scrH_some e
    exact ⟨ha, by rw [List.length_map]; exact hl, vs, _, rv, ha⟩
  -- what is no list stands apart from the script
  have apart : ∀ {b : Addr} {o : Obj} {es : Array DictEntry} {n : Nat}, s1.heap.get? b = some o → o.data = .dict es n → (hidT s1.heap H).get? b = some o := fun {b o es n} e d => by
    refine hidT_get e ?_
    cases q : H b with
    | none => rfl
    | some u =>
      obtain ⟨rfl, _, _⟩ := scrH_some q
      rw [ha] at e
      cases e
      cases d
  have own : ∀ {b : Addr} {m : Str → Option Value}, s1.heap.Ns b m → (hidT s1.heap H).Ns b m := fun ⟨o, es, n, e, d, r⟩ => ⟨o, es, n, apart e d, d, r⟩
  have kin : K.In (hidT s1.heap H) := fun b o e => hidT_get (KX b o e) (by
    cases q : H b with
    | none => rfl
    | some u =>
      obtain ⟨rfl, n, _⟩ := scrH_some q
      rw [n] at e
      cases e)
  have bl : ∃ mc, (hidT s1.heap H).Ns builtinsNs mc ∧ ∀ x : Str, x ≠ "__name__" → mc x = bootBuiltins x := ⟨mb, own hb, hbb⟩
  have M : Mod K mg (hidT s1.heap H) := ⟨kin, own hns, bl, let ⟨mc, h1, h2⟩ := hlim; ⟨mc, own h1, h2⟩⟩
  have e0 : Env0 P w K mg (hidT s1.heap H) callerA [] s1 H := ⟨rfl, M, fun b o e => of_hidT e, Nat.le_of_eq (hidT_size _ _), trivial, fun b z => (nomatch z), hok, .of_eq hg⟩
  obtain ⟨f, fd, C, g, _, bnd⟩ := (F _ kin (own hns) bl (Nat.le_of_eq (hidT_size _ _))).ex
  rw [hfa] at g
  cases g
  refine codeAny_mono (C.run callerA [] s1 H ⟨[.ref a], []⟩ [.ref a] [.ref a] _ _ ⟨hr, rfl⟩ e0 (.of_eq (bnd _ rfl)) (.cons rfl .nil) (hsp H scrH_only seq)) fun r s' q => ?_
  cases r with
  | error e =>
    obtain ⟨_, _, _, _, _, _, _, _, _, _, _, _, z⟩ := q
    exact z.elim
  | ok fl =>
    cases fl with
    | next => exact False.elim q
    | brk => exact False.elim q
    | cont => exact False.elim q
    | ret u =>
      obtain ⟨v, H', os, bare, un, hok', rv', rfl⟩ := q
      obtain rfl : u = Value.bool true := rv'
      refine ⟨rfl, OldK.of_keep fun b o e => ?_, os, bare⟩
      cases z : H b with
      | none => exact un.keep b o e z (fun z => nomatch z) (fun z => nomatch z)
      | some u =>
        obtain ⟨rfl, _, rfl⟩ := scrH_some z
        rw [ha] at e
        cases e
        exact (hok' b _ (un.frzs b _ _ z)).1
/-- the goal that k_head leaves (case hc), from the law's promise -/
theorem walk_g {l : PySem.W.OpenLaw} {n k : Nat} {q : Program} {loose : List Str} {XP : (Str → Option Value) → Heap → Prop} {YP : World → Heap → Prop} {d : DefRec} {K : Params → PySem.W.Frag} {sp : PySem.W.Frag → Sp} {x : Str} {st : Stmt}
    (hn : l.most = some n) (hn2 : n ≤ sizeLine) (hdf : d.params.defaults = []) (hr : Room k callerA)
    (hY : ∀ (w : World) (h : Heap), YP w h → (K w.params).In h)
    (F : ∀ (w : World) (mg : Str → Option Value) (fa : Addr) (h : Heap), (K w.params).In h → h.Ns mainGlobals mg → mg d.name = some (.ref fa) →
      ∀ base : Heap, (K w.params).In base → base.Ns mainGlobals mg → Cal l.prog w (K w.params) mg base k d.name st [x] (sp (K w.params)))
    (hsp : ∀ (K : PySem.W.Frag) (H : Hp) (a : Addr) (ns : List Int), ns.length ≤ n → Only H → SqL K H a (ns.map V.int) → sp K [.ref a] H (fun v _ => v = .bl true) fun _ _ _ => False) :
    PySem.W.WalkO q loose XP YP l.row.toRowW d [] (fun f vs => PySem.call f vs) := by
  refine Att.attach_call hn hdf fun w s0 s1 mg mb fa o pm cd doc a vs ns G Y ho hd hcd hmg hobj hints hlen hg => ?_
  exact law_g (hY w _ Y) G.T.g G.T.b G.T.builtins G.T.nolimit hg hobj hints (Nat.le_trans hlen hn2) hr hmg (fun base h1 h2 _ _ => F w mg fa _ (hY w _ Y) G.T.g hmg base h1 h2) fun H hO hS => hsp _ H a ns hlen hO hS
end Ls
end

section
set_option Elab.async false
set_option linter.all false
set_option maxRecDepth 100000
set_option maxHeartbeats 4000000
namespace Ls
open PySem PySem.Spec PyProof.Rows L2

/-- everything that was tracked stands -/
def Ex (H H' : Hp) : Prop := ∀ a o, H a = some o → H' a = some o
theorem Ex.refl (H : Hp) : Ex H H := fun _ _ h => h
theorem Ex.trans {H H1 H2 : Hp} (a : Ex H H1) (b : Ex H1 H2) : Ex H H2 := fun x o h => b x o (a x o h)
theorem Ex.new {H : Hp} {p : Addr} {o : HO} (h : H p = none) : Ex H (upd H p o) := fun a u e => by rw [upd_ne (ne_of_none e h)]; exact e
theorem Ex.back {H H' : Hp} {p : Addr} (e : Ex H H') (h : H' p = none) : H p = none := by
  cases q : H p with
  | none => rfl
  | some o => rw [e p o q] at h; cases h
theorem Ex.rd {H H' : Hp} {a : Addr} {u : HO} (e : Ex H H') (h : Rd H a u) : Rd H' a u := by
  rcases h with h | ⟨o, h⟩
  · exact .inl (e _ _ h)
  · exact .inr ⟨o, e _ _ h⟩
theorem Ex.sl {K : PySem.W.Frag} {H H' : Hp} {a : Addr} {xs : List V} (e : Ex H H') (h : SqL K H a xs) : SqL K H' a xs := h.imp e.rd id
theorem Ex.st {K : PySem.W.Frag} {H H' : Hp} {a : Addr} {xs : List V} (e : Ex H H') (h : SqT K H a xs) : SqT K H' a xs := h.imp e.rd id

def keyD : Key → PyData
  | .inl i => .int i
  | .inr x => .str x
mutual
/-- the value v bears the data d -/
inductive Dt (K : PySem.W.Frag) (H : Hp) : V → PyData → Prop
  | non : Dt K H .non .none
  | bl (b : Bool) : Dt K H (.bl b) (.bool b)
  | int (i : Int) : Dt K H (.int i) (.int i)
  | str (x : Str) : Dt K H (.str x) (.str x)
  | lst {a : Addr} {xs : List V} {ds : List PyData} : SqL K H a xs → a ≠ 1 → DtAll K H xs ds → Dt K H (.ref a) (.list ds)
  | tup {a : Addr} {xs : List V} {ds : List PyData} : SqT K H a xs → DtAll K H xs ds → Dt K H (.ref a) (.tuple ds)
  | dct {a : Addr} {kvs : List (Key × V)} {ds : List PyData} : Rd H a (.dK kvs) → DtAll K H (kvs.map (·.2)) ds → Dt K H (.ref a) (.dict ((kvs.map fun p => keyD p.1).zip ds))
inductive DtAll (K : PySem.W.Frag) (H : Hp) : List V → List PyData → Prop
  | nil : DtAll K H [] []
  | cons {v : V} {vs : List V} {d : PyData} {ds : List PyData} : Dt K H v d → DtAll K H vs ds → DtAll K H (v :: vs) (d :: ds)
end
section
variable {K : PySem.W.Frag} {H H' : Hp}
mutual
theorem Dt.mono (e : Ex H H') : ∀ {v : V} {d : PyData}, Dt K H v d → Dt K H' v d
  | _, _, .non => .non
  | _, _, .bl b => .bl b
  | _, _, .int i => .int i
  | _, _, .str x => .str x
  | _, _, .lst h n a => .lst (e.sl h) n (a.mono e)
  | _, _, .tup h a => .tup (e.st h) (a.mono e)
  | _, _, .dct h a => .dct (e.rd h) (a.mono e)
theorem DtAll.mono (e : Ex H H') : ∀ {v : List V} {d : List PyData}, DtAll K H v d → DtAll K H' v d
  | _, _, .nil => .nil
  | _, _, .cons a b => .cons (a.mono e) (b.mono e)
end
theorem DtAll.length : ∀ {vs : List V} {ds : List PyData}, DtAll K H vs ds → vs.length = ds.length
  | _, _, .nil => rfl
  | _, _, .cons _ b => congrArg Nat.succ b.length
theorem DtAll.get : ∀ {vs : List V} {ds : List PyData} {i : Nat} {v : V}, DtAll K H vs ds → vs[i]? = some v → ∃ d, ds[i]? = some d ∧ Dt K H v d
  | _, _, _, _, .nil, e => by simp at e
  | _, _, 0, v, .cons a _, e => by
    have z : _ = v := Option.some.inj e
    exact ⟨_, rfl, z ▸ a⟩
  | _, _, i + 1, v, .cons _ b, e => b.get (i := i) (by simpa using e)
theorem DtAll.getD : ∀ {vs : List V} {ds : List PyData} {i : Nat} {d : PyData}, DtAll K H vs ds → ds[i]? = some d → ∃ v, vs[i]? = some v ∧ Dt K H v d
  | _, _, _, _, .nil, e => by simp at e
  | _, _, 0, d, .cons a _, e => by
    have z : _ = d := Option.some.inj e
    exact ⟨_, rfl, z ▸ a⟩
  | _, _, i + 1, d, .cons _ b, e => b.getD (i := i) (by simpa using e)
theorem DtAll.append : ∀ {vs ws : List V} {ds es : List PyData}, DtAll K H vs ds → DtAll K H ws es → DtAll K H (vs ++ ws) (ds ++ es)
  | _, _, _, _, .nil, b => b
  | _, _, _, _, .cons x a, b => .cons x (a.append b)
theorem DtAll.take : ∀ {vs : List V} {ds : List PyData} (n : Nat), DtAll K H vs ds → DtAll K H (vs.take n) (ds.take n)
  | _, _, 0, _ => .nil
  | _, _, _ + 1, .nil => .nil
  | _, _, n + 1, .cons x a => .cons x (a.take n)
theorem DtAll.drop : ∀ {vs : List V} {ds : List PyData} (n : Nat), DtAll K H vs ds → DtAll K H (vs.drop n) (ds.drop n)
  | _, _, 0, r => r
  | _, _, _ + 1, .nil => .nil
  | _, _, n + 1, .cons _ a => a.drop n
theorem DtAll.ints : ∀ ns : List Int, DtAll K H (ns.map V.int) (ns.map PyData.int)
  | [] => .nil
  | n :: ns => .cons (.int n) (DtAll.ints ns)
end

section
variable {X : Cx} {pins : List (Addr × Obj)} {σ : L2.St} {H : Hp} {s : Shared}
theorem keys_read {prog : Program} {w : World} {h : Heap} : ∀ {kvs : List (Key × V)} {vs : List (Key × Value)} {es : List DictEntry}, KV kvs vs → Pairs (mixKind prog w) es vs →
    ReadsAll h (es.map (·.key)) (kvs.map fun p => keyD p.1) [] ∧ Vals (kvs.map (·.2)) (es.map (·.val))
  | _, _, _, .nil, .nil => ⟨.nil, .nil⟩
  | (k, v) :: kvs, (k', u) :: vs, e :: es, .cons a b, .cons c d f => by
    obtain ⟨h1, h2⟩ := keys_read (h := h) b f
    have a1 : k = k' := a.1
    have a2 : RelV v u := a.2
    subst a1
    have d' : e.val = u := d
    refine ⟨?_, .cons (show RelV v e.val by rw [d']; exact a2) h2⟩
    rcases keyIs_shape c with ⟨i, t, e1, e2⟩ | ⟨x, t, e1, e2⟩
    · have e1' : k = Sum.inl i := e1
      subst e1'
      show ReadsAll h (e.key :: es.map (·.key)) (.int i :: _) ([] ++ [])
      rw [e2]
      exact .cons (.int i t) h1
    · have e1' : k = Sum.inr x := e1
      subst e1'
      show ReadsAll h (e.key :: es.map (·.key)) (.str x :: _) ([] ++ [])
      rw [e2]
      exact .cons (.str x t) h1
theorem zip_fst : ∀ {α β : Type} {l : List α} {m : List β}, l.length = m.length → (l.zip m).map (·.1) = l
  | _, _, [], [], _ => rfl
  | _, _, a :: l, b :: m, h => by
    show a :: (l.zip m).map (·.1) = a :: l
    rw [zip_fst (Nat.succ.inj h)]
theorem zip_snd : ∀ {α β : Type} {l : List α} {m : List β}, l.length = m.length → (l.zip m).map (·.2) = m
  | _, _, [], [], _ => rfl
  | _, _, a :: l, b :: m, h => by
    show b :: (l.zip m).map (·.2) = b :: m
    rw [zip_snd (Nat.succ.inj h)]
mutual
theorem Dt.reads (I : Inv X pins σ H s) : ∀ {v : V} {d : PyData} {u : Value}, Dt X.K H v d → RelV v u → ∃ as, Reads s.heap u d as ∧ sysModules ∉ as
  | _, _, _, .non, r => by cases r; exact ⟨_, .none, by simp⟩
  | _, _, _, .bl b, r => by cases r; exact ⟨_, .bool b, by simp⟩
  | _, _, _, .int i, r => by obtain ⟨t, rfl⟩ := r; exact ⟨_, .int i t, by simp⟩
  | _, _, _, .str x, r => by obtain ⟨t, rfl⟩ := r; exact ⟨_, .str x t, by simp⟩
  | _, _, _, .lst h n a, r => by
    cases r
    obtain ⟨its, rv, ⟨o, m, ho, hc, _, hd⟩, _⟩ := I.list h
    obtain ⟨as, q, z⟩ := a.reads I rv
    refine ⟨_, .list ho hc hd q, fun hm => ?_⟩
    rcases List.mem_cons.mp hm with e | hm
    · exact n e.symm
    · exact z hm
  | _, _, _, .tup h a, r => by
    cases r
    obtain ⟨its, rv, ⟨o, ho, hc, n, hd⟩, _⟩ := I.tuple h
    obtain ⟨as, q, z⟩ := a.reads I rv
    exact ⟨_, .tuple ho hc hd q, z⟩
  | _, _, _, .dct (kvs := kvs) (ds := ds) h a, r => by
    cases r
    obtain ⟨_, hs, vs, rel, o, es, ep, ho, hx, hd, _, hp, _⟩ := dk_rd I.hok h
    obtain ⟨h1, h2⟩ := keys_read (h := s.heap) rel hp
    obtain ⟨as, q, z⟩ := a.reads I h2
    have l1 : (kvs.map fun p => keyD p.1).length = ds.length := by
      rw [List.length_map]
      have := a.length
      rw [List.length_map] at this
      exact this
    refine ⟨_, .dict ho hx.1 hd (by rw [zip_fst l1]; exact h1) (by rw [zip_snd l1]; exact q), fun hm => ?_⟩
    rcases List.mem_cons.mp hm with e | hm
    · rw [e] at hs; simp at hs
    · exact z (by simpa using hm)
theorem DtAll.reads (I : Inv X pins σ H s) : ∀ {vs : List V} {ds : List PyData} {us : List Value}, DtAll X.K H vs ds → Vals vs us → ∃ as, ReadsAll s.heap us ds as ∧ sysModules ∉ as
  | _, _, _, .nil, r => by cases r; exact ⟨_, .nil, by simp⟩
  | _, _, _, .cons a b, r => by
    cases r with
    | cons r1 r2 =>
      obtain ⟨as, q1, z1⟩ := a.reads I r1
      obtain ⟨bs, q2, z2⟩ := b.reads I r2
      exact ⟨_, .cons q1 q2, fun hm => (List.mem_append.mp hm).elim z1 z2⟩
end
/-- repr(x), x data -/
def rRepr (K : PySem.W.Frag) : List V → Hp → VK → Prop := fun xs H Q => ∃ (x : V) (d : PyData), xs = [x] ∧ (Dt K H x d ∨ (Dp K H x d ∧ d.hasDict = false)) ∧ d.showable = true ∧ d.shown.length ≤ sizeLine ∧ d.depth ≤ 40 ∧ Q (.str d.shown) H
theorem call_repr {k : Nat} (hr : RoomG k X.A) : CallR X (.builtin "repr") (rRepr X.K) := by
  intro pins s σ H xs us Q I r h
  obtain ⟨x, d, rfl, hd, sh, sz, dp, q⟩ := h
  cases r with
  | cons rx rr =>
    cases rr
    rename_i u
    have hu := hr.rm.units
    have hg := hr.gd
    have rd : ∃ as, Reads s.heap u d as ∧ (d.hasDict = true → sysModules ∉ as) := by
      rcases hd with hd | ⟨hd, hn⟩
      · obtain ⟨as, r, n⟩ := hd.reads I rx
        exact ⟨as, r, fun _ => n⟩
      · obtain ⟨as, r⟩ := Dp.reads I d x u hd rx
        exact ⟨as, r, fun z => by rw [hn] at z; cases z⟩
    obtain ⟨as, rd, ns⟩ := rd
    have gen : ∀ {a : Addr}, Reads s.heap (.ref a) d as → wpAny (model X.prog X.w) X.A (call (.builtin "repr") [.ref a]) (EP X pins σ Q) X.xe s := fun {a} rd =>
      repr_of_reads' rd sh ns hg (by omega) (fun _ _ e => e) (fun h' u tk hk => ⟨.str d.shown, H, I.kept hk, ⟨_, rfl⟩, q⟩) sz
    cases rd with
    | none =>
      rw [PyData.shown] at q
      exact PySem.P.repr_of_none ⟨V.str _, H, I.tok _, ⟨_, rfl⟩, q⟩
    | bool b =>
      rw [PyData.shown] at q
      exact PySem.P.repr_of_bool ⟨V.str _, H, I.tok _, ⟨_, rfl⟩, q⟩
    | int i =>
      rw [PyData.shown] at q
      exact PySem.P.repr_of_int (by simpa [PyData.showable] using sh) ⟨V.str _, H, I.tok _, ⟨_, rfl⟩, q⟩
    | str x =>
      rw [PyData.shown] at q sz
      exact PySem.P.repr_of_str ⟨V.str _, H, I.tok _, ⟨_, rfl⟩, q⟩ sz
    | list h1 h2 h3 h4 => exact gen (.list h1 h2 h3 h4)
    | tuple h1 h2 h3 h4 => exact gen (.tuple h1 h2 h3 h4)
    | dict h1 h2 h3 h4 h5 => exact gen (.dict h1 h2 h3 h4 h5)
/-- [e, ..]: the new list lies behind what the interpreter itself made -/
def tLstN (t : TA) : TE := fun σ H Q => t σ H fun xs H1 => xs.length ≤ sizeLine ∧ ∀ p, H1 p = none → p ≠ 1 → Q (.ref p) (upd H1 p (.lst xs))
theorem pe_lstN {es : List Expr} {t : TA} {pos : Pos} (h : PA X es t) : PE X (.List es pos) (tLstN t) := by
  refine ⟨fun pins s σ H Q I hq => ?_⟩
  refine wpAny_List_spliced (thn (h.run pos pins s σ H _ I hq) fun us s1 ⟨xs, H1, I1, r, z, q⟩ => ⟨by rw [← r.length]; exact z, ?_⟩)
  have big := I1.big
  refine ⟨.ref s1.heap.objs.size, upd H1 s1.heap.objs.size (.lst xs), I1.laid (t' := s1.toks) (fun b u e => Heap.get?_push_of_some _ e) (Nat.le_refl _) ⟨z, us, 0, r, Heap.get?_push_size _ rfl⟩, rfl, q _ (I1.hok.fresh (Nat.le_refl _)) (Nat.ne_of_gt big)⟩
end
end Ls
end

section
set_option Elab.async false
set_option linter.all false
set_option maxRecDepth 100000
set_option maxHeartbeats 4000000
namespace Ls
open PySem PySem.Spec PyProof.Rows L2
def rMulS : R2 := fun x y H Q => ∃ (c : Nat) (n : Nat), x = .str ⟨#[c]⟩ ∧ y = .int (n : Nat) ∧ n ≤ 100000 ∧ Q (.str ⟨(List.replicate n c).toArray⟩) H
theorem rep_one (c : Nat) : ∀ (n : Nat) (a : Array Nat), (List.replicate n #[c]).foldl (· ++ ·) a = a ++ (List.replicate n c).toArray
  | 0, a => by simp
  | n + 1, a => by
    rw [List.replicate_succ, List.foldl_cons, rep_one c n, List.replicate_succ]
    apply Array.toList_inj.mp
    simp
theorem op_mulS {X : Cx} : OpR X (binaryOp .Mult) rMulS := by
  intro pins s σ H x y v u Q I rx ry h
  obtain ⟨c, n, rfl, rfl, hn, q⟩ := h
  obtain ⟨t, rfl⟩ := rx
  obtain ⟨t', rfl⟩ := ry
  refine PySem.P.mul_str ?_ ?_ ?_ ?_
  · rw [decide_eq_false (by omega), decide_eq_false (by omega)]
    rfl
  · intro h1 _
    have : (1 : Int) ≤ (2 ^ 63 - 1) / (n : Int) := (Int.le_ediv_iff_mul_le (by omega)).mpr (by omega)
    show ¬ ((1 : Int) > _)
    omega
  · intro _ _
    show Builtin.Str.tooLong (1 * (n : Int).toNat) = false
    rw [Nat.one_mul, Int.toNat_natCast]
    unfold Builtin.Str.tooLong
    exact decide_eq_false (Nat.not_lt.mpr (Nat.le_trans hn (by decide)))
  · by_cases h0 : (n : Int) < 1
    · rw [if_pos h0]
      have : n = 0 := by omega
      subst this
      exact ⟨by decide, .str ⟨#[]⟩, H, I.tok _, ⟨_, rfl⟩, q⟩
    · rw [if_neg h0]
      by_cases h1 : n = 1
      · subst h1
        exact ⟨.str ⟨#[c]⟩, H, I, ⟨_, rfl⟩, q⟩
      · rw [if_neg (by
          have e1 : ((n : Int) == 1) = false := by simpa using fun z : (n : Int) = 1 => h1 (by omega)
          rw [e1]
          show ¬ (false = true)
          exact Bool.false_ne_true)]
        rw [Int.toNat_natCast, rep_one]
        refine ⟨?_, .str ⟨(List.replicate n c).toArray⟩, H, I.tok _, ⟨s.toks, by rw [show (#[] : Array Nat) ++ (List.replicate n c).toArray = (List.replicate n c).toArray from by simp]⟩, q⟩
        simp [Str.length]
        exact Nat.le_trans hn (by decide)
end Ls
end

section
set_option Elab.async false
set_option linter.all false
set_option maxRecDepth 100000
set_option maxHeartbeats 4000000
namespace Ls
open PySem PySem.Spec PyProof.Rows L2

/-- all but p stands -/
def Em (p : Addr) (H H' : Hp) : Prop := ∀ a o, a ≠ p → H a = some o → H' a = some o
theorem Em.refl (p : Addr) (H : Hp) : Em p H H := fun _ _ _ h => h
theorem Em.trans {p : Addr} {H H1 H2 : Hp} (a : Em p H H1) (b : Em p H1 H2) : Em p H H2 := fun x o n h => b x o n (a x o n h)
theorem Ex.em {H H' : Hp} (p : Addr) (e : Ex H H') : Em p H H' := fun a o _ h => e a o h
theorem Em.put {p : Addr} {H : Hp} {o : HO} : Em p H (upd H p o) := fun a u n h => by rw [upd_ne n]; exact h
/-- without p -/
def mi (H : Hp) (p : Addr) : Hp := fun a => if a = p then none else H a
theorem mi_ne {H : Hp} {p a : Addr} (n : a ≠ p) : mi H p a = H a := if_neg n
theorem mi_ex (H : Hp) (p : Addr) : Ex (mi H p) H := fun a o h => by
  by_cases e : a = p
  · have z : mi H p a = none := if_pos e
    rw [z] at h
    cases h
  · rw [mi_ne e] at h
    exact h
theorem Em.mi {p : Addr} {H H' : Hp} (e : Em p H H') : Ex (mi H p) (mi H' p) := fun a o h => by
  by_cases n : a = p
  · have z : Ls.mi H p a = none := if_pos n
    rw [z] at h
    cases h
  · rw [mi_ne n] at h ⊢
    exact e a o n h
theorem Ex.mi {H H' : Hp} (p : Addr) (e : Ex H H') : Ex (mi H p) (mi H' p) := (e.em p).mi
theorem mi_none {H : Hp} {p a : Addr} (h : H a = none) : mi H p a = none := by
  by_cases e : a = p
  · exact if_pos e
  · rw [mi_ne e]
    exact h

def rAddU (K : PySem.W.Frag) : R2 := fun x y H Q => rI0 (fun i j => .int (i + j)) x y H Q ∨ (∃ i j, x = .str i ∧ y = .str j ∧ i.length + j.length ≤ sizeLine ∧ Q (.str (i ++ j)) H) ∨ rCatA K x y H Q ∨ rCat x y H Q
def rMulU (K : PySem.W.Frag) : R2 := fun x y H Q => rI CMul (fun i j => .int (i * j)) x y H Q ∨ rRep x y H Q ∨ rRepT K x y H Q ∨ rMulS x y H Q
/-- any two data -/
def rEqU (K : PySem.W.Frag) : R2 := fun x y H Q => rEq x y H Q ∨ rEqD K x y H Q
def rNeU (K : PySem.W.Frag) : R2 := fun x y H Q => rNe x y H Q ∨ rNeD K x y H Q
def rLt : R2 := rI0 fun i j => .bl (decide (i < j))
def rLe : R2 := rI0 fun i j => .bl (decide (i ≤ j))
def rGtU : R2 := rI0 fun i j => .bl (decide (j < i))
def rGeU : R2 := rI0 fun i j => .bl (decide (j ≤ i))
def rSubI : R2 := rI0 fun i j => .int (i - j)
def rFdiv : R2 := rI CDiv fun i j => .int (i / j)
def rMod : R2 := rI (fun _ j => 0 < j) fun i j => .int (i % j)
def rPow : R2 := rI CPow fun i j => .int (i ^ j.toNat)
def rInS : R2 := fun x y H Q => ∃ (c : Nat) (z : Str), x = .str ⟨#[c]⟩ ∧ y = .str z ∧ Q (.bl (decide (c ∈ z.cps.toList))) H
def rInU (K : PySem.W.Frag) : R2 := fun x y H Q => rIn K false x y H Q ∨ rInS x y H Q
def rNotInS : R2 := fun x y H Q => ∃ (c : Nat) (z : Str), x = .str ⟨#[c]⟩ ∧ y = .str z ∧ Q (.bl (!decide (c ∈ z.cps.toList))) H
def rNotInU (K : PySem.W.Frag) : R2 := fun x y H Q => rIn K true x y H Q ∨ rNotInS x y H Q
def rIsNo : R2 := fun x y H Q => y = .non ∧ Q (.bl (decide (x = .non))) H
def rIsntNo : R2 := fun x y H Q => y = .non ∧ Q (.bl (!decide (x = .non))) H
section
variable {X : Cx}
theorem op_addU : OpR X (binaryOp .Add) (rAddU X.K) := op_add.or (op_add_str.or (op_catA.or op_cat))
theorem op_mulU : OpR X (binaryOp .Mult) (rMulU X.K) := op_mul.or (op_rep.or (op_repT.or op_mulS))
theorem op_eqU {k : Nat} (hr : RoomG k X.A) : OpR X (compareOp .Eq) (rEqU X.K) := op_eq.or (op_eqD hr.rm.units)
theorem op_neU {k : Nat} (hr : RoomG k X.A) : OpR X (compareOp .NotEq) (rNeU X.K) := op_ne.or (op_neD hr.rm.units)
theorem op_ltU : OpR X (compareOp .Lt) rLt := op_lt
theorem op_leU : OpR X (compareOp .LtE) rLe := op_le
theorem op_gtU : OpR X (compareOp .Gt) rGtU := op_gt
theorem op_geU : OpR X (compareOp .GtE) rGeU := op_ge
theorem op_subU : OpR X (binaryOp .Sub) rSubI := op_sub
theorem op_fdivU : OpR X (binaryOp .FloorDiv) rFdiv := op_fdiv
theorem op_modU : OpR X (binaryOp .Mod) rMod := op_mod
theorem op_powU : OpR X (binaryOp .Pow) rPow := op_pow
theorem op_inU : OpR X (compareOp .In) (rInU X.K) := op_in_seq.or op_in_sign
theorem op_notInU : OpR X (compareOp .NotIn) (rNotInU X.K) := op_notIn_seq.or op_notIn_sign
theorem op_isU : OpR X (compareOp .Is) rIsNo := op_isN
theorem op_isntU : OpR X (compareOp .IsNot) rIsntNo := op_notN
end
def rNeg : V → Hp → VK → Prop := rU fun i => .int (-i)
theorem un_negU {X : Cx} : UnR X (unaryOp .USub) rNeg := un_neg

def rAbs : List V → Hp → VK → Prop := fun xs H Q => ∃ i, xs = [.int i] ∧ Q (.int (if i < 0 then -i else i)) H
/-- max, min: of two ints, or of a list of ints -/
def rMaxU (K : PySem.W.Frag) : List V → Hp → VK → Prop := fun xs H Q => (∃ i j, xs = [.int i, .int j] ∧ Q (.int (if j > i then j else i)) H) ∨ rMax K xs H Q
def rMinU (K : PySem.W.Frag) : List V → Hp → VK → Prop := fun xs H Q => (∃ i j, xs = [.int i, .int j] ∧ Q (.int (if j < i then j else i)) H) ∨ rMin K xs H Q
def rIntU : List V → Hp → VK → Prop := fun xs H Q => ((∃ i, xs = [.int i] ∧ Q (.int i) H) ∨ ∃ k, xs = [.bl k] ∧ Q (.int (if k then 1 else 0)) H) ∨ ∃ a n, xs = [.str a] ∧ PySem.intText? a = some n ∧ a.length ≤ 640 ∧ Q (.int n) H
def rStrI : List V → Hp → VK → Prop := fun xs H Q => ∃ i, xs = [.int i] ∧ i.natAbs.log2 < 1920 ∧ Q (.str (toString i)) H
def rLen (K : PySem.W.Frag) : List V → Hp → VK → Prop := fun xs H Q => ∃ x n, xs = [x] ∧ LenV K x H n ∧ Q (.int n) H
def rDivmod : List V → Hp → VK → Prop := fun xs H Q => ∃ i j, xs = [.int i, .int j] ∧ CDiv i j ∧ ∀ p, H p = none → Q (.ref p) (upd H p (.tup [.int (i / j), .int (i % j)]))
def rTupOf (K : PySem.W.Frag) : List V → Hp → VK → Prop := fun xs H Q => ∃ p ys, xs = [.ref p] ∧ ((SqL K H p ys ∧ ∀ l, H l = none → Q (.ref l) (upd H l (.tup ys))) ∨ (SqT K H p ys ∧ Q (.ref p) H))
def rLstOf (K : PySem.W.Frag) : List V → Hp → VK → Prop := fun xs H Q => ∃ p ys, xs = [.ref p] ∧ (SqL K H p ys ∨ SqT K H p ys) ∧ ∀ l, H l = none → Q (.ref l) (upd H l (.lst ys))
def rIsiU (K : PySem.W.Frag) : List V → Hp → VK → Prop := fun xs H Q => rIsi K xs H Q ∨ rIsiT K xs H Q
/-- max(xs, default=d) over a list of ints -/
def rMaxD (K : PySem.W.Frag) : List V → List V → Hp → VK → Prop := fun xs zs H Q => ∃ (a : Addr) (ns : List Int) (d : V), xs = [.ref a] ∧ zs = [d] ∧ SqL K H a (ns.map V.int) ∧ (ns = [] → Q d H) ∧ ∀ y ys, ns = y :: ys → ∀ m, m ∈ ns → (∀ z, z ∈ ns → z ≤ m) → Q (.int m) H
section
variable {X : Cx}
theorem CallR.or {f : Value} {r r' : List V → Hp → VK → Prop} (h : CallR X f r) (h' : CallR X f r') : CallR X f (fun xs H Q => r xs H Q ∨ r' xs H Q) := by
  intro pins s σ H vs us Q I rv q
  rcases q with q | q
  · exact h pins s σ H vs us Q I rv q
  · exact h' pins s σ H vs us Q I rv q
theorem call_absU : CallR X (.builtin "abs") rAbs := call_abs
theorem call_maxU (hc : X.calm = true) : CallR X (.builtin "max") (rMaxU X.K) := CallR.or (call_max2 hc) (cr_max hc)
theorem call_minU (hc : X.calm = true) : CallR X (.builtin "min") (rMinU X.K) := CallR.or (call_min2 hc) (cr_min hc)
theorem call_intU : CallR X (.type "int") rIntU := CallR.or call_int1 call_int_str
theorem call_strU : CallR X (.type "str") rStrI := call_str_int
theorem call_lenU : CallR X (.builtin "len") (rLen X.K) := call_len
theorem call_divmodU : CallR X (.builtin "divmod") rDivmod := call_divmod
theorem call_tupleU : CallR X (.type "tuple") (rTupOf X.K) := call_tuple_of
theorem call_listU : CallR X (.type "list") (rLstOf X.K) := call_list_of
theorem call_isiU : CallR X (.builtin "isinstance") (rIsiU X.K) := CallR.or call_isi call_isiT
theorem max_of (ns : List Int) (y : Int) (ys : List Int) (e : ns = y :: ys) : PySem.W.maxOf y ys ∈ ns ∧ ∀ z, z ∈ ns → z ≤ PySem.W.maxOf y ys := by
  subst e
  have key : ∀ (l : List Int) (a : Int), (List.foldl (fun a y => if PySem.W.DatumOrd.lt a y = true then y else a) a l ∈ a :: l) ∧ ∀ z, z ∈ a :: l → z ≤ List.foldl (fun a y => if PySem.W.DatumOrd.lt a y = true then y else a) a l := by
    intro l
    induction l with
    | nil => intro a; exact ⟨List.mem_cons_self, fun z hz => by
        have : z = a := by simpa using hz
        subst this
        exact Int.le_refl _⟩
    | cons b l ih =>
      intro a
      rw [List.foldl_cons]
      have hlt : PySem.W.DatumOrd.lt a b = decide (a < b) := rfl
      by_cases c : a < b
      · have e1 : (if PySem.W.DatumOrd.lt a b = true then b else a) = b := by rw [hlt, if_pos (decide_eq_true c)]
        rw [e1]
        obtain ⟨h1, h2⟩ := ih b
        refine ⟨List.mem_cons_of_mem _ h1, fun z hz => ?_⟩
        rcases List.mem_cons.mp hz with e | hz
        · subst e
          exact Int.le_trans (Int.le_of_lt c) (h2 b List.mem_cons_self)
        · exact h2 z hz
      · have e1 : (if PySem.W.DatumOrd.lt a b = true then b else a) = a := by rw [hlt, decide_eq_false c, if_neg Bool.false_ne_true]
        rw [e1]
        obtain ⟨h1, h2⟩ := ih a
        refine ⟨?_, fun z hz => ?_⟩
        · rcases List.mem_cons.mp h1 with e | h1
          · rw [e]
            exact List.mem_cons_self
          · exact List.mem_cons_of_mem _ (List.mem_cons_of_mem _ h1)
        · rcases List.mem_cons.mp hz with e | hz
          · subst e
            exact h2 z List.mem_cons_self
          · rcases List.mem_cons.mp hz with e | hz
            · subst e
              exact Int.le_trans (Int.not_lt.mp c) (h2 a List.mem_cons_self)
            · exact h2 z (List.mem_cons_of_mem _ hz)
  exact key ys y
theorem ints_reads {h : Heap} : ∀ {ns : List Int} {us : List Value}, Vals (ns.map V.int) us → ReadsAll h us (ns.map PySem.W.Datum.toD) []
  | [], _, r => by cases r; exact .nil
  | n :: ns, _, r => by
    cases r with
    | cons a b =>
      obtain ⟨t, rfl⟩ := a
      exact .cons (.int n t) (ints_reads b)
theorem call_maxD {k : Nat} (hc : X.calm = true) (hr : RoomG k X.A) : CallRK X (.builtin "max") [Str.ofString "default"] (rMaxD X.K) := by
  intro pins s σ H xs zs us ws Q I r rz h
  obtain ⟨a, ns, d, rfl, rfl, hS, q0, q1⟩ := h
  cases r with
  | cons ra rn =>
    cases rn
    cases ra
    cases rz with
    | cons rd rn =>
      rename_i dv _
      cases rn
      obtain ⟨its, rv, p, hz⟩ := I.list hS
      have hA : PySem.W.HoldAll s.heap its.toArray.toList ns := ⟨[], by simpa using ints_reads rv⟩
      have hu := hr.rm.units
      refine PySem.W.max_list_datum_default (I.ok.hd hc) p.isList hA (by show X.A.units + 1 + 0 < cLine; omega) (fun e h' tk hk => ⟨d, H, I.kept hk, rd, q0 e⟩) fun y ys i v h' tk e hi hH hk => ?_
      obtain ⟨as, hR⟩ := hH
      obtain ⟨m1, m2⟩ := max_of ns y ys e
      have hR' : Reads h' v (.int (PySem.W.maxOf y ys)) as := hR
      cases hR' with
      | int i t => exact ⟨.int _, H, I.kept hk, ⟨_, rfl⟩, q1 y ys e _ m1 m2⟩
end
end Ls
end

section
set_option Elab.async false
set_option linter.all false
set_option maxRecDepth 100000
set_option maxHeartbeats 4000000
namespace Ls
open PySem PySem.Spec PyProof.Rows L2

/-- what a display asks behind its items -/
def kTup (xs : List V) (H : Hp) (Q : VK) : Prop := xs.length ≤ sizeLine ∧ ∀ p, H p = none → Q (.ref p) (upd H p (.tup xs))
def kLst (xs : List V) (H : Hp) (Q : VK) : Prop := xs.length ≤ sizeLine ∧ ∀ p, H p = none → p ≠ 1 → Q (.ref p) (upd H p (.lst xs))
def kPart (x : V) (QO : Option Int → Hp → Prop) (H1 : Hp) : Prop := ∃ i, x = .int i ∧ QO (some i) H1
def kB (x : V) (H : Hp) (Q : Bool → Hp → Prop) : Prop := ∃ k, x = .bl k ∧ Q k H
/-- what a for, a comprehension asks once it is known what is walked -/
def kFor (J : It) (g : TG) (tb : TS) (D : Ends) (σ : L2.St) (H : Hp) : Prop := ∃ W : Nat → Nat → L2.St → Hp → Prop, (∃ m, W 0 m σ H) ∧ ∀ i m σ H, W i m σ H →
  (J.stop i H ∧ D.nx σ H) ∨ (J.go i H ∧ ∃ N : L2.St → Hp → Prop, (∀ σ' H', N σ' H' → ∃ m', m' < m ∧ W (i + 1) m' σ' H') ∧ ∀ x H', J.yld i H x H' → g x σ H' fun σ2 H2 => tb { D with nx := N, ct := N, bk := D.nx } σ2 H2)
def kLc (J : It) (g : TG) (tt : TT) (te : TE) (vs : List Nat) (σ : L2.St) (H1 : Hp) (Q : VK) : Prop := ∀ D, H1 D = none → ∃ W : Nat → Nat → Hp → Prop, (∃ m, W 0 m (upd H1 D (.lst []))) ∧ ∀ i m H, W i m H →
  (J.stop i H ∧ Q (.ref D) H) ∨ (J.go i H ∧ ∃ Nx : Hp → Prop, (∀ H', Nx H' → ∃ m', m' < m ∧ W (i + 1) m' H') ∧ ∀ x H', J.yld i H x H' → g x (wipe σ vs) H' fun σ2 H2 => wipe σ2 vs = wipe σ vs ∧ tt σ2 H2 fun b H3 =>
    if b = true then te σ2 H3 fun y H4 => ∃ acc, H4 D = some (.lst acc) ∧ acc.length < sizeLine ∧ Nx (upd H4 D (.lst (acc ++ [y]))) else Nx H3)
section
variable {σ σ2 : L2.St} {H : Hp} {Q : VK} {v x y : V} {ta tb te : TE} {t : TA} {D : Ends} {K : PySem.W.Frag} {QA : List V → Hp → Prop} {tt uu : TT} {QT : Bool → Hp → Prop} {s1 s2 : TS} {g : TG} {QS : L2.St → Hp → Prop}
theorem r_var {i : Nat} (h : σ[i]? = some (some v)) (q : Q v H) : tVar i σ H Q := ⟨v, h, q⟩
theorem r_c (q : Q v H) : tC v σ H Q := q
theorem r_op {r : R2} (h : ta σ H fun x H1 => tb σ H1 fun y H2 => r x y H2 Q) : tOp r ta tb σ H Q := h
theorem r_un {r : V → Hp → VK → Prop} (h : ta σ H fun x H1 => r x H1 Q) : tUn r ta σ H Q := h
theorem r_nil (q : QA [] H) : tNil σ H QA := q
theorem r_cons (h : ta σ H fun x H1 => t σ H1 fun xs H2 => QA (x :: xs) H2) : tCons ta t σ H QA := h
theorem r_cb {r : List V → Hp → VK → Prop} (h : t σ H fun vs H1 => r vs H1 Q) : tCB r t σ H Q := h
theorem r_ckw {r : List V → List V → Hp → VK → Prop} {tk : TA} (h : t σ H fun vs H1 => tk σ H1 fun zs H2 => r vs zs H2 Q) : tCKw r t tk σ H Q := h
theorem r_cal {sp : Sp} {E : XK} (h : t σ H fun vs H1 => sp vs H1 Q E) : tCal sp E t σ H Q := h
theorem r_calK {sp : Sp} {E : XK} {perm : List V → List V} (h : t σ H fun vs H1 => sp (perm vs) H1 Q E) : tCalK sp E perm t σ H Q := h
theorem r_tup (h : t σ H fun xs H1 => kTup xs H1 Q) : tTup t σ H Q := h
theorem r_lst (h : t σ H fun xs H1 => kLst xs H1 Q) : tLstN t σ H Q := h
theorem r_if (h : tt σ H fun c H1 => if c = true then ta σ H1 Q else tb σ H1 Q) : tIf tt ta tb σ H Q := h
theorem r_andV (h : ta σ H fun x H1 => kB x H1 fun c H1 => if c = true then tb σ H1 Q else Q (.bl false) H1) : tAndV ta tb σ H Q := h
theorem r_orV (h : ta σ H fun x H1 => kB x H1 fun c H1 => if c = true then Q (.bl true) H1 else tb σ H1 Q) : tOrV ta tb σ H Q := h
theorem r_notV (h : ta σ H fun x H1 => kB x H1 fun c H1 => Q (.bl (!c)) H1) : tNotV ta σ H Q := h
theorem r_chain {r r' : R2} {tc : TE} (h : ta σ H fun x H1 => tb σ H1 fun y H2 => r x y H2 fun z H3 => kB z H3 fun k H3 => if k = true then tc σ H3 fun w' H4 => r' y w' H4 Q else Q (.bl false) H3) : tChain r r' ta tb tc σ H Q := h
theorem r_sl {r : V → Option Int → Option Int → Hp → VK → Prop} {tl th : TO} (h : te σ H fun x H1 => tl σ H1 fun l H2 => th σ H2 fun u H3 => r x l u H3 Q) : tSl r te tl th σ H Q := h
theorem r_nopart {QO : Option Int → Hp → Prop} (q : QO none H) : tNoPart σ H QO := q
theorem r_part {QO : Option Int → Hp → Prop} (h : te σ H fun x H1 => kPart x QO H1) : tPart te σ H QO := h
theorem k_part {QO : Option Int → Hp → Prop} {i : Int} (q : QO (some i) H) : kPart (.int i) QO H := ⟨i, rfl, q⟩
theorem r_bm0 {T : String} {r : V → List V → Hp → VK → Prop} (h : te σ H fun x H1 => tyV K T x H1 ∧ r x [] H1 Q) : tBM0 K T r te σ H Q := h
theorem r_bm {T : String} {r : V → List V → Hp → VK → Prop} (h : te σ H fun x H1 => tyV K T x H1 ∧ t σ H1 fun xs H2 => r x xs H2 Q) : tBM K T r te t σ H Q := h
theorem r_test (h : te σ H fun x H1 => kB x H1 QT) : tTest te σ H QT := h
theorem r_B (h : te σ H fun x H1 => kB x H1 QT) : tB te σ H QT := h
theorem k_B {b : Bool} (q : QT b H) : kB (.bl b) H QT := ⟨b, rfl, q⟩
theorem r_not (h : tt σ H fun c H1 => QT (!c) H1) : tNot tt σ H QT := h
theorem r_and (h : tt σ H fun c H1 => if c = true then uu σ H1 QT else QT false H1) : tAnd tt uu σ H QT := h
theorem r_or (h : tt σ H fun c H1 => if c = true then QT true H1 else uu σ H1 QT) : tOr tt uu σ H QT := h
theorem br {c A B : Prop} [Decidable c] (h1 : c → A) (h2 : ¬ c → B) : if decide c = true then A else B := by
  by_cases h : c
  · rw [decide_eq_true h, if_pos rfl]; exact h1 h
  · rw [decide_eq_false h, if_neg Bool.false_ne_true]; exact h2 h
theorem brN {c A B : Prop} [Decidable c] (h1 : ¬ c → A) (h2 : c → B) : if (!decide c) = true then A else B := by
  by_cases h : c
  · rw [decide_eq_true h, if_neg (by decide)]; exact h2 h
  · rw [decide_eq_false h, if_pos (by decide)]; exact h1 h
theorem brB {b : Bool} {A B : Prop} (h1 : b = true → A) (h2 : b = false → B) : if b = true then A else B := by
  cases b with
  | true => rw [if_pos rfl]; exact h1 rfl
  | false => rw [if_neg Bool.false_ne_true]; exact h2 rfl
theorem brBN {b : Bool} {A B : Prop} (h1 : b = false → A) (h2 : b = true → B) : if (!b) = true then A else B := by
  cases b with
  | true => rw [if_neg (by decide)]; exact h2 rfl
  | false => rw [if_pos (by decide)]; exact h1 rfl
theorem ifY {c A B : Prop} [Decidable c] (hc : c) (h : A) : if decide c = true then A else B := br (fun _ => h) fun n => absurd hc n
theorem ifN {c A B : Prop} [Decidable c] (hc : ¬ c) (h : B) : if decide c = true then A else B := br (fun n => absurd n hc) fun _ => h
theorem ifnY {c A B : Prop} [Decidable c] (hc : ¬ c) (h : A) : if (!decide c) = true then A else B := brN (fun _ => h) fun n => absurd n hc
theorem ifnN {c A B : Prop} [Decidable c] (hc : c) (h : B) : if (!decide c) = true then A else B := brN (fun n => absurd hc n) fun _ => h
theorem r_seq (h : s1 { D with nx := s2 D } σ H) : tSeq s1 s2 D σ H := h
theorem r_ifS (h : tt σ H fun b H1 => if b = true then s1 D σ H1 else s2 D σ H1) : tIfS tt s1 s2 D σ H := h
theorem r_next (q : D.nx σ H) : tNext D σ H := q
theorem r_brk (q : D.bk σ H) : tBreak D σ H := q
theorem r_cont (q : D.ct σ H) : tCont D σ H := q
theorem r_ret (h : te σ H D.rt) : tRet te D σ H := h
theorem r_retN (h : D.rt .non H) : tRetN D σ H := h
theorem r_drop (h : te σ H fun _ H1 => D.nx σ H1) : tDrop te D σ H := h
theorem r_asg (h : te σ H fun x H1 => g x σ H1 D.nx) : tAsg te g D σ H := h
theorem r_par {i j : Nat} (h : t σ H fun vs H1 => ∃ v w, vs = [v, w] ∧ D.nx ((σ.set i (some v)).set j (some w)) H1) : tPar i j t D σ H := h
theorem k_par {i j : Nat} (q : D.nx ((σ.set i (some x)).set j (some y)) H) : ∃ v w, [x, y] = [v, w] ∧ D.nx ((σ.set i (some v)).set j (some w)) H := ⟨x, y, rfl, q⟩
theorem r_aug {i : Nat} {ti : TIp} (h : σ[i]? = some (some x)) (q : te σ H fun y H1 => ti x y H1 fun z H2 => D.nx (σ.set i (some z)) H2) : tAug i te ti D σ H := ⟨x, h, q⟩
theorem y_ip {f : Int → Int → Int} {i j : Int} (q : Q (.int (f i j)) H) : ipI f (.int i) (.int j) H Q := ⟨i, j, rfl, rfl, q⟩
theorem g_name {i : Nat} (q : QS (σ.set i (some v)) H) : gName i v σ H QS := q
theorem g_tup {n : Nat} {gs : TGs} {a : Addr} {xs : List V} (hs : SqT K H a xs) (hl : xs.length = n) (q : gs xs σ H QS) : gTup K n gs (.ref a) σ H QS := ⟨a, xs, rfl, hs, hl, q⟩
theorem g_nil (q : QS σ H) : gNil [] σ H QS := ⟨rfl, q⟩
theorem g_cons {gs : TGs} {xs : List V} (q : g v σ H fun σ' H' => gs xs σ' H' QS) : gCons g gs (v :: xs) σ H QS := ⟨v, xs, rfl, q⟩
theorem g_sub {ts : TSet} (q : ta σ H fun o H1 => tb σ H1 fun i H2 => ts o i v H2 fun H3 => QS σ H3) : gSub ta tb ts v σ H QS := q
theorem e_nx {n b c : L2.St → Hp → Prop} {r : VK} (q : n σ H) : (Ends.mk n r b c).nx σ H := q
theorem e_rt {n b c : L2.St → Hp → Prop} {r : VK} (q : r v H) : (Ends.mk n r b c).rt v H := q
theorem e_bk {n b c : L2.St → Hp → Prop} {r : VK} (q : b σ H) : (Ends.mk n r b c).bk σ H := q
theorem e_ct {n b c : L2.St → Hp → Prop} {r : VK} (q : c σ H) : (Ends.mk n r b c).ct σ H := q
theorem r_for {wi : TI} {tb : TS} (h : wi σ H fun J H1 => kFor J g tb D σ H1) : tFor wi g tb D σ H := h
theorem r_lc {wi : TI} {vs : List Nat} (h : wi σ H fun J H1 => kLc J g tt te vs σ H1 Q) : tLc wi g tt te vs σ H Q := h
theorem k_tup {xs : List V} (q : ∀ p H', H p = none → Ex H H' → H' p = some (.tup xs) → Q (.ref p) H') (hz : xs.length ≤ 1000 := by simp) : kTup xs H Q :=
  ⟨Nat.le_trans hz (by decide), fun p n => q p _ n (Ex.new n) upd_same⟩
theorem k_lst {xs : List V} (q : ∀ p H', H p = none → p ≠ 1 → Ex H H' → H' p = some (.lst xs) → Q (.ref p) H') (hz : xs.length ≤ 1000 := by simp) : kLst xs H Q :=
  ⟨Nat.le_trans hz (by decide), fun p n m => q p _ n m (Ex.new n) upd_same⟩
theorem y_add {i j : Int} (q : Q (.int (i + j)) H) : rAddU K (.int i) (.int j) H Q := .inl ⟨i, j, rfl, rfl, q⟩
theorem y_addS {a b : Str} (hz : a.length + b.length ≤ sizeLine) (q : Q (.str (a ++ b)) H) : rAddU K (.str a) (.str b) H Q := .inr (.inl ⟨a, b, rfl, rfl, hz, q⟩)
theorem y_addT {a b : Addr} {xs ys : List V} (ha : SqT K H a xs) (hb : SqT K H b ys) (hz : xs.length + ys.length ≤ sizeLine) (q : ∀ p H', Ex H H' → SqT K H' p (xs ++ ys) → Q (.ref p) H') : rAddU K (.ref a) (.ref b) H Q :=
  .inr (.inr (.inl ⟨a, b, xs, ys, rfl, rfl, ha, hb, hz, fun e => q b H (Ex.refl H) (by rw [e]; exact hb), fun _ e => q a H (Ex.refl H) (by rw [e, List.append_nil]; exact ha), fun _ _ p n => q p _ (Ex.new n) (.of upd_same)⟩))
theorem y_addL {a b : Addr} {xs ys : List V} (ha : H a = some (.lst xs)) (hb : H b = some (.lst ys)) (hz : xs.length + ys.length ≤ sizeLine) (q : ∀ p H', H p = none → Ex H H' → H' p = some (.lst (xs ++ ys)) → Q (.ref p) H') : rAddU K (.ref a) (.ref b) H Q :=
  .inr (.inr (.inr ⟨a, b, xs, ys, rfl, rfl, ha, hb, hz, fun p n => q p _ n (Ex.new n) upd_same⟩))
theorem y_mul {i j : Int} (h : CMul i j) (q : Q (.int (i * j)) H) : rMulU K (.int i) (.int j) H Q := .inl ⟨i, j, rfl, rfl, h, q⟩
theorem y_mulL {a : Addr} {xs : List V} {k : Int} (ha : H a = some (.lst xs)) (h0 : 0 ≤ k) (h1 : k ≤ 1000) (hz : xs.length ≤ 1000) (q : ∀ p H', H p = none → Ex H H' → H' p = some (.lst (List.replicate k.toNat xs).flatten) → Q (.ref p) H') : rMulU K (.ref a) (.int k) H Q := by
  refine .inr (.inl ⟨a, k, xs, rfl, rfl, ha, by omega, by omega, ?_, fun p n => q p _ n (Ex.new n) upd_same⟩)
  have h2 : k.toNat ≤ 1000 := by omega
  exact Nat.le_trans (Nat.mul_le_mul hz h2) (by decide)
theorem y_mulT {a : Addr} {xs : List V} {k : Int} (ha : SqT K H a xs) (hn : xs ≠ []) (h0 : 2 ≤ k) (h1 : k ≤ 1000) (hz : xs.length ≤ 1000) (q : ∀ p H', H p = none → Ex H H' → H' p = some (.tup (List.replicate k.toNat xs).flatten) → Q (.ref p) H') : rMulU K (.ref a) (.int k) H Q :=
  .inr (.inr (.inl ⟨a, k, xs, rfl, rfl, ha, hn, h0, h1, hz, fun p n => q p _ n (Ex.new n) upd_same⟩))
theorem y_mulS {c n : Nat} (hn : n ≤ 100000) (q : Q (.str ⟨(List.replicate n c).toArray⟩) H) : rMulU K (.str ⟨#[c]⟩) (.int (n : Nat)) H Q := .inr (.inr (.inr ⟨c, n, rfl, rfl, hn, q⟩))
theorem y_sub {i j : Int} (q : Q (.int (i - j)) H) : rSubI (.int i) (.int j) H Q := ⟨i, j, rfl, rfl, q⟩
theorem y_fdiv {i j : Int} (h : CDiv i j) (q : Q (.int (i / j)) H) : rFdiv (.int i) (.int j) H Q := ⟨i, j, rfl, rfl, h, q⟩
theorem y_mod {i j : Int} (h : 0 < j) (q : Q (.int (i % j)) H) : rMod (.int i) (.int j) H Q := ⟨i, j, rfl, rfl, h, q⟩
theorem y_pow {i j : Int} (h : CPow i j) (q : Q (.int (i ^ j.toNat)) H) : rPow (.int i) (.int j) H Q := ⟨i, j, rfl, rfl, h, q⟩
theorem y_neg {i : Int} (q : Q (.int (-i)) H) : rNeg (.int i) H Q := ⟨i, rfl, q⟩
theorem y_lt {i j : Int} (q : Q (.bl (decide (i < j))) H) : rLt (.int i) (.int j) H Q := ⟨i, j, rfl, rfl, q⟩
theorem y_le {i j : Int} (q : Q (.bl (decide (i ≤ j))) H) : rLe (.int i) (.int j) H Q := ⟨i, j, rfl, rfl, q⟩
theorem y_gt {i j : Int} (q : Q (.bl (decide (j < i))) H) : rGtU (.int i) (.int j) H Q := ⟨i, j, rfl, rfl, q⟩
theorem y_ge {i j : Int} (q : Q (.bl (decide (j ≤ i))) H) : rGeU (.int i) (.int j) H Q := ⟨i, j, rfl, rfl, q⟩
theorem decV {α : Type} {f : α → V} (hf : ∀ a b, f a = f b → a = b) (a b : α) [Decidable (a = b)] : decide (f a = f b) = decide (a = b) := by
  by_cases e : a = b
  · rw [decide_eq_true e, e]; simp
  · rw [decide_eq_false e]; exact decide_eq_false fun z => e (hf _ _ z)
theorem y_eqI {i j : Int} (q : Q (.bl (decide (i = j))) H) : rEqU K (.int i) (.int j) H Q := .inl ⟨rfl, by rw [decV (f := V.int) (fun _ _ e => V.int.inj e)]; exact q⟩
theorem y_eqS {i j : Str} (q : Q (.bl (decide (i = j))) H) : rEqU K (.str i) (.str j) H Q := .inl ⟨rfl, by rw [decV (f := V.str) (fun _ _ e => V.str.inj e)]; exact q⟩
theorem y_neI {i j : Int} (q : Q (.bl (!decide (i = j))) H) : rNeU K (.int i) (.int j) H Q := .inl ⟨rfl, by rw [decV (f := V.int) (fun _ _ e => V.int.inj e)]; exact q⟩
theorem y_neS {i j : Str} (q : Q (.bl (!decide (i = j))) H) : rNeU K (.str i) (.str j) H Q := .inl ⟨rfl, by rw [decV (f := V.str) (fun _ _ e => V.str.inj e)]; exact q⟩
theorem y_isNo (q : Q (.bl (decide (x = .non))) H) : rIsNo x .non H Q := ⟨rfl, q⟩
theorem y_isntNo (q : Q (.bl (!decide (x = .non))) H) : rIsntNo x .non H Q := ⟨rfl, q⟩
theorem y_inS {c : Nat} {z : Str} (q : Q (.bl (decide (c ∈ z.cps.toList))) H) : rInU K (.str ⟨#[c]⟩) (.str z) H Q := .inr ⟨c, z, rfl, rfl, q⟩
theorem y_ixL {p : Addr} {xs : List V} {i : Int} (h : SqL K H p xs) (ha : atI xs i = some v) (q : Q v H) : rIx K (.ref p) (.int i) H Q := .inl ⟨p, xs, i, v, rfl, rfl, h, ha, q⟩
theorem y_ixT {p : Addr} {xs : List V} {i : Int} (h : SqT K H p xs) (ha : atI xs i = some v) (q : Q v H) : rIx K (.ref p) (.int i) H Q := .inr (.inl ⟨p, xs, i, v, rfl, rfl, h, ha, q⟩)
theorem y_ixS {z : Str} {i : Int} {c : Nat} (hz : z.length ≤ sizeLine) (ha : atI z.cps.toList i = some c) (q : Q (.str ⟨#[c]⟩) H) : rIx K (.str z) (.int i) H Q := .inr (.inr ⟨z, i, c, rfl, rfl, hz, ha, q⟩)
theorem y_setL {p : Addr} {xs : List V} {i : Int} {j : Nat} {QH : Hp → Prop} (h : H p = some (.lst xs)) (hj : ixN xs.length i = some j) (q : ∀ H', Em p H H' → H' p = some (.lst (xs.set j v)) → QH H') : rSetL (.ref p) (.int i) v H QH := ⟨p, xs, i, j, rfl, rfl, h, hj, q _ Em.put upd_same⟩
theorem y_abs {i : Int} (q : Q (.int (if i < 0 then -i else i)) H) : rAbs [.int i] H Q := ⟨i, rfl, q⟩
theorem y_max2 {i j : Int} (q : Q (.int (if j > i then j else i)) H) : rMaxU K [.int i, .int j] H Q := .inl ⟨i, j, rfl, q⟩
theorem y_min2 {i j : Int} (q : Q (.int (if j < i then j else i)) H) : rMinU K [.int i, .int j] H Q := .inl ⟨i, j, rfl, q⟩
theorem y_maxL {a : Addr} {ns : List Int} (h : SqL K H a (ns.map V.int)) (hn : 0 < ns.length) (q : ∀ m, m ∈ ns → (∀ z, z ∈ ns → z ≤ m) → Q (.int m) H) : rMaxU K [.ref a] H Q := .inr ⟨a, ns, rfl, h, hn, q⟩
theorem y_maxD {a : Addr} {ns : List Int} {d : Int} (h : SqL K H a (ns.map V.int)) (q : ∀ m, (ns = [] → m = d) → (ns ≠ [] → m ∈ ns ∧ ∀ z, z ∈ ns → z ≤ m) → Q (.int m) H) : rMaxD K [.ref a] [.int d] H Q :=
  ⟨a, ns, .int d, rfl, rfl, h, fun e => q d (fun _ => rfl) (fun n => absurd e n), fun y ys e m m1 m2 => q m (fun z => by rw [z] at e; cases e) fun _ => ⟨m1, m2⟩⟩
theorem y_intI {i : Int} (q : Q (.int i) H) : rIntU [.int i] H Q := .inl (.inl ⟨i, rfl, q⟩)
theorem y_intB {b : Bool} (q : Q (.int (if b then 1 else 0)) H) : rIntU [.bl b] H Q := .inl (.inr ⟨b, rfl, q⟩)
theorem y_intS {a : Str} {n : Int} (h : PySem.intText? a = some n) (hz : a.length ≤ 640) (q : Q (.int n) H) : rIntU [.str a] H Q := .inr ⟨a, n, rfl, h, hz, q⟩
theorem y_str {i : Int} (h : i.natAbs.log2 < 1920) (q : Q (.str (toString i)) H) : rStrI [.int i] H Q := ⟨i, rfl, h, q⟩
theorem y_lenL {p : Addr} {xs : List V} (h : SqL K H p xs) (q : Q (.int (xs.length : Nat)) H) : rLen K [.ref p] H Q := ⟨_, xs.length, rfl, .inl ⟨xs, h, rfl⟩, q⟩
theorem y_lenT {p : Addr} {xs : List V} (h : SqT K H p xs) (q : Q (.int (xs.length : Nat)) H) : rLen K [.ref p] H Q := ⟨_, xs.length, rfl, .inr ⟨xs, h, rfl⟩, q⟩
theorem y_lenS {z : Str} (hz : z.length ≤ sizeLine) (q : Q (.int (z.length : Nat)) H) : rLen K [.str z] H Q := ⟨_, z.length, rfl, ⟨hz, rfl⟩, q⟩
theorem y_divmod {i j : Int} (h : CDiv i j) (q : ∀ p H', H p = none → Ex H H' → H' p = some (.tup [.int (i / j), .int (i % j)]) → Q (.ref p) H') : rDivmod [.int i, .int j] H Q := ⟨i, j, rfl, h, fun p n => q p _ n (Ex.new n) upd_same⟩
theorem y_tupL {p : Addr} {ys : List V} (h : SqL K H p ys) (q : ∀ l H', H l = none → Ex H H' → H' l = some (.tup ys) → Q (.ref l) H') : rTupOf K [.ref p] H Q := ⟨p, ys, rfl, .inl ⟨h, fun l n => q l _ n (Ex.new n) upd_same⟩⟩
theorem y_tupT {p : Addr} {ys : List V} (h : SqT K H p ys) (q : Q (.ref p) H) : rTupOf K [.ref p] H Q := ⟨p, ys, rfl, .inr ⟨h, q⟩⟩
theorem y_sum {a : Addr} {ns : List Int} (h : SqL K H a (ns.map V.int)) (q : Q (.int ns.sum) H) : rSum K [.ref a] H Q := ⟨a, ns, rfl, h, q⟩
theorem y_all {a : Addr} {bs : List Bool} (h : SqL K H a (bs.map V.bl)) (q : Q (.bl (bs.all id)) H) : rAll K [.ref a] H Q := ⟨a, bs, rfl, h, q⟩
theorem y_any {a : Addr} {bs : List Bool} (h : SqL K H a (bs.map V.bl)) (q : Q (.bl (bs.any id)) H) : rAny K [.ref a] H Q := ⟨a, bs, rfl, h, q⟩
theorem y_repr {d : PyData} (h : Dt K H x d) (hs : d.showable = true) (hz : d.shown.length ≤ sizeLine) (hd : d.depth ≤ 40) (q : Q (.str d.shown) H) : rRepr K [x] H Q := ⟨x, d, rfl, .inl h, hs, hz, hd, q⟩
theorem y_reprP {d : PyData} (h : Dp K H x d) (hn : d.hasDict = false) (hs : d.showable = true) (hz : d.shown.length ≤ sizeLine) (hd : d.depth ≤ 40) (q : Q (.str d.shown) H) : rRepr K [x] H Q := ⟨x, d, rfl, .inr ⟨h, hn⟩, hs, hz, hd, q⟩
theorem y_slL {p : Addr} {xs : List V} {lo hi : Option Int} (h : SqL K H p xs) (q : ∀ l H', H l = none → Ex H H' → H' l = some (.lst (cutV xs lo hi)) → Q (.ref l) H') : rSlL K (.ref p) lo hi H Q := ⟨p, xs, rfl, h, fun l n => q l _ n (Ex.new n) upd_same⟩
theorem y_slS {z : Str} {lo hi : Option Int} (hz : z.length ≤ sizeLine) (q : Q (.str (cutS z lo hi)) H) : rSlS (.str z) lo hi H Q := ⟨z, rfl, hz, q⟩
end
def tyn : PyData → String
  | .none => "NoneType" | .bool _ => "bool" | .int _ => "int" | .str _ => "str" | .list _ => "list" | .tuple _ => "tuple" | .dict _ => "dict"
theorem Dt.ty {K : PySem.W.Frag} {H : Hp} {v : V} {d : PyData} (h : Dt K H v d) : TyX K H v (.type (tyn d)) := by
  cases h with
  | non => exact .base .non
  | bl b => exact .base (.bl b)
  | int i => exact .base (.int i)
  | str x => exact .base (.str x)
  | lst h _ _ =>
    rcases h with (h | ⟨o, h⟩) | ⟨o, its, n, hk, hc, _⟩
    · exact .base (.lst h)
    · exact .base (.frz h)
    · exact .kList hk hc
  | tup h _ =>
    rcases h with (h | ⟨o, h⟩) | ⟨o, its, n, hk, hc, _⟩
    · exact .base (.tup h)
    · exact .fTuple h
    · exact .kTuple hk hc
  | dct h _ =>
    rcases h with h | ⟨o, h⟩
    · exact .base (.dK h)
    · exact .fDict h
theorem y_isi {K : PySem.W.Frag} {H : Hp} {Q : VK} {v : V} {d : PyData} {T : String} {b : Bool} (h : Dt K H v d) (hb : kitB (tyn d) T = some b) (q : Q (.bl b) H) : rIsiU K [v, .ty T] H Q :=
  .inl ⟨v, .ty T, .type (tyn d), .type T, b, rfl, .ty T, h.ty, kit_ty hb, q⟩
end Ls
end

section
set_option Elab.async false
set_option linter.all false
set_option maxRecDepth 100000
set_option maxHeartbeats 4000000
namespace Ls
open PySem PySem.Spec PyProof.Rows L2
section
variable {X : Cx} {tg : Expr}
theorem pe_const {x : Str} {v : V} {pos : Pos} (h : ∃ u, X.mg x = some u ∧ RelV v u) (hg : Gl X x := by rfl) (hd : (x == ("__debug__" : Str)) = false := by decide) : PE X (.Name x pos) (tC v) := by
  obtain ⟨u, hm, r⟩ := h
  exact pe_glob hg hm r hd
def rSlU (K : PySem.W.Frag) : V → Option Int → Option Int → Hp → VK → Prop := fun x lo hi H Q => rSlL K x lo hi H Q ∨ rSlA K x lo hi H Q ∨ rSlS x lo hi H Q
theorem sl_U : SlR X (rSlU X.K) := sl_list.or (sl_tupA.or sl_str)
def kSeq (K : PySem.W.Frag) (x : V) (R : It → Hp → Prop) (H1 : Hp) : Prop := ∃ a, x = .ref a ∧ (((∃ xs, SqL K H1 a xs) ∧ R (Itl K a) H1) ∨ ((∃ xs, SqT K H1 a xs) ∧ R (Itt K a) H1))
def kRng (vs : List V) (R : It → Hp → Prop) (H1 : Hp) : Prop := ∃ j : Int, vs = [.int j] ∧ -(2 ^ 62) ≤ j ∧ j < 2 ^ 62 ∧ R (Itr 0 j.toNat) H1
/-- a list or a tuple, walked -/
def iSeq (K : PySem.W.Frag) (tl : TE) : TI := fun σ H R => tl σ H fun x H1 => kSeq K x R H1
theorem pi_seq {l : Expr} {tl : TE} (hl : PE X l tl) : PI X tg l (iSeq X.K tl) := by
  refine ⟨fun pins s σ H R I h => ?_⟩
  refine thn (hl.run pins s σ H _ I h) fun v s1 ⟨x, H1, I1, r1, a, e, q⟩ => ?_
  subst e
  cases r1
  have fr : ∀ b ∈ [s1.heap.objs.size], FpOk X pins H1 b := fun b hb => by
    have z : b = s1.heap.objs.size := by simpa using hb
    subst z
    exact I1.fpOk (Nat.le_refl _) (I1.hok.fresh (Nat.le_refl _))
  rcases q with ⟨⟨xs, hq⟩, q⟩ | ⟨⟨xs, hq⟩, q⟩
  · obtain ⟨its, rv, p, hz⟩ := I1.list hq
    exact wpAny_pyIter_list p.isList ⟨_, _, _, _, H1, rfl, I1.kept (t' := s1.toks) fun b o z => Heap.get?_push_of_some _ z, turn_list a _, ⟨_, Heap.get?_push_size _ rfl, rfl, rfl⟩, fr, q⟩
  · obtain ⟨its, rv, p, hz⟩ := I1.tuple hq
    exact wpAny_pyIter_tuple (show s1.heap.IsTuple a its.toArray from p) ⟨_, _, _, _, H1, rfl, I1.kept (t' := s1.toks) fun b o z => Heap.get?_push_of_some _ z, turn_tuple a _, ⟨_, Heap.get?_push_size _ rfl, rfl, rfl⟩, fr, q⟩
end
section
variable {σ : L2.St} {H : Hp} {Q : VK} {K : PySem.W.Frag} {tl : TE} {R : It → Hp → Prop} {g : TG} {tb : TS} {D : Ends} {tt : TT} {te : TE} {vs : List Nat} {ta : TA}
theorem i_seq (h : tl σ H fun x H1 => kSeq K x R H1) : iSeq K tl σ H R := h
theorem i_L {a : Addr} {xs : List V} (h : SqL K H a xs) (q : R (Itl K a) H) : kSeq K (.ref a) R H := ⟨a, rfl, .inl ⟨⟨xs, h⟩, q⟩⟩
theorem i_T {a : Addr} {xs : List V} (h : SqT K H a xs) (q : R (Itt K a) H) : kSeq K (.ref a) R H := ⟨a, rfl, .inr ⟨⟨xs, h⟩, q⟩⟩
theorem i_rng1 (h : ta σ H fun vs H1 => kRng vs R H1) : iRng1 ta σ H R := h
theorem i_r1 {j : Int} (h1 : -(2 ^ 62) ≤ j) (h2 : j < 2 ^ 62) (q : R (Itr 0 j.toNat) H) : kRng [.int j] R H := ⟨j, rfl, h1, h2, q⟩
theorem k_forL {a : Addr} {xs : List V} (Pv : Nat → L2.St → Hp → Prop) (h0 : Pv 0 σ H) (hl : ∀ i σ H, i ≤ xs.length → Pv i σ H → SqL K H a xs)
    (hs : ∀ i x σ H, xs[i]? = some x → Pv i σ H → g x σ H fun σ2 H2 => tb { D with nx := Pv (i + 1), ct := Pv (i + 1), bk := D.nx } σ2 H2) (hd : ∀ σ H, Pv xs.length σ H → D.nx σ H) : kFor (Itl K a) g tb D σ H := for_list Pv h0 hl hs hd
theorem k_forT {a : Addr} {xs : List V} (Pv : Nat → L2.St → Hp → Prop) (h0 : Pv 0 σ H) (hl : ∀ i σ H, i ≤ xs.length → Pv i σ H → SqT K H a xs)
    (hs : ∀ i x σ H, xs[i]? = some x → Pv i σ H → g x σ H fun σ2 H2 => tb { D with nx := Pv (i + 1), ct := Pv (i + 1), bk := D.nx } σ2 H2) (hd : ∀ σ H, Pv xs.length σ H → D.nx σ H) : kFor (Itt K a) g tb D σ H := for_tup Pv h0 hl hs hd
theorem k_forR {lo : Int} {n : Nat} (Pv : Nat → L2.St → Hp → Prop) (h0 : Pv 0 σ H)
    (hs : ∀ i σ H, i < n → Pv i σ H → g (.int (lo + i)) σ H fun σ2 H2 => tb { D with nx := Pv (i + 1), ct := Pv (i + 1), bk := D.nx } σ2 H2) (hd : ∀ σ H, Pv n σ H → D.nx σ H) : kFor (Itr lo n) g tb D σ H := for_range Pv h0 hs hd
def kTurn (D : Addr) (j : Nat) (Pv : Nat → List V → Hp → Prop) : VK := fun y H4 => ∃ acc, H4 D = some (.lst acc) ∧ acc.length < sizeLine ∧ ∃ ys, ys.length = j + 1 ∧ upd H4 D (.lst (acc ++ [y])) D = some (.lst ys) ∧ Pv (j + 1) ys (upd H4 D (.lst (acc ++ [y])))
theorem k_turn {D : Addr} {j : Nat} {Pv : Nat → List V → Hp → Prop} {ys : List V} {y : V} (h : H D = some (.lst ys)) (hl : ys.length = j) (hj : j < 100000) (q : Pv (j + 1) (ys ++ [y]) (upd H D (.lst (ys ++ [y])))) : kTurn D j Pv y H :=
  ⟨ys, h, Nat.lt_of_lt_of_le (by omega : ys.length < 100000) (by decide), ys ++ [y], by rw [List.length_append, hl]; rfl, upd_same, q⟩
theorem t_yes {A B : Hp → Prop} (h : A H) : tYes σ H (fun b H1 => if b = true then A H1 else B H1) := by
  show (if true = true then A H else B H)
  rw [if_pos rfl]
  exact h
theorem k_lcL {a : Addr} {xs : List V} {i0 : Nat} (Pv : Nat → List V → Hp → Prop) (h0 : ∀ D, H D = none → Pv 0 [] (upd H D (.lst []))) (hl : ∀ j ys H', j ≤ xs.length → Pv j ys H' → SqL K H' a xs)
    (hs : ∀ D j x ys H', H D = none → xs[j]? = some x → j < xs.length → ys.length = j → H' D = some (.lst ys) → Pv j ys H' → te ((wipe σ vs).set i0 (some x)) H' (kTurn D j Pv))
    (hw : ∀ x, wipe ((wipe σ vs).set i0 (some x)) vs = wipe σ vs) (hd : ∀ D ys H', H D = none → ys.length = xs.length → H' D = some (.lst ys) → Pv xs.length ys H' → Q (.ref D) H') : kLc (Itl K a) (gName i0) tYes te vs σ H Q := fun D hD =>
  lc_list (fun j H' => ∃ ys : List V, ys.length = j ∧ H' D = some (.lst ys) ∧ Pv j ys H') ⟨[], rfl, upd_same, h0 D hD⟩ (fun j H' hj ⟨ys, _, _, p⟩ => hl j ys H' hj p)
    (fun j x H' hx ⟨ys, hy, hHD, p⟩ => ⟨hw x, t_yes (hs D j x ys H' hD hx (List.getElem?_eq_some_iff.mp hx).1 hy hHD p)⟩) fun H' ⟨ys, hy, hHD, p⟩ => hd D ys H' hD hy hHD p
theorem k_lcT {a : Addr} {xs : List V} {i0 : Nat} (Pv : Nat → List V → Hp → Prop) (h0 : ∀ D, H D = none → Pv 0 [] (upd H D (.lst []))) (hl : ∀ j ys H', j ≤ xs.length → Pv j ys H' → SqT K H' a xs)
    (hs : ∀ D j x ys H', H D = none → xs[j]? = some x → j < xs.length → ys.length = j → H' D = some (.lst ys) → Pv j ys H' → te ((wipe σ vs).set i0 (some x)) H' (kTurn D j Pv))
    (hw : ∀ x, wipe ((wipe σ vs).set i0 (some x)) vs = wipe σ vs) (hd : ∀ D ys H', H D = none → ys.length = xs.length → H' D = some (.lst ys) → Pv xs.length ys H' → Q (.ref D) H') : kLc (Itt K a) (gName i0) tYes te vs σ H Q := fun D hD =>
  lc_tup (fun j H' => ∃ ys : List V, ys.length = j ∧ H' D = some (.lst ys) ∧ Pv j ys H') ⟨[], rfl, upd_same, h0 D hD⟩ (fun j H' hj ⟨ys, _, _, p⟩ => hl j ys H' hj p)
    (fun j x H' hx ⟨ys, hy, hHD, p⟩ => ⟨hw x, t_yes (hs D j x ys H' hD hx (List.getElem?_eq_some_iff.mp hx).1 hy hHD p)⟩) fun H' ⟨ys, hy, hHD, p⟩ => hd D ys H' hD hy hHD p
theorem k_lcR {lo : Int} {n : Nat} {i0 : Nat} (Pv : Nat → List V → Hp → Prop) (h0 : ∀ D, H D = none → Pv 0 [] (upd H D (.lst [])))
    (hs : ∀ D j ys H', H D = none → j < n → ys.length = j → H' D = some (.lst ys) → Pv j ys H' → te ((wipe σ vs).set i0 (some (.int (lo + j)))) H' (kTurn D j Pv))
    (hw : ∀ x, wipe ((wipe σ vs).set i0 (some x)) vs = wipe σ vs) (hd : ∀ D ys H', H D = none → ys.length = n → H' D = some (.lst ys) → Pv n ys H' → Q (.ref D) H') : kLc (Itr lo n) (gName i0) tYes te vs σ H Q := fun D hD =>
  lc_range (fun j H' => ∃ ys : List V, ys.length = j ∧ H' D = some (.lst ys) ∧ Pv j ys H') ⟨[], rfl, upd_same, h0 D hD⟩
    (fun j H' hj ⟨ys, hy, hHD, p⟩ => ⟨hw _, t_yes (hs D j ys H' hD hj hy hHD p)⟩) fun H' ⟨ys, hy, hHD, p⟩ => hd D ys H' hD hy hHD p
end
/-- tuples stand, and what is locked -/
def Et (H H' : Hp) : Prop := (∀ a xs, H a = some (.tup xs) → H' a = some (.tup xs)) ∧ ∀ a o u, H a = some (.frz o u) → H' a = some (.frz o u)
theorem Et.refl (H : Hp) : Et H H := ⟨fun _ _ h => h, fun _ _ _ h => h⟩
theorem Et.trans {H H1 H2 : Hp} (a : Et H H1) (b : Et H1 H2) : Et H H2 := ⟨fun x o h => b.1 _ _ (a.1 _ _ h), fun x o u h => b.2 _ _ _ (a.2 _ _ _ h)⟩
theorem Ex.et {H H' : Hp} (e : Ex H H') : Et H H' := ⟨fun _ _ h => e _ _ h, fun _ _ _ h => e _ _ h⟩
theorem Em.et {p : Addr} {xs : List V} {H H' : Hp} (e : Em p H H') (h : H p = some (.lst xs)) : Et H H' :=
  ⟨fun a ys q => e a _ (fun z => by rw [z, h] at q; cases q) q, fun a o u q => e a _ (fun z => by rw [z, h] at q; cases q) q⟩
theorem Et.putL {p : Addr} {xs ys : List V} {H : Hp} (h : H p = some (.lst xs)) : Et H (upd H p (.lst ys)) := Em.et Em.put h
theorem Ex.putN {p : Addr} {o : HO} {H H' : Hp} (e : Ex H H') (h : H p = none) : Ex H (upd H' p o) := fun a u q => by rw [upd_ne (ne_of_none q h)]; exact e a u q
theorem Em.putN {p q : Addr} {o : HO} {H H' : Hp} (e : Em q H H') (h : H p = none) : Em q H (upd H' p o) := fun a u n z => by rw [upd_ne (ne_of_none z h)]; exact e a u n z
theorem Et.st {K : PySem.W.Frag} {H H' : Hp} {a : Addr} {xs : List V} (e : Et H H') (h : SqT K H a xs) : SqT K H' a xs := by
  rcases h with (h | ⟨o, h⟩) | h
  · exact .inl (.inl (e.1 _ _ h))
  · exact .inl (.inr ⟨o, e.2 _ _ _ h⟩)
  · exact .inr h
mutual
inductive Fl (K : PySem.W.Frag) (H : Hp) : V → PyData → Prop
  | non : Fl K H .non .none
  | bl (b : Bool) : Fl K H (.bl b) (.bool b)
  | int (i : Int) : Fl K H (.int i) (.int i)
  | str (x : Str) : Fl K H (.str x) (.str x)
  | tup {a : Addr} {xs : List V} {ds : List PyData} : SqT K H a xs → FlAll K H xs ds → Fl K H (.ref a) (.tuple ds)
inductive FlAll (K : PySem.W.Frag) (H : Hp) : List V → List PyData → Prop
  | nil : FlAll K H [] []
  | cons {v : V} {vs : List V} {d : PyData} {ds : List PyData} : Fl K H v d → FlAll K H vs ds → FlAll K H (v :: vs) (d :: ds)
end
section
variable {K : PySem.W.Frag} {H H' : Hp}
mutual
theorem Fl.mono (e : Et H H') : ∀ {v : V} {d : PyData}, Fl K H v d → Fl K H' v d
  | _, _, .non => .non
  | _, _, .bl b => .bl b
  | _, _, .int i => .int i
  | _, _, .str x => .str x
  | _, _, .tup h a => .tup (e.st h) (a.mono e)
theorem FlAll.mono (e : Et H H') : ∀ {v : List V} {d : List PyData}, FlAll K H v d → FlAll K H' v d
  | _, _, .nil => .nil
  | _, _, .cons a b => .cons (a.mono e) (b.mono e)
end
mutual
theorem Fl.dt : ∀ {v : V} {d : PyData}, Fl K H v d → Dt K H v d
  | _, _, .non => .non
  | _, _, .bl b => .bl b
  | _, _, .int i => .int i
  | _, _, .str x => .str x
  | _, _, .tup h a => .tup h a.dt
theorem FlAll.dt : ∀ {v : List V} {d : List PyData}, FlAll K H v d → DtAll K H v d
  | _, _, .nil => .nil
  | _, _, .cons a b => .cons a.dt b.dt
end
mutual
theorem Fl.dp : ∀ {v : V} {d : PyData}, Fl K H v d → Dp K H v d
  | _, _, .non => .non
  | _, _, .bl b => .bl b
  | _, _, .int i => .int i
  | _, _, .str x => .str x
  | _, _, .tup h a => .tup h a.dp
theorem FlAll.dp : ∀ {v : List V} {d : List PyData}, FlAll K H v d → DpAll K H v d
  | _, _, .nil => .nil
  | _, _, .cons a b => .cons a.dp b.dp
end
theorem FlAll.length : ∀ {vs : List V} {ds : List PyData}, FlAll K H vs ds → vs.length = ds.length
  | _, _, .nil => rfl
  | _, _, .cons _ b => congrArg Nat.succ b.length
theorem FlAll.get : ∀ {vs : List V} {ds : List PyData} {i : Nat} {v : V}, FlAll K H vs ds → vs[i]? = some v → ∃ d, ds[i]? = some d ∧ Fl K H v d
  | _, _, _, _, .nil, e => by simp at e
  | _, _, 0, v, .cons a _, e => ⟨_, rfl, (Option.some.inj e : _ = v) ▸ a⟩
  | _, _, i + 1, v, .cons _ b, e => b.get (i := i) (by simpa using e)
theorem FlAll.append : ∀ {vs ws : List V} {ds es : List PyData}, FlAll K H vs ds → FlAll K H ws es → FlAll K H (vs ++ ws) (ds ++ es)
  | _, _, _, _, .nil, b => b
  | _, _, _, _, .cons x a, b => .cons x (a.append b)
theorem FlAll.take : ∀ {vs : List V} {ds : List PyData} (n : Nat), FlAll K H vs ds → FlAll K H (vs.take n) (ds.take n)
  | _, _, 0, _ => .nil
  | _, _, _ + 1, .nil => .nil
  | _, _, n + 1, .cons x a => .cons x (a.take n)
theorem FlAll.drop : ∀ {vs : List V} {ds : List PyData} (n : Nat), FlAll K H vs ds → FlAll K H (vs.drop n) (ds.drop n)
  | _, _, 0, r => r
  | _, _, _ + 1, .nil => .nil
  | _, _, n + 1, .cons _ a => a.drop n
theorem FlAll.snoc {vs : List V} {ds : List PyData} {v : V} {d : PyData} (a : FlAll K H vs ds) (b : Fl K H v d) : FlAll K H (vs ++ [v]) (ds ++ [d]) := a.append (.cons b .nil)
end
end Ls
end

section
set_option Elab.async false
set_option linter.all false
set_option maxRecDepth 100000
set_option maxHeartbeats 4000000
namespace Ls
open PySem PySem.Spec PyProof.Rows L2
/-- the pot: two numbers -/
def Pt (H : Hp) (p : Addr) : Prop := ∃ a b : Int, H p = some (.lst [.int a, .int b]) ∧ 0 ≤ a ∧ 0 ≤ b ∧ b < 2147483648
theorem Pt.ex {H H' : Hp} {p : Addr} (h : Pt H p) (e : Ex H H') : Pt H' p := let ⟨a, b, h1, h2⟩ := h; ⟨a, b, e _ _ h1, h2⟩
theorem Pt.et {H H' : Hp} {p : Addr} (h : Pt H p) (e : Em p H H') : Et H H' := let ⟨a, b, h1, _⟩ := h; e.et h1
theorem Pt.ne {H : Hp} {p q : Addr} (h : Pt H p) (n : H q = none) : p ≠ q := let ⟨a, b, h1, _⟩ := h; ne_of_none h1 n
theorem Pt.put {H : Hp} {p q : Addr} {o : HO} (h : Pt H p) (n : p ≠ q) : Pt (upd H q o) p := let ⟨a, b, h1, h2⟩ := h; ⟨a, b, by rw [upd_ne n]; exact h1, h2⟩
theorem seq_em {K : PySem.W.Frag} {p l : Addr} {xs : List V} {H H' : Hp} (h : SqL K H l xs) (n : l ≠ p) (e : Em p H H') : SqL K H' l xs := by
  rcases h with (h | ⟨o, h⟩) | h
  · exact .inl (.inl (e _ _ n h))
  · exact .inl (.inr ⟨o, e _ _ n h⟩)
  · exact .inr h
theorem seq_new {K : PySem.W.Frag} {p l : Addr} {xs : List V} {H H1 H2 : Hp} (h : SqL K H l xs) (n : H p = none) (e : Ex H H1) (m : Em p H1 H2) : SqL K H2 l xs := by
  rcases h with (h | ⟨o, h⟩) | h
  · exact .inl (.inl (m _ _ (ne_of_none h n) (e _ _ h)))
  · exact .inl (.inr ⟨o, m _ _ (ne_of_none h n) (e _ _ h)⟩)
  · exact .inr h
def sp_pot (K : PySem.W.Frag) : Sp := fun vs H Q _ => ∃ (s : Addr) (ns : List Int) (k : Nat), vs = [.ref s, .int k] ∧ SqL K H s (ns.map V.int) ∧ k ≤ 100 ∧ ∀ p H', H p = none → Ex H H' → Pt H' p → Q (.ref p) H'
def sp_digit : Sp := fun vs H Q _ => ∃ (p : Addr) (m : Int), vs = [.ref p, .int m] ∧ Pt H p ∧ 0 < m ∧ m < 1073741824 ∧ ∀ (d : Int) H', 0 ≤ d → d < m → Pt H' p → Em p H H' → Q (.int d) H'
def sp_pick (K : PySem.W.Frag) : Sp := fun vs H Q _ => ∃ (p l : Addr) (xs : List V), vs = [.ref p, .ref l] ∧ Pt H p ∧ SqL K H l xs ∧ l ≠ p ∧ 0 < xs.length ∧ xs.length ≤ 1000 ∧ ∀ (v : V) H', v ∈ xs → Pt H' p → Em p H H' → Q v H'
def sp_int : Sp := fun vs H Q _ => ∃ p : Addr, vs = [.ref p] ∧ Pt H p ∧ ∀ (i : Int) H', i.natAbs ≤ 10 ^ 21 → Pt H' p → Em p H H' → Q (.int i) H'
section
variable {σ : L2.St} {H : Hp} {Q : VK} {K : PySem.W.Frag} {te : TE} {vs : List Nat}
/-- [f(x) for x in t], t a tuple of data, f a function of the data -/
theorem k_lcDt {a : Addr} {xs : List V} {ds : List PyData} {i0 : Nat} (f : PyData → V) (hS : SqT K H a xs) (hD : DtAll K H xs ds) (hz : xs.length ≤ 99999)
    (hs : ∀ x d H1 (Q1 : VK), d ∈ ds → Ex H H1 → Dt K H1 x d → (∀ H2, Ex H1 H2 → Q1 (f d) H2) → te ((wipe σ vs).set i0 (some x)) H1 Q1)
    (hw : ∀ x, wipe ((wipe σ vs).set i0 (some x)) vs = wipe σ vs) (q : ∀ D H2, H D = none → Ex H H2 → H2 D = some (.lst (ds.map f)) → Q (.ref D) H2) : kLc (Itt K a) (gName i0) tYes te vs σ H Q := by
  refine k_lcT (xs := xs) (fun j ys H' => Ex H H' ∧ ys = (ds.take j).map f) (fun D n => ⟨Ex.new n, rfl⟩) (fun j ys H' _ p => p.1.st hS) (fun D j x ys H' n hx hj hl hHD p => ?_) hw fun D ys H' n hl hHD p => ?_
  · obtain ⟨e, rfl⟩ := p
    obtain ⟨d, hd, hf⟩ := hD.get hx
    refine hs x d H' _ (List.mem_of_getElem? hd) e (hf.mono e) fun H2 e2 => k_turn (e2 _ _ hHD) hl (by omega) ⟨Ex.putN (e.trans e2) n, ?_⟩
    rw [List.take_add_one, hd, List.map_append]
    rfl
  · obtain ⟨e, rfl⟩ := p
    refine q D H' n e ?_
    rw [hHD, hD.length, List.take_length]
/-- [draw for k in range(n)]: what each draw gives keeps G; G is kept where tuples stand -/
theorem k_lcPot {p : Addr} {lo : Int} {n : Nat} {i0 : Nat} (G : V → Hp → Prop) (gm : ∀ y H H', Et H H' → G y H → G y H') (hP : Pt H p) (hz : n ≤ 99999)
    (hs : ∀ (j : Nat) H1 (Q1 : VK), j < n → Em p H H1 → Pt H1 p → (∀ y H2, Em p H1 H2 → Pt H2 p → G y H2 → Q1 y H2) → te ((wipe σ vs).set i0 (some (.int (lo + j)))) H1 Q1)
    (hw : ∀ x, wipe ((wipe σ vs).set i0 (some x)) vs = wipe σ vs) (q : ∀ D ys H2, H D = none → Em p H H2 → Pt H2 p → H2 D = some (.lst ys) → ys.length = n → (∀ y, y ∈ ys → G y H2) → Q (.ref D) H2) : kLc (Itr lo n) (gName i0) tYes te vs σ H Q := by
  refine k_lcR (fun j ys H' => Em p H H' ∧ Pt H' p ∧ ∀ y, y ∈ ys → G y H') (fun D n => ⟨(Ex.new n).em p, hP.put (hP.ne n), fun _ h => nomatch h⟩) (fun D j ys H' nD hj hl hHD c => ?_) hw fun D ys H' nD hl hHD c => ?_
  · obtain ⟨e, hP', g⟩ := c
    have npD : D ≠ p := fun z => by obtain ⟨_, _, h, _⟩ := hP; rw [z] at nD; rw [nD] at h; cases h
    refine hs j H' _ hj e hP' fun y H2 e2 P2 gy => k_turn (e2 _ _ npD hHD) hl (by omega) ⟨(e.trans e2).putN nD, P2.put npD.symm, fun z hz => ?_⟩
    have t2 : Et H2 (upd H2 D (.lst (ys ++ [y]))) := Et.putL (e2 _ _ npD hHD)
    rcases List.mem_append.mp hz with hz | hz
    · exact gm _ _ _ ((hP'.et e2).trans t2) (g z hz)
    · have : z = y := by simpa using hz
      subst this
      exact gm _ _ _ t2 gy
  · exact q D ys H' nD c.1 c.2.1 hHD hl c.2.2
end
/-- values that bear data, one by one -/
theorem fl_all {K : PySem.W.Frag} {H : Hp} {G : PyData → Prop} : ∀ {ys : List V}, (∀ y, y ∈ ys → ∃ d, Fl K H y d ∧ G d) → ∃ ds, FlAll K H ys ds ∧ ∀ d, d ∈ ds → G d
  | [], _ => ⟨[], .nil, fun _ h => nomatch h⟩
  | y :: ys, h => by
    obtain ⟨d, h1, h2⟩ := h y List.mem_cons_self
    obtain ⟨ds, h3, h4⟩ := fl_all (ys := ys) fun z hz => h z (List.mem_cons_of_mem _ hz)
    exact ⟨d :: ds, .cons h1 h3, fun e he => (List.mem_cons.mp he).elim (fun z => z ▸ h2) (h4 e)⟩
end Ls
end

section
set_option Elab.async false
set_option linter.all false
set_option maxRecDepth 100000
set_option maxHeartbeats 4000000
namespace Ls
open PySem PySem.Spec PyProof.Rows L2
/- how deep tuples lie within tuples -/
mutual
def tdp : PyData → Nat
  | .tuple ds => 1 + tdpL ds
  | _ => 0
def tdpL : List PyData → Nat
  | [] => 0
  | d :: ds => max (tdp d) (tdpL ds)
end
mutual
/-- an integer, or a tuple of at most forty such things -/
def nsD : PyData → Bool
  | .int _ => true
  | .tuple ds => decide (ds.length ≤ 40) && nsL ds
  | _ => false
def nsL : List PyData → Bool
  | [] => true
  | d :: ds => nsD d && nsL ds
end
/-- an integer's signs -/
def szI (i : Int) : Int := ((Str.ofString (toString (if i < 0 then -i else i))).length : Nat) + (if decide (i < 0) = true then 1 else 0)
mutual
def szD : PyData → Int
  | .int i => szI i
  | .tuple ds => 1 + szL ds
  | _ => 1
def szL : List PyData → Int
  | [] => 0
  | d :: ds => szD d + szL ds
end
mutual
/-- all integers within have less than 578 digits or so -/
def smD : PyData → Bool
  | .int i => decide (i.natAbs.log2 < 1920)
  | .tuple ds => smL ds
  | _ => true
def smL : List PyData → Bool
  | [] => true
  | d :: ds => smD d && smL ds
end
def isD (d : PyData) : Bool := nsD d && (decide ((tdp d : Int) ≤ 4) && decide (szD d ≤ 1000))
theorem tdp_mem : ∀ {ds : List PyData} {d : PyData}, d ∈ ds → tdp d ≤ tdpL ds
  | d' :: ds, d, h => by
    rw [tdpL]
    rcases List.mem_cons.mp h with rfl | h
    · exact Nat.le_max_left _ _
    · exact Nat.le_trans (tdp_mem h) (Nat.le_max_right _ _)
theorem tdp_tup {ds : List PyData} {d : PyData} {n : Nat} (h : tdp (.tuple ds) < n + 1) (hd : d ∈ ds) : tdp d < n := by
  rw [tdp] at h
  have := tdp_mem hd
  omega
theorem nsL_all : ∀ ds : List PyData, nsL ds = (ds.map nsD).all id
  | [] => rfl
  | d :: ds => by rw [nsL, nsL_all ds]; rfl
theorem nsL_mem {ds : List PyData} (h : nsL ds = true) {d : PyData} (hd : d ∈ ds) : nsD d = true := by
  rw [nsL_all, List.all_eq_true] at h
  exact h _ (List.mem_map.mpr ⟨d, hd, rfl⟩)
theorem smL_mem : ∀ {ds : List PyData}, smL ds = true → ∀ {d : PyData}, d ∈ ds → smD d = true
  | d' :: ds, h, d, hd => by
    rw [smL, Bool.and_eq_true] at h
    rcases List.mem_cons.mp hd with rfl | hd
    · exact h.1
    · exact smL_mem h.2 hd
theorem szL_sum : ∀ ds : List PyData, szL ds = (ds.map szD).sum
  | [] => rfl
  | d :: ds => by rw [szL, szL_sum ds]; rfl
/-- the greatest of some depths -/
theorem tdpL_max {ds : List PyData} {m : Int} (h0 : ds.map (fun d => (tdp d : Int)) = [] → m = 0) (h1 : ds.map (fun d => (tdp d : Int)) ≠ [] → m ∈ ds.map (fun d => (tdp d : Int)) ∧ ∀ z, z ∈ ds.map (fun d => (tdp d : Int)) → z ≤ m) : m = (tdpL ds : Int) := by
  have key : ∀ l : List PyData, l ≠ [] → ∃ d ∈ l, tdp d = tdpL l := by
    intro l
    induction l with
    | nil => intro h; exact absurd rfl h
    | cons a l ih =>
      intro _
      rw [tdpL]
      by_cases e : l = []
      · subst e
        exact ⟨a, List.mem_cons_self, by rw [tdpL]; omega⟩
      · obtain ⟨d, hd, he⟩ := ih e
        by_cases c : tdpL l ≤ tdp a
        · exact ⟨a, List.mem_cons_self, by omega⟩
        · exact ⟨d, List.mem_cons_of_mem _ hd, by omega⟩
  by_cases e : ds = []
  · subst e
    rw [h0 rfl]
    rfl
  · obtain ⟨hm, hle⟩ := h1 (by intro z; exact e (List.map_eq_nil_iff.mp z))
    obtain ⟨d, hd, he⟩ := key ds e
    have a1 : ((tdpL ds : Nat) : Int) ≤ m := by rw [← he]; exact hle _ (List.mem_map.mpr ⟨d, hd, rfl⟩)
    obtain ⟨d2, hd2, he2⟩ := List.mem_map.mp hm
    have := tdp_mem hd2
    omega
def sp_isint (K : PySem.W.Frag) : Sp := fun vs H Q _ => ∃ v d, vs = [v] ∧ Dt K H v d ∧ Q (.bl (match d with | .int _ => true | _ => false)) H
def sp_nested (K : PySem.W.Frag) (n : Nat) : Sp := fun vs H Q _ => ∃ v d, vs = [v] ∧ Dt K H v d ∧ tdp d < n ∧ ∀ H', Ex H H' → Q (.bl (nsD d)) H'
def sp_depth (K : PySem.W.Frag) (n : Nat) : Sp := fun vs H Q _ => ∃ v d, vs = [v] ∧ Dt K H v d ∧ nsD d = true ∧ tdp d < n ∧ ∀ H', Ex H H' → Q (.int (tdp d : Nat)) H'
def sp_dsize (K : PySem.W.Frag) (n : Nat) : Sp := fun vs H Q _ => ∃ v d, vs = [v] ∧ Dt K H v d ∧ nsD d = true ∧ smD d = true ∧ tdp d < n ∧ ∀ H', Ex H H' → Q (.int (szD d)) H'
def sp_isdatum (K : PySem.W.Frag) (n : Nat) : Sp := fun vs H Q _ => ∃ v d, vs = [v] ∧ Dt K H v d ∧ smD d = true ∧ tdp d < n ∧ ∀ H', Ex H H' → Q (.bl (isD d)) H'
/-- FAULT -/
def isF (d : PyData) : Bool := match d with | .str x => decide (x = "fault") | _ => false
def sp_isfault (K : PySem.W.Frag) : Sp := fun vs H Q _ => ∃ v d, vs = [v] ∧ Dt K H v d ∧ Q (.bl (isF d)) H
def sp_isvalue (K : PySem.W.Frag) (n : Nat) : Sp := fun vs H Q _ => ∃ v d, vs = [v] ∧ Dt K H v d ∧ smD d = true ∧ tdp d < n ∧ ∀ H', Ex H H' → Q (.bl (isF d || isD d)) H'
end Ls
end

section
set_option Elab.async false
set_option linter.all false
set_option maxRecDepth 100000
set_option maxHeartbeats 4000000
namespace Ls
open PySem PySem.Spec PyProof.Rows L2 SX
/-- the signs of a whole number -/
def intL (i : Int) : List Nat := if i < 0 then 45 :: TL.numL i.natAbs else TL.numL i.natAbs
theorem str_int (i : Int) : Str.ofString (toString i) = S (intL i) := by
  cases i with
  | ofNat n =>
    have h : ¬ (Int.ofNat n < 0) := fun z => nomatch z
    unfold intL
    rw [if_neg h]
    exact num_S n
  | negSucc n =>
    have h : Int.negSucc n < 0 := Int.negSucc_lt_zero n
    unfold intL
    rw [if_pos h]
    have e : toString (Int.negSucc n) = "-" ++ toString ((n + 1 : Nat) : Int) := by
      show Int.repr (Int.negSucc n) = "-" ++ Int.repr (Int.ofNat (n + 1))
      rfl
    have e2 : (Int.negSucc n).natAbs = n + 1 := rfl
    rw [e, e2]
    have e3 : Str.ofString ("-" ++ toString ((n + 1 : Nat) : Int)) = Str.ofString "-" ++ Str.ofString (toString ((n + 1 : Nat) : Int)) := by
      refine TL.ext_tl ?_
      rw [TL.tl_append, TL.tl_ofString, TL.tl_ofString, TL.tl_ofString]
      simp
    rw [e3, num_S]
    have e4 : Str.ofString "-" = S [45] := by decide +kernel
    rw [e4, S_cat]
    rfl
theorem abs_if (i : Int) : (if i < 0 then -i else i) = ((i.natAbs : Nat) : Int) := by
  split <;> omega
theorem intL_len (i : Int) : szI i = ((intL i).length : Nat) := by
  unfold szI
  rw [abs_if, num_S, S_len]
  unfold intL
  by_cases h : i < 0
  · rw [if_pos (decide_eq_true h), if_pos h, List.length_cons]
    omega
  · rw [if_neg (by simp [h]), if_neg h]
    omega
theorem numL_head (n : Nat) : ∃ c r, TL.numL n = c :: r ∧ 48 ≤ c ∧ c ≤ 57 ∧ (c = 48 → r = []) := by
  induction n using Nat.strongRecOn with
  | _ n ih =>
    by_cases h : n < 10
    · exact ⟨48 + n, [], TL.numL_lt h, by omega, by omega, fun _ => rfl⟩
    · obtain ⟨c, r, e, h1, h2, h3⟩ := ih (n / 10) (by omega)
      refine ⟨c, r ++ [48 + n % 10], by rw [TL.numL_step (by omega), e]; rfl, h1, h2, fun z => ?_⟩
      exfalso
      subst z
      rw [h3 rfl] at e
      have v := congrArg PySem.NumText.digitsVal e
      rw [TL.numL_val] at v
      have : PySem.NumText.digitsVal [48] = 0 := by decide
      omega
theorem intL_head (i : Int) : ∃ c r, intL i = c :: r ∧ (c = 45 ∨ (48 ≤ c ∧ c ≤ 57)) := by
  obtain ⟨c, r, e, h1, h2, _⟩ := numL_head i.natAbs
  unfold intL
  split
  · exact ⟨45, _, rfl, .inl rfl⟩
  · exact ⟨c, r, e, .inr ⟨h1, h2⟩⟩
/- the text of data -/
mutual
def txD : PyData → List Nat
  | .int i => intL i
  | .tuple ds => 91 :: (txL ds ++ [93])
  | _ => [102, 97, 117, 108, 116]
def txL : List PyData → List Nat
  | [] => []
  | d :: ds => txD d ++ txM ds
def txM : List PyData → List Nat
  | [] => []
  | d :: ds => 44 :: (txD d ++ txM ds)
end
theorem txD_head (d : PyData) : ∃ c r, txD d = c :: r ∧ c ≠ 93 ∧ c ≠ 44 ∧ (nsD d = true → c ≠ 102) := by
  cases d with
  | int i =>
    obtain ⟨c, r, e, h⟩ := intL_head i
    exact ⟨c, r, by rw [txD, e], by omega, by omega, fun _ => by omega⟩
  | tuple ds => exact ⟨91, _, rfl, by decide, by decide, fun _ => by decide⟩
  | none => exact ⟨102, _, rfl, by decide, by decide, fun h => by simp [nsD] at h⟩
  | bool b => exact ⟨102, _, rfl, by decide, by decide, fun h => by simp [nsD] at h⟩
  | str x => exact ⟨102, _, rfl, by decide, by decide, fun h => by simp [nsD] at h⟩
  | list x => exact ⟨102, _, rfl, by decide, by decide, fun h => by simp [nsD] at h⟩
  | dict x => exact ⟨102, _, rfl, by decide, by decide, fun h => by simp [nsD] at h⟩
theorem txL_join : ∀ ds : List PyData, txL ds = TL.joinL [44] (ds.map txD)
  | [] => by rw [txL]; rfl
  | d :: ds => by
    have key : ∀ (es : List PyData) (d : PyData), txD d ++ txM es = TL.joinL [44] ((d :: es).map txD) := by
      intro es
      induction es with
      | nil => intro d; rw [txM, List.append_nil]; rfl
      | cons e es ih =>
        intro d
        rw [txM, ih e]
        rfl
    rw [txL]
    exact key ds d
mutual
theorem szD_pos : ∀ d : PyData, nsD d = true → 1 ≤ szD d
  | .int i, _ => by
    rw [szD, intL_len]
    obtain ⟨c, r, e, _⟩ := intL_head i
    rw [e, List.length_cons]
    omega
  | .tuple ds, h => by
    rw [nsD, Bool.and_eq_true] at h
    rw [szD]
    have := szL_nn ds h.2
    omega
  | .none, h => by simp [nsD] at h
  | .bool _, h => by simp [nsD] at h
  | .str _, h => by simp [nsD] at h
  | .list _, h => by simp [nsD] at h
  | .dict _, h => by simp [nsD] at h
theorem szL_nn : ∀ ds : List PyData, nsL ds = true → 0 ≤ szL ds
  | [], _ => by rw [szL]; exact Int.le_refl _
  | d :: ds, h => by
    rw [nsL, Bool.and_eq_true] at h
    rw [szL]
    have := szD_pos d h.1
    have := szL_nn ds h.2
    omega
end
theorem szL_mem {ds : List PyData} (h : nsL ds = true) : ∀ {d : PyData}, d ∈ ds → szD d ≤ szL ds := by
  induction ds with
  | nil => intro d hd; cases hd
  | cons e ds ih =>
    intro d hd
    rw [nsL, Bool.and_eq_true] at h
    rw [szL]
    have h1 := szD_pos e h.1
    have h2 := szL_nn ds h.2
    rcases List.mem_cons.mp hd with rfl | hd
    · omega
    · have := ih h.2 hd
      omega
mutual
theorem txD_len : ∀ d : PyData, nsD d = true → ((txD d).length : Int) + 1 ≤ 3 * szD d
  | .int i, h => by
    have := szD_pos (.int i) h
    rw [szD] at this ⊢
    rw [txD, ← intL_len]
    omega
  | .tuple ds, h => by
    rw [nsD, Bool.and_eq_true] at h
    rw [szD, txD, List.length_cons, List.length_append, List.length_singleton]
    have := txL_len ds h.2
    omega
  | .none, h => by simp [nsD] at h
  | .bool _, h => by simp [nsD] at h
  | .str _, h => by simp [nsD] at h
  | .list _, h => by simp [nsD] at h
  | .dict _, h => by simp [nsD] at h
theorem txL_len : ∀ ds : List PyData, nsL ds = true → ((txL ds).length : Int) ≤ 3 * szL ds
  | [], _ => by rw [txL, szL]; exact Int.le_refl _
  | d :: ds, h => by
    rw [nsL, Bool.and_eq_true] at h
    rw [txL, szL, List.length_append]
    have := txD_len d h.1
    have := txM_len ds h.2
    omega
theorem txM_len : ∀ ds : List PyData, nsL ds = true → ((txM ds).length : Int) ≤ 3 * szL ds
  | [], _ => by rw [txM, szL]; exact Int.le_refl _
  | d :: ds, h => by
    rw [nsL, Bool.and_eq_true] at h
    rw [txM, szL, List.length_cons, List.length_append]
    have := txD_len d h.1
    have := txM_len ds h.2
    omega
end
theorem int_digits {n : Nat} (h : n.log2 < 1920) : (TL.numL n).length ≤ 600 := by
  refine TL.numL_len (by decide) ?_
  by_cases z : n = 0
  · subst z
    exact Nat.pow_pos (by decide)
  · have h1 : n < 2 ^ 1920 := (Nat.log2_lt z).mp h
    exact Nat.lt_trans h1 (by decide +kernel)
/-- slices of codes -/
theorem cut_mid {l : List Nat} {i j : Nat} : cutS (S l) (some (i : Int)) (some (j : Int)) = S ((l.drop i).take (j - i)) := by
  refine TL.ext_tl ?_
  show ((S l).cps.toList.drop (HT.sIx (S l).length 0 (some (i : Int)))).take (HT.sIx (S l).length (S l).length (some (j : Int)) - HT.sIx (S l).length 0 (some (i : Int))) = (l.drop i).take (j - i)
  rw [HT.sIx_nat, HT.sIx_nat, S_len]
  show (l.drop (min i l.length)).take (min j l.length - min i l.length) = _
  by_cases h : i ≤ l.length
  · rw [Nat.min_eq_left h]
    by_cases h2 : j ≤ l.length
    · rw [Nat.min_eq_left h2]
    · rw [Nat.min_eq_right (by omega), List.take_of_length_le (by rw [List.length_drop]; exact Nat.le_refl _), List.take_of_length_le (by rw [List.length_drop]; omega)]
  · have e : min i l.length = l.length := Nat.min_eq_right (by omega)
    rw [e, List.drop_eq_nil_of_le (Nat.le_refl _), List.drop_eq_nil_of_le (by omega : l.length ≤ i)]
    simp
theorem int_back {i : Int} (h : (intL i).length ≤ 601) : PySem.intText? (S (intL i)) = some i := by
  unfold intL at h ⊢
  by_cases hi : i < 0
  · rw [if_pos hi] at h ⊢
    rw [List.length_cons] at h
    have e := PySem.intText_neg (x := S (45 :: TL.numL i.natAbs)) (cs := TL.numL i.natAbs) rfl (TL.numL_digits _) (TL.numL_ne _) (by rw [S_len, List.length_cons]; omega)
    rw [TL.numL_val] at e
    rw [e]
    congr 1
    omega
  · rw [if_neg hi] at h ⊢
    have e := int_S (a := TL.numL i.natAbs) (List.all_eq_true.mpr fun c hc => by
      have z := TL.numL_digits i.natAbs c hc
      simpa using z) (TL.numL_ne _) (by omega)
    rw [TL.numL_val] at e
    rw [e]
    congr 1
    omega
end Ls
end

section
set_option Elab.async false
set_option linter.all false
set_option maxRecDepth 100000
set_option maxHeartbeats 4000000
namespace Ls
open PySem PySem.Spec PyProof.Rows L2
theorem meets_enum_new {l : Addr} {o : Obj} {H : Heap → Prop} (B : Begins (.ref l) o H) :
    Meets (Builtin.«enumerate.__new__» ⟨[.type "enumerate", .ref l], []⟩) (fun _ R s => H s.heap ∧
      R (.ok (.ret (.ref (s.heap.push o).objs.size))) { s with heap := (s.heap.push o).push { cls := .type "enumerate", data := .fields #[.none, .bool false, .ref s.heap.objs.size, rawInt 0, .none, .none] } }) :=
  .of_wp fun prog w A R s h => by
    obtain ⟨hp, g, d, tk, os⟩ := s; obtain ⟨h1, h⟩ := h
    have hsub := sub_enumerate
    have q1 : ∀ {A' : Around} {E : Value → Shared → Prop} {Q : Value → Shared → Prop}, Q (.ref hp.objs.size) ⟨hp.push o, g, d, tk, os⟩ → wpAny (model prog w) A' (pyIter (.ref l)) Q E ⟨hp, g, d, tk, os⟩ :=
      fun q => B.iter prog w _ _ ⟨hp, g, d, tk, os⟩ _ h1 q
    wp_walk using q1
    refine wpAny_stack_any fun st => wpAny_pure ?_
    split
    · rename_i c _ _ _ _ _
      cases (c == Value.type "enumerate")
      · wp_walk using q1
        exact ⟨_, rfl, h⟩
      · wp_walk using q1
        exact ⟨_, rfl, h⟩
    · wp_walk using q1
      exact ⟨_, rfl, h⟩
theorem enum_new {prog : Program} {w : World} {A : Around} {E : Value → Shared → Prop} {s : Shared} {l : Addr} {o : Obj} {H : Heap → Prop} {Q : Value → Shared → Prop} (B : Begins (.ref l) o H) (h1 : H s.heap)
    (h : ∀ h', IsEnum h' (s.heap.objs.size + 1) s.heap.objs.size 0 .none → h'.get? s.heap.objs.size = some o → h'.objs.size = s.heap.objs.size + 2 →
      (∀ b o, s.heap.get? b = some o → h'.get? b = some o) → Q (.ref (s.heap.objs.size + 1)) { s with heap := h' }) :
    wpAny (model prog w) A (call (.type "enumerate") [.ref l]) Q E s := by
  refine callType_new F.called_enumerate (by decide) (F.typeCall_enumerate_1 _) (F.newCall_enumerate_1 _) (fun obj => F.args_object_init_2 obj _) F.entry_enumerate_new
    (meets_enum_new B) ⟨h1, ?_⟩
  have hz : (s.heap.push o).objs.size = s.heap.objs.size + 1 := Heap.size_push ..
  show _ ∧ _
  rw [hz]
  have he : IsEnum ((s.heap.push o).push { cls := .type "enumerate", data := .fields #[.none, .bool false, .ref s.heap.objs.size, rawInt 0, .none, .none] }) (s.heap.objs.size + 1) s.heap.objs.size 0 .none := by
    have := Heap.get?_push_size (s.heap.push o) (o := { cls := .type "enumerate", data := .fields #[.none, .bool false, .ref s.heap.objs.size, rawInt 0, .none, .none] }) rfl
    rw [hz] at this; exact this
  refine ⟨⟨_, he, rfl⟩, h _ he (Heap.get?_push_of_some _ (Heap.get?_push_size _ B.free)) (by rw [Heap.size_push, hz]) fun b o x => Heap.get?_push_of_some _ (Heap.get?_push_of_some _ x)⟩
/-- the tuple at a, each item in a new pair -/
def Iteu (K : PySem.W.Frag) (a : Addr) : It :=
  ⟨fun i H => ∃ (xs : List V) (x : V), SqT K H a xs ∧ xs[i]? = some x, fun i H v H' => ∃ T x, v = .ref T ∧ H T = none ∧ H' = upd H T (.tup [.int (i : Nat), x]) ∧ ∀ xs, SqT K H a xs → xs[i]? = some x, fun i H => ∃ xs : List V, SqT K H a xs ∧ xs.length ≤ i⟩
theorem tup_not_iter {h : Heap} {a it : Addr} {i : Nat} {items : Array Value} (st : h.IsTupleIter it a i) (p : h.IsTuple a items) : a ≠ it := by
  intro e
  subst e
  obtain ⟨o, ho, hc, hd⟩ := st
  obtain ⟨o', ho', hc', _⟩ := p
  rw [ho] at ho'
  cases ho'
  rw [hc] at hc'
  exact absurd hc' (by decide)
theorem turn_enumT {P : Program} {w : World} {K : PySem.W.Frag} {elts : List Expr} {kk : Nat} {tpos : Pos} (a e it : Addr) :
    Turn P w K (.Tuple elts kk tpos) (Iteu K a) [e, it] e (fun i h => (∃ old, IsEnum h e it ((i : Nat) : Int) old) ∧ h.IsTupleIter it a i ∧ e ≠ it) where
  mem := by simp
  obj := fun i h st b hb => by
    obtain ⟨⟨old, he⟩, ⟨o, ho, hc, hd⟩, _⟩ := st
    have e' : b = e ∨ b = it := by simpa using hb
    rcases e' with z | z
    · rw [z]; exact ⟨_, he, fun v q => nomatch q⟩
    · rw [z]; exact ⟨o, ho, fun v q => by rw [hd] at q; cases q⟩
  keep := fun i h h' st k => let ⟨⟨old, he⟩, hi, hne⟩ := st; ⟨⟨old, k e (by simp) _ he⟩, hi.at fun o q => k it (by simp) o q, hne⟩
  item := by
    intro X hP hw hK hc i pins s σ H E I hf st hg
    subst hP hw hK
    obtain ⟨⟨old, he⟩, hit, hne⟩ := st
    obtain ⟨xs, x, hq, hx⟩ := hg
    obtain ⟨its, rv, p, hz⟩ := I.tuple hq
    obtain ⟨u, hu, ru⟩ := rv.get hx
    have hel : e < s.heap.objs.size := Heap.lt_size he
    have hil : it < s.heap.objs.size := by obtain ⟨_, q, _⟩ := hit; exact Heap.lt_size q
    have pt : s.heap.IsTuple a its.toArray := p
    have ni : a ≠ it := tup_not_iter hit pt
    have nea : e ≠ a := by
      intro z
      subst z
      obtain ⟨o', ho', hc', _⟩ := pt
      have he' := he
      unfold IsEnum at he'
      rw [he'] at ho'
      cases ho'
      have z2 : Value.type "enumerate" = Value.type "tuple" := hc'
      exact absurd z2 (by decide)
    have hi : i < its.toArray.size := by
      have := (List.getElem?_eq_some_iff.mp hu).1
      simpa using this
    refine wpAny_pyNext_enum_itemD (Draws.tuple (A := X.A.in1) (show X.A.in1.handled = none from I.ok.hd hc) it a ni its.toArray) he ⟨hit, pt⟩ hi hne (by simp [hne, nea]) fun x' h' tk hx' ho st' hT hsz hk => ?_
    have : x' = u := by
      have : its.toArray[i]? = some u := by simpa using hu
      rw [this] at hx'
      exact (Option.some.inj hx').symm
    subst this
    obtain ⟨hit', pt'⟩ := st'
    refine ⟨_, rfl, wpAny_letOwnedTupleGo_enum (s := { s with heap := h', toks := tk + 1 }) ho fun h'' he' sb => ?_⟩
    have hT2 : h''.get? s.heap.objs.size = some { cls := .type "tuple", data := .seq #[.int i tk, x'] } := (sb.2 _ (Nat.ne_of_gt hel)).trans hT
    have new : ObjOk X.prog X.w (upd H s.heap.objs.size (.tup [.int (i : Nat), x])) h'' s.heap.objs.size (.tup [.int (i : Nat), x]) :=
      ⟨by show 2 ≤ sizeLine; decide, [.int i tk, x'], .cons ⟨_, rfl⟩ (.cons ru .nil), ⟨_, hT2, rfl, _, rfl⟩⟩
    have I1 : Inv X pins σ (upd H s.heap.objs.size (.tup [.int (i : Nat), x])) { s with heap := h'', toks := tk + 1 } :=
      I.turnedNew (ch := [e, it]) (fun b ob hb q => (sb.2 b (fun z => hb (by simp [z]))).trans (hk b ob (fun z => hb (by simp [z])) (fun z => hb (by simp [z])) q)) hf (Nat.le_refl _) new
    refine ⟨.ref s.heap.objs.size, _, I1, rfl, ⟨_, x, rfl, I.hok.fresh (Nat.le_refl _), rfl, fun ys hy => by rw [I.tuple_inj hy hq]; exact hx⟩, ⟨⟨x', ?_⟩, hit'.at fun o q => (sb.2 it (Ne.symm hne)).trans q, hne⟩, fun b hb => ?_⟩
    · have e1 : ((i + 1 : Nat) : Int) = (i : Int) + 1 := by omega
      rw [e1]; exact he'
    · have hb' : b < s.heap.objs.size := by
        have e' : b = e ∨ b = it := by simpa using hb
        rcases e' with z | z
        · rw [z]; exact hel
        · rw [z]; exact hil
      rw [upd_ne (Nat.ne_of_lt hb')]
      exact (hf b hb).1
  done := by
    intro X hP hw hK hc i pins s σ H E I hf st hg
    subst hP hw hK
    obtain ⟨⟨old, he⟩, hit, hne⟩ := st
    obtain ⟨xs, hq, hx⟩ := hg
    obtain ⟨its, rv, p, hz⟩ := I.tuple hq
    have pt : s.heap.IsTuple a its.toArray := p
    obtain ⟨f0, f1, f2, f3, f4, f5⟩ := hf it (by simp)
    have hl := rv.length
    have ni : a ≠ it := tup_not_iter hit pt
    have hn : its.toArray[i]? = none := by simp; omega
    have hT : s.TypeIs (.ref e) "enumerate" := ⟨_, he, rfl⟩
    unfold pyNext
    refine wpAny_bind (wpAny_attempt (wpAny_callSpecial?_slot (name := Str.ofString "__next__") hT F.slot_enumerate_next
      (wpAny_call_entry F.slot_enumerate_next hT F.entry_enumerate_next ?_ (F.args_enumerate_next_1 _))))
    show wpAny _ _ (field (.ref e) 2 >>= _) _ _ _
    refine wpAny_bind (wpAny_field he rfl (x := .ref it) rfl ?_)
    refine wpAny_bind (wpAny_nextOf_tuple_end (show X.A.in1.handled = none from I.ok.hd hc) hit pt hn fun h' x he' hx' => ?_)
    obtain ⟨o, ho, hc⟩ := hx'
    refine wpAny_bind (wpAny_isInstance (T := "StopIteration") (b := true) ⟨o, ho, hc⟩ isSubtype_stop ?_)
    exact wpAny_pure ⟨rfl, I.turned (t' := s.toks) (fun b o hb q => he' b o hb q) f0 f1 f3 f4 f5⟩
  self := fun A i s Q E st h => let ⟨⟨_, he⟩, _⟩ := st; wpAny_pyIter_enum he h
def kEnum (K : PySem.W.Frag) (vs : List V) (R : It → Hp → Prop) (H1 : Hp) : Prop := ∃ a, vs = [.ref a] ∧ (((∃ xs, SqL K H1 a xs) ∧ R (Ite K a) H1) ∨ ((∃ xs, SqT K H1 a xs) ∧ R (Iteu K a) H1))
def iEnumU (K : PySem.W.Frag) (ta : TA) : TI := fun σ H R => ta σ H fun vs H1 => kEnum K vs R H1
theorem pi_enumU {X : Cx} {e : Expr} {ta : TA} {p pos tpos : Pos} {elts : List Expr} {kk : Nat} (hg : Gl X "enumerate") (hm : X.mg "enumerate" = none) (ha : PA X [e] ta) (hs : starEach [e] X.env = [(false, eval e X.env)] := by rfl) :
    PI X (.Tuple elts kk tpos) (.Call (.Name "enumerate" p) [e] [] pos) (iEnumU X.K ta) := by
  refine ⟨fun pins s σ H R I h => ?_⟩
  refine Call_ (ld_blt I hg hm boot_enumerate (PyProof.Rows.callWith_type1 (thn (ha.run pos pins s σ H _ I h) fun us s1 ⟨vs, H1, I1, r1, q1⟩ => ?_) hs rfl))
  obtain ⟨a, ex, q⟩ := q1
  subst ex
  cases r1 with
  | cons r rr =>
    cases rr
    cases r
    have fp : ∀ b ∈ [s1.heap.objs.size + 1, s1.heap.objs.size], FpOk X pins H1 b := fun b hb => by
      have e' : b = s1.heap.objs.size + 1 ∨ b = s1.heap.objs.size := by simpa using hb
      have hle : s1.heap.objs.size ≤ b := by
        rcases e' with z | z
        · rw [z]; exact Nat.le_add_right _ _
        · rw [z]; exact Nat.le_refl _
      exact I1.fpOk hle (I1.hok.fresh hle)
    rcases q with ⟨⟨xs, hq⟩, q⟩ | ⟨⟨xs, hq⟩, q⟩
    · obtain ⟨its, rv, p', hz⟩ := I1.list hq
      refine call_enumerate_list p'.isList fun h' he hit hsz hk => wpAny_pyIter_enum he ?_
      have I2 : Inv X pins σ H1 { s1 with heap := h' } := I1.kept (t' := s1.toks) hk
      exact ⟨s1.heap.objs.size + 1, [s1.heap.objs.size + 1, s1.heap.objs.size], _, _, H1, rfl, I2, turn_enum a (s1.heap.objs.size + 1) s1.heap.objs.size, ⟨⟨.none, he⟩, hit, Nat.succ_ne_self _⟩, fp, q⟩
    · obtain ⟨its, rv, p', hz⟩ := I1.tuple hq
      have pt : s1.heap.IsTuple a its.toArray := p'
      refine enum_new (begins_tuple a its.toArray) pt fun h' he ho hsz hk => wpAny_pyIter_enum he ?_
      have I2 : Inv X pins σ H1 { s1 with heap := h' } := I1.kept (t' := s1.toks) hk
      exact ⟨s1.heap.objs.size + 1, [s1.heap.objs.size + 1, s1.heap.objs.size], _, _, H1, rfl, I2, turn_enumT a (s1.heap.objs.size + 1) s1.heap.objs.size, ⟨⟨.none, he⟩, ⟨_, ho, rfl, rfl⟩, Nat.succ_ne_self _⟩, fp, q⟩
section
variable {σ : L2.St} {H : Hp} {K : PySem.W.Frag} {R : It → Hp → Prop} {g : TG} {tb : TS} {D : Ends} {ta : TA}
theorem i_enum (h : ta σ H fun vs H1 => kEnum K vs R H1) : iEnumU K ta σ H R := h
theorem i_eT {a : Addr} {xs : List V} (h : SqT K H a xs) (q : R (Iteu K a) H) : kEnum K [.ref a] R H := ⟨a, rfl, .inr ⟨⟨xs, h⟩, q⟩⟩
theorem i_eL {a : Addr} {xs : List V} (h : SqL K H a xs) (q : R (Ite K a) H) : kEnum K [.ref a] R H := ⟨a, rfl, .inl ⟨⟨xs, h⟩, q⟩⟩
theorem walk_enumT {a : Addr} {xs : List V} : Walk (Iteu K a) xs.length (fun H => SqT K H a xs) (YPair (fun i => some (.int (i : Nat))) (fun i => xs[i]?)) := by
  refine ⟨fun i _ hi q => ⟨xs, xs[i], q, by simp [hi]⟩, fun _ q => ⟨xs, q, Nat.le_refl _⟩, fun i H v H' _ q y => ?_⟩
  obtain ⟨T, x, h1, h2, h3, h4⟩ := y
  exact ⟨T, .int (i : Nat), x, h1, h2, h3, rfl, h4 xs q⟩
/-- for i, x in enumerate(a tuple): the pair is new -/
theorem k_forEU {a : Addr} {xs : List V} (Pv : Nat → L2.St → Hp → Prop) (h0 : Pv 0 σ H) (hl : ∀ i σ H, i ≤ xs.length → Pv i σ H → SqT K H a xs)
    (hs : ∀ i x T σ H H', xs[i]? = some x → Pv i σ H → H T = none → Ex H H' → H' T = some (.tup [.int (i : Nat), x]) → g (.ref T) σ H' fun σ2 H2 => tb { D with nx := Pv (i + 1), ct := Pv (i + 1), bk := D.nx } σ2 H2) (hd : ∀ σ H, Pv xs.length σ H → D.nx σ H) : kFor (Iteu K a) g tb D σ H :=
  for_it walk_enumT Pv h0 hl (fun i v σ H H' hi p y => by
    obtain ⟨T, x, z, h1, h2, h3, h4, h5⟩ := y
    subst h1 h3
    have e : V.int (i : Nat) = x := Option.some.inj h4
    subst e
    exact hs i z T σ H _ h5 p h2 (Ex.new h2) upd_same) hd
end
end Ls
end

section
set_option Elab.async false
set_option linter.all false
set_option maxRecDepth 100000
set_option maxHeartbeats 4000000
namespace Ls
open PySem PySem.Spec PyProof.Rows L2 SX
def kBody (Pv : Nat → L2.St → Hp → Prop) (m : Nat) (tb : TS) (D : Ends) (σ : L2.St) (H : Hp) : Prop := ∃ N : L2.St → Hp → Prop, (∀ σ' H', N σ' H' → ∃ m', m' < m ∧ Pv m' σ' H') ∧ tb { D with nx := N, ct := N, bk := D.nx } σ H
/-- sep.join(texts) -/
def rJoin (K : PySem.W.Frag) : V → List V → Hp → VK → Prop := fun x xs H Q => ∃ a p, ∃ ys : List Str, x = .str a ∧ xs = [.ref p] ∧ (SqL K H p (ys.map V.str) ∨ SqT K H p (ys.map V.str)) ∧ (ys.map (·.length)).sum + ys.length * a.length ≤ 16777216 ∧ Q (.str (Txt.join a ys)) H
theorem pe_joinU {X : Cx} {o e : Expr} {to te : TE} {apos pos : Pos} (ho : PE X o to) (he : PE X e te) (hs : starEach [e] X.env = [(false, eval e X.env)] := by rfl) (hbase : attributeBase o "join" X.env (eval o X.env) = eval o X.env := by rfl) (hline : (apos.endLine == pos.line) = true := by rfl) :
    PE X (.Call (.Attribute o "join" apos) [e] [] pos) (tM1 (rJoin X.K) to te) := pe_m1 F.slot_str_join F.type_str_join mt_join ho he hs hbase hline
section
variable {σ : L2.St} {H : Hp} {Q : VK} {K : PySem.W.Frag} {to te : TE} {D : Ends} {c : TT} {tb : TS} {t : TA} {v : V}
theorem r_m0 {r : V → List V → Hp → VK → Prop} (h : to σ H fun x H1 => (∃ a, x = .str a) ∧ r x [] H1 Q) : tM0 r to σ H Q := h
theorem r_m1 {r : V → List V → Hp → VK → Prop} (h : to σ H fun x H1 => (∃ a, x = .str a) ∧ te σ H1 fun y H2 => r x [y] H2 Q) : tM1 r to te σ H Q := h
theorem k_isS {z : Str} {A : Prop} (q : A) : (∃ a, V.str z = .str a) ∧ A := ⟨⟨z, rfl⟩, q⟩
theorem k_isL {p : Addr} {xs : List V} {A : Prop} (h : SqL K H p xs) (q : A) : tyV K "list" (.ref p) H ∧ A := ⟨.inl ⟨rfl, xs, h⟩, q⟩
theorem y_append {p : Addr} {xs : List V} (h : H p = some (.lst xs)) (hz : xs.length < sizeLine) (q : ∀ H', Em p H H' → H' p = some (.lst (xs ++ [v])) → Q .non H') : rAppend (.ref p) [v] H Q := ⟨p, xs, v, rfl, rfl, h, hz, q _ Em.put upd_same⟩
theorem y_join {a : Str} {p : Addr} {ys : List Str} (h : SqL K H p (ys.map V.str)) (hz : (ys.map (·.length)).sum + ys.length * a.length ≤ 16777216) (q : Q (.str (Txt.join a ys)) H) : rJoin K (.str a) [.ref p] H Q := ⟨a, p, ys, rfl, rfl, .inl h, hz, q⟩
/-- while, by a word with a measure -/
theorem k_while (Pv : Nat → L2.St → Hp → Prop) {m0 : Nat} (h0 : Pv m0 σ H) (hs : ∀ m σ H, Pv m σ H → c σ H fun b H1 => if b = true then kBody Pv m tb D σ H1 else D.nx σ H1) : tWhile c tb D σ H := ⟨Pv, ⟨m0, h0⟩, hs⟩
theorem k_body {Pv : Nat → L2.St → Hp → Prop} {m : Nat} (h : tb { D with nx := fun σ' H' => ∃ m', m' < m ∧ Pv m' σ' H', ct := fun σ' H' => ∃ m', m' < m ∧ Pv m' σ' H', bk := D.nx } σ H) : kBody Pv m tb D σ H := ⟨_, fun _ _ q => q, h⟩
theorem y_eqD {x y : V} {d e : PyData} (h1 : Dp K H x d) (h2 : Dp K H y e) (s1 : SeqAt.shaped d = true) (s2 : SeqAt.shaped e = true) (q : Q (.bl (PyData.eqv d e)) H) : rEqU K x y H Q := .inr ⟨d, e, h1, h2, s1, s2, q⟩
theorem y_neD {x y : V} {d e : PyData} (h1 : Dp K H x d) (h2 : Dp K H y e) (s1 : SeqAt.shaped d = true) (s2 : SeqAt.shaped e = true) (q : Q (.bl (!PyData.eqv d e)) H) : rNeU K x y H Q := .inr ⟨d, e, h1, h2, s1, s2, q⟩
theorem y_notInS {c : Nat} {z : Str} (q : Q (.bl (!decide (c ∈ z.cps.toList))) H) : rNotInU K (.str ⟨#[c]⟩) (.str z) H Q := .inr ⟨c, z, rfl, rfl, q⟩
/-- a slice of codes -/
theorem y_cut {l : List Nat} {i j : Int} {a b : Nat} (hz : l.length ≤ sizeLine) (ha : i = (a : Nat)) (hb : j = (b : Nat)) (q : Q (.str (S ((l.drop a).take (b - a)))) H) : rSlU K (.str (S l)) (some i) (some j) H Q := by
  subst ha hb
  refine .inr (.inr (y_slS (by rw [S_len]; exact hz) ?_))
  rw [cut_mid]
  exact q
theorem y_lenC {l : List Nat} (hz : l.length ≤ sizeLine) (q : Q (.int (l.length : Nat)) H) : rLen K [.str (S l)] H Q := y_lenS (by rw [S_len]; exact hz) (by rw [S_len]; exact q)
theorem y_ixC {l : List Nat} {i : Int} {c : Nat} (hz : l.length ≤ sizeLine) {a : Nat} (hi : i = (a : Nat)) (ha : l[a]? = some c) (q : Q (.str (S [c])) H) : rIx K (.str (S l)) (.int i) H Q := by
  subst hi
  exact y_ixS (by rw [S_len]; exact hz) (atI_nat ha) q
theorem y_inC {c : Nat} {l : List Nat} (q : Q (.bl (decide (c ∈ l))) H) : rInU K (.str (S [c])) (.str (S l)) H Q := y_inS q
theorem y_addC {a b : List Nat} (hz : a.length + b.length ≤ sizeLine) (q : Q (.str (S (a ++ b))) H) : rAddU K (.str (S a)) (.str (S b)) H Q := y_addS (by rw [S_len, S_len]; exact hz) (by rw [S_cat]; exact q)
theorem S_dec (a b : List Nat) : decide (S a = S b) = decide (a = b) := by
  by_cases h : a = b
  · rw [decide_eq_true h, h]; simp
  · rw [decide_eq_false h]; exact decide_eq_false fun z => h (S_inj z)
theorem y_eqC {a b : List Nat} (q : Q (.bl (decide (a = b))) H) : rEqU K (.str (S a)) (.str (S b)) H Q := y_eqS (by rw [S_dec]; exact q)
theorem y_neC {a b : List Nat} (q : Q (.bl (!decide (a = b))) H) : rNeU K (.str (S a)) (.str (S b)) H Q := y_neS (by rw [S_dec]; exact q)
/-- str(i), in codes -/
theorem y_strC {i : Int} (h : i.natAbs.log2 < 1920) (q : Q (.str (S (intL i))) H) : rStrI [.int i] H Q := y_str h (by rw [show ((toString i : String) : Str) = S (intL i) from str_int i]; exact q)
theorem y_intC {l : List Nat} {n : Int} (h : PySem.intText? (S l) = some n) (hz : l.length ≤ 640) (q : Q (.int n) H) : rIntU [.str (S l)] H Q := y_intS h (by rw [S_len]; exact hz) q
end
theorem iteNF {A B : Prop} (q : B) : if (!true) = true then A else B := by rw [if_neg (by decide)]; exact q
theorem iteNT {A B : Prop} (q : A) : if (!false) = true then A else B := by rw [if_pos (by decide)]; exact q
theorem ite_f {b : Bool} {A B : Prop} (h : b = false) (q : B) : if b = true then A else B := by rw [h, if_neg Bool.false_ne_true]; exact q
theorem ite_t {b : Bool} {A B : Prop} (h : b = true) (q : A) : if b = true then A else B := by rw [h, if_pos rfl]; exact q
theorem log2_of {n k : Nat} (hk : k ≠ 0) (h : n < 2 ^ k) : n.log2 < k := by
  by_cases z : n = 0
  · subst z
    rw [Nat.log2_zero]
    omega
  · exact (Nat.log2_lt z).mpr h
end Ls
end

section
set_option Elab.async false
set_option linter.all false
set_option maxRecDepth 100000
set_option maxHeartbeats 4000000
namespace Ls
open PySem PySem.Spec PyProof.Rows L2 SX
/-- a value of the package -/
def okV (n : Nat) (d : PyData) : Prop := smD d = true ∧ tdp d < n ∧ (isF d || isD d) = true
def sp_check (K : PySem.W.Frag) (n : Nat) : Sp := fun vs H Q _ => ∃ v d, vs = [v] ∧ Dt K H v d ∧ okV n d ∧ ∀ H', Ex H H' → Q .non H'
def sp_sizeof (K : PySem.W.Frag) (n : Nat) : Sp := fun vs H Q _ => ∃ v d, vs = [v] ∧ Dt K H v d ∧ okV n d ∧ ∀ H', Ex H H' → Q (.int (szD d)) H'
def sp_dtext (K : PySem.W.Frag) (n : Nat) : Sp := fun vs H Q _ => ∃ v d, vs = [v] ∧ Dt K H v d ∧ nsD d = true ∧ smD d = true ∧ szD d ≤ 1000 ∧ tdp d < n ∧ ∀ H', Ex H H' → Q (.str (S (txD d))) H'
def sp_format (K : PySem.W.Frag) (n : Nat) : Sp := fun vs H Q _ => ∃ v d, vs = [v] ∧ Dt K H v d ∧ okV n d ∧ ∀ H', Ex H H' → Q (.str (S (txD d))) H'
/-- what follows a number is no digit -/
def noDig (r : List Nat) : Prop := ∀ c, r.head? = some c → c < 48 ∨ 57 < c
def sp_rint : Sp := fun vs H Q _ => ∃ (p r : List Nat) (i : Int), vs = [.str (S (p ++ (intL i ++ r))), .int (p.length : Nat)] ∧ (p ++ (intL i ++ r)).length ≤ 10000 ∧ i.natAbs.log2 < 1920 ∧ noDig r ∧
  ∀ q H', Ex H H' → H' q = some (.tup [.int i, .int ((p.length + (intL i).length : Nat) : Int)]) → Q (.ref q) H'
def sp_rdat (K : PySem.W.Frag) (n : Nat) : Sp := fun vs H Q _ => ∃ (p r : List Nat) (d : PyData) (k : Nat), vs = [.str (S (p ++ (txD d ++ r))), .int (p.length : Nat), .int (k : Nat)] ∧ (p ++ (txD d ++ r)).length ≤ 10000 ∧ smD d = true ∧ nsD d = true ∧ tdp d < n ∧ k + tdp d ≤ 4 ∧ noDig r ∧
  ∀ v q H', Ex H H' → Fl K H' v d → H' q = some (.tup [v, .int ((p.length + (txD d).length : Nat) : Int)]) → Q (.ref q) H'
def sp_rtup (K : PySem.W.Frag) (n : Nat) : Sp := fun vs H Q _ => ∃ (p r : List Nat) (ds : List PyData) (k : Nat), vs = [.str (S (p ++ (txD (.tuple ds) ++ r))), .int (p.length : Nat), .int (k : Nat)] ∧ (p ++ (txD (.tuple ds) ++ r)).length ≤ 10000 ∧ smL ds = true ∧ nsD (.tuple ds) = true ∧ tdpL ds < n ∧ k + tdpL ds ≤ 4 ∧
  ∀ v q H', Ex H H' → Fl K H' v (.tuple ds) → H' q = some (.tup [v, .int ((p.length + (txD (.tuple ds)).length : Nat) : Int)]) → Q (.ref q) H'
def sp_parse (K : PySem.W.Frag) (n : Nat) : Sp := fun vs H Q _ => ∃ d, vs = [.str (S (txD d))] ∧ okV n d ∧ ∀ v H', Ex H H' → Fl K H' v d → Q v H'
theorem q_minus : Str.ofString "-" = S [45] := by decide +kernel
theorem q_empty : Str.ofString "" = S [] := by decide +kernel
theorem q_zero : Str.ofString "0" = S [48] := by decide +kernel
theorem q_digits : Str.ofString "0123456789" = S [48, 49, 50, 51, 52, 53, 54, 55, 56, 57] := by decide +kernel
theorem q_comma : Str.ofString "," = S [44] := by decide +kernel
theorem q_open : Str.ofString "[" = S [91] := by decide +kernel
theorem q_close : Str.ofString "]" = S [93] := by decide +kernel
theorem q_fault : Str.ofString "fault" = S [102, 97, 117, 108, 116] := by decide +kernel
theorem isF_inv {d : PyData} (h : isF d = true) : d = .str (Str.ofString "fault") := by
  cases d with
  | str x =>
    have : decide (x = "fault") = true := h
    rw [of_decide_eq_true this]
  | _ => cases h
theorem isF_tx {d : PyData} (h : isF d = true) : txD d = [102, 97, 117, 108, 116] := by rw [isF_inv h]; rfl
theorem isF_sz {d : PyData} (h : isF d = true) : szD d = 1 := by rw [isF_inv h]; rfl
theorem isD_of {n : Nat} {d : PyData} (h : okV n d) (hf : isF d = false) : nsD d = true ∧ tdp d ≤ 4 ∧ szD d ≤ 1000 := by
  have z := h.2.2
  rw [hf, Bool.false_or] at z
  unfold isD at z
  simp only [Bool.and_eq_true, decide_eq_true_eq] at z
  exact ⟨z.1, by omega, z.2.2⟩
theorem txL_sum : ∀ {ds : List PyData}, nsL ds = true → (((ds.map txD).map (·.length)).sum : Nat) ≤ 3 * szL ds
  | [], _ => by rw [szL]; decide
  | d :: ds, h => by
    rw [nsL, Bool.and_eq_true] at h
    rw [szL, List.map_cons, List.map_cons, List.sum_cons]
    have := txD_len d h.1
    have := txL_sum h.2
    omega
theorem join_tx (ds : List PyData) : Txt.join (S [44]) (ds.map fun d => S (txD d)) = S (txL ds) := by
  have e := join_S [44] (ds.map txD)
  rw [List.map_map] at e
  rw [txL_join]
  exact e
theorem lens_tx (ds : List PyData) : (ds.map fun d => S (txD d)).map (·.length) = (ds.map txD).map (·.length) := by
  rw [← lens (ds.map txD), List.map_map, List.map_map, List.map_map]
  rfl
theorem Ex.lstN {H H1 H2 : Hp} {l : Addr} (e : Ex H H1) (n : H l = none) (m : Em l H1 H2) : Ex H H2 := fun a o h => m a o (ne_of_none h n) (e a o h)
theorem noDig_M (fs : List PyData) (r : List Nat) : noDig (txM fs ++ 93 :: r) := by
  intro c h
  cases fs with
  | nil =>
    rw [txM] at h
    have : 93 = c := by simpa using h
    omega
  | cons f fs =>
    rw [txM] at h
    have : 44 = c := by simpa using h
    omega
theorem one_M (fs : List PyData) (r : List Nat) : (txM fs ++ 93 :: r).take 1 = if fs = [] then [93] else [44] := by
  cases fs with
  | nil => rw [txM]; rfl
  | cons f fs => rw [txM]; rfl
theorem one_L (fs : List PyData) (r : List Nat) : decide ((txL fs ++ 93 :: r).take 1 = [93]) = decide (fs = []) := by
  cases fs with
  | nil => rw [txL]; rfl
  | cons f fs =>
    obtain ⟨c, t, e, h, _⟩ := txD_head f
    rw [txL, e]
    show decide ([c] = [93]) = _
    rw [decide_eq_false (by simpa using h), decide_eq_false (by simp)]
theorem Fl.dtx {K : PySem.W.Frag} {H : Hp} {v : V} {d : PyData} (h : Fl K H v d) : Dt K H v d := h.dt
end Ls
end

section
set_option Elab.async false
set_option linter.all false
set_option maxRecDepth 100000
set_option maxHeartbeats 4000000
namespace Ls
open PySem PySem.Spec PyProof.Rows L2 SX
mutual
def gdD : PyData → Bool
  | .int i => decide (i.natAbs < 10 ^ 62)
  | .tuple ds => decide (ds.length ≤ 60) && gdL ds
  | _ => false
def gdL : List PyData → Bool
  | [] => true
  | d :: ds => gdD d && gdL ds
end
mutual
def ftD : PyData → Bool
  | .int i => decide (szI i ≤ 1000)
  | .tuple ds => (decide (ds.length ≤ 40) && ftL ds) && (decide ((tdpL ds : Nat) ≤ 3) && decide (1 + szL ds ≤ 1000))
  | _ => false
def ftL : List PyData → Bool
  | [] => true
  | d :: ds => ftD d && ftL ds
end
theorem gdL_mem : ∀ {ds : List PyData}, gdL ds = true → ∀ {d : PyData}, d ∈ ds → gdD d = true
  | d' :: ds, h, d, hd => by
    rw [gdL, Bool.and_eq_true] at h
    rcases List.mem_cons.mp hd with rfl | hd
    · exact h.1
    · exact gdL_mem h.2 hd
theorem gdL_of : ∀ {ds : List PyData}, (∀ d, d ∈ ds → gdD d = true) → gdL ds = true
  | [], _ => rfl
  | d :: ds, h => by rw [gdL, h d List.mem_cons_self, gdL_of fun e he => h e (List.mem_cons_of_mem _ he)]; rfl
theorem tdpL_le {m : Nat} : ∀ {ds : List PyData}, (∀ d, d ∈ ds → tdp d ≤ m) → tdpL ds ≤ m
  | [], _ => Nat.zero_le _
  | d :: ds, h => by
    rw [tdpL]
    exact Nat.max_le.mpr ⟨h d List.mem_cons_self, tdpL_le fun e he => h e (List.mem_cons_of_mem _ he)⟩
theorem ftL_all : ∀ ds : List PyData, ftL ds = (ds.map ftD).all id
  | [] => rfl
  | d :: ds => by rw [ftL, ftL_all ds]; rfl
theorem gd_log {i : Int} (h : i.natAbs < 10 ^ 62) : i.natAbs.log2 < 1920 := log2_of (by decide) (Nat.lt_trans h (by decide +kernel))
mutual
theorem gd_sm : ∀ d : PyData, gdD d = true → smD d = true
  | .int i, h => by
    rw [gdD, decide_eq_true_eq] at h
    rw [smD, decide_eq_true_eq]
    exact gd_log h
  | .tuple ds, h => by
    rw [gdD, Bool.and_eq_true] at h
    rw [smD]
    exact gdL_sm ds h.2
  | .none, h => by simp [gdD] at h
  | .bool _, h => by simp [gdD] at h
  | .str _, h => by simp [gdD] at h
  | .list _, h => by simp [gdD] at h
  | .dict _, h => by simp [gdD] at h
theorem gdL_sm : ∀ d : List PyData, gdL d = true → smL d = true
  | [], _ => rfl
  | d :: ds, h => by
    rw [gdL, Bool.and_eq_true] at h
    rw [smL, gd_sm d h.1, gdL_sm ds h.2]
    rfl
end
mutual
theorem gd_lay : ∀ d : PyData, gdD d = true → PyData.canLay0 d = true ∧ PyData.depth d = tdp d ∧ PyData.showable d = true
  | .int i, h => by
    rw [gdD, decide_eq_true_eq] at h
    refine ⟨rfl, rfl, ?_⟩
    rw [PyData.showable, decide_eq_true_eq]
    exact gd_log h
  | .tuple ds, h => by
    rw [gdD, Bool.and_eq_true] at h
    obtain ⟨a, b, c⟩ := gdL_lay ds h.2
    refine ⟨by rw [PyData.canLay0]; exact a, ?_, by rw [PyData.showable]; exact c⟩
    rw [PyData.depth, tdp, b]
    omega
  | .none, h => by simp [gdD] at h
  | .bool _, h => by simp [gdD] at h
  | .str _, h => by simp [gdD] at h
  | .list _, h => by simp [gdD] at h
  | .dict _, h => by simp [gdD] at h
theorem gdL_lay : ∀ d : List PyData, gdL d = true → PyData.canLayAll0 d = true ∧ PyData.depthAll d = tdpL d ∧ PyData.showableAll d = true
  | [], _ => ⟨rfl, rfl, rfl⟩
  | d :: ds, h => by
    rw [gdL, Bool.and_eq_true] at h
    obtain ⟨a, b, c⟩ := gd_lay d h.1
    obtain ⟨a2, b2, c2⟩ := gdL_lay ds h.2
    refine ⟨by rw [PyData.canLayAll0, a, a2]; rfl, ?_, by rw [PyData.showableAll, c, c2]; rfl⟩
    rw [PyData.depthAll, tdpL, b, b2]
end
mutual
theorem ft_ns : ∀ d : PyData, ftD d = true → nsD d = true
  | .int i, _ => rfl
  | .tuple ds, h => by
    rw [ftD] at h
    simp only [Bool.and_eq_true] at h
    rw [nsD, h.1.1, ftL_ns ds h.1.2]
    rfl
  | .none, h => by simp [ftD] at h
  | .bool _, h => by simp [ftD] at h
  | .str _, h => by simp [ftD] at h
  | .list _, h => by simp [ftD] at h
  | .dict _, h => by simp [ftD] at h
theorem ftL_ns : ∀ ds : List PyData, ftL ds = true → nsL ds = true
  | [], _ => rfl
  | d :: ds, h => by
    rw [ftL, Bool.and_eq_true] at h
    rw [nsL, ft_ns d h.1, ftL_ns ds h.2]
    rfl
end
theorem ft_is {d : PyData} (h : ftD d = true) : isD d = true := by
  have hn := ft_ns d h
  unfold isD
  rw [hn, Bool.true_and, Bool.and_eq_true, decide_eq_true_eq, decide_eq_true_eq]
  cases d with
  | int i =>
    rw [ftD, decide_eq_true_eq] at h
    exact ⟨(by decide : (0 : Int) ≤ 4), by rw [szD]; exact h⟩
  | tuple ds =>
    rw [ftD] at h
    simp only [Bool.and_eq_true, decide_eq_true_eq] at h
    exact ⟨by rw [tdp]; omega, by rw [szD]; exact h.2.2⟩
  | none => simp [ftD] at h
  | bool _ => simp [ftD] at h
  | str _ => simp [ftD] at h
  | list _ => simp [ftD] at h
  | dict _ => simp [ftD] at h
theorem len_app (x y : Str) : (x ++ y).length = x.length + y.length := by rw [TL.len_tl, TL.tl_append, List.length_append, ← TL.len_tl, ← TL.len_tl]
theorem join_len (sep : Str) : ∀ ts : List Str, (Str.join sep ts).length ≤ (ts.map (·.length)).sum + (ts.length - 1) * sep.length
  | [] => by
    rw [TL.len_tl, TL.tl_join]
    exact Nat.zero_le _
  | [t] => by
    rw [TL.len_tl, TL.tl_join]
    show (TL.tl t).length ≤ _
    rw [← TL.len_tl]
    simp
  | t :: u :: ts => by
    have ih := join_len sep (u :: ts)
    rw [TL.len_tl, TL.tl_join] at ih ⊢
    show (TL.tl t ++ (TL.tl sep ++ TL.joinL (TL.tl sep) ((u :: ts).map TL.tl))).length ≤ _
    rw [List.length_append, List.length_append, ← TL.len_tl, ← TL.len_tl]
    simp only [List.map_cons, List.sum_cons, List.length_cons, Nat.add_sub_cancel] at ih ⊢
    have : (ts.length + 1) * sep.length = ts.length * sep.length + sep.length := Nat.succ_mul _ _
    omega
theorem lit_open : (Str.ofString "(").length = 1 := by decide +kernel
theorem lit_close : (Str.ofString ")").length = 1 := by decide +kernel
theorem lit_close1 : (Str.ofString ",)").length = 2 := by decide +kernel
theorem lit_sep : (Str.ofString ", ").length = 2 := by decide +kernel
theorem lit_lo : (Str.ofString "[").length = 1 := by decide +kernel
theorem lit_lc : (Str.ofString "]").length = 1 := by decide +kernel
mutual
theorem shown_len : ∀ d : PyData, nsD d = true → ((PyData.shown d).length : Int) + 2 ≤ 4 * szD d
  | .int i, h => by
    have := szD_pos (.int i) h
    rw [szD] at this ⊢
    rw [PyData.shown_int, show ((toString i : String) : Str) = S (intL i) from str_int i, S_len, ← intL_len]
    omega
  | .tuple ds, h => by
    rw [nsD, Bool.and_eq_true] at h
    have ih := shownL_len ds h.2
    have hj := join_len (Str.ofString ", ") (PyData.shownAll ds)
    have hz := szL_nn ds h.2
    rw [lit_sep, PyData.shownAll_length] at hj
    rw [PyData.shown_tuple, len_app, len_app, szD, lit_open]
    by_cases h1 : ds.length = 1
    · rw [if_pos (by simpa using h1), lit_close1]
      omega
    · rw [if_neg (by simpa using h1), lit_close]
      by_cases h0 : ds.length = 0
      · omega
      · omega
  | .none, h => by simp [nsD] at h
  | .bool _, h => by simp [nsD] at h
  | .str _, h => by simp [nsD] at h
  | .list _, h => by simp [nsD] at h
  | .dict _, h => by simp [nsD] at h
theorem shownL_len : ∀ ds : List PyData, nsL ds = true → ((((PyData.shownAll ds).map (·.length)).sum : Nat) : Int) + 2 * ds.length ≤ 4 * szL ds
  | [], _ => by rw [PyData.shownAll_nil, szL]; decide
  | d :: ds, h => by
    rw [nsL, Bool.and_eq_true] at h
    have h1 := shown_len d h.1
    have h2 := shownL_len ds h.2
    rw [PyData.shownAll_cons, szL, List.map_cons, List.sum_cons, List.length_cons]
    omega
end
theorem fault_shown : (PyData.shown (.str (Str.ofString "fault"))).length ≤ 7 := by rw [PyData.shown_str]; decide +kernel
/-- what a law draws: FAULT, or data that fits -/
def drawn (d : PyData) : Bool := isF d || (gdD d && ftD d)
theorem drawn_ok {d : PyData} (h : drawn d = true) (n : Nat) (hn : 5 ≤ n) : okV n d := by
  unfold drawn at h
  cases hf : isF d with
  | true =>
    have e := isF_inv hf
    subst e
    exact ⟨rfl, (by omega : 0 < n), by rw [hf]; rfl⟩
  | false =>
    rw [hf, Bool.false_or, Bool.and_eq_true] at h
    have hd := ft_is h.2
    refine ⟨gd_sm d h.1, ?_, by rw [hd, Bool.or_true]⟩
    unfold isD at hd
    simp only [Bool.and_eq_true, decide_eq_true_eq] at hd
    omega
theorem drawn_repr {d : PyData} (h : drawn d = true) : PyData.showable d = true ∧ (PyData.shown d).length ≤ 4000 ∧ PyData.depth d ≤ 4 ∧ PyData.canLay0 d = true := by
  unfold drawn at h
  cases hf : isF d with
  | true =>
    have e := isF_inv hf
    subst e
    exact ⟨rfl, Nat.le_trans fault_shown (by decide), by rw [PyData.depth]; decide, by rw [PyData.canLay0]; decide +kernel⟩
  | false =>
    rw [hf, Bool.false_or, Bool.and_eq_true] at h
    have hd := ft_is h.2
    obtain ⟨a, b, c⟩ := gd_lay d h.1
    unfold isD at hd
    simp only [Bool.and_eq_true, decide_eq_true_eq] at hd
    have := shown_len d hd.1
    exact ⟨c, by omega, by omega, a⟩
def sp_ldatum (K : PySem.W.Frag) (n : Nat) : Sp := fun vs H Q _ => ∃ (p : Addr) (m : Nat), vs = [.ref p, .int (m : Nat)] ∧ Pt H p ∧ m < n ∧ ∀ v d H', Fl K H' v d → gdD d = true → tdp d ≤ m → Pt H' p → Em p H H' → Q v H'
def sp_lsize (K : PySem.W.Frag) (n : Nat) : Sp := fun vs H Q _ => ∃ v d, vs = [v] ∧ Fl K H v d ∧ (isF d || gdD d) = true ∧ tdp d < n ∧ tdp d ≤ 60 ∧ ∀ H', Ex H H' → Q (.int (szD d)) H'
def sp_ldeep (K : PySem.W.Frag) (n : Nat) : Sp := fun vs H Q _ => ∃ v d, vs = [v] ∧ Fl K H v d ∧ gdD d = true ∧ tdp d < n ∧ ∀ H', Ex H H' → Q (.int (tdp d : Nat)) H'
def sp_lfits (K : PySem.W.Frag) (n : Nat) : Sp := fun vs H Q _ => ∃ v d, vs = [v] ∧ Fl K H v d ∧ gdD d = true ∧ tdp d < n ∧ tdp d ≤ 60 ∧ ∀ H', Ex H H' → Q (.bl (ftD d)) H'
def sp_llong : Sp := fun vs H Q _ => ∃ (p : Addr) (k : Nat), vs = [.ref p, .int (k : Nat)] ∧ Pt H p ∧ 1 ≤ k ∧ k ≤ 61 ∧ ∀ (i : Int) H', i.natAbs < 10 ^ 61 → Pt H' p → Em p H H' → Q (.int i) H'
def sp_ldraw (K : PySem.W.Frag) : Sp := fun vs H Q _ => ∃ p : Addr, vs = [.ref p] ∧ Pt H p ∧ ∀ v d H', Fl K H' v d → (isF d || gdD d) = true → tdp d ≤ 4 → Pt H' p → Em p H H' → Q v H'
def sp_ltext (K : PySem.W.Frag) (n : Nat) : Sp := fun vs H Q _ => ∃ v d, vs = [v] ∧ Fl K H v d ∧ drawn d = true ∧ tdp d < n ∧ ∀ H', Ex H H' → Q (.str (S (txD d))) H'
def sp_lright : Sp := fun vs H Q _ => ∃ p : Addr, vs = [.ref p] ∧ Pt H p ∧ ∀ H', Pt H' p → Em p H H' → Q (.bl true) H'
section
variable {σ : L2.St} {H : Hp} {Q : VK} {K : PySem.W.Frag} {te : TE} {vs : List Nat}
/-- [f(x) for x in t], t a tuple of flat data -/
theorem k_lcFl {a : Addr} {xs : List V} {ds : List PyData} {i0 : Nat} (f : PyData → V) (hS : SqT K H a xs) (hD : FlAll K H xs ds) (hz : xs.length ≤ 99999)
    (hs : ∀ x d H1 (Q1 : VK), d ∈ ds → Ex H H1 → Fl K H1 x d → (∀ H2, Ex H1 H2 → Q1 (f d) H2) → te ((wipe σ vs).set i0 (some x)) H1 Q1)
    (hw : ∀ x, wipe ((wipe σ vs).set i0 (some x)) vs = wipe σ vs) (q : ∀ D H2, H D = none → Ex H H2 → H2 D = some (.lst (ds.map f)) → Q (.ref D) H2) : kLc (Itt K a) (gName i0) tYes te vs σ H Q := by
  refine k_lcT (xs := xs) (fun j ys H' => Ex H H' ∧ ys = (ds.take j).map f) (fun D n => ⟨Ex.new n, rfl⟩) (fun j ys H' _ p => p.1.st hS) (fun D j x ys H' n hx hj hl hHD p => ?_) hw fun D ys H' n hl hHD p => ?_
  · obtain ⟨e, rfl⟩ := p
    obtain ⟨d, hd, hf⟩ := hD.get hx
    refine hs x d H' _ (List.mem_of_getElem? hd) e (hf.mono e.et) fun H2 e2 => k_turn (e2 _ _ hHD) hl (by omega) ⟨Ex.putN (e.trans e2) n, ?_⟩
    rw [List.take_add_one, hd, List.map_append]
    rfl
  · obtain ⟨e, rfl⟩ := p
    refine q D H' n e ?_
    rw [hHD, hD.length, List.take_length]
end
end Ls
end

section
set_option Elab.async false
set_option linter.all false
set_option maxRecDepth 100000
set_option maxHeartbeats 4000000
namespace Ls
open PySem PySem.Spec PyProof.Rows L2 SX
/-- data that repr shows within bounds -/
structure Rp (d : PyData) : Prop where
  sh : PyData.showable d = true
  len : (PyData.shown d).length ≤ 40000
  dep : PyData.depth d ≤ 10
  lay : PyData.canLay0 d = true
theorem Rp.drawn {d : PyData} (h : drawn d = true) : Rp d := by
  obtain ⟨a, b, c, e⟩ := drawn_repr h
  exact ⟨a, by omega, by omega, e⟩
theorem Rp.int {i : Int} (h : i.natAbs.log2 < 1920) : Rp (.int i) := by
  refine ⟨by rw [PyData.showable, decide_eq_true_eq]; exact h, ?_, by rw [PyData.depth]; exact Nat.zero_le _, by rw [PyData.canLay0]⟩
  rw [PyData.shown_int, show ((toString i : String) : Str) = S (intL i) from str_int i, S_len]
  have := int_digits h
  unfold intL
  split
  · rw [List.length_cons]; omega
  · omega
theorem Rp.bool (b : Bool) : Rp (.bool b) := ⟨by rw [PyData.showable], by cases b <;> (rw [PyData.shown_bool]; decide +kernel), by rw [PyData.depth]; exact Nat.zero_le _, by rw [PyData.canLay0]⟩
theorem Rp.none : Rp .none := ⟨by rw [PyData.showable], by rw [PyData.shown_none]; decide +kernel, by rw [PyData.depth]; exact Nat.zero_le _, by rw [PyData.canLay0]⟩
theorem Rp.str {l : List Nat} (hl : l.length ≤ 3999) (ha : ∀ c ∈ l, c < 128) : Rp (.str (S l)) := by
  refine ⟨by rw [PyData.showable], ?_, by rw [PyData.depth]; exact Nat.zero_le _, ?_⟩
  · rw [PyData.shown_str]
    have := StrLaws.reprText_len (S l) (fun c hc => Nat.lt_trans (ha c hc) (by decide))
    have e := S_len l
    omega
  · rw [PyData.canLay0]
    show (S l).cps.all (· < 0x110000) = true
    rw [← Array.all_toList, List.all_eq_true]
    intro c hc
    exact decide_eq_true (Nat.lt_trans (ha c hc) (by decide))
theorem intL_ascii (i : Int) : ∀ c ∈ intL i, c < 128 := by
  intro c hc
  have h : ∀ c ∈ TL.numL i.natAbs, c < 128 := fun c hc => by
    have := TL.numL_digits i.natAbs c hc
    omega
  unfold intL at hc
  split at hc
  · rcases List.mem_cons.mp hc with rfl | hc
    · decide
    · exact h c hc
  · exact h c hc
mutual
theorem txD_ascii : ∀ (d : PyData), ∀ c ∈ txD d, c < 128
  | .int i, c, h => by rw [txD] at h; exact intL_ascii i c h
  | .tuple ds, c, h => by
    rw [txD] at h
    rcases List.mem_cons.mp h with rfl | h
    · decide
    · rcases List.mem_append.mp h with h | h
      · exact txL_ascii ds c h
      · have : c = 93 := by simpa using h
        omega
  | .none, c, h => fault_ascii c h
  | .bool _, c, h => fault_ascii c h
  | .str _, c, h => fault_ascii c h
  | .list _, c, h => fault_ascii c h
  | .dict _, c, h => fault_ascii c h
theorem txL_ascii : ∀ (ds : List PyData), ∀ c ∈ txL ds, c < 128
  | [], c, h => by rw [txL] at h; cases h
  | d :: ds, c, h => by
    rw [txL] at h
    rcases List.mem_append.mp h with h | h
    · exact txD_ascii d c h
    · exact txM_ascii ds c h
theorem txM_ascii : ∀ (ds : List PyData), ∀ c ∈ txM ds, c < 128
  | [], c, h => by rw [txM] at h; cases h
  | d :: ds, c, h => by
    rw [txM] at h
    rcases List.mem_cons.mp h with rfl | h
    · decide
    · rcases List.mem_append.mp h with h | h
      · exact txD_ascii d c h
      · exact txM_ascii ds c h
theorem fault_ascii : ∀ c ∈ [102, 97, 117, 108, 116], c < 128 := by decide
end
theorem drawn_len {d : PyData} (h : drawn d = true) : (txD d).length ≤ 2999 := by
  have ho := drawn_ok h 5 (Nat.le_refl _)
  cases hf : isF d with
  | true => rw [isF_tx hf]; decide
  | false =>
    obtain ⟨a, b, c⟩ := isD_of ho hf
    have := txD_len d a
    omega
theorem drawn_size {d : PyData} (h : drawn d = true) : 0 ≤ szD d ∧ szD d ≤ 1000 := by
  have ho := drawn_ok h 5 (Nat.le_refl _)
  cases hf : isF d with
  | true => rw [isF_sz hf]; decide
  | false =>
    obtain ⟨a, b, c⟩ := isD_of ho hf
    have := szD_pos d a
    omega
theorem Rp.text {d : PyData} (h : Ls.drawn d = true) : Rp (.str (S (txD d))) := .str (Nat.le_trans (drawn_len h) (by decide)) (txD_ascii d)
theorem Rp.size {d : PyData} (h : Ls.drawn d = true) : Rp (.int (szD d)) := by
  have := drawn_size h
  exact .int (log2_of (by decide) (Nat.lt_of_lt_of_le (show (szD d).natAbs < 2 ^ 10 by omega) (Nat.pow_le_pow_right (by decide) (by decide))))
section
variable {H : Hp} {Q : VK} {K : PySem.W.Frag} {x y : V} {d e : PyData}
theorem y_rep (h : Fl K H x d) (r : Rp d) (q : Q (.str d.shown) H) : rRepr K [x] H Q :=
  y_reprP h.dp (PyData.hasDict_of_canLay d r.lay) r.sh (Nat.le_trans r.len (by decide)) (by have := r.dep; omega) q
/-- repr([x, y]) -/
theorem y_rep2 {p : Addr} (hp : H p = some (.lst [x, y])) (h : Fl K H x d) (h2 : Fl K H y e) (r : Rp d) (r2 : Rp e) (q : Q (.str (PyData.list [d, e]).shown) H) : rRepr K [.ref p] H Q := by
  refine y_reprP (.lst (.of hp) (.cons h.dp (.cons h2.dp .nil))) ?_ ?_ ?_ ?_ q
  · have a := PyData.hasDict_of_canLay d r.lay
    have b := PyData.hasDict_of_canLay e r2.lay
    simp [PyData.hasDict, PyData.hasDictAll, a, b]
  · simp [PyData.showable, PyData.showableAll, r.sh, r2.sh]
  · rw [PyData.shown_list, len_app, len_app, lit_lo, lit_lc]
    have hj := join_len (Str.ofString ", ") (PyData.shownAll [d, e])
    rw [lit_sep, PyData.shownAll_length, PyData.shownAll_cons, PyData.shownAll_cons, PyData.shownAll_nil] at hj
    simp only [List.map_cons, List.map_nil, List.sum_cons, List.sum_nil, List.length_cons, List.length_nil] at hj
    have := r.len
    have := r2.len
    have h2 : sizeLine = 16777216 := rfl
    rw [PyData.shownAll_cons, PyData.shownAll_cons, PyData.shownAll_nil]
    omega
  · have := r.dep
    have := r2.dep
    simp only [PyData.depth, PyData.depthAll]
    omega
theorem rp_shaped {d : PyData} (r : Rp d) : SeqAt.shaped d = true := by
  unfold SeqAt.shaped
  rw [r.lay, Bool.true_and, decide_eq_true_eq]
  have := r.dep
  omega
theorem gd_shaped {d : PyData} (h : gdD d = true) (ht : tdp d ≤ 60) : SeqAt.shaped d = true := by
  obtain ⟨a, b, _⟩ := gd_lay d h
  unfold SeqAt.shaped
  rw [a, Bool.true_and, decide_eq_true_eq]
  omega
theorem fault_shaped : SeqAt.shaped (.str (Str.ofString "fault")) = true := by decide +kernel
/-- drawn data == "fault" -/
theorem y_eqFault (h : Fl K H x d) (hg : gdD d = true) (ht : tdp d ≤ 60) (q : Q (.bl false) H) : rEqU K x (.str (Str.ofString "fault")) H Q := by
  refine y_eqD h.dp (.str _) (gd_shaped hg ht) fault_shaped ?_
  cases d with
  | int i => exact q
  | tuple ds => exact q
  | none => simp [gdD] at hg
  | bool _ => simp [gdD] at hg
  | str _ => simp [gdD] at hg
  | list _ => simp [gdD] at hg
  | dict _ => simp [gdD] at hg
end
def isTup : PyData → Bool
  | .tuple _ => true
  | _ => false
def isInt : PyData → Bool
  | .int _ => true
  | _ => false
theorem y_isStr {K : PySem.W.Frag} {H : Hp} {Q : VK} {x : V} {d : PyData} (h : Fl K H x d) (hg : (isF d || gdD d) = true) (q : Q (.bl (isF d)) H) : rIsiU K [x, .ty "str"] H Q := by
  cases d with
  | str z =>
    have e : isF (.str z) = true := by simpa [gdD] using hg
    rw [e] at q
    exact y_isi h.dt (b := true) rfl q
  | int i => exact y_isi h.dt (b := false) rfl q
  | tuple ds => exact y_isi h.dt (b := false) rfl q
  | none => simp [gdD, isF] at hg
  | bool _ => simp [gdD, isF] at hg
  | list _ => simp [gdD, isF] at hg
  | dict _ => simp [gdD, isF] at hg
theorem y_isTup {K : PySem.W.Frag} {H : Hp} {Q : VK} {x : V} {d : PyData} (h : Fl K H x d) (hg : (isF d || gdD d) = true) (q : Q (.bl (isTup d)) H) : rIsiU K [x, .ty "tuple"] H Q := by
  cases d with
  | str z => exact y_isi h.dt (b := false) rfl q
  | int i => exact y_isi h.dt (b := false) rfl q
  | tuple ds => exact y_isi h.dt (b := true) rfl q
  | none => simp [gdD, isF] at hg
  | bool _ => simp [gdD, isF] at hg
  | list _ => simp [gdD, isF] at hg
  | dict _ => simp [gdD, isF] at hg
theorem isTup_inv {d : PyData} (h : isTup d = true) : ∃ ds, d = .tuple ds := by
  cases d with
  | tuple ds => exact ⟨ds, rfl⟩
  | _ => cases h
theorem Fl.tup_inv {K : PySem.W.Frag} {H : Hp} {v : V} {ds : List PyData} (h : Fl K H v (.tuple ds)) : ∃ a xs, v = .ref a ∧ SqT K H a xs ∧ FlAll K H xs ds := by
  cases h with | tup hS hA => exact ⟨_, _, rfl, hS, hA⟩
theorem drawn_w {d : PyData} (h : drawn d = true) : (isF d || gdD d) = true := by
  unfold drawn at h
  cases hf : isF d with
  | true => rfl
  | false =>
    rw [hf, Bool.false_or, Bool.and_eq_true] at h
    rw [h.1, Bool.or_true]
theorem drawn_dp {d : PyData} (h : drawn d = true) : tdp d ≤ 4 := by
  have ho := drawn_ok h 5 (Nat.le_refl _)
  have := ho.2.1
  omega
theorem drawn_mem {ds : List PyData} (h : drawn (.tuple ds) = true) {d : PyData} (hd : d ∈ ds) : drawn d = true := by
  unfold drawn at h ⊢
  have e : isF (.tuple ds) = false := rfl
  rw [e, Bool.false_or, Bool.and_eq_true, gdD, ftD] at h
  simp only [Bool.and_eq_true, decide_eq_true_eq] at h
  have h2 := h.2.1.2
  rw [ftL_all, List.all_eq_true] at h2
  have h3 : ftD d = true := h2 _ (List.mem_map.mpr ⟨d, hd, rfl⟩)
  rw [gdL_mem h.1.2 hd, h3, Bool.and_self, Bool.or_true]
theorem drawn_tup {ds : List PyData} (h : drawn (.tuple ds) = true) : ds.length ≤ 40 ∧ nsL ds = true ∧ 1 + szL ds ≤ 1000 := by
  unfold drawn at h
  have e : isF (.tuple ds) = false := rfl
  rw [e, Bool.false_or, Bool.and_eq_true, gdD, ftD] at h
  simp only [Bool.and_eq_true, decide_eq_true_eq] at h
  exact ⟨h.2.1.1, ftL_ns ds h.2.1.2, h.2.2.2⟩
/-- the greatest of 0 and some depths -/
theorem tdpL_max0 {ds : List PyData} {m : Int} (h1 : m ∈ (0 : Int) :: ds.map (fun d => (tdp d : Int))) (h2 : ∀ z, z ∈ (0 : Int) :: ds.map (fun d => (tdp d : Int)) → z ≤ m) : m = (tdpL ds : Int) := by
  by_cases e : ds = []
  · subst e
    have : m = 0 := by simpa using h1
    rw [this]; rfl
  · refine tdpL_max (fun z => absurd (List.map_eq_nil_iff.mp z) e) fun _ => ⟨?_, fun z hz => h2 z (List.mem_cons_of_mem _ hz)⟩
    rcases List.mem_cons.mp h1 with h | h
    · obtain ⟨d, hd⟩ := List.exists_mem_of_ne_nil ds e
      have h3 := h2 (tdp d : Int) (List.mem_cons_of_mem _ (List.mem_map.mpr ⟨d, hd, rfl⟩))
      have : (tdp d : Int) = m := by omega
      exact List.mem_map.mpr ⟨d, hd, this⟩
    · exact h
/-- the texts so far -/
theorem txL_snoc (es : List PyData) (d : PyData) : txL (es ++ [d]) = txL es ++ (if es = [] then [] else [44]) ++ txD d := by
  cases es with
  | nil => simp [txL, txM]
  | cons e es =>
    have key : ∀ l : List PyData, txM (l ++ [d]) = txM l ++ (44 :: txD d) := by
      intro l
      induction l with
      | nil => simp [txM]
      | cons a l ih => rw [List.cons_append, txM, ih, txM]; simp
    rw [List.cons_append, txL, key, txL, if_neg (List.cons_ne_nil _ _)]
    simp
section
variable {H : Hp} {Q : VK} {K : PySem.W.Frag}
theorem y_sliceL {p : Addr} {xs : List V} {lo hi : Option Int} (h : SqL K H p xs) (q : ∀ l H', H l = none → Ex H H' → H' l = some (.lst (cutV xs lo hi)) → Q (.ref l) H') : rSlU K (.ref p) lo hi H Q := .inl (y_slL h q)
theorem FlAll.cut {vs : List V} {ds : List PyData} (lo hi : Option Int) (h : FlAll K H vs ds) : ∃ es, FlAll K H (cutV vs lo hi) es ∧ ∀ d ∈ es, d ∈ ds := by
  refine ⟨_, (h.drop _).take _, fun d hd => List.mem_of_mem_drop (List.mem_of_mem_take hd)⟩
theorem FlAll.rep {v : V} {d : PyData} (h : Fl K H v d) : ∀ n : Nat, FlAll K H (List.replicate n [v]).flatten (List.replicate n d)
  | 0 => .nil
  | n + 1 => by
    rw [List.replicate_succ, List.replicate_succ, List.flatten_cons]
    exact .cons h (FlAll.rep h n)
end
end Ls
end

section
set_option Elab.async false
set_option linter.all false
set_option maxRecDepth 100000
set_option maxHeartbeats 4000000
namespace Ls
open PySem PySem.Spec PyProof.Rows L2
/-- an own exception class at C over a built-in one -/
structure Xc (K : PySem.W.Frag) (bmB : List Value) (newId : String) (C : Addr) : Prop where
  ii : PySem.W.excInitIn K C bmB newId = true
  ov : PySem.W.excOver K C bmB = true
  hd : PySem.W.hasDictIn K C = true
  sa : PySem.W.findIn K (.ref C) "__setattr__" = some (some (.builtin "object.__setattr__"))
  exC : PySem.W.subIn K (.ref C) (.type "BaseException") = some true
  tyC : PySem.W.typeIn K (.ref C) = some (.type "type")
  kC : PySem.W.keepIn K (.ref C) = true
/-- the built-in class that it stands over -/
structure Xb (bmB : List Value) (B newId initId : String) : Prop where
  F : ExcBaseFacts B newId initId bmB
  SF : StoreFacts B bmB "object.__setattr__" "object"
theorem xb_value : Xb [.type "ValueError", .type "Exception", .type "BaseException", .type "object"] "ValueError" "ValueError.__new__" "ValueError.__init__" := ⟨F.excBase_ValueError, F.store_ValueError⟩
theorem xb_lookup : Xb [.type "LookupError", .type "Exception", .type "BaseException", .type "object"] "LookupError" "LookupError.__new__" "LookupError.__init__" := ⟨F.excBase_LookupError, F.store_LookupError⟩
theorem xb_runtime : Xb [.type "RuntimeError", .type "Exception", .type "BaseException", .type "object"] "RuntimeError" "RuntimeError.__new__" "RuntimeError.__init__" := ⟨F.excBase_RuntimeError, F.store_RuntimeError⟩
theorem xb_arith : Xb [.type "ArithmeticError", .type "Exception", .type "BaseException", .type "object"] "ArithmeticError" "ArithmeticError.__new__" "ArithmeticError.__init__" := ⟨F.excBase_ArithmeticError, F.store_ArithmeticError⟩
section
open Builtin Builtin.ObjectAttr
variable {prog : Program} {w : World} {A : Around} {R : Result → Shared → Prop} {K : PySem.W.Frag} {bmB : List Value} {B newId initId : String} {hp : Heap} {g : Array GenState} {d : Drawn} {t : Nat} {os : OsState}
theorem cls_dict {C : Addr} (h : PySem.W.hasDictIn K C = true) : ∃ cd, PySem.W.clsIn K C = some cd ∧ cd.hasDict = true := by
  obtain ⟨cd, a, b⟩ := PySem.W.any_some h
  exact ⟨cd, a, b⟩
/-- object.__setattr__, the dict is made -/
theorem put_first {name : Str} {tk : Tok} {v : Value} {x C : Addr} {fv : Array Value} (T : Xc K bmB newId C) (b : Xb bmB B newId initId) (KX : K.In hp) (hx : hp.get? x = some { cls := .ref C, data := .fields fv }) (hno : PySem.W.takerIn K C name = some none)
    (hq : ∀ h' tk' dx, (∀ b o, b ≠ x → hp.get? b = some o → h'.get? b = some o) → hp.objs.size ≤ dx → dx ≠ x → h'.get? x = some { cls := .ref C, dict := some dx, data := .fields fv } →
      h'.Ns1 dx (fun y => if y = name then some v else none) → R (.ok (.ret .none)) ⟨h', g, d, tk', os⟩) :
    codeAny (model prog w) A (.call (.builtin "object.__setattr__") ⟨[.ref x, .str name tk, v], []⟩) R ⟨hp, g, d, t, os⟩ := by
  have far : x ≠ hp.objs.size := Nat.ne_of_lt (Heap.lt_size hx)
  refine PySem.W.osa_openX (s := ⟨hp, g, d, t, os⟩) (ox := { cls := .ref C, data := .fields fv }) (od := none) b.SF KX ⟨hx, rfl, rfl, trivial⟩ T.ov hno fun bb => ?_
  obtain ⟨cd, hcd, hh⟩ := cls_dict T.hd
  have LC : PySem.W.Looks (model prog w) hp (classData C) cd := PySem.W.looks_clsIn KX hcd
  obtain ⟨nm, bs, mro, ns, qn, hd, sn, sb, ab, col, del⟩ := cd
  dsimp only at hh
  subst hh
  dsimp only
  unfold storeInOwnDict ownDictForStores
  repeat (first | with_reducible refine HandSPX.store_in_new ?_ ?_ | with_reducible refine wpAny_loadPart_at hx ?_ | with_reducible refine LC.at ?_ | wp_step)
  · exact ⟨_, #[], _, (Heap.get?_update_ne _ _ _ _ far.symm).trans (Heap.get?_push_at rfl rfl), rfl, fun e he => absurd he (by simp), fun _ => rfl⟩
  · intro h' tk' hn' hs
    have hx1 : (hp.push { cls := .type "dict", data := .dict #[] }).get? x = some { cls := .ref C, data := .fields fv } := Heap.get?_push_of_some _ hx
    refine hq h' tk' hp.objs.size (fun c o hb ho => ?_) (Nat.le_refl _) far.symm ?_ hn'
    · have far2 : c ≠ hp.objs.size := Nat.ne_of_lt (Heap.lt_size ho)
      exact (hs.2 c far2).trans ((Heap.get?_update_ne _ _ _ _ hb).trans (Heap.get?_push_of_some _ ho))
    · exact (hs.2 x far).trans (Heap.get?_update_self _ hx1 rfl)
/-- .., the dict stands -/
theorem put_more {name : Str} {tk : Tok} {v : Value} {x C dx : Addr} {fv : Array Value} {m0 : Str → Option Value} {nl : List Str} (T : Xc K bmB newId C) (b : Xb bmB B newId initId) (KX : K.In hp) (hx : hp.get? x = some { cls := .ref C, dict := some dx, data := .fields fv })
    (hns : hp.Ns1 dx m0) (hw : Within m0 nl) (hz : nl.length ≤ 1000) (hno : PySem.W.takerIn K C name = some none)
    (hq : ∀ h' tk', (∀ b o, b ≠ dx → hp.get? b = some o → h'.get? b = some o) → h'.Ns1 dx (fun y => if y = name then some v else m0 y) → R (.ok (.ret .none)) ⟨h', g, d, tk', os⟩) :
    codeAny (model prog w) A (.call (.builtin "object.__setattr__") ⟨[.ref x, .str name tk, v], []⟩) R ⟨hp, g, d, t, os⟩ := by
  obtain ⟨oD, esD, epD, hoD, hdD, _⟩ := hns.count hw
  refine PySem.W.osa_openX (s := ⟨hp, g, d, t, os⟩) (ox := { cls := .ref C, dict := some dx, data := .fields fv }) (od := some oD) b.SF KX ⟨hx, rfl, rfl, hoD⟩ T.ov hno fun bb => ?_
  obtain ⟨cd, hcd, hh⟩ := cls_dict T.hd
  have LC : PySem.W.Looks (model prog w) hp (classData C) cd := PySem.W.looks_clsIn KX hcd
  obtain ⟨nm, bs, mro, ns, qn, hd, sn, sb, ab, col, del⟩ := cd
  dsimp only at hh
  subst hh
  dsimp only
  unfold storeInOwnDict ownDictForStores
  repeat (first | with_reducible refine OEX.store_in_old hns hw hz ?_ | with_reducible refine wpAny_loadPart_at hx ?_ | with_reducible refine LC.at ?_ | wp_step)
  intro h' tk' hn' hs
  exact hq h' tk' (fun c o hc ho => (hs.2 c hc).trans ho) hn'
end
section
variable {X : Cx} {pins : List (Addr × Obj)} {σ : L2.St} {H : Hp} {s : Shared} {a C dx : Addr} {f : Str} {y : V} {u : Value} {fs : List (Str × V)} {Q : Unit → Shared → Prop} {E : Value → Shared → Prop} {A : Around} {bmB : List Value} {B newId initId : String}
/-- an object told by the heap alone becomes another, a further one is laid -/
theorem inv_graft {φ : Heap → Prop} {h' : Heap} {t' : Nat} {o1 o2 : HO} (I : Inv X pins σ H s) (e : H a = some (.ext φ)) (k : ∀ c o, c ≠ a → s.heap.get? c = some o → h'.get? c = some o) (far : s.heap.objs.size ≤ dx) (ha : ∃ o, h'.get? a = some o)
    (x1 : ObjOk X.prog X.w (upd (upd H dx o1) a o2) h' dx o1) (x2 : ObjOk X.prog X.w (upd (upd H dx o1) a o2) h' a o2) : Inv X pins σ (upd (upd H dx o1) a o2) { s with heap := h', toks := t' } := by
  have free : H dx = none := I.hok.fresh far
  have below : ∀ {c : Addr} {o : Obj}, s.heap.get? c = some o → c ≠ dx := fun {c o} q => Nat.ne_of_lt (Nat.lt_of_lt_of_le (Heap.lt_size q) far)
  have un : ∀ {c : Addr}, H c = none → c ≠ a := fun {c} n z => by rw [z, e] at n; cases n
  have same : ∀ {c : Addr} {v : HO}, H c = some v → c ≠ a → upd (upd H dx o1) a o2 c = some v := fun {c v} q n => by rw [upd_ne n, upd_ne (ne_of_none q free)]; exact q
  have other : ∀ {c : Addr} {v : HO}, H c = some v → (∀ ψ, v ≠ .ext ψ) → c ≠ a := fun {c v} q n z => by
    rw [z, e] at q
    exact n φ (Option.some.inj q).symm
  refine I.un (t' := t') ⟨fun c o q n _ _ => k c o (un n) q, fun c o q n _ _ => ⟨o.slots, k c o (un n) q⟩, fun c o q n _ => ?_, fun c o q _ => ?_, fun c xs q => same q (other q fun _ => nofun), fun c o v q => same q (other q fun _ => nofun), fun c ps q => ⟨#[], ?_⟩⟩ fun c o q => ?_
  · rw [upd_ne (un n), upd_ne (below q)]
    exact n
  · by_cases z : c = a
    · rw [z]
      exact ha
    · exact ⟨o, k c o z q⟩
  · rw [same q (other q fun _ => nofun)]
    simp
  · by_cases z : c = a
    · subst z
      rw [upd_same] at q
      cases q
      exact x2
    rw [upd_ne z] at q
    by_cases z2 : c = dx
    · subst z2
      rw [upd_same] at q
      cases q
      exact x1
    rw [upd_ne z2] at q
    refine (I.hok c o q).stay (fun b v hb hv => k b v ?_ hv) (fun b hb => same hb (other hb fun _ => nofun)) fun b xs hb => same hb (other hb fun _ => nofun)
    rcases hb with hb | hb
    · rw [hb]
      exact z
    · exact other hb fun _ => nofun
theorem xput_new (T : Xc X.K bmB newId C) (b : Xb bmB B newId initId) (I : Inv X pins σ H s) (e : H a = some (exo a C none)) (hno : PySem.W.takerIn X.K C f = some none) (ry : RelV y u)
    (h : ∀ dx s', H dx = none → dx ≠ a → Inv X pins σ (upd (upd H dx (exd dx [(f, y)])) a (exo a C (some dx))) s' → Q () s') : wpAny (model X.prog X.w) A (setAttr (.ref a) f u) Q E s := by
  obtain ⟨t1, ho⟩ := exo_at I.hok e
  obtain ⟨hp, g, d, t, os⟩ := s
  refine PySem.W.set_plain I.kIn (ox := { cls := .ref C, dict := none, data := .fields #[.ref t1, .none, .none, .none, .bool false, .none] }) (od := none) ⟨ho, rfl, rfl, trivial⟩ T.sa ?_
  refine put_first T b I.kIn ho hno fun h' tk' dx k far ne hx hn => ?_
  exact h dx _ (I.hok.fresh far) ne (inv_graft I e k far ⟨_, hx⟩ (exd_ok hn (relO_put (fs := []) ry fun _ => True.intro)) (exo_ok hx))
theorem xput_more (T : Xc X.K bmB newId C) (b : Xb bmB B newId initId) (I : Inv X pins σ H s) (e : H a = some (exo a C (some dx))) (ed : H dx = some (exd dx fs)) (hl : fs.length ≤ 900) (hno : PySem.W.takerIn X.K C f = some none) (ry : RelV y u)
    (h : ∀ s', Inv X pins σ (upd H dx (exd dx ((f, y) :: fs))) s' → Q () s') : wpAny (model X.prog X.w) A (setAttr (.ref a) f u) Q E s := by
  obtain ⟨t1, ho⟩ := exo_at I.hok e
  obtain ⟨mA, hns, rel⟩ := exd_at I.hok ed
  have hw := within_of rel
  obtain ⟨hp, g, d, t, os⟩ := s
  obtain ⟨oD, _, _, hoD, _, _⟩ := hns.count hw
  refine PySem.W.set_plain I.kIn (ox := { cls := .ref C, dict := some dx, data := .fields #[.ref t1, .none, .none, .none, .bool false, .none] }) (od := some oD) ⟨ho, rfl, rfl, hoD⟩ T.sa ?_
  refine put_more T b I.kIn ho hns hw (by rw [List.length_map]; omega) hno fun h' tk' k hn => ?_
  have there : ∃ o, h'.get? dx = some o := let ⟨o, _, _, z, _⟩ := hn; ⟨o, z⟩
  refine h _ (I.write (t' := tk') (x := dx) (e := dx) (o := exd dx ((f, y) :: fs)) ?_ (.inl rfl) k there (exd_ok hn (relO_put ry rel)))
  rw [ed]
  exact True.intro
/-- the built-in __init__ of a made exception -/
theorem xinit {us : List Value} {Q : Value → Shared → Prop} (T : Xc X.K bmB newId C) (b : Xb bmB B newId initId) (I : Inv X pins σ H s) (e : H a = some (exo a C none)) (hl : us.length ≤ sizeLine) (h : ∀ s', Inv X pins σ H s' → Q .none s') :
    wpAny (model X.prog X.w) A (call (.builtin initId) (.ref a :: us)) Q E s := by
  obtain ⟨nm, N, qn, bs, bm, hdct, sn, sub, ab, col, dd, k0, k1, k2, k3, k5, hC, hT⟩ := PySem.W.excInit_of I.kIn T.ii
  obtain ⟨t1, ho⟩ := exo_at I.hok e
  obtain ⟨hp, g, d, t, os⟩ := s
  refine wpAny_call (HandSPX.init_base b.F hT hC ho hl fun h' t2 k hx => ?_)
  have J := I.write (t' := t) (x := a) (e := a) (o := exo a C none) (by rw [e]; exact True.intro) (.inl rfl) k ⟨_, hx⟩ (exo_ok hx)
  have back : upd H a (exo a C none) = H := funext fun c => by
    by_cases z : c = a
    · rw [z, upd_same, e]
    · exact upd_ne z
  rw [back] at J
  exact h _ J
end
/-- the base class's name, whose __init__ is the built-in one -/
structure Xn (K : PySem.W.Frag) (mg : Str → Option Value) (x : Str) (initId : String) (D : Addr) : Prop where
  m : mg x = some (.ref D)
  rd : PySem.W.readsIn K D (.type "type") = true
  fc : PySem.W.findCls K (.ref D) (.type "type") "__init__" = some (.val (.builtin initId))
  ga : PySem.W.specialIn K (.ref D) "__getattribute__" = some (some (.builtin "type.__getattribute__"))
def tXi (K : PySem.W.Frag) (bmB : List Value) (newId : String) (ta : TA) : TE := fun σ H Q => ta σ H fun vs H1 => ∃ (a C : Addr) (ws : List V), vs = .ref a :: ws ∧ ws.length ≤ 1000 ∧ Xc K bmB newId C ∧ H1 a = some (exo a C none) ∧ Q .non H1
def tXo (K : PySem.W.Frag) (bmB : List Value) (newId : String) (f : Str) (to te : TE) : TS := fun D σ H => te σ H fun y H1 => to σ H1 fun x H2 => ∃ a C : Addr, x = .ref a ∧ Xc K bmB newId C ∧ PySem.W.takerIn K C f = some none ∧
  ((H2 a = some (exo a C none) ∧ ∀ dx, H2 dx = none → dx ≠ a → D.nx σ (upd (upd H2 dx (exd dx [(f, y)])) a (exo a C (some dx)))) ∨
    ∃ (dx : Addr) (fs : List (Str × V)), H2 a = some (exo a C (some dx)) ∧ H2 dx = some (exd dx fs) ∧ fs.length ≤ 900 ∧ D.nx σ (upd H2 dx (exd dx ((f, y) :: fs))))
section
variable {X : Cx} {o e : Expr} {es : List Expr} {to te : TE} {ta : TA} {f x : Str} {p p' p1 p2 pos : Pos} {bmB : List Value} {B newId initId : String} {C D : Addr}
/-- B.__init__(self, ..) -/
theorem pe_xi {pl : Sem Bool} (b : Xb bmB B newId initId) (n : Xn X.K X.mg x initId D) (ha : PA X (e :: es) ta) (hh : PySem.W.handedIn (.builtin initId) = true) (hg : Gl X x := by rfl) (hdb : (x == ("__debug__" : Str)) = false := by decide)
    (hc : eval (.Call (.Attribute (.Name x p1) "__init__" p2) (e :: es) [] pos) X.env = (do
      let ov ← eval (.Name x p1) X.env
      standAt p2.atName
      let (m, first) ← holding [ov] (getMethod ov "__init__" pl)
      callWith pos m first (backTo pos (starEach (e :: es) X.env)) (backToKw pos (keywordEach [] X.env))) := by rfl)
    (hs : starEach (e :: es) X.env = (false, eval e X.env) :: starEach es X.env := by rfl) (hpl : (backTo pos (starEach es X.env)).any (·.1) = false := by rfl) :
    PE X (.Call (.Attribute (.Name x p1) "__init__" p2) (e :: es) [] pos) (tXi X.K bmB newId ta) := by
  refine ⟨fun pins s σ H Q I h => ?_⟩
  refine PySem.W.methodCall_KW (ld_glob I hg n.m ?_ hdb) hc
  refine PySem.W.method_cls I.kIn n.ga (PySem.W.cls_value I.kIn n.rd n.fc hh ?_)
  show wpAny _ _ (callWith pos (Value.builtin initId) [] (backTo pos (starEach (e :: es) X.env)) []) _ _ _
  refine PyProof.Rows.callWith_method1 (thn (ha.run pos pins _ σ H _ (I.tok _) h) fun us s1 ⟨vs, H1, I1, r1, a, C, ws, ev, hl, T, ea, q⟩ => ?_) hs hpl
  subst ev
  cases r1 with
  | @cons _ u0 _ ur ra rr =>
    cases ra
    exact xinit T b I1 ea (by rw [← Paired.length rr]; exact Nat.le_trans hl (by decide)) fun s' J => ⟨.non, H1, J, rfl, q⟩
/-- self.f = e -/
theorem ps_xo (b : Xb bmB B newId initId) (ho : PE X o to) (he : PE X e te) (hs : swapsWith e (some (.Attribute o f p')) pos.line X.env = pure false := by rfl) : PS X (.Assign [.Attribute o f p'] e pos) (tXo X.K bmB newId f to te) := by
  refine ⟨fun pins s σ H D I h => ?_⟩
  refine plainObj_wpAny_Assign_Attribute (thn (he.run pins s σ H _ I h) fun v s1 ⟨y, H1, I1, r1, q1⟩ => thn (ho.run pins s1 σ H1 _ I1 q1) fun u s2 ⟨x, H2, I2, r2, a, C, ex, T, hno, q⟩ => ?_) hs
  subst ex
  cases r2
  rcases q with ⟨ea, q⟩ | ⟨dx, fs, ea, ed, hl, q⟩
  · exact xput_new T b I2 ea hno r1 fun dx s' n ne J => ⟨σ, _, J, q dx n ne⟩
  · exact xput_more T b I2 ea ed hl hno r1 fun s' J => ⟨σ, _, J, q⟩
end
/-- the promise of an exception's __init__: its values become its fields fl -/
def sp_xini (C : Addr) (fl : List Str) : Sp := fun vs H Q _ => ∃ (a : Addr) (ws : List V), vs = .ref a :: ws ∧ ws.length = fl.length ∧ H a = some (exo a C none) ∧
  ∀ dx H', H dx = none → dx ≠ a → (∀ b, b ≠ a → b ≠ dx → H' b = H b) → H' a = some (exo a C (some dx)) → H' dx = some (exd dx (fl.zip ws).reverse) → Q .non H'
/-- a class of the module's own, whose objects may be raised -/
structure Xk (P : Program) (w : World) (K : PySem.W.Frag) (mg : Str → Option Value) (base : Heap) (k : Nat) (x : Str) (C : Addr) (fl : List Str) : Prop where
  ex : ∃ (bmB : List Value) (B newId initId : String) (fI : Addr) (fd : FuncData) (ps : List Str), Xb bmB B newId initId ∧ Xc K bmB newId C ∧ PySem.W.findIn K (.ref C) "__init__" = some (some (.ref fI)) ∧ PySem.W.typeIn K (.ref fI) = some (.type "function") ∧
    FnOk P w K mg base (L2.CX P w) k fI fd ps (sp_xini C fl) ∧ Binds K fd ps [] ∧ mg x = some (.ref C)
def tMkX (C : Addr) (fl : List Str) (ta : TA) : L2.St → Hp → XK → Prop := fun σ H Q => ta σ H fun vs H1 => vs.length = fl.length ∧ vs.length ≤ 1000 ∧ ∀ d H2, H1 d = none → (∀ b, b ≠ d → H2 b = H1 b) → H2 d = some (.xd (fl.zip vs).reverse) → Q (.ref C) (some d) H2
theorem pmk_x {X : Cx} {e : Expr} {es : List Expr} {ta : TA} {x : Str} {p pos : Pos} {C : Addr} {fl : List Str} {k j : Nat} (c : Xk X.prog X.w X.K X.mg X.base k x C fl) (hr : RoomG j X.A) (hk : k + 1 ≤ j) (ha : PA X (e :: es) ta) (hg : Gl X x := by rfl)
    (hdb : (x == ("__debug__" : Str)) = false := by decide) (hs : starEach (e :: es) X.env = (false, eval e X.env) :: starEach es X.env := by rfl) (hpl : (backTo pos (starEach es X.env)).any (·.1) = false := by rfl) :
    PMk X (.Call (.Name x p) (e :: es) [] pos) (tMkX C fl ta) := by
  intro pins s σ H Q I h
  obtain ⟨bmB, B, newId, initId, fI, fd, ps, b, T, iC, tI, F1, hb, hm⟩ := c.ex
  refine wpAny_Call_Name_kw (ld_glob I hg hm ?_ hdb)
  refine PySem.W.callWith_K (h₀ := X.base) I.ok.mod.kin T.kC (thn (ha.run pos pins s σ H _ I h) fun us s1 ⟨vs, H1, I1, r1, hz, hz2, q1⟩ => ⟨I1.kIn, ?_⟩) hs hpl
  show wpAny _ _ (call (.ref C) us) _ _ _
  obtain ⟨nm, N, qn, bs, bm, hdct, sn, sub, ab, col, dd, k0, k1, k2, k3, k5, hC, hT⟩ := PySem.W.excInit_of I1.kIn T.ii
  obtain ⟨hp, g, dr, tk, os⟩ := s1
  have next : hp.objs.size ≤ hp.objs.size + 1 := Nat.le_succ _
  have new : H1 (hp.objs.size + 1) = none := I1.hok.fresh next
  have keeps : ∀ c o, hp.get? c = some o → ((hp.push (PySem.W.kdv_tup us)).push (HandSPX.excO C hp.objs.size)).get? c = some o := fun c o z => Heap.get?_push_of_some _ (Heap.get?_push_of_some _ z)
  have there : ((hp.push (PySem.W.kdv_tup us)).push (HandSPX.excO C hp.objs.size)).get? (hp.objs.size + 1) = some (HandSPX.excO C hp.objs.size) := by heap_get
  have I2 := I1.laid (t' := tk) (a := hp.objs.size + 1) (o := exo (hp.objs.size + 1) C none) (h' := (hp.push (PySem.W.kdv_tup us)).push (HandSPX.excO C hp.objs.size)) keeps next (exo_ok there)
  have hsp : sp_xini C fl (.ref (hp.objs.size + 1) :: vs) (upd H1 (hp.objs.size + 1) (exo (hp.objs.size + 1) C none)) (fun v H2 => v = .non ∧ ∃ (d : Addr) (fs : List (Str × V)), H2 (hp.objs.size + 1) = some (exo (hp.objs.size + 1) C (some d)) ∧ H2 d = some (exd d fs) ∧ H1 d = none ∧ Q (.ref C) (some d) (upd (L2.del H2 (hp.objs.size + 1)) d (.xd fs))) (fun _ _ _ => False) := by
    refine ⟨_, vs, rfl, hz, upd_same, fun dx H' n1 n2 same ea ed => ⟨rfl, dx, _, ea, ed, ?_, ?_⟩⟩
    · rw [upd_ne n2] at n1
      exact n1
    · rw [upd_ne n2] at n1
      refine q1 dx _ n1 (fun c nc => ?_) upd_same
      rw [upd_ne nc]
      by_cases z : c = hp.objs.size + 1
      · rw [z, del_same, new]
      · rw [del_ne z, same c z nc, upd_ne z]
  have r2 : Vals (V.ref (hp.objs.size + 1) :: vs) (Value.ref (hp.objs.size + 1) :: us) := .cons rfl r1
  have hl : (Value.ref (hp.objs.size + 1) :: us).length = ps.length := by
    have z := F1.len _ _ _ _ hsp
    rw [r2.length] at z
    exact z
  have hus : us.length ≤ sizeLine := by rw [← Paired.length r1]; exact Nat.le_trans hz2 (by decide)
  have hbn := hb _ (Value.ref (hp.objs.size + 1) :: us) I2.kIn (by rw [List.append_nil]; exact hl)
  rw [List.append_nil] at hbn
  refine wpAny_call (HandSPX.call_own b.F hT hC (PySem.W.looks_findIn I1.kIn iC) (fun self => PySem.W.bind_fn I1.kIn self tI) hus
    (codeAny_mono (F1.run _ X.stack _ _ ⟨Value.ref (hp.objs.size + 1) :: us, []⟩ _ _ _ _ ((hr.mono hk).rm.make C us []) (I2.env0.make C us []) hbn r2 hsp) fun r s' hq' => ?_))
  cases r with
  | error er =>
    obtain ⟨_, _, _, _, _, _, _, _, _, _, _, _, z⟩ := hq'
    exact z.elim
  | ok fl' =>
    cases fl' with
    | ret u =>
      obtain ⟨v, H2, os2, bare2, un2, hok2, rv, ev, d, fs, ea, ed, hd1, q2⟩ := hq'
      subst ev
      obtain ⟨h2, g2, d2, t2, os'⟩ := s'
      exact ⟨rv, mk_end (raises_own T.exC T.tyC) I1 next keeps un2 hok2 os2 bare2 ea ed hd1 q2⟩
    | next => exact False.elim hq'
    | brk => exact False.elim hq'
    | cont => exact False.elim hq'
end Ls
end

section
set_option Elab.async false
set_option linter.all false
set_option maxRecDepth 100000
set_option maxHeartbeats 4000000
namespace Ls
open PySem PySem.Spec PyProof.Rows L2
open PySem.W in
/-- an exception's class, asked of itself -/
theorem exc_class {prog : Program} {w : World} {A : Around} {E : Value → Shared → Prop} {s : Shared} {K : PySem.W.Frag} {x D : Addr} {ox : Obj} {od : Option Obj} {Q : Option Value → Shared → Prop} (c : ExcC K D) (KX : K.In s.heap) (I : InstAt s.heap x ox D od) (h : Q (some (.ref D)) { s with toks := s.toks + 1 }) :
    wpAny (model prog w) A (getAttr? (.ref x) "__class__") Q E s := by
  have found : findObj K D od "__class__" = some (.bind (.builtin "getset_descriptor.__get__") (.builtin "object.__class__")) := by
    obtain ⟨cd, q, _⟩ := any_some c.hd
    unfold findObj
    rw [q, Option.bind_some, c.ha, Option.bind_some]
    simp [c.hn, c.ht]
  obtain ⟨hp, g, d, t, os⟩ := s
  have ofT := I.type (M := model prog w)
  have base : Looks (model prog w) hp (isInstance (.ref x) (.type "BaseException")) true := ofT.andThen (looks_subIn KX c.hs)
  have nob : (Value.builtin "BaseException.__getattribute__" == Value.builtin "object.__getattribute__") = false := by decide +kernel
  unfold getAttr? getAttrBy? getAttrBy
  refine wpAny_bind (wpAny_mkText (wpAny_bind (wpAny_attempt (wpAny_holding (wpAny_bind (ofT.at (wpAny_bind ((looks_findIn (M := model prog w) KX c.hg).at ?_))))))))
  show wpAny _ _ (if (onTheHeap (Value.ref D) && Value.builtin "BaseException.__getattribute__" == Value.builtin "object.__getattribute__") = true then _ else _) _ _ _
  rw [nob, Bool.and_false, if_neg Bool.false_ne_true]
  unfold getAttrByItsOwn hookBefore
  refine wpAny_bind ?_
  rw [if_pos (show onTheHeap (Value.ref D) = true from rfl)]
  refine (looks_findIn (M := model prog w) KX c.hk).at (wpAny_bind (wpAny_attempt (wpAny_holding ?_)))
  unfold callGetattribute
  rw [Bool.false_and, if_neg Bool.false_ne_true]
  unfold boundAndCalled
  rw [F.excAttr_ValueError.ga.bind (.ref x)]
  refine wpAny_bind (wpAny_pure ?_)
  show wpAny _ _ (call (.builtin "BaseException.__getattribute__") [.ref x, .str "__class__" t]) _ _ _
  refine wpAny_call (codeAny_call_builtin F.excAttr_ValueError.ga.plain F.entry_bexc_ga ?_)
  refine @check_slot (model prog w) _ _ ⟨hp, g, d, t + 1, os⟩ "BaseException.__getattribute__" "BaseException" "__getattribute__" (.ref x) [.str "__class__" t] [] _ (by decide +kernel) (by decide +kernel) base (F.args_bexc_ga (.ref x) (.str "__class__" t)) ?_
  unfold Builtin.«object.__getattribute__»
  refine wpAny_bind (wpAny_of_eq (a := ((Value.ref x : Value), [Value.str "__class__" t])) (by first | rfl | (simp only [slotArgs]; rfl)) ?_)
  refine wpAny_bind (wpAny_pure (wpAny_bind (ofT.at (wpAny_bind ((looks_find (M := model prog w) KX I found).at ?_)))))
  show wpAny _ _ (holding [Value.builtin "object.__class__"] (call (.builtin "getset_descriptor.__get__") [.builtin "object.__class__", .ref x, .ref D]) >>= ret) _ _ _
  refine wpAny_bind (wpAny_holding (wpAny_call (class_get (s := ⟨hp, g, d, t + 1, os⟩) (ox := ox) (od := od) KX I c.hm (wpAny_pure ?_))))
  show wpAny _ _ (handedOut (.ref D)) _ _ _
  rw [handedOut_of (v := .ref D) rfl]
  first
    | exact wpAny_pure (wpAny_pure h)
    | exact wpAny_pure h
    | exact wpAny_pure (wpAny_bind (wpAny_pure (wpAny_pure h)))
open PySem.W in
theorem kitx_exc {K : PySem.W.Frag} {x D : Addr} {ox : Obj} (c : ExcC K D) : KitX K (.ref x) (.ref D) (fun h => ∃ od, InstAt h x ox D od) where
  ty := fun _ _ _ ⟨_, I⟩ => I.type
  it := fun _ _ KX _ A' Q' E' s' k q => by
    obtain ⟨cd, hcd, _⟩ := any_some c.hd
    unfold clsIn at hcd
    split at hcd
    · rename_i ho
      unfold isType loadHead
      exact wpAny_bind (wpAny_loadPart (k _ _ (KX _ _ ho)) (wpAny_pure q))
    · cases hcd
  ne := fun h tp dd its n sl KX htp => by
    obtain ⟨cd, hcd, _⟩ := any_some c.hd
    cases z : (Value.ref D == .ref tp) with
    | false => rfl
    | true =>
      have e : D = tp := Value.ref.inj (beq_iff_eq.mp z)
      subst e
      unfold clsIn at hcd
      split at hcd
      · rename_i ho
        have z := (KX _ _ ho).symm.trans htp
        cases z
      · cases hcd
  ca := fun KX ⟨_, I⟩ k => exc_class c KX I k
/-- a class as a value -/
def clsV : V → Value
  | .ref a => .ref a
  | .ty T => .type T
  | _ => .none
def isCls : V → Bool
  | .ref _ => true
  | .ty _ => true
  | _ => false
theorem clsV_rel {c : V} {u : Value} (h : isCls c = true) (r : RelV c u) : u = clsV c := by
  cases c <;> first | exact r | cases h
theorem clsV_vals : ∀ {cs : List V} {us : List Value}, cs.all isCls = true → Vals cs us → us = cs.map clsV
  | [], _, _, r => by cases r; rfl
  | c :: cs, _, h, r => by
    cases r with
    | cons a b =>
      rw [List.all_cons, Bool.and_eq_true] at h
      rw [clsV_rel h.1 a, clsV_vals h.2 b]
      rfl
/-- an instance of D, asked of one class or of several -/
def isAsk (K : PySem.W.Frag) (D : Addr) (c : V) (H : Hp) (b : Bool) : Prop := (isCls c = true ∧ PySem.W.kitOne K (.ref D) (clsV c) = some b) ∨ ∃ tp cs, c = .ref tp ∧ SqT K H tp cs ∧ cs.all isCls = true ∧ PySem.W.kitAny K (.ref D) (cs.map clsV) = some b
/-- isinstance(e, c), e the exception that the suite holds -/
def rIsS (K : PySem.W.Frag) (a : Addr) (cls : Value) (d : Option Addr) : List V → Hp → VK → Prop := fun xs H Q => ∃ (c : V) (D dd : Addr) (fs : List (Str × V)) (b : Bool), xs = [.ref a, c] ∧ cls = .ref D ∧ d = some dd ∧ H dd = some (.xd fs) ∧ ExcC K D ∧ isAsk K D c H b ∧ Q (.bl b) H
theorem isinst_x {X : Cx} {pins : List (Addr × Obj)} {σ : L2.St} {H : Hp} {s : Shared} {Q : VK} {x D : Addr} {ox : Obj} {c : V} {u : Value} {b : Bool} (I : Inv X pins σ H s) (J : ∃ od, PySem.W.InstAt s.heap x ox D od) (T : ExcC X.K D) (rc : RelV c u) (ask : isAsk X.K D c H b) (q : Q (.bl b) H) :
    wpAny (model X.prog X.w) X.A (call (.builtin "isinstance") [.ref x, u]) (EP X pins σ Q) X.xe s := by
  have fin : ∀ tk, EP X pins σ Q (.bool b) { s with toks := tk } := fun tk => ⟨.bl b, H, I.kept (t' := tk) fun _ _ z => z, rfl, q⟩
  rcases ask with ⟨h1, h2⟩ | ⟨tp, cs, rfl, hS, hc, h2⟩
  · have e := clsV_rel h1 rc
    subst e
    exact PySem.W.kia_one (kitx_exc (ox := ox) T) I.kIn J h2 (fun z => nomatch z) fin
  · cases rc
    obtain ⟨its, rv, ⟨o, ho, hcl, n, hd⟩, _⟩ := I.tuple hS
    have e := clsV_vals hc rv
    subst e
    obtain ⟨oc, od, dt, sl⟩ := o
    dsimp only at hcl hd
    subst hcl hd
    exact PySem.W.kia_tup (kitx_exc (ox := ox) T) I.kIn J ho h2 (fun z => nomatch z) fin
theorem call_isS {X : Cx} {a : Addr} {oe : Obj} {cls : Value} {d : Option Addr} {pn : List (Addr × Obj)} (hz : Zc cls d oe) (hf : ∃ vs, oe.data = .fields vs) : CallR (X.suite a ((a, oe) :: pn)) (.builtin "isinstance") (rIsS X.K a cls d) := by
  intro pins s σ H xs us Q I r h
  obtain ⟨c, D, dd, fs, b, rfl, rfl, rfl, hx, T, ask, q⟩ := h
  cases r with
  | cons rx rr =>
    cases rr with
    | cons rc rr =>
      cases rr
      cases rx
      obtain ⟨hget, _⟩ := I.pin (a, oe) (List.mem_append_left _ List.mem_cons_self)
      obtain ⟨vs, hv⟩ := hf
      obtain ⟨mA, ⟨od, es, ep, ho, _⟩, _⟩ := (show ObjOk X.prog X.w H s.heap dd (.xd fs) from I.hok dd _ hx)
      refine isinst_x (ox := oe) I ⟨some od, hget, hz.1, ?_, ?_⟩ T rc ask q
      · unfold PySem.W.notCls
        rw [hv]
      · rw [hz.2]
        exact ho
end Ls
end

section
set_option Elab.async false
set_option linter.all false
set_option maxRecDepth 100000
set_option maxHeartbeats 4000000
namespace Ls
open PySem PySem.Spec PyProof.Rows L2 LamX
theorem RoomG.deeper {k : Nat} {A : Around} (r : RoomG (k + 1) A) (e : Env) : RoomG k (A.deeper e) := ⟨r.rm.deeper e, r.gd⟩
section
variable {X : Cx} {pins : List (Addr × Obj)} {σ : L2.St} {H : Hp} {s : Shared}
/-- a(), a the lambda f, in the def that got it -/
theorem pe_actG {Eg : XK} {Ng : List Str} {qg : Str} {sg : Scope} {g f c' : Addr} {cdg pm ctv : Value} {params : Arguments} {body : Expr} {scope : Scope} {k i : Nat} {a : Str} {pn : List (Addr × Obj)} {xe : Value → Shared → Prop} {W : WX} {E : XK} {tb : TE} {p1 p2 : Pos}
    (I : Inv X pins σ H s) (L : LamS X.env.scope scope) (of : s.heap.get? f = some (PySem.W.kla_obj "<lambda>" (X.env.qual ++ "<lambda>") params body scope (cloFrom X.env.cells scope.names []) pm c' ctv)) (nf : H f = none) (nfr : f ∉ frs X.stack)
    (bnd : bindArgs (PySem.W.kla_fn "<lambda>" (X.env.qual ++ "<lambda>") params body scope (cloFrom X.env.cells scope.names []) pm (.ref c') ctv) ⟨[], []⟩ = pure [])
    (tk : Takes ((cxOf (L2.CX X.prog X.w) X.prog X.w X.K X.mg X.base Ng qg sg g cdg X.A X.stack s H Eg).tr pn xe) W) (hr : RoomG (k + 1) (X.A.deeper (envOfC qg sg s.heap.objs.size g cdg)))
    (hb : ∀ (A : Around) (outer : List Env) (s : Shared) (H : Hp), RoomG k (A.deeper (lamEnv X scope s.heap.objs.size f c')) → PE (lamCx X A outer s H E scope f c') body tb)
    (hN : Ng[i]? = some a) (hv : Vis sg a) (hd : (a == ("__debug__" : Str)) = false := by decide) (hcd : (a == ("__classdict__" : Str)) = false := by decide) :
    PE ((cxOf (L2.CX X.prog X.w) X.prog X.w X.K X.mg X.base Ng qg sg g cdg X.A X.stack s H Eg).tr pn xe) (.Call (.Name a p1) [] [] p2)
      (fun σ1 H1 Q => (∀ cls d H', E cls d H' → W cls d σ1 H') ∧ σ1[i]? = some (some (.ref f)) ∧ H1 c' = some (CodeO c' (X.env.qual ++ "<lambda>")) ∧ tb σ H1 Q) := by
  refine ⟨fun pins1 s1 σ1 H1 Q I1 ⟨hW, hs, hc, ht⟩ => ?_⟩
  refine wpAny_Call_Name_kw (thn ((pe_var (pos := p1) (i := i) hN hv hd hcd).run pins1 s1 σ1 H1 (fun v H2 => v = .ref f ∧ H2 = H1) I1 ⟨.ref f, hs, rfl, rfl⟩) fun u s2 ⟨v, H2, I2, r2, ev, eH⟩ => ?_)
  subst ev eH
  cases r2
  have stands : s2.heap.get? f = some (PySem.W.kla_obj "<lambda>" (X.env.qual ++ "<lambda>") params body scope (cloFrom X.env.cells scope.names []) pm c' ctv) := I2.base.keep f _ of nf nfr nofun
  refine PySem.W.callWith_F0 ⟨_, _, _, _, stands⟩ (wpAny_call (codeAny_mono (R := CR (L2.CX X.prog X.w) (envOfC qg sg s.heap.objs.size g cdg :: X.stack) X.prog X.w H2 s2 Q E) ?_ fun r s' hq => ?_))
  · obtain ⟨⟨oc, vs, t, hoc, hdc, hvc⟩, _, _⟩ := I2.hok c' _ hc
    refine PySem.W.kla_callFunE hr.rm.depth stands rfl L.co L.gen rfl ⟨c', oc, vs, t, rfl, hoc, hdc, hvc⟩ ?_
    rw [show ([] : List Value) ++ [] = [] from rfl, bnd]
    refine wpAny_pure (wpAny_newFunctionEnv (fun y hy => (L.own y hy).2) (fun y hy => nomatch hy) (fun h1 hns hsb => ⟨I2.nolimit.fresh _ hsb, ?_⟩) L.kind)
    have keeps : ∀ b o, s2.heap.get? b = some o → h1.get? b = some o := fun b o z => hsb.extBut b o (Nat.ne_of_lt (Heap.lt_size z)) (Heap.get?_push_of_some _ z)
    have J := lam_start2 (E := E) (f := f) (c' := c') (tk := s2.toks + ([] : List (Str × Value)).length) I L I2.env0 hr.rm.hd I2.base hns keeps
    show codeAny _ _ (.expr body (lamEnv X scope s2.heap.objs.size f c')) _ _
    refine PySem.W.kla_codeExpr (wpAny_mono ((hb _ _ s2 H2 (hr.deeper _)).run [] _ _ H2 Q J ht) (fun v s' ⟨x, H', J', rv, q⟩ => ?_) fun _ _ z => z)
    exact ⟨x, H', J'.os, J'.bare, J'.base, J'.hok, rv, q⟩
  · cases r with
    | error e => exact tk e s' (XE.of_call I2 (fun cls d H' z => hW cls d H' z) hq)
    | ok fl =>
      cases fl with
      | ret u => exact I2.after hq
      | next => exact False.elim hq
      | brk => exact False.elim hq
      | cont => exact False.elim hq
end
/-- what a def that calls its one argument makes of a lambda's reading -/
def Giv (P : Program) (w : World) (K : PySem.W.Frag) (mg : Str → Option Value) (base : Heap) (k : Nat) (x : Str) (st : Stmt) (a : Str) (Ng : List Str) (TT : (XK → Hp → VK → Prop) → Hp → VK → Prop) : Prop :=
  ∀ (g : Addr) (cdv : Value) (A : Around) (outer : List Env) (s : Shared) (H : Hp) (Q : VK) (f c' : Addr) (q : Str) (tl : XK → Hp → VK → Prop), RoomG k (A.deeper (envOfC x (defScope st) s.heap.objs.size g cdv)) →
    (∀ (W : WX) (pn : List (Addr × Obj)) (xe : Value → Shared → Prop) (E : XK) (p1 p2 : Pos), Takes ((cxOf (L2.CX P w) P w K mg base Ng x (defScope st) g cdv A outer s H E0).tr pn xe) W →
      PE ((cxOf (L2.CX P w) P w K mg base Ng x (defScope st) g cdv A outer s H E0).tr pn xe) (.Call (.Name a p1) [] [] p2) (fun σ1 H1 Q => (∀ cls d H', E cls d H' → W cls d σ1 H') ∧ σ1[0]? = some (some (.ref f)) ∧ H1 c' = some (CodeO c' q) ∧ tl E H1 Q)) →
    H c' = some (CodeO c' q) → TT tl H Q →
    ∃ t, PSs (cxOf (L2.CX P w) P w K mg base Ng x (defScope st) g cdv A outer s H E0) (defBody st) t ∧ t { nx := fun _ H' => Q .non H', rt := Q } (L2.start Ng [.ref f]) H
/-- x(lambda: body) -/
theorem pe_lamG {X : Cx} {T : List (Addr × Str)} {TT : (XK → Hp → VK → Prop) → Hp → VK → Prop} {x a : Str} {st : Stmt} {c P : Addr} {k : Nat} {Ng : List Str} {params : Arguments} {body : Expr} {scope : Scope} {t : XK → TE} {p lpos pos : Pos}
    (D : Df X.K X.mg x st [a]) (S : FnScope Ng [a] (defScope st)) (G : Giv X.prog X.w X.K X.mg X.base (k + 1) x st a Ng TT) (TB : TabB X.base X.mg c P) (hcode : X.env.code = .ref c) (hmT : (P, X.env.qual ++ "<lambda>") ∈ T) (hu : ∀ p ∈ T, p.1 = P → p.2 = X.env.qual ++ "<lambda>") (hr : RoomG (k + 2) X.A)
    (L : LamS X.env.scope scope) (hb : ∀ (A : Around) (outer : List Env) (s : Shared) (H : Hp) (E : XK) (f c' : Addr), RoomG k (A.deeper (lamEnv X scope s.heap.objs.size f c')) → PE (lamCx X A outer s H E scope f c') body (t E))
    (hNg : Ng[0]? = some a := by rfl) (hva : Vis (defScope st) a := by exact .inl rfl) (hdef : defaultsOf params X.env = ([], []) := by rfl)
    (hbind : ∀ (q : Str) (cl : List (Str × Addr)) (pm cv ctv : Value), bindArgs (PySem.W.kla_fn "<lambda>" q params body scope cl pm cv ctv) ⟨[], []⟩ = pure [] := by intros; rfl)
    (hg : Gl X x := by rfl) (hdb : (x == ("__debug__" : Str)) = false := by decide) (hd : (a == ("__debug__" : Str)) = false := by decide) (hcd : (a == ("__classdict__" : Str)) = false := by decide) :
    PE X (.Call (.Name x p) [.Lambda params body scope lpos] [] pos) (tLam T TT t) := by
  obtain ⟨g, fd, F, hm, bnd⟩ := D.ex
  obtain ⟨oc, od, kV, doc, pm, an, cdv, ct, osl, rfl, lk, hcg⟩ := F.ex
  refine ⟨fun pins s σ H Q I ⟨hT, h⟩ => ?_⟩
  refine wpAny_Call_Name_kw (ld_glob I hg hm ?_ hdb)
  refine PySem.W.callWith_K (h₀ := X.base) I.ok.mod.kin F.kp ?_ (by rfl) (by rfl)
  show wpAny _ _ (spliced ((false, eval (.Lambda params body scope lpos) X.env) :: backTo pos (starEach [] X.env))) _ _ s
  refine Calls.spliced_cons (lam_make2 I TB hcode hmT hu hT hdef (L.has I.ok) fun f c' pm' ctv H1 s' I1 eN T1 hf hfn hfr hco => Calls.spliced_nil ⟨I1.kIn, ?_⟩)
  refine wpAny_call (codeAny_mono (R := CR (L2.CX X.prog X.w) X.stack X.prog X.w H1 s' Q E0) ?_ fun r s2 hq => ?_)
  · refine run_ofS (N := Ng) (ps := [a]) (us := [.ref f]) (vs := [.ref f]) lk hcg S hr.rm I1.env0 (.of_eq (bnd [.ref f] rfl)) (.cons rfl .nil) rfl fun hr' => ?_
    refine G g cdv X.A X.stack s' H1 Q f c' _ (fun E H' Q' => t E σ H' Q') ⟨hr', hr.gd⟩ (fun W pn xe E p1 p2 tk => ?_) hco (h H1 eN T1)
    exact pe_actG (i := 0) I1 L hf hfn hfr (hbind _ _ _ _ _) tk ⟨hr', hr.gd⟩ (fun A outer s H hr2 => hb A outer s H E f c' hr2) hNg hva hd hcd
  · cases r with
    | error e =>
      obtain ⟨_, _, _, _, _, _, _, _, _, _, _, _, z⟩ := hq
      exact z.elim
    | ok fl =>
      cases fl with
      | ret u => exact I1.after hq
      | next => exact False.elim hq
      | brk => exact False.elim hq
      | cont => exact False.elim hq
end Ls
end

section
set_option Elab.async false
set_option linter.all false
set_option maxRecDepth 100000
set_option maxHeartbeats 4000000
namespace Ls
open PySem PySem.Spec PyProof.Rows L2 LamX
/-- a module's def, its code object, that one's table -/
def fA (mg : Str → Option Value) (x : Str) : Addr := match mg x with | some (.ref a) => a | _ => 0
def kA (K : PySem.W.Frag) (mg : Str → Option Value) (x : Str) : Addr := match K.lookup (fA mg x) with | some ⟨_, _, .func fd, _⟩ => (match fd.code with | .ref c => c | _ => 0) | _ => 0
def pA (K : PySem.W.Frag) (mg : Str → Option Value) (x : Str) : Addr := match K.lookup (kA K mg x) with | some ⟨_, _, .fields vs, _⟩ => (match (vs[11]? : Option Value) with | some (Value.ref P) => P | _ => 0) | _ => 0
structure Tb (K : PySem.W.Frag) (mg : Str → Option Value) (x : Str) : Prop where
  m : mg x = some (.ref (fA mg x))
  ex : ∃ (oc : Value) (od : Option Addr) (fd : FuncData) (sl : Array (Option Value)) (e : Value) (dd : Option Addr) (vs : Array Value) (sl2 : Array (Option Value)), K.lookup (fA mg x) = some ⟨oc, od, .func fd, sl⟩ ∧ fd.code = .ref (kA K mg x) ∧
    K.lookup (kA K mg x) = some ⟨e, dd, .fields vs, sl2⟩ ∧ vs[11]? = some (.ref (pA K mg x))
  nP : K.lookup (pA K mg x) = none
theorem tb_mk {K : PySem.W.Frag} {mg : Str → Option Value} {x : Str} {f c P : Addr} {oc e : Value} {od dd : Option Addr} {fd : FuncData} {sl sl2 : Array (Option Value)} {vs : Array Value} (m : mg x = some (.ref f)) (l : K.lookup f = some ⟨oc, od, .func fd, sl⟩) (hc : fd.code = .ref c)
    (lc : K.lookup c = some ⟨e, dd, .fields vs, sl2⟩) (hv : vs[11]? = some (.ref P)) (n : K.lookup P = none) : Tb K mg x := by
  have e1 : fA mg x = f := by unfold fA; rw [m]
  have e2 : kA K mg x = c := by unfold kA; rw [e1, l]; dsimp only; rw [hc]
  have e3 : pA K mg x = P := by unfold pA; rw [e2, lc]; dsimp only; rw [hv]
  exact ⟨by rw [e1]; exact m, ⟨oc, od, fd, sl, e, dd, vs, sl2, by rw [e1]; exact l, by rw [e2]; exact hc, by rw [e2]; exact lc, by rw [e3]; exact hv⟩, by rw [e3]; exact n⟩
/-- what the tracked heap holds at the start -/
noncomputable def scrT (K : PySem.W.Frag) (a : Addr) (vs : List Value) (ns : List Int) (ts : List Addr) : Hp := fun b => if b ∈ ts then some (.tbl #[]) else scrH K a vs ns b
section
variable {K : PySem.W.Frag} {a b : Addr} {vs : List Value} {ns : List Int} {ts : List Addr} {u : HO}
theorem scrT_in (h : b ∈ ts) : scrT K a vs ns ts b = some (.tbl #[]) := if_pos h
theorem scrT_out (h : b ∉ ts) : scrT K a vs ns ts b = scrH K a vs ns b := if_neg h
end
theorem law_gT {P : Program} {w : World} {K : PySem.W.Frag} {mg mb : Str → Option Value} {k : Nat} {fa a : Addr} {x nm : Str} {st : Stmt} {sp : Sp} {s1 : Shared} {vs : List Value} {ns : List Int} {nms : List Str}
    (KX : K.In s1.heap) (hns : s1.heap.Ns mainGlobals mg) (hb : s1.heap.Ns builtinsNs mb) (hbb : ∀ x : Str, x ≠ "__name__" → mb x = bootBuiltins x) (hlim : s1.heap.NoLimit) (hg : s1.gens = #[])
    (TB : ∀ y ∈ nms, Tb K mg y) (C : ∀ y ∈ nms, PySem.W.CodeHd s1.heap (kA K mg y) (pA K mg y) ∧ s1.heap.get? (pA K mg y) = some { cls := .none, data := .fields #[] })
    (bm : ∃ (bm : Addr) (ob : Obj), mg "__builtins__" = some (.ref bm) ∧ bm ≠ builtinsNs ∧ s1.heap.get? bm = some ob ∧ ob.cls = .type "module" ∧ ob.dict = some builtinsNs ∧ ob.data = .plain)
    (ha : s1.heap.get? a = some (scrO vs)) (hi : IntsAre vs ns) (hl : ns.length ≤ sizeLine) (hr : Room k callerA) (hfa : mg nm = some (.ref fa))
    (F : ∀ base : Heap, K.In base → base.Ns mainGlobals mg → (∀ y ∈ nms, TabB base mg (kA K mg y) (pA K mg y)) → Cal P w K mg base k nm st [x] sp)
    (hsp : ∀ H : Hp, (∀ y ∈ nms, H (pA K mg y) = some (.tbl #[])) → SqL K H a (ns.map V.int) → sp [.ref a] H (fun v _ => v = .bl true) fun _ _ _ => False) :
    codeAny (model P w) callerA (.call (.ref fa) ⟨[.ref a], []⟩) (fun r s' => r = .ok (.ret (.bool true)) ∧ OldK s1.heap s'.heap ∧ s'.os = s1.os ∧ AllBare s'.gens) s1 := by
  have rv := vals_ints hi
  have len : vs.length = ns.length := hi.length
  obtain ⟨ts, hts⟩ : ∃ ts, ts = nms.map (pA K mg) := ⟨_, rfl⟩
  have tabs : ∀ b, b ∈ ts → s1.heap.get? b = some { cls := .none, data := .fields #[] } ∧ K.lookup b = none := fun b h => by
    rw [hts] at h
    obtain ⟨y, hy, rfl⟩ := List.mem_map.mp h
    exact ⟨(C y hy).2, (TB y hy).nP⟩
  have isT : ∀ y ∈ nms, pA K mg y ∈ ts := fun y hy => by rw [hts]; exact List.mem_map.mpr ⟨y, hy, rfl⟩
  have nota : a ∉ ts := fun h => by
    have q := (tabs a h).1
    rw [ha] at q
    have z := congrArg Obj.data (Option.some.inj q)
    cases z
  let H := scrT K a vs ns ts
  have atA : H a = scrH K a vs ns a := scrT_out nota
  have kinds : ∀ {b : Addr} {u : HO}, H b = some u → (b ∈ ts ∧ u = .tbl #[]) ∨ (b = a ∧ K.lookup a = none ∧ u = .frz (scrO vs) (.lst (ns.map V.int))) := fun {b u} h => by
    by_cases z : b ∈ ts
    · exact .inl ⟨z, Option.some.inj (h.symm.trans (scrT_in z))⟩
    · exact .inr (scrH_some ((scrT_out z).symm.trans h))
  have seq : SqL K H a (ns.map V.int) := by
    cases e : K.lookup a with
    | none => exact .inl (.inr ⟨_, atA.trans (scrH_at e)⟩)
    | some o =>
      have q := KX a o e
      rw [ha] at q
      cases q
      exact .inr ⟨_, vs.toArray, _, e, rfl, rfl, rfl, by rw [List.size_toArray, len]; exact hl, by simpa using rv⟩
  have hok : HOk P w H s1.heap := fun b u e => by
    rcases kinds e with ⟨h, rfl⟩ | ⟨rfl, _, rfl⟩
    · exact (tabs b h).1
    · exact ⟨ha, by rw [List.length_map]; exact hl, vs, _, rv, ha⟩
  -- what is no list and no table stands apart
  have apart : ∀ {b : Addr} {o : Obj}, s1.heap.get? b = some o → o ≠ scrO vs → o ≠ { cls := .none, data := .fields #[] } → (hidT s1.heap H).get? b = some o := fun {b o} e n1 n2 => by
    refine hidT_get e ?_
    cases q : H b with
    | none => rfl
    | some u =>
      rcases kinds q with ⟨h, _⟩ | ⟨rfl, _, _⟩
      · exact absurd (Option.some.inj (e.symm.trans (tabs b h).1)) n2
      · exact absurd (Option.some.inj (e.symm.trans ha)) n1
  have dicts : ∀ {o : Obj} {es : Array DictEntry} {n : Nat}, o.data = .dict es n → o ≠ scrO vs ∧ o ≠ { cls := .none, data := .fields #[] } := fun {o es n} d => by
    constructor
    · intro z
      rw [z] at d
      cases d
    · intro z
      rw [z] at d
      cases d
  have own : ∀ {b : Addr} {m : Str → Option Value}, s1.heap.Ns b m → (hidT s1.heap H).Ns b m := fun ⟨o, es, n, e, d, r⟩ => ⟨o, es, n, apart e (dicts d).1 (dicts d).2, d, r⟩
  have kin : K.In (hidT s1.heap H) := fun b o e => hidT_get (KX b o e) (by
    cases q : H b with
    | none => rfl
    | some u =>
      rcases kinds q with ⟨h, _⟩ | ⟨rfl, n, _⟩
      · rw [(tabs b h).2] at e
        cases e
      · rw [n] at e
        cases e)
  have M : Mod K mg (hidT s1.heap H) := ⟨kin, own hns, ⟨mb, own hb, hbb⟩, let ⟨mc, h1, h2⟩ := hlim; ⟨mc, own h1, h2⟩⟩
  have tb : ∀ y ∈ nms, TabB (hidT s1.heap H) mg (kA K mg y) (pA K mg y) := fun y hy => by
    have hP := (C y hy).2
    refine ⟨?_, ?_, fun z => ?_⟩
    · obtain ⟨o, us, file, tf, flags, tg, inF, text, tt, e1, r1, r2, r3, r⟩ := (C y hy).1
      refine ⟨o, us, file, tf, flags, tg, inF, text, tt, apart e1 (fun z => ?_) (fun z => ?_), r1, r2, r3, r⟩
      · rw [z] at r2
        cases r2
      · rw [z] at r2
        cases r2
        simp at r3
    · obtain ⟨bm, ob, b1, b2, b3, b4, b5, b6⟩ := bm
      refine ⟨bm, ob, b1, b2, fun q => ?_, fun q => ?_, apart b3 (fun z => ?_) (fun z => ?_), b4, b5, b6⟩
      · obtain ⟨o, es, ep, e, hd, _⟩ := hns
        rw [q, e] at b3
        cases b3
        rw [hd] at b6
        cases b6
      · rw [q, hP] at b3
        cases b3
        cases b6
      · rw [z] at b6
        cases b6
      · rw [z] at b6
        cases b6
    · obtain ⟨o, es, ep, e, hd, _⟩ := hns
      rw [z, hP] at e
      cases e
      cases hd
  have e0 : Env0 P w K mg (hidT s1.heap H) callerA [] s1 H := ⟨rfl, M, fun b o e => of_hidT e, Nat.le_of_eq (hidT_size _ _), trivial, fun b z => (nomatch z), hok, .of_eq hg⟩
  obtain ⟨f, fd, Cc, g, _, bnd⟩ := (F _ kin (own hns) tb).ex
  rw [hfa] at g
  cases g
  refine codeAny_mono (Cc.run callerA [] s1 H ⟨[.ref a], []⟩ [.ref a] [.ref a] _ _ ⟨hr, rfl⟩ e0 (.of_eq (bnd _ rfl)) (.cons rfl .nil) (hsp H (fun y hy => scrT_in (isT y hy)) seq)) fun r s' q => ?_
  cases r with
  | error e =>
    obtain ⟨_, _, _, _, _, _, _, _, _, _, _, _, z⟩ := q
    exact z.elim
  | ok fl =>
    cases fl with
    | next => exact False.elim q
    | brk => exact False.elim q
    | cont => exact False.elim q
    | ret u =>
      obtain ⟨v, H', os, bare, un, hok', rv', rfl⟩ := q
      obtain rfl : u = Value.bool true := rv'
      have keep : ∀ b o, b ∉ ts → s1.heap.get? b = some o → s'.heap.get? b = some o := fun b o nb e => by
        cases z : H b with
        | none => exact un.keep b o e z nofun nofun
        | some u =>
          rcases kinds z with ⟨h, _⟩ | ⟨rfl, _, rfl⟩
          · exact absurd h nb
          · rw [ha] at e
            cases e
            exact (hok' b _ (un.frzs b _ _ z)).1
      have grown : ∀ b, b ∈ ts → ∃ more : Array Value, s'.heap.get? b = some { cls := .none, data := .fields more } := fun b h => by
        obtain ⟨more, z⟩ := un.tbls b #[] (scrT_in h)
        exact ⟨_, hok' b _ z⟩
      refine ⟨rfl, ⟨fun b o e => ?_, fun b o e => ?_⟩, os, bare⟩
      · by_cases h : b ∈ ts
        · obtain ⟨more, hm⟩ := grown b h
          rw [hts] at h
          obtain ⟨y, hy, rfl⟩ := List.mem_map.mp h
          obtain ⟨hC, hP⟩ := C y hy
          rw [hP] at e
          cases e
          exact .inr (.inl ⟨(hC.tab hP).isCodeTable, rfl, #[], more, rfl, by rw [Array.empty_append]; exact hm⟩)
        · exact .inl (keep b o h e)
      · by_cases h : b ∈ ts
        · obtain ⟨more, hm⟩ := grown b h
          exact ⟨_, hm⟩
        · exact ⟨o, keep b o h e⟩
/-- the goal that k_head leaves, from the law's promise, where the defs nms make lambdas -/
theorem walk_gT {l : PySem.W.OpenLaw} {n k : Nat} {q : Program} {loose : List Str} {XP : (Str → Option Value) → Heap → Prop} {YP : World → Heap → Prop} {d : DefRec} {K : Params → PySem.W.Frag} {sp : PySem.W.Frag → (Str → Option Value) → Sp} {x : Str} {st : Stmt} {nms : List Str}
    (hn : l.most = some n) (hn2 : n ≤ sizeLine) (hdf : d.params.defaults = []) (hr : Room k callerA) (hq : nms.all (fun y => (recsOf q).any fun e => e.name == y) = true)
    (hY : ∀ (w : World) (h : Heap), YP w h → (K w.params).In h)
    (T : ∀ (w : World) (mg : Str → Option Value) (h : Heap), (K w.params).In h → h.Ns mainGlobals mg → ∀ y ∈ nms, Tb (K w.params) mg y)
    (F : ∀ (w : World) (mg : Str → Option Value) (fa : Addr) (h : Heap), (K w.params).In h → h.Ns mainGlobals mg → mg d.name = some (.ref fa) → (∀ y ∈ nms, Tb (K w.params) mg y) →
      ∀ base : Heap, (K w.params).In base → base.Ns mainGlobals mg → (∀ y ∈ nms, TabB base mg (kA (K w.params) mg y) (pA (K w.params) mg y)) → Cal l.prog w (K w.params) mg base k d.name st [x] (sp (K w.params) mg))
    (hsp : ∀ (K : PySem.W.Frag) (mg : Str → Option Value) (H : Hp) (a : Addr) (ns : List Int), ns.length ≤ n → (∀ y ∈ nms, H (pA K mg y) = some (.tbl #[])) → SqL K H a (ns.map V.int) → sp K mg [.ref a] H (fun v _ => v = .bl true) fun _ _ _ => False) :
    PySem.W.WalkO q loose XP YP l.row.toRowW d [] (fun f vs => PySem.call f vs) := by
  refine Att.attach_call hn hdf fun w s0 s1 mg mb fa o pm cd doc a vs ns G Y ho hd hcd hmg hobj hints hlen hg => ?_
  have KX := hY w _ Y
  have TB := T w mg _ KX G.T.g
  refine law_gT KX G.T.g G.T.b G.T.builtins G.T.nolimit hg TB (fun y hy => ?_) G.T.bmain hobj hints (Nat.le_trans hlen hn2) hr hmg (fun base h1 h2 h3 => F w mg fa _ KX G.T.g hmg TB base h1 h2 h3) fun H hT hS => hsp _ _ H a ns hlen hT hS
  obtain ⟨dL, hm, hn1⟩ := List.any_eq_true.mp (List.all_eq_true.mp hq y hy)
  have hn2 : dL.name = y := beq_iff_eq.mp hn1
  obtain ⟨a', o', fd', c', P', h1, h2, h3, h4, h5, h6⟩ := G.T.tab dL hm
  obtain ⟨oc, od, fd, sl, e, dd, us, sl2, k1, k2, k3, k4⟩ := (TB y hy).ex
  rw [hn2, (TB y hy).m] at h1
  cases h1
  have g1 := KX _ _ k1
  rw [g1] at h2
  cases h2
  cases h3
  rw [k2] at h4
  cases h4
  have hd := PySem.W.CodeHd.of h5 h6
  obtain ⟨⟨oc2, vc, e1, _, e3, e4⟩, hP⟩ := h6
  have g2 := KX _ _ k3
  rw [g2] at e1
  cases e1
  cases e3
  rw [k4] at e4
  cases e4
  exact ⟨hd, hP⟩
end Ls
end

section
set_option Elab.async false
set_option linter.all false
set_option maxRecDepth 100000
set_option maxHeartbeats 4000000
namespace Ls
open PySem PySem.Spec PyProof.Rows L2 LamX
abbrev bm_ValueError : List Value := [.type "ValueError", .type "Exception", .type "BaseException", .type "object"]
abbrev bm_LookupError : List Value := [.type "LookupError", .type "Exception", .type "BaseException", .type "object"]
abbrev bm_RuntimeError : List Value := [.type "RuntimeError", .type "Exception", .type "BaseException", .type "object"]
abbrev bm_ArithmeticError : List Value := [.type "ArithmeticError", .type "Exception", .type "BaseException", .type "object"]
/-- an exception class with its own __init__ -/
structure Xd (K : PySem.W.Frag) (mg : Str → Option Value) (x : Str) (bmB : List Value) (newId : String) (st : Stmt) (ps : List Str) : Prop where
  m : mg x = some (.ref (fA mg x))
  T : Xc K bmB newId (fA mg x)
  ex : ∃ (fI : Addr) (fd : FuncData), PySem.W.findIn K (.ref (fA mg x)) "__init__" = some (some (.ref fI)) ∧ PySem.W.typeIn K (.ref fI) = some (.type "function") ∧ Fun K "__init__" (x ++ ".__init__") st fI fd ∧
    ∀ (us : List Value), us.length = ps.length → bindArgs fd ⟨us, []⟩ = pure (ps.zip us)
theorem fA_eq {mg : Str → Option Value} {x : Str} {C : Addr} (m : mg x = some (.ref C)) : fA mg x = C := by unfold fA; rw [m]
theorem xd_mk {K : PySem.W.Frag} {mg : Str → Option Value} {x : Str} {bmB : List Value} {newId : String} {st : Stmt} {ps : List Str} {C fI : Addr} {oc : Value} {od an : Option Addr} {osl : Array (Option Value)} {kV doc pm cdv ct : Value}
    (m : mg x = some (.ref C)) (h1 : PySem.W.excInitIn K C bmB newId = true) (h2 : PySem.W.excOver K C bmB = true) (h3 : PySem.W.hasDictIn K C = true) (h4 : PySem.W.findIn K (.ref C) "__setattr__" = some (some (.builtin "object.__setattr__")))
    (h5 : PySem.W.subIn K (.ref C) (.type "BaseException") = some true) (h6 : PySem.W.typeIn K (.ref C) = some (.type "type")) (h7 : PySem.W.keepIn K (.ref C) = true) (hi : PySem.W.findIn K (.ref C) "__init__" = some (some (.ref fI))) (ht : PySem.W.typeIn K (.ref fI) = some (.type "function"))
    (l : K.lookup fI = some ⟨oc, od, .func (PySem.W.fnOf "__init__" (x ++ ".__init__") (defArgs st) (defBody st) (defScope st) .none kV doc pm an cdv ct), osl⟩) (c : PySem.W.codeIn K cdv (x ++ ".__init__") = true) (k : PySem.W.keepIn K (.ref fI) = true)
    (h : ∀ (kV doc pm : Value) (an : Option Addr) (cdv ct : Value) (us : List Value), us.length = ps.length → bindArgs (PySem.W.fnOf "__init__" (x ++ ".__init__") (defArgs st) (defBody st) (defScope st) .none kV doc pm an cdv ct) ⟨us, []⟩ = pure (ps.zip us)) : Xd K mg x bmB newId st ps := by
  have e := fA_eq m
  refine ⟨by rw [e]; exact m, by rw [e]; exact ⟨h1, h2, h3, h4, h5, h6, h7⟩, fI, _, by rw [e]; exact hi, ht, fun_mk l c k, h kV doc pm an cdv ct⟩
section
variable {P : Program} {w : World} {K : PySem.W.Frag} {mg : Str → Option Value} {base : Heap} {x : Str} {bmB : List Value} {B newId initId : String} {st : Stmt} {ps fl N : List Str} {k : Nat}
theorem Xd.ok (D : Xd K mg x bmB newId st ps) (b : Xb bmB B newId initId) (S : FnScope N ps (defScope st)) (hl : fl.length + 1 = ps.length)
    (body : ∀ (f : Addr) (cdv : Value) (A : Around) (outer : List Env) (s : Shared) (H : Hp) (a : Addr) (ws : List V) (Q : VK) (E : XK), ws.length = fl.length → H a = some (exo a (fA mg x) none) →
      (∀ dx H', H dx = none → dx ≠ a → (∀ b, b ≠ a → b ≠ dx → H' b = H b) → H' a = some (exo a (fA mg x) (some dx)) → H' dx = some (exd dx (fl.zip ws).reverse) → Q .non H') →
      ∃ t, PSs (cxOf (L2.CX P w) P w K mg base N (x ++ ".__init__") (defScope st) f cdv A outer s H E) (defBody st) t ∧ t { nx := fun _ H' => Q .non H', rt := Q } (L2.start N (.ref a :: ws)) H) :
    Xk P w K mg base (k + 1) x (fA mg x) fl := by
  obtain ⟨fI, fd, hi, ht, F, bnd⟩ := D.ex
  obtain ⟨oc, od, kV, doc, pm, an, cdv, ct, osl, rfl, lk, hcd⟩ := F.ex
  have len : ∀ vs H Q E, sp_xini (fA mg x) fl vs H Q E → vs.length = ps.length := fun vs H Q E h => by
    obtain ⟨a, ws, rfl, hw, _⟩ := h
    rw [List.length_cons, hw]
    exact hl
  refine ⟨bmB, B, newId, initId, fI, PySem.W.fnOf "__init__" (x ++ ".__init__") (defArgs st) (defBody st) (defScope st) .none kV doc pm an cdv ct, ps, b, D.T, hi, ht, ⟨len, fun A outer s H args us vs Q E hr e0 hb r hsp => ?_⟩, fun s us _ h => ?_, D.m⟩
  · refine LamX.run_ofS lk hcd S hr e0 hb r (len _ _ _ _ hsp) fun _ => ?_
    obtain ⟨a, ws, rfl, hw, ha, q⟩ := hsp
    exact body fI cdv A outer s H a ws Q E hw ha q
  · rw [List.append_nil] at h ⊢
    exact .of_eq (bnd us h)
end
/-- one field -/
theorem xd_one {f : Str} {a C : Addr} {y : V} {H : Hp} {σ : L2.St} {D : Ends} (q : ∀ dx H', H dx = none → dx ≠ a → (∀ b, b ≠ a → b ≠ dx → H' b = H b) → H' a = some (exo a C (some dx)) → H' dx = some (exd dx [(f, y)]) → D.nx σ H') :
    ∀ dx, H dx = none → dx ≠ a → D.nx σ (upd (upd H dx (exd dx [(f, y)])) a (exo a C (some dx))) := fun dx n ne =>
  q dx _ n ne (fun b n1 n2 => by rw [upd_ne n1, upd_ne n2]) upd_same (by rw [upd_ne ne, upd_same])
section
variable {σ : L2.St} {H : Hp} {Q : VK} {K : PySem.W.Frag} {bmB : List Value} {newId : String} {ta : TA} {to te : TE} {D : Ends} {f : Str}
theorem r_xi (h : ta σ H fun vs H1 => ∃ (a C : Addr) (ws : List V), vs = .ref a :: ws ∧ ws.length ≤ 1000 ∧ Xc K bmB newId C ∧ H1 a = some (exo a C none) ∧ Q .non H1) : tXi K bmB newId ta σ H Q := h
theorem r_xo (h : te σ H fun y H1 => to σ H1 fun x H2 => ∃ a C : Addr, x = .ref a ∧ Xc K bmB newId C ∧ PySem.W.takerIn K C f = some none ∧
  ((H2 a = some (exo a C none) ∧ ∀ dx, H2 dx = none → dx ≠ a → D.nx σ (upd (upd H2 dx (exd dx [(f, y)])) a (exo a C (some dx)))) ∨
    ∃ (dx : Addr) (fs : List (Str × V)), H2 a = some (exo a C (some dx)) ∧ H2 dx = some (exd dx fs) ∧ fs.length ≤ 900 ∧ D.nx σ (upd H2 dx (exd dx ((f, y) :: fs))))) : tXo K bmB newId f to te D σ H := h
end
theorem r_never {D : Ends} {σ : L2.St} {H : Hp} (h : False) : tNever D σ H := h
/-- all but one new object stands -/
theorem ex_same {H H' : Hp} {d : Addr} (n : H d = none) (h : ∀ b, b ≠ d → H' b = H b) : Ex H H' := fun a o e => by rw [h a (ne_of_none e n)]; exact e
/-- check_value, whatever it is given -/
def sp_checkX (K : PySem.W.Frag) (C : Addr) (n : Nat) : Sp := fun vs H Q E => ∃ v d, vs = [v] ∧ Dt K H v d ∧ smD d = true ∧ tdp d < n ∧ ((isF d || isD d) = true → ∀ H', Ex H H' → Q .non H') ∧
  ((isF d || isD d) = false → ∀ dd H', Ex H H' → H' dd = some (.xd [("value", v)]) → E (.ref C) (some dd) H')
/-- .., what gives r of a value, and raises otherwise -/
def sp_onV (K : PySem.W.Frag) (C : Addr) (n : Nat) (r : PyData → V) : Sp := fun vs H Q E => ∃ v d, vs = [v] ∧ Dt K H v d ∧ smD d = true ∧ tdp d < n ∧ ((isF d || isD d) = true → ∀ H', Ex H H' → Q (r d) H') ∧
  ((isF d || isD d) = false → ∀ dd H', Ex H H' → H' dd = some (.xd [("value", v)]) → E (.ref C) (some dd) H')
section
variable {σ : L2.St} {H : Hp} {C : Addr} {fl : List Str} {ta : TA} {Q : XK}
theorem r_mk (h : ta σ H fun vs H1 => vs.length = fl.length ∧ vs.length ≤ 1000 ∧ ∀ d H2, H1 d = none → (∀ b, b ≠ d → H2 b = H1 b) → H2 d = some (.xd (fl.zip vs).reverse) → Q (.ref C) (some d) H2) : tMkX C fl ta σ H Q := h
end
def tAct (W : WX) (f c' : Addr) (q : Str) (tl : XK → Hp → VK → Prop) : TS := fun D σ H => ∃ E : XK, (∀ cls d H', E cls d H' → W cls d σ H') ∧ σ[0]? = some (some (.ref f)) ∧ H c' = some (CodeO c' q) ∧ tl E H fun _ H1 => D.nx σ H1
theorem pss_act {X : Cx} {W : WX} {f c' : Addr} {q a : Str} {tl : XK → Hp → VK → Prop} {p1 p2 p3 : Pos}
    (h : ∀ (E : XK) (p1 p2 : Pos), PE X (.Call (.Name a p1) [] [] p2) (fun σ1 H1 Q => (∀ cls d H', E cls d H' → W cls d σ1 H') ∧ σ1[0]? = some (some (.ref f)) ∧ H1 c' = some (CodeO c' q) ∧ tl E H1 Q)) :
    PSs X [.Expr (.Call (.Name a p1) [] [] p2) p3] (tAct W f c' q tl) := by
  refine ⟨fun pins s σ H D I h' => ?_⟩
  obtain ⟨E, hW, h1, h2, h3⟩ := h'
  exact (pss_one (ps_expr (pos := p3) (h E p1 p2))).run pins s σ H D I ⟨hW, h1, h2, h3⟩
/-- data that repr shows, dicts too -/
structure Rq (d : PyData) : Prop where
  sh : PyData.showable d = true
  len : (PyData.shown d).length ≤ 100000
  dep : PyData.depth d ≤ 10
theorem Rp.rq {d : PyData} (r : Rp d) : Rq d := ⟨r.sh, Nat.le_trans r.len (by decide), r.dep⟩
section
variable {H : Hp} {Q : VK} {K : PySem.W.Frag} {x y : V} {d e : PyData}
theorem y_repD (h : Dt K H x d) (r : Rq d) (q : Q (.str d.shown) H) : rRepr K [x] H Q := y_repr h r.sh (Nat.le_trans r.len (by decide)) (by have := r.dep; omega) q
theorem y_rep2D {p : Addr} (hp : H p = some (.lst [x, y])) (np : p ≠ 1) (h : Dt K H x d) (h2 : Dt K H y e) (r : Rq d) (r2 : Rq e) (q : Q (.str (PyData.list [d, e]).shown) H) : rRepr K [.ref p] H Q := by
  refine y_repr (.lst (.of hp) np (.cons h (.cons h2 .nil))) ?_ ?_ ?_ q
  · simp [PyData.showable, PyData.showableAll, r.sh, r2.sh]
  · rw [PyData.shown_list, len_app, len_app, lit_lo, lit_lc]
    have hj := join_len (Str.ofString ", ") (PyData.shownAll [d, e])
    rw [lit_sep, PyData.shownAll_length, PyData.shownAll_cons, PyData.shownAll_cons, PyData.shownAll_nil] at hj
    simp only [List.map_cons, List.map_nil, List.sum_cons, List.sum_nil, List.length_cons, List.length_nil] at hj
    have := r.len
    have := r2.len
    have h2 : sizeLine = 16777216 := rfl
    rw [PyData.shownAll_cons, PyData.shownAll_cons, PyData.shownAll_nil]
    omega
  · have := r.dep
    have := r2.dep
    simp only [PyData.depth, PyData.depthAll]
    omega
end
/-- what a def makes of a call that gives anything, or raises C with its value: the shown error, or 'None' -/
def TTref (K : PySem.W.Frag) (C : Addr) (tl : XK → Hp → VK → Prop) (H : Hp) (Q : VK) : Prop := ∀ (E : XK) (Qn : VK),
  (∀ (H' : Hp) (dd : Addr) (v : V) (dat : PyData), H' dd = some (.xd [("value", v)]) → Dt K H' v dat → Rq dat → (∀ H2, Ex H' H2 → Q (.str (PyData.list [dat, .bool true]).shown) H2) → E (.ref C) (some dd) H') →
  (∀ v H', (∀ H2, Ex H' H2 → Q (.str PyData.none.shown) H2) → Qn v H') → tl E H Qn
section
variable {σ : L2.St} {H : Hp} {Q : VK} {K : PySem.W.Frag} {a : Addr} {cls : Value} {d : Option Addr} {C : Addr} {f : Str} {te : TE}
theorem r_xf (h : te σ H fun x H1 => x = .ref a ∧ cls = .ref C ∧ ∃ (dd : Addr) (fs : List (Str × V)) (v : V), d = some dd ∧ H1 dd = some (.xd fs) ∧ fs.lookup f = some v ∧ Q v H1) : tXf a cls d C f te σ H Q := h
end
end Ls
end

section
set_option Elab.async false
set_option linter.all false
set_option maxRecDepth 100000
set_option maxHeartbeats 4000000
namespace Ls
open PySem PySem.Spec PyProof.Rows L2 SX LamX
/-- without p, without tables -/
def mo (H : Hp) (p : Addr) : Hp := fun a => if a = p then none else match H a with | some (.tbl _) => none | o => o
section
variable {H H1 H2 : Hp} {p a : Addr} {o : HO}
theorem mo_some (h : mo H p a = some o) : a ≠ p ∧ H a = some o ∧ ∀ ps, o ≠ .tbl ps := by
  unfold mo at h
  split at h
  · cases h
  · rename_i n
    split at h
    · cases h
    · rename_i z
      refine ⟨n, h, fun ps e => ?_⟩
      subst e
      exact z ps h
theorem mo_of (n : a ≠ p) (h : H a = some o) (z : ∀ ps, o ≠ .tbl ps) : mo H p a = some o := by
  unfold mo
  rw [if_neg n, h]
  split
  · rename_i ps e
    exact absurd (Option.some.inj e) (z ps)
  · rfl
theorem mo_ex : Ex (mo H p) H := fun a o h => (mo_some h).2.1
/-- all stands but p and tables -/
def Eo (p : Addr) (H H' : Hp) : Prop := Ex (mo H p) (mo H' p)
theorem Eo.refl (p : Addr) (H : Hp) : Eo p H H := Ex.refl _
theorem Eo.trans (a : Eo p H H1) (b : Eo p H1 H2) : Eo p H H2 := Ex.trans a b
theorem Em.eo (e : Em p H H1) : Eo p H H1 := fun a o h => let ⟨n, h1, z⟩ := mo_some h; mo_of n (e a o n h1) z
theorem Ex.eo (p : Addr) (e : Ex H H1) : Eo p H H1 := (e.em p).eo
theorem extN_eo (p : Addr) (e : ExtN H H1) : Eo p H H1 := fun a o h => let ⟨n, h1, z⟩ := mo_some h; mo_of n (e a o h1 z) z
theorem Pt.extN (h : Pt H p) (e : ExtN H H1) : Pt H1 p := let ⟨a, b, h1, h2⟩ := h; ⟨a, b, e _ _ h1 (fun _ z => nomatch z), h2⟩
theorem mo_none (h : H a = none) : mo H p a = none := by
  unfold mo
  split
  · rfl
  · rw [h]
theorem tabs_em {T : List (Addr × Str)} {xs : List V} (t : Tabs T H) (hp : H p = some (.lst xs)) (e : Em p H H1) : Tabs T H1 := fun q hq => by
  obtain ⟨ps, h1, h2, h3⟩ := t q hq
  have n1 : q.1 ≠ p := fun z => by rw [z, hp] at h1; cases h1
  refine ⟨ps, e _ _ n1 h1, h2, fun pos cv hc => ?_⟩
  obtain ⟨c, e1, e2⟩ := h3 pos cv hc
  exact ⟨c, e1, e _ _ (fun z => by rw [z, hp] at e2; cases e2) e2⟩
theorem Pt.tabs {T : List (Addr × Str)} (h : Pt H p) (t : Tabs T H) (e : Em p H H1) : Tabs T H1 := let ⟨_, _, h1, _⟩ := h; tabs_em t h1 e
theorem mo_sq {K : PySem.W.Frag} {xs : List V} (n : a ≠ p) (h : SqL K H a xs) : SqL K (mo H p) a xs := by
  rcases h with (h | ⟨o, h⟩) | h
  · exact .inl (.inl (mo_of n h fun _ z => nomatch z))
  · exact .inl (.inr ⟨o, mo_of n h fun _ z => nomatch z⟩)
  · exact .inr h
theorem Eo.lst {xs : List V} (e : Eo p H H1) (n : a ≠ p) (h : H a = some (.lst xs)) : H1 a = some (.lst xs) := (mo_some (e _ _ (mo_of n h fun _ z => nomatch z))).2.1
end
mutual
def plD : PyData → Bool
  | .int _ => true
  | .tuple ds => decide (ds.length < 41) && plL ds
  | _ => false
def plL : List PyData → Bool
  | [] => true
  | d :: ds => plD d && plL ds
end
theorem plL_all : ∀ ds : List PyData, plL ds = (ds.map plD).all id
  | [] => rfl
  | d :: ds => by rw [plL, plL_all ds]; rfl
mutual
theorem pl_fl {K : PySem.W.Frag} {H : Hp} : ∀ (d : PyData) {v : V}, plD d = true → Dt K H v d → Fl K H v d
  | .int i, _, _, hd => by cases hd; exact .int i
  | .tuple ds, _, h, hd => by
    cases hd with
    | tup s a =>
      rw [plD, Bool.and_eq_true] at h
      exact .tup s (plL_fl ds h.2 a)
  | .none, _, h, _ => by simp [plD] at h
  | .bool _, _, h, _ => by simp [plD] at h
  | .str _, _, h, _ => by simp [plD] at h
  | .list _, _, h, _ => by simp [plD] at h
  | .dict _, _, h, _ => by simp [plD] at h
theorem plL_fl {K : PySem.W.Frag} {H : Hp} : ∀ (ds : List PyData) {vs : List V}, plL ds = true → DtAll K H vs ds → FlAll K H vs ds
  | [], _, _, hd => by cases hd; exact .nil
  | d :: ds, _, h, hd => by
    cases hd with
    | cons a b =>
      rw [plL, Bool.and_eq_true] at h
      exact .cons (pl_fl d h.1 a) (plL_fl ds h.2 b)
end
end Ls
end

section
set_option Elab.async false
set_option linter.all false
set_option maxRecDepth 100000
set_option maxHeartbeats 4000000
namespace Ls
open PySem PySem.Spec PyProof.Rows L2 SX LamX
mutual
/-- integers within tuples are small -/
def inD : PyData → Bool
  | .int i => decide (i.natAbs < 10 ^ 62)
  | .tuple ds => inL ds
  | _ => true
def inL : List PyData → Bool
  | [] => true
  | d :: ds => inD d && inL ds
end
theorem inL_mem : ∀ {ds : List PyData}, inL ds = true → ∀ {d : PyData}, d ∈ ds → inD d = true
  | d' :: ds, h, d, hd => by
    rw [inL, Bool.and_eq_true] at h
    rcases List.mem_cons.mp hd with rfl | hd
    · exact h.1
    · exact inL_mem h.2 hd
theorem inL_of : ∀ {ds : List PyData}, (∀ d, d ∈ ds → inD d = true) → inL ds = true
  | [], _ => rfl
  | d :: ds, h => by rw [inL, h d List.mem_cons_self, inL_of fun e he => h e (List.mem_cons_of_mem _ he)]; rfl
mutual
theorem in_sm : ∀ d : PyData, inD d = true → smD d = true
  | .int i, h => by
    rw [inD, decide_eq_true_eq] at h
    rw [smD, decide_eq_true_eq]
    exact gd_log h
  | .tuple ds, h => by rw [inD] at h; rw [smD]; exact inL_sm ds h
  | .none, _ => rfl
  | .bool _, _ => rfl
  | .str _, _ => rfl
  | .list _, _ => rfl
  | .dict _, _ => rfl
theorem inL_sm : ∀ d : List PyData, inL d = true → smL d = true
  | [], _ => rfl
  | d :: ds, h => by
    rw [inL, Bool.and_eq_true] at h
    rw [smL, in_sm d h.1, inL_sm ds h.2]
    rfl
end
mutual
theorem in_gd : ∀ d : PyData, inD d = true → plD d = true → gdD d = true
  | .int i, h, _ => by rw [inD] at h; rw [gdD]; exact h
  | .tuple ds, h, p => by
    rw [inD] at h
    rw [plD, Bool.and_eq_true, decide_eq_true_eq] at p
    rw [gdD, inL_gd ds h p.2, Bool.and_true, decide_eq_true_eq]
    omega
  | .none, _, h => by simp [plD] at h
  | .bool _, _, h => by simp [plD] at h
  | .str _, _, h => by simp [plD] at h
  | .list _, _, h => by simp [plD] at h
  | .dict _, _, h => by simp [plD] at h
theorem inL_gd : ∀ d : List PyData, inL d = true → plL d = true → gdL d = true
  | [], _, _ => rfl
  | d :: ds, h, p => by
    rw [inL, Bool.and_eq_true] at h
    rw [plL, Bool.and_eq_true] at p
    rw [gdL, in_gd d h.1 p.1, inL_gd ds h.2 p.2]
    rfl
end
mutual
theorem ns_pl : ∀ d : PyData, nsD d = true → plD d = true
  | .int _, _ => rfl
  | .tuple ds, h => by
    rw [nsD, Bool.and_eq_true, decide_eq_true_eq] at h
    rw [plD, nsL_pl ds h.2, Bool.and_true, decide_eq_true_eq]
    omega
  | .none, h => by simp [nsD] at h
  | .bool _, h => by simp [nsD] at h
  | .str _, h => by simp [nsD] at h
  | .list _, h => by simp [nsD] at h
  | .dict _, h => by simp [nsD] at h
theorem nsL_pl : ∀ d : List PyData, nsL d = true → plL d = true
  | [], _ => rfl
  | d :: ds, h => by
    rw [nsL, Bool.and_eq_true] at h
    rw [plL, ns_pl d h.1, nsL_pl ds h.2]
    rfl
end
mutual
theorem is_ft : ∀ d : PyData, nsD d = true → tdp d ≤ 4 → szD d ≤ 1000 → ftD d = true
  | .int i, _, _, h => by rw [szD] at h; rw [ftD, decide_eq_true_eq]; exact h
  | .tuple ds, h, ht, hz => by
    rw [nsD, Bool.and_eq_true] at h
    rw [tdp] at ht
    rw [szD] at hz
    rw [ftD, h.1, isL_ft ds h.2 (by omega) (by omega), decide_eq_true (by omega : tdpL ds ≤ 3), decide_eq_true hz]
    rfl
  | .none, h, _, _ => by simp [nsD] at h
  | .bool _, h, _, _ => by simp [nsD] at h
  | .str _, h, _, _ => by simp [nsD] at h
  | .list _, h, _, _ => by simp [nsD] at h
  | .dict _, h, _, _ => by simp [nsD] at h
theorem isL_ft : ∀ ds : List PyData, nsL ds = true → tdpL ds ≤ 4 → szL ds ≤ 1000 → ftL ds = true
  | [], _, _, _ => rfl
  | d :: ds, h, ht, hz => by
    rw [nsL, Bool.and_eq_true] at h
    rw [tdpL] at ht
    rw [szL] at hz
    have h1 := szD_pos d h.1
    have h2 := szL_nn ds h.2
    rw [ftL, is_ft d h.1 (Nat.le_trans (Nat.le_max_left _ _) ht) (by omega), isL_ft ds h.2 (Nat.le_trans (Nat.le_max_right _ _) ht) (by omega)]
    rfl
end
theorem is_due (d : PyData) : isD d = (plD d && ftD d) := by
  cases h : isD d with
  | true =>
    unfold isD at h
    simp only [Bool.and_eq_true, decide_eq_true_eq] at h
    rw [ns_pl d h.1, is_ft d h.1 (by omega) h.2.2]
    rfl
  | false =>
    cases p : ftD d with
    | true => rw [ft_is p] at h; cases h
    | false => rw [Bool.and_false]
structure Bd (b k : Nat) (d : PyData) : Prop where
  sh : PyData.showable d = true
  len : (PyData.shown d).length ≤ b
  dep : PyData.depth d ≤ k
  inn : inD d = true
theorem Bd.mono {b k b' k' : Nat} {d : PyData} (h : Bd b k d) (h1 : b ≤ b') (h2 : k ≤ k') : Bd b' k' d := ⟨h.sh, Nat.le_trans h.len h1, Nat.le_trans h.dep h2, h.inn⟩
theorem Bd.rq {b k : Nat} {d : PyData} (h : Bd b k d) (h1 : b ≤ 100000) (h2 : k ≤ 10) : Rq d := ⟨h.sh, Nat.le_trans h.len h1, Nat.le_trans h.dep h2⟩
theorem Bd.int {i : Int} (h : i.natAbs < 10 ^ 62) : Bd 64 0 (.int i) := by
  have hl := gd_log h
  refine ⟨by rw [PyData.showable, decide_eq_true_eq]; exact hl, ?_, by rw [PyData.depth]; exact Nat.le_refl _, by rw [inD, decide_eq_true_eq]; exact h⟩
  rw [PyData.shown_int, show ((toString i : String) : Str) = S (intL i) from str_int i, S_len]
  have := TL.numL_len (n := i.natAbs) (k := 62) (by decide) h
  unfold intL
  split
  · rw [List.length_cons]; omega
  · omega
theorem Bd.i21 {i : Int} (h : i.natAbs ≤ 10 ^ 21) : Bd 23 0 (.int i) := by
  have hl : i.natAbs < 10 ^ 22 := Nat.lt_of_le_of_lt h (by decide)
  have hg : i.natAbs < 10 ^ 62 := Nat.lt_trans hl (by decide +kernel)
  refine ⟨by rw [PyData.showable, decide_eq_true_eq]; exact gd_log hg, ?_, by rw [PyData.depth]; exact Nat.le_refl _, by rw [inD, decide_eq_true_eq]; exact hg⟩
  rw [PyData.shown_int, show ((toString i : String) : Str) = S (intL i) from str_int i, S_len]
  have := TL.numL_len (n := i.natAbs) (k := 22) (by decide) hl
  unfold intL
  split
  · rw [List.length_cons]; omega
  · omega
theorem shownAll_sum {b : Nat} : ∀ {ds : List PyData}, (∀ d ∈ ds, (PyData.shown d).length ≤ b) → ((PyData.shownAll ds).map (·.length)).sum ≤ ds.length * b
  | [], _ => by rw [PyData.shownAll_nil]; simp
  | d :: ds, h => by
    have h1 := h d List.mem_cons_self
    have h2 := shownAll_sum fun e he => h e (List.mem_cons_of_mem _ he)
    rw [PyData.shownAll_cons, List.map_cons, List.sum_cons, List.length_cons, Nat.succ_mul]
    omega
theorem showAll_of : ∀ {ds : List PyData}, (∀ d ∈ ds, PyData.showable d = true) → PyData.showableAll ds = true
  | [], _ => by simp only [PyData.showableAll]
  | d :: ds, h => by rw [PyData.showableAll, h d List.mem_cons_self, showAll_of fun e he => h e (List.mem_cons_of_mem _ he)]; rfl
theorem depAll_of {k : Nat} : ∀ {ds : List PyData}, (∀ d ∈ ds, PyData.depth d ≤ k) → PyData.depthAll ds ≤ k
  | [], _ => by simp only [PyData.depthAll]; exact Nat.zero_le _
  | d :: ds, h => by
    rw [PyData.depthAll]
    exact Nat.max_le.mpr ⟨h d List.mem_cons_self, depAll_of fun e he => h e (List.mem_cons_of_mem _ he)⟩
theorem Bd.tup {b k n : Nat} {ds : List PyData} (h : ∀ d ∈ ds, Bd b k d) (hn : ds.length ≤ n) : Bd (n * (b + 2) + 3) (k + 1) (.tuple ds) := by
  refine ⟨by rw [PyData.showable]; exact showAll_of fun d hd => (h d hd).sh, ?_, by rw [PyData.depth]; exact Nat.succ_le_succ (depAll_of fun d hd => (h d hd).dep), by rw [inD]; exact inL_of fun d hd => (h d hd).inn⟩
  have hs := shownAll_sum fun d hd => (h d hd).len
  have hj := join_len (Str.ofString ", ") (PyData.shownAll ds)
  rw [lit_sep, PyData.shownAll_length] at hj
  have hm : ds.length * b + 2 * ds.length ≤ n * (b + 2) := by
    rw [Nat.mul_comm 2, ← Nat.mul_add]
    exact Nat.mul_le_mul_right _ hn
  rw [PyData.shown_tuple, len_app, len_app, lit_open]
  split
  · rw [lit_close1]; omega
  · rw [lit_close]; omega
theorem Bd.lst {b k n : Nat} {ds : List PyData} (h : ∀ d ∈ ds, Bd b k d) (hn : ds.length ≤ n) : Bd (n * (b + 2) + 3) (k + 1) (.list ds) := by
  refine ⟨by rw [PyData.showable]; exact showAll_of fun d hd => (h d hd).sh, ?_, by rw [PyData.depth]; exact Nat.succ_le_succ (depAll_of fun d hd => (h d hd).dep), rfl⟩
  have hs := shownAll_sum fun d hd => (h d hd).len
  have hj := join_len (Str.ofString ", ") (PyData.shownAll ds)
  rw [lit_sep, PyData.shownAll_length] at hj
  have hm : ds.length * b + 2 * ds.length ≤ n * (b + 2) := by
    rw [Nat.mul_comm 2, ← Nat.mul_add]
    exact Nat.mul_le_mul_right _ hn
  rw [PyData.shown_list, len_app, len_app, lit_lo, lit_lc]
  omega
theorem Bd.bool (b : Bool) : Bd 5 0 (.bool b) := ⟨by rw [PyData.showable], by cases b <;> (rw [PyData.shown_bool]; decide +kernel), by rw [PyData.depth]; exact Nat.le_refl _, rfl⟩
theorem Bd.none : Bd 5 0 .none := ⟨by rw [PyData.showable], by rw [PyData.shown_none]; decide +kernel, by rw [PyData.depth]; exact Nat.le_refl _, rfl⟩
mutual
theorem tdp_dep : ∀ d : PyData, tdp d ≤ PyData.depth d
  | .tuple ds => by rw [tdp, PyData.depth]; have := tdpL_dep ds; omega
  | .int _ => Nat.zero_le _
  | .none => Nat.zero_le _
  | .bool _ => Nat.zero_le _
  | .str _ => Nat.zero_le _
  | .list _ => Nat.zero_le _
  | .dict _ => Nat.zero_le _
theorem tdpL_dep : ∀ ds : List PyData, tdpL ds ≤ PyData.depthAll ds
  | [] => Nat.zero_le _
  | d :: ds => by
    rw [tdpL, PyData.depthAll]
    have := tdp_dep d
    have := tdpL_dep ds
    omega
end
section
variable {σ : L2.St} {H : Hp} {Q : VK}
theorem r_dn (q : ∀ p H', H p = none → Ex H H' → H' p = some (.dK []) → Q (.ref p) H') : tDNewK σ H Q := fun p n => q p _ n (Ex.new n) upd_same
theorem r_d1 {i j : Int} (q : ∀ p H', H p = none → Ex H H' → H' p = some (.dK [(.inl i, .int j)]) → Q (.ref p) H') : tDisp [(tC (.int i), tC (.int j))] σ H Q := fun p n => by
  unfold tPairs
  refine ⟨upd_same, [(.inl i, .int j)], rfl, by simp, ?_⟩
  refine q p _ n (fun a o e => ?_) upd_same
  rw [upd_ne (ne_of_none e n), upd_ne (ne_of_none e n)]
  exact e
end
/-- what a def draws, of any kind: bounded, apart from the pot -/
def sp_odraw (K : PySem.W.Frag) (b k : Nat) : Sp := fun vs H Q _ => ∃ p : Addr, vs = [.ref p] ∧ Pt H p ∧ ∀ v d H', Dt K (mo H' p) v d → Bd b k d → Pt H' p → Em p H H' → Q v H'
theorem mo_st {K : PySem.W.Frag} {H : Hp} {p a : Addr} {xs : List V} (hP : Pt H p) (h : SqT K H a xs) : SqT K (mo H p) a xs := by
  obtain ⟨_, _, hp, _⟩ := hP
  rcases h with (h | ⟨o, h⟩) | h
  · exact .inl (.inl (mo_of (fun z => by rw [z, hp] at h; cases h) h fun _ z => nomatch z))
  · exact .inl (.inr ⟨o, mo_of (fun z => by rw [z, hp] at h; cases h) h fun _ z => nomatch z⟩)
  · exact .inr h
mutual
theorem Fl.mo {K : PySem.W.Frag} {H : Hp} {p : Addr} (hP : Pt H p) : ∀ {v : V} {d : PyData}, Fl K H v d → Fl K (mo H p) v d
  | _, _, .non => .non
  | _, _, .bl b => .bl b
  | _, _, .int i => .int i
  | _, _, .str x => .str x
  | _, _, .tup h a => .tup (mo_st hP h) (a.mo hP)
theorem FlAll.mo {K : PySem.W.Frag} {H : Hp} {p : Addr} (hP : Pt H p) : ∀ {v : List V} {d : List PyData}, FlAll K H v d → FlAll K (Ls.mo H p) v d
  | _, _, .nil => .nil
  | _, _, .cons a b => .cons (a.mo hP) (b.mo hP)
end
def Bm : Nat → Nat
  | 0 => 40
  | m + 1 => 4 * (Bm m + 2) + 3
def lv : Nat → PyData → Prop
  | 0, d => (∃ i : Int, d = .int i ∧ i.natAbs ≤ 10 ^ 21) ∨ d = .tuple []
  | m + 1, d => (∃ i : Int, d = .int i ∧ i.natAbs ≤ 10 ^ 21) ∨ ∃ ds, d = .tuple ds ∧ ds.length ≤ 4 ∧ ∀ e ∈ ds, lv m e
theorem Bm_pos : ∀ m, 40 ≤ Bm m
  | 0 => Nat.le_refl _
  | m + 1 => by
    have := Bm_pos m
    show 40 ≤ 4 * (Bm m + 2) + 3
    omega
theorem lv_bd : ∀ {m : Nat} {d : PyData}, lv m d → Bd (Bm m) (m + 1) d ∧ plD d = true
  | 0, d, .inl ⟨i, e, h⟩ => by subst e; exact ⟨(Bd.i21 h).mono (by decide) (by decide), rfl⟩
  | 0, d, .inr e => by subst e; exact ⟨⟨by decide, by decide +kernel, by decide, by decide⟩, rfl⟩
  | m + 1, d, .inl ⟨i, e, h⟩ => by subst e; exact ⟨(Bd.i21 h).mono (Nat.le_trans (by decide) (Bm_pos _)) (Nat.zero_le _), rfl⟩
  | m + 1, d, .inr ⟨ds, e, hl, h⟩ => by
    subst e
    refine ⟨Bd.tup (fun d hd => (lv_bd (h d hd)).1) hl, ?_⟩
    rw [plD, plL_all, decide_eq_true (by omega : ds.length < 41), Bool.true_and, List.all_eq_true]
    intro b hb
    obtain ⟨d, hd, rfl⟩ := List.mem_map.mp hb
    exact (lv_bd (h d hd)).2
theorem lv_int {i : Int} (h : i.natAbs ≤ 10 ^ 21) : ∀ m, lv m (.int i)
  | 0 => .inl ⟨i, rfl, h⟩
  | _ + 1 => .inl ⟨i, rfl, h⟩
theorem lv_nil : ∀ m, lv m (.tuple [])
  | 0 => .inr rfl
  | _ + 1 => .inr ⟨[], rfl, by decide, fun _ h => nomatch h⟩
def sp_ldatumL (K : PySem.W.Frag) (n : Nat) : Sp := fun vs H Q _ => ∃ (p : Addr) (m : Nat), vs = [.ref p, .int (m : Nat)] ∧ Pt H p ∧ m < n ∧ ∀ v d H', Fl K H' v d → lv m d → Pt H' p → Em p H H' → Q v H'
def sp_bent (K : PySem.W.Frag) (n : Nat) : Sp := fun vs H Q _ => ∃ (p : Addr) (v : V) (d : PyData) (m : Nat), vs = [.ref p, v] ∧ Pt H p ∧ Fl K H v d ∧ lv m d ∧ m < n ∧ m ≤ 40 ∧ ∀ v' d' H', Dt K (mo H' p) v' d' → Bd (Bm m) (m + 3) d' → Pt H' p → Em p H H' → Q v' H'
theorem DtAll.app {K : PySem.W.Frag} {H : Hp} {vs ws : List V} {ds es : List PyData} (a : DtAll K H vs ds) (b : DtAll K H ws es) : DtAll K H (vs ++ ws) (ds ++ es) := a.append b
section
variable {H : Hp} {Q : VK} {K : PySem.W.Frag}
theorem y_slT {a : Addr} {xs : List V} {lo hi : Option Int} (h : SqT K H a xs) (q : ∀ b H', Ex H H' → SqT K H' b (cutV xs lo hi) → Q (.ref b) H') : rSlU K (.ref a) lo hi H Q := by
  refine .inr (.inl ⟨a, xs, rfl, h, fun e => q a H (Ex.refl H) ?_, fun _ p n => q p _ (Ex.new n) (.of upd_same)⟩)
  unfold cutV
  rw [e.1, e.2, List.drop_zero, Nat.sub_zero, List.take_length]
  exact h
theorem cutV_to (xs : List V) {k : Nat} (h : k ≤ xs.length) : cutV xs none (some (k : Nat)) = xs.take k := by
  unfold cutV
  rw [HT.sIx_none, HT.sIx_nat, List.drop_zero, Nat.sub_zero, Nat.min_eq_left h]
theorem cutV_from (xs : List V) {k : Nat} (h : k ≤ xs.length) : cutV xs (some (k : Nat)) none = xs.drop k := by
  unfold cutV
  rw [HT.sIx_none, HT.sIx_nat, Nat.min_eq_left h]
  exact List.take_of_length_le (by rw [List.length_drop]; exact Nat.le_refl _)
end
theorem fl_ints {K : PySem.W.Frag} {H : Hp} : ∀ ns : List Int, FlAll K H (ns.map V.int) (ns.map PyData.int)
  | [] => .nil
  | n :: ns => .cons (.int n) (fl_ints ns)
def sp_nest (K : PySem.W.Frag) : Sp := fun vs H Q _ => ∃ (p : Addr) (m : Nat), vs = [.ref p, .int (m : Nat)] ∧ Pt H p ∧ m ≤ 5 ∧ ∀ v d H', Fl K H' v d → lv m d → Pt H' p → Em p H H' → Q v H'
def sp_heav (K : PySem.W.Frag) : Sp := fun vs H Q _ => ∃ (p : Addr) (m : Nat), vs = [.ref p, .int (m : Nat)] ∧ Pt H p ∧ 36 ≤ m ∧ m ≤ 42 ∧ ∀ v d H', Fl K H' v d → Bd 1200 1 d → plD d = true → Pt H' p → Em p H H' → Q v H'
/-- '1', then k times '0' -/
theorem ten_pow : ∀ k, k ≤ 42 → PySem.intText? (S (49 :: List.replicate k 48)) = some ((10 : Int) ^ k) := by
  have key : ∀ k : Fin 43, S (intL ((10 : Int) ^ k.val)) = S (49 :: List.replicate k.val 48) ∧ (intL ((10 : Int) ^ k.val)).length ≤ 601 := by decide +kernel
  intro k hk
  obtain ⟨h1, h2⟩ := key ⟨k, by omega⟩
  rw [← h1]
  exact int_back h2
def kRev (K : PySem.W.Frag) (x : V) (H1 : Hp) (Q : VK) : Prop := ∃ a xs, x = .ref a ∧ SqL K H1 a xs ∧ ∀ p, H1 p = none → Q (.ref p) (upd H1 p (.lst xs.reverse))
section
variable {σ : L2.St} {H : Hp} {Q : VK} {K : PySem.W.Frag} {te : TE}
theorem r_revL (h : te σ H fun x H1 => kRev K x H1 Q) : tRevL K te σ H Q := h
theorem k_rev {a : Addr} {xs : List V} (h : SqL K H a xs) (q : ∀ p H', H p = none → Ex H H' → H' p = some (.lst xs.reverse) → Q (.ref p) H') : kRev K (.ref a) H Q := ⟨a, xs, rfl, h, fun p n => q p _ n (Ex.new n) upd_same⟩
end
def sp_plain (K : PySem.W.Frag) (n : Nat) : Sp := fun vs H Q _ => ∃ v d, vs = [v] ∧ Dt K H v d ∧ tdp d < n ∧ ∀ H', Ex H H' → Q (.bl (plD d)) H'
end Ls
end

section
set_option Elab.async false
set_option linter.all false
set_option maxRecDepth 100000
set_option maxHeartbeats 4000000
namespace Ls
open PySem PySem.Spec PyProof.Rows L2 SX LamX
section
variable {P : Program} {w : World} {K : PySem.W.Frag} {mg : Str → Option Value} {base : Heap} {x : Str} {st : Stmt} {ps : List Str}
theorem Df.okT {N : List Str} {k : Nat} {sp : Sp} (D : Df K mg x st ps) (B : Tb K mg x) (S : FnScope N ps (defScope st)) (len : ∀ vs H Q E, sp vs H Q E → vs.length = ps.length)
    (body : ∀ (f : Addr) (A : Around) (outer : List Env) (s : Shared) (H : Hp) (vs : List V) (Q : VK) (E : XK), RoomG k (A.deeper (envOfC x (defScope st) s.heap.objs.size f (.ref (kA K mg x)))) → sp vs H Q E →
      ∃ t, PSs (cxOf (L2.CX P w) P w K mg base N x (defScope st) f (.ref (kA K mg x)) A outer s H E) (defBody st) t ∧ t { nx := fun _ H' => Q .non H', rt := Q } (L2.start N vs) H) : Cal P w K mg base (k + 1) x st ps sp := by
  obtain ⟨f, fd, F, g, b⟩ := D.ex
  obtain ⟨oc, od, kV, doc, pm, an, cdv, ct, osl, rfl, lk, hcd⟩ := F.ex
  have hc : cdv = .ref (kA K mg x) := by
    obtain ⟨oc', od', fd', sl', _, _, _, _, l, hk, _⟩ := B.ex
    have e := B.m
    rw [g] at e
    have e2 : f = fA mg x := Value.ref.inj (Option.some.inj e)
    rw [← e2, lk] at l
    cases l
    exact hk
  subst hc
  refine ⟨f, _, ⟨len, fun A outer s H args us vs Q E hr e0 hb r hsp => ?_⟩, g, F, b⟩
  exact LamX.run_ofS lk hcd S hr.rm e0 hb r (len _ _ _ _ hsp) fun hr' => body f A outer s H vs Q E ⟨hr', hr.gd⟩ hsp
theorem Giv.up {j k : Nat} {a : Str} {Ng : List Str} {TT : (XK → Hp → VK → Prop) → Hp → VK → Prop} (h : Giv P w K mg base j x st a Ng TT) (hk : j ≤ k) : Giv P w K mg base k x st a Ng TT :=
  fun g cdv A outer s H Q f c' q tl hr => h g cdv A outer s H Q f c' q tl (hr.mono hk)
end
def lamQ (x : Str) : Str := x ++ ".<locals>." ++ "<lambda>"
/-- .., tables tracked -/
def sp_tright (Ts : List (Addr × Str)) : Sp := fun vs H Q _ => ∃ p : Addr, vs = [.ref p] ∧ Pt H p ∧ Tabs Ts H ∧ ∀ H', Pt H' p → Tabs Ts H' → Eo p H H' → Q (.bl true) H'
section
variable {σ : L2.St} {H : Hp} {Q : VK} {K : PySem.W.Frag}
theorem r_lam {T : List (Addr × Str)} {TT : (XK → Hp → VK → Prop) → Hp → VK → Prop} {t : XK → TE} (hT : Tabs T H) (h : ∀ H1, ExtN H H1 → Tabs T H1 → TT (fun E H' Q' => t E σ H' Q') H1 Q) : tLam T TT t σ H Q := ⟨hT, h⟩
/-- repr of a list of truths -/
theorem y_repB {p : Addr} {bs : List Bool} (hp : H p = some (.lst (bs.map V.bl))) (hl : bs.length ≤ 100) (q : Q (.str (PyData.list (bs.map PyData.bool)).shown) H) : rRepr K [.ref p] H Q := by
  have hall : DpAll K H (bs.map V.bl) (bs.map PyData.bool) := by
    induction bs with
    | nil => exact .nil
    | cons b bs ih =>
      have key : ∀ l : List Bool, DpAll K H (l.map V.bl) (l.map PyData.bool) := by
        intro l
        induction l with
        | nil => exact .nil
        | cons a l ih => exact .cons (.bl a) ih
      exact key _
  have bd : Bd (100 * 7 + 3) 1 (.list (bs.map PyData.bool)) := Bd.lst (b := 5) (k := 0) (fun d hd => by obtain ⟨b, _, rfl⟩ := List.mem_map.mp hd; exact Bd.bool b) (by rw [List.length_map]; exact hl)
  refine y_reprP (.lst (.of hp) hall) ?_ bd.sh (Nat.le_trans bd.len (by decide)) (Nat.le_trans bd.dep (by decide)) q
  exact PyData.hasDict_of_canLay _ (by
    rw [PyData.canLay0]
    have key : ∀ l : List Bool, PyData.canLayAll0 (l.map PyData.bool) = true := by
      intro l
      induction l with
      | nil => rfl
      | cons a l ih => rw [List.map_cons, PyData.canLayAll0, ih]; rfl
    exact key bs)
end
section
variable {σ : L2.St} {H : Hp} {Q : VK} {K : PySem.W.Frag}
theorem y_isStrD {v : V} {d : PyData} (h : Dt K H v d) (h1 : ∀ z, d = .str z → v = .str z → Q (.bl true) H) (h0 : isF d = false → Q (.bl false) H) : rIsiU K [v, .ty "str"] H Q := by
  cases d with
  | str z =>
    refine y_isi h (b := true) rfl (h1 z rfl ?_)
    cases h
    rfl
  | none => exact y_isi h (b := false) rfl (h0 rfl)
  | bool _ => exact y_isi h (b := false) rfl (h0 rfl)
  | int _ => exact y_isi h (b := false) rfl (h0 rfl)
  | list _ => exact y_isi h (b := false) rfl (h0 rfl)
  | tuple _ => exact y_isi h (b := false) rfl (h0 rfl)
  | dict _ => exact y_isi h (b := false) rfl (h0 rfl)
theorem y_eqSv {v : V} {z y : Str} (e : v = .str z) (q : Q (.bl (decide (z = y))) H) : rEqU K v (.str y) H Q := by
  subst e
  exact y_eqS q
end
end Ls
end

section
set_option Elab.async false
set_option linter.all false
set_option maxRecDepth 100000
set_option maxHeartbeats 4000000
namespace Ls
open PySem PySem.Spec PyProof.Rows L2 SX LamX
theorem Eo.putN {p D : Addr} {o : HO} {H H' : Hp} (e : Eo p H H') (h : H D = none) : Eo p H (upd H' D o) := fun a u q => by
  have n : a ≠ D := fun z => by
    subst z
    rw [mo_none h] at q
    cases q
  obtain ⟨n1, h1, z⟩ := mo_some (e a u q)
  exact mo_of n1 (by rw [upd_ne n]; exact h1) z
theorem seq_newO {K : PySem.W.Frag} {p l : Addr} {xs : List V} {H H1 H2 : Hp} (h : SqL K H l xs) (n : H p = none) (e : Ex H H1) (m : Eo p H1 H2) : SqL K H2 l xs := by
  rcases h with (h | ⟨o, h⟩) | h
  · exact .inl (.inl (mo_some (m _ _ (mo_of (ne_of_none h n) (e _ _ h) fun _ z => nomatch z))).2.1)
  · exact .inl (.inr ⟨o, (mo_some (m _ _ (mo_of (ne_of_none h n) (e _ _ h) fun _ z => nomatch z))).2.1⟩)
  · exact .inr h
section
variable {σ : L2.St} {H : Hp} {Q : VK} {K : PySem.W.Frag} {te : TE} {vs : List Nat}
theorem k_lcPotT {p : Addr} {lo : Int} {n i0 : Nat} {Ts : List (Addr × Str)} (G : V → Prop) (hP : Pt H p) (hT : Tabs Ts H) (hz : n ≤ 99999)
    (hs : ∀ (j : Nat) H1 (Q1 : VK), j < n → Eo p H H1 → Pt H1 p → Tabs Ts H1 → (∀ y H2, Eo p H1 H2 → Pt H2 p → Tabs Ts H2 → G y → Q1 y H2) → te ((wipe σ vs).set i0 (some (.int (lo + j)))) H1 Q1)
    (hw : ∀ x, wipe ((wipe σ vs).set i0 (some x)) vs = wipe σ vs) (q : ∀ D ys H2, H D = none → Eo p H H2 → Pt H2 p → Tabs Ts H2 → H2 D = some (.lst ys) → ys.length = n → (∀ y, y ∈ ys → G y) → Q (.ref D) H2) : kLc (Itr lo n) (gName i0) tYes te vs σ H Q := by
  refine k_lcR (fun j ys H' => Eo p H H' ∧ Pt H' p ∧ Tabs Ts H' ∧ ∀ y, y ∈ ys → G y) (fun D n => ⟨(Ex.new n).eo p, hP.put (hP.ne n), hT.ext (Ex.new n), fun _ h => nomatch h⟩) (fun D j ys H' nD hj hl hHD c => ?_) hw fun D ys H' nD hl hHD c => ?_
  · obtain ⟨e, hP', hT', g⟩ := c
    have npD : D ≠ p := fun z => by obtain ⟨_, _, h, _⟩ := hP; rw [z] at nD; rw [nD] at h; cases h
    refine hs j H' _ hj e hP' hT' fun y H2 e2 P2 T2 gy => k_turn (e2.lst npD hHD) hl (by omega) ⟨(e.trans e2).putN nD, P2.put npD.symm, tabs_em T2 (e2.lst npD hHD) Em.put, fun z hz => ?_⟩
    rcases List.mem_append.mp hz with hz | hz
    · exact g z hz
    · have : z = y := by simpa using hz
      subst this
      exact gy
  · exact q D ys H' nD c.1 c.2.1 c.2.2.1 hHD hl c.2.2.2
end
/-- the law's promise, where tables are tracked -/
def sp_lawT (K : PySem.W.Frag) (Ts : List (Addr × Str)) : Sp := fun vs H Q _ => ∃ (a : Addr) (ns : List Int), vs = [.ref a] ∧ SqL K H a (ns.map V.int) ∧ ns.length ≤ 63 ∧ Tabs Ts H ∧ ∀ H', Q (.bl true) H'
theorem lawT_start {nms : List Str} (K : PySem.W.Frag) (mg : Str → Option Value) (H : Hp) (a : Addr) (ns : List Int) (hn : ns.length ≤ 63) (ht : ∀ y ∈ nms, H (pA K mg y) = some (.tbl #[])) (h : SqL K H a (ns.map V.int)) :
    sp_lawT K (nms.map fun x => (pA K mg x, lamQ x)) [.ref a] H (fun v _ => v = .bl true) fun _ _ _ => False := by
  refine ⟨a, ns, rfl, h, hn, fun q hq => ?_, fun _ => rfl⟩
  obtain ⟨y, hy, rfl⟩ := List.mem_map.mp hq
  exact TabS.nil (ht y hy)
end Ls
end

section
set_option Elab.async false
set_option linter.all false
set_option maxRecDepth 100000
set_option maxHeartbeats 4000000
namespace Ls
open PySem PySem.Spec PyProof.Rows L2
section
variable {K : PySem.W.Frag} {C D : Addr} {t y : Value} {b : Bool} {r : List Value}
theorem kit_own (i : PySem.W.isClsIn K C = true) (h : PySem.W.typeIn K (.ref C) = some (.type "type")) (s : PySem.W.subIn K t (.ref C) = some b) : PySem.W.kitCls K t (.ref C) = some b := by
  unfold PySem.W.kitCls
  have i' : (PySem.W.clsIn K C).isSome = true := i
  simp only [i', h, s]
  rfl
theorem kit_bi {T : String} (m : PySem.W.kitMeta T = true) (s : PySem.W.subIn K t (.type T) = some b) : PySem.W.kitCls K t (.type T) = some b := by
  unfold PySem.W.kitCls
  simp only [m, s, if_true]
theorem kit_one (k : PySem.W.kitCls K (.ref D) y = some b) (z : PySem.W.subIn K (.ref D) (.ref D) = some true) (s : PySem.W.subIn K (.ref D) y = some b) : PySem.W.kitOne K (.ref D) y = some b := by
  unfold PySem.W.kitOne
  by_cases e : (Value.ref D == y) = true
  · have e' := beq_iff_eq.mp e
    rw [← e', z] at s
    rw [if_pos e]
    exact s
  · rw [if_neg e]
    exact k
theorem kit_exm (k : PySem.W.kitCls K t y = some b) (s : PySem.W.subIn K y (.type "BaseException") = some true) : PySem.W.exmOne K t y = some b := by
  unfold PySem.W.exmOne
  rw [s]
  exact k
theorem any_t (h : PySem.W.kitOne K t y = some true) : PySem.W.kitAny K t (y :: r) = some true := by
  unfold PySem.W.kitAny
  rw [h]
theorem any_f (h : PySem.W.kitOne K t y = some false) (h2 : PySem.W.kitAny K t r = some b) : PySem.W.kitAny K t (y :: r) = some b := by
  unfold PySem.W.kitAny
  rw [h]
  exact h2
theorem any_0 : PySem.W.kitAny K t [] = some false := rfl
end
end Ls
end

section
set_option Elab.async false
set_option linter.all false
set_option maxRecDepth 100000
set_option maxHeartbeats 4000000
namespace My
open PySem PySem.Spec PyProof.Rows L2 Ls
def topS (i : Nat) : Stmt := PySem.Challenge.pw_leastsession_k10_values_judged.main.body.getD i (.Pass ⟨0, 0, 0, 0⟩)
abbrev s_is_int : Stmt := topS 14
abbrev N_is_int : List Str := ["value"]
abbrev P_is_int : List Str := ["value"]
theorem sc_is_int : FnScope N_is_int P_is_int (defScope s_is_int) := ⟨rfl, rfl, rfl, by decide +kernel, rfl, by decide +kernel, by decide +kernel⟩
abbrev s_is_nested : Stmt := topS 15
abbrev N_is_nested : List Str := ["value", "item"]
abbrev P_is_nested : List Str := ["value"]
theorem sc_is_nested : FnScope N_is_nested P_is_nested (defScope s_is_nested) := ⟨rfl, rfl, rfl, by decide +kernel, rfl, by decide +kernel, by decide +kernel⟩
abbrev s_depth_of : Stmt := topS 16
abbrev N_depth_of : List Str := ["datum", "item"]
abbrev P_depth_of : List Str := ["datum"]
theorem sc_depth_of : FnScope N_depth_of P_depth_of (defScope s_depth_of) := ⟨rfl, rfl, rfl, by decide +kernel, rfl, by decide +kernel, by decide +kernel⟩
abbrev s_datum_size : Stmt := topS 17
abbrev N_datum_size : List Str := ["datum", "item"]
abbrev P_datum_size : List Str := ["datum"]
theorem sc_datum_size : FnScope N_datum_size P_datum_size (defScope s_datum_size) := ⟨rfl, rfl, rfl, by decide +kernel, rfl, by decide +kernel, by decide +kernel⟩
abbrev s_is_datum : Stmt := topS 18
abbrev N_is_datum : List Str := ["value"]
abbrev P_is_datum : List Str := ["value"]
theorem sc_is_datum : FnScope N_is_datum P_is_datum (defScope s_is_datum) := ⟨rfl, rfl, rfl, by decide +kernel, rfl, by decide +kernel, by decide +kernel⟩
abbrev s_is_fault : Stmt := topS 19
abbrev N_is_fault : List Str := ["value"]
abbrev P_is_fault : List Str := ["value"]
theorem sc_is_fault : FnScope N_is_fault P_is_fault (defScope s_is_fault) := ⟨rfl, rfl, rfl, by decide +kernel, rfl, by decide +kernel, by decide +kernel⟩
abbrev s_is_value : Stmt := topS 20
abbrev N_is_value : List Str := ["value"]
abbrev P_is_value : List Str := ["value"]
theorem sc_is_value : FnScope N_is_value P_is_value (defScope s_is_value) := ⟨rfl, rfl, rfl, by decide +kernel, rfl, by decide +kernel, by decide +kernel⟩
abbrev s_check_value : Stmt := topS 21
abbrev N_check_value : List Str := ["value"]
abbrev P_check_value : List Str := ["value"]
theorem sc_check_value : FnScope N_check_value P_check_value (defScope s_check_value) := ⟨rfl, rfl, rfl, by decide +kernel, rfl, by decide +kernel, by decide +kernel⟩
abbrev s_size_of : Stmt := topS 22
abbrev N_size_of : List Str := ["value"]
abbrev P_size_of : List Str := ["value"]
theorem sc_size_of : FnScope N_size_of P_size_of (defScope s_size_of) := ⟨rfl, rfl, rfl, by decide +kernel, rfl, by decide +kernel, by decide +kernel⟩
abbrev s_datum_text : Stmt := topS 23
abbrev N_datum_text : List Str := ["datum", "item"]
abbrev P_datum_text : List Str := ["datum"]
theorem sc_datum_text : FnScope N_datum_text P_datum_text (defScope s_datum_text) := ⟨rfl, rfl, rfl, by decide +kernel, rfl, by decide +kernel, by decide +kernel⟩
abbrev s_format_value : Stmt := topS 24
abbrev N_format_value : List Str := ["value"]
abbrev P_format_value : List Str := ["value"]
theorem sc_format_value : FnScope N_format_value P_format_value (defScope s_format_value) := ⟨rfl, rfl, rfl, by decide +kernel, rfl, by decide +kernel, by decide +kernel⟩
abbrev s_law_pot : Stmt := topS 26
abbrev N_law_pot : List Str := ["_law_script", "_law_index", "_law_cell"]
abbrev P_law_pot : List Str := ["_law_script", "_law_index"]
theorem sc_law_pot : FnScope N_law_pot P_law_pot (defScope s_law_pot) := ⟨rfl, rfl, rfl, by decide +kernel, rfl, by decide +kernel, by decide +kernel⟩
abbrev s_law_digit : Stmt := topS 27
abbrev N_law_digit : List Str := ["_law_pot_here", "_law_many", "_law_digit_here"]
abbrev P_law_digit : List Str := ["_law_pot_here", "_law_many"]
theorem sc_law_digit : FnScope N_law_digit P_law_digit (defScope s_law_digit) := ⟨rfl, rfl, rfl, by decide +kernel, rfl, by decide +kernel, by decide +kernel⟩
abbrev s_law_pick : Stmt := topS 28
abbrev N_law_pick : List Str := ["_law_pot_here", "_law_some"]
abbrev P_law_pick : List Str := ["_law_pot_here", "_law_some"]
theorem sc_law_pick : FnScope N_law_pick P_law_pick (defScope s_law_pick) := ⟨rfl, rfl, rfl, by decide +kernel, rfl, by decide +kernel, by decide +kernel⟩
abbrev s_law_int : Stmt := topS 29
abbrev N_law_int : List Str := ["_law_pot_here", "_law_way", "_law_great"]
abbrev P_law_int : List Str := ["_law_pot_here"]
theorem sc_law_int : FnScope N_law_int P_law_int (defScope s_law_int) := ⟨rfl, rfl, rfl, by decide +kernel, rfl, by decide +kernel, by decide +kernel⟩
abbrev s_law_datum : Stmt := topS 30
abbrev N_law_datum : List Str := ["_law_pot_here", "_law_deep_here", "_law_k"]
abbrev P_law_datum : List Str := ["_law_pot_here", "_law_deep_here"]
theorem sc_law_datum : FnScope N_law_datum P_law_datum (defScope s_law_datum) := ⟨rfl, rfl, rfl, by decide +kernel, rfl, by decide +kernel, by decide +kernel⟩
abbrev s_law_is_int : Stmt := topS 31
abbrev N_law_is_int : List Str := ["_law_thing"]
abbrev P_law_is_int : List Str := ["_law_thing"]
theorem sc_law_is_int : FnScope N_law_is_int P_law_is_int (defScope s_law_is_int) := ⟨rfl, rfl, rfl, by decide +kernel, rfl, by decide +kernel, by decide +kernel⟩
abbrev s_law_size : Stmt := topS 32
abbrev N_law_size : List Str := ["_law_thing", "_law_each"]
abbrev P_law_size : List Str := ["_law_thing"]
theorem sc_law_size : FnScope N_law_size P_law_size (defScope s_law_size) := ⟨rfl, rfl, rfl, by decide +kernel, rfl, by decide +kernel, by decide +kernel⟩
abbrev s_law_deep : Stmt := topS 33
abbrev N_law_deep : List Str := ["_law_thing", "_law_each"]
abbrev P_law_deep : List Str := ["_law_thing"]
theorem sc_law_deep : FnScope N_law_deep P_law_deep (defScope s_law_deep) := ⟨rfl, rfl, rfl, by decide +kernel, rfl, by decide +kernel, by decide +kernel⟩
abbrev s_law_fits : Stmt := topS 34
abbrev N_law_fits : List Str := ["_law_thing", "_law_each"]
abbrev P_law_fits : List Str := ["_law_thing"]
theorem sc_law_fits : FnScope N_law_fits P_law_fits (defScope s_law_fits) := ⟨rfl, rfl, rfl, by decide +kernel, rfl, by decide +kernel, by decide +kernel⟩
abbrev s_law_odd : Stmt := topS 35
abbrev N_law_odd : List Str := ["_law_pot_here", "_law_some"]
abbrev P_law_odd : List Str := ["_law_pot_here"]
theorem sc_law_odd : FnScope N_law_odd P_law_odd (defScope s_law_odd) := ⟨rfl, rfl, rfl, by decide +kernel, rfl, by decide +kernel, by decide +kernel⟩
abbrev s_law_heavy : Stmt := topS 36
abbrev N_law_heavy : List Str := ["_law_pot_here", "_law_more", "_law_found"]
abbrev P_law_heavy : List Str := ["_law_pot_here", "_law_more"]
theorem sc_law_heavy : FnScope N_law_heavy P_law_heavy (defScope s_law_heavy) := ⟨rfl, rfl, rfl, by decide +kernel, rfl, by decide +kernel, by decide +kernel⟩
abbrev s_law_nested : Stmt := topS 37
abbrev N_law_nested : List Str := ["_law_pot_here", "_law_deep_here", "_law_found", "_law_turn"]
abbrev P_law_nested : List Str := ["_law_pot_here", "_law_deep_here"]
theorem sc_law_nested : FnScope N_law_nested P_law_nested (defScope s_law_nested) := ⟨rfl, rfl, rfl, by decide +kernel, rfl, by decide +kernel, by decide +kernel⟩
abbrev s_law_bent : Stmt := topS 38
abbrev N_law_bent : List Str := ["_law_pot_here", "_law_thing", "_law_at"]
abbrev P_law_bent : List Str := ["_law_pot_here", "_law_thing"]
theorem sc_law_bent : FnScope N_law_bent P_law_bent (defScope s_law_bent) := ⟨rfl, rfl, rfl, by decide +kernel, rfl, by decide +kernel, by decide +kernel⟩
abbrev s_law_any : Stmt := topS 39
abbrev N_law_any : List Str := ["_law_pot_here", "_law_way", "_law_wide", "_law_k"]
abbrev P_law_any : List Str := ["_law_pot_here"]
theorem sc_law_any : FnScope N_law_any P_law_any (defScope s_law_any) := ⟨rfl, rfl, rfl, by decide +kernel, rfl, by decide +kernel, by decide +kernel⟩
abbrev s_law_is_plain : Stmt := topS 40
abbrev N_law_is_plain : List Str := ["_law_thing", "_law_each"]
abbrev P_law_is_plain : List Str := ["_law_thing"]
theorem sc_law_is_plain : FnScope N_law_is_plain P_law_is_plain (defScope s_law_is_plain) := ⟨rfl, rfl, rfl, by decide +kernel, rfl, by decide +kernel, by decide +kernel⟩
abbrev s_law_refused : Stmt := topS 41
abbrev N_law_refused : List Str := ["_law_call", "_law_told", "e", "_law_others"]
abbrev P_law_refused : List Str := ["_law_call"]
theorem sc_law_refused : FnScope N_law_refused P_law_refused (defScope s_law_refused) := ⟨rfl, rfl, rfl, by decide +kernel, rfl, by decide +kernel, by decide +kernel⟩
abbrev s_law_right : Stmt := topS 42
abbrev N_law_right : List Str := ["_law_pot_here", "_law_thing", "_law_shown", "_law_is_due", "_law_is_broken", "_law_told", "_law_due"]
abbrev P_law_right : List Str := ["_law_pot_here"]
theorem sc_law_right : FnScope N_law_right P_law_right (defScope s_law_right) := ⟨rfl, rfl, rfl, by decide +kernel, rfl, by decide +kernel, by decide +kernel⟩
abbrev s_law : Stmt := topS 43
abbrev N_law : List Str := ["_law_script", "_law_k", "_law_pot_here", "_law_turn"]
abbrev P_law : List Str := ["_law_script"]
theorem sc_law : FnScope N_law P_law (defScope s_law) := ⟨rfl, rfl, rfl, by decide +kernel, rfl, by decide +kernel, by decide +kernel⟩
abbrev i_InvalidValue : Stmt := (C8.clsBody (topS 2)).getD 0 (.Pass ⟨0, 0, 0, 0⟩)
abbrev P_i_InvalidValue : List Str := ["self", "value"]
theorem sc_i_InvalidValue : FnScope P_i_InvalidValue P_i_InvalidValue (defScope i_InvalidValue) := ⟨rfl, rfl, rfl, by decide +kernel, rfl, by decide +kernel, by decide +kernel⟩
structure Tx (K : PySem.W.Frag) (mg : Str → Option Value) : Prop where
  n_ValueError : mg "ValueError" = none
  n_abs : mg "abs" = none
  n_all : mg "all" = none
  n_bool : mg "bool" = none
  n_divmod : mg "divmod" = none
  n_int : mg "int" = none
  n_isinstance : mg "isinstance" = none
  n_len : mg "len" = none
  n_max : mg "max" = none
  n_min : mg "min" = none
  n_range : mg "range" = none
  n_repr : mg "repr" = none
  n_str : mg "str" = none
  n_sum : mg "sum" = none
  n_tuple : mg "tuple" = none
  c_FAULT : ∃ u, mg "FAULT" = some u ∧ RelV (.str "fault") u
  c_MOST_ITEMS : ∃ u, mg "MOST_ITEMS" = some u ∧ RelV (.int 40) u
  c_MOST_DEPTH : ∃ u, mg "MOST_DEPTH" = some u ∧ RelV (.int 4) u
  c_MOST_SIZE : ∃ u, mg "MOST_SIZE" = some u ∧ RelV (.int 1000) u
  d_is_int : Df K mg "is_int" s_is_int P_is_int
  d_is_nested : Df K mg "is_nested" s_is_nested P_is_nested
  d_depth_of : Df K mg "depth_of" s_depth_of P_depth_of
  d_datum_size : Df K mg "datum_size" s_datum_size P_datum_size
  d_is_datum : Df K mg "is_datum" s_is_datum P_is_datum
  d_is_fault : Df K mg "is_fault" s_is_fault P_is_fault
  d_is_value : Df K mg "is_value" s_is_value P_is_value
  d_check_value : Df K mg "check_value" s_check_value P_check_value
  d_size_of : Df K mg "size_of" s_size_of P_size_of
  d_datum_text : Df K mg "datum_text" s_datum_text P_datum_text
  d_format_value : Df K mg "format_value" s_format_value P_format_value
  d_law_pot : Df K mg "_law_pot" s_law_pot P_law_pot
  d_law_digit : Df K mg "_law_digit" s_law_digit P_law_digit
  d_law_pick : Df K mg "_law_pick" s_law_pick P_law_pick
  d_law_int : Df K mg "_law_int" s_law_int P_law_int
  d_law_datum : Df K mg "_law_datum" s_law_datum P_law_datum
  d_law_is_int : Df K mg "_law_is_int" s_law_is_int P_law_is_int
  d_law_size : Df K mg "_law_size" s_law_size P_law_size
  d_law_deep : Df K mg "_law_deep" s_law_deep P_law_deep
  d_law_fits : Df K mg "_law_fits" s_law_fits P_law_fits
  d_law_odd : Df K mg "_law_odd" s_law_odd P_law_odd
  d_law_heavy : Df K mg "_law_heavy" s_law_heavy P_law_heavy
  d_law_nested : Df K mg "_law_nested" s_law_nested P_law_nested
  d_law_bent : Df K mg "_law_bent" s_law_bent P_law_bent
  d_law_any : Df K mg "_law_any" s_law_any P_law_any
  d_law_is_plain : Df K mg "_law_is_plain" s_law_is_plain P_law_is_plain
  d_law_refused : Df K mg "_law_refused" s_law_refused P_law_refused
  d_law_right : Df K mg "_law_right" s_law_right P_law_right
  d_law : Df K mg "law" s_law P_law
  m_InvalidValue : mg "InvalidValue" = some (.ref (fA mg "InvalidValue"))
  m_SessionError : mg "SessionError" = some (.ref (fA mg "SessionError"))
  m_InvalidExpression : mg "InvalidExpression" = some (.ref (fA mg "InvalidExpression"))
  m_InvalidName : mg "InvalidName" = some (.ref (fA mg "InvalidName"))
  m_InvalidText : mg "InvalidText" = some (.ref (fA mg "InvalidText"))
  m_LimitError : mg "LimitError" = some (.ref (fA mg "LimitError"))
  m_MissingError : mg "MissingError" = some (.ref (fA mg "MissingError"))
  m_StateError : mg "StateError" = some (.ref (fA mg "StateError"))
  k_InvalidValue : Xd K mg "InvalidValue" bm_ValueError "ValueError.__new__" i_InvalidValue P_i_InvalidValue
  f_InvalidValue_value : PySem.W.takerIn K (fA mg "InvalidValue") "value" = some none
  g_InvalidValue_value : PySem.W.findIn K (.ref (fA mg "InvalidValue")) "value" = some none
  x_InvalidValue : ExcC K (fA mg "InvalidValue")
  v_InvalidValue : XfC K (fA mg "InvalidValue")
  e_InvalidValue_SessionError : PySem.W.exmOne K (.ref (fA mg "InvalidValue")) (.ref (fA mg "SessionError")) = some true
  q_InvalidValue_InvalidValue : PySem.W.kitOne K (.ref (fA mg "InvalidValue")) (.ref (fA mg "InvalidValue")) = some true
  q_InvalidValue_ValueError : PySem.W.kitOne K (.ref (fA mg "InvalidValue")) (.type "ValueError") = some true
  q_InvalidValue_InvalidExpression_InvalidName_InvalidText : PySem.W.kitAny K (.ref (fA mg "InvalidValue")) [.ref (fA mg "InvalidExpression"), .ref (fA mg "InvalidName"), .ref (fA mg "InvalidText")] = some false
  q_InvalidValue_LimitError_MissingError_StateError : PySem.W.kitAny K (.ref (fA mg "InvalidValue")) [.ref (fA mg "LimitError"), .ref (fA mg "MissingError"), .ref (fA mg "StateError")] = some false
  n_SessionError : Xn K mg "SessionError" "ValueError.__init__" (fA mg "SessionError")
end My
end

section
set_option Elab.async false
set_option linter.all false
set_option maxRecDepth 100000
set_option maxHeartbeats 4000000
namespace My
open PySem PySem.Spec PyProof.Rows L2 Ls SX
local macro_rules | `(tactic| walk_at "rd1") => `(tactic| (first | ((with_reducible refine' Ls.r_var ?hV ?_); (case hV => exact rfl)) | (with_reducible refine Ls.r_c ?_) | (with_reducible refine Ls.r_op ?_) | (with_reducible refine Ls.r_un ?_) | (with_reducible refine Ls.r_nil ?_) | (with_reducible refine Ls.r_cons ?_) | (with_reducible refine Ls.r_cb ?_) | (with_reducible refine Ls.r_ckw ?_) | (with_reducible refine Ls.r_cal ?_) | (with_reducible refine Ls.r_calK ?_) | (with_reducible refine Ls.r_tup ?_) | (with_reducible refine Ls.r_lst ?_) | (with_reducible refine Ls.r_if ?_) | (with_reducible refine Ls.r_andV ?_) | (with_reducible refine Ls.r_orV ?_) | (with_reducible refine Ls.r_notV ?_) | (with_reducible refine Ls.r_chain ?_) | (with_reducible refine Ls.r_sl ?_) | (with_reducible refine Ls.r_nopart ?_) | (with_reducible refine Ls.r_part ?_) | (with_reducible refine Ls.k_part ?_) | (with_reducible refine Ls.r_test ?_) | (with_reducible refine Ls.r_B ?_) | (with_reducible refine Ls.k_B ?_) | (with_reducible refine Ls.r_not ?_) | (with_reducible refine Ls.r_and ?_) | (with_reducible refine Ls.r_or ?_) | (with_reducible refine Ls.r_seq ?_) | (with_reducible refine Ls.r_ifS ?_) | (with_reducible refine Ls.r_next ?_) | (with_reducible refine Ls.r_brk ?_) | (with_reducible refine Ls.r_cont ?_) | (with_reducible refine Ls.r_ret ?_) | (with_reducible refine Ls.r_retN ?_) | (with_reducible refine Ls.r_drop ?_) | (with_reducible refine Ls.r_asg ?_) | (with_reducible refine Ls.r_par ?_) | (with_reducible refine Ls.k_par ?_) | ((with_reducible refine' Ls.r_aug ?hV ?_); (case hV => exact rfl)) | (with_reducible refine Ls.y_ip ?_) | (with_reducible refine Ls.g_name ?_) | (with_reducible refine Ls.g_nil ?_) | (with_reducible refine Ls.g_cons ?_) | (with_reducible refine Ls.g_sub ?_) | (with_reducible refine Ls.e_nx ?_) | (with_reducible refine Ls.e_rt ?_) | (with_reducible refine Ls.e_bk ?_) | (with_reducible refine Ls.e_ct ?_) | (with_reducible refine Ls.r_for ?_) | (with_reducible refine Ls.i_seq ?_) | (with_reducible refine Ls.r_xi ?_) | (with_reducible refine Ls.r_xo ?_) | (with_reducible refine Ls.r_mk ?_) | (with_reducible refine Ls.r_xf ?_) | (with_reducible refine Ls.i_enum ?_) | (with_reducible refine Ls.i_rng1 ?_) | (with_reducible refine Ls.r_m1 ?_) | (with_reducible refine Ls.r_m0 ?_) | (with_reducible refine Ls.k_isS ?_) | (with_reducible refine Ls.r_bm ?_) | (with_reducible refine Ls.r_lc ?_) | (with_reducible refine Ls.y_add ?_) | (with_reducible refine Ls.y_sub ?_) | (with_reducible refine Ls.y_neg ?_) | (with_reducible refine Ls.y_lt ?_) | (with_reducible refine Ls.y_le ?_) | (with_reducible refine Ls.y_gt ?_) | (with_reducible refine Ls.y_ge ?_) | (with_reducible refine Ls.y_eqI ?_) | (with_reducible refine Ls.y_eqS ?_) | (with_reducible refine Ls.y_neI ?_) | (with_reducible refine Ls.y_neS ?_) | (with_reducible refine Ls.y_isNo ?_) | (with_reducible refine Ls.y_isntNo ?_) | (with_reducible refine Ls.y_abs ?_) | (with_reducible refine Ls.y_max2 ?_) | (with_reducible refine Ls.y_min2 ?_) | (with_reducible refine Ls.y_intI ?_) | (with_reducible refine Ls.y_intB ?_) | ((with_reducible refine' Ls.y_ixL ?hS ?hA ?_); (case hS => first | assumption | exact L2.SqL.of (by assumption)); (case hA => rfl)) | ((with_reducible refine' Ls.y_ixT ?hS ?hA ?_); (case hS => first | assumption | exact L2.SqT.of (by assumption)); (case hA => rfl)) | ((with_reducible refine' Ls.y_mod ?hC ?_); (case hC => first | decide | omega)) | ((with_reducible refine' Ls.y_fdiv ?hC ?_); (case hC => first | decide | (constructor <;> omega))) | ((with_reducible refine' Ls.y_pow ?hC ?_); (case hC => exact ⟨by decide, by decide, by decide⟩)) | ((with_reducible refine' Ls.y_mul ?hC ?_); (case hC => first | exact .inr ⟨by decide, by decide⟩ | exact .inl ⟨by decide, by decide⟩ | exact .inr ⟨by omega, by omega⟩ | exact .inl ⟨by omega, by omega⟩)) | (with_reducible refine L2.iteT ?_) | (with_reducible refine L2.iteF ?_) | (with_reducible refine Ls.iteNF ?_) | (with_reducible refine Ls.iteNT ?_)))
local macro_rules | `(tactic| walk_at "rd") => `(tactic| (repeat walk_at "rd1"))

section
variable {P : Program} {w : World} {K : PySem.W.Frag} {mg : Str → Option Value} {base : Heap}
theorem xk_InvalidValue (T : Tx K mg) : Xk P w K mg base 1 "InvalidValue" (fA mg "InvalidValue") ["value"] := by
  refine T.k_InvalidValue.ok xb_value sc_i_InvalidValue rfl fun f cdv A outer s H a ws Q E hw ha q => ?_
  obtain ⟨y, rfl⟩ : ∃ y, ws = [y] := by
    match ws, hw with
    | [y], _ => exact ⟨y, rfl⟩
  refine ⟨_, (pss_cons (ps_expr (pe_xi xb_value T.n_SessionError (pa_cons (pv 0) (pa_cons pe_str pa_nil)) (by decide +kernel))) (pss_one (ps_xo xb_value (pv 0) (pv 1)))), ?_⟩
  walk_at "rd"
  refine ⟨a, _, _, rfl, by simp, T.k_InvalidValue.T, ha, ?_⟩
  walk_at "rd"
  refine ⟨a, _, rfl, T.k_InvalidValue.T, T.f_InvalidValue_value, .inl ⟨ha, ?_⟩⟩
  exact xd_one q
end
section
variable {P : Program} {w : World} {K : PySem.W.Frag} {mg : Str → Option Value} {base : Heap}
theorem ok_check_value (T : Tx K mg) {n : Nat} (X_InvalidValue : Xk P w K mg base 1 "InvalidValue" (fA mg "InvalidValue") ["value"]) (C_is_value : Cal P w K mg base (n + 4) "is_value" s_is_value P_is_value (sp_isvalue K n)) :
    Cal P w K mg base (n + 5) "check_value" s_check_value P_check_value (sp_checkX K (fA mg "InvalidValue") n) := by
  refine T.d_check_value.ok sc_check_value (fun vs H Q E h => ?_) (fun f cdv A outer s H vs Q E hr h => ?_)
  · obtain ⟨v, d, rfl, _⟩ := h; rfl
  obtain ⟨v, d, rfl, hd, hm, hn, q, qe⟩ := h
  refine ⟨_, (pss_one (ps_if (pt_not (pt_val (pe_g C_is_value (hr.mono (by omega)) px0 (pa_cons (pv 0) pa_nil)))) (pss_one (ps_raise rfl (takes_of rfl rfl rfl rfl) (pmk_x X_InvalidValue hr (by omega) (pa_cons (pv 0) pa_nil)))) pss_nil)), ?_⟩
  walk_at "rd"
  refine ⟨v, d, rfl, hd, hm, hn, fun H1 e1 => ?_⟩
  walk_at "rd"
  refine brBN (fun ho => ?_) fun ho => ?_
  · walk_at "rd"
    refine ⟨rfl, by simp, fun dd H2 nd same hx => ?_⟩
    exact qe ho dd H2 (e1.trans (ex_same nd same)) hx
  · walk_at "rd"
    exact q ho H1 e1
theorem ok_size_of (T : Tx K mg) {n : Nat} (C_check_value : Cal P w K mg base (n + 5) "check_value" s_check_value P_check_value (sp_checkX K (fA mg "InvalidValue") n)) (C_is_fault : Cal P w K mg base 1 "is_fault" s_is_fault P_is_fault (sp_isfault K)) (C_datum_size : Cal P w K mg base (n + 2) "datum_size" s_datum_size P_datum_size (sp_dsize K n)) :
    Cal P w K mg base (n + 6) "size_of" s_size_of P_size_of (sp_onV K (fA mg "InvalidValue") n (fun d => .int (szD d))) := by
  refine T.d_size_of.ok sc_size_of (fun vs H Q E h => ?_) (fun f cdv A outer s H vs Q E hr h => ?_)
  · obtain ⟨v, d, rfl, _⟩ := h; rfl
  obtain ⟨v, d, rfl, hd, hm, hn, q, qe⟩ := h
  refine ⟨_, (pss_cons (ps_expr (pe_g C_check_value (hr.mono (by omega)) (pxE (takes_of rfl rfl rfl rfl) (fun _ _ _ _ h => h)) (pa_cons (pv 0) pa_nil)))
      (pss_one (ps_ret (pe_ifExp (pt_val (pe_g C_is_fault (hr.mono (by omega)) px0 (pa_cons (pv 0) pa_nil))) pe_int (pe_g C_datum_size (hr.mono (by omega)) px0 (pa_cons (pv 0) pa_nil)))))), ?_⟩
  walk_at "rd"
  refine ⟨v, d, rfl, hd, hm, hn, fun ho H1 e1 => ?_, qe⟩
  walk_at "rd"
  refine ⟨v, d, rfl, hd.mono e1, ?_⟩
  walk_at "rd"
  refine brB (fun hf => ?_) fun hf => ?_
  · walk_at "rd"
    have z := q ho H1 e1
    dsimp only at z
    rw [isF_sz hf] at z
    exact z
  · walk_at "rd"
    exact ⟨v, d, rfl, hd.mono e1, (isD_of ⟨hm, hn, ho⟩ hf).1, hm, hn, fun H2 e2 => q ho H2 (e1.trans e2)⟩
theorem ok_format_value (T : Tx K mg) {n : Nat} (C_check_value : Cal P w K mg base (n + 5) "check_value" s_check_value P_check_value (sp_checkX K (fA mg "InvalidValue") n)) (C_is_fault : Cal P w K mg base 1 "is_fault" s_is_fault P_is_fault (sp_isfault K)) (C_datum_text : Cal P w K mg base (n + 2) "datum_text" s_datum_text P_datum_text (sp_dtext K n)) :
    Cal P w K mg base (n + 6) "format_value" s_format_value P_format_value (sp_onV K (fA mg "InvalidValue") n (fun d => .str (S (txD d)))) := by
  refine T.d_format_value.ok sc_format_value (fun vs H Q E h => ?_) (fun f cdv A outer s H vs Q E hr h => ?_)
  · obtain ⟨v, d, rfl, _⟩ := h; rfl
  obtain ⟨v, d, rfl, hd, hm, hn, q, qe⟩ := h
  refine ⟨_, (pss_cons (ps_expr (pe_g C_check_value (hr.mono (by omega)) (pxE (takes_of rfl rfl rfl rfl) (fun _ _ _ _ h => h)) (pa_cons (pv 0) pa_nil)))
      (pss_one (ps_ret (pe_ifExp (pt_val (pe_g C_is_fault (hr.mono (by omega)) px0 (pa_cons (pv 0) pa_nil))) (pe_const T.c_FAULT) (pe_g C_datum_text (hr.mono (by omega)) px0 (pa_cons (pv 0) pa_nil)))))), ?_⟩
  walk_at "rd"
  refine ⟨v, d, rfl, hd, hm, hn, fun ho H1 e1 => ?_, qe⟩
  walk_at "rd"
  refine ⟨v, d, rfl, hd.mono e1, ?_⟩
  walk_at "rd"
  refine brB (fun hf => ?_) fun hf => ?_
  · walk_at "rd"
    have z := q ho H1 e1
    dsimp only at z
    rw [isF_tx hf, ← q_fault] at z
    exact z
  · walk_at "rd"
    exact ⟨v, d, rfl, hd.mono e1, (isD_of ⟨hm, hn, ho⟩ hf).1, hm, (isD_of ⟨hm, hn, ho⟩ hf).2.2, hn, fun H2 e2 => q ho H2 (e1.trans e2)⟩
end

end My
end

section
set_option Elab.async false
set_option linter.all false
set_option maxRecDepth 100000
set_option maxHeartbeats 4000000
namespace My
open PySem PySem.Spec PyProof.Rows L2 Ls SX LamX
local macro_rules | `(tactic| walk_at "rd1") => `(tactic| (first | ((with_reducible refine' Ls.r_var ?hV ?_); (case hV => exact rfl)) | (with_reducible refine Ls.r_c ?_) | (with_reducible refine Ls.r_op ?_) | (with_reducible refine Ls.r_un ?_) | (with_reducible refine Ls.r_nil ?_) | (with_reducible refine Ls.r_cons ?_) | (with_reducible refine Ls.r_cb ?_) | (with_reducible refine Ls.r_ckw ?_) | (with_reducible refine Ls.r_cal ?_) | (with_reducible refine Ls.r_calK ?_) | (with_reducible refine Ls.r_tup ?_) | (with_reducible refine Ls.r_lst ?_) | (with_reducible refine Ls.r_if ?_) | (with_reducible refine Ls.r_andV ?_) | (with_reducible refine Ls.r_orV ?_) | (with_reducible refine Ls.r_notV ?_) | (with_reducible refine Ls.r_chain ?_) | (with_reducible refine Ls.r_sl ?_) | (with_reducible refine Ls.r_nopart ?_) | (with_reducible refine Ls.r_part ?_) | (with_reducible refine Ls.k_part ?_) | (with_reducible refine Ls.r_test ?_) | (with_reducible refine Ls.r_B ?_) | (with_reducible refine Ls.k_B ?_) | (with_reducible refine Ls.r_not ?_) | (with_reducible refine Ls.r_and ?_) | (with_reducible refine Ls.r_or ?_) | (with_reducible refine Ls.r_seq ?_) | (with_reducible refine Ls.r_ifS ?_) | (with_reducible refine Ls.r_next ?_) | (with_reducible refine Ls.r_brk ?_) | (with_reducible refine Ls.r_cont ?_) | (with_reducible refine Ls.r_ret ?_) | (with_reducible refine Ls.r_retN ?_) | (with_reducible refine Ls.r_drop ?_) | (with_reducible refine Ls.r_asg ?_) | (with_reducible refine Ls.r_par ?_) | (with_reducible refine Ls.k_par ?_) | ((with_reducible refine' Ls.r_aug ?hV ?_); (case hV => exact rfl)) | (with_reducible refine Ls.y_ip ?_) | (with_reducible refine Ls.g_name ?_) | (with_reducible refine Ls.g_nil ?_) | (with_reducible refine Ls.g_cons ?_) | (with_reducible refine Ls.g_sub ?_) | (with_reducible refine Ls.e_nx ?_) | (with_reducible refine Ls.e_rt ?_) | (with_reducible refine Ls.e_bk ?_) | (with_reducible refine Ls.e_ct ?_) | (with_reducible refine Ls.r_for ?_) | (with_reducible refine Ls.i_seq ?_) | (with_reducible refine Ls.r_xi ?_) | (with_reducible refine Ls.r_xo ?_) | (with_reducible refine Ls.r_mk ?_) | (with_reducible refine Ls.r_xf ?_) | (with_reducible refine Ls.i_enum ?_) | (with_reducible refine Ls.i_rng1 ?_) | (with_reducible refine Ls.r_m1 ?_) | (with_reducible refine Ls.r_m0 ?_) | (with_reducible refine Ls.k_isS ?_) | (with_reducible refine Ls.r_bm ?_) | (with_reducible refine Ls.r_lc ?_) | (with_reducible refine Ls.y_add ?_) | (with_reducible refine Ls.y_sub ?_) | (with_reducible refine Ls.y_neg ?_) | (with_reducible refine Ls.y_lt ?_) | (with_reducible refine Ls.y_le ?_) | (with_reducible refine Ls.y_gt ?_) | (with_reducible refine Ls.y_ge ?_) | (with_reducible refine Ls.y_eqI ?_) | (with_reducible refine Ls.y_eqS ?_) | (with_reducible refine Ls.y_neI ?_) | (with_reducible refine Ls.y_neS ?_) | (with_reducible refine Ls.y_isNo ?_) | (with_reducible refine Ls.y_isntNo ?_) | (with_reducible refine Ls.y_abs ?_) | (with_reducible refine Ls.y_max2 ?_) | (with_reducible refine Ls.y_min2 ?_) | (with_reducible refine Ls.y_intI ?_) | (with_reducible refine Ls.y_intB ?_) | ((with_reducible refine' Ls.y_ixL ?hS ?hA ?_); (case hS => first | assumption | exact L2.SqL.of (by assumption)); (case hA => rfl)) | ((with_reducible refine' Ls.y_ixT ?hS ?hA ?_); (case hS => first | assumption | exact L2.SqT.of (by assumption)); (case hA => rfl)) | ((with_reducible refine' Ls.y_mod ?hC ?_); (case hC => first | decide | omega)) | ((with_reducible refine' Ls.y_fdiv ?hC ?_); (case hC => first | decide | (constructor <;> omega))) | ((with_reducible refine' Ls.y_pow ?hC ?_); (case hC => exact ⟨by decide, by decide, by decide⟩)) | ((with_reducible refine' Ls.y_mul ?hC ?_); (case hC => first | exact .inr ⟨by decide, by decide⟩ | exact .inl ⟨by decide, by decide⟩ | exact .inr ⟨by omega, by omega⟩ | exact .inl ⟨by omega, by omega⟩)) | (with_reducible refine L2.iteT ?_) | (with_reducible refine L2.iteF ?_) | (with_reducible refine Ls.iteNF ?_) | (with_reducible refine Ls.iteNT ?_)))
local macro_rules | `(tactic| walk_at "rd") => `(tactic| (repeat walk_at "rd1"))

section
variable {P : Program} {w : World} {K : PySem.W.Frag} {mg : Str → Option Value} {base : Heap}
theorem giv_refused (T : Tx K mg) : Giv P w K mg base 1 "_law_refused" s_law_refused "_law_call" N_law_refused (TTref K (fA mg "InvalidValue")) := by
  intro g cdv A outer s H Q f c' q tl hr act hc h
  refine ⟨_, (pss_cons (ps_set (i := 1) sc_law_refused.nd rfl (by first | exact .inl rfl | exact .inr rfl) pe_non)
      (pss_cons (ps_try_as (i := 2) rfl rfl sc_law_refused.nd rfl rfl ⟨rfl, by decide, .inl T.m_SessionError⟩ takes0 (fun W pn xe tk _ => (pss_act fun E p1 p2 => act W pn xe E p1 p2 tk)) (fun a oe cls d pn hz hf => (pss_one (ps_if (pt_val (pe_callB (call_isS hz hf) (by rfl) T.n_isinstance (by decide +kernel) (pa_cons (pv 2) (pa_cons (pe_const (v := .ref (fA mg "InvalidValue")) ⟨_, T.m_InvalidValue, rfl⟩) pa_nil)))) (pss_cons (ps_set (i := 3) sc_law_refused.nd rfl (by first | exact .inl rfl | exact .inr rfl) (pe_callB (call_isS hz hf) (by rfl) T.n_isinstance (by decide +kernel) (pa_cons (pv 2) (pa_cons (pe_tup (pa_cons (pe_const (v := .ref (fA mg "InvalidExpression")) ⟨_, T.m_InvalidExpression, rfl⟩) (pa_cons (pe_const (v := .ref (fA mg "InvalidName")) ⟨_, T.m_InvalidName, rfl⟩) (pa_cons (pe_const (v := .ref (fA mg "InvalidText")) ⟨_, T.m_InvalidText, rfl⟩) pa_nil)))) pa_nil))))
      (pss_cons (ps_set (i := 3) sc_law_refused.nd rfl (by first | exact .inl rfl | exact .inr rfl) (pe_or (pv 3) (pe_one (pe_callB (call_isS hz hf) (by rfl) T.n_isinstance (by decide +kernel) (pa_cons (pv 2) (pa_cons (pe_tup (pa_cons (pe_const (v := .ref (fA mg "LimitError")) ⟨_, T.m_LimitError, rfl⟩) (pa_cons (pe_const (v := .ref (fA mg "MissingError")) ⟨_, T.m_MissingError, rfl⟩) (pa_cons (pe_const (v := .ref (fA mg "StateError")) ⟨_, T.m_StateError, rfl⟩) pa_nil)))) pa_nil))))))
      (pss_one (ps_set (i := 1) sc_law_refused.nd rfl (by first | exact .inl rfl | exact .inr rfl) (pe_lstN (pa_cons (pe_xf T.v_InvalidValue T.g_InvalidValue_value hz hf (pv 2)) (pa_cons (pe_and (pe_callB (call_isS hz hf) (by rfl) T.n_isinstance (by decide +kernel) (pa_cons (pv 2) (pa_cons (pe_bltn (v := .ty "ValueError") (u := .type "ValueError") (by rfl) T.n_ValueError (by decide +kernel) rfl) pa_nil))) (pe_one (pe_not (pv 3)))) pa_nil))))))) pss_nil))))
      (pss_one (ps_ret (pe_callB (call_repr hr) (by rfl) T.n_repr (by decide +kernel) (pa_cons (pv 1) pa_nil)))))), ?_⟩
  walk_at "rd"
  refine ⟨_, fun cls d H' z => z, rfl, hc, h _ _ (fun H' dd v dat hx hv hq fin => ?_) fun v H' fin => ?_⟩
  · refine ⟨true, T.e_InvalidValue_SessionError, fun _ a na => ?_, fun z => nomatch z⟩
    walk_at "rd"
    refine ⟨_, _, dd, _, true, rfl, rfl, rfl, hx, T.x_InvalidValue, .inl ⟨rfl, T.q_InvalidValue_InvalidValue⟩, ?_⟩
    walk_at "rd"
    refine k_tup fun t1 H1 n1 e1 h1 => ?_
    walk_at "rd"
    refine ⟨_, _, dd, _, false, rfl, rfl, rfl, e1 _ _ hx, T.x_InvalidValue, .inr ⟨t1, _, rfl, .of h1, rfl, T.q_InvalidValue_InvalidExpression_InvalidName_InvalidText⟩, ?_⟩
    walk_at "rd"
    refine k_tup fun t2 H2 n2 e2 h2 => ?_
    walk_at "rd"
    refine ⟨_, _, dd, _, false, rfl, rfl, rfl, (e1.trans e2) _ _ hx, T.x_InvalidValue, .inr ⟨t2, _, rfl, .of h2, rfl, T.q_InvalidValue_LimitError_MissingError_StateError⟩, ?_⟩
    walk_at "rd"
    refine ⟨rfl, rfl, dd, _, v, rfl, (e1.trans e2) _ _ hx, rfl, ?_⟩
    walk_at "rd"
    refine ⟨_, _, dd, _, true, rfl, rfl, rfl, (e1.trans e2) _ _ hx, T.x_InvalidValue, .inl ⟨rfl, T.q_InvalidValue_ValueError⟩, ?_⟩
    walk_at "rd"
    refine k_lst fun L H3 n3 m3 e3 h3 => ?_
    walk_at "rd"
    refine y_rep2D h3 m3 (hv.mono (e1.trans (e2.trans e3))) (.bl true) hq (Rp.bool true).rq ?_
    exact fin H3 (e1.trans (e2.trans e3))
  · walk_at "rd"
    refine y_repD .non Rp.none.rq ?_
    exact fin H' (Ex.refl H')
end

end My
end

section
set_option Elab.async false
set_option linter.all false
set_option maxRecDepth 100000
set_option maxHeartbeats 4000000
namespace My
open PySem PySem.Spec PyProof.Rows L2 Ls SX LamX
local macro_rules | `(tactic| walk_at "rd1") => `(tactic| (first | ((with_reducible refine' Ls.r_var ?hV ?_); (case hV => exact rfl)) | (with_reducible refine Ls.r_c ?_) | (with_reducible refine Ls.r_op ?_) | (with_reducible refine Ls.r_un ?_) | (with_reducible refine Ls.r_nil ?_) | (with_reducible refine Ls.r_cons ?_) | (with_reducible refine Ls.r_cb ?_) | (with_reducible refine Ls.r_ckw ?_) | (with_reducible refine Ls.r_cal ?_) | (with_reducible refine Ls.r_calK ?_) | (with_reducible refine Ls.r_tup ?_) | (with_reducible refine Ls.r_lst ?_) | (with_reducible refine Ls.r_if ?_) | (with_reducible refine Ls.r_andV ?_) | (with_reducible refine Ls.r_orV ?_) | (with_reducible refine Ls.r_notV ?_) | (with_reducible refine Ls.r_chain ?_) | (with_reducible refine Ls.r_sl ?_) | (with_reducible refine Ls.r_nopart ?_) | (with_reducible refine Ls.r_part ?_) | (with_reducible refine Ls.k_part ?_) | (with_reducible refine Ls.r_test ?_) | (with_reducible refine Ls.r_B ?_) | (with_reducible refine Ls.k_B ?_) | (with_reducible refine Ls.r_not ?_) | (with_reducible refine Ls.r_and ?_) | (with_reducible refine Ls.r_or ?_) | (with_reducible refine Ls.r_seq ?_) | (with_reducible refine Ls.r_ifS ?_) | (with_reducible refine Ls.r_next ?_) | (with_reducible refine Ls.r_brk ?_) | (with_reducible refine Ls.r_cont ?_) | (with_reducible refine Ls.r_ret ?_) | (with_reducible refine Ls.r_retN ?_) | (with_reducible refine Ls.r_drop ?_) | (with_reducible refine Ls.r_asg ?_) | (with_reducible refine Ls.r_par ?_) | (with_reducible refine Ls.k_par ?_) | ((with_reducible refine' Ls.r_aug ?hV ?_); (case hV => exact rfl)) | (with_reducible refine Ls.y_ip ?_) | (with_reducible refine Ls.g_name ?_) | (with_reducible refine Ls.g_nil ?_) | (with_reducible refine Ls.g_cons ?_) | (with_reducible refine Ls.g_sub ?_) | (with_reducible refine Ls.e_nx ?_) | (with_reducible refine Ls.e_rt ?_) | (with_reducible refine Ls.e_bk ?_) | (with_reducible refine Ls.e_ct ?_) | (with_reducible refine Ls.r_for ?_) | (with_reducible refine Ls.i_seq ?_) | (with_reducible refine Ls.r_xi ?_) | (with_reducible refine Ls.r_xo ?_) | (with_reducible refine Ls.r_mk ?_) | (with_reducible refine Ls.r_xf ?_) | (with_reducible refine Ls.i_enum ?_) | (with_reducible refine Ls.i_rng1 ?_) | (with_reducible refine Ls.r_m1 ?_) | (with_reducible refine Ls.r_m0 ?_) | (with_reducible refine Ls.k_isS ?_) | (with_reducible refine Ls.r_bm ?_) | (with_reducible refine Ls.r_lc ?_) | (with_reducible refine Ls.y_add ?_) | (with_reducible refine Ls.y_sub ?_) | (with_reducible refine Ls.y_neg ?_) | (with_reducible refine Ls.y_lt ?_) | (with_reducible refine Ls.y_le ?_) | (with_reducible refine Ls.y_gt ?_) | (with_reducible refine Ls.y_ge ?_) | (with_reducible refine Ls.y_eqI ?_) | (with_reducible refine Ls.y_eqS ?_) | (with_reducible refine Ls.y_neI ?_) | (with_reducible refine Ls.y_neS ?_) | (with_reducible refine Ls.y_isNo ?_) | (with_reducible refine Ls.y_isntNo ?_) | (with_reducible refine Ls.y_abs ?_) | (with_reducible refine Ls.y_max2 ?_) | (with_reducible refine Ls.y_min2 ?_) | (with_reducible refine Ls.y_intI ?_) | (with_reducible refine Ls.y_intB ?_) | ((with_reducible refine' Ls.y_ixL ?hS ?hA ?_); (case hS => first | assumption | exact L2.SqL.of (by assumption)); (case hA => rfl)) | ((with_reducible refine' Ls.y_ixT ?hS ?hA ?_); (case hS => first | assumption | exact L2.SqT.of (by assumption)); (case hA => rfl)) | ((with_reducible refine' Ls.y_mod ?hC ?_); (case hC => first | decide | omega)) | ((with_reducible refine' Ls.y_fdiv ?hC ?_); (case hC => first | decide | (constructor <;> omega))) | ((with_reducible refine' Ls.y_pow ?hC ?_); (case hC => exact ⟨by decide, by decide, by decide⟩)) | ((with_reducible refine' Ls.y_mul ?hC ?_); (case hC => first | exact .inr ⟨by decide, by decide⟩ | exact .inl ⟨by decide, by decide⟩ | exact .inr ⟨by omega, by omega⟩ | exact .inl ⟨by omega, by omega⟩)) | (with_reducible refine L2.iteT ?_) | (with_reducible refine L2.iteF ?_) | (with_reducible refine Ls.iteNF ?_) | (with_reducible refine Ls.iteNT ?_)))
local macro_rules | `(tactic| walk_at "rd") => `(tactic| (repeat walk_at "rd1"))

section
variable {P : Program} {w : World} {K : PySem.W.Frag} {mg : Str → Option Value} {base : Heap}
theorem ok_pot (T : Tx K mg) : Cal P w K mg base 1 "_law_pot" s_law_pot P_law_pot (sp_pot K) := by
  refine T.d_law_pot.ok sc_law_pot (fun vs H Q E h => ?_) (fun f cdv A outer s H vs Q E hr h => ?_)
  · obtain ⟨p, m, k, rfl, _⟩ := h; rfl
  obtain ⟨sa, ns, k, rfl, hS, hk, q⟩ := h
  refine ⟨_, PSs.nox (pss_cons (ps_set (i := 2) sc_law_pot.nd rfl (by first | exact .inl rfl | exact .inr rfl) (pe_ifExp (pt_cmpR op_ltU (pv 1) (pe_callB call_lenU (by rfl) T.n_len (by decide +kernel) (pa_cons (pv 0) pa_nil)) (nomark _)) (pe_callB call_absU (by rfl) T.n_abs (by decide +kernel) (pa_cons (pe_ix ix_seq (pv 0) (pv 1) (fun _ _ => rfl)) pa_nil)) pe_int))
      (pss_one (ps_ret (pe_lstN (pa_cons (pe_callB (call_maxU rfl) (by rfl) T.n_max (by decide +kernel) (pa_cons pe_int (pa_cons (pe_op op_subU (pv 2) (pe_op op_powU pe_int pe_int)) pa_nil))) (pa_cons (pe_op op_modU (pe_op op_addU (pe_op op_addU (pe_op op_mulU (pe_op op_modU (pv 2) pe_int) pe_int) (pe_op op_mulU pe_int (pv 1))) pe_int) pe_int) pa_nil)))))), ?_⟩
  walk_at "rd"
  refine y_lenL hS ?_
  walk_at "rd"
  rw [List.length_map]
  have fin : ∀ c : Int, 0 ≤ c → 0 ≤ (if c - 10 ^ (18 : Int).toNat > 0 then c - 10 ^ (18 : Int).toNat else 0) := fun c hc => by split <;> omega
  have m0 : ∀ z : Int, 0 ≤ z % 2147483647 := fun z => Int.emod_nonneg _ (by decide)
  have m1 : ∀ z : Int, z % 2147483647 < 2147483648 := fun z => Int.lt_trans (Int.emod_lt_of_pos _ (by decide)) (by decide)
  refine br (fun hlt => ?_) fun hge => ?_
  · have hlt' : k < ns.length := by omega
    walk_at "rd"
    refine y_ixL (v := .int ns[k]) hS (atI_nat (by rw [List.getElem?_map, List.getElem?_eq_getElem hlt']; rfl)) ?_
    walk_at "rd"
    refine k_lst fun p H1 n _ e h1 => ?_
    exact q p H1 n e ⟨_, _, h1, fin _ (by split <;> omega), m0 _, m1 _⟩
  · walk_at "rd"
    refine k_lst fun p H1 n _ e h1 => ?_
    exact q p H1 n e ⟨_, _, h1, fin _ (by decide), m0 _, m1 _⟩
theorem ok_digit (T : Tx K mg) : Cal P w K mg base 1 "_law_digit" s_law_digit P_law_digit sp_digit := by
  refine T.d_law_digit.ok sc_law_digit (fun vs H Q E h => ?_) (fun f cdv A outer s H vs Q E hr h => ?_)
  · obtain ⟨p, m, rfl, _⟩ := h; rfl
  obtain ⟨p, m, rfl, ⟨a, b, hp, a0, b0, b1⟩, m0, m1, q⟩ := h
  refine ⟨_, PSs.nox (pss_cons (ps_if (pt_cmpR op_gtU (pe_ix ix_seq (pv 0) pe_int (fun _ _ => rfl)) pe_int (nomark _)) (pss_cons (ps_asg (pe_callB call_divmodU (by rfl) T.n_divmod (by decide +kernel) (pa_cons (pe_ix ix_seq (pv 0) pe_int (fun _ _ => rfl)) (pa_cons (pv 1) pa_nil))) (pg_tup rfl (pgs_cons (pg_sub (pv 0) pe_int set_list) (pgs_cons (pg_name (i := 2) sc_law_digit.nd rfl (by first | exact .inl rfl | exact .inr rfl)) pgs_nil))))
      (pss_one (ps_ret (pv 2)))) pss_nil)
      (pss_cons (ps_asg (pe_op op_modU (pe_op op_addU (pe_op op_mulU (pe_ix ix_seq (pv 0) pe_int (fun _ _ => rfl)) pe_int) pe_int) pe_int) (pg_sub (pv 0) pe_int set_list))
      (pss_one (ps_ret (pe_op op_modU (pe_op op_fdivU (pe_op op_modU (pe_op op_mulU (pe_ix ix_seq (pv 0) pe_int (fun _ _ => rfl)) (pe_ix ix_seq (pv 0) pe_int (fun _ _ => rfl))) pe_int) pe_int) (pv 1)))))), ?_⟩
  walk_at "rd"
  refine br (fun ha => ?_) fun ha => ?_
  · walk_at "rd"
    refine y_divmod ⟨m0, m1⟩ fun t H1 nt e1 ht => ?_
    refine g_tup (.of ht) rfl ?_
    walk_at "rd"
    refine y_setL (e1 _ _ hp) rfl fun H2 e2 h2 => ?_
    walk_at "rd"
    exact q _ H2 (Int.emod_nonneg _ (by omega)) (Int.emod_lt_of_pos _ m0) ⟨_, _, h2, Int.ediv_nonneg a0 (by omega), b0, b1⟩ ((e1.em p).trans e2)
  · walk_at "rd"
    refine y_setL hp rfl fun H2 e2 h2 => ?_
    have c0 : 0 ≤ (b * 39373 + 12227) % 2147483629 := Int.emod_nonneg _ (by decide)
    have c1 : (b * 39373 + 12227) % 2147483629 < 2147483629 := Int.emod_lt_of_pos _ (by decide)
    walk_at "rd"
    exact q _ H2 (Int.emod_nonneg _ (by omega)) (Int.emod_lt_of_pos _ m0) ⟨_, _, h2, a0, c0, by omega⟩ e2
theorem ok_int (T : Tx K mg) (C_law_digit : Cal P w K mg base 1 "_law_digit" s_law_digit P_law_digit sp_digit) : Cal P w K mg base 2 "_law_int" s_law_int P_law_int sp_int := by
  refine T.d_law_int.ok sc_law_int (fun vs H Q E h => ?_) (fun f cdv A outer s H vs Q E hr h => ?_)
  · obtain ⟨p, rfl, _⟩ := h; rfl
  obtain ⟨p, rfl, hP, q⟩ := h
  refine ⟨_, PSs.nox (pss_cons (ps_set (i := 1) sc_law_int.nd rfl (by first | exact .inl rfl | exact .inr rfl) (pe_g C_law_digit (hr.mono (by omega)) px0 (pa_cons (pv 0) (pa_cons pe_int pa_nil))))
      (pss_cons (ps_if (pt_cmpR op_ltU (pv 1) pe_int (nomark _)) (pss_one (ps_ret (pe_ix ix_seq (pe_lstN (pa_cons pe_int (pa_cons pe_int (pa_cons pe_int (pa_cons (pe_un un_negU pe_int) pa_nil))))) (pv 1) (fun _ _ => rfl)))) pss_nil)
      (pss_cons (ps_set (i := 2) sc_law_int.nd rfl (by first | exact .inl rfl | exact .inr rfl) (pe_lstN (pa_cons (pe_g C_law_digit (hr.mono (by omega)) px0 (pa_cons (pv 0) (pa_cons pe_int pa_nil))) (pa_cons (pe_un un_negU (pe_g C_law_digit (hr.mono (by omega)) px0 (pa_cons (pv 0) (pa_cons pe_int pa_nil)))) (pa_cons (pe_g C_law_digit (hr.mono (by omega)) px0 (pa_cons (pv 0) (pa_cons (pe_op op_powU pe_int pe_int) pa_nil))) (pa_cons (pe_op op_addU (pe_op op_powU pe_int pe_int) (pe_g C_law_digit (hr.mono (by omega)) px0 (pa_cons (pv 0) (pa_cons pe_int pa_nil)))) pa_nil))))))
      (pss_one (ps_ret (pe_ix ix_seq (pv 2) (pe_op op_subU (pv 1) pe_int) (fun _ _ => rfl))))))), ?_⟩
  walk_at "rd"
  refine ⟨p, 8, rfl, hP, by decide, by decide, fun w1 H1 w0 w8 P1 e1 => ?_⟩
  walk_at "rd"
  refine br (fun hw => ?_) fun hw => ?_
  · walk_at "rd"
    refine k_lst fun l H2 n2 _ x2 h2 => ?_
    walk_at "rd"
    have fin : ∀ i : Int, i.natAbs ≤ 10 ^ 21 → Q (.int i) H2 := fun i hi => q i H2 hi (P1.ex x2) (e1.trans (x2.em p))
    rcases (show w1 = 0 ∨ w1 = 1 ∨ w1 = 2 ∨ w1 = 3 by omega) with rfl | rfl | rfl | rfl
    · exact y_ixL (.of h2) rfl (fin _ (by decide))
    · exact y_ixL (.of h2) rfl (fin _ (by decide))
    · exact y_ixL (.of h2) rfl (fin _ (by decide))
    · exact y_ixL (.of h2) rfl (fin _ (by decide))
  · walk_at "rd"
    refine ⟨p, 10, rfl, P1, by decide, by decide, fun a H2 a0 a1 P2 e2 => ?_⟩
    walk_at "rd"
    refine ⟨p, 100, rfl, P2, by decide, by decide, fun b H3 b0 b1 P3 e3 => ?_⟩
    walk_at "rd"
    refine ⟨p, 100000, rfl, P3, by decide, by decide, fun c H4 c0 c1 P4 e4 => ?_⟩
    walk_at "rd"
    refine ⟨p, 1000, rfl, P4, by decide, by decide, fun d H5 d0 d1 P5 e5 => ?_⟩
    walk_at "rd"
    refine k_lst fun l H6 n6 _ x6 h6 => ?_
    walk_at "rd"
    have fin : ∀ i : Int, i.natAbs ≤ 10 ^ 21 → Q (.int i) H6 := fun i hi => q i H6 hi (P5.ex x6) ((e1.trans (e2.trans (e3.trans (e4.trans e5)))).trans (x6.em p))
    have p20 : (10 : Int) ^ (20 : Int).toNat = 100000000000000000000 := by decide
    rcases (show w1 = 4 ∨ w1 = 5 ∨ w1 = 6 ∨ w1 = 7 by omega) with rfl | rfl | rfl | rfl
    · exact y_ixL (.of h6) rfl (fin _ (by omega))
    · exact y_ixL (.of h6) rfl (fin _ (by omega))
    · exact y_ixL (.of h6) rfl (fin _ (by omega))
    · exact y_ixL (.of h6) rfl (fin _ (by rw [p20]; omega))
theorem ok_datum (T : Tx K mg) (C_law_digit : Cal P w K mg base 1 "_law_digit" s_law_digit P_law_digit sp_digit) (C_law_int : Cal P w K mg base 2 "_law_int" s_law_int P_law_int sp_int) : ∀ n, Cal P w K mg base (n + 3) "_law_datum" s_law_datum P_law_datum (sp_ldatum K n)
  | 0 => (T.d_law_datum.never fun vs H Q E h => by obtain ⟨p, m, _, _, z, _⟩ := h; omega).up (by omega)
  | n + 1 => by
    have C_law_datum := ok_datum T C_law_digit C_law_int n
    refine T.d_law_datum.ok sc_law_datum (fun vs H Q E h => ?_) (fun f cdv A outer s H vs Q E hr h => ?_)
    · obtain ⟨p, m, rfl, _⟩ := h; rfl
    obtain ⟨p, m, rfl, hP, hm, q⟩ := h
    refine ⟨_, PSs.nox (pss_cons (ps_if (PW.pt (pw_or (pt_cmpR (op_eqU hr) (pv 1) pe_int (nomark _)) (pw_or1 (pt_cmpR op_gtU (pe_g C_law_digit (hr.mono (by omega)) px0 (pa_cons (pv 0) (pa_cons pe_int pa_nil))) pe_int (nomark _))))) (pss_one (ps_ret (pe_g C_law_int (hr.mono (by omega)) px0 (pa_cons (pv 0) pa_nil)))) pss_nil)
      (pss_one (ps_ret (pe_callTy call_tupleU (by rfl) T.n_tuple (by decide +kernel) (pa_cons (pe_lc (own := [("_law_k", 2)]) rfl sc_law_datum.nd (pi_range1 rfl T.n_range (pa_cons (pe_g C_law_digit (hr.mono (by omega)) px0 (pa_cons (pv 0) (pa_cons pe_int pa_nil))) pa_nil)) (blkOk_by (own := [("_law_k", 2)]) (N := N_law_datum) (sc := defScope s_law_datum) (by decide +kernel)) (fun _ _ _ _ _ => (pg_name (i := 2) sc_law_datum.nd rfl (Or.inl rfl))) (fun _ _ _ _ _ => pts_nil) (fun _ _ _ _ _ => (pe_g C_law_datum (hr.mono (by omega)) px0 (pa_cons (pv 0) (pa_cons (pe_op op_subU (pv 1) pe_int) pa_nil))))) pa_nil))))), ?_⟩
    have leaf : ∀ (i : Int) H', i.natAbs ≤ 10 ^ 21 → Pt H' p → Em p H H' → Q (.int i) H' := fun i H' hi P1 e1 => q (.int i) (.int i) H' (.int i) (by rw [gdD, decide_eq_true_eq]; exact Nat.lt_of_le_of_lt hi (by decide)) (Nat.zero_le _) P1 e1
    walk_at "rd"
    refine br (fun h0 => ?_) fun h0 => ?_
    · walk_at "rd"
      exact ⟨p, rfl, hP, leaf⟩
    · walk_at "rd"
      refine ⟨p, 3, rfl, hP, by decide, by decide, fun w1 H1 w0 w3 P1 e1 => ?_⟩
      walk_at "rd"
      refine br (fun hw => ?_) fun hw => ?_
      · walk_at "rd"
        exact ⟨p, rfl, P1, fun i H' hi P2 e2 => leaf i H' hi P2 (e1.trans e2)⟩
      · walk_at "rd"
        refine ⟨p, 5, rfl, P1, by decide, by decide, fun c H2 c0 c5 P2 e2 => ?_⟩
        walk_at "rd"
        refine i_r1 (by omega) (by omega) ?_
        have hm1 : ((m : Nat) : Int) - 1 = ((m - 1 : Nat) : Int) := by omega
        refine k_lcPot (fun y H' => ∃ d, Fl K H' y d ∧ (gdD d = true ∧ tdp d ≤ m - 1)) (fun y H H' e ⟨d, h1, h2⟩ => ⟨d, h1.mono e, h2⟩) P2 (by omega) (fun j H3 Q1 hj e3 P3 hq => ?_) (fun x => rfl) fun D ys H3 nD e3 P3 hD hl hy => ?_
        · walk_at "rd"
          rw [hm1]
          exact ⟨p, m - 1, rfl, P3, by omega, fun v d H4 hv hg ht P4 e4 => hq v H4 e4 P4 ⟨d, hv, hg, ht⟩⟩
        · walk_at "rd"
          obtain ⟨ds, hF, hG⟩ := fl_all hy
          refine y_tupL (.of hD) fun l H4 nl e4 h4 => ?_
          have hl2 := hF.length
          refine q (.ref l) (.tuple ds) H4 (.tup (.of h4) (hF.mono e4.et)) ?_ ?_ (P3.ex e4) ((e1.trans (e2.trans e3)).trans (e4.em p))
          · rw [gdD, Bool.and_eq_true, decide_eq_true_eq]
            exact ⟨by omega, gdL_of fun d hd => (hG d hd).1⟩
          · rw [tdp]
            have := tdpL_le (m := m - 1) fun d hd => (hG d hd).2
            omega
end

section
variable {P : Program} {w : World} {K : PySem.W.Frag} {mg : Str → Option Value} {base : Heap}
theorem ok_pick (T : Tx K mg) (C_law_digit : Cal P w K mg base 1 "_law_digit" s_law_digit P_law_digit sp_digit) : Cal P w K mg base 2 "_law_pick" s_law_pick P_law_pick (sp_pick K) := by
  refine T.d_law_pick.ok sc_law_pick (fun vs H Q E h => ?_) (fun f cdv A outer s H vs Q E hr h => ?_)
  · obtain ⟨p, l, xs, rfl, _⟩ := h; rfl
  obtain ⟨p, l, xs, rfl, hP, hS, nl, h0, h1, q⟩ := h
  refine ⟨_, PSs.nox (pss_one (ps_ret (pe_ix ix_seq (pv 1) (pe_g C_law_digit (hr.mono (by omega)) px0 (pa_cons (pv 0) (pa_cons (pe_callB call_lenU (by rfl) T.n_len (by decide +kernel) (pa_cons (pv 1) pa_nil)) pa_nil))) (fun _ _ => rfl)))), ?_⟩
  walk_at "rd"
  refine y_lenL hS ?_
  walk_at "rd"
  refine ⟨p, _, rfl, hP, by omega, by omega, fun d H1 d0 d1 P1 e1 => ?_⟩
  obtain ⟨i, rfl⟩ : ∃ i : Nat, d = (i : Nat) := ⟨d.toNat, by omega⟩
  have hd : i < xs.length := by omega
  exact y_ixL (v := xs[i]) (seq_em hS nl e1) (atI_nat (List.getElem?_eq_getElem hd)) (q _ H1 (List.getElem_mem hd) P1 e1)
theorem ok_odd (T : Tx K mg) (C_law_pick : Cal P w K mg base 2 "_law_pick" s_law_pick P_law_pick (sp_pick K)) : Cal P w K mg base 3 "_law_odd" s_law_odd P_law_odd (sp_odraw K 40 3) := by
  refine T.d_law_odd.ok sc_law_odd (fun vs H Q E h => ?_) (fun f cdv A outer s H vs Q E hr h => ?_)
  · obtain ⟨p, rfl, _⟩ := h; rfl
  obtain ⟨p, rfl, hP, q⟩ := h
  refine ⟨_, PSs.nox (pss_cons (ps_set (i := 1) sc_law_odd.nd rfl (by first | exact .inl rfl | exact .inr rfl) (pe_lstN (pa_cons pe_non (pa_cons pe_bl (pa_cons pe_bl (pa_cons pe_str (pa_cons pe_str (pa_cons pe_str (pa_cons pe_str (pa_cons (pe_lstN pa_nil) (pa_cons (pe_lstN (pa_cons pe_int pa_nil)) (pa_cons pe_dnewK (pa_cons (pe_disp (pps_cons pe_int pe_int pps_nil) (by rfl) (by rfl) (by simp) (by decide)) (pa_cons (pe_tup (pa_cons pe_bl pa_nil)) (pa_cons (pe_tup (pa_cons pe_non pa_nil)) (pa_cons (pe_tup (pa_cons pe_str pa_nil)) (pa_cons (pe_tup (pa_cons (pe_lstN pa_nil) pa_nil)) pa_nil)))))))))))))))))
      (pss_cons (ps_set (i := 1) sc_law_odd.nd rfl (by first | exact .inl rfl | exact .inr rfl) (pe_op op_addU (pv 1) (pe_lstN (pa_cons (pe_tup (pa_cons (pe_tup (pa_cons pe_int (pa_cons pe_bl pa_nil))) pa_nil)) (pa_cons (pe_tup (pa_cons pe_int (pa_cons pe_str pa_nil))) (pa_cons (pe_tup (pa_cons (pe_tup pa_nil) (pa_cons (pe_tup (pa_cons pe_dnewK pa_nil)) pa_nil))) (pa_cons pe_str pa_nil)))))))
      (pss_one (ps_ret (pe_g C_law_pick (hr.mono (by omega)) px0 (pa_cons (pv 0) (pa_cons (pv 1) pa_nil))))))), ?_⟩
  walk_at "rd"
  refine k_lst fun A1 H1 n1 m1 e1 h1 => ?_
  walk_at "rd"
  refine k_lst fun A2 H2 n2 m2 e2 h2 => ?_
  walk_at "rd"
  refine r_dn fun A3 H3 n3 e3 h3 => ?_
  walk_at "rd"
  refine r_d1 fun A4 H4 n4 e4 h4 => ?_
  walk_at "rd"
  refine k_tup fun A5 H5 n5 e5 h5 => ?_
  walk_at "rd"
  refine k_tup fun A6 H6 n6 e6 h6 => ?_
  walk_at "rd"
  refine k_tup fun A7 H7 n7 e7 h7 => ?_
  walk_at "rd"
  refine k_lst fun A8 H8 n8 m8 e8 h8 => ?_
  walk_at "rd"
  refine k_tup fun A9 H9 n9 e9 h9 => ?_
  walk_at "rd"
  refine k_lst fun L1 H10 nL1 _ e10 hL1 => ?_
  walk_at "rd"
  refine k_tup fun B1 H11 b1 e11 g1 => ?_
  walk_at "rd"
  refine k_tup fun B2 H12 b2 e12 g2 => ?_
  walk_at "rd"
  refine k_tup fun B3 H13 b3 e13 g3 => ?_
  walk_at "rd"
  refine k_tup fun B4 H14 b4 e14 g4 => ?_
  walk_at "rd"
  refine r_dn fun B5 H15 b5 e15 g5 => ?_
  walk_at "rd"
  refine k_tup fun B6 H16 b6 e16 g6 => ?_
  walk_at "rd"
  refine k_tup fun B7 H17 b7 e17 g7 => ?_
  walk_at "rd"
  refine k_lst fun L2 H18 nL2 _ e18 hL2 => ?_
  walk_at "rd"
  have t18 : Ex H17 H18 := e18
  have t17 := e17.trans t18
  have t16 := e16.trans t17
  have t15 := e15.trans t16
  have t14 := e14.trans t15
  have t13 := e13.trans t14
  have t12 := e12.trans t13
  have t11 := e11.trans t12
  have t10 := e10.trans t11
  have t9 := e9.trans t10
  have t8 := e8.trans t9
  have t7 := e7.trans t8
  have t6 := e6.trans t7
  have t5 := e5.trans t6
  have t4 := e4.trans t5
  have t3 := e3.trans t4
  have t2 := e2.trans t3
  have t1 := e1.trans t2
  refine y_addL (t11 _ _ hL1) hL2 (by show (19 : Nat) ≤ 16777216; decide) fun L H19 nL e19 hL => ?_
  walk_at "rd"
  have P19 : Pt H19 p := hP.ex (t1.trans e19)
  have npL : L ≠ p := fun z => (hP.ex t1).ne nL z.symm
  refine ⟨p, L, _, rfl, P19, .of hL, npL, by show (0 : Nat) < 19; decide, by show (19 : Nat) ≤ 1000; decide, fun v H' hv P' em => ?_⟩
  -- each object stands apart from the pot
  have far : ∀ {Hk : Hp} {a : Addr} {o : HO}, Ex Hk H18 → Hk a = some o → (∀ ps, o ≠ .tbl ps) → ∀ {Hj : Hp}, Hj a = none → Ex H Hj → mo H' p a = some o := fun {Hk a o} tk ho hz {Hj} hn ej =>
    (em.eo) _ _ (mo_of (fun z => (hP.ex ej).ne hn z.symm) ((tk.trans e19) _ _ ho) hz)
  have f2 := e1.trans e2
  have f3 := f2.trans e3
  have f4 := f3.trans e4
  have f5 := f4.trans e5
  have f6 := f5.trans e6
  have f7 := f6.trans e7
  have f8 := f7.trans e8
  have f10 := (f8.trans e9).trans e10
  have f11 := f10.trans e11
  have f12 := f11.trans e12
  have f13 := f12.trans e13
  have f14 := f13.trans e14
  have f15 := f14.trans e15
  have f16 := f15.trans e16
  have a1 := far t2 h1 (fun _ z => nomatch z) n1 (Ex.refl H)
  have a2 := far t3 h2 (fun _ z => nomatch z) n2 e1
  have a3 := far t4 h3 (fun _ z => nomatch z) n3 f2
  have a4 := far t5 h4 (fun _ z => nomatch z) n4 f3
  have a5 := far t6 h5 (fun _ z => nomatch z) n5 f4
  have a6 := far t7 h6 (fun _ z => nomatch z) n6 f5
  have a7 := far t8 h7 (fun _ z => nomatch z) n7 f6
  have a8 := far t9 h8 (fun _ z => nomatch z) n8 f7
  have a9 := far t10 h9 (fun _ z => nomatch z) n9 f8
  have c1 := far t12 g1 (fun _ z => nomatch z) b1 f10
  have c2 := far t13 g2 (fun _ z => nomatch z) b2 f11
  have c3 := far t14 g3 (fun _ z => nomatch z) b3 f12
  have c4 := far t15 g4 (fun _ z => nomatch z) b4 f13
  have c5 := far t16 g5 (fun _ z => nomatch z) b5 f14
  have c6 := far t17 g6 (fun _ z => nomatch z) b6 f15
  have c7 := far t18 g7 (fun _ z => nomatch z) b7 f16
  have fin : ∀ (v : V) (d : PyData), Dt K (mo H' p) v d → Bd 40 3 d → Q v H' := fun v d h1 h2 => q v d H' h1 h2 P' (((t1.trans e19).em p).trans em)
  have d5 : Dt K (mo H' p) (.ref B5) (.dict []) := .dct (kvs := []) (ds := []) (.inl c5) .nil
  simp only [List.cons_append, List.nil_append, List.mem_cons, List.not_mem_nil, or_false] at hv
  rcases hv with rfl | rfl | rfl | rfl | rfl | rfl | rfl | rfl | rfl | rfl | rfl | rfl | rfl | rfl | rfl | rfl | rfl | rfl | rfl
  · exact fin _ .none .non ⟨by decide, by decide +kernel, by decide, by decide⟩
  · exact fin _ (.bool true) (.bl _) ⟨by decide, by decide +kernel, by decide, by decide⟩
  · exact fin _ (.bool false) (.bl _) ⟨by decide, by decide +kernel, by decide, by decide⟩
  · exact fin _ (.str _) (.str _) ⟨by decide, by decide +kernel, by decide, by decide⟩
  · exact fin _ (.str _) (.str _) ⟨by decide, by decide +kernel, by decide, by decide⟩
  · exact fin _ (.str _) (.str _) ⟨by decide, by decide +kernel, by decide, by decide⟩
  · exact fin _ (.str _) (.str _) ⟨by decide, by decide +kernel, by decide, by decide⟩
  · exact fin _ (.list []) (.lst (.of a1) m1 .nil) ⟨by decide, by decide +kernel, by decide, by decide⟩
  · exact fin _ (.list [.int 1]) (.lst (.of a2) m2 (.cons (.int 1) .nil)) ⟨by decide, by decide +kernel, by decide, by decide⟩
  · exact fin _ (.dict []) (.dct (kvs := []) (ds := []) (.inl a3) .nil) ⟨by decide, by decide +kernel, by decide, by decide⟩
  · exact fin _ (.dict [(.int 1, .int 2)]) (.dct (kvs := [(.inl 1, .int 2)]) (ds := [.int 2]) (.inl a4) (.cons (.int 2) .nil)) ⟨by decide, by decide +kernel, by decide, by decide⟩
  · exact fin _ (.tuple [.bool true]) (.tup (.of a5) (.cons (.bl _) .nil)) ⟨by decide, by decide +kernel, by decide, by decide⟩
  · exact fin _ (.tuple [.none]) (.tup (.of a6) (.cons .non .nil)) ⟨by decide, by decide +kernel, by decide, by decide⟩
  · exact fin _ (.tuple [.str _]) (.tup (.of a7) (.cons (.str _) .nil)) ⟨by decide, by decide +kernel, by decide, by decide⟩
  · exact fin _ (.tuple [.list []]) (.tup (.of a9) (.cons (.lst (.of a8) m8 .nil) .nil)) ⟨by decide, by decide +kernel, by decide, by decide⟩
  · exact fin _ (.tuple [.tuple [.int 1, .bool false]]) (.tup (.of c2) (.cons (.tup (.of c1) (.cons (.int 1) (.cons (.bl _) .nil))) .nil)) ⟨by decide, by decide +kernel, by decide, by decide⟩
  · exact fin _ (.tuple [.int 1, .str _]) (.tup (.of c3) (.cons (.int 1) (.cons (.str _) .nil))) ⟨by decide, by decide +kernel, by decide, by decide⟩
  · exact fin _ (.tuple [.tuple [], .tuple [.dict []]]) (.tup (.of c7) (.cons (.tup (.of c4) .nil) (.cons (.tup (.of c6) (.cons d5 .nil)) .nil))) ⟨by decide, by decide +kernel, by decide, by decide⟩
  · exact fin _ (.str _) (.str _) ⟨by decide, by decide +kernel, by decide, by decide⟩
end

end My
end

section
set_option Elab.async false
set_option linter.all false
set_option maxRecDepth 100000
set_option maxHeartbeats 4000000
namespace My
open PySem PySem.Spec PyProof.Rows L2 Ls SX LamX
local macro_rules | `(tactic| walk_at "rd1") => `(tactic| (first | ((with_reducible refine' Ls.r_var ?hV ?_); (case hV => exact rfl)) | (with_reducible refine Ls.r_c ?_) | (with_reducible refine Ls.r_op ?_) | (with_reducible refine Ls.r_un ?_) | (with_reducible refine Ls.r_nil ?_) | (with_reducible refine Ls.r_cons ?_) | (with_reducible refine Ls.r_cb ?_) | (with_reducible refine Ls.r_ckw ?_) | (with_reducible refine Ls.r_cal ?_) | (with_reducible refine Ls.r_calK ?_) | (with_reducible refine Ls.r_tup ?_) | (with_reducible refine Ls.r_lst ?_) | (with_reducible refine Ls.r_if ?_) | (with_reducible refine Ls.r_andV ?_) | (with_reducible refine Ls.r_orV ?_) | (with_reducible refine Ls.r_notV ?_) | (with_reducible refine Ls.r_chain ?_) | (with_reducible refine Ls.r_sl ?_) | (with_reducible refine Ls.r_nopart ?_) | (with_reducible refine Ls.r_part ?_) | (with_reducible refine Ls.k_part ?_) | (with_reducible refine Ls.r_test ?_) | (with_reducible refine Ls.r_B ?_) | (with_reducible refine Ls.k_B ?_) | (with_reducible refine Ls.r_not ?_) | (with_reducible refine Ls.r_and ?_) | (with_reducible refine Ls.r_or ?_) | (with_reducible refine Ls.r_seq ?_) | (with_reducible refine Ls.r_ifS ?_) | (with_reducible refine Ls.r_next ?_) | (with_reducible refine Ls.r_brk ?_) | (with_reducible refine Ls.r_cont ?_) | (with_reducible refine Ls.r_ret ?_) | (with_reducible refine Ls.r_retN ?_) | (with_reducible refine Ls.r_drop ?_) | (with_reducible refine Ls.r_asg ?_) | (with_reducible refine Ls.r_par ?_) | (with_reducible refine Ls.k_par ?_) | ((with_reducible refine' Ls.r_aug ?hV ?_); (case hV => exact rfl)) | (with_reducible refine Ls.y_ip ?_) | (with_reducible refine Ls.g_name ?_) | (with_reducible refine Ls.g_nil ?_) | (with_reducible refine Ls.g_cons ?_) | (with_reducible refine Ls.g_sub ?_) | (with_reducible refine Ls.e_nx ?_) | (with_reducible refine Ls.e_rt ?_) | (with_reducible refine Ls.e_bk ?_) | (with_reducible refine Ls.e_ct ?_) | (with_reducible refine Ls.r_for ?_) | (with_reducible refine Ls.i_seq ?_) | (with_reducible refine Ls.r_xi ?_) | (with_reducible refine Ls.r_xo ?_) | (with_reducible refine Ls.r_mk ?_) | (with_reducible refine Ls.r_xf ?_) | (with_reducible refine Ls.i_enum ?_) | (with_reducible refine Ls.i_rng1 ?_) | (with_reducible refine Ls.r_m1 ?_) | (with_reducible refine Ls.r_m0 ?_) | (with_reducible refine Ls.k_isS ?_) | (with_reducible refine Ls.r_bm ?_) | (with_reducible refine Ls.r_lc ?_) | (with_reducible refine Ls.y_add ?_) | (with_reducible refine Ls.y_sub ?_) | (with_reducible refine Ls.y_neg ?_) | (with_reducible refine Ls.y_lt ?_) | (with_reducible refine Ls.y_le ?_) | (with_reducible refine Ls.y_gt ?_) | (with_reducible refine Ls.y_ge ?_) | (with_reducible refine Ls.y_eqI ?_) | (with_reducible refine Ls.y_eqS ?_) | (with_reducible refine Ls.y_neI ?_) | (with_reducible refine Ls.y_neS ?_) | (with_reducible refine Ls.y_isNo ?_) | (with_reducible refine Ls.y_isntNo ?_) | (with_reducible refine Ls.y_abs ?_) | (with_reducible refine Ls.y_max2 ?_) | (with_reducible refine Ls.y_min2 ?_) | (with_reducible refine Ls.y_intI ?_) | (with_reducible refine Ls.y_intB ?_) | ((with_reducible refine' Ls.y_ixL ?hS ?hA ?_); (case hS => first | assumption | exact L2.SqL.of (by assumption)); (case hA => rfl)) | ((with_reducible refine' Ls.y_ixT ?hS ?hA ?_); (case hS => first | assumption | exact L2.SqT.of (by assumption)); (case hA => rfl)) | ((with_reducible refine' Ls.y_mod ?hC ?_); (case hC => first | decide | omega)) | ((with_reducible refine' Ls.y_fdiv ?hC ?_); (case hC => first | decide | (constructor <;> omega))) | ((with_reducible refine' Ls.y_pow ?hC ?_); (case hC => exact ⟨by decide, by decide, by decide⟩)) | ((with_reducible refine' Ls.y_mul ?hC ?_); (case hC => first | exact .inr ⟨by decide, by decide⟩ | exact .inl ⟨by decide, by decide⟩ | exact .inr ⟨by omega, by omega⟩ | exact .inl ⟨by omega, by omega⟩)) | (with_reducible refine L2.iteT ?_) | (with_reducible refine L2.iteF ?_) | (with_reducible refine Ls.iteNF ?_) | (with_reducible refine Ls.iteNT ?_)))
local macro_rules | `(tactic| walk_at "rd") => `(tactic| (repeat walk_at "rd1"))

section
variable {P : Program} {w : World} {K : PySem.W.Frag} {mg : Str → Option Value} {base : Heap}
theorem ok_datumL (T : Tx K mg) (C_law_digit : Cal P w K mg base 1 "_law_digit" s_law_digit P_law_digit sp_digit) (C_law_int : Cal P w K mg base 2 "_law_int" s_law_int P_law_int sp_int) : ∀ n, Cal P w K mg base (n + 3) "_law_datum" s_law_datum P_law_datum (sp_ldatumL K n)
  | 0 => (T.d_law_datum.never fun vs H Q E h => by obtain ⟨p, m, _, _, z, _⟩ := h; omega).up (by omega)
  | n + 1 => by
    have C_law_datum := ok_datumL T C_law_digit C_law_int n
    refine T.d_law_datum.ok sc_law_datum (fun vs H Q E h => ?_) (fun f cdv A outer s H vs Q E hr h => ?_)
    · obtain ⟨p, m, rfl, _⟩ := h; rfl
    obtain ⟨p, m, rfl, hP, hm, q⟩ := h
    refine ⟨_, PSs.nox (pss_cons (ps_if (PW.pt (pw_or (pt_cmpR (op_eqU hr) (pv 1) pe_int (nomark _)) (pw_or1 (pt_cmpR op_gtU (pe_g C_law_digit (hr.mono (by omega)) px0 (pa_cons (pv 0) (pa_cons pe_int pa_nil))) pe_int (nomark _))))) (pss_one (ps_ret (pe_g C_law_int (hr.mono (by omega)) px0 (pa_cons (pv 0) pa_nil)))) pss_nil)
      (pss_one (ps_ret (pe_callTy call_tupleU (by rfl) T.n_tuple (by decide +kernel) (pa_cons (pe_lc (own := [("_law_k", 2)]) rfl sc_law_datum.nd (pi_range1 rfl T.n_range (pa_cons (pe_g C_law_digit (hr.mono (by omega)) px0 (pa_cons (pv 0) (pa_cons pe_int pa_nil))) pa_nil)) (blkOk_by (own := [("_law_k", 2)]) (N := N_law_datum) (sc := defScope s_law_datum) (by decide +kernel)) (fun _ _ _ _ _ => (pg_name (i := 2) sc_law_datum.nd rfl (Or.inl rfl))) (fun _ _ _ _ _ => pts_nil) (fun _ _ _ _ _ => (pe_g C_law_datum (hr.mono (by omega)) px0 (pa_cons (pv 0) (pa_cons (pe_op op_subU (pv 1) pe_int) pa_nil))))) pa_nil))))), ?_⟩
    have leaf : ∀ (i : Int) H', i.natAbs ≤ 10 ^ 21 → Pt H' p → Em p H H' → Q (.int i) H' := fun i H' hi P1 e1 => q (.int i) (.int i) H' (.int i) (lv_int hi m) P1 e1
    walk_at "rd"
    refine br (fun h0 => ?_) fun h0 => ?_
    · walk_at "rd"
      exact ⟨p, rfl, hP, leaf⟩
    · walk_at "rd"
      refine ⟨p, 3, rfl, hP, by decide, by decide, fun w1 H1 w0 w3 P1 e1 => ?_⟩
      walk_at "rd"
      refine br (fun hw => ?_) fun hw => ?_
      · walk_at "rd"
        exact ⟨p, rfl, P1, fun i H' hi P2 e2 => leaf i H' hi P2 (e1.trans e2)⟩
      · walk_at "rd"
        refine ⟨p, 5, rfl, P1, by decide, by decide, fun c H2 c0 c5 P2 e2 => ?_⟩
        walk_at "rd"
        refine i_r1 (by omega) (by omega) ?_
        obtain ⟨m, rfl⟩ : ∃ k, m = k + 1 := ⟨m - 1, by omega⟩
        have hm1 : ((m + 1 : Nat) : Int) - 1 = ((m : Nat) : Int) := by omega
        refine k_lcPot (fun y H' => ∃ d, Fl K H' y d ∧ lv m d) (fun y H H' e ⟨d, h1, h2⟩ => ⟨d, h1.mono e, h2⟩) P2 (by omega) (fun j H3 Q1 hj e3 P3 hq => ?_) (fun x => rfl) fun D ys H3 nD e3 P3 hD hl hy => ?_
        · walk_at "rd"
          rw [hm1]
          exact ⟨p, m, rfl, P3, by omega, fun v d H4 hv hg P4 e4 => hq v H4 e4 P4 ⟨d, hv, hg⟩⟩
        · walk_at "rd"
          obtain ⟨ds, hF, hG⟩ := fl_all hy
          refine y_tupL (.of hD) fun l H4 nl e4 h4 => ?_
          have hl2 := hF.length
          exact q (.ref l) (.tuple ds) H4 (.tup (.of h4) (hF.mono e4.et)) (.inr ⟨ds, rfl, by omega, hG⟩) (P3.ex e4) ((e1.trans (e2.trans e3)).trans (e4.em p))
theorem ok_bent (T : Tx K mg) (C_law_digit : Cal P w K mg base 1 "_law_digit" s_law_digit P_law_digit sp_digit) (C_law_odd : Cal P w K mg base 3 "_law_odd" s_law_odd P_law_odd (sp_odraw K 40 3)) : ∀ n, Cal P w K mg base (n + 4) "_law_bent" s_law_bent P_law_bent (sp_bent K n)
  | 0 => (T.d_law_bent.never fun vs H Q E h => by obtain ⟨p, v, d, m, _, _, _, _, z, _⟩ := h; omega).up (by omega)
  | n + 1 => by
    have C_law_bent := ok_bent T C_law_digit C_law_odd n
    refine T.d_law_bent.ok sc_law_bent (fun vs H Q E h => ?_) (fun f cdv A outer s H vs Q E hr h => ?_)
    · obtain ⟨p, v, d, m, rfl, _⟩ := h; rfl
    obtain ⟨p, v, d, m, rfl, hP, hv, hlv, hm, hm40, q⟩ := h
    refine ⟨_, PSs.nox (pss_cons (ps_if (PW.pt (pw_or (pt_not (pt_val (pe_callB call_isiU (by rfl) T.n_isinstance (by decide +kernel) (pa_cons (pv 1) (pa_cons (pe_bltn (v := .ty "tuple") (u := .type "tuple") (by rfl) T.n_tuple (by decide +kernel) rfl) pa_nil))))) (pw_or1 (pt_cmpR (op_eqU hr) (pv 1) (pe_tup pa_nil) (nomark _))))) (pss_one (ps_ret (pe_g C_law_odd (hr.mono (by omega)) px0 (pa_cons (pv 0) pa_nil)))) pss_nil)
      (pss_cons (ps_set (i := 2) sc_law_bent.nd rfl (by first | exact .inl rfl | exact .inr rfl) (pe_g C_law_digit (hr.mono (by omega)) px0 (pa_cons (pv 0) (pa_cons (pe_callB call_lenU (by rfl) T.n_len (by decide +kernel) (pa_cons (pv 1) pa_nil)) pa_nil))))
      (pss_one (ps_ret (pe_op op_addU (pe_op op_addU (pe_slice sl_U (pv 1) po_none (po_some (pv 2))) (pe_tup (pa_cons (pe_g C_law_bent (hr.mono (by omega)) px0 (pa_cons (pv 0) (pa_cons (pe_ix ix_seq (pv 1) (pv 2) (fun _ _ => rfl)) pa_nil))) pa_nil))) (pe_slice sl_U (pv 1) (po_some (pe_op op_addU (pv 2) pe_int)) po_none)))))), ?_⟩
    have odd : ∀ H1, Pt H1 p → Em p H H1 → sp_odraw K 40 3 [.ref p] H1 Q E0 := fun H1 P1 e1 => ⟨p, rfl, P1, fun v' d' H' h1 h2 P2 e2 => q v' d' H' h1 (h2.mono (Bm_pos m) (by omega)) P2 (e1.trans e2)⟩
    obtain ⟨hbd, hpl⟩ := lv_bd hlv
    walk_at "rd"
    cases d with
    | int i =>
      refine y_isi hv.dt (b := false) rfl ?_
      walk_at "rd"
      exact odd H hP (Em.refl p H)
    | tuple ds =>
      refine y_isi hv.dt (b := true) rfl ?_
      walk_at "rd"
      refine k_tup fun Z H1 nZ e1 hZ => ?_
      walk_at "rd"
      have htd := tdp_dep (.tuple ds)
      have hdp := hbd.dep
      have hg := in_gd _ hbd.inn hpl
      refine y_eqD (hv.mono e1.et).dp (.tup (.of hZ) .nil) (gd_shaped hg (by omega)) (by decide) ?_
      walk_at "rd"
      cases ds with
      | nil =>
        refine ite_t (b := PyData.eqv (.tuple []) (.tuple [])) rfl ?_
        walk_at "rd"
        exact odd H1 (hP.ex e1) (e1.em p)
      | cons d0 dr =>
        refine ite_f (by rfl) ?_
        walk_at "rd"
        obtain ⟨a, xs, rfl, hS, hA⟩ := hv.tup_inv
        obtain ⟨m, rfl⟩ : ∃ k, m = k + 1 := by
          cases m with
          | zero => rcases hlv with ⟨i, e, _⟩ | e <;> cases e
          | succ m => exact ⟨m, rfl⟩
        have hch : (d0 :: dr).length ≤ 4 ∧ ∀ e ∈ d0 :: dr, lv m e := by
          rcases hlv with ⟨i, e, _⟩ | ⟨ds', e, h1, h2⟩
          · cases e
          · cases e
            exact ⟨h1, h2⟩
        have hl := hA.length
        have hpos : 0 < xs.length := by rw [hl]; exact Nat.succ_pos _
        refine y_lenT (e1.st hS) ?_
        walk_at "rd"
        refine ⟨p, _, rfl, hP.ex e1, by omega, by omega, fun at_ H2 a0 a1 P2 e2 => ?_⟩
        obtain ⟨i, rfl⟩ : ∃ i : Nat, at_ = (i : Nat) := ⟨at_.toNat, by omega⟩
        have hi : i < xs.length := by omega
        walk_at "rd"
        have t2 : Et H H2 := e1.et.trans ((hP.ex e1).et e2)
        refine y_slT (t2.st hS) fun b1 H3 e3 hb1 => ?_
        rw [cutV_to xs (by omega)] at hb1
        walk_at "rd"
        have t3 := t2.trans e3.et
        refine y_ixT (v := xs[i]) (t3.st hS) (atI_nat (List.getElem?_eq_getElem hi)) ?_
        walk_at "rd"
        obtain ⟨di, hdi, hfi⟩ := (hA.mono t3).get (List.getElem?_eq_getElem hi)
        have hmem : di ∈ d0 :: dr := List.mem_of_getElem? hdi
        refine ⟨p, _, di, m, rfl, P2.ex e3, hfi, hch.2 di hmem, by omega, by omega, fun v' d' H4 hv' hb' P4 e4 => ?_⟩
        have t4 : Et H H4 := t3.trans ((P2.ex e3).et e4)
        walk_at "rd"
        refine k_tup fun b2 H5 nb2 e5 hb2 => ?_
        walk_at "rd"
        have hb1' : SqT K H5 b1 (xs.take i) := e5.st (((P2.ex e3).et e4).st hb1)
        refine y_addT hb1' (.of hb2) (by have h2 : sizeLine = 16777216 := rfl; simp only [List.length_take, List.length_singleton]; omega) fun b3 H6 e6 hb3 => ?_
        walk_at "rd"
        have t6 := t4.trans (e5.trans e6).et
        refine y_slT (t6.st hS) fun b4 H7 e7 hb4 => ?_
        rw [show ((i : Nat) : Int) + 1 = ((i + 1 : Nat) : Int) by omega, cutV_from xs (by omega)] at hb4
        refine y_addT (e7.st hb3) hb4 (by have h2 : sizeLine = 16777216 := rfl; simp only [List.length_append, List.length_take, List.length_drop, List.length_singleton]; omega) fun b5 H8 e8 hb5 => ?_
        have P8 : Pt H8 p := ((P4.ex (e5.trans e6)).ex e7).ex e8
        have e48 : Ex H4 H8 := (e5.trans e6).trans (e7.trans e8)
        have hA8 : DtAll K (mo H8 p) xs (d0 :: dr) := ((hA.mono (t4.trans e48.et)).mo P8).dt
        have hv8 : Dt K (mo H8 p) v' d' := hv'.mono (e48.eo p)
        refine q (.ref b5) (.tuple ((d0 :: dr).take i ++ [d'] ++ (d0 :: dr).drop (i + 1))) H8 (.tup (mo_st P8 hb5) (((hA8.take i).append (.cons hv8 .nil)).append (hA8.drop (i + 1)))) ?_ P8 ((((e1.em p).trans e2).trans ((e3.em p).trans e4)).trans (e48.em p))
        refine Bd.tup (b := Bm m) (k := m + 3) (n := 4) (fun e he => ?_) ?_
        · rcases List.mem_append.mp he with he | he
          · rcases List.mem_append.mp he with he | he
            · exact (lv_bd (hch.2 e (List.mem_of_mem_take he))).1.mono (Nat.le_refl _) (by omega)
            · have : e = d' := by simpa using he
              subst this
              exact hb'
          · exact (lv_bd (hch.2 e (List.mem_of_mem_drop he))).1.mono (Nat.le_refl _) (by omega)
        · simp only [List.length_append, List.length_take, List.length_drop, List.length_singleton]
          omega
    | none => simp [plD] at hpl
    | bool b => simp [plD] at hpl
    | str x => simp [plD] at hpl
    | list x => simp [plD] at hpl
    | dict x => simp [plD] at hpl
end

end My
end

section
set_option Elab.async false
set_option linter.all false
set_option maxRecDepth 100000
set_option maxHeartbeats 4000000
namespace My
open PySem PySem.Spec PyProof.Rows L2 Ls SX LamX
local macro_rules | `(tactic| walk_at "rd1") => `(tactic| (first | ((with_reducible refine' Ls.r_var ?hV ?_); (case hV => exact rfl)) | (with_reducible refine Ls.r_c ?_) | (with_reducible refine Ls.r_op ?_) | (with_reducible refine Ls.r_un ?_) | (with_reducible refine Ls.r_nil ?_) | (with_reducible refine Ls.r_cons ?_) | (with_reducible refine Ls.r_cb ?_) | (with_reducible refine Ls.r_ckw ?_) | (with_reducible refine Ls.r_cal ?_) | (with_reducible refine Ls.r_calK ?_) | (with_reducible refine Ls.r_tup ?_) | (with_reducible refine Ls.r_lst ?_) | (with_reducible refine Ls.r_if ?_) | (with_reducible refine Ls.r_andV ?_) | (with_reducible refine Ls.r_orV ?_) | (with_reducible refine Ls.r_notV ?_) | (with_reducible refine Ls.r_chain ?_) | (with_reducible refine Ls.r_sl ?_) | (with_reducible refine Ls.r_nopart ?_) | (with_reducible refine Ls.r_part ?_) | (with_reducible refine Ls.k_part ?_) | (with_reducible refine Ls.r_test ?_) | (with_reducible refine Ls.r_B ?_) | (with_reducible refine Ls.k_B ?_) | (with_reducible refine Ls.r_not ?_) | (with_reducible refine Ls.r_and ?_) | (with_reducible refine Ls.r_or ?_) | (with_reducible refine Ls.r_seq ?_) | (with_reducible refine Ls.r_ifS ?_) | (with_reducible refine Ls.r_next ?_) | (with_reducible refine Ls.r_brk ?_) | (with_reducible refine Ls.r_cont ?_) | (with_reducible refine Ls.r_ret ?_) | (with_reducible refine Ls.r_retN ?_) | (with_reducible refine Ls.r_drop ?_) | (with_reducible refine Ls.r_asg ?_) | (with_reducible refine Ls.r_par ?_) | (with_reducible refine Ls.k_par ?_) | ((with_reducible refine' Ls.r_aug ?hV ?_); (case hV => exact rfl)) | (with_reducible refine Ls.y_ip ?_) | (with_reducible refine Ls.g_name ?_) | (with_reducible refine Ls.g_nil ?_) | (with_reducible refine Ls.g_cons ?_) | (with_reducible refine Ls.g_sub ?_) | (with_reducible refine Ls.e_nx ?_) | (with_reducible refine Ls.e_rt ?_) | (with_reducible refine Ls.e_bk ?_) | (with_reducible refine Ls.e_ct ?_) | (with_reducible refine Ls.r_for ?_) | (with_reducible refine Ls.i_seq ?_) | (with_reducible refine Ls.r_xi ?_) | (with_reducible refine Ls.r_xo ?_) | (with_reducible refine Ls.r_mk ?_) | (with_reducible refine Ls.r_xf ?_) | (with_reducible refine Ls.i_enum ?_) | (with_reducible refine Ls.i_rng1 ?_) | (with_reducible refine Ls.r_m1 ?_) | (with_reducible refine Ls.r_m0 ?_) | (with_reducible refine Ls.k_isS ?_) | (with_reducible refine Ls.r_bm ?_) | (with_reducible refine Ls.r_lc ?_) | (with_reducible refine Ls.y_add ?_) | (with_reducible refine Ls.y_sub ?_) | (with_reducible refine Ls.y_neg ?_) | (with_reducible refine Ls.y_lt ?_) | (with_reducible refine Ls.y_le ?_) | (with_reducible refine Ls.y_gt ?_) | (with_reducible refine Ls.y_ge ?_) | (with_reducible refine Ls.y_eqI ?_) | (with_reducible refine Ls.y_eqS ?_) | (with_reducible refine Ls.y_neI ?_) | (with_reducible refine Ls.y_neS ?_) | (with_reducible refine Ls.y_isNo ?_) | (with_reducible refine Ls.y_isntNo ?_) | (with_reducible refine Ls.y_abs ?_) | (with_reducible refine Ls.y_max2 ?_) | (with_reducible refine Ls.y_min2 ?_) | (with_reducible refine Ls.y_intI ?_) | (with_reducible refine Ls.y_intB ?_) | ((with_reducible refine' Ls.y_ixL ?hS ?hA ?_); (case hS => first | assumption | exact L2.SqL.of (by assumption)); (case hA => rfl)) | ((with_reducible refine' Ls.y_ixT ?hS ?hA ?_); (case hS => first | assumption | exact L2.SqT.of (by assumption)); (case hA => rfl)) | ((with_reducible refine' Ls.y_mod ?hC ?_); (case hC => first | decide | omega)) | ((with_reducible refine' Ls.y_fdiv ?hC ?_); (case hC => first | decide | (constructor <;> omega))) | ((with_reducible refine' Ls.y_pow ?hC ?_); (case hC => exact ⟨by decide, by decide, by decide⟩)) | ((with_reducible refine' Ls.y_mul ?hC ?_); (case hC => first | exact .inr ⟨by decide, by decide⟩ | exact .inl ⟨by decide, by decide⟩ | exact .inr ⟨by omega, by omega⟩ | exact .inl ⟨by omega, by omega⟩)) | (with_reducible refine L2.iteT ?_) | (with_reducible refine L2.iteF ?_) | (with_reducible refine Ls.iteNF ?_) | (with_reducible refine Ls.iteNT ?_)))
local macro_rules | `(tactic| walk_at "rd") => `(tactic| (repeat walk_at "rd1"))

theorem q_one : Str.ofString "1" = S [49] := by decide +kernel
section
variable {P : Program} {w : World} {K : PySem.W.Frag} {mg : Str → Option Value} {base : Heap}
theorem ok_nested (T : Tx K mg) (C_law_pick : Cal P w K mg base 2 "_law_pick" s_law_pick P_law_pick (sp_pick K)) (C_law_int : Cal P w K mg base 2 "_law_int" s_law_int P_law_int sp_int) : Cal P w K mg base 3 "_law_nested" s_law_nested P_law_nested (sp_nest K) := by
  refine T.d_law_nested.ok sc_law_nested (fun vs H Q E h => ?_) (fun f cdv A outer s H vs Q E hr h => ?_)
  · obtain ⟨p, m, rfl, _⟩ := h; rfl
  obtain ⟨p, m, rfl, hP, hm, q⟩ := h
  refine ⟨_, PSs.nox (pss_cons (ps_set (i := 2) sc_law_nested.nd rfl (by first | exact .inl rfl | exact .inr rfl) (pe_g C_law_pick (hr.mono (by omega)) px0 (pa_cons (pv 0) (pa_cons (pe_lstN (pa_cons (pe_g C_law_int (hr.mono (by omega)) px0 (pa_cons (pv 0) pa_nil)) (pa_cons (pe_tup pa_nil) pa_nil))) pa_nil))))
      (pss_cons (ps_for PassesOwn.never rfl (pi_range1 rfl T.n_range (pa_cons (pv 1) pa_nil)) (pg_name (i := 3) sc_law_nested.nd rfl (by first | exact .inl rfl | exact .inr rfl)) (pss_one (ps_set (i := 2) sc_law_nested.nd rfl (by first | exact .inl rfl | exact .inr rfl) (pe_g C_law_pick (hr.mono (by omega)) px0 (pa_cons (pv 0) (pa_cons (pe_lstN (pa_cons (pe_tup (pa_cons (pv 2) pa_nil)) (pa_cons (pe_tup (pa_cons pe_int (pa_cons (pv 2) pa_nil))) (pa_cons (pe_tup (pa_cons (pv 2) (pa_cons (pv 2) pa_nil))) (pa_cons (pe_tup (pa_cons (pe_tup pa_nil) (pa_cons (pv 2) (pa_cons pe_int pa_nil)))) pa_nil))))) pa_nil))))))
      (pss_one (ps_ret (pv 2))))), ?_⟩
  walk_at "rd"
  refine ⟨p, rfl, hP, fun i H1 hi P1 e1 => ?_⟩
  walk_at "rd"
  refine k_tup fun A1 H2 n2 e2 h2 => ?_
  walk_at "rd"
  refine k_lst fun L H3 nL _ e3 hL => ?_
  walk_at "rd"
  have P3 : Pt H3 p := (P1.ex e2).ex e3
  refine ⟨p, L, _, rfl, P3, .of hL, fun z => (P1.ex e2).ne nL z.symm, by simp, by simp, fun v H4 hv P4 e4 => ?_⟩
  have E4 : Em p H H4 := e1.trans (((e2.trans e3).em p).trans e4)
  have f0 : ∃ d, Fl K H4 v d ∧ lv 0 d := by
    simp only [List.mem_cons, List.not_mem_nil, or_false] at hv
    rcases hv with rfl | rfl
    · exact ⟨_, .int i, lv_int hi 0⟩
    · exact ⟨.tuple [], .tup ((P3.et e4).st (e3.st (.of h2))) .nil, lv_nil 0⟩
  walk_at "rd"
  refine i_r1 (by omega) (by omega) ?_
  refine k_forR (fun j σ' H' => ∃ v d o, Fl K H' v d ∧ lv j d ∧ σ' = [some (.ref p), some (.int (m : Nat)), some v, o] ∧ Pt H' p ∧ Em p H H') (let ⟨d, h1, h2⟩ := f0; ⟨v, d, none, h1, h2, rfl, P4, E4⟩) ?_ ?_
  · rintro j σ' H5 hj ⟨v, d, o, hf, hl, rfl, P5, E5⟩
    walk_at "rd"
    refine k_tup fun B1 H6 n1 e6 g1 => ?_
    walk_at "rd"
    refine k_tup fun B2 H7 n2 e7 g2 => ?_
    walk_at "rd"
    refine k_tup fun B3 H8 n3 e8 g3 => ?_
    walk_at "rd"
    refine k_tup fun B0 H9 n0 e9 g0 => ?_
    walk_at "rd"
    refine k_tup fun B4 H10 n4 e10 g4 => ?_
    walk_at "rd"
    refine k_lst fun L2 H11 nL2 _ e11 hL2 => ?_
    walk_at "rd"
    have t9 := e9.trans (e10.trans e11)
    have t8 := e8.trans t9
    have t7 := e7.trans t8
    have t6 := e6.trans t7
    have P11 : Pt H11 p := P5.ex t6
    refine ⟨p, L2, _, rfl, P11, .of hL2, fun z => (P5.ex (e6.trans (e7.trans (e8.trans (e9.trans e10))))).ne nL2 z.symm, by simp, by simp, fun v2 H12 hv2 P12 e12 => ?_⟩
    have k12 : Et H11 H12 := P11.et e12
    have hd : Fl K H12 v d := (hf.mono t6.et).mono k12
    have hz : lv j (.int 0) := lv_int (by decide) j
    have h1 : lv j (.int 1) := lv_int (by decide) j
    have fin : ∃ d2, Fl K H12 v2 d2 ∧ lv (j + 1) d2 := by
      simp only [List.mem_cons, List.not_mem_nil, or_false] at hv2
      rcases hv2 with rfl | rfl | rfl | rfl
      · exact ⟨.tuple [d], .tup (k12.st (t7.st (.of g1))) (.cons hd .nil), .inr ⟨_, rfl, by simp, by simp; exact hl⟩⟩
      · exact ⟨.tuple [.int 0, d], .tup (k12.st (t8.st (.of g2))) (.cons (.int 0) (.cons hd .nil)), .inr ⟨_, rfl, by simp, by simp; exact ⟨hz, hl⟩⟩⟩
      · exact ⟨.tuple [d, d], .tup (k12.st (t9.st (.of g3))) (.cons hd (.cons hd .nil)), .inr ⟨_, rfl, by simp, by simp; exact hl⟩⟩
      · exact ⟨.tuple [.tuple [], d, .int 1], .tup (k12.st (e11.st (.of g4))) (.cons (.tup (k12.st ((e10.trans e11).st (.of g0))) .nil) (.cons hd (.cons (.int 1) .nil))), .inr ⟨_, rfl, by simp, by simp; exact ⟨lv_nil j, hl, h1⟩⟩⟩
    obtain ⟨d2, q1, q2⟩ := fin
    walk_at "rd"
    exact ⟨v2, d2, _, q1, q2, rfl, P12, E5.trans ((t6.em p).trans e12)⟩
  · rintro σ' H5 ⟨v, d, o, hf, hl, rfl, P5, E5⟩
    walk_at "rd"
    rw [Int.toNat_natCast] at hl
    exact q v d H5 hf hl P5 E5
theorem ok_heavy (T : Tx K mg) (C_law_digit : Cal P w K mg base 1 "_law_digit" s_law_digit P_law_digit sp_digit) : Cal P w K mg base 2 "_law_heavy" s_law_heavy P_law_heavy (sp_heav K) := by
  refine T.d_law_heavy.ok sc_law_heavy (fun vs H Q E h => ?_) (fun f cdv A outer s H vs Q E hr h => ?_)
  · obtain ⟨p, m, rfl, _⟩ := h; rfl
  obtain ⟨p, m, rfl, hP, m0, m1, q⟩ := h
  refine ⟨_, PSs.nox (pss_cons (ps_set (i := 2) sc_law_heavy.nd rfl (by first | exact .inl rfl | exact .inr rfl) (pe_op op_addU (pe_op op_mulU (pe_lstN (pa_cons (pe_op op_addU (pe_op op_powU pe_int pe_int) (pe_g C_law_digit (hr.mono (by omega)) px0 (pa_cons (pv 0) (pa_cons pe_int pa_nil)))) pa_nil)) pe_int) (pe_lstN (pa_cons (pe_callTy call_intU (by rfl) T.n_int (by decide +kernel) (pa_cons (pe_op op_addU pe_str (pe_op op_mulU pe_str (pe_op op_subU (pv 1) pe_int))) pa_nil)) pa_nil))))
      (pss_one (ps_ret (pe_ifExp (pt_cmpR (op_eqU hr) (pe_g C_law_digit (hr.mono (by omega)) px0 (pa_cons (pv 0) (pa_cons pe_int pa_nil))) pe_int (nomark _)) (pe_callTy call_tupleU (by rfl) T.n_tuple (by decide +kernel) (pa_cons (pe_revL (pv 2)) pa_nil)) (pe_callTy call_tupleU (by rfl) T.n_tuple (by decide +kernel) (pa_cons (pv 2) pa_nil)))))), ?_⟩
  walk_at "rd"
  refine ⟨p, 9, rfl, hP, by decide, by decide, fun c H1 c0 c9 P1 e1 => ?_⟩
  walk_at "rd"
  refine k_lst fun L1 H2 n1 _ e2 h1 => ?_
  walk_at "rd"
  refine y_mulL h1 (by decide) (by decide) (by simp) fun L2 H3 n2 e3 h2 => ?_
  walk_at "rd"
  obtain ⟨k, hk⟩ : ∃ k : Nat, (m : Int) - 1 = (k : Nat) := ⟨m - 1, by omega⟩
  rw [hk, q_zero]
  refine y_mulS (by omega) ?_
  walk_at "rd"
  rw [q_one]
  refine y_addC (a := [49]) (b := List.replicate k 48) (by rw [List.length_replicate]; have h2 : sizeLine = 16777216 := rfl; simp only [List.length_singleton]; omega) ?_
  walk_at "rd"
  refine y_intC (ten_pow k (by omega)) (by rw [List.length_append, List.length_replicate, List.length_singleton]; omega) ?_
  walk_at "rd"
  refine k_lst fun L3 H4 n3 _ e4 h3 => ?_
  walk_at "rd"
  refine y_addL (e4 _ _ h2) h3 (by rw [FlAll.length (FlAll.rep (K := K) (H := H) (.int _) _), List.length_replicate]; show 16 + 1 ≤ 16777216; decide) fun L4 H5 n4 e5 h4 => ?_
  walk_at "rd"
  have t5 := e2.trans (e3.trans (e4.trans e5))
  refine ⟨p, 2, rfl, P1.ex t5, by decide, by decide, fun c2 H6 c20 c21 P6 e6 => ?_⟩
  have npL : L4 ≠ p := fun z => (P1.ex (e2.trans (e3.trans e4))).ne n4 z.symm
  have h6 := e6 _ _ npL h4
  have E6 : Em p H H6 := e1.trans ((t5.em p).trans e6)
  obtain ⟨ns, hns, hlen, hbd⟩ : ∃ ns : List Int, (List.replicate (16 : Int).toNat [V.int (10 ^ (59 : Int).toNat + c)]).flatten ++ [V.int ((10 : Int) ^ k)] = ns.map V.int ∧ ns.length = 17 ∧ ∀ n ∈ ns, n.natAbs < 10 ^ 62 := by
    refine ⟨List.replicate 16 (10 ^ 59 + c) ++ [(10 : Int) ^ k], ?_, by simp, fun n hn => ?_⟩
    · rw [List.map_append, List.map_replicate]
      rfl
    · rcases List.mem_append.mp hn with hn | hn
      · rw [List.eq_of_mem_replicate hn]
        have : (10 : Int) ^ 59 = 100000000000000000000000000000000000000000000000000000000000 := by decide
        omega
      · have : n = (10 : Int) ^ k := by simpa using hn
        subst this
        rw [Int.natAbs_pow]
        exact Nat.pow_lt_pow_right (by decide) (by omega)
  rw [hns] at h6
  have fin : ∀ (ms : List Int) (l : Addr) H7, ms.length = 17 → (∀ n ∈ ms, n.natAbs < 10 ^ 62) → Ex H6 H7 → H7 l = some (.tup (ms.map V.int)) → Q (.ref l) H7 := fun ms l H7 hl hb e7 h7 => by
    refine q (.ref l) (.tuple (ms.map .int)) H7 (.tup (.of h7) (fl_ints ms)) ?_ ?_ (P6.ex e7) (E6.trans (e7.em p))
    · exact (Bd.tup (b := 64) (k := 0) (n := 17) (fun d hd => by obtain ⟨i, hi, rfl⟩ := List.mem_map.mp hd; exact Bd.int (hb i hi)) (by rw [List.length_map]; omega)).mono (by decide) (by decide)
    · rw [plD, List.length_map, hl, plL_all, Bool.and_eq_true]
      refine ⟨rfl, ?_⟩
      rw [List.all_eq_true]
      intro b hb
      obtain ⟨d, hd, rfl⟩ := List.mem_map.mp hb
      obtain ⟨i, _, rfl⟩ := List.mem_map.mp hd
      rfl
  walk_at "rd"
  refine br (fun hc => ?_) fun hc => ?_
  · walk_at "rd"
    refine r_revL ?_
    walk_at "rd"
    refine k_rev (.of h6) fun L5 H7 n7 e7 h7 => ?_
    walk_at "rd"
    refine y_tupL (.of h7) fun l H8 nl e8 h8 => ?_
    exact fin ns.reverse l H8 (by rw [List.length_reverse]; exact hlen) (fun n hn => hbd n (List.mem_reverse.mp hn)) (e7.trans e8) (by rw [h8, List.map_reverse])
  · walk_at "rd"
    refine y_tupL (.of h6) fun l H8 nl e8 h8 => ?_
    exact fin ns l H8 hlen hbd e8 h8
end

end My
end

section
set_option Elab.async false
set_option linter.all false
set_option maxRecDepth 100000
set_option maxHeartbeats 4000000
namespace My
open PySem PySem.Spec PyProof.Rows L2 Ls SX LamX
local macro_rules | `(tactic| walk_at "rd1") => `(tactic| (first | ((with_reducible refine' Ls.r_var ?hV ?_); (case hV => exact rfl)) | (with_reducible refine Ls.r_c ?_) | (with_reducible refine Ls.r_op ?_) | (with_reducible refine Ls.r_un ?_) | (with_reducible refine Ls.r_nil ?_) | (with_reducible refine Ls.r_cons ?_) | (with_reducible refine Ls.r_cb ?_) | (with_reducible refine Ls.r_ckw ?_) | (with_reducible refine Ls.r_cal ?_) | (with_reducible refine Ls.r_calK ?_) | (with_reducible refine Ls.r_tup ?_) | (with_reducible refine Ls.r_lst ?_) | (with_reducible refine Ls.r_if ?_) | (with_reducible refine Ls.r_andV ?_) | (with_reducible refine Ls.r_orV ?_) | (with_reducible refine Ls.r_notV ?_) | (with_reducible refine Ls.r_chain ?_) | (with_reducible refine Ls.r_sl ?_) | (with_reducible refine Ls.r_nopart ?_) | (with_reducible refine Ls.r_part ?_) | (with_reducible refine Ls.k_part ?_) | (with_reducible refine Ls.r_test ?_) | (with_reducible refine Ls.r_B ?_) | (with_reducible refine Ls.k_B ?_) | (with_reducible refine Ls.r_not ?_) | (with_reducible refine Ls.r_and ?_) | (with_reducible refine Ls.r_or ?_) | (with_reducible refine Ls.r_seq ?_) | (with_reducible refine Ls.r_ifS ?_) | (with_reducible refine Ls.r_next ?_) | (with_reducible refine Ls.r_brk ?_) | (with_reducible refine Ls.r_cont ?_) | (with_reducible refine Ls.r_ret ?_) | (with_reducible refine Ls.r_retN ?_) | (with_reducible refine Ls.r_drop ?_) | (with_reducible refine Ls.r_asg ?_) | (with_reducible refine Ls.r_par ?_) | (with_reducible refine Ls.k_par ?_) | ((with_reducible refine' Ls.r_aug ?hV ?_); (case hV => exact rfl)) | (with_reducible refine Ls.y_ip ?_) | (with_reducible refine Ls.g_name ?_) | (with_reducible refine Ls.g_nil ?_) | (with_reducible refine Ls.g_cons ?_) | (with_reducible refine Ls.g_sub ?_) | (with_reducible refine Ls.e_nx ?_) | (with_reducible refine Ls.e_rt ?_) | (with_reducible refine Ls.e_bk ?_) | (with_reducible refine Ls.e_ct ?_) | (with_reducible refine Ls.r_for ?_) | (with_reducible refine Ls.i_seq ?_) | (with_reducible refine Ls.r_xi ?_) | (with_reducible refine Ls.r_xo ?_) | (with_reducible refine Ls.r_mk ?_) | (with_reducible refine Ls.r_xf ?_) | (with_reducible refine Ls.i_enum ?_) | (with_reducible refine Ls.i_rng1 ?_) | (with_reducible refine Ls.r_m1 ?_) | (with_reducible refine Ls.r_m0 ?_) | (with_reducible refine Ls.k_isS ?_) | (with_reducible refine Ls.r_bm ?_) | (with_reducible refine Ls.r_lc ?_) | (with_reducible refine Ls.y_add ?_) | (with_reducible refine Ls.y_sub ?_) | (with_reducible refine Ls.y_neg ?_) | (with_reducible refine Ls.y_lt ?_) | (with_reducible refine Ls.y_le ?_) | (with_reducible refine Ls.y_gt ?_) | (with_reducible refine Ls.y_ge ?_) | (with_reducible refine Ls.y_eqI ?_) | (with_reducible refine Ls.y_eqS ?_) | (with_reducible refine Ls.y_neI ?_) | (with_reducible refine Ls.y_neS ?_) | (with_reducible refine Ls.y_isNo ?_) | (with_reducible refine Ls.y_isntNo ?_) | (with_reducible refine Ls.y_abs ?_) | (with_reducible refine Ls.y_max2 ?_) | (with_reducible refine Ls.y_min2 ?_) | (with_reducible refine Ls.y_intI ?_) | (with_reducible refine Ls.y_intB ?_) | ((with_reducible refine' Ls.y_ixL ?hS ?hA ?_); (case hS => first | assumption | exact L2.SqL.of (by assumption)); (case hA => rfl)) | ((with_reducible refine' Ls.y_ixT ?hS ?hA ?_); (case hS => first | assumption | exact L2.SqT.of (by assumption)); (case hA => rfl)) | ((with_reducible refine' Ls.y_mod ?hC ?_); (case hC => first | decide | omega)) | ((with_reducible refine' Ls.y_fdiv ?hC ?_); (case hC => first | decide | (constructor <;> omega))) | ((with_reducible refine' Ls.y_pow ?hC ?_); (case hC => exact ⟨by decide, by decide, by decide⟩)) | ((with_reducible refine' Ls.y_mul ?hC ?_); (case hC => first | exact .inr ⟨by decide, by decide⟩ | exact .inl ⟨by decide, by decide⟩ | exact .inr ⟨by omega, by omega⟩ | exact .inl ⟨by omega, by omega⟩)) | (with_reducible refine L2.iteT ?_) | (with_reducible refine L2.iteF ?_) | (with_reducible refine Ls.iteNF ?_) | (with_reducible refine Ls.iteNT ?_)))
local macro_rules | `(tactic| walk_at "rd") => `(tactic| (repeat walk_at "rd1"))

section
variable {P : Program} {w : World} {K : PySem.W.Frag} {mg : Str → Option Value} {base : Heap}
theorem ok_any (T : Tx K mg) (C_law_digit : Cal P w K mg base 1 "_law_digit" s_law_digit P_law_digit sp_digit) (C_law_pick : Cal P w K mg base 2 "_law_pick" s_law_pick P_law_pick (sp_pick K)) (C_law_int : Cal P w K mg base 2 "_law_int" s_law_int P_law_int sp_int)
    (C_law_datum : Cal P w K mg base 8 "_law_datum" s_law_datum P_law_datum (sp_ldatumL K 5)) (C_law_nested : Cal P w K mg base 3 "_law_nested" s_law_nested P_law_nested (sp_nest K)) (C_law_heavy : Cal P w K mg base 2 "_law_heavy" s_law_heavy P_law_heavy (sp_heav K))
    (C_law_odd : Cal P w K mg base 3 "_law_odd" s_law_odd P_law_odd (sp_odraw K 40 3)) (C_law_bent : Cal P w K mg base 9 "_law_bent" s_law_bent P_law_bent (sp_bent K 5)) : Cal P w K mg base 10 "_law_any" s_law_any P_law_any (sp_odraw K 50000 8) := by
  refine T.d_law_any.ok sc_law_any (fun vs H Q E h => ?_) (fun f cdv A outer s H vs Q E hr h => ?_)
  · obtain ⟨p, rfl, _⟩ := h; rfl
  obtain ⟨p, rfl, hP, q⟩ := h
  refine ⟨_, PSs.nox (pss_cons (ps_set (i := 1) sc_law_any.nd rfl (by first | exact .inl rfl | exact .inr rfl) (pe_g C_law_digit (hr.mono (by omega)) px0 (pa_cons (pv 0) (pa_cons pe_int pa_nil))))
      (pss_cons (ps_if (pt_cmpR op_ltU (pv 1) pe_int (nomark _)) (pss_one (ps_ret (pe_g C_law_datum (hr.mono (by omega)) px0 (pa_cons (pv 0) (pa_cons (pe_op op_addU (pv 1) pe_int) pa_nil))))) pss_nil)
      (pss_cons (ps_if (pt_cmpR (op_eqU hr) (pv 1) pe_int (nomark _)) (pss_one (ps_ret (pe_g C_law_nested (hr.mono (by omega)) px0 (pa_cons (pv 0) (pa_cons (pe_g C_law_digit (hr.mono (by omega)) px0 (pa_cons (pv 0) (pa_cons pe_int pa_nil))) pa_nil))))) pss_nil)
      (pss_cons (ps_if (pt_cmpR (op_eqU hr) (pv 1) pe_int (nomark _)) (pss_cons (ps_set (i := 2) sc_law_any.nd rfl (by first | exact .inl rfl | exact .inr rfl) (pe_callTy call_tupleU (by rfl) T.n_tuple (by decide +kernel) (pa_cons (pe_lc (own := [("_law_k", 3)]) rfl sc_law_any.nd (pi_range1 rfl T.n_range (pa_cons (pe_ix ix_seq (pe_lstN (pa_cons pe_int (pa_cons pe_int (pa_cons pe_int (pa_cons pe_int (pa_cons pe_int pa_nil)))))) (pe_g C_law_digit (hr.mono (by omega)) px0 (pa_cons (pv 0) (pa_cons pe_int pa_nil))) (fun _ _ => rfl)) pa_nil)) (blkOk_by (own := [("_law_k", 3)]) (N := N_law_any) (sc := defScope s_law_any) (by decide +kernel)) (fun _ _ _ _ _ => (pg_name (i := 3) sc_law_any.nd rfl (Or.inl rfl))) (fun _ _ _ _ _ => pts_nil) (fun _ _ _ _ _ => (pe_g C_law_int (hr.mono (by omega)) px0 (pa_cons (pv 0) pa_nil)))) pa_nil)))
      (pss_one (ps_ret (pe_g C_law_pick (hr.mono (by omega)) px0 (pa_cons (pv 0) (pa_cons (pe_lstN (pa_cons (pv 2) (pa_cons (pe_tup (pa_cons pe_int (pa_cons (pv 2) pa_nil))) (pa_cons (pe_tup (pa_cons (pe_tup pa_nil) (pa_cons (pv 2) pa_nil))) (pa_cons (pe_tup (pa_cons (pe_tup (pa_cons (pv 2) pa_nil)) (pa_cons pe_int pa_nil))) pa_nil))))) pa_nil)))))) pss_nil)
      (pss_cons (ps_if (pt_cmpR (op_eqU hr) (pv 1) pe_int (nomark _)) (pss_one (ps_ret (pe_g C_law_heavy (hr.mono (by omega)) px0 (pa_cons (pv 0) (pa_cons (pe_op op_addU pe_int (pe_g C_law_digit (hr.mono (by omega)) px0 (pa_cons (pv 0) (pa_cons pe_int pa_nil)))) pa_nil))))) pss_nil)
      (pss_cons (ps_if (pt_cmpR (op_eqU hr) (pv 1) pe_int (nomark _)) (pss_one (ps_ret (pe_tup (pa_cons (pe_g C_law_heavy (hr.mono (by omega)) px0 (pa_cons (pv 0) (pa_cons (pe_op op_addU pe_int (pe_g C_law_digit (hr.mono (by omega)) px0 (pa_cons (pv 0) (pa_cons pe_int pa_nil)))) pa_nil))) pa_nil)))) pss_nil)
      (pss_one (ps_ret (pe_ifExp (pt_cmpR (op_eqU hr) (pv 1) pe_int (nomark _)) (pe_g C_law_odd (hr.mono (by omega)) px0 (pa_cons (pv 0) pa_nil)) (pe_g C_law_bent (hr.mono (by omega)) px0 (pa_cons (pv 0) (pa_cons (pe_g C_law_datum (hr.mono (by omega)) px0 (pa_cons (pv 0) (pa_cons pe_int pa_nil))) pa_nil)))))))))))), ?_⟩
  have B5 : Bm 5 ≤ 50000 := by decide
  have Bmo : ∀ m, m ≤ 5 → Bm m ≤ 50000 := by decide
  have flat : ∀ {H1 : Hp}, Em p H H1 → ∀ v d m H', m ≤ 5 → Fl K H' v d → lv m d → Pt H' p → Em p H1 H' → Q v H' := fun {H1} e1 v d m H' hm hv hl P' e' =>
    q v d H' (hv.mo P').dt ((lv_bd hl).1.mono (Bmo m hm) (by omega)) P' (e1.trans e')
  walk_at "rd"
  refine ⟨p, 9, rfl, hP, by decide, by decide, fun c H1 c0 c9 P1 e1 => ?_⟩
  walk_at "rd"
  refine br (fun hc => ?_) fun hc => ?_
  · walk_at "rd"
    obtain ⟨m, hm⟩ : ∃ m : Nat, c + 1 = (m : Nat) := ⟨(c + 1).toNat, by omega⟩
    rw [hm]
    exact ⟨p, m, rfl, P1, by omega, fun v d H' hv hl P' e' => flat e1 v d m H' (by omega) hv hl P' e'⟩
  walk_at "rd"
  refine br (fun hc => ?_) fun hc => ?_
  · walk_at "rd"
    refine ⟨p, 6, rfl, P1, by decide, by decide, fun a H2 a0 a1 P2 e2 => ?_⟩
    walk_at "rd"
    obtain ⟨m, rfl⟩ : ∃ m : Nat, a = (m : Nat) := ⟨a.toNat, by omega⟩
    exact ⟨p, m, rfl, P2, by omega, fun v d H' hv hl P' e' => flat (e1.trans e2) v d m H' (by omega) hv hl P' e'⟩
  walk_at "rd"
  refine br (fun hc => ?_) fun hc => ?_
  · walk_at "rd"
    refine k_lst fun L0 H2 nL0 _ e2 hL0 => ?_
    walk_at "rd"
    refine ⟨p, 5, rfl, P1.ex e2, by decide, by decide, fun a H3 a0 a1 P3 e3 => ?_⟩
    have np0 : L0 ≠ p := fun z => P1.ne nL0 z.symm
    have hL3 := e3 _ _ np0 hL0
    have E3 : Em p H H3 := e1.trans ((e2.em p).trans e3)
    have body : ∀ n : Nat, n ≤ 41 → ∀ (σ : L2.St) (x0 : σ = [some (.ref p), some (.int c), none, none]), kRng [.int (n : Nat)] (fun J H4 => kLc J (gName 3) tYes (tCal sp_int E0 (tCons (tVar 0) tNil)) [3] σ H4 fun x H5 => tNil σ H5 fun xs H6 => rTupOf K (x :: xs) H6 fun x H7 => tRet (tCal (sp_pick K) E0 (tCons (tVar 0) (tCons (tLstN (tCons (tVar 2) (tCons (tTup (tCons (tC (.int 1)) (tCons (tVar 2) tNil))) (tCons (tTup (tCons (tTup tNil) (tCons (tVar 2) tNil))) (tCons (tTup (tCons (tTup (tCons (tVar 2) tNil)) (tCons (tC (.int 2)) tNil))) tNil))))) tNil)))
        { nx := fun _ H' => Q .non H', rt := Q } (σ.set 2 (some x)) H7) H3 := fun n hn σ x0 => by
      subst x0
      refine i_r1 (by omega) (by omega) ?_
      refine k_lcPot (fun y H' => ∃ d, Fl K H' y d ∧ lv 0 d) (fun y H H' e ⟨d, h1, h2⟩ => ⟨d, h1.mono e, h2⟩) P3 (by omega) (fun j H4 Q1 hj e4 P4 hq => ?_) (fun x => rfl) fun D ys H4 nD e4 P4 hD hl hy => ?_
      · walk_at "rd"
        exact ⟨p, rfl, P4, fun i H5 hi P5 e5 => hq (.int i) H5 e5 P5 ⟨.int i, .int i, lv_int hi 0⟩⟩
      · walk_at "rd"
        obtain ⟨ds, hF, hG⟩ := fl_all hy
        have hl2 := hF.length
        rw [Int.toNat_natCast] at hl
        refine y_tupL (.of hD) fun l H5 nl e5 h5 => ?_
        have hw : Fl K H5 (.ref l) (.tuple ds) := .tup (.of h5) (hF.mono e5.et)
        have bw : Bd (41 * 42 + 3) 2 (.tuple ds) := Bd.tup (n := 41) (fun d hd => (lv_bd (hG d hd)).1) (by omega)
        have E5 : Em p H H5 := E3.trans (e4.trans (e5.em p))
        have P5 := P4.ex e5
        walk_at "rd"
        refine k_tup fun A1 H6 n1 e6 h6 => ?_
        walk_at "rd"
        refine k_tup fun A0 H7 n0 e7 h7 => ?_
        walk_at "rd"
        refine k_tup fun A2 H8 n2 e8 h8 => ?_
        walk_at "rd"
        refine k_tup fun A3 H9 n3 e9 h9 => ?_
        walk_at "rd"
        refine k_tup fun A4 H10 n4 e10 h10 => ?_
        walk_at "rd"
        refine k_lst fun L H11 nL _ e11 hL => ?_
        walk_at "rd"
        have u10 := e10.trans e11
        have u9 := e9.trans u10
        have u8 := e8.trans u9
        have u7 := e7.trans u8
        have u6 := e6.trans u7
        refine ⟨p, L, _, rfl, P5.ex u6, .of hL, fun z => (P5.ex (e6.trans (e7.trans (e8.trans (e9.trans e10))))).ne nL z.symm, by simp, by simp, fun v H12 hv P12 e12 => ?_⟩
        have k12 : Et H11 H12 := (P5.ex u6).et e12
        have w12 : Fl K H12 (.ref l) (.tuple ds) := (hw.mono u6.et).mono k12
        have fin : ∀ v d, Fl K H12 v d → Bd 50000 8 d → Q v H12 := fun v d h1 h2 => q v d H12 (h1.mo P12).dt h2 P12 (E5.trans ((u6.em p).trans e12))
        have b1 : Bd (41 * 42 + 3) 2 (.int 1) := (Bd.i21 (by decide)).mono (by decide) (by decide)
        have b2 : Bd (41 * 42 + 3) 2 (.int 2) := (Bd.i21 (by decide)).mono (by decide) (by decide)
        have b0 : Bd (41 * 42 + 3) 2 (.tuple []) := ⟨by decide, by decide +kernel, by decide, by decide⟩
        have two : ∀ x y, Bd (41 * 42 + 3) 2 x → Bd (41 * 42 + 3) 2 y → Bd 50000 8 (.tuple [x, y]) := fun x y hx hy => (Bd.tup (n := 2) (fun d hd => by
          simp only [List.mem_cons, List.not_mem_nil, or_false] at hd
          rcases hd with rfl | rfl
          · exact hx
          · exact hy) (by simp)).mono (by decide) (by decide)
        simp only [List.mem_cons, List.not_mem_nil, or_false] at hv
        rcases hv with rfl | rfl | rfl | rfl
        · exact fin _ _ w12 (bw.mono (by decide) (by decide))
        · exact fin _ _ (.tup (k12.st (u7.st (.of h6))) (.cons (.int 1) (.cons w12 .nil))) (two _ _ b1 bw)
        · exact fin _ _ (.tup (k12.st (u9.st (.of h8))) (.cons (.tup (k12.st (u8.st (.of h7))) .nil) (.cons w12 .nil))) (two _ _ b0 bw)
        · refine fin _ _ (.tup (k12.st (e11.st (.of h10))) (.cons (.tup (k12.st (u10.st (.of h9))) (.cons w12 .nil)) (.cons (.int 2) .nil))) ?_
          have c1 : Bd 3000 3 (.tuple [.tuple ds]) := (Bd.tup (n := 1) (fun d hd => by
            have : d = .tuple ds := by simpa using hd
            subst this
            exact bw) (by simp)).mono (by decide) (by decide)
          exact (Bd.tup (n := 2) (b := 3000) (k := 3) (fun d hd => by
            simp only [List.mem_cons, List.not_mem_nil, or_false] at hd
            rcases hd with rfl | rfl
            · exact c1
            · exact b2.mono (by decide) (by decide)) (by simp)).mono (by decide) (by decide)
    walk_at "rd"
    rcases (show a = 0 ∨ a = 1 ∨ a = 2 ∨ a = 3 ∨ a = 4 by omega) with rfl | rfl | rfl | rfl | rfl
    · exact y_ixL (.of hL3) rfl (body 0 (by decide) _ rfl)
    · exact y_ixL (.of hL3) rfl (body 1 (by decide) _ rfl)
    · exact y_ixL (.of hL3) rfl (body 39 (by decide) _ rfl)
    · exact y_ixL (.of hL3) rfl (body 40 (by decide) _ rfl)
    · exact y_ixL (.of hL3) rfl (body 41 (by decide) _ rfl)
  walk_at "rd"
  refine br (fun hc => ?_) fun hc => ?_
  · walk_at "rd"
    refine ⟨p, 6, rfl, P1, by decide, by decide, fun a H2 a0 a1 P2 e2 => ?_⟩
    walk_at "rd"
    obtain ⟨m, hm⟩ : ∃ m : Nat, 37 + a = (m : Nat) := ⟨(37 + a).toNat, by omega⟩
    rw [hm]
    exact ⟨p, m, rfl, P2, by omega, by omega, fun v d H' hv hb _ P' e' => q v d H' (hv.mo P').dt (hb.mono (by decide) (by decide)) P' (e1.trans (e2.trans e'))⟩
  walk_at "rd"
  refine br (fun hc => ?_) fun hc => ?_
  · walk_at "rd"
    refine ⟨p, 4, rfl, P1, by decide, by decide, fun a H2 a0 a1 P2 e2 => ?_⟩
    walk_at "rd"
    obtain ⟨m, hm⟩ : ∃ m : Nat, 36 + a = (m : Nat) := ⟨(36 + a).toNat, by omega⟩
    rw [hm]
    refine ⟨p, m, rfl, P2, by omega, by omega, fun v d H' hv hb _ P' e' => ?_⟩
    walk_at "rd"
    refine k_tup fun A H3 nA e3 h3 => ?_
    refine q (.ref A) (.tuple [d]) H3 ((Fl.tup (.of h3) (.cons (hv.mono e3.et) .nil)).mo (P'.ex e3)).dt ?_ (P'.ex e3) (e1.trans (e2.trans (e'.trans (e3.em p))))
    exact (Bd.tup (n := 1) (b := 1200) (k := 1) (fun e he => by
      have : e = d := by simpa using he
      subst this
      exact hb) (by simp)).mono (by decide) (by decide)
  walk_at "rd"
  refine br (fun hc => ?_) fun hc => ?_
  · walk_at "rd"
    exact ⟨p, rfl, P1, fun v d H' hv hb P' e' => q v d H' hv (hb.mono (by decide) (by decide)) P' (e1.trans e')⟩
  · walk_at "rd"
    refine ⟨p, 3, rfl, P1, by decide, fun v d H2 hv hl P2 e2 => ?_⟩
    walk_at "rd"
    exact ⟨p, v, d, 3, rfl, P2, hv, hl, by decide, by decide, fun v' d' H' hv' hb P' e' => q v' d' H' hv' (hb.mono (by decide) (by decide)) P' (e1.trans (e2.trans e'))⟩
theorem ok_lis_int (T : Tx K mg) : Cal P w K mg base 1 "_law_is_int" s_law_is_int P_law_is_int (sp_isint K) := by
  refine T.d_law_is_int.ok sc_law_is_int (fun vs H Q E h => ?_) (fun f cdv A outer s H vs Q E hr h => ?_)
  · obtain ⟨v, d, rfl, _⟩ := h; rfl
  obtain ⟨v, d, rfl, hd, q⟩ := h
  refine ⟨_, PSs.nox (pss_one (ps_ret (pe_and (pe_callB call_isiU (by rfl) T.n_isinstance (by decide +kernel) (pa_cons (pv 0) (pa_cons (pe_bltn (v := .ty "int") (u := .type "int") (by rfl) T.n_int (by decide +kernel) rfl) pa_nil))) (pe_one (pe_not (pe_callB call_isiU (by rfl) T.n_isinstance (by decide +kernel) (pa_cons (pv 0) (pa_cons (pe_bltn (v := .ty "bool") (u := .type "bool") (by rfl) T.n_bool (by decide +kernel) rfl) pa_nil)))))))), ?_⟩
  walk_at "rd"
  cases d with
  | int i =>
    refine y_isi hd (b := true) rfl ?_
    walk_at "rd"
    refine y_isi hd (b := false) rfl ?_
    walk_at "rd"
    exact q
  | bool i =>
    refine y_isi hd (b := true) rfl ?_
    walk_at "rd"
    refine y_isi hd (b := true) rfl ?_
    walk_at "rd"
    exact q
  | none => exact y_isi hd (b := false) rfl (by walk_at "rd"; exact q)
  | str x => exact y_isi hd (b := false) rfl (by walk_at "rd"; exact q)
  | list x => exact y_isi hd (b := false) rfl (by walk_at "rd"; exact q)
  | tuple x => exact y_isi hd (b := false) rfl (by walk_at "rd"; exact q)
  | dict x => exact y_isi hd (b := false) rfl (by walk_at "rd"; exact q)
theorem ok_plain (T : Tx K mg) (C_law_is_int : Cal P w K mg base 1 "_law_is_int" s_law_is_int P_law_is_int (sp_isint K)) : ∀ n, Cal P w K mg base (n + 2) "_law_is_plain" s_law_is_plain P_law_is_plain (sp_plain K n)
  | 0 => (T.d_law_is_plain.never fun vs H Q E h => by obtain ⟨v, d, _, _, z, _⟩ := h; omega).up (by omega)
  | n + 1 => by
    have C_law_is_plain := ok_plain T C_law_is_int n
    refine T.d_law_is_plain.ok sc_law_is_plain (fun vs H Q E h => ?_) (fun f cdv A outer s H vs Q E hr h => ?_)
    · obtain ⟨v, d, rfl, _⟩ := h; rfl
    obtain ⟨v, d, rfl, hd, hn, q⟩ := h
    refine ⟨_, PSs.nox (pss_cons (ps_if (pt_val (pe_callB call_isiU (by rfl) T.n_isinstance (by decide +kernel) (pa_cons (pv 0) (pa_cons (pe_bltn (v := .ty "tuple") (u := .type "tuple") (by rfl) T.n_tuple (by decide +kernel) rfl) pa_nil)))) (pss_one (ps_ret (pe_and (pe_cmpR op_ltU (pe_callB call_lenU (by rfl) T.n_len (by decide +kernel) (pa_cons (pv 0) pa_nil)) pe_int (nomark _)) (pe_one (pe_callB (cr_all rfl) (by rfl) T.n_all (by decide +kernel) (pa_cons (pe_lc (own := [("_law_each", 1)]) rfl sc_law_is_plain.nd (pi_seq (pv 0)) (blkOk_by (own := [("_law_each", 1)]) (N := N_law_is_plain) (sc := defScope s_law_is_plain) (by decide +kernel)) (fun _ _ _ _ _ => (pg_name (i := 1) sc_law_is_plain.nd rfl (Or.inl rfl))) (fun _ _ _ _ _ => pts_nil) (fun _ _ _ _ _ => (pe_g C_law_is_plain (hr.mono (by omega)) px0 (pa_cons (pv 1) pa_nil)))) pa_nil)))))) pss_nil)
      (pss_one (ps_ret (pe_g C_law_is_int (hr.mono (by omega)) px0 (pa_cons (pv 0) pa_nil))))), ?_⟩
    walk_at "rd"
    cases d with
    | tuple ds =>
      refine y_isi hd (b := true) rfl ?_
      walk_at "rd"
      cases hd with | tup hS hA =>
      have hl := hA.length
      refine y_lenT hS ?_
      walk_at "rd"
      refine br (fun hle => ?_) fun hle => ?_
      · walk_at "rd"
        refine i_T hS ?_
        refine k_lcDt (fun d => .bl (plD d)) hS hA (by omega) (fun x d H1 Q1 hm e hx hq => ?_) (fun x => rfl) fun D H2 nD e hD => ?_
        · walk_at "rd"
          exact ⟨x, d, rfl, hx, tdp_tup hn hm, hq⟩
        · walk_at "rd"
          refine y_all (bs := ds.map plD) (.of (by rw [hD, List.map_map]; rfl)) ?_
          rw [← plL_all]
          have z := q H2 e
          rw [plD, decide_eq_true (by omega : ds.length < 41), Bool.true_and] at z
          exact z
      · have z := q H (Ex.refl H)
        rw [plD, decide_eq_false (by omega : ¬ ds.length < 41), Bool.false_and] at z
        exact z
    | int i => exact y_isi hd (b := false) rfl (by walk_at "rd"; exact ⟨v, _, rfl, hd, q H (Ex.refl H)⟩)
    | bool i => exact y_isi hd (b := false) rfl (by walk_at "rd"; exact ⟨v, _, rfl, hd, q H (Ex.refl H)⟩)
    | none => exact y_isi hd (b := false) rfl (by walk_at "rd"; exact ⟨v, _, rfl, hd, q H (Ex.refl H)⟩)
    | str x => exact y_isi hd (b := false) rfl (by walk_at "rd"; exact ⟨v, _, rfl, hd, q H (Ex.refl H)⟩)
    | list x => exact y_isi hd (b := false) rfl (by walk_at "rd"; exact ⟨v, _, rfl, hd, q H (Ex.refl H)⟩)
    | dict x => exact y_isi hd (b := false) rfl (by walk_at "rd"; exact ⟨v, _, rfl, hd, q H (Ex.refl H)⟩)
end

end My
end

section
set_option Elab.async false
set_option linter.all false
set_option maxRecDepth 100000
set_option maxHeartbeats 4000000
namespace My
open PySem PySem.Spec PyProof.Rows L2 Ls SX
local macro_rules | `(tactic| walk_at "rd1") => `(tactic| (first | ((with_reducible refine' Ls.r_var ?hV ?_); (case hV => exact rfl)) | (with_reducible refine Ls.r_c ?_) | (with_reducible refine Ls.r_op ?_) | (with_reducible refine Ls.r_un ?_) | (with_reducible refine Ls.r_nil ?_) | (with_reducible refine Ls.r_cons ?_) | (with_reducible refine Ls.r_cb ?_) | (with_reducible refine Ls.r_ckw ?_) | (with_reducible refine Ls.r_cal ?_) | (with_reducible refine Ls.r_calK ?_) | (with_reducible refine Ls.r_tup ?_) | (with_reducible refine Ls.r_lst ?_) | (with_reducible refine Ls.r_if ?_) | (with_reducible refine Ls.r_andV ?_) | (with_reducible refine Ls.r_orV ?_) | (with_reducible refine Ls.r_notV ?_) | (with_reducible refine Ls.r_chain ?_) | (with_reducible refine Ls.r_sl ?_) | (with_reducible refine Ls.r_nopart ?_) | (with_reducible refine Ls.r_part ?_) | (with_reducible refine Ls.k_part ?_) | (with_reducible refine Ls.r_test ?_) | (with_reducible refine Ls.r_B ?_) | (with_reducible refine Ls.k_B ?_) | (with_reducible refine Ls.r_not ?_) | (with_reducible refine Ls.r_and ?_) | (with_reducible refine Ls.r_or ?_) | (with_reducible refine Ls.r_seq ?_) | (with_reducible refine Ls.r_ifS ?_) | (with_reducible refine Ls.r_next ?_) | (with_reducible refine Ls.r_brk ?_) | (with_reducible refine Ls.r_cont ?_) | (with_reducible refine Ls.r_ret ?_) | (with_reducible refine Ls.r_retN ?_) | (with_reducible refine Ls.r_drop ?_) | (with_reducible refine Ls.r_asg ?_) | (with_reducible refine Ls.r_par ?_) | (with_reducible refine Ls.k_par ?_) | ((with_reducible refine' Ls.r_aug ?hV ?_); (case hV => exact rfl)) | (with_reducible refine Ls.y_ip ?_) | (with_reducible refine Ls.g_name ?_) | (with_reducible refine Ls.g_nil ?_) | (with_reducible refine Ls.g_cons ?_) | (with_reducible refine Ls.g_sub ?_) | (with_reducible refine Ls.e_nx ?_) | (with_reducible refine Ls.e_rt ?_) | (with_reducible refine Ls.e_bk ?_) | (with_reducible refine Ls.e_ct ?_) | (with_reducible refine Ls.r_for ?_) | (with_reducible refine Ls.i_seq ?_) | (with_reducible refine Ls.r_xi ?_) | (with_reducible refine Ls.r_xo ?_) | (with_reducible refine Ls.r_mk ?_) | (with_reducible refine Ls.r_xf ?_) | (with_reducible refine Ls.i_enum ?_) | (with_reducible refine Ls.i_rng1 ?_) | (with_reducible refine Ls.r_m1 ?_) | (with_reducible refine Ls.r_m0 ?_) | (with_reducible refine Ls.k_isS ?_) | (with_reducible refine Ls.r_bm ?_) | (with_reducible refine Ls.r_lc ?_) | (with_reducible refine Ls.y_add ?_) | (with_reducible refine Ls.y_sub ?_) | (with_reducible refine Ls.y_neg ?_) | (with_reducible refine Ls.y_lt ?_) | (with_reducible refine Ls.y_le ?_) | (with_reducible refine Ls.y_gt ?_) | (with_reducible refine Ls.y_ge ?_) | (with_reducible refine Ls.y_eqI ?_) | (with_reducible refine Ls.y_eqS ?_) | (with_reducible refine Ls.y_neI ?_) | (with_reducible refine Ls.y_neS ?_) | (with_reducible refine Ls.y_isNo ?_) | (with_reducible refine Ls.y_isntNo ?_) | (with_reducible refine Ls.y_abs ?_) | (with_reducible refine Ls.y_max2 ?_) | (with_reducible refine Ls.y_min2 ?_) | (with_reducible refine Ls.y_intI ?_) | (with_reducible refine Ls.y_intB ?_) | ((with_reducible refine' Ls.y_ixL ?hS ?hA ?_); (case hS => first | assumption | exact L2.SqL.of (by assumption)); (case hA => rfl)) | ((with_reducible refine' Ls.y_ixT ?hS ?hA ?_); (case hS => first | assumption | exact L2.SqT.of (by assumption)); (case hA => rfl)) | ((with_reducible refine' Ls.y_mod ?hC ?_); (case hC => first | decide | omega)) | ((with_reducible refine' Ls.y_fdiv ?hC ?_); (case hC => first | decide | (constructor <;> omega))) | ((with_reducible refine' Ls.y_pow ?hC ?_); (case hC => exact ⟨by decide, by decide, by decide⟩)) | ((with_reducible refine' Ls.y_mul ?hC ?_); (case hC => first | exact .inr ⟨by decide, by decide⟩ | exact .inl ⟨by decide, by decide⟩ | exact .inr ⟨by omega, by omega⟩ | exact .inl ⟨by omega, by omega⟩)) | (with_reducible refine L2.iteT ?_) | (with_reducible refine L2.iteF ?_) | (with_reducible refine Ls.iteNF ?_) | (with_reducible refine Ls.iteNT ?_)))
local macro_rules | `(tactic| walk_at "rd") => `(tactic| (repeat walk_at "rd1"))

section
variable {P : Program} {w : World} {K : PySem.W.Frag} {mg : Str → Option Value} {base : Heap}
theorem ok_is_int (T : Tx K mg) : Cal P w K mg base 1 "is_int" s_is_int P_is_int (sp_isint K) := by
  refine T.d_is_int.ok sc_is_int (fun vs H Q E h => ?_) (fun f cdv A outer s H vs Q E hr h => ?_)
  · obtain ⟨v, d, rfl, _⟩ := h; rfl
  obtain ⟨v, d, rfl, hd, q⟩ := h
  refine ⟨_, PSs.nox (pss_one (ps_ret (pe_and (pe_callB call_isiU (by rfl) T.n_isinstance (by decide +kernel) (pa_cons (pv 0) (pa_cons (pe_bltn (v := .ty "int") (u := .type "int") (by rfl) T.n_int (by decide +kernel) rfl) pa_nil))) (pe_one (pe_not (pe_callB call_isiU (by rfl) T.n_isinstance (by decide +kernel) (pa_cons (pv 0) (pa_cons (pe_bltn (v := .ty "bool") (u := .type "bool") (by rfl) T.n_bool (by decide +kernel) rfl) pa_nil)))))))), ?_⟩
  walk_at "rd"
  cases d with
  | int i =>
    refine y_isi hd (b := true) rfl ?_
    walk_at "rd"
    refine y_isi hd (b := false) rfl ?_
    walk_at "rd"
    exact q
  | bool i =>
    refine y_isi hd (b := true) rfl ?_
    walk_at "rd"
    refine y_isi hd (b := true) rfl ?_
    walk_at "rd"
    exact q
  | none => exact y_isi hd (b := false) rfl (by walk_at "rd"; exact q)
  | str x => exact y_isi hd (b := false) rfl (by walk_at "rd"; exact q)
  | list x => exact y_isi hd (b := false) rfl (by walk_at "rd"; exact q)
  | tuple x => exact y_isi hd (b := false) rfl (by walk_at "rd"; exact q)
  | dict x => exact y_isi hd (b := false) rfl (by walk_at "rd"; exact q)
theorem ok_is_nested (T : Tx K mg) (C_is_int : Cal P w K mg base 1 "is_int" s_is_int P_is_int (sp_isint K)) : ∀ n, Cal P w K mg base (n + 2) "is_nested" s_is_nested P_is_nested (sp_nested K n)
  | 0 => (T.d_is_nested.never fun vs H Q E h => by obtain ⟨v, d, _, _, z, _⟩ := h; omega).up (by omega)
  | n + 1 => by
    have C_is_nested := ok_is_nested T C_is_int n
    refine T.d_is_nested.ok sc_is_nested (fun vs H Q E h => ?_) (fun f cdv A outer s H vs Q E hr h => ?_)
    · obtain ⟨v, d, rfl, _⟩ := h; rfl
    obtain ⟨v, d, rfl, hd, hn, q⟩ := h
    refine ⟨_, PSs.nox (pss_cons (ps_if (pt_val (pe_g C_is_int (hr.mono (by omega)) px0 (pa_cons (pv 0) pa_nil))) (pss_one (ps_ret pe_bl)) pss_nil)
      (pss_one (ps_ret (pe_and (pe_callB call_isiU (by rfl) T.n_isinstance (by decide +kernel) (pa_cons (pv 0) (pa_cons (pe_bltn (v := .ty "tuple") (u := .type "tuple") (by rfl) T.n_tuple (by decide +kernel) rfl) pa_nil))) (pe_and (pe_cmpR op_leU (pe_callB call_lenU (by rfl) T.n_len (by decide +kernel) (pa_cons (pv 0) pa_nil)) (pe_const T.c_MOST_ITEMS) (nomark _)) (pe_one (pe_callB (cr_all rfl) (by rfl) T.n_all (by decide +kernel) (pa_cons (pe_lc (own := [("item", 1)]) rfl sc_is_nested.nd (pi_seq (pv 0)) (blkOk_by (own := [("item", 1)]) (N := N_is_nested) (sc := defScope s_is_nested) (by decide +kernel)) (fun _ _ _ _ _ => (pg_name (i := 1) sc_is_nested.nd rfl (Or.inl rfl))) (fun _ _ _ _ _ => pts_nil) (fun _ _ _ _ _ => (pe_g C_is_nested (hr.mono (by omega)) px0 (pa_cons (pv 1) pa_nil)))) pa_nil)))))))), ?_⟩
    walk_at "rd"
    refine ⟨v, d, rfl, hd, ?_⟩
    cases d with
    | int i =>
      walk_at "rd"
      exact q H (Ex.refl H)
    | tuple ds =>
      walk_at "rd"
      refine y_isi hd (b := true) rfl ?_
      walk_at "rd"
      cases hd with | tup hS hA =>
      refine y_lenT hS ?_
      walk_at "rd"
      have hl := hA.length
      refine br (fun hle => ?_) fun hle => ?_
      · walk_at "rd"
        refine i_T hS ?_
        refine k_lcDt (fun d => .bl (nsD d)) hS hA (by omega) (fun x d H1 Q1 hm e hx hq => ?_) (fun x => rfl) fun D H2 nD e hD => ?_
        · walk_at "rd"
          exact ⟨x, d, rfl, hx, tdp_tup hn hm, hq⟩
        · walk_at "rd"
          refine y_all (bs := ds.map nsD) (.of (by rw [hD, List.map_map]; rfl)) ?_
          rw [← nsL_all]
          have z := q H2 e
          rw [nsD, decide_eq_true (by omega : ds.length ≤ 40), Bool.true_and] at z
          exact z
      · have z := q H (Ex.refl H)
        rw [nsD, decide_eq_false (by omega : ¬ ds.length ≤ 40), Bool.false_and] at z
        exact z
    | none => walk_at "rd"; exact y_isi hd (b := false) rfl (by walk_at "rd"; exact q H (Ex.refl H))
    | bool b => walk_at "rd"; exact y_isi hd (b := false) rfl (by walk_at "rd"; exact q H (Ex.refl H))
    | str x => walk_at "rd"; exact y_isi hd (b := false) rfl (by walk_at "rd"; exact q H (Ex.refl H))
    | list x => walk_at "rd"; exact y_isi hd (b := false) rfl (by walk_at "rd"; exact q H (Ex.refl H))
    | dict x => walk_at "rd"; exact y_isi hd (b := false) rfl (by walk_at "rd"; exact q H (Ex.refl H))
theorem ok_depth_of (T : Tx K mg) (C_is_int : Cal P w K mg base 1 "is_int" s_is_int P_is_int (sp_isint K)) : ∀ n, Cal P w K mg base (n + 2) "depth_of" s_depth_of P_depth_of (sp_depth K n)
  | 0 => (T.d_depth_of.never fun vs H Q E h => by obtain ⟨v, d, _, _, _, z, _⟩ := h; omega).up (by omega)
  | n + 1 => by
    have C_depth_of := ok_depth_of T C_is_int n
    refine T.d_depth_of.ok sc_depth_of (fun vs H Q E h => ?_) (fun f cdv A outer s H vs Q E hr h => ?_)
    · obtain ⟨v, d, rfl, _⟩ := h; rfl
    obtain ⟨v, d, rfl, hd, hs, hn, q⟩ := h
    refine ⟨_, PSs.nox (pss_one (ps_ret (pe_ifExp (pt_val (pe_g C_is_int (hr.mono (by omega)) px0 (pa_cons (pv 0) pa_nil))) pe_int (pe_op op_addU pe_int (pe_callBK (call_maxD rfl hr) (by rfl) T.n_max (by decide +kernel) (pa_cons (pe_lc (own := [("item", 1)]) rfl sc_depth_of.nd (pi_seq (pv 0)) (blkOk_by (own := [("item", 1)]) (N := N_depth_of) (sc := defScope s_depth_of) (by decide +kernel)) (fun _ _ _ _ _ => (pg_name (i := 1) sc_depth_of.nd rfl (Or.inl rfl))) (fun _ _ _ _ _ => pts_nil) (fun _ _ _ _ _ => (pe_g C_depth_of (hr.mono (by omega)) px0 (pa_cons (pv 1) pa_nil)))) pa_nil) (pk_cons pe_int pk_nil)))))), ?_⟩
    walk_at "rd"
    refine ⟨v, d, rfl, hd, ?_⟩
    cases d with
    | int i =>
      walk_at "rd"
      exact q H (Ex.refl H)
    | tuple ds =>
      walk_at "rd"
      cases hd with | tup hS hA =>
      rw [nsD, Bool.and_eq_true, decide_eq_true_eq] at hs
      have hl := hA.length
      refine i_T hS ?_
      refine k_lcDt (fun d => .int (tdp d : Nat)) hS hA (by omega) (fun x d H1 Q1 hm e hx hq => ?_) (fun x => rfl) fun D H2 nD e hD => ?_
      · walk_at "rd"
        exact ⟨x, d, rfl, hx, nsL_mem hs.2 hm, tdp_tup hn hm, hq⟩
      · walk_at "rd"
        refine y_maxD (ns := ds.map fun d => (tdp d : Int)) (.of (by rw [hD, List.map_map]; rfl)) fun m m0 m1 => ?_
        walk_at "rd"
        have z := q H2 e
        rw [tdpL_max m0 m1]
        rw [tdp] at z
        have e2 : ((1 + tdpL ds : Nat) : Int) = 1 + (tdpL ds : Int) := by omega
        rw [e2] at z
        exact z
    | none => simp [nsD] at hs
    | bool b => simp [nsD] at hs
    | str x => simp [nsD] at hs
    | list x => simp [nsD] at hs
    | dict x => simp [nsD] at hs
theorem ok_datum_size (T : Tx K mg) (C_is_int : Cal P w K mg base 1 "is_int" s_is_int P_is_int (sp_isint K)) : ∀ n, Cal P w K mg base (n + 2) "datum_size" s_datum_size P_datum_size (sp_dsize K n)
  | 0 => (T.d_datum_size.never fun vs H Q E h => by obtain ⟨v, d, _, _, _, _, z, _⟩ := h; omega).up (by omega)
  | n + 1 => by
    have C_datum_size := ok_datum_size T C_is_int n
    refine T.d_datum_size.ok sc_datum_size (fun vs H Q E h => ?_) (fun f cdv A outer s H vs Q E hr h => ?_)
    · obtain ⟨v, d, rfl, _⟩ := h; rfl
    obtain ⟨v, d, rfl, hd, hs, hm, hn, q⟩ := h
    refine ⟨_, PSs.nox (pss_cons (ps_if (pt_val (pe_g C_is_int (hr.mono (by omega)) px0 (pa_cons (pv 0) pa_nil))) (pss_one (ps_ret (pe_op op_addU (pe_callB call_lenU (by rfl) T.n_len (by decide +kernel) (pa_cons (pe_callTy call_strU (by rfl) T.n_str (by decide +kernel) (pa_cons (pe_callB call_absU (by rfl) T.n_abs (by decide +kernel) (pa_cons (pv 0) pa_nil)) pa_nil)) pa_nil)) (pe_callTy call_intU (by rfl) T.n_int (by decide +kernel) (pa_cons (pe_cmpR op_ltU (pv 0) pe_int (nomark _)) pa_nil))))) pss_nil)
      (pss_one (ps_ret (pe_op op_addU pe_int (pe_callB (cr_sum rfl) (by rfl) T.n_sum (by decide +kernel) (pa_cons (pe_lc (own := [("item", 1)]) rfl sc_datum_size.nd (pi_seq (pv 0)) (blkOk_by (own := [("item", 1)]) (N := N_datum_size) (sc := defScope s_datum_size) (by decide +kernel)) (fun _ _ _ _ _ => (pg_name (i := 1) sc_datum_size.nd rfl (Or.inl rfl))) (fun _ _ _ _ _ => pts_nil) (fun _ _ _ _ _ => (pe_g C_datum_size (hr.mono (by omega)) px0 (pa_cons (pv 1) pa_nil)))) pa_nil)))))), ?_⟩
    walk_at "rd"
    refine ⟨v, d, rfl, hd, ?_⟩
    cases d with
    | int i =>
      walk_at "rd"
      cases hd
      walk_at "rd"
      have hm' : i.natAbs.log2 < 1920 := by rw [smD, decide_eq_true_eq] at hm; exact hm
      refine y_str (by rw [abs_if]; exact hm') ?_
      walk_at "rd"
      refine y_lenS ?_ ?_
      · rw [abs_if, num_S, S_len]
        have := int_digits hm'
        exact Nat.le_trans this (by decide)
      walk_at "rd"
      exact q H (Ex.refl H)
    | tuple ds =>
      walk_at "rd"
      cases hd with | tup hS hA =>
      rw [nsD, Bool.and_eq_true, decide_eq_true_eq] at hs
      rw [smD] at hm
      have hl := hA.length
      refine i_T hS ?_
      refine k_lcDt (fun d => .int (szD d)) hS hA (by omega) (fun x d H1 Q1 hmm e hx hq => ?_) (fun x => rfl) fun D H2 nD e hD => ?_
      · walk_at "rd"
        exact ⟨x, d, rfl, hx, nsL_mem hs.2 hmm, smL_mem hm hmm, tdp_tup hn hmm, hq⟩
      · walk_at "rd"
        refine y_sum (ns := ds.map szD) (.of (by rw [hD, List.map_map]; rfl)) ?_
        walk_at "rd"
        have z := q H2 e
        rw [szD, szL_sum] at z
        exact z
    | none => simp [nsD] at hs
    | bool b => simp [nsD] at hs
    | str x => simp [nsD] at hs
    | list x => simp [nsD] at hs
    | dict x => simp [nsD] at hs
theorem ok_is_datum (T : Tx K mg) {n : Nat} (C_is_nested : Cal P w K mg base (n + 2) "is_nested" s_is_nested P_is_nested (sp_nested K n)) (C_depth_of : Cal P w K mg base (n + 2) "depth_of" s_depth_of P_depth_of (sp_depth K n)) (C_datum_size : Cal P w K mg base (n + 2) "datum_size" s_datum_size P_datum_size (sp_dsize K n)) :
    Cal P w K mg base (n + 3) "is_datum" s_is_datum P_is_datum (sp_isdatum K n) := by
  refine T.d_is_datum.ok sc_is_datum (fun vs H Q E h => ?_) (fun f cdv A outer s H vs Q E hr h => ?_)
  · obtain ⟨v, d, rfl, _⟩ := h; rfl
  obtain ⟨v, d, rfl, hd, hm, hn, q⟩ := h
  refine ⟨_, PSs.nox (pss_one (ps_ret (pe_and (pe_g C_is_nested (hr.mono (by omega)) px0 (pa_cons (pv 0) pa_nil)) (pe_and (pe_cmpR op_leU (pe_g C_depth_of (hr.mono (by omega)) px0 (pa_cons (pv 0) pa_nil)) (pe_const T.c_MOST_DEPTH) (nomark _)) (pe_one (pe_cmpR op_leU (pe_g C_datum_size (hr.mono (by omega)) px0 (pa_cons (pv 0) pa_nil)) (pe_const T.c_MOST_SIZE) (nomark _))))))), ?_⟩
  walk_at "rd"
  refine ⟨v, d, rfl, hd, hn, fun H1 e1 => ?_⟩
  walk_at "rd"
  unfold isD at q
  refine brB (fun h1 => ?_) fun h1 => ?_
  · walk_at "rd"
    refine ⟨v, d, rfl, hd.mono e1, h1, hn, fun H2 e2 => ?_⟩
    walk_at "rd"
    refine br (fun h2 => ?_) fun h2 => ?_
    · walk_at "rd"
      refine ⟨v, d, rfl, hd.mono (e1.trans e2), h1, hm, hn, fun H3 e3 => ?_⟩
      walk_at "rd"
      have z := q H3 (e1.trans (e2.trans e3))
      rw [h1, decide_eq_true h2, Bool.true_and, Bool.true_and] at z
      exact z
    · have z := q H2 (e1.trans e2)
      rw [h1, decide_eq_false h2, Bool.false_and, Bool.and_false] at z
      exact z
  · have z := q H1 e1
    rw [h1, Bool.false_and] at z
    exact z
theorem ok_is_fault (T : Tx K mg) : Cal P w K mg base 1 "is_fault" s_is_fault P_is_fault (sp_isfault K) := by
  refine T.d_is_fault.ok sc_is_fault (fun vs H Q E h => ?_) (fun f cdv A outer s H vs Q E hr h => ?_)
  · obtain ⟨v, d, rfl, _⟩ := h; rfl
  obtain ⟨v, d, rfl, hd, q⟩ := h
  refine ⟨_, PSs.nox (pss_one (ps_ret (pe_and (pe_callB call_isiU (by rfl) T.n_isinstance (by decide +kernel) (pa_cons (pv 0) (pa_cons (pe_bltn (v := .ty "str") (u := .type "str") (by rfl) T.n_str (by decide +kernel) rfl) pa_nil))) (pe_one (pe_cmpR (op_eqU hr) (pv 0) (pe_const T.c_FAULT) (nomark _)))))), ?_⟩
  walk_at "rd"
  cases d with
  | str x =>
    refine y_isi hd (b := true) rfl ?_
    walk_at "rd"
    cases hd
    walk_at "rd"
    exact q
  | int i => exact y_isi hd (b := false) rfl (by walk_at "rd"; exact q)
  | bool i => exact y_isi hd (b := false) rfl (by walk_at "rd"; exact q)
  | none => exact y_isi hd (b := false) rfl (by walk_at "rd"; exact q)
  | list x => exact y_isi hd (b := false) rfl (by walk_at "rd"; exact q)
  | tuple x => exact y_isi hd (b := false) rfl (by walk_at "rd"; exact q)
  | dict x => exact y_isi hd (b := false) rfl (by walk_at "rd"; exact q)
theorem ok_is_value (T : Tx K mg) {n : Nat} (C_is_fault : Cal P w K mg base 1 "is_fault" s_is_fault P_is_fault (sp_isfault K)) (C_is_datum : Cal P w K mg base (n + 3) "is_datum" s_is_datum P_is_datum (sp_isdatum K n)) :
    Cal P w K mg base (n + 4) "is_value" s_is_value P_is_value (sp_isvalue K n) := by
  refine T.d_is_value.ok sc_is_value (fun vs H Q E h => ?_) (fun f cdv A outer s H vs Q E hr h => ?_)
  · obtain ⟨v, d, rfl, _⟩ := h; rfl
  obtain ⟨v, d, rfl, hd, hm, hn, q⟩ := h
  refine ⟨_, PSs.nox (pss_one (ps_ret (pe_or (pe_g C_is_fault (hr.mono (by omega)) px0 (pa_cons (pv 0) pa_nil)) (pe_one (pe_g C_is_datum (hr.mono (by omega)) px0 (pa_cons (pv 0) pa_nil)))))), ?_⟩
  walk_at "rd"
  refine ⟨v, d, rfl, hd, ?_⟩
  walk_at "rd"
  refine brB (fun h1 => ?_) fun h1 => ?_
  · have z := q H (Ex.refl H)
    rw [h1, Bool.true_or] at z
    exact z
  · walk_at "rd"
    refine ⟨v, d, rfl, hd, hm, hn, fun H1 e1 => ?_⟩
    walk_at "rd"
    have z := q H1 e1
    rw [h1, Bool.false_or] at z
    exact z
end

section
variable {P : Program} {w : World} {K : PySem.W.Frag} {mg : Str → Option Value} {base : Heap}
theorem ok_lsize (T : Tx K mg) : ∀ n, Cal P w K mg base (n + 1) "_law_size" s_law_size P_law_size (sp_lsize K n)
  | 0 => (T.d_law_size.never fun vs H Q E h => by obtain ⟨v, d, _, _, _, z, _⟩ := h; omega).up (by omega)
  | n + 1 => by
    have C_law_size := ok_lsize T n
    refine T.d_law_size.ok sc_law_size (fun vs H Q E h => ?_) (fun f cdv A outer s H vs Q E hr h => ?_)
    · obtain ⟨v, d, rfl, _⟩ := h; rfl
    obtain ⟨v, d, rfl, hd, hg, hn, h60, q⟩ := h
    refine ⟨_, PSs.nox (pss_cons (ps_if (pt_cmpR (op_eqU hr) (pv 0) pe_str (nomark _)) (pss_one (ps_ret pe_int)) pss_nil)
      (pss_cons (ps_if (pt_val (pe_callB call_isiU (by rfl) T.n_isinstance (by decide +kernel) (pa_cons (pv 0) (pa_cons (pe_bltn (v := .ty "int") (u := .type "int") (by rfl) T.n_int (by decide +kernel) rfl) pa_nil)))) (pss_one (ps_ret (pe_op op_addU (pe_callB call_lenU (by rfl) T.n_len (by decide +kernel) (pa_cons (pe_callTy call_strU (by rfl) T.n_str (by decide +kernel) (pa_cons (pe_callB call_absU (by rfl) T.n_abs (by decide +kernel) (pa_cons (pv 0) pa_nil)) pa_nil)) pa_nil)) (pe_callTy call_intU (by rfl) T.n_int (by decide +kernel) (pa_cons (pe_cmpR op_ltU (pv 0) pe_int (nomark _)) pa_nil))))) pss_nil)
      (pss_one (ps_ret (pe_op op_addU pe_int (pe_callB (cr_sum rfl) (by rfl) T.n_sum (by decide +kernel) (pa_cons (pe_lc (own := [("_law_each", 1)]) rfl sc_law_size.nd (pi_seq (pv 0)) (blkOk_by (own := [("_law_each", 1)]) (N := N_law_size) (sc := defScope s_law_size) (by decide +kernel)) (fun _ _ _ _ _ => (pg_name (i := 1) sc_law_size.nd rfl (Or.inl rfl))) (fun _ _ _ _ _ => pts_nil) (fun _ _ _ _ _ => (pe_g C_law_size (hr.mono (by omega)) px0 (pa_cons (pv 1) pa_nil)))) pa_nil))))))), ?_⟩
    cases hF : isF d with
    | true =>
      have e := isF_inv hF
      subst e
      cases hd
      walk_at "rd"
      refine ifY rfl ?_
      walk_at "rd"
      exact q H (Ex.refl H)
    | false =>
    rw [hF, Bool.false_or] at hg
    cases d with
    | int i =>
      cases hd
      walk_at "rd"
      refine y_eqFault (.int i) hg (Nat.zero_le _) ?_
      walk_at "rd"
      refine y_isi (.int i) (b := true) rfl ?_
      walk_at "rd"
      have hm' : i.natAbs.log2 < 1920 := by rw [gdD, decide_eq_true_eq] at hg; exact gd_log hg
      refine y_str (by rw [abs_if]; exact hm') ?_
      walk_at "rd"
      refine y_lenS ?_ ?_
      · rw [abs_if, num_S, S_len]
        have := int_digits hm'
        exact Nat.le_trans this (by decide)
      walk_at "rd"
      exact q H (Ex.refl H)
    | tuple ds =>
      cases hd with | tup hS hA =>
      walk_at "rd"
      refine y_eqFault (.tup hS hA) hg h60 ?_
      walk_at "rd"
      refine y_isi (Fl.dt (.tup hS hA)) (b := false) rfl ?_
      walk_at "rd"
      rw [gdD, Bool.and_eq_true, decide_eq_true_eq] at hg
      have hl := hA.length
      refine i_T hS ?_
      refine k_lcFl (fun d => .int (szD d)) hS hA (by omega) (fun x d H1 Q1 hmm e hx hq => ?_) (fun x => rfl) fun D H2 nD e hD => ?_
      · walk_at "rd"
        exact ⟨x, d, rfl, hx, by rw [gdL_mem hg.2 hmm, Bool.or_true], tdp_tup hn hmm, Nat.le_of_lt (tdp_tup (Nat.lt_succ_of_le h60) hmm), hq⟩
      · walk_at "rd"
        refine y_sum (ns := ds.map szD) (.of (by rw [hD, List.map_map]; rfl)) ?_
        walk_at "rd"
        have z := q H2 e
        rw [szD, szL_sum] at z
        exact z
    | none => simp [gdD] at hg
    | bool b => simp [gdD] at hg
    | str x => simp [gdD] at hg
    | list x => simp [gdD] at hg
    | dict x => simp [gdD] at hg
theorem ok_ldeep (T : Tx K mg) : ∀ n, Cal P w K mg base (n + 1) "_law_deep" s_law_deep P_law_deep (sp_ldeep K n)
  | 0 => (T.d_law_deep.never fun vs H Q E h => by obtain ⟨v, d, _, _, _, z, _⟩ := h; omega).up (by omega)
  | n + 1 => by
    have C_law_deep := ok_ldeep T n
    refine T.d_law_deep.ok sc_law_deep (fun vs H Q E h => ?_) (fun f cdv A outer s H vs Q E hr h => ?_)
    · obtain ⟨v, d, rfl, _⟩ := h; rfl
    obtain ⟨v, d, rfl, hd, hg, hn, q⟩ := h
    refine ⟨_, PSs.nox (pss_one (ps_ret (pe_ifExp (pt_val (pe_callB call_isiU (by rfl) T.n_isinstance (by decide +kernel) (pa_cons (pv 0) (pa_cons (pe_bltn (v := .ty "int") (u := .type "int") (by rfl) T.n_int (by decide +kernel) rfl) pa_nil)))) pe_int (pe_op op_addU pe_int (pe_callB (call_maxU rfl) (by rfl) T.n_max (by decide +kernel) (pa_cons (pe_op op_addU (pe_lstN (pa_cons pe_int pa_nil)) (pe_lc (own := [("_law_each", 1)]) rfl sc_law_deep.nd (pi_seq (pv 0)) (blkOk_by (own := [("_law_each", 1)]) (N := N_law_deep) (sc := defScope s_law_deep) (by decide +kernel)) (fun _ _ _ _ _ => (pg_name (i := 1) sc_law_deep.nd rfl (Or.inl rfl))) (fun _ _ _ _ _ => pts_nil) (fun _ _ _ _ _ => (pe_g C_law_deep (hr.mono (by omega)) px0 (pa_cons (pv 1) pa_nil))))) pa_nil)))))), ?_⟩
    cases d with
    | int i =>
      cases hd
      walk_at "rd"
      refine y_isi (.int i) (b := true) rfl ?_
      walk_at "rd"
      exact q H (Ex.refl H)
    | tuple ds =>
      cases hd with | tup hS hA =>
      walk_at "rd"
      refine y_isi (Fl.dt (.tup hS hA)) (b := false) rfl ?_
      walk_at "rd"
      rw [gdD, Bool.and_eq_true, decide_eq_true_eq] at hg
      have hl := hA.length
      refine k_lst fun Z H1 nZ _ e1 hZ => ?_
      walk_at "rd"
      refine i_T (e1.st hS) ?_
      refine k_lcFl (fun d => .int (tdp d : Nat)) (e1.st hS) (hA.mono e1.et) (by omega) (fun x d H2 Q1 hmm e hx hq => ?_) (fun x => rfl) fun D H2 nD e hD => ?_
      · walk_at "rd"
        exact ⟨x, d, rfl, hx, gdL_mem hg.2 hmm, tdp_tup hn hmm, hq⟩
      · walk_at "rd"
        refine y_addL (e _ _ hZ) hD (by have h2 : sizeLine = 16777216 := rfl; simp only [List.length_singleton, List.length_map]; omega) fun L H3 nL e3 hL => ?_
        walk_at "rd"
        refine y_maxL (ns := 0 :: ds.map fun d => (tdp d : Int)) (.of (by rw [hL, List.map_cons, List.map_map]; rfl)) (Nat.succ_pos _) fun m m1 m2 => ?_
        walk_at "rd"
        have z := q H3 (e1.trans (e.trans e3))
        rw [tdpL_max0 m1 m2]
        rw [tdp] at z
        have e2 : ((1 + tdpL ds : Nat) : Int) = 1 + (tdpL ds : Int) := by omega
        rw [e2] at z
        exact z
    | none => simp [gdD] at hg
    | bool b => simp [gdD] at hg
    | str x => simp [gdD] at hg
    | list x => simp [gdD] at hg
    | dict x => simp [gdD] at hg
theorem ok_lfits (T : Tx K mg) (C_size : ∀ n, Cal P w K mg base (n + 1) "_law_size" s_law_size P_law_size (sp_lsize K n)) (C_deep : ∀ n, Cal P w K mg base (n + 1) "_law_deep" s_law_deep P_law_deep (sp_ldeep K n)) : ∀ n, Cal P w K mg base (n + 2) "_law_fits" s_law_fits P_law_fits (sp_lfits K n)
  | 0 => (T.d_law_fits.never fun vs H Q E h => by obtain ⟨v, d, _, _, _, z, _⟩ := h; omega).up (by omega)
  | n + 1 => by
    have C_law_fits := ok_lfits T C_size C_deep n
    have C_law_size := C_size (n + 1)
    have C_law_deep := C_deep (n + 1)
    refine T.d_law_fits.ok sc_law_fits (fun vs H Q E h => ?_) (fun f cdv A outer s H vs Q E hr h => ?_)
    · obtain ⟨v, d, rfl, _⟩ := h; rfl
    obtain ⟨v, d, rfl, hd, hg, hn, h60, q⟩ := h
    refine ⟨_, PSs.nox (pss_cons (ps_if (pt_val (pe_callB call_isiU (by rfl) T.n_isinstance (by decide +kernel) (pa_cons (pv 0) (pa_cons (pe_bltn (v := .ty "int") (u := .type "int") (by rfl) T.n_int (by decide +kernel) rfl) pa_nil)))) (pss_one (ps_ret (pe_cmpR op_leU (pe_g C_law_size (hr.mono (by omega)) px0 (pa_cons (pv 0) pa_nil)) pe_int (nomark _)))) pss_nil)
      (pss_cons (ps_if (PW.pt (pw_or (pt_cmpR op_gtU (pe_callB call_lenU (by rfl) T.n_len (by decide +kernel) (pa_cons (pv 0) pa_nil)) pe_int (nomark _)) (pw_or1 (pt_not (pt_val (pe_callB (cr_all rfl) (by rfl) T.n_all (by decide +kernel) (pa_cons (pe_lc (own := [("_law_each", 1)]) rfl sc_law_fits.nd (pi_seq (pv 0)) (blkOk_by (own := [("_law_each", 1)]) (N := N_law_fits) (sc := defScope s_law_fits) (by decide +kernel)) (fun _ _ _ _ _ => (pg_name (i := 1) sc_law_fits.nd rfl (Or.inl rfl))) (fun _ _ _ _ _ => pts_nil) (fun _ _ _ _ _ => (pe_g C_law_fits (hr.mono (by omega)) px0 (pa_cons (pv 1) pa_nil)))) pa_nil))))))) (pss_one (ps_ret pe_bl)) pss_nil)
      (pss_one (ps_ret (pe_and (pe_cmpR op_leU (pe_g C_law_deep (hr.mono (by omega)) px0 (pa_cons (pv 0) pa_nil)) pe_int (nomark _)) (pe_one (pe_cmpR op_leU (pe_g C_law_size (hr.mono (by omega)) px0 (pa_cons (pv 0) pa_nil)) pe_int (nomark _)))))))), ?_⟩
    cases d with
    | int i =>
      cases hd
      walk_at "rd"
      refine y_isi (.int i) (b := true) rfl ?_
      walk_at "rd"
      refine ⟨.int i, .int i, rfl, .int i, by rw [hg, Bool.or_true], hn, h60, fun H1 e1 => ?_⟩
      walk_at "rd"
      exact q H1 e1
    | tuple ds =>
      have hg0 := hg
      cases hd with | tup hS hA =>
      walk_at "rd"
      refine y_isi (Fl.dt (.tup hS hA)) (b := false) rfl ?_
      walk_at "rd"
      rw [gdD, Bool.and_eq_true, decide_eq_true_eq] at hg
      have hl := hA.length
      refine y_lenT hS ?_
      walk_at "rd"
      refine br (fun h40 => ?_) fun h40 => ?_
      · walk_at "rd"
        have z := q H (Ex.refl H)
        rw [ftD, decide_eq_false (by omega : ¬ ds.length ≤ 40), Bool.false_and, Bool.false_and] at z
        exact z
      · walk_at "rd"
        refine i_T hS ?_
        refine k_lcFl (fun d => .bl (ftD d)) hS hA (by omega) (fun x d H1 Q1 hmm e hx hq => ?_) (fun x => rfl) fun D H2 nD e hD => ?_
        · walk_at "rd"
          exact ⟨x, d, rfl, hx, gdL_mem hg.2 hmm, tdp_tup hn hmm, Nat.le_of_lt (tdp_tup (Nat.lt_succ_of_le h60) hmm), hq⟩
        · walk_at "rd"
          refine y_all (bs := ds.map ftD) (.of (by rw [hD, List.map_map]; rfl)) ?_
          rw [← ftL_all]
          walk_at "rd"
          refine brBN (fun hf => ?_) fun hf => ?_
          · walk_at "rd"
            have z := q H2 e
            rw [ftD, hf, Bool.and_false, Bool.false_and] at z
            exact z
          · walk_at "rd"
            refine ⟨_, .tuple ds, rfl, .tup (e.st hS) (hA.mono e.et), hg0, hn, fun H3 e3 => ?_⟩
            walk_at "rd"
            have fin : ∀ H', Ex H H' → Q (.bl (decide (tdpL ds ≤ 3) && decide (1 + szL ds ≤ 1000))) H' := fun H' e' => by
              have z := q H' e'
              rw [ftD, hf, decide_eq_true (by omega : ds.length ≤ 40), Bool.true_and, Bool.true_and] at z
              exact z
            refine br (fun h4 => ?_) fun h4 => ?_
            · rw [tdp] at h4
              walk_at "rd"
              refine ⟨_, .tuple ds, rfl, .tup ((e.trans e3).st hS) (hA.mono (e.trans e3).et), by rw [hg0, Bool.or_true], hn, h60, fun H4 e4 => ?_⟩
              walk_at "rd"
              have z := fin H4 (e.trans (e3.trans e4))
              rw [decide_eq_true (by omega : tdpL ds ≤ 3), Bool.true_and] at z
              rw [szD]
              exact z
            · rw [tdp] at h4
              have z := fin H3 (e.trans e3)
              rw [decide_eq_false (by omega : ¬ tdpL ds ≤ 3), Bool.false_and] at z
              exact z
    | none => simp [gdD] at hg
    | bool b => simp [gdD] at hg
    | str x => simp [gdD] at hg
    | list x => simp [gdD] at hg
    | dict x => simp [gdD] at hg
end

section
variable {P : Program} {w : World} {K : PySem.W.Frag} {mg : Str → Option Value} {base : Heap}
theorem ok_datum_text (T : Tx K mg) (C_is_int : Cal P w K mg base 1 "is_int" s_is_int P_is_int (sp_isint K)) : ∀ n, Cal P w K mg base (n + 2) "datum_text" s_datum_text P_datum_text (sp_dtext K n)
  | 0 => (T.d_datum_text.never fun vs H Q E h => by obtain ⟨v, d, _, _, _, _, _, z, _⟩ := h; omega).up (by omega)
  | n + 1 => by
    have C_datum_text := ok_datum_text T C_is_int n
    refine T.d_datum_text.ok sc_datum_text (fun vs H Q E h => ?_) (fun f cdv A outer s H vs Q E hr h => ?_)
    · obtain ⟨v, d, rfl, _⟩ := h; rfl
    obtain ⟨v, d, rfl, hd, hs, hm, hz, hn, q⟩ := h
    refine ⟨_, PSs.nox (pss_cons (ps_if (pt_val (pe_g C_is_int (hr.mono (by omega)) px0 (pa_cons (pv 0) pa_nil))) (pss_one (ps_ret (pe_callTy call_strU (by rfl) T.n_str (by decide +kernel) (pa_cons (pv 0) pa_nil)))) pss_nil)
      (pss_one (ps_ret (pe_op op_addU (pe_op op_addU pe_str (pe_joinU pe_str (pe_lc (own := [("item", 1)]) rfl sc_datum_text.nd (pi_seq (pv 0)) (blkOk_by (own := [("item", 1)]) (N := N_datum_text) (sc := defScope s_datum_text) (by decide +kernel)) (fun _ _ _ _ _ => (pg_name (i := 1) sc_datum_text.nd rfl (Or.inl rfl))) (fun _ _ _ _ _ => pts_nil) (fun _ _ _ _ _ => (pe_g C_datum_text (hr.mono (by omega)) px0 (pa_cons (pv 1) pa_nil)))))) pe_str)))), ?_⟩
    walk_at "rd"
    refine ⟨v, d, rfl, hd, ?_⟩
    cases d with
    | int i =>
      walk_at "rd"
      cases hd
      walk_at "rd"
      refine y_strC (by rw [smD, decide_eq_true_eq] at hm; exact hm) ?_
      exact q H (Ex.refl H)
    | tuple ds =>
      walk_at "rd"
      cases hd with | tup hS hA =>
      rw [nsD, Bool.and_eq_true, decide_eq_true_eq] at hs
      rw [smD] at hm
      rw [szD] at hz
      have hl := hA.length
      refine i_T hS ?_
      have hlen := txL_len ds hs.2
      have hsum := txL_sum hs.2
      refine k_lcDt (fun d => .str (S (txD d))) hS hA (by omega) (fun x d H1 Q1 hmm e hx hq => ?_) (fun x => rfl) fun D H2 nD e hD => ?_
      · walk_at "rd"
        exact ⟨x, d, rfl, hx, nsL_mem hs.2 hmm, smL_mem hm hmm, by have := szL_mem hs.2 hmm; omega, tdp_tup hn hmm, hq⟩
      · walk_at "rd"
        rw [q_comma]
        refine y_join (ys := ds.map fun d => S (txD d)) (.of (by rw [hD, List.map_map]; rfl)) ?_ ?_
        · rw [lens_tx, List.length_map, S_len]
          show _ + ds.length * 1 ≤ _
          omega
        rw [join_tx, q_open, q_close]
        refine y_addC (by have h2 : sizeLine = 16777216 := rfl; simp only [List.length_singleton]; omega) ?_
        refine y_addC (by have h2 : sizeLine = 16777216 := rfl; simp only [List.length_singleton, List.length_append]; omega) ?_
        exact q H2 e
    | none => simp [nsD] at hs
    | bool b => simp [nsD] at hs
    | str x => simp [nsD] at hs
    | list x => simp [nsD] at hs
    | dict x => simp [nsD] at hs
end

end My
end

section
set_option Elab.async false
set_option linter.all false
set_option maxRecDepth 100000
set_option maxHeartbeats 4000000
namespace My
open PySem PySem.Spec PyProof.Rows L2 Ls SX LamX
local macro_rules | `(tactic| walk_at "rd1") => `(tactic| (first | ((with_reducible refine' Ls.r_var ?hV ?_); (case hV => exact rfl)) | (with_reducible refine Ls.r_c ?_) | (with_reducible refine Ls.r_op ?_) | (with_reducible refine Ls.r_un ?_) | (with_reducible refine Ls.r_nil ?_) | (with_reducible refine Ls.r_cons ?_) | (with_reducible refine Ls.r_cb ?_) | (with_reducible refine Ls.r_ckw ?_) | (with_reducible refine Ls.r_cal ?_) | (with_reducible refine Ls.r_calK ?_) | (with_reducible refine Ls.r_tup ?_) | (with_reducible refine Ls.r_lst ?_) | (with_reducible refine Ls.r_if ?_) | (with_reducible refine Ls.r_andV ?_) | (with_reducible refine Ls.r_orV ?_) | (with_reducible refine Ls.r_notV ?_) | (with_reducible refine Ls.r_chain ?_) | (with_reducible refine Ls.r_sl ?_) | (with_reducible refine Ls.r_nopart ?_) | (with_reducible refine Ls.r_part ?_) | (with_reducible refine Ls.k_part ?_) | (with_reducible refine Ls.r_test ?_) | (with_reducible refine Ls.r_B ?_) | (with_reducible refine Ls.k_B ?_) | (with_reducible refine Ls.r_not ?_) | (with_reducible refine Ls.r_and ?_) | (with_reducible refine Ls.r_or ?_) | (with_reducible refine Ls.r_seq ?_) | (with_reducible refine Ls.r_ifS ?_) | (with_reducible refine Ls.r_next ?_) | (with_reducible refine Ls.r_brk ?_) | (with_reducible refine Ls.r_cont ?_) | (with_reducible refine Ls.r_ret ?_) | (with_reducible refine Ls.r_retN ?_) | (with_reducible refine Ls.r_drop ?_) | (with_reducible refine Ls.r_asg ?_) | (with_reducible refine Ls.r_par ?_) | (with_reducible refine Ls.k_par ?_) | ((with_reducible refine' Ls.r_aug ?hV ?_); (case hV => exact rfl)) | (with_reducible refine Ls.y_ip ?_) | (with_reducible refine Ls.g_name ?_) | (with_reducible refine Ls.g_nil ?_) | (with_reducible refine Ls.g_cons ?_) | (with_reducible refine Ls.g_sub ?_) | (with_reducible refine Ls.e_nx ?_) | (with_reducible refine Ls.e_rt ?_) | (with_reducible refine Ls.e_bk ?_) | (with_reducible refine Ls.e_ct ?_) | (with_reducible refine Ls.r_for ?_) | (with_reducible refine Ls.i_seq ?_) | (with_reducible refine Ls.r_xi ?_) | (with_reducible refine Ls.r_xo ?_) | (with_reducible refine Ls.r_mk ?_) | (with_reducible refine Ls.r_xf ?_) | (with_reducible refine Ls.i_enum ?_) | (with_reducible refine Ls.i_rng1 ?_) | (with_reducible refine Ls.r_m1 ?_) | (with_reducible refine Ls.r_m0 ?_) | (with_reducible refine Ls.k_isS ?_) | (with_reducible refine Ls.r_bm ?_) | (with_reducible refine Ls.r_lc ?_) | (with_reducible refine Ls.y_add ?_) | (with_reducible refine Ls.y_sub ?_) | (with_reducible refine Ls.y_neg ?_) | (with_reducible refine Ls.y_lt ?_) | (with_reducible refine Ls.y_le ?_) | (with_reducible refine Ls.y_gt ?_) | (with_reducible refine Ls.y_ge ?_) | (with_reducible refine Ls.y_eqI ?_) | (with_reducible refine Ls.y_eqS ?_) | (with_reducible refine Ls.y_neI ?_) | (with_reducible refine Ls.y_neS ?_) | (with_reducible refine Ls.y_isNo ?_) | (with_reducible refine Ls.y_isntNo ?_) | (with_reducible refine Ls.y_abs ?_) | (with_reducible refine Ls.y_max2 ?_) | (with_reducible refine Ls.y_min2 ?_) | (with_reducible refine Ls.y_intI ?_) | (with_reducible refine Ls.y_intB ?_) | ((with_reducible refine' Ls.y_ixL ?hS ?hA ?_); (case hS => first | assumption | exact L2.SqL.of (by assumption)); (case hA => rfl)) | ((with_reducible refine' Ls.y_ixT ?hS ?hA ?_); (case hS => first | assumption | exact L2.SqT.of (by assumption)); (case hA => rfl)) | ((with_reducible refine' Ls.y_mod ?hC ?_); (case hC => first | decide | omega)) | ((with_reducible refine' Ls.y_fdiv ?hC ?_); (case hC => first | decide | (constructor <;> omega))) | ((with_reducible refine' Ls.y_pow ?hC ?_); (case hC => exact ⟨by decide, by decide, by decide⟩)) | ((with_reducible refine' Ls.y_mul ?hC ?_); (case hC => first | exact .inr ⟨by decide, by decide⟩ | exact .inl ⟨by decide, by decide⟩ | exact .inr ⟨by omega, by omega⟩ | exact .inl ⟨by omega, by omega⟩)) | (with_reducible refine L2.iteT ?_) | (with_reducible refine L2.iteF ?_) | (with_reducible refine Ls.iteNF ?_) | (with_reducible refine Ls.iteNT ?_)))
local macro_rules | `(tactic| walk_at "rd") => `(tactic| (repeat walk_at "rd1"))

section
variable {P : Program} {w : World} {K : PySem.W.Frag} {mg : Str → Option Value} {base : Heap}
abbrev tabR (K : PySem.W.Frag) (mg : Str → Option Value) : List (Addr × Str) := [(pA K mg "_law_right", lamQ "_law_right")]
theorem ok_right (T : Tx K mg) (B : Tb K mg "_law_right") (TBb : TabB base mg (kA K mg "_law_right") (pA K mg "_law_right")) (C_law_any : Cal P w K mg base 10 "_law_any" s_law_any P_law_any (sp_odraw K 50000 8)) (C_law_is_plain : Cal P w K mg base 12 "_law_is_plain" s_law_is_plain P_law_is_plain (sp_plain K 10))
    (C_law_fits : Cal P w K mg base 12 "_law_fits" s_law_fits P_law_fits (sp_lfits K 10)) (C_is_datum : Cal P w K mg base 13 "is_datum" s_is_datum P_is_datum (sp_isdatum K 10)) (C_is_value : Cal P w K mg base 14 "is_value" s_is_value P_is_value (sp_isvalue K 10))
    (C_size_of : Cal P w K mg base 16 "size_of" s_size_of P_size_of (sp_onV K (fA mg "InvalidValue") 10 (fun d => .int (szD d)))) (C_format_value : Cal P w K mg base 16 "format_value" s_format_value P_format_value (sp_onV K (fA mg "InvalidValue") 10 (fun d => .str (S (txD d)))))
    (G_law_refused : Giv P w K mg base 17 "_law_refused" s_law_refused "_law_call" N_law_refused (TTref K (fA mg "InvalidValue"))) : Cal P w K mg base 19 "_law_right" s_law_right P_law_right (sp_tright (tabR K mg)) := by
  let Ts := tabR K mg
  refine T.d_law_right.okT B sc_law_right (fun vs H Q E h => ?_) (fun f A outer s H vs Q E hr h => ?_)
  · obtain ⟨p, rfl, _⟩ := h; rfl
  obtain ⟨p, rfl, hP, hT, q⟩ := h
  refine ⟨_, PSs.nox (pss_cons (ps_set (i := 1) sc_law_right.nd rfl (by first | exact .inl rfl | exact .inr rfl) (pe_g C_law_any (hr.mono (by omega)) px0 (pa_cons (pv 0) pa_nil)))
      (pss_cons (ps_par (i := 2) (j := 3) rfl sc_law_right.nd rfl rfl (by decide) rfl rfl (pa_cons (pe_callB (call_repr hr) (by rfl) T.n_repr (by decide +kernel) (pa_cons (pv 1) pa_nil)) (pa_cons (pe_and (pe_g C_law_is_plain (hr.mono (by omega)) px0 (pa_cons (pv 1) pa_nil)) (pe_one (pe_g C_law_fits (hr.mono (by omega)) px0 (pa_cons (pv 1) pa_nil)))) pa_nil)) (by rfl))
      (pss_cons (ps_set (i := 4) sc_law_right.nd rfl (by first | exact .inl rfl | exact .inr rfl) (pe_and (pe_callB call_isiU (by rfl) T.n_isinstance (by decide +kernel) (pa_cons (pv 1) (pa_cons (pe_bltn (v := .ty "str") (u := .type "str") (by rfl) T.n_str (by decide +kernel) rfl) pa_nil))) (pe_one (pe_cmpR (op_eqU hr) (pv 1) pe_str (nomark _)))))
      (pss_cons (ps_set (i := 5) sc_law_right.nd rfl (by first | exact .inl rfl | exact .inr rfl) (pe_lstN (pa_cons (pe_g C_is_datum (hr.mono (by omega)) px0 (pa_cons (pv 1) pa_nil)) (pa_cons (pe_g C_is_value (hr.mono (by omega)) px0 (pa_cons (pv 1) pa_nil)) (pa_cons (pe_gi (ks := ["value"]) C_is_datum (hr.mono (by omega)) px0 (pk_cons (pv 1) pk_nil) (by rfl) (fun _ _ _ _ _ _ us hl => match us, hl with | [_], _ => rfl)) (pa_cons (pe_gi (ks := ["value"]) C_is_value (hr.mono (by omega)) px0 (pk_cons (pv 1) pk_nil) (by rfl) (fun _ _ _ _ _ _ us hl => match us, hl with | [_], _ => rfl)) pa_nil))))))
      (pss_cons (ps_if (PW.pt (pw_or (pt_cmpR (op_neU hr) (pe_callB (call_repr hr) (by rfl) T.n_repr (by decide +kernel) (pa_cons (pv 5) pa_nil)) (pe_callB (call_repr hr) (by rfl) T.n_repr (by decide +kernel) (pa_cons (pe_op op_mulU (pe_lstN (pa_cons (pv 3) (pa_cons (pe_or (pv 3) (pe_one (pv 4))) pa_nil))) pe_int) pa_nil)) (nomark _)) (pw_or1 (pt_cmpR (op_neU hr) (pe_callB (call_repr hr) (by rfl) T.n_repr (by decide +kernel) (pa_cons (pv 1) pa_nil)) (pv 2) (nomark _))))) (pss_one (ps_ret pe_bl)) pss_nil)
      (pss_cons (ps_set (i := 6) sc_law_right.nd rfl (by first | exact .inl rfl | exact .inr rfl) (pe_ifExp (PW.pt (pw_or (pt_val (pv 3)) (pw_or1 (pt_val (pv 4))))) pe_str (pe_callB (call_repr hr) (by rfl) T.n_repr (by decide +kernel) (pa_cons (pe_lstN (pa_cons (pv 1) (pa_cons pe_bl pa_nil))) pa_nil))))
      (pss_cons (ps_if (pt_cmpR (op_neU hr) (pe_lamG (T := Ts) T.d_law_refused sc_law_refused G_law_refused TBb rfl (List.mem_singleton.mpr rfl) (fun p hp _ => by rw [List.mem_singleton.mp hp]; rfl) (hr.mono (by omega)) (lamS_by (by rfl)) (fun A outer s H E f c' hr => (pe_g C_size_of (hr.mono (by omega)) (pxE (takes_of rfl rfl rfl rfl) (fun _ _ _ _ h => h)) (pa_cons (pv 1) pa_nil)))) (pv 6) (nomark _)) (pss_one (ps_ret pe_bl)) pss_nil)
      (pss_cons (ps_if (pt_cmpR (op_neU hr) (pe_lamG (T := Ts) T.d_law_refused sc_law_refused G_law_refused TBb rfl (List.mem_singleton.mpr rfl) (fun p hp _ => by rw [List.mem_singleton.mp hp]; rfl) (hr.mono (by omega)) (lamS_by (by rfl)) (fun A outer s H E f c' hr => (pe_g C_format_value (hr.mono (by omega)) (pxE (takes_of rfl rfl rfl rfl) (fun _ _ _ _ h => h)) (pa_cons (pv 1) pa_nil)))) (pv 6) (nomark _)) (pss_one (ps_ret pe_bl)) pss_nil)
      (pss_one (ps_ret (pe_and (pe_cmpR (op_eqU hr) (pe_callB (call_repr hr) (by rfl) T.n_repr (by decide +kernel) (pa_cons (pe_lstN (pa_cons (pe_g C_is_datum (hr.mono (by omega)) px0 (pa_cons (pv 1) pa_nil)) (pa_cons (pe_g C_is_value (hr.mono (by omega)) px0 (pa_cons (pv 1) pa_nil)) pa_nil))) pa_nil)) (pe_callB (call_repr hr) (by rfl) T.n_repr (by decide +kernel) (pa_cons (pe_slice sl_U (pv 5) po_none (po_some pe_int)) pa_nil)) (nomark _)) (pe_one (pe_cmpR (op_eqU hr) (pe_callB (call_repr hr) (by rfl) T.n_repr (by decide +kernel) (pa_cons (pv 1) pa_nil)) (pv 2) (nomark _)))))))))))))), ?_⟩
  walk_at "rd"
  refine ⟨p, rfl, hP, fun v d H1 hv hb P1 e1 => ?_⟩
  have T1 := hP.tabs hT e1
  have hq := hb.rq (by decide) (by decide)
  have hsm := in_sm _ hb.inn
  have htd : tdp d < 10 := by have := tdp_dep d; have := hb.dep; omega
  walk_at "rd"
  have hv1 : Dt K H1 v d := hv.mono mo_ex
  refine y_repD hv1 hq ?_
  walk_at "rd"
  refine ⟨v, d, rfl, hv1, htd, fun H2 e2 => ?_⟩
  have hz : plD d = false → isD d = false := fun hp => by rw [is_due, hp]; rfl
  walk_at "rd"
  refine brB (fun hp => ?r1) fun hp => ?r2
  case' r1 =>
    walk_at "rd"
    refine ⟨v, d, rfl, pl_fl d hp (hv1.mono e2), in_gd d hb.inn hp, htd, by omega, fun H3 e3 => ?_⟩
    rw [show ftD d = isD d by rw [is_due, hp, Bool.true_and]]
    replace e3 := e2.trans e3
  case' r2 =>
    rw [show V.bl false = V.bl (isD d) by rw [hz hp]]
    have e3 := e2
  all_goals
    walk_at "rd"
    refine y_isStrD (hv1.mono e3) (fun z ez ev => ?_) fun hn => ?_
    walk_at "rd"
    refine y_eqSv ev ?_
    rw [show decide (z = Str.ofString "fault") = isF d by rw [ez]; rfl]
    rotate_left
    walk_at "rd"
    rw [show V.bl false = V.bl (isF d) by rw [hn]]
    all_goals
      walk_at "rd"
      refine ⟨v, d, rfl, hv1.mono e3, hsm, htd, fun H4 e4 => ?_⟩
      replace e4 := e3.trans e4
      walk_at "rd"
      refine ⟨v, d, rfl, hv1.mono e4, hsm, htd, fun H5 e5 => ?_⟩
      replace e5 := e4.trans e5
      walk_at "rd"
      refine ⟨v, d, rfl, hv1.mono e5, hsm, htd, fun H6 e6 => ?_⟩
      replace e6 := e5.trans e6
      walk_at "rd"
      refine ⟨v, d, rfl, hv1.mono e6, hsm, htd, fun H7 e7 => ?_⟩
      replace e7 := e6.trans e7
      walk_at "rd"
      refine k_lst fun L1 H8 n1 _ e8 h8 => ?_
      have e7' := e8
      replace e8 := e7.trans e8
      walk_at "rd"
      refine y_repB (bs := [isD d, isF d || isD d, isD d, isF d || isD d]) h8 (by simp) ?_
      walk_at "rd"
      refine brB (fun hD => ?_) fun hD => ?_
      rw [show V.bl true = V.bl (isF d || isD d) by rw [hD, Bool.or_true]]
      rotate_left
      walk_at "rd"
      rw [show V.bl (isF d) = V.bl (isF d || isD d) by rw [hD, Bool.or_false]]
      all_goals
        walk_at "rd"
        refine k_lst fun L2 H9 n2 _ e9 h9 => ?_
        have g9 := e9 _ _ h8
        replace e9 := e8.trans e9
        walk_at "rd"
        refine y_mulL h9 (by decide) (by decide) (by simp) fun L3 H10 n3 e10 h10 => ?_
        have g10 := e10 _ _ g9
        replace e10 := e9.trans e10
        walk_at "rd"
        refine y_repB (bs := [isD d, isF d || isD d, isD d, isF d || isD d]) h10 (by simp) ?_
        walk_at "rd"
        refine ifnN rfl ?_
        walk_at "rd"
        refine y_repD (hv1.mono e10) hq ?_
        walk_at "rd"
        refine ifnN rfl ?_
        walk_at "rd"
        have t10 := Eo.trans e1.eo (e10.eo p)
        have P10 := P1.ex e10
        have T10 : Tabs Ts H10 := T1.ext e10
        cases hF : isF d
        all_goals
          rw [hD]
          simp only [Bool.or_true, Bool.or_false, Bool.true_or, Bool.false_or]
          try rw [if_pos trivial, if_pos trivial]
          walk_at "rd"
          first
            | (refine k_lst fun L4 H11 n4 m4 e11 h11 => ?_
               walk_at "rd"
               refine y_rep2D h11 m4 (hv1.mono (e10.trans e11)) (.bl true) hq (Rp.bool true).rq ?_
               walk_at "rd"
               have e12 := e10.trans e11
               have g12 := e11 _ _ g10)
            | (have e12 := e10
               have g12 := g10)
          have t12 := Eo.trans e1.eo (e12.eo p)
          have P12 := P1.ex e12
          have T12 : Tabs Ts _ := T1.ext e12
          refine r_lam T12 fun H13 x13 T13 => ?_
          have P13 := P12.extN x13
          have g13 := x13 _ _ g12 (fun _ z => nomatch z)
          have v13 := hv.mono ((e12.eo p).trans (extN_eo p x13))
          intro E1 Q1 hE1 hQ1
          walk_at "rd"
          refine ⟨v, d, rfl, v13.mono mo_ex, hsm, htd, fun ho H14 e14 => hQ1 _ H14 fun H15 e15 => ?_, fun ho dd H14 e14 hx => hE1 H14 dd v d hx ((v13.mono mo_ex).mono e14) hq fun H15 e15 => ?_⟩
          all_goals
            rw [hF, hD] at ho
            first
              | (exfalso; revert ho; decide)
              | skip
          have e15' := e14.trans e15
          walk_at "rd"
          first
            | refine ifnN (by rw [PyData.shown_none]) ?_
            | refine ifnN rfl ?_
          walk_at "rd"
          have P15 := P13.ex e15'
          have g15 := e15' _ _ g13
          have T15 : Tabs Ts _ := T13.ext e15'
          refine r_lam T15 fun H16 x16 T16 => ?_
          have P16 := P15.extN x16
          have g16 := x16 _ _ g15 (fun _ z => nomatch z)
          have v16 := v13.mono ((e15'.eo p).trans (extN_eo p x16))
          intro E2 Q2 hE2 hQ2
          walk_at "rd"
          refine ⟨v, d, rfl, v16.mono mo_ex, hsm, htd, fun ho H17 e17 => hQ2 _ H17 fun H18 e18 => ?_, fun ho dd H17 e17 hx => hE2 H17 dd v d hx ((v16.mono mo_ex).mono e17) hq fun H18 e18 => ?_⟩
          all_goals
            rw [hF, hD] at ho
            first
              | (exfalso; revert ho; decide)
              | skip
          have e18' := e17.trans e18
          walk_at "rd"
          first
            | refine ifnN (by rw [PyData.shown_none]) ?_
            | refine ifnN rfl ?_
          walk_at "rd"
          have u18 := (v16.mono mo_ex).mono e18'
          refine ⟨v, d, rfl, u18, hsm, htd, fun H19 e19 => ?_⟩
          replace e19 := e18'.trans e19
          walk_at "rd"
          refine ⟨v, d, rfl, (v16.mono mo_ex).mono e19, hsm, htd, fun H20 e20 => ?_⟩
          replace e20 := e19.trans e20
          walk_at "rd"
          refine k_lst fun L5 H21 n5 _ e21 h21 => ?_
          replace e21 := e20.trans e21
          walk_at "rd"
          refine y_repB (bs := [isD d, isF d || isD d]) h21 (by simp) ?_
          walk_at "rd"
          refine y_sliceL (.of (e21 _ _ g16)) fun L6 H22 n6 e22 h22 => ?_
          replace e22 := e21.trans e22
          walk_at "rd"
          refine y_repB (bs := [isD d, isF d || isD d]) h22 (by simp) ?_
          walk_at "rd"
          refine ifY rfl ?_
          walk_at "rd"
          refine y_repD ((v16.mono mo_ex).mono e22) hq ?_
          walk_at "rd"
          rw [decide_eq_true rfl]
          exact q _ (P16.ex e22) (T16.ext e22) (t12.trans ((extN_eo p x13).trans ((e15'.eo p).trans ((extN_eo p x16).trans (e22.eo p)))))
end

end My
end

section
set_option Elab.async false
set_option linter.all false
set_option maxRecDepth 100000
set_option maxHeartbeats 4000000
namespace My
open PySem PySem.Spec PyProof.Rows L2 Ls SX LamX
local macro_rules | `(tactic| walk_at "rd1") => `(tactic| (first | ((with_reducible refine' Ls.r_var ?hV ?_); (case hV => exact rfl)) | (with_reducible refine Ls.r_c ?_) | (with_reducible refine Ls.r_op ?_) | (with_reducible refine Ls.r_un ?_) | (with_reducible refine Ls.r_nil ?_) | (with_reducible refine Ls.r_cons ?_) | (with_reducible refine Ls.r_cb ?_) | (with_reducible refine Ls.r_ckw ?_) | (with_reducible refine Ls.r_cal ?_) | (with_reducible refine Ls.r_calK ?_) | (with_reducible refine Ls.r_tup ?_) | (with_reducible refine Ls.r_lst ?_) | (with_reducible refine Ls.r_if ?_) | (with_reducible refine Ls.r_andV ?_) | (with_reducible refine Ls.r_orV ?_) | (with_reducible refine Ls.r_notV ?_) | (with_reducible refine Ls.r_chain ?_) | (with_reducible refine Ls.r_sl ?_) | (with_reducible refine Ls.r_nopart ?_) | (with_reducible refine Ls.r_part ?_) | (with_reducible refine Ls.k_part ?_) | (with_reducible refine Ls.r_test ?_) | (with_reducible refine Ls.r_B ?_) | (with_reducible refine Ls.k_B ?_) | (with_reducible refine Ls.r_not ?_) | (with_reducible refine Ls.r_and ?_) | (with_reducible refine Ls.r_or ?_) | (with_reducible refine Ls.r_seq ?_) | (with_reducible refine Ls.r_ifS ?_) | (with_reducible refine Ls.r_next ?_) | (with_reducible refine Ls.r_brk ?_) | (with_reducible refine Ls.r_cont ?_) | (with_reducible refine Ls.r_ret ?_) | (with_reducible refine Ls.r_retN ?_) | (with_reducible refine Ls.r_drop ?_) | (with_reducible refine Ls.r_asg ?_) | (with_reducible refine Ls.r_par ?_) | (with_reducible refine Ls.k_par ?_) | ((with_reducible refine' Ls.r_aug ?hV ?_); (case hV => exact rfl)) | (with_reducible refine Ls.y_ip ?_) | (with_reducible refine Ls.g_name ?_) | (with_reducible refine Ls.g_nil ?_) | (with_reducible refine Ls.g_cons ?_) | (with_reducible refine Ls.g_sub ?_) | (with_reducible refine Ls.e_nx ?_) | (with_reducible refine Ls.e_rt ?_) | (with_reducible refine Ls.e_bk ?_) | (with_reducible refine Ls.e_ct ?_) | (with_reducible refine Ls.r_for ?_) | (with_reducible refine Ls.i_seq ?_) | (with_reducible refine Ls.r_xi ?_) | (with_reducible refine Ls.r_xo ?_) | (with_reducible refine Ls.r_mk ?_) | (with_reducible refine Ls.r_xf ?_) | (with_reducible refine Ls.i_enum ?_) | (with_reducible refine Ls.i_rng1 ?_) | (with_reducible refine Ls.r_m1 ?_) | (with_reducible refine Ls.r_m0 ?_) | (with_reducible refine Ls.k_isS ?_) | (with_reducible refine Ls.r_bm ?_) | (with_reducible refine Ls.r_lc ?_) | (with_reducible refine Ls.y_add ?_) | (with_reducible refine Ls.y_sub ?_) | (with_reducible refine Ls.y_neg ?_) | (with_reducible refine Ls.y_lt ?_) | (with_reducible refine Ls.y_le ?_) | (with_reducible refine Ls.y_gt ?_) | (with_reducible refine Ls.y_ge ?_) | (with_reducible refine Ls.y_eqI ?_) | (with_reducible refine Ls.y_eqS ?_) | (with_reducible refine Ls.y_neI ?_) | (with_reducible refine Ls.y_neS ?_) | (with_reducible refine Ls.y_isNo ?_) | (with_reducible refine Ls.y_isntNo ?_) | (with_reducible refine Ls.y_abs ?_) | (with_reducible refine Ls.y_max2 ?_) | (with_reducible refine Ls.y_min2 ?_) | (with_reducible refine Ls.y_intI ?_) | (with_reducible refine Ls.y_intB ?_) | ((with_reducible refine' Ls.y_ixL ?hS ?hA ?_); (case hS => first | assumption | exact L2.SqL.of (by assumption)); (case hA => rfl)) | ((with_reducible refine' Ls.y_ixT ?hS ?hA ?_); (case hS => first | assumption | exact L2.SqT.of (by assumption)); (case hA => rfl)) | ((with_reducible refine' Ls.y_mod ?hC ?_); (case hC => first | decide | omega)) | ((with_reducible refine' Ls.y_fdiv ?hC ?_); (case hC => first | decide | (constructor <;> omega))) | ((with_reducible refine' Ls.y_pow ?hC ?_); (case hC => exact ⟨by decide, by decide, by decide⟩)) | ((with_reducible refine' Ls.y_mul ?hC ?_); (case hC => first | exact .inr ⟨by decide, by decide⟩ | exact .inl ⟨by decide, by decide⟩ | exact .inr ⟨by omega, by omega⟩ | exact .inl ⟨by omega, by omega⟩)) | (with_reducible refine L2.iteT ?_) | (with_reducible refine L2.iteF ?_) | (with_reducible refine Ls.iteNF ?_) | (with_reducible refine Ls.iteNT ?_)))
local macro_rules | `(tactic| walk_at "rd") => `(tactic| (repeat walk_at "rd1"))

section
variable {P : Program} {w : World} {K : PySem.W.Frag} {mg : Str → Option Value} {base : Heap}
theorem ok_law (T : Tx K mg) (C_law_pot : Cal P w K mg base 1 "_law_pot" s_law_pot P_law_pot (sp_pot K)) (C_law_right : Cal P w K mg base 19 "_law_right" s_law_right P_law_right (sp_tright (tabR K mg))) :
    Cal P w K mg base 20 "law" s_law P_law (sp_lawT K (tabR K mg)) := by
  refine T.d_law.ok sc_law (fun vs H Q E h => ?_) (fun f cdv A outer s H vs Q E hr h => ?_)
  · obtain ⟨a, ns, rfl, _⟩ := h; rfl
  obtain ⟨a, ns, rfl, hS, hn, hT, q⟩ := h
  refine ⟨_, PSs.nox (pss_cons (ps_if (pt_cmpR (op_neU hr) (pe_callB (call_repr hr) (by rfl) T.n_repr (by decide +kernel) (pa_cons (pe_const T.c_FAULT) pa_nil)) (pe_callB (call_repr hr) (by rfl) T.n_repr (by decide +kernel) (pa_cons pe_str pa_nil)) (nomark _)) (pss_one (ps_ret pe_bl)) pss_nil)
      (pss_cons (ps_for PassesOwn.never rfl (pi_range1 rfl T.n_range (pa_cons (pe_callB (call_maxU rfl) (by rfl) T.n_max (by decide +kernel) (pa_cons pe_int (pa_cons (pe_callB (call_minU rfl) (by rfl) T.n_min (by decide +kernel) (pa_cons (pe_callB call_lenU (by rfl) T.n_len (by decide +kernel) (pa_cons (pv 0) pa_nil)) (pa_cons pe_int pa_nil))) pa_nil))) pa_nil)) (pg_name (i := 1) sc_law.nd rfl (by first | exact .inl rfl | exact .inr rfl)) (pss_cons (ps_set (i := 2) sc_law.nd rfl (by first | exact .inl rfl | exact .inr rfl) (pe_g C_law_pot (hr.mono (by omega)) px0 (pa_cons (pv 0) (pa_cons (pv 1) pa_nil))))
      (pss_one (ps_if (pt_not (pt_val (pe_callB (cr_all rfl) (by rfl) T.n_all (by decide +kernel) (pa_cons (pe_lc (own := [("_law_turn", 3)]) rfl sc_law.nd (pi_range1 rfl T.n_range (pa_cons pe_int pa_nil)) (blkOk_by (own := [("_law_turn", 3)]) (N := N_law) (sc := defScope s_law) (by decide +kernel)) (fun _ _ _ _ _ => (pg_name (i := 3) sc_law.nd rfl (Or.inl rfl))) (fun _ _ _ _ _ => pts_nil) (fun _ _ _ _ _ => (pe_g C_law_right (hr.mono (by omega)) px0 (pa_cons (pv 2) pa_nil)))) pa_nil)))) (pss_one (ps_ret pe_bl)) pss_nil))))
      (pss_one (ps_ret pe_bl)))), ?_⟩
  walk_at "rd"
  refine y_repD (.str _) ⟨by decide, by decide +kernel, by decide⟩ ?_
  walk_at "rd"
  refine y_repD (.str _) ⟨by decide, by decide +kernel, by decide⟩ ?_
  walk_at "rd"
  refine ifnN rfl ?_
  walk_at "rd"
  refine y_lenL hS ?_
  walk_at "rd"
  rw [List.length_map]
  generalize hm : (if (if (5 : Int) < (ns.length : Nat) then (5 : Int) else (ns.length : Nat)) > 1 then (if (5 : Int) < (ns.length : Nat) then (5 : Int) else (ns.length : Nat)) else (1 : Int)) = m
  have hm5 : 1 ≤ m ∧ m ≤ 5 := by
    rw [← hm]
    constructor <;> (split <;> (try split) <;> omega)
  refine i_r1 (by omega) (by omega) ?_
  refine k_forR (fun j σ' H' => SqL K H' a (ns.map V.int) ∧ Tabs (tabR K mg) H' ∧ ∃ o1 o2 o3, σ' = [some (.ref a), o1, o2, o3]) ⟨hS, hT, none, none, none, rfl⟩ ?_ ?_
  · rintro j σ' H1 hj ⟨hS1, hT1, o1, o2, o3, rfl⟩
    walk_at "rd"
    refine ⟨a, ns, j, by rw [Int.zero_add], hS1, by omega, fun p H2 np e2 P2 => ?_⟩
    walk_at "rd"
    refine i_r1 (by decide) (by decide) ?_
    refine k_lcPotT (fun y => y = .bl true) P2 (hT1.ext e2) (by decide) (fun i H3 Q1 hi e3 P3 T3 hq => ?_) (fun x => rfl) fun D ys H3 nD e3 P3 T3 hD hl hy => ?_
    · walk_at "rd"
      exact ⟨p, rfl, P3, T3, fun H4 P4 T4 e4 => hq _ H4 e4 P4 T4 rfl⟩
    · walk_at "rd"
      have hys : ys = (List.replicate ys.length true).map V.bl := by
        rw [List.map_replicate]
        exact List.eq_replicate_iff.mpr ⟨rfl, hy⟩
      refine y_all (bs := List.replicate ys.length true) (.of (by rw [hD, ← hys])) ?_
      have hall : (List.replicate ys.length true).all id = true := by
        rw [List.all_eq_true]
        intro b hb
        rw [List.eq_of_mem_replicate hb]
        rfl
      rw [hall]
      walk_at "rd"
      exact ⟨seq_newO hS1 np e2 e3, T3, _, _, _, rfl⟩
  · rintro σ' H1 ⟨hS1, hT1, o1, o2, o3, rfl⟩
    walk_at "rd"
    exact q _
def sp_law (K : PySem.W.Frag) (mg : Str → Option Value) : Sp := sp_lawT K (tabR K mg)
theorem all_ok (T : Tx K mg) (B' : ∀ y ∈ (["_law_right"] : List Str), Tb K mg y) (TBb' : ∀ y ∈ (["_law_right"] : List Str), TabB base mg (kA K mg y) (pA K mg y)) : Cal P w K mg base 20 "law" s_law P_law (sp_law K mg) := by
  have B := B' "_law_right" (List.mem_singleton.mpr rfl)
  have TBb := TBb' "_law_right" (List.mem_singleton.mpr rfl)
  have X1 := xk_InvalidValue (P := P) (w := w) (base := base) T
  have C1 := ok_is_int (P := P) (w := w) (base := base) T
  have C2 := ok_is_nested (P := P) (w := w) (base := base) T C1 10
  have C3 := ok_depth_of (P := P) (w := w) (base := base) T C1 10
  have C4 := ok_datum_size (P := P) (w := w) (base := base) T C1 10
  have C5 := ok_is_datum (P := P) (w := w) (base := base) T C2 C3 C4
  have C6 := ok_is_fault (P := P) (w := w) (base := base) T
  have C7 := ok_is_value (P := P) (w := w) (base := base) T C6 C5
  have C8 := ok_check_value (P := P) (w := w) (base := base) T X1 C7
  have C9 := ok_size_of (P := P) (w := w) (base := base) T C8 C6 C4
  have C10 := ok_datum_text (P := P) (w := w) (base := base) T C1 10
  have C11 := ok_format_value (P := P) (w := w) (base := base) T C8 C6 C10
  have D1 := ok_pot (P := P) (w := w) (base := base) T
  have D2 := ok_digit (P := P) (w := w) (base := base) T
  have D3 := ok_int (P := P) (w := w) (base := base) T D2
  have D4 := ok_pick (P := P) (w := w) (base := base) T D2
  have D5 := ok_odd (P := P) (w := w) (base := base) T D4
  have D6 := ok_nested (P := P) (w := w) (base := base) T D4 D3
  have D7 := ok_heavy (P := P) (w := w) (base := base) T D2
  have D8 := ok_datumL (P := P) (w := w) (base := base) T D2 D3
  have D9 := ok_bent (P := P) (w := w) (base := base) T D2 D5
  have D10 := fun n => ok_lsize (P := P) (w := w) (base := base) T n
  have D11 := fun n => ok_ldeep (P := P) (w := w) (base := base) T n
  have D12 := ok_lfits (P := P) (w := w) (base := base) T D10 D11 10
  have D13 := ok_lis_int (P := P) (w := w) (base := base) T
  have D14 := ok_plain (P := P) (w := w) (base := base) T D13 10
  have D15 := ok_any (P := P) (w := w) (base := base) T D2 D4 D3 (D8 5) D6 D7 D5 (D9 5)
  have G1 := (giv_refused (P := P) (w := w) (base := base) T).up (k := 17) (by decide)
  exact ok_law T D1 (ok_right T B TBb D15 D14 D12 C5 C7 C9 C11 G1)
end
theorem tx_mk {K : PySem.W.Frag} {h : Heap} {mg : Str → Option Value} (X : K.In h) (G : h.Ns mainGlobals mg)
    (z_ValueError : PySem.W.nsIn K mainGlobals "ValueError" = some none)
    (z_abs : PySem.W.nsIn K mainGlobals "abs" = some none)
    (z_all : PySem.W.nsIn K mainGlobals "all" = some none)
    (z_bool : PySem.W.nsIn K mainGlobals "bool" = some none)
    (z_divmod : PySem.W.nsIn K mainGlobals "divmod" = some none)
    (z_int : PySem.W.nsIn K mainGlobals "int" = some none)
    (z_isinstance : PySem.W.nsIn K mainGlobals "isinstance" = some none)
    (z_len : PySem.W.nsIn K mainGlobals "len" = some none)
    (z_max : PySem.W.nsIn K mainGlobals "max" = some none)
    (z_min : PySem.W.nsIn K mainGlobals "min" = some none)
    (z_range : PySem.W.nsIn K mainGlobals "range" = some none)
    (z_repr : PySem.W.nsIn K mainGlobals "repr" = some none)
    (z_str : PySem.W.nsIn K mainGlobals "str" = some none)
    (z_sum : PySem.W.nsIn K mainGlobals "sum" = some none)
    (z_tuple : PySem.W.nsIn K mainGlobals "tuple" = some none)
    {t_FAULT : Tok} (y_FAULT : PySem.W.nsIn K mainGlobals "FAULT" = some (some (.str "fault" t_FAULT)))
    {t_MOST_ITEMS : Tok} (y_MOST_ITEMS : PySem.W.nsIn K mainGlobals "MOST_ITEMS" = some (some (.int 40 t_MOST_ITEMS)))
    {t_MOST_DEPTH : Tok} (y_MOST_DEPTH : PySem.W.nsIn K mainGlobals "MOST_DEPTH" = some (some (.int 4 t_MOST_DEPTH)))
    {t_MOST_SIZE : Tok} (y_MOST_SIZE : PySem.W.nsIn K mainGlobals "MOST_SIZE" = some (some (.int 1000 t_MOST_SIZE)))
    {f_is_int : Addr} {od_is_int an_is_int : Option Addr} {sl_is_int : Array (Option Value)} {oc_is_int kV_is_int dc_is_int pm_is_int cd_is_int ct_is_int : Value}
    (a_is_int : PySem.W.nsIn K mainGlobals "is_int" = some (some (.ref f_is_int)))
    (l_is_int : K.lookup f_is_int = some ⟨oc_is_int, od_is_int, .func (PySem.W.fnOf "is_int" "is_int" (defArgs s_is_int) (defBody s_is_int) (defScope s_is_int) .none kV_is_int dc_is_int pm_is_int an_is_int cd_is_int ct_is_int), sl_is_int⟩)
    (g_is_int : PySem.W.codeIn K cd_is_int "is_int" = true) (k_is_int : PySem.W.keepIn K (.ref f_is_int) = true)
    {f_is_nested : Addr} {od_is_nested an_is_nested : Option Addr} {sl_is_nested : Array (Option Value)} {oc_is_nested kV_is_nested dc_is_nested pm_is_nested cd_is_nested ct_is_nested : Value}
    (a_is_nested : PySem.W.nsIn K mainGlobals "is_nested" = some (some (.ref f_is_nested)))
    (l_is_nested : K.lookup f_is_nested = some ⟨oc_is_nested, od_is_nested, .func (PySem.W.fnOf "is_nested" "is_nested" (defArgs s_is_nested) (defBody s_is_nested) (defScope s_is_nested) .none kV_is_nested dc_is_nested pm_is_nested an_is_nested cd_is_nested ct_is_nested), sl_is_nested⟩)
    (g_is_nested : PySem.W.codeIn K cd_is_nested "is_nested" = true) (k_is_nested : PySem.W.keepIn K (.ref f_is_nested) = true)
    {f_depth_of : Addr} {od_depth_of an_depth_of : Option Addr} {sl_depth_of : Array (Option Value)} {oc_depth_of kV_depth_of dc_depth_of pm_depth_of cd_depth_of ct_depth_of : Value}
    (a_depth_of : PySem.W.nsIn K mainGlobals "depth_of" = some (some (.ref f_depth_of)))
    (l_depth_of : K.lookup f_depth_of = some ⟨oc_depth_of, od_depth_of, .func (PySem.W.fnOf "depth_of" "depth_of" (defArgs s_depth_of) (defBody s_depth_of) (defScope s_depth_of) .none kV_depth_of dc_depth_of pm_depth_of an_depth_of cd_depth_of ct_depth_of), sl_depth_of⟩)
    (g_depth_of : PySem.W.codeIn K cd_depth_of "depth_of" = true) (k_depth_of : PySem.W.keepIn K (.ref f_depth_of) = true)
    {f_datum_size : Addr} {od_datum_size an_datum_size : Option Addr} {sl_datum_size : Array (Option Value)} {oc_datum_size kV_datum_size dc_datum_size pm_datum_size cd_datum_size ct_datum_size : Value}
    (a_datum_size : PySem.W.nsIn K mainGlobals "datum_size" = some (some (.ref f_datum_size)))
    (l_datum_size : K.lookup f_datum_size = some ⟨oc_datum_size, od_datum_size, .func (PySem.W.fnOf "datum_size" "datum_size" (defArgs s_datum_size) (defBody s_datum_size) (defScope s_datum_size) .none kV_datum_size dc_datum_size pm_datum_size an_datum_size cd_datum_size ct_datum_size), sl_datum_size⟩)
    (g_datum_size : PySem.W.codeIn K cd_datum_size "datum_size" = true) (k_datum_size : PySem.W.keepIn K (.ref f_datum_size) = true)
    {f_is_datum : Addr} {od_is_datum an_is_datum : Option Addr} {sl_is_datum : Array (Option Value)} {oc_is_datum kV_is_datum dc_is_datum pm_is_datum cd_is_datum ct_is_datum : Value}
    (a_is_datum : PySem.W.nsIn K mainGlobals "is_datum" = some (some (.ref f_is_datum)))
    (l_is_datum : K.lookup f_is_datum = some ⟨oc_is_datum, od_is_datum, .func (PySem.W.fnOf "is_datum" "is_datum" (defArgs s_is_datum) (defBody s_is_datum) (defScope s_is_datum) .none kV_is_datum dc_is_datum pm_is_datum an_is_datum cd_is_datum ct_is_datum), sl_is_datum⟩)
    (g_is_datum : PySem.W.codeIn K cd_is_datum "is_datum" = true) (k_is_datum : PySem.W.keepIn K (.ref f_is_datum) = true)
    {f_is_fault : Addr} {od_is_fault an_is_fault : Option Addr} {sl_is_fault : Array (Option Value)} {oc_is_fault kV_is_fault dc_is_fault pm_is_fault cd_is_fault ct_is_fault : Value}
    (a_is_fault : PySem.W.nsIn K mainGlobals "is_fault" = some (some (.ref f_is_fault)))
    (l_is_fault : K.lookup f_is_fault = some ⟨oc_is_fault, od_is_fault, .func (PySem.W.fnOf "is_fault" "is_fault" (defArgs s_is_fault) (defBody s_is_fault) (defScope s_is_fault) .none kV_is_fault dc_is_fault pm_is_fault an_is_fault cd_is_fault ct_is_fault), sl_is_fault⟩)
    (g_is_fault : PySem.W.codeIn K cd_is_fault "is_fault" = true) (k_is_fault : PySem.W.keepIn K (.ref f_is_fault) = true)
    {f_is_value : Addr} {od_is_value an_is_value : Option Addr} {sl_is_value : Array (Option Value)} {oc_is_value kV_is_value dc_is_value pm_is_value cd_is_value ct_is_value : Value}
    (a_is_value : PySem.W.nsIn K mainGlobals "is_value" = some (some (.ref f_is_value)))
    (l_is_value : K.lookup f_is_value = some ⟨oc_is_value, od_is_value, .func (PySem.W.fnOf "is_value" "is_value" (defArgs s_is_value) (defBody s_is_value) (defScope s_is_value) .none kV_is_value dc_is_value pm_is_value an_is_value cd_is_value ct_is_value), sl_is_value⟩)
    (g_is_value : PySem.W.codeIn K cd_is_value "is_value" = true) (k_is_value : PySem.W.keepIn K (.ref f_is_value) = true)
    {f_check_value : Addr} {od_check_value an_check_value : Option Addr} {sl_check_value : Array (Option Value)} {oc_check_value kV_check_value dc_check_value pm_check_value cd_check_value ct_check_value : Value}
    (a_check_value : PySem.W.nsIn K mainGlobals "check_value" = some (some (.ref f_check_value)))
    (l_check_value : K.lookup f_check_value = some ⟨oc_check_value, od_check_value, .func (PySem.W.fnOf "check_value" "check_value" (defArgs s_check_value) (defBody s_check_value) (defScope s_check_value) .none kV_check_value dc_check_value pm_check_value an_check_value cd_check_value ct_check_value), sl_check_value⟩)
    (g_check_value : PySem.W.codeIn K cd_check_value "check_value" = true) (k_check_value : PySem.W.keepIn K (.ref f_check_value) = true)
    {f_size_of : Addr} {od_size_of an_size_of : Option Addr} {sl_size_of : Array (Option Value)} {oc_size_of kV_size_of dc_size_of pm_size_of cd_size_of ct_size_of : Value}
    (a_size_of : PySem.W.nsIn K mainGlobals "size_of" = some (some (.ref f_size_of)))
    (l_size_of : K.lookup f_size_of = some ⟨oc_size_of, od_size_of, .func (PySem.W.fnOf "size_of" "size_of" (defArgs s_size_of) (defBody s_size_of) (defScope s_size_of) .none kV_size_of dc_size_of pm_size_of an_size_of cd_size_of ct_size_of), sl_size_of⟩)
    (g_size_of : PySem.W.codeIn K cd_size_of "size_of" = true) (k_size_of : PySem.W.keepIn K (.ref f_size_of) = true)
    {f_datum_text : Addr} {od_datum_text an_datum_text : Option Addr} {sl_datum_text : Array (Option Value)} {oc_datum_text kV_datum_text dc_datum_text pm_datum_text cd_datum_text ct_datum_text : Value}
    (a_datum_text : PySem.W.nsIn K mainGlobals "datum_text" = some (some (.ref f_datum_text)))
    (l_datum_text : K.lookup f_datum_text = some ⟨oc_datum_text, od_datum_text, .func (PySem.W.fnOf "datum_text" "datum_text" (defArgs s_datum_text) (defBody s_datum_text) (defScope s_datum_text) .none kV_datum_text dc_datum_text pm_datum_text an_datum_text cd_datum_text ct_datum_text), sl_datum_text⟩)
    (g_datum_text : PySem.W.codeIn K cd_datum_text "datum_text" = true) (k_datum_text : PySem.W.keepIn K (.ref f_datum_text) = true)
    {f_format_value : Addr} {od_format_value an_format_value : Option Addr} {sl_format_value : Array (Option Value)} {oc_format_value kV_format_value dc_format_value pm_format_value cd_format_value ct_format_value : Value}
    (a_format_value : PySem.W.nsIn K mainGlobals "format_value" = some (some (.ref f_format_value)))
    (l_format_value : K.lookup f_format_value = some ⟨oc_format_value, od_format_value, .func (PySem.W.fnOf "format_value" "format_value" (defArgs s_format_value) (defBody s_format_value) (defScope s_format_value) .none kV_format_value dc_format_value pm_format_value an_format_value cd_format_value ct_format_value), sl_format_value⟩)
    (g_format_value : PySem.W.codeIn K cd_format_value "format_value" = true) (k_format_value : PySem.W.keepIn K (.ref f_format_value) = true)
    {f_law_pot : Addr} {od_law_pot an_law_pot : Option Addr} {sl_law_pot : Array (Option Value)} {oc_law_pot kV_law_pot dc_law_pot pm_law_pot cd_law_pot ct_law_pot : Value}
    (a_law_pot : PySem.W.nsIn K mainGlobals "_law_pot" = some (some (.ref f_law_pot)))
    (l_law_pot : K.lookup f_law_pot = some ⟨oc_law_pot, od_law_pot, .func (PySem.W.fnOf "_law_pot" "_law_pot" (defArgs s_law_pot) (defBody s_law_pot) (defScope s_law_pot) .none kV_law_pot dc_law_pot pm_law_pot an_law_pot cd_law_pot ct_law_pot), sl_law_pot⟩)
    (g_law_pot : PySem.W.codeIn K cd_law_pot "_law_pot" = true) (k_law_pot : PySem.W.keepIn K (.ref f_law_pot) = true)
    {f_law_digit : Addr} {od_law_digit an_law_digit : Option Addr} {sl_law_digit : Array (Option Value)} {oc_law_digit kV_law_digit dc_law_digit pm_law_digit cd_law_digit ct_law_digit : Value}
    (a_law_digit : PySem.W.nsIn K mainGlobals "_law_digit" = some (some (.ref f_law_digit)))
    (l_law_digit : K.lookup f_law_digit = some ⟨oc_law_digit, od_law_digit, .func (PySem.W.fnOf "_law_digit" "_law_digit" (defArgs s_law_digit) (defBody s_law_digit) (defScope s_law_digit) .none kV_law_digit dc_law_digit pm_law_digit an_law_digit cd_law_digit ct_law_digit), sl_law_digit⟩)
    (g_law_digit : PySem.W.codeIn K cd_law_digit "_law_digit" = true) (k_law_digit : PySem.W.keepIn K (.ref f_law_digit) = true)
    {f_law_pick : Addr} {od_law_pick an_law_pick : Option Addr} {sl_law_pick : Array (Option Value)} {oc_law_pick kV_law_pick dc_law_pick pm_law_pick cd_law_pick ct_law_pick : Value}
    (a_law_pick : PySem.W.nsIn K mainGlobals "_law_pick" = some (some (.ref f_law_pick)))
    (l_law_pick : K.lookup f_law_pick = some ⟨oc_law_pick, od_law_pick, .func (PySem.W.fnOf "_law_pick" "_law_pick" (defArgs s_law_pick) (defBody s_law_pick) (defScope s_law_pick) .none kV_law_pick dc_law_pick pm_law_pick an_law_pick cd_law_pick ct_law_pick), sl_law_pick⟩)
    (g_law_pick : PySem.W.codeIn K cd_law_pick "_law_pick" = true) (k_law_pick : PySem.W.keepIn K (.ref f_law_pick) = true)
    {f_law_int : Addr} {od_law_int an_law_int : Option Addr} {sl_law_int : Array (Option Value)} {oc_law_int kV_law_int dc_law_int pm_law_int cd_law_int ct_law_int : Value}
    (a_law_int : PySem.W.nsIn K mainGlobals "_law_int" = some (some (.ref f_law_int)))
    (l_law_int : K.lookup f_law_int = some ⟨oc_law_int, od_law_int, .func (PySem.W.fnOf "_law_int" "_law_int" (defArgs s_law_int) (defBody s_law_int) (defScope s_law_int) .none kV_law_int dc_law_int pm_law_int an_law_int cd_law_int ct_law_int), sl_law_int⟩)
    (g_law_int : PySem.W.codeIn K cd_law_int "_law_int" = true) (k_law_int : PySem.W.keepIn K (.ref f_law_int) = true)
    {f_law_datum : Addr} {od_law_datum an_law_datum : Option Addr} {sl_law_datum : Array (Option Value)} {oc_law_datum kV_law_datum dc_law_datum pm_law_datum cd_law_datum ct_law_datum : Value}
    (a_law_datum : PySem.W.nsIn K mainGlobals "_law_datum" = some (some (.ref f_law_datum)))
    (l_law_datum : K.lookup f_law_datum = some ⟨oc_law_datum, od_law_datum, .func (PySem.W.fnOf "_law_datum" "_law_datum" (defArgs s_law_datum) (defBody s_law_datum) (defScope s_law_datum) .none kV_law_datum dc_law_datum pm_law_datum an_law_datum cd_law_datum ct_law_datum), sl_law_datum⟩)
    (g_law_datum : PySem.W.codeIn K cd_law_datum "_law_datum" = true) (k_law_datum : PySem.W.keepIn K (.ref f_law_datum) = true)
    {f_law_is_int : Addr} {od_law_is_int an_law_is_int : Option Addr} {sl_law_is_int : Array (Option Value)} {oc_law_is_int kV_law_is_int dc_law_is_int pm_law_is_int cd_law_is_int ct_law_is_int : Value}
    (a_law_is_int : PySem.W.nsIn K mainGlobals "_law_is_int" = some (some (.ref f_law_is_int)))
    (l_law_is_int : K.lookup f_law_is_int = some ⟨oc_law_is_int, od_law_is_int, .func (PySem.W.fnOf "_law_is_int" "_law_is_int" (defArgs s_law_is_int) (defBody s_law_is_int) (defScope s_law_is_int) .none kV_law_is_int dc_law_is_int pm_law_is_int an_law_is_int cd_law_is_int ct_law_is_int), sl_law_is_int⟩)
    (g_law_is_int : PySem.W.codeIn K cd_law_is_int "_law_is_int" = true) (k_law_is_int : PySem.W.keepIn K (.ref f_law_is_int) = true)
    {f_law_size : Addr} {od_law_size an_law_size : Option Addr} {sl_law_size : Array (Option Value)} {oc_law_size kV_law_size dc_law_size pm_law_size cd_law_size ct_law_size : Value}
    (a_law_size : PySem.W.nsIn K mainGlobals "_law_size" = some (some (.ref f_law_size)))
    (l_law_size : K.lookup f_law_size = some ⟨oc_law_size, od_law_size, .func (PySem.W.fnOf "_law_size" "_law_size" (defArgs s_law_size) (defBody s_law_size) (defScope s_law_size) .none kV_law_size dc_law_size pm_law_size an_law_size cd_law_size ct_law_size), sl_law_size⟩)
    (g_law_size : PySem.W.codeIn K cd_law_size "_law_size" = true) (k_law_size : PySem.W.keepIn K (.ref f_law_size) = true)
    {f_law_deep : Addr} {od_law_deep an_law_deep : Option Addr} {sl_law_deep : Array (Option Value)} {oc_law_deep kV_law_deep dc_law_deep pm_law_deep cd_law_deep ct_law_deep : Value}
    (a_law_deep : PySem.W.nsIn K mainGlobals "_law_deep" = some (some (.ref f_law_deep)))
    (l_law_deep : K.lookup f_law_deep = some ⟨oc_law_deep, od_law_deep, .func (PySem.W.fnOf "_law_deep" "_law_deep" (defArgs s_law_deep) (defBody s_law_deep) (defScope s_law_deep) .none kV_law_deep dc_law_deep pm_law_deep an_law_deep cd_law_deep ct_law_deep), sl_law_deep⟩)
    (g_law_deep : PySem.W.codeIn K cd_law_deep "_law_deep" = true) (k_law_deep : PySem.W.keepIn K (.ref f_law_deep) = true)
    {f_law_fits : Addr} {od_law_fits an_law_fits : Option Addr} {sl_law_fits : Array (Option Value)} {oc_law_fits kV_law_fits dc_law_fits pm_law_fits cd_law_fits ct_law_fits : Value}
    (a_law_fits : PySem.W.nsIn K mainGlobals "_law_fits" = some (some (.ref f_law_fits)))
    (l_law_fits : K.lookup f_law_fits = some ⟨oc_law_fits, od_law_fits, .func (PySem.W.fnOf "_law_fits" "_law_fits" (defArgs s_law_fits) (defBody s_law_fits) (defScope s_law_fits) .none kV_law_fits dc_law_fits pm_law_fits an_law_fits cd_law_fits ct_law_fits), sl_law_fits⟩)
    (g_law_fits : PySem.W.codeIn K cd_law_fits "_law_fits" = true) (k_law_fits : PySem.W.keepIn K (.ref f_law_fits) = true)
    {f_law_odd : Addr} {od_law_odd an_law_odd : Option Addr} {sl_law_odd : Array (Option Value)} {oc_law_odd kV_law_odd dc_law_odd pm_law_odd cd_law_odd ct_law_odd : Value}
    (a_law_odd : PySem.W.nsIn K mainGlobals "_law_odd" = some (some (.ref f_law_odd)))
    (l_law_odd : K.lookup f_law_odd = some ⟨oc_law_odd, od_law_odd, .func (PySem.W.fnOf "_law_odd" "_law_odd" (defArgs s_law_odd) (defBody s_law_odd) (defScope s_law_odd) .none kV_law_odd dc_law_odd pm_law_odd an_law_odd cd_law_odd ct_law_odd), sl_law_odd⟩)
    (g_law_odd : PySem.W.codeIn K cd_law_odd "_law_odd" = true) (k_law_odd : PySem.W.keepIn K (.ref f_law_odd) = true)
    {f_law_heavy : Addr} {od_law_heavy an_law_heavy : Option Addr} {sl_law_heavy : Array (Option Value)} {oc_law_heavy kV_law_heavy dc_law_heavy pm_law_heavy cd_law_heavy ct_law_heavy : Value}
    (a_law_heavy : PySem.W.nsIn K mainGlobals "_law_heavy" = some (some (.ref f_law_heavy)))
    (l_law_heavy : K.lookup f_law_heavy = some ⟨oc_law_heavy, od_law_heavy, .func (PySem.W.fnOf "_law_heavy" "_law_heavy" (defArgs s_law_heavy) (defBody s_law_heavy) (defScope s_law_heavy) .none kV_law_heavy dc_law_heavy pm_law_heavy an_law_heavy cd_law_heavy ct_law_heavy), sl_law_heavy⟩)
    (g_law_heavy : PySem.W.codeIn K cd_law_heavy "_law_heavy" = true) (k_law_heavy : PySem.W.keepIn K (.ref f_law_heavy) = true)
    {f_law_nested : Addr} {od_law_nested an_law_nested : Option Addr} {sl_law_nested : Array (Option Value)} {oc_law_nested kV_law_nested dc_law_nested pm_law_nested cd_law_nested ct_law_nested : Value}
    (a_law_nested : PySem.W.nsIn K mainGlobals "_law_nested" = some (some (.ref f_law_nested)))
    (l_law_nested : K.lookup f_law_nested = some ⟨oc_law_nested, od_law_nested, .func (PySem.W.fnOf "_law_nested" "_law_nested" (defArgs s_law_nested) (defBody s_law_nested) (defScope s_law_nested) .none kV_law_nested dc_law_nested pm_law_nested an_law_nested cd_law_nested ct_law_nested), sl_law_nested⟩)
    (g_law_nested : PySem.W.codeIn K cd_law_nested "_law_nested" = true) (k_law_nested : PySem.W.keepIn K (.ref f_law_nested) = true)
    {f_law_bent : Addr} {od_law_bent an_law_bent : Option Addr} {sl_law_bent : Array (Option Value)} {oc_law_bent kV_law_bent dc_law_bent pm_law_bent cd_law_bent ct_law_bent : Value}
    (a_law_bent : PySem.W.nsIn K mainGlobals "_law_bent" = some (some (.ref f_law_bent)))
    (l_law_bent : K.lookup f_law_bent = some ⟨oc_law_bent, od_law_bent, .func (PySem.W.fnOf "_law_bent" "_law_bent" (defArgs s_law_bent) (defBody s_law_bent) (defScope s_law_bent) .none kV_law_bent dc_law_bent pm_law_bent an_law_bent cd_law_bent ct_law_bent), sl_law_bent⟩)
    (g_law_bent : PySem.W.codeIn K cd_law_bent "_law_bent" = true) (k_law_bent : PySem.W.keepIn K (.ref f_law_bent) = true)
    {f_law_any : Addr} {od_law_any an_law_any : Option Addr} {sl_law_any : Array (Option Value)} {oc_law_any kV_law_any dc_law_any pm_law_any cd_law_any ct_law_any : Value}
    (a_law_any : PySem.W.nsIn K mainGlobals "_law_any" = some (some (.ref f_law_any)))
    (l_law_any : K.lookup f_law_any = some ⟨oc_law_any, od_law_any, .func (PySem.W.fnOf "_law_any" "_law_any" (defArgs s_law_any) (defBody s_law_any) (defScope s_law_any) .none kV_law_any dc_law_any pm_law_any an_law_any cd_law_any ct_law_any), sl_law_any⟩)
    (g_law_any : PySem.W.codeIn K cd_law_any "_law_any" = true) (k_law_any : PySem.W.keepIn K (.ref f_law_any) = true)
    {f_law_is_plain : Addr} {od_law_is_plain an_law_is_plain : Option Addr} {sl_law_is_plain : Array (Option Value)} {oc_law_is_plain kV_law_is_plain dc_law_is_plain pm_law_is_plain cd_law_is_plain ct_law_is_plain : Value}
    (a_law_is_plain : PySem.W.nsIn K mainGlobals "_law_is_plain" = some (some (.ref f_law_is_plain)))
    (l_law_is_plain : K.lookup f_law_is_plain = some ⟨oc_law_is_plain, od_law_is_plain, .func (PySem.W.fnOf "_law_is_plain" "_law_is_plain" (defArgs s_law_is_plain) (defBody s_law_is_plain) (defScope s_law_is_plain) .none kV_law_is_plain dc_law_is_plain pm_law_is_plain an_law_is_plain cd_law_is_plain ct_law_is_plain), sl_law_is_plain⟩)
    (g_law_is_plain : PySem.W.codeIn K cd_law_is_plain "_law_is_plain" = true) (k_law_is_plain : PySem.W.keepIn K (.ref f_law_is_plain) = true)
    {f_law_refused : Addr} {od_law_refused an_law_refused : Option Addr} {sl_law_refused : Array (Option Value)} {oc_law_refused kV_law_refused dc_law_refused pm_law_refused cd_law_refused ct_law_refused : Value}
    (a_law_refused : PySem.W.nsIn K mainGlobals "_law_refused" = some (some (.ref f_law_refused)))
    (l_law_refused : K.lookup f_law_refused = some ⟨oc_law_refused, od_law_refused, .func (PySem.W.fnOf "_law_refused" "_law_refused" (defArgs s_law_refused) (defBody s_law_refused) (defScope s_law_refused) .none kV_law_refused dc_law_refused pm_law_refused an_law_refused cd_law_refused ct_law_refused), sl_law_refused⟩)
    (g_law_refused : PySem.W.codeIn K cd_law_refused "_law_refused" = true) (k_law_refused : PySem.W.keepIn K (.ref f_law_refused) = true)
    {f_law_right : Addr} {od_law_right an_law_right : Option Addr} {sl_law_right : Array (Option Value)} {oc_law_right kV_law_right dc_law_right pm_law_right cd_law_right ct_law_right : Value}
    (a_law_right : PySem.W.nsIn K mainGlobals "_law_right" = some (some (.ref f_law_right)))
    (l_law_right : K.lookup f_law_right = some ⟨oc_law_right, od_law_right, .func (PySem.W.fnOf "_law_right" "_law_right" (defArgs s_law_right) (defBody s_law_right) (defScope s_law_right) .none kV_law_right dc_law_right pm_law_right an_law_right cd_law_right ct_law_right), sl_law_right⟩)
    (g_law_right : PySem.W.codeIn K cd_law_right "_law_right" = true) (k_law_right : PySem.W.keepIn K (.ref f_law_right) = true)
    {f_law : Addr} {od_law an_law : Option Addr} {sl_law : Array (Option Value)} {oc_law kV_law dc_law pm_law cd_law ct_law : Value}
    (a_law : PySem.W.nsIn K mainGlobals "law" = some (some (.ref f_law)))
    (l_law : K.lookup f_law = some ⟨oc_law, od_law, .func (PySem.W.fnOf "law" "law" (defArgs s_law) (defBody s_law) (defScope s_law) .none kV_law dc_law pm_law an_law cd_law ct_law), sl_law⟩)
    (g_law : PySem.W.codeIn K cd_law "law" = true) (k_law : PySem.W.keepIn K (.ref f_law) = true)
    {C_InvalidValue : Addr}
    (a_InvalidValue : PySem.W.nsIn K mainGlobals "InvalidValue" = some (some (.ref C_InvalidValue)))
    {C_SessionError : Addr}
    (a_SessionError : PySem.W.nsIn K mainGlobals "SessionError" = some (some (.ref C_SessionError)))
    {C_InvalidExpression : Addr}
    (a_InvalidExpression : PySem.W.nsIn K mainGlobals "InvalidExpression" = some (some (.ref C_InvalidExpression)))
    {C_InvalidName : Addr}
    (a_InvalidName : PySem.W.nsIn K mainGlobals "InvalidName" = some (some (.ref C_InvalidName)))
    {C_InvalidText : Addr}
    (a_InvalidText : PySem.W.nsIn K mainGlobals "InvalidText" = some (some (.ref C_InvalidText)))
    {C_LimitError : Addr}
    (a_LimitError : PySem.W.nsIn K mainGlobals "LimitError" = some (some (.ref C_LimitError)))
    {C_MissingError : Addr}
    (a_MissingError : PySem.W.nsIn K mainGlobals "MissingError" = some (some (.ref C_MissingError)))
    {C_StateError : Addr}
    (a_StateError : PySem.W.nsIn K mainGlobals "StateError" = some (some (.ref C_StateError)))
    {I_InvalidValue : Addr} {oc_InvalidValue : Value} {od_InvalidValue an_InvalidValue : Option Addr} {sl_InvalidValue : Array (Option Value)} {kV_InvalidValue dc_InvalidValue pm_InvalidValue cd_InvalidValue ct_InvalidValue : Value}
    (k1_InvalidValue : PySem.W.excInitIn K C_InvalidValue bm_ValueError "ValueError.__new__" = true)
    (k2_InvalidValue : PySem.W.excOver K C_InvalidValue bm_ValueError = true)
    (k3_InvalidValue : PySem.W.hasDictIn K C_InvalidValue = true)
    (k4_InvalidValue : PySem.W.findIn K (.ref C_InvalidValue) "__setattr__" = some (some (.builtin "object.__setattr__")))
    (k5_InvalidValue : PySem.W.subIn K (.ref C_InvalidValue) (.type "BaseException") = some true)
    (k6_InvalidValue : PySem.W.typeIn K (.ref C_InvalidValue) = some (.type "type"))
    (k7_InvalidValue : PySem.W.keepIn K (.ref C_InvalidValue) = true)
    (k8_InvalidValue : PySem.W.findIn K (.ref C_InvalidValue) "__init__" = some (some (.ref I_InvalidValue)))
    (k9_InvalidValue : PySem.W.typeIn K (.ref I_InvalidValue) = some (.type "function"))
    (ka_InvalidValue : K.lookup I_InvalidValue = some ⟨oc_InvalidValue, od_InvalidValue, .func (PySem.W.fnOf "__init__" "InvalidValue.__init__" (defArgs i_InvalidValue) (defBody i_InvalidValue) (defScope i_InvalidValue) .none kV_InvalidValue dc_InvalidValue pm_InvalidValue an_InvalidValue cd_InvalidValue ct_InvalidValue), sl_InvalidValue⟩)
    (kb_InvalidValue : PySem.W.codeIn K cd_InvalidValue "InvalidValue.__init__" = true)
    (kc_InvalidValue : PySem.W.keepIn K (.ref I_InvalidValue) = true)
    (f_InvalidValue_value : PySem.W.takerIn K C_InvalidValue "value" = some none)
    (g_InvalidValue_value : PySem.W.findIn K (.ref C_InvalidValue) "value" = some none)
    (x1_InvalidValue : PySem.W.findIn K (.ref C_InvalidValue) "__getattribute__" = some (some (.builtin "BaseException.__getattribute__")))
    (x2_InvalidValue : PySem.W.findIn K (.ref C_InvalidValue) "__getattr__" = some none)
    (x3_InvalidValue : PySem.W.findIn K (.ref C_InvalidValue) "__class__" = some (some (.builtin "object.__class__")))
    (x4_InvalidValue : PySem.W.mroIn K C_InvalidValue (.type "object") = some true)
    (z_InvalidValue : PySem.W.subIn K (.ref C_InvalidValue) (.ref C_InvalidValue) = some true)
    (s_InvalidValue_SessionError : PySem.W.subIn K (.ref C_InvalidValue) (.ref C_SessionError) = some true)
    (s_InvalidValue_InvalidValue : PySem.W.subIn K (.ref C_InvalidValue) (.ref C_InvalidValue) = some true)
    (s_InvalidValue_ValueError : PySem.W.subIn K (.ref C_InvalidValue) (.type "ValueError") = some true)
    (s_InvalidValue_InvalidExpression : PySem.W.subIn K (.ref C_InvalidValue) (.ref C_InvalidExpression) = some false)
    (s_InvalidValue_InvalidName : PySem.W.subIn K (.ref C_InvalidValue) (.ref C_InvalidName) = some false)
    (s_InvalidValue_InvalidText : PySem.W.subIn K (.ref C_InvalidValue) (.ref C_InvalidText) = some false)
    (s_InvalidValue_LimitError : PySem.W.subIn K (.ref C_InvalidValue) (.ref C_LimitError) = some false)
    (s_InvalidValue_MissingError : PySem.W.subIn K (.ref C_InvalidValue) (.ref C_MissingError) = some false)
    (s_InvalidValue_StateError : PySem.W.subIn K (.ref C_InvalidValue) (.ref C_StateError) = some false)
    (iy_SessionError : PySem.W.isClsIn K C_SessionError = true)
    (ty_SessionError : PySem.W.typeIn K (.ref C_SessionError) = some (.type "type"))
    (by_SessionError : PySem.W.subIn K (.ref C_SessionError) (.type "BaseException") = some true)
    (iy_InvalidValue : PySem.W.isClsIn K C_InvalidValue = true)
    (ty_InvalidValue : PySem.W.typeIn K (.ref C_InvalidValue) = some (.type "type"))
    (by_InvalidValue : PySem.W.subIn K (.ref C_InvalidValue) (.type "BaseException") = some true)
    (iy_InvalidExpression : PySem.W.isClsIn K C_InvalidExpression = true)
    (ty_InvalidExpression : PySem.W.typeIn K (.ref C_InvalidExpression) = some (.type "type"))
    (by_InvalidExpression : PySem.W.subIn K (.ref C_InvalidExpression) (.type "BaseException") = some true)
    (iy_InvalidName : PySem.W.isClsIn K C_InvalidName = true)
    (ty_InvalidName : PySem.W.typeIn K (.ref C_InvalidName) = some (.type "type"))
    (by_InvalidName : PySem.W.subIn K (.ref C_InvalidName) (.type "BaseException") = some true)
    (iy_InvalidText : PySem.W.isClsIn K C_InvalidText = true)
    (ty_InvalidText : PySem.W.typeIn K (.ref C_InvalidText) = some (.type "type"))
    (by_InvalidText : PySem.W.subIn K (.ref C_InvalidText) (.type "BaseException") = some true)
    (iy_LimitError : PySem.W.isClsIn K C_LimitError = true)
    (ty_LimitError : PySem.W.typeIn K (.ref C_LimitError) = some (.type "type"))
    (by_LimitError : PySem.W.subIn K (.ref C_LimitError) (.type "BaseException") = some true)
    (iy_MissingError : PySem.W.isClsIn K C_MissingError = true)
    (ty_MissingError : PySem.W.typeIn K (.ref C_MissingError) = some (.type "type"))
    (by_MissingError : PySem.W.subIn K (.ref C_MissingError) (.type "BaseException") = some true)
    (iy_StateError : PySem.W.isClsIn K C_StateError = true)
    (ty_StateError : PySem.W.typeIn K (.ref C_StateError) = some (.type "type"))
    (by_StateError : PySem.W.subIn K (.ref C_StateError) (.type "BaseException") = some true)
    (x5_exc : PySem.W.specialIn K (.builtin "object.__class__") "__get__" = some (some (.builtin "getset_descriptor.__get__")))
    (x6_exc : PySem.W.takesIn K (.builtin "object.__class__") = some true)
    (b1_SessionError : PySem.W.readsIn K C_SessionError (.type "type") = true)
    (b2_SessionError : PySem.W.findCls K (.ref C_SessionError) (.type "type") "__init__" = some (.val (.builtin "ValueError.__init__")))
    (b3_SessionError : PySem.W.specialIn K (.ref C_SessionError) "__getattribute__" = some (some (.builtin "type.__getattribute__"))) :
    Tx K mg := {
    n_ValueError := PySem.W.mg_none_of X G z_ValueError
    n_abs := PySem.W.mg_none_of X G z_abs
    n_all := PySem.W.mg_none_of X G z_all
    n_bool := PySem.W.mg_none_of X G z_bool
    n_divmod := PySem.W.mg_none_of X G z_divmod
    n_int := PySem.W.mg_none_of X G z_int
    n_isinstance := PySem.W.mg_none_of X G z_isinstance
    n_len := PySem.W.mg_none_of X G z_len
    n_max := PySem.W.mg_none_of X G z_max
    n_min := PySem.W.mg_none_of X G z_min
    n_range := PySem.W.mg_none_of X G z_range
    n_repr := PySem.W.mg_none_of X G z_repr
    n_str := PySem.W.mg_none_of X G z_str
    n_sum := PySem.W.mg_none_of X G z_sum
    n_tuple := PySem.W.mg_none_of X G z_tuple
    c_FAULT := ⟨_, PySem.W.mg_of X G y_FAULT, _, rfl⟩
    c_MOST_ITEMS := ⟨_, PySem.W.mg_of X G y_MOST_ITEMS, _, rfl⟩
    c_MOST_DEPTH := ⟨_, PySem.W.mg_of X G y_MOST_DEPTH, _, rfl⟩
    c_MOST_SIZE := ⟨_, PySem.W.mg_of X G y_MOST_SIZE, _, rfl⟩
    d_is_int := Df.make (PySem.W.mg_of X G a_is_int) l_is_int g_is_int k_is_int fun _ _ _ _ _ _ us hl => match us, hl with | [_], _ => rfl
    d_is_nested := Df.make (PySem.W.mg_of X G a_is_nested) l_is_nested g_is_nested k_is_nested fun _ _ _ _ _ _ us hl => match us, hl with | [_], _ => rfl
    d_depth_of := Df.make (PySem.W.mg_of X G a_depth_of) l_depth_of g_depth_of k_depth_of fun _ _ _ _ _ _ us hl => match us, hl with | [_], _ => rfl
    d_datum_size := Df.make (PySem.W.mg_of X G a_datum_size) l_datum_size g_datum_size k_datum_size fun _ _ _ _ _ _ us hl => match us, hl with | [_], _ => rfl
    d_is_datum := Df.make (PySem.W.mg_of X G a_is_datum) l_is_datum g_is_datum k_is_datum fun _ _ _ _ _ _ us hl => match us, hl with | [_], _ => rfl
    d_is_fault := Df.make (PySem.W.mg_of X G a_is_fault) l_is_fault g_is_fault k_is_fault fun _ _ _ _ _ _ us hl => match us, hl with | [_], _ => rfl
    d_is_value := Df.make (PySem.W.mg_of X G a_is_value) l_is_value g_is_value k_is_value fun _ _ _ _ _ _ us hl => match us, hl with | [_], _ => rfl
    d_check_value := Df.make (PySem.W.mg_of X G a_check_value) l_check_value g_check_value k_check_value fun _ _ _ _ _ _ us hl => match us, hl with | [_], _ => rfl
    d_size_of := Df.make (PySem.W.mg_of X G a_size_of) l_size_of g_size_of k_size_of fun _ _ _ _ _ _ us hl => match us, hl with | [_], _ => rfl
    d_datum_text := Df.make (PySem.W.mg_of X G a_datum_text) l_datum_text g_datum_text k_datum_text fun _ _ _ _ _ _ us hl => match us, hl with | [_], _ => rfl
    d_format_value := Df.make (PySem.W.mg_of X G a_format_value) l_format_value g_format_value k_format_value fun _ _ _ _ _ _ us hl => match us, hl with | [_], _ => rfl
    d_law_pot := Df.make (PySem.W.mg_of X G a_law_pot) l_law_pot g_law_pot k_law_pot fun _ _ _ _ _ _ us hl => match us, hl with | [_, _], _ => rfl
    d_law_digit := Df.make (PySem.W.mg_of X G a_law_digit) l_law_digit g_law_digit k_law_digit fun _ _ _ _ _ _ us hl => match us, hl with | [_, _], _ => rfl
    d_law_pick := Df.make (PySem.W.mg_of X G a_law_pick) l_law_pick g_law_pick k_law_pick fun _ _ _ _ _ _ us hl => match us, hl with | [_, _], _ => rfl
    d_law_int := Df.make (PySem.W.mg_of X G a_law_int) l_law_int g_law_int k_law_int fun _ _ _ _ _ _ us hl => match us, hl with | [_], _ => rfl
    d_law_datum := Df.make (PySem.W.mg_of X G a_law_datum) l_law_datum g_law_datum k_law_datum fun _ _ _ _ _ _ us hl => match us, hl with | [_, _], _ => rfl
    d_law_is_int := Df.make (PySem.W.mg_of X G a_law_is_int) l_law_is_int g_law_is_int k_law_is_int fun _ _ _ _ _ _ us hl => match us, hl with | [_], _ => rfl
    d_law_size := Df.make (PySem.W.mg_of X G a_law_size) l_law_size g_law_size k_law_size fun _ _ _ _ _ _ us hl => match us, hl with | [_], _ => rfl
    d_law_deep := Df.make (PySem.W.mg_of X G a_law_deep) l_law_deep g_law_deep k_law_deep fun _ _ _ _ _ _ us hl => match us, hl with | [_], _ => rfl
    d_law_fits := Df.make (PySem.W.mg_of X G a_law_fits) l_law_fits g_law_fits k_law_fits fun _ _ _ _ _ _ us hl => match us, hl with | [_], _ => rfl
    d_law_odd := Df.make (PySem.W.mg_of X G a_law_odd) l_law_odd g_law_odd k_law_odd fun _ _ _ _ _ _ us hl => match us, hl with | [_], _ => rfl
    d_law_heavy := Df.make (PySem.W.mg_of X G a_law_heavy) l_law_heavy g_law_heavy k_law_heavy fun _ _ _ _ _ _ us hl => match us, hl with | [_, _], _ => rfl
    d_law_nested := Df.make (PySem.W.mg_of X G a_law_nested) l_law_nested g_law_nested k_law_nested fun _ _ _ _ _ _ us hl => match us, hl with | [_, _], _ => rfl
    d_law_bent := Df.make (PySem.W.mg_of X G a_law_bent) l_law_bent g_law_bent k_law_bent fun _ _ _ _ _ _ us hl => match us, hl with | [_, _], _ => rfl
    d_law_any := Df.make (PySem.W.mg_of X G a_law_any) l_law_any g_law_any k_law_any fun _ _ _ _ _ _ us hl => match us, hl with | [_], _ => rfl
    d_law_is_plain := Df.make (PySem.W.mg_of X G a_law_is_plain) l_law_is_plain g_law_is_plain k_law_is_plain fun _ _ _ _ _ _ us hl => match us, hl with | [_], _ => rfl
    d_law_refused := Df.make (PySem.W.mg_of X G a_law_refused) l_law_refused g_law_refused k_law_refused fun _ _ _ _ _ _ us hl => match us, hl with | [_], _ => rfl
    d_law_right := Df.make (PySem.W.mg_of X G a_law_right) l_law_right g_law_right k_law_right fun _ _ _ _ _ _ us hl => match us, hl with | [_], _ => rfl
    d_law := Df.make (PySem.W.mg_of X G a_law) l_law g_law k_law fun _ _ _ _ _ _ us hl => match us, hl with | [_], _ => rfl
    m_InvalidValue := by rw [fA_eq (PySem.W.mg_of X G a_InvalidValue)]; exact PySem.W.mg_of X G a_InvalidValue
    m_SessionError := by rw [fA_eq (PySem.W.mg_of X G a_SessionError)]; exact PySem.W.mg_of X G a_SessionError
    m_InvalidExpression := by rw [fA_eq (PySem.W.mg_of X G a_InvalidExpression)]; exact PySem.W.mg_of X G a_InvalidExpression
    m_InvalidName := by rw [fA_eq (PySem.W.mg_of X G a_InvalidName)]; exact PySem.W.mg_of X G a_InvalidName
    m_InvalidText := by rw [fA_eq (PySem.W.mg_of X G a_InvalidText)]; exact PySem.W.mg_of X G a_InvalidText
    m_LimitError := by rw [fA_eq (PySem.W.mg_of X G a_LimitError)]; exact PySem.W.mg_of X G a_LimitError
    m_MissingError := by rw [fA_eq (PySem.W.mg_of X G a_MissingError)]; exact PySem.W.mg_of X G a_MissingError
    m_StateError := by rw [fA_eq (PySem.W.mg_of X G a_StateError)]; exact PySem.W.mg_of X G a_StateError
    k_InvalidValue := xd_mk (PySem.W.mg_of X G a_InvalidValue) k1_InvalidValue k2_InvalidValue k3_InvalidValue k4_InvalidValue k5_InvalidValue k6_InvalidValue k7_InvalidValue k8_InvalidValue k9_InvalidValue ka_InvalidValue kb_InvalidValue kc_InvalidValue fun _ _ _ _ _ _ us hl => match us, hl with | [_, _], _ => rfl
    f_InvalidValue_value := by rw [fA_eq (PySem.W.mg_of X G a_InvalidValue)]; exact f_InvalidValue_value
    g_InvalidValue_value := by rw [fA_eq (PySem.W.mg_of X G a_InvalidValue)]; exact g_InvalidValue_value
    x_InvalidValue := by rw [fA_eq (PySem.W.mg_of X G a_InvalidValue)]; exact ⟨x1_InvalidValue, x2_InvalidValue, k5_InvalidValue, k3_InvalidValue, x3_InvalidValue, x5_exc, x6_exc, x4_InvalidValue⟩
    v_InvalidValue := by rw [fA_eq (PySem.W.mg_of X G a_InvalidValue)]; exact ⟨x1_InvalidValue, x2_InvalidValue, k5_InvalidValue, k3_InvalidValue⟩
    e_InvalidValue_SessionError := by rw [fA_eq (PySem.W.mg_of X G a_InvalidValue), fA_eq (PySem.W.mg_of X G a_SessionError)]; exact kit_exm (kit_own iy_SessionError ty_SessionError s_InvalidValue_SessionError) by_SessionError
    q_InvalidValue_InvalidValue := by rw [fA_eq (PySem.W.mg_of X G a_InvalidValue)]; exact (kit_one (kit_own iy_InvalidValue ty_InvalidValue s_InvalidValue_InvalidValue) z_InvalidValue s_InvalidValue_InvalidValue)
    q_InvalidValue_ValueError := by rw [fA_eq (PySem.W.mg_of X G a_InvalidValue)]; exact (kit_one (kit_bi (by decide +kernel) s_InvalidValue_ValueError) z_InvalidValue s_InvalidValue_ValueError)
    q_InvalidValue_InvalidExpression_InvalidName_InvalidText := by rw [fA_eq (PySem.W.mg_of X G a_InvalidValue), fA_eq (PySem.W.mg_of X G a_InvalidExpression), fA_eq (PySem.W.mg_of X G a_InvalidName), fA_eq (PySem.W.mg_of X G a_InvalidText)]; exact (any_f (kit_one (kit_own iy_InvalidExpression ty_InvalidExpression s_InvalidValue_InvalidExpression) z_InvalidValue s_InvalidValue_InvalidExpression) (any_f (kit_one (kit_own iy_InvalidName ty_InvalidName s_InvalidValue_InvalidName) z_InvalidValue s_InvalidValue_InvalidName) (any_f (kit_one (kit_own iy_InvalidText ty_InvalidText s_InvalidValue_InvalidText) z_InvalidValue s_InvalidValue_InvalidText) any_0)))
    q_InvalidValue_LimitError_MissingError_StateError := by rw [fA_eq (PySem.W.mg_of X G a_InvalidValue), fA_eq (PySem.W.mg_of X G a_LimitError), fA_eq (PySem.W.mg_of X G a_MissingError), fA_eq (PySem.W.mg_of X G a_StateError)]; exact (any_f (kit_one (kit_own iy_LimitError ty_LimitError s_InvalidValue_LimitError) z_InvalidValue s_InvalidValue_LimitError) (any_f (kit_one (kit_own iy_MissingError ty_MissingError s_InvalidValue_MissingError) z_InvalidValue s_InvalidValue_MissingError) (any_f (kit_one (kit_own iy_StateError ty_StateError s_InvalidValue_StateError) z_InvalidValue s_InvalidValue_StateError) any_0)))
    n_SessionError := by rw [fA_eq (PySem.W.mg_of X G a_SessionError)]; exact ⟨PySem.W.mg_of X G a_SessionError, b1_SessionError, b2_SessionError, b3_SessionError⟩ }

end My
end

section
set_option Elab.async false
set_option linter.all false
set_option maxRecDepth 100000
set_option maxHeartbeats 4000000
open PySem PySem.W PyProof.Rows
set_option maxHeartbeats 0 in
theorem PySem.Challenge.cw_leastsession_k10_values_judged_holds : PySem.Challenge.rw_leastsession_k10_values_judged.Holds := by
  w_on; o_law; k_head; (case hw => w_witness2)
  k_fill
  refine Ls.walk_gT (l := PySem.Challenge.rw_leastsession_k10_values_judged) (n := 63) (k := 20) (x := "_law_script") (st := My.s_law) (sp := fun K mg => My.sp_law K mg) (nms := ["_law_right"]) rfl (by decide) rfl ⟨rfl, by decide, by decide⟩ (by decide +kernel) (fun w h Y => by first | exact PySem.W.km_in_of Y | exact PySem.W.kIn_of Y) ?T ?F (fun K mg H a ns hn ht hS => Ls.lawT_start K mg H a ns hn ht hS)
  case T =>
    intro w mg h KX G y hy
    repeat' (first | (obtain ⟨⟩ := hy; done) | rcases List.mem_cons.mp hy with rfl | hy)
    all_goals
      refine' Ls.tb_mk (PySem.W.mg_of KX G ?a) ?l ?fc ?lc ?fv ?fn
      (case a => k_is)
      (case l => k_is)
      (case fc => exact rfl)
      (case lc => k_is)
      (case fv => exact rfl)
      (case fn => kernel_rfl)
  case F =>
    intro w mg fa h KX G hmg TB base hb1 hb2 hb3
    refine My.all_ok ?T TB hb3
    refine' My.tx_mk KX G ?z_ValueError ?z_abs ?z_all ?z_bool ?z_divmod ?z_int ?z_isinstance ?z_len ?z_max ?z_min ?z_range ?z_repr ?z_str ?z_sum ?z_tuple ?y_FAULT ?y_MOST_ITEMS ?y_MOST_DEPTH ?y_MOST_SIZE ?a_is_int ?l_is_int ?g_is_int ?k_is_int ?a_is_nested ?l_is_nested ?g_is_nested ?k_is_nested ?a_depth_of ?l_depth_of ?g_depth_of ?k_depth_of ?a_datum_size ?l_datum_size ?g_datum_size ?k_datum_size ?a_is_datum ?l_is_datum ?g_is_datum ?k_is_datum ?a_is_fault ?l_is_fault ?g_is_fault ?k_is_fault ?a_is_value ?l_is_value ?g_is_value ?k_is_value ?a_check_value ?l_check_value ?g_check_value ?k_check_value ?a_size_of ?l_size_of ?g_size_of ?k_size_of ?a_datum_text ?l_datum_text ?g_datum_text ?k_datum_text ?a_format_value ?l_format_value ?g_format_value ?k_format_value ?a_law_pot ?l_law_pot ?g_law_pot ?k_law_pot ?a_law_digit ?l_law_digit ?g_law_digit ?k_law_digit ?a_law_pick ?l_law_pick ?g_law_pick ?k_law_pick ?a_law_int ?l_law_int ?g_law_int ?k_law_int ?a_law_datum ?l_law_datum ?g_law_datum ?k_law_datum ?a_law_is_int ?l_law_is_int ?g_law_is_int ?k_law_is_int ?a_law_size ?l_law_size ?g_law_size ?k_law_size ?a_law_deep ?l_law_deep ?g_law_deep ?k_law_deep ?a_law_fits ?l_law_fits ?g_law_fits ?k_law_fits ?a_law_odd ?l_law_odd ?g_law_odd ?k_law_odd ?a_law_heavy ?l_law_heavy ?g_law_heavy ?k_law_heavy ?a_law_nested ?l_law_nested ?g_law_nested ?k_law_nested ?a_law_bent ?l_law_bent ?g_law_bent ?k_law_bent ?a_law_any ?l_law_any ?g_law_any ?k_law_any ?a_law_is_plain ?l_law_is_plain ?g_law_is_plain ?k_law_is_plain ?a_law_refused ?l_law_refused ?g_law_refused ?k_law_refused ?a_law_right ?l_law_right ?g_law_right ?k_law_right ?a_law ?l_law ?g_law ?k_law ?a_InvalidValue ?a_SessionError ?a_InvalidExpression ?a_InvalidName ?a_InvalidText ?a_LimitError ?a_MissingError ?a_StateError ?k1_InvalidValue ?k2_InvalidValue ?k3_InvalidValue ?k4_InvalidValue ?k5_InvalidValue ?k6_InvalidValue ?k7_InvalidValue ?k8_InvalidValue ?k9_InvalidValue ?ka_InvalidValue ?kb_InvalidValue ?kc_InvalidValue ?f_InvalidValue_value ?g_InvalidValue_value ?x1_InvalidValue ?x2_InvalidValue ?x3_InvalidValue ?x4_InvalidValue ?z_InvalidValue ?s_InvalidValue_SessionError ?s_InvalidValue_InvalidValue ?s_InvalidValue_ValueError ?s_InvalidValue_InvalidExpression ?s_InvalidValue_InvalidName ?s_InvalidValue_InvalidText ?s_InvalidValue_LimitError ?s_InvalidValue_MissingError ?s_InvalidValue_StateError ?iy_SessionError ?ty_SessionError ?by_SessionError ?iy_InvalidValue ?ty_InvalidValue ?by_InvalidValue ?iy_InvalidExpression ?ty_InvalidExpression ?by_InvalidExpression ?iy_InvalidName ?ty_InvalidName ?by_InvalidName ?iy_InvalidText ?ty_InvalidText ?by_InvalidText ?iy_LimitError ?ty_LimitError ?by_LimitError ?iy_MissingError ?ty_MissingError ?by_MissingError ?iy_StateError ?ty_StateError ?by_StateError ?x5_exc ?x6_exc ?b1_SessionError ?b2_SessionError ?b3_SessionError
    (case z_ValueError => first | k_is | kx_is)
    (case z_abs => first | k_is | kx_is)
    (case z_all => first | k_is | kx_is)
    (case z_bool => first | k_is | kx_is)
    (case z_divmod => first | k_is | kx_is)
    (case z_int => first | k_is | kx_is)
    (case z_isinstance => first | k_is | kx_is)
    (case z_len => first | k_is | kx_is)
    (case z_max => first | k_is | kx_is)
    (case z_min => first | k_is | kx_is)
    (case z_range => first | k_is | kx_is)
    (case z_repr => first | k_is | kx_is)
    (case z_str => first | k_is | kx_is)
    (case z_sum => first | k_is | kx_is)
    (case z_tuple => first | k_is | kx_is)
    (case y_FAULT => first | k_is | kx_is)
    (case y_MOST_ITEMS => first | k_is | kx_is)
    (case y_MOST_DEPTH => first | k_is | kx_is)
    (case y_MOST_SIZE => first | k_is | kx_is)
    (case a_is_int => first | k_is | kx_is)
    (case l_is_int => first | k_is | kx_is)
    (case g_is_int => first | k_is | kx_is)
    (case k_is_int => first | k_is | kx_is)
    (case a_is_nested => first | k_is | kx_is)
    (case l_is_nested => first | k_is | kx_is)
    (case g_is_nested => first | k_is | kx_is)
    (case k_is_nested => first | k_is | kx_is)
    (case a_depth_of => first | k_is | kx_is)
    (case l_depth_of => first | k_is | kx_is)
    (case g_depth_of => first | k_is | kx_is)
    (case k_depth_of => first | k_is | kx_is)
    (case a_datum_size => first | k_is | kx_is)
    (case l_datum_size => first | k_is | kx_is)
    (case g_datum_size => first | k_is | kx_is)
    (case k_datum_size => first | k_is | kx_is)
    (case a_is_datum => first | k_is | kx_is)
    (case l_is_datum => first | k_is | kx_is)
    (case g_is_datum => first | k_is | kx_is)
    (case k_is_datum => first | k_is | kx_is)
    (case a_is_fault => first | k_is | kx_is)
    (case l_is_fault => first | k_is | kx_is)
    (case g_is_fault => first | k_is | kx_is)
    (case k_is_fault => first | k_is | kx_is)
    (case a_is_value => first | k_is | kx_is)
    (case l_is_value => first | k_is | kx_is)
    (case g_is_value => first | k_is | kx_is)
    (case k_is_value => first | k_is | kx_is)
    (case a_check_value => first | k_is | kx_is)
    (case l_check_value => first | k_is | kx_is)
    (case g_check_value => first | k_is | kx_is)
    (case k_check_value => first | k_is | kx_is)
    (case a_size_of => first | k_is | kx_is)
    (case l_size_of => first | k_is | kx_is)
    (case g_size_of => first | k_is | kx_is)
    (case k_size_of => first | k_is | kx_is)
    (case a_datum_text => first | k_is | kx_is)
    (case l_datum_text => first | k_is | kx_is)
    (case g_datum_text => first | k_is | kx_is)
    (case k_datum_text => first | k_is | kx_is)
    (case a_format_value => first | k_is | kx_is)
    (case l_format_value => first | k_is | kx_is)
    (case g_format_value => first | k_is | kx_is)
    (case k_format_value => first | k_is | kx_is)
    (case a_law_pot => first | k_is | kx_is)
    (case l_law_pot => first | k_is | kx_is)
    (case g_law_pot => first | k_is | kx_is)
    (case k_law_pot => first | k_is | kx_is)
    (case a_law_digit => first | k_is | kx_is)
    (case l_law_digit => first | k_is | kx_is)
    (case g_law_digit => first | k_is | kx_is)
    (case k_law_digit => first | k_is | kx_is)
    (case a_law_pick => first | k_is | kx_is)
    (case l_law_pick => first | k_is | kx_is)
    (case g_law_pick => first | k_is | kx_is)
    (case k_law_pick => first | k_is | kx_is)
    (case a_law_int => first | k_is | kx_is)
    (case l_law_int => first | k_is | kx_is)
    (case g_law_int => first | k_is | kx_is)
    (case k_law_int => first | k_is | kx_is)
    (case a_law_datum => first | k_is | kx_is)
    (case l_law_datum => first | k_is | kx_is)
    (case g_law_datum => first | k_is | kx_is)
    (case k_law_datum => first | k_is | kx_is)
    (case a_law_is_int => first | k_is | kx_is)
    (case l_law_is_int => first | k_is | kx_is)
    (case g_law_is_int => first | k_is | kx_is)
    (case k_law_is_int => first | k_is | kx_is)
    (case a_law_size => first | k_is | kx_is)
    (case l_law_size => first | k_is | kx_is)
    (case g_law_size => first | k_is | kx_is)
    (case k_law_size => first | k_is | kx_is)
    (case a_law_deep => first | k_is | kx_is)
    (case l_law_deep => first | k_is | kx_is)
    (case g_law_deep => first | k_is | kx_is)
    (case k_law_deep => first | k_is | kx_is)
    (case a_law_fits => first | k_is | kx_is)
    (case l_law_fits => first | k_is | kx_is)
    (case g_law_fits => first | k_is | kx_is)
    (case k_law_fits => first | k_is | kx_is)
    (case a_law_odd => first | k_is | kx_is)
    (case l_law_odd => first | k_is | kx_is)
    (case g_law_odd => first | k_is | kx_is)
    (case k_law_odd => first | k_is | kx_is)
    (case a_law_heavy => first | k_is | kx_is)
    (case l_law_heavy => first | k_is | kx_is)
    (case g_law_heavy => first | k_is | kx_is)
    (case k_law_heavy => first | k_is | kx_is)
    (case a_law_nested => first | k_is | kx_is)
    (case l_law_nested => first | k_is | kx_is)
    (case g_law_nested => first | k_is | kx_is)
    (case k_law_nested => first | k_is | kx_is)
    (case a_law_bent => first | k_is | kx_is)
    (case l_law_bent => first | k_is | kx_is)
    (case g_law_bent => first | k_is | kx_is)
    (case k_law_bent => first | k_is | kx_is)
    (case a_law_any => first | k_is | kx_is)
    (case l_law_any => first | k_is | kx_is)
    (case g_law_any => first | k_is | kx_is)
    (case k_law_any => first | k_is | kx_is)
    (case a_law_is_plain => first | k_is | kx_is)
    (case l_law_is_plain => first | k_is | kx_is)
    (case g_law_is_plain => first | k_is | kx_is)
    (case k_law_is_plain => first | k_is | kx_is)
    (case a_law_refused => first | k_is | kx_is)
    (case l_law_refused => first | k_is | kx_is)
    (case g_law_refused => first | k_is | kx_is)
    (case k_law_refused => first | k_is | kx_is)
    (case a_law_right => first | k_is | kx_is)
    (case l_law_right => first | k_is | kx_is)
    (case g_law_right => first | k_is | kx_is)
    (case k_law_right => first | k_is | kx_is)
    (case a_law => first | k_is | kx_is)
    (case l_law => first | k_is | kx_is)
    (case g_law => first | k_is | kx_is)
    (case k_law => first | k_is | kx_is)
    (case a_InvalidValue => first | k_is | kx_is)
    (case a_SessionError => first | k_is | kx_is)
    (case a_InvalidExpression => first | k_is | kx_is)
    (case a_InvalidName => first | k_is | kx_is)
    (case a_InvalidText => first | k_is | kx_is)
    (case a_LimitError => first | k_is | kx_is)
    (case a_MissingError => first | k_is | kx_is)
    (case a_StateError => first | k_is | kx_is)
    (case k1_InvalidValue => first | k_is | kx_is)
    (case k2_InvalidValue => first | k_is | kx_is)
    (case k3_InvalidValue => first | k_is | kx_is)
    (case k4_InvalidValue => first | k_is | kx_is)
    (case k5_InvalidValue => first | k_is | kx_is)
    (case k6_InvalidValue => first | k_is | kx_is)
    (case k7_InvalidValue => first | k_is | kx_is)
    (case k8_InvalidValue => first | k_is | kx_is)
    (case k9_InvalidValue => first | k_is | kx_is)
    (case ka_InvalidValue => first | k_is | kx_is)
    (case kb_InvalidValue => first | k_is | kx_is)
    (case kc_InvalidValue => first | k_is | kx_is)
    (case f_InvalidValue_value => first | k_is | kx_is)
    (case g_InvalidValue_value => first | k_is | kx_is)
    (case x1_InvalidValue => first | k_is | kx_is)
    (case x2_InvalidValue => first | k_is | kx_is)
    (case x3_InvalidValue => first | k_is | kx_is)
    (case x4_InvalidValue => first | k_is | kx_is)
    (case z_InvalidValue => first | k_is | kx_is)
    (case s_InvalidValue_SessionError => first | k_is | kx_is)
    (case s_InvalidValue_InvalidValue => first | k_is | kx_is)
    (case s_InvalidValue_ValueError => first | k_is | kx_is)
    (case s_InvalidValue_InvalidExpression => first | k_is | kx_is)
    (case s_InvalidValue_InvalidName => first | k_is | kx_is)
    (case s_InvalidValue_InvalidText => first | k_is | kx_is)
    (case s_InvalidValue_LimitError => first | k_is | kx_is)
    (case s_InvalidValue_MissingError => first | k_is | kx_is)
    (case s_InvalidValue_StateError => first | k_is | kx_is)
    (case iy_SessionError => first | k_is | kx_is)
    (case ty_SessionError => first | k_is | kx_is)
    (case by_SessionError => first | k_is | kx_is)
    (case iy_InvalidValue => first | k_is | kx_is)
    (case ty_InvalidValue => first | k_is | kx_is)
    (case by_InvalidValue => first | k_is | kx_is)
    (case iy_InvalidExpression => first | k_is | kx_is)
    (case ty_InvalidExpression => first | k_is | kx_is)
    (case by_InvalidExpression => first | k_is | kx_is)
    (case iy_InvalidName => first | k_is | kx_is)
    (case ty_InvalidName => first | k_is | kx_is)
    (case by_InvalidName => first | k_is | kx_is)
    (case iy_InvalidText => first | k_is | kx_is)
    (case ty_InvalidText => first | k_is | kx_is)
    (case by_InvalidText => first | k_is | kx_is)
    (case iy_LimitError => first | k_is | kx_is)
    (case ty_LimitError => first | k_is | kx_is)
    (case by_LimitError => first | k_is | kx_is)
    (case iy_MissingError => first | k_is | kx_is)
    (case ty_MissingError => first | k_is | kx_is)
    (case by_MissingError => first | k_is | kx_is)
    (case iy_StateError => first | k_is | kx_is)
    (case ty_StateError => first | k_is | kx_is)
    (case by_StateError => first | k_is | kx_is)
    (case x5_exc => first | k_is | kx_is)
    (case x6_exc => first | k_is | kx_is)
    (case b1_SessionError => first | k_is | kx_is)
    (case b2_SessionError => first | k_is | kx_is)
    (case b3_SessionError => first | k_is | kx_is)
end
