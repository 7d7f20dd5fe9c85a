import PyProof.Rows.All
import Wide.All
import OpenK.AllK
import Wide.FinOn
import HandS.ForMost
import HandS.Exc
import HandS.ExcOwn
import HandS.TryOnly
import HandS.TryMany
import HandS.Lambda
import HandS.IsInst
import HandS.Flow
import HandS.Style
import HandS.TupAny
import HandS.Wide
import HandS.TupMul
import HandS.SortKw
import KE.DatumOrd
import HandS.Comp
import HandS.Codes
import KE.GoesEnum
import HandS.Iter
import HandS.Walk
import PySem.Challenge.RW_leastsession_k11_sizes_and_texts
section
set_option Elab.async false
set_option linter.all false
set_option maxRecDepth 100000
set_option maxHeartbeats 4000000
namespace Ls
open PySem PySem.Spec PyProof.Rows L2

/-- there is room, and no repr runs around -/
structure RoomG (k : Nat) (A : Around) : Prop where
  rm : Room k A
  gd : A.guards = some []
theorem RoomG.mono {j k : Nat} {A : Around} (r : RoomG k A) (h : j ≤ k) : RoomG j A := ⟨r.rm.mono h, r.gd⟩

/-- the promise of a def, kept where no repr is under way -/
structure FnG (P : Program) (w : World) (K : PySem.W.Frag) (mg : Str → Option Value) (base : Heap) (k : Nat) (f : Addr) (fd : FuncData) (ps : List Str) (sp : Sp) : Prop where
  len : ∀ vs H Q E, sp vs H Q E → vs.length = ps.length
  run : ∀ (A : Around) (outer : List Env) (s : Shared) (H : Hp) (args : Args) (us : List Value) (vs : List V) (Q : VK) (E : XK), RoomG k A →
    Env0 P w K mg base A outer s H → BindsTo s fd args (ps.zip us) → Vals vs us → sp vs H Q E →
    codeAny (model P w) A (.call (.ref f) args) (CR (L2.CX P w) outer P w H s Q E) s

/-- what the top has written of one def: its name, its statement, its parameters -/
structure Df (K : PySem.W.Frag) (mg : Str → Option Value) (x : Str) (st : Stmt) (ps : List Str) : Prop where
  ex : ∃ (f : Addr) (fd : FuncData), Fun K x x st f fd ∧ mg x = some (.ref f) ∧ ∀ (us : List Value), us.length = ps.length → bindArgs fd ⟨us, []⟩ = pure (ps.zip us)
/-- a module's name that stands for a def with this promise -/
structure Cal (P : Program) (w : World) (K : PySem.W.Frag) (mg : Str → Option Value) (base : Heap) (k : Nat) (x : Str) (st : Stmt) (ps : List Str) (sp : Sp) : Prop where
  ex : ∃ (f : Addr) (fd : FuncData), FnG P w K mg base k f fd ps sp ∧ mg x = some (.ref f) ∧ Fun K x x st f fd ∧ ∀ (us : List Value), us.length = ps.length → bindArgs fd ⟨us, []⟩ = pure (ps.zip us)

section
variable {P : Program} {w : World} {K : PySem.W.Frag} {mg : Str → Option Value} {base : Heap} {x : Str} {st : Stmt} {ps : List Str}
theorem Cal.imp {k : Nat} {sp sp' : Sp} (c : Cal P w K mg base k x st ps sp) (h : ∀ vs H Q E, sp' vs H Q E → sp vs H Q E) : Cal P w K mg base k x st ps sp' := by
  obtain ⟨f, fd, F, a, b, d⟩ := c.ex
  exact ⟨f, fd, ⟨fun vs H Q E q => F.len vs H Q E (h _ _ _ _ q), fun A outer s H args us vs Q E hr he hb hv hs => F.run A outer s H args us vs Q E hr he hb hv (h _ _ _ _ hs)⟩, a, b, d⟩
theorem Df.make {f : Addr} {oc : Value} {od an : Option Addr} {osl : Array (Option Value)} {kV doc pm cdv ct : Value}
    (g : mg x = some (.ref f)) (l : K.lookup f = some ⟨oc, od, .func (PySem.W.fnOf x x (defArgs st) (defBody st) (defScope st) .none kV doc pm an cdv ct), osl⟩)
    (c : PySem.W.codeIn K cdv x = true) (k : PySem.W.keepIn K (.ref f) = true)
    (h : ∀ (kV doc pm : Value) (an : Option Addr) (cdv ct : Value) (us : List Value), us.length = ps.length → bindArgs (PySem.W.fnOf x x (defArgs st) (defBody st) (defScope st) .none kV doc pm an cdv ct) ⟨us, []⟩ = pure (ps.zip us)) : Df K mg x st ps :=
  ⟨f, _, fun_mk l c k, g, h kV doc pm an cdv ct⟩

/-- a def keeps its promise: its body as a term of rules, and the reading of that term -/
theorem Df.ok {N : List Str} {k : Nat} {sp : Sp} (D : Df K mg x st ps) (S : FnScope N ps (defScope st)) (len : ∀ vs H Q E, sp vs H Q E → vs.length = ps.length)
    (body : ∀ (f : Addr) (cdv : Value) (A : Around) (outer : List Env) (s : Shared) (H : Hp) (vs : List V) (Q : VK) (E : XK), RoomG k (A.deeper (envOfC x (defScope st) s.heap.objs.size f cdv)) → sp vs H Q E →
      ∃ t, PSs (cxOf (L2.CX P w) P w K mg base N x (defScope st) f cdv A outer s H E) (defBody st) t ∧ t { nx := fun _ H' => Q .non H', rt := Q } (start N vs) H) : Cal P w K mg base (k + 1) x st ps sp := by
  obtain ⟨f, fd, F, g, b⟩ := D.ex
  obtain ⟨oc, od, kV, doc, pm, an, cdv, ct, osl, rfl, lk, hcd⟩ := F.ex
  refine ⟨f, _, ⟨len, fun A outer s H args us vs Q E hr e0 hb r hsp => ?_⟩, g, F, b⟩
  exact LamX.run_ofS lk hcd S hr.rm e0 hb r (len _ _ _ _ hsp) fun hr' => body f cdv A outer s H vs Q E ⟨hr', hr.gd⟩ hsp
end

/-- a promise that is never asked for -/
theorem Df.never {P : Program} {w : World} {K : PySem.W.Frag} {mg : Str → Option Value} {base : Heap} {x : Str} {st : Stmt} {ps : List Str} {sp : Sp} (D : Df K mg x st ps) (h : ∀ vs H Q E, ¬ sp vs H Q E) : Cal P w K mg base 0 x st ps sp := by
  obtain ⟨f, fd, F, g, b⟩ := D.ex
  exact ⟨f, fd, ⟨fun vs H Q E q => absurd q (h vs H Q E), fun A outer s H args us vs Q E _ _ _ _ q => absurd q (h vs H Q E)⟩, g, F, b⟩
theorem Cal.up {P : Program} {w : World} {K : PySem.W.Frag} {mg : Str → Option Value} {base : Heap} {x : Str} {st : Stmt} {ps : List Str} {sp : Sp} {j k : Nat} (C : Cal P w K mg base j x st ps sp) (h : j ≤ k) : Cal P w K mg base k x st ps sp := by
  obtain ⟨f, fd, F, g, b⟩ := C.ex
  exact ⟨f, fd, ⟨F.len, fun A outer s H args us vs Q E hr => F.run A outer s H args us vs Q E (hr.mono h)⟩, g, b⟩
/-- x(e, ..): the values, then the promise; E: the wish about exceptions -/
def tCal (sp : Sp) (E : XK) (t : TA) : TE := fun σ H Q => t σ H fun vs H1 => sp vs H1 Q E
/-- keywords: perm brings the written order into the parameters' -/
def tCalK (sp : Sp) (E : XK) (perm : List V → List V) (t : TA) : TE := fun σ H Q => t σ H fun vs H1 => sp (perm vs) H1 Q E
section
variable {X : Cx} {k : Nat} {ps : List Str} {st : Stmt} {sp : Sp} {E : XK} {x : Str} {p pos : Pos} {e : Expr} {es : List Expr} {t : TA}
/-- the callee runs; args: how the values come (positions, keywords), us: in the parameters' order -/
theorem run_g {pins : List (Addr × Obj)} {σ : L2.St} {H : Hp} {s : Shared} {Q : VK} {args : Args} {us : List Value} {vs : List V} {f : Addr} {fd : FuncData}
    (F : FnG X.prog X.w X.K X.mg X.base k f fd ps sp) (hr : RoomG k X.A) (hb : BindsTo s fd args (ps.zip us)) (hx : Passes (L2.CX X.prog X.w) X E)
    (I : Inv X pins σ H s) (r : Vals vs us) (h : sp vs H Q E) : codeAny (model X.prog X.w) X.A (.call (.ref f) args) (fun r s' => match r with | .ok (.ret u) => EP X pins σ Q u s' | .ok _ => False | .error e => X.xe e s') s := by
  refine codeAny_mono (F.run X.A X.stack s H args us vs Q E hr I.env0 hb r h) fun z s' hq => ?_
  cases z with
  | error e => exact hx pins σ H s e s' I hq
  | ok fl =>
    cases fl with
    | ret u => exact I.after hq
    | next => exact False.elim hq
    | brk => exact False.elim hq
    | cont => exact False.elim hq
theorem call_g {pins : List (Addr × Obj)} {σ : L2.St} {s : Shared} {Q : VK} {f : Addr} {us : List Value} {kw : List (Str × Value)}
    (h : codeAny (model X.prog X.w) X.A (.call (.ref f) ⟨us, kw⟩) (fun r s' => match r with | .ok (.ret u) => EP X pins σ Q u s' | .ok _ => False | .error e => X.xe e s') s) : wpAny (model X.prog X.w) X.A (call (.ref f) us kw) (EP X pins σ Q) X.xe s := by
  refine wpAny_call (codeAny_mono h fun z s' hq => ?_)
  cases z with
  | error e => exact hq
  | ok fl => cases fl <;> first | exact hq | exact False.elim hq
/-- x(e, ..) -/
theorem pe_g (c : Cal X.prog X.w X.K X.mg X.base k x st ps sp) (hr : RoomG k X.A) (hx : Passes (L2.CX X.prog X.w) X E) (ha : PA X (e :: es) t) (hg : Gl X x := by rfl)
    (hdb : (x == ("__debug__" : Str)) = false := by decide) (he : starEach (e :: es) X.env = (false, eval e X.env) :: starEach es X.env := by rfl) (hpl : (backTo pos (starEach es X.env)).any (·.1) = false := by rfl) :
    PE X (.Call (.Name x p) (e :: es) [] pos) (tCal sp E t) := by
  obtain ⟨f, fd, F, hm, hk, hb⟩ := c.ex
  refine ⟨fun pins s σ H Q I h => ?_⟩
  refine wpAny_Call_Name_kw (ld_glob I hg hm ?_ hdb)
  refine PySem.W.callWith_K (h₀ := X.base) I.ok.mod.kin hk.kp (thn (ha.run pos pins s σ H _ I h) fun us s1 ⟨vs, H1, I1, r, q⟩ => ⟨I1.kIn, ?_⟩) he hpl
  have hl : us.length = ps.length := by rw [← r.length]; exact F.len _ _ _ _ q
  exact call_g (run_g F hr (.of_eq (hb us hl)) hx I1 r q)
/-- x() -/
theorem pe_g0 (c : Cal X.prog X.w X.K X.mg X.base k x st ps sp) (hr : RoomG k X.A) (hx : Passes (L2.CX X.prog X.w) X E) (hg : Gl X x := by rfl)
    (hdb : (x == ("__debug__" : Str)) = false := by decide) : PE X (.Call (.Name x p) [] [] pos) (tCal sp E tNil) := by
  obtain ⟨f, fd, F, hm, hk, hb⟩ := c.ex
  refine ⟨fun pins s σ H Q I h => ?_⟩
  refine wpAny_Call_Name_kw (ld_glob I hg hm ?_ hdb)
  have hl : ([] : List Value).length = ps.length := F.len _ _ _ _ h
  exact PySem.W.callWith_K0 I.kIn hk.kp (call_g (run_g (us := []) F hr (.of_eq (hb [] hl)) hx I .nil h))
/-- x(k = v, ..), keywords alone, in any order -/
theorem pe_gk {kws : List Keyword} {ks : List Str} {perm : List V → List V} {permV : List Value → List Value} (c : Cal X.prog X.w X.K X.mg X.base k x st ps sp) (hr : RoomG k X.A) (hx : Passes (L2.CX X.prog X.w) X E) (hkw : PK X kws t)
    (hks : (backToKw pos (keywordEach kws X.env)).filterMap (·.1) = ks)
    (hb : ∀ (kV doc pm : Value) (an : Option Addr) (cdv ct : Value) (us : List Value), us.length = ks.length → bindArgs (PySem.W.fnOf x x (defArgs st) (defBody st) (defScope st) .none kV doc pm an cdv ct) ⟨[], ks.zip us⟩ = pure (ps.zip (permV us)))
    (hp : ∀ vs us, Vals vs us → Vals (perm vs) (permV us)) (hn : ∀ (vs : List V) H Q, sp (perm vs) H Q E → vs.length = ks.length) (hg : Gl X x := by rfl) (hall : (backToKw pos (keywordEach kws X.env)).all (·.1.isSome) = true := by rfl)
    (hdb : (x == ("__debug__" : Str)) = false := by decide) (hpl : ((backTo pos (starEach [] X.env)).any (·.1) || (backToKw pos (keywordEach kws X.env)).any (·.1.isNone)) = false := by rfl) :
    PE X (.Call (.Name x p) [] kws pos) (tCalK sp E perm t) := by
  obtain ⟨f, fd, F, hm, hk, _⟩ := c.ex
  refine ⟨fun pins s σ H Q I h => ?_⟩
  refine wpAny_Call_Name_kw (ld_glob I hg hm ?_ hdb)
  refine PySem.W.callWith_KW0 (h₀ := X.base) I.ok.mod.kin hk.kp hall (thn (hkw.run pos pins s σ H _ I h) fun us s1 ⟨vs, H1, I1, r, q⟩ => ⟨I1.kIn, ?_⟩) hpl
  rw [hks]
  obtain ⟨oc, od, kV, doc, pm, an, cdv, ct, osl, rfl, _, _⟩ := hk.ex
  have hl : us.length = ks.length := by rw [← r.length]; exact hn vs H1 Q q
  exact call_g (run_g F hr (.of_eq (hb kV doc pm an cdv ct us hl)) hx I1 (hp vs us r) q)
/-- .. in the parameters' order -/
theorem pe_gi {kws : List Keyword} {ks : List Str} (c : Cal X.prog X.w X.K X.mg X.base k x st ps sp) (hr : RoomG k X.A) (hx : Passes (L2.CX X.prog X.w) X E) (hkw : PK X kws t)
    (hks : (backToKw pos (keywordEach kws X.env)).filterMap (·.1) = ks)
    (hb : ∀ (kV doc pm : Value) (an : Option Addr) (cdv ct : Value) (us : List Value), us.length = ks.length → bindArgs (PySem.W.fnOf x x (defArgs st) (defBody st) (defScope st) .none kV doc pm an cdv ct) ⟨[], ks.zip us⟩ = pure (ps.zip us))
    (hkl : ps.length = ks.length := by rfl) (hg : Gl X x := by rfl) (hall : (backToKw pos (keywordEach kws X.env)).all (·.1.isSome) = true := by rfl)
    (hdb : (x == ("__debug__" : Str)) = false := by decide) (hpl : ((backTo pos (starEach [] X.env)).any (·.1) || (backToKw pos (keywordEach kws X.env)).any (·.1.isNone)) = false := by rfl) :
    PE X (.Call (.Name x p) [] kws pos) (tCal sp E t) :=
  pe_gk (perm := fun l => l) (permV := fun l => l) c hr hx hkw hks hb (fun _ _ r => r) (fun vs H Q h => by obtain ⟨f, fd, F, _⟩ := c.ex; exact (F.len _ _ _ _ h).trans hkl) hg hall hdb hpl
/-- no exception -/
theorem px0 {X : Cx} : Passes (L2.CX X.prog X.w) X E0 := fun _ _ _ _ _ _ _ h => by
  obtain ⟨_, _, _, _, _, _, _, _, _, _, _, _, z⟩ := h
  exact z.elim
/-- what leaves the callee leaves the def, too -/
theorem pxE {W : WX} (tk : Takes X W) (h : ∀ cls d σ H, E cls d H → W cls d σ H) : Passes (L2.CX X.prog X.w) X E := passes_call tk h
end
end Ls
end

section
set_option Elab.async false
set_option linter.all false
set_option maxRecDepth 100000
set_option maxHeartbeats 4000000
namespace Ls
open PySem PySem.Spec PyProof.Rows L2
/-- the script's object -/
abbrev scrO (vs : List Value) : Obj := { cls := .type "list", data := .seq vs.toArray }
open Classical in
/-- the script alone is tracked, where it is no object of the module's own -/
noncomputable def scrH (K : PySem.W.Frag) (a : Addr) (vs : List Value) (ns : List Int) : Hp := fun b => if b = a ∧ K.lookup a = none then some (.frz (scrO vs) (.lst (ns.map V.int))) else none
section
variable {K : PySem.W.Frag} {a b : Addr} {vs : List Value} {ns : List Int} {u : HO}
theorem scrH_some (h : scrH K a vs ns b = some u) : b = a ∧ K.lookup a = none ∧ u = .frz (scrO vs) (.lst (ns.map V.int)) := by
  unfold scrH at h
  split at h
  · rename_i c; exact ⟨c.1, c.2, (Option.some.inj h).symm⟩
  · cases h
theorem scrH_at (h : K.lookup a = none) : scrH K a vs ns a = some (.frz (scrO vs) (.lst (ns.map V.int))) := if_pos ⟨rfl, h⟩
theorem scrH_only : Only (scrH K a vs ns) := fun b => by
  cases e : scrH K a vs ns b with
  | none => exact .inl rfl
  | some u => obtain ⟨_, _, rfl⟩ := scrH_some e; exact .inr ⟨_, _, rfl⟩
end
/-- nothing is tracked but what is locked -/
theorem law_g {P : Program} {w : World} {K : PySem.W.Frag} {mg mb : Str → Option Value} {k : Nat} {fa a : Addr} {x nm : Str} {st : Stmt} {sp : Sp} {s1 : Shared} {vs : List Value} {ns : List Int}
    (KX : K.In s1.heap) (hns : s1.heap.Ns mainGlobals mg) (hb : s1.heap.Ns builtinsNs mb) (hbb : ∀ x : Str, x ≠ "__name__" → mb x = bootBuiltins x) (hlim : s1.heap.NoLimit) (hg : s1.gens = #[])
    (ha : s1.heap.get? a = some (scrO vs)) (hi : IntsAre vs ns) (hl : ns.length ≤ sizeLine) (hr : Room k callerA) (hfa : mg nm = some (.ref fa))
    (F : ∀ base : Heap, K.In base → base.Ns mainGlobals mg → (∃ mc, base.Ns builtinsNs mc ∧ ∀ x : Str, x ≠ "__name__" → mc x = bootBuiltins x) → base.objs.size ≤ s1.heap.objs.size → Cal P w K mg base k nm st [x] sp)
    (hsp : ∀ H : Hp, Only H → SqL K H a (ns.map V.int) → sp [.ref a] H (fun v _ => v = .bl true) fun _ _ _ => False) :
    codeAny (model P w) callerA (.call (.ref fa) ⟨[.ref a], []⟩) (fun r s' => r = .ok (.ret (.bool true)) ∧ OldK s1.heap s'.heap ∧ s'.os = s1.os ∧ AllBare s'.gens) s1 := by
  have rv := vals_ints hi
  let H := scrH K a vs ns
  have len : vs.length = ns.length := hi.length
  have seq : SqL K H a (ns.map V.int) := by
    cases e : K.lookup a with
    | none => exact .inl (.inr ⟨_, scrH_at e⟩)
    | some o =>
      have q := KX a o e
      rw [ha] at q
      cases q
      exact .inr ⟨_, vs.toArray, _, e, rfl, rfl, rfl, by rw [List.size_toArray, len]; exact hl, by simpa using rv⟩
  have hok : HOk P w H s1.heap := fun b u e => by
    obtain ⟨rfl, _, rfl⟩ := scrH_some e
    exact ⟨ha, by rw [List.length_map]; exact hl, vs, _, rv, ha⟩
  -- what is no list stands apart from the script
  have apart : ∀ {b : Addr} {o : Obj} {es : Array DictEntry} {n : Nat}, s1.heap.get? b = some o → o.data = .dict es n → (hidT s1.heap H).get? b = some o := fun {b o es n} e d => by
    refine hidT_get e ?_
    cases q : H b with
    | none => rfl
    | some u =>
      obtain ⟨rfl, _, _⟩ := scrH_some q
      rw [ha] at e
      cases e
      cases d
  have own : ∀ {b : Addr} {m : Str → Option Value}, s1.heap.Ns b m → (hidT s1.heap H).Ns b m := fun ⟨o, es, n, e, d, r⟩ => ⟨o, es, n, apart e d, d, r⟩
  have kin : K.In (hidT s1.heap H) := fun b o e => hidT_get (KX b o e) (by
    cases q : H b with
    | none => rfl
    | some u =>
      obtain ⟨rfl, n, _⟩ := scrH_some q
      rw [n] at e
      cases e)
  have bl : ∃ mc, (hidT s1.heap H).Ns builtinsNs mc ∧ ∀ x : Str, x ≠ "__name__" → mc x = bootBuiltins x := ⟨mb, own hb, hbb⟩
  have M : Mod K mg (hidT s1.heap H) := ⟨kin, own hns, bl, let ⟨mc, h1, h2⟩ := hlim; ⟨mc, own h1, h2⟩⟩
  have e0 : Env0 P w K mg (hidT s1.heap H) callerA [] s1 H := ⟨rfl, M, fun b o e => of_hidT e, Nat.le_of_eq (hidT_size _ _), trivial, fun b z => (nomatch z), hok, .of_eq hg⟩
  obtain ⟨f, fd, C, g, _, bnd⟩ := (F _ kin (own hns) bl (Nat.le_of_eq (hidT_size _ _))).ex
  rw [hfa] at g
  cases g
  refine codeAny_mono (C.run callerA [] s1 H ⟨[.ref a], []⟩ [.ref a] [.ref a] _ _ ⟨hr, rfl⟩ e0 (.of_eq (bnd _ rfl)) (.cons rfl .nil) (hsp H scrH_only seq)) fun r s' q => ?_
  cases r with
  | error e =>
    obtain ⟨_, _, _, _, _, _, _, _, _, _, _, _, z⟩ := q
    exact z.elim
  | ok fl =>
    cases fl with
    | next => exact False.elim q
    | brk => exact False.elim q
    | cont => exact False.elim q
    | ret u =>
      obtain ⟨v, H', os, bare, un, hok', rv', rfl⟩ := q
      obtain rfl : u = Value.bool true := rv'
      refine ⟨rfl, OldK.of_keep fun b o e => ?_, os, bare⟩
      cases z : H b with
      | none => exact un.keep b o e z (fun z => nomatch z) (fun z => nomatch z)
      | some u =>
        obtain ⟨rfl, _, rfl⟩ := scrH_some z
        rw [ha] at e
        cases e
        exact (hok' b _ (un.frzs b _ _ z)).1
/-- the goal that k_head leaves (case hc), from the law's promise -/
theorem walk_g {l : PySem.W.OpenLaw} {n k : Nat} {q : Program} {loose : List Str} {XP : (Str → Option Value) → Heap → Prop} {YP : World → Heap → Prop} {d : DefRec} {K : Params → PySem.W.Frag} {sp : PySem.W.Frag → Sp} {x : Str} {st : Stmt}
    (hn : l.most = some n) (hn2 : n ≤ sizeLine) (hdf : d.params.defaults = []) (hr : Room k callerA)
    (hY : ∀ (w : World) (h : Heap), YP w h → (K w.params).In h)
    (F : ∀ (w : World) (mg : Str → Option Value) (fa : Addr) (h : Heap), (K w.params).In h → h.Ns mainGlobals mg → mg d.name = some (.ref fa) →
      ∀ base : Heap, (K w.params).In base → base.Ns mainGlobals mg → Cal l.prog w (K w.params) mg base k d.name st [x] (sp (K w.params)))
    (hsp : ∀ (K : PySem.W.Frag) (H : Hp) (a : Addr) (ns : List Int), ns.length ≤ n → Only H → SqL K H a (ns.map V.int) → sp K [.ref a] H (fun v _ => v = .bl true) fun _ _ _ => False) :
    PySem.W.WalkO q loose XP YP l.row.toRowW d [] (fun f vs => PySem.call f vs) := by
  refine Att.attach_call hn hdf fun w s0 s1 mg mb fa o pm cd doc a vs ns G Y ho hd hcd hmg hobj hints hlen hg => ?_
  exact law_g (hY w _ Y) G.T.g G.T.b G.T.builtins G.T.nolimit hg hobj hints (Nat.le_trans hlen hn2) hr hmg (fun base h1 h2 _ _ => F w mg fa _ (hY w _ Y) G.T.g hmg base h1 h2) fun H hO hS => hsp _ H a ns hlen hO hS
end Ls
end

section
set_option Elab.async false
set_option linter.all false
set_option maxRecDepth 100000
set_option maxHeartbeats 4000000
namespace Ls
open PySem PySem.Spec PyProof.Rows L2

/-- everything that was tracked stands -/
def Ex (H H' : Hp) : Prop := ∀ a o, H a = some o → H' a = some o
theorem Ex.refl (H : Hp) : Ex H H := fun _ _ h => h
theorem Ex.trans {H H1 H2 : Hp} (a : Ex H H1) (b : Ex H1 H2) : Ex H H2 := fun x o h => b x o (a x o h)
theorem Ex.new {H : Hp} {p : Addr} {o : HO} (h : H p = none) : Ex H (upd H p o) := fun a u e => by rw [upd_ne (ne_of_none e h)]; exact e
theorem Ex.back {H H' : Hp} {p : Addr} (e : Ex H H') (h : H' p = none) : H p = none := by
  cases q : H p with
  | none => rfl
  | some o => rw [e p o q] at h; cases h
theorem Ex.rd {H H' : Hp} {a : Addr} {u : HO} (e : Ex H H') (h : Rd H a u) : Rd H' a u := by
  rcases h with h | ⟨o, h⟩
  · exact .inl (e _ _ h)
  · exact .inr ⟨o, e _ _ h⟩
theorem Ex.sl {K : PySem.W.Frag} {H H' : Hp} {a : Addr} {xs : List V} (e : Ex H H') (h : SqL K H a xs) : SqL K H' a xs := h.imp e.rd id
theorem Ex.st {K : PySem.W.Frag} {H H' : Hp} {a : Addr} {xs : List V} (e : Ex H H') (h : SqT K H a xs) : SqT K H' a xs := h.imp e.rd id

def keyD : Key → PyData
  | .inl i => .int i
  | .inr x => .str x
mutual
/-- the value v bears the data d -/
inductive Dt (K : PySem.W.Frag) (H : Hp) : V → PyData → Prop
  | non : Dt K H .non .none
  | bl (b : Bool) : Dt K H (.bl b) (.bool b)
  | int (i : Int) : Dt K H (.int i) (.int i)
  | str (x : Str) : Dt K H (.str x) (.str x)
  | lst {a : Addr} {xs : List V} {ds : List PyData} : SqL K H a xs → a ≠ 1 → DtAll K H xs ds → Dt K H (.ref a) (.list ds)
  | tup {a : Addr} {xs : List V} {ds : List PyData} : SqT K H a xs → DtAll K H xs ds → Dt K H (.ref a) (.tuple ds)
  | dct {a : Addr} {kvs : List (Key × V)} {ds : List PyData} : Rd H a (.dK kvs) → DtAll K H (kvs.map (·.2)) ds → Dt K H (.ref a) (.dict ((kvs.map fun p => keyD p.1).zip ds))
inductive DtAll (K : PySem.W.Frag) (H : Hp) : List V → List PyData → Prop
  | nil : DtAll K H [] []
  | cons {v : V} {vs : List V} {d : PyData} {ds : List PyData} : Dt K H v d → DtAll K H vs ds → DtAll K H (v :: vs) (d :: ds)
end
section
variable {K : PySem.W.Frag} {H H' : Hp}
mutual
theorem Dt.mono (e : Ex H H') : ∀ {v : V} {d : PyData}, Dt K H v d → Dt K H' v d
  | _, _, .non => .non
  | _, _, .bl b => .bl b
  | _, _, .int i => .int i
  | _, _, .str x => .str x
  | _, _, .lst h n a => .lst (e.sl h) n (a.mono e)
  | _, _, .tup h a => .tup (e.st h) (a.mono e)
  | _, _, .dct h a => .dct (e.rd h) (a.mono e)
theorem DtAll.mono (e : Ex H H') : ∀ {v : List V} {d : List PyData}, DtAll K H v d → DtAll K H' v d
  | _, _, .nil => .nil
  | _, _, .cons a b => .cons (a.mono e) (b.mono e)
end
theorem DtAll.length : ∀ {vs : List V} {ds : List PyData}, DtAll K H vs ds → vs.length = ds.length
  | _, _, .nil => rfl
  | _, _, .cons _ b => congrArg Nat.succ b.length
theorem DtAll.get : ∀ {vs : List V} {ds : List PyData} {i : Nat} {v : V}, DtAll K H vs ds → vs[i]? = some v → ∃ d, ds[i]? = some d ∧ Dt K H v d
  | _, _, _, _, .nil, e => by simp at e
  | _, _, 0, v, .cons a _, e => by
    have z : _ = v := Option.some.inj e
    exact ⟨_, rfl, z ▸ a⟩
  | _, _, i + 1, v, .cons _ b, e => b.get (i := i) (by simpa using e)
theorem DtAll.getD : ∀ {vs : List V} {ds : List PyData} {i : Nat} {d : PyData}, DtAll K H vs ds → ds[i]? = some d → ∃ v, vs[i]? = some v ∧ Dt K H v d
  | _, _, _, _, .nil, e => by simp at e
  | _, _, 0, d, .cons a _, e => by
    have z : _ = d := Option.some.inj e
    exact ⟨_, rfl, z ▸ a⟩
  | _, _, i + 1, d, .cons _ b, e => b.getD (i := i) (by simpa using e)
theorem DtAll.append : ∀ {vs ws : List V} {ds es : List PyData}, DtAll K H vs ds → DtAll K H ws es → DtAll K H (vs ++ ws) (ds ++ es)
  | _, _, _, _, .nil, b => b
  | _, _, _, _, .cons x a, b => .cons x (a.append b)
theorem DtAll.take : ∀ {vs : List V} {ds : List PyData} (n : Nat), DtAll K H vs ds → DtAll K H (vs.take n) (ds.take n)
  | _, _, 0, _ => .nil
  | _, _, _ + 1, .nil => .nil
  | _, _, n + 1, .cons x a => .cons x (a.take n)
theorem DtAll.drop : ∀ {vs : List V} {ds : List PyData} (n : Nat), DtAll K H vs ds → DtAll K H (vs.drop n) (ds.drop n)
  | _, _, 0, r => r
  | _, _, _ + 1, .nil => .nil
  | _, _, n + 1, .cons _ a => a.drop n
theorem DtAll.ints : ∀ ns : List Int, DtAll K H (ns.map V.int) (ns.map PyData.int)
  | [] => .nil
  | n :: ns => .cons (.int n) (DtAll.ints ns)
end

section
variable {X : Cx} {pins : List (Addr × Obj)} {σ : L2.St} {H : Hp} {s : Shared}
theorem keys_read {prog : Program} {w : World} {h : Heap} : ∀ {kvs : List (Key × V)} {vs : List (Key × Value)} {es : List DictEntry}, KV kvs vs → Pairs (mixKind prog w) es vs →
    ReadsAll h (es.map (·.key)) (kvs.map fun p => keyD p.1) [] ∧ Vals (kvs.map (·.2)) (es.map (·.val))
  | _, _, _, .nil, .nil => ⟨.nil, .nil⟩
  | (k, v) :: kvs, (k', u) :: vs, e :: es, .cons a b, .cons c d f => by
    obtain ⟨h1, h2⟩ := keys_read (h := h) b f
    have a1 : k = k' := a.1
    have a2 : RelV v u := a.2
    subst a1
    have d' : e.val = u := d
    refine ⟨?_, .cons (show RelV v e.val by rw [d']; exact a2) h2⟩
    rcases keyIs_shape c with ⟨i, t, e1, e2⟩ | ⟨x, t, e1, e2⟩
    · have e1' : k = Sum.inl i := e1
      subst e1'
      show ReadsAll h (e.key :: es.map (·.key)) (.int i :: _) ([] ++ [])
      rw [e2]
      exact .cons (.int i t) h1
    · have e1' : k = Sum.inr x := e1
      subst e1'
      show ReadsAll h (e.key :: es.map (·.key)) (.str x :: _) ([] ++ [])
      rw [e2]
      exact .cons (.str x t) h1
theorem zip_fst : ∀ {α β : Type} {l : List α} {m : List β}, l.length = m.length → (l.zip m).map (·.1) = l
  | _, _, [], [], _ => rfl
  | _, _, a :: l, b :: m, h => by
    show a :: (l.zip m).map (·.1) = a :: l
    rw [zip_fst (Nat.succ.inj h)]
theorem zip_snd : ∀ {α β : Type} {l : List α} {m : List β}, l.length = m.length → (l.zip m).map (·.2) = m
  | _, _, [], [], _ => rfl
  | _, _, a :: l, b :: m, h => by
    show b :: (l.zip m).map (·.2) = b :: m
    rw [zip_snd (Nat.succ.inj h)]
mutual
theorem Dt.reads (I : Inv X pins σ H s) : ∀ {v : V} {d : PyData} {u : Value}, Dt X.K H v d → RelV v u → ∃ as, Reads s.heap u d as ∧ sysModules ∉ as
  | _, _, _, .non, r => by cases r; exact ⟨_, .none, by simp⟩
  | _, _, _, .bl b, r => by cases r; exact ⟨_, .bool b, by simp⟩
  | _, _, _, .int i, r => by obtain ⟨t, rfl⟩ := r; exact ⟨_, .int i t, by simp⟩
  | _, _, _, .str x, r => by obtain ⟨t, rfl⟩ := r; exact ⟨_, .str x t, by simp⟩
  | _, _, _, .lst h n a, r => by
    cases r
    obtain ⟨its, rv, ⟨o, m, ho, hc, _, hd⟩, _⟩ := I.list h
    obtain ⟨as, q, z⟩ := a.reads I rv
    refine ⟨_, .list ho hc hd q, fun hm => ?_⟩
    rcases List.mem_cons.mp hm with e | hm
    · exact n e.symm
    · exact z hm
  | _, _, _, .tup h a, r => by
    cases r
    obtain ⟨its, rv, ⟨o, ho, hc, n, hd⟩, _⟩ := I.tuple h
    obtain ⟨as, q, z⟩ := a.reads I rv
    exact ⟨_, .tuple ho hc hd q, z⟩
  | _, _, _, .dct (kvs := kvs) (ds := ds) h a, r => by
    cases r
    obtain ⟨_, hs, vs, rel, o, es, ep, ho, hx, hd, _, hp, _⟩ := dk_rd I.hok h
    obtain ⟨h1, h2⟩ := keys_read (h := s.heap) rel hp
    obtain ⟨as, q, z⟩ := a.reads I h2
    have l1 : (kvs.map fun p => keyD p.1).length = ds.length := by
      rw [List.length_map]
      have := a.length
      rw [List.length_map] at this
      exact this
    refine ⟨_, .dict ho hx.1 hd (by rw [zip_fst l1]; exact h1) (by rw [zip_snd l1]; exact q), fun hm => ?_⟩
    rcases List.mem_cons.mp hm with e | hm
    · rw [e] at hs; simp at hs
    · exact z (by simpa using hm)
theorem DtAll.reads (I : Inv X pins σ H s) : ∀ {vs : List V} {ds : List PyData} {us : List Value}, DtAll X.K H vs ds → Vals vs us → ∃ as, ReadsAll s.heap us ds as ∧ sysModules ∉ as
  | _, _, _, .nil, r => by cases r; exact ⟨_, .nil, by simp⟩
  | _, _, _, .cons a b, r => by
    cases r with
    | cons r1 r2 =>
      obtain ⟨as, q1, z1⟩ := a.reads I r1
      obtain ⟨bs, q2, z2⟩ := b.reads I r2
      exact ⟨_, .cons q1 q2, fun hm => (List.mem_append.mp hm).elim z1 z2⟩
end
/-- repr(x), x data -/
def rRepr (K : PySem.W.Frag) : List V → Hp → VK → Prop := fun xs H Q => ∃ (x : V) (d : PyData), xs = [x] ∧ (Dt K H x d ∨ (Dp K H x d ∧ d.hasDict = false)) ∧ d.showable = true ∧ d.shown.length ≤ sizeLine ∧ d.depth ≤ 40 ∧ Q (.str d.shown) H
theorem call_repr {k : Nat} (hr : RoomG k X.A) : CallR X (.builtin "repr") (rRepr X.K) := by
  intro pins s σ H xs us Q I r h
  obtain ⟨x, d, rfl, hd, sh, sz, dp, q⟩ := h
  cases r with
  | cons rx rr =>
    cases rr
    rename_i u
    have hu := hr.rm.units
    have hg := hr.gd
    have rd : ∃ as, Reads s.heap u d as ∧ (d.hasDict = true → sysModules ∉ as) := by
      rcases hd with hd | ⟨hd, hn⟩
      · obtain ⟨as, r, n⟩ := hd.reads I rx
        exact ⟨as, r, fun _ => n⟩
      · obtain ⟨as, r⟩ := Dp.reads I d x u hd rx
        exact ⟨as, r, fun z => by rw [hn] at z; cases z⟩
    obtain ⟨as, rd, ns⟩ := rd
    have gen : ∀ {a : Addr}, Reads s.heap (.ref a) d as → wpAny (model X.prog X.w) X.A (call (.builtin "repr") [.ref a]) (EP X pins σ Q) X.xe s := fun {a} rd =>
      repr_of_reads' rd sh ns hg (by omega) (fun _ _ e => e) (fun h' u tk hk => ⟨.str d.shown, H, I.kept hk, ⟨_, rfl⟩, q⟩) sz
    cases rd with
    | none =>
      rw [PyData.shown] at q
      exact PySem.P.repr_of_none ⟨V.str _, H, I.tok _, ⟨_, rfl⟩, q⟩
    | bool b =>
      rw [PyData.shown] at q
      exact PySem.P.repr_of_bool ⟨V.str _, H, I.tok _, ⟨_, rfl⟩, q⟩
    | int i =>
      rw [PyData.shown] at q
      exact PySem.P.repr_of_int (by simpa [PyData.showable] using sh) ⟨V.str _, H, I.tok _, ⟨_, rfl⟩, q⟩
    | str x =>
      rw [PyData.shown] at q sz
      exact PySem.P.repr_of_str ⟨V.str _, H, I.tok _, ⟨_, rfl⟩, q⟩ sz
    | list h1 h2 h3 h4 => exact gen (.list h1 h2 h3 h4)
    | tuple h1 h2 h3 h4 => exact gen (.tuple h1 h2 h3 h4)
    | dict h1 h2 h3 h4 h5 => exact gen (.dict h1 h2 h3 h4 h5)
/-- [e, ..]: the new list lies behind what the interpreter itself made -/
def tLstN (t : TA) : TE := fun σ H Q => t σ H fun xs H1 => xs.length ≤ sizeLine ∧ ∀ p, H1 p = none → p ≠ 1 → Q (.ref p) (upd H1 p (.lst xs))
theorem pe_lstN {es : List Expr} {t : TA} {pos : Pos} (h : PA X es t) : PE X (.List es pos) (tLstN t) := by
  refine ⟨fun pins s σ H Q I hq => ?_⟩
  refine wpAny_List_spliced (thn (h.run pos pins s σ H _ I hq) fun us s1 ⟨xs, H1, I1, r, z, q⟩ => ⟨by rw [← r.length]; exact z, ?_⟩)
  have big := I1.big
  refine ⟨.ref s1.heap.objs.size, upd H1 s1.heap.objs.size (.lst xs), I1.laid (t' := s1.toks) (fun b u e => Heap.get?_push_of_some _ e) (Nat.le_refl _) ⟨z, us, 0, r, Heap.get?_push_size _ rfl⟩, rfl, q _ (I1.hok.fresh (Nat.le_refl _)) (Nat.ne_of_gt big)⟩
end
end Ls
end

section
set_option Elab.async false
set_option linter.all false
set_option maxRecDepth 100000
set_option maxHeartbeats 4000000
namespace Ls
open PySem PySem.Spec PyProof.Rows L2

/-- all but p stands -/
def Em (p : Addr) (H H' : Hp) : Prop := ∀ a o, a ≠ p → H a = some o → H' a = some o
theorem Em.refl (p : Addr) (H : Hp) : Em p H H := fun _ _ _ h => h
theorem Em.trans {p : Addr} {H H1 H2 : Hp} (a : Em p H H1) (b : Em p H1 H2) : Em p H H2 := fun x o n h => b x o n (a x o n h)
theorem Ex.em {H H' : Hp} (p : Addr) (e : Ex H H') : Em p H H' := fun a o _ h => e a o h
theorem Em.put {p : Addr} {H : Hp} {o : HO} : Em p H (upd H p o) := fun a u n h => by rw [upd_ne n]; exact h
/-- without p -/
def mi (H : Hp) (p : Addr) : Hp := fun a => if a = p then none else H a
theorem mi_ne {H : Hp} {p a : Addr} (n : a ≠ p) : mi H p a = H a := if_neg n
theorem mi_ex (H : Hp) (p : Addr) : Ex (mi H p) H := fun a o h => by
  by_cases e : a = p
  · have z : mi H p a = none := if_pos e
    rw [z] at h
    cases h
  · rw [mi_ne e] at h
    exact h
theorem Em.mi {p : Addr} {H H' : Hp} (e : Em p H H') : Ex (mi H p) (mi H' p) := fun a o h => by
  by_cases n : a = p
  · have z : Ls.mi H p a = none := if_pos n
    rw [z] at h
    cases h
  · rw [mi_ne n] at h ⊢
    exact e a o n h
theorem Ex.mi {H H' : Hp} (p : Addr) (e : Ex H H') : Ex (mi H p) (mi H' p) := (e.em p).mi
theorem mi_none {H : Hp} {p a : Addr} (h : H a = none) : mi H p a = none := by
  by_cases e : a = p
  · exact if_pos e
  · rw [mi_ne e]
    exact h

def rAddU (K : PySem.W.Frag) : R2 := fun x y H Q => rI0 (fun i j => .int (i + j)) x y H Q ∨ (∃ i j, x = .str i ∧ y = .str j ∧ i.length + j.length ≤ sizeLine ∧ Q (.str (i ++ j)) H) ∨ rCatA K x y H Q ∨ rCat x y H Q
def rMulU (K : PySem.W.Frag) : R2 := fun x y H Q => rI CMul (fun i j => .int (i * j)) x y H Q ∨ rRep x y H Q ∨ rRepT K x y H Q
/-- any two data -/
def rEqU (K : PySem.W.Frag) : R2 := fun x y H Q => rEq x y H Q ∨ rEqD K x y H Q
def rNeU (K : PySem.W.Frag) : R2 := fun x y H Q => rNe x y H Q ∨ rNeD K x y H Q
def rLt : R2 := rI0 fun i j => .bl (decide (i < j))
def rLe : R2 := rI0 fun i j => .bl (decide (i ≤ j))
def rGtU : R2 := rI0 fun i j => .bl (decide (j < i))
def rGeU : R2 := rI0 fun i j => .bl (decide (j ≤ i))
def rSubI : R2 := rI0 fun i j => .int (i - j)
def rFdiv : R2 := rI CDiv fun i j => .int (i / j)
def rMod : R2 := rI (fun _ j => 0 < j) fun i j => .int (i % j)
def rPow : R2 := rI CPow fun i j => .int (i ^ j.toNat)
def rInS : R2 := fun x y H Q => ∃ (c : Nat) (z : Str), x = .str ⟨#[c]⟩ ∧ y = .str z ∧ Q (.bl (decide (c ∈ z.cps.toList))) H
def rInU (K : PySem.W.Frag) : R2 := fun x y H Q => rIn K false x y H Q ∨ rInS x y H Q
def rNotInS : R2 := fun x y H Q => ∃ (c : Nat) (z : Str), x = .str ⟨#[c]⟩ ∧ y = .str z ∧ Q (.bl (!decide (c ∈ z.cps.toList))) H
def rNotInU (K : PySem.W.Frag) : R2 := fun x y H Q => rIn K true x y H Q ∨ rNotInS x y H Q
def rIsNo : R2 := fun x y H Q => y = .non ∧ Q (.bl (decide (x = .non))) H
def rIsntNo : R2 := fun x y H Q => y = .non ∧ Q (.bl (!decide (x = .non))) H
section
variable {X : Cx}
theorem op_addU : OpR X (binaryOp .Add) (rAddU X.K) := op_add.or (op_add_str.or (op_catA.or op_cat))
theorem op_mulU : OpR X (binaryOp .Mult) (rMulU X.K) := op_mul.or (op_rep.or op_repT)
theorem op_eqU {k : Nat} (hr : RoomG k X.A) : OpR X (compareOp .Eq) (rEqU X.K) := op_eq.or (op_eqD hr.rm.units)
theorem op_neU {k : Nat} (hr : RoomG k X.A) : OpR X (compareOp .NotEq) (rNeU X.K) := op_ne.or (op_neD hr.rm.units)
theorem op_ltU : OpR X (compareOp .Lt) rLt := op_lt
theorem op_leU : OpR X (compareOp .LtE) rLe := op_le
theorem op_gtU : OpR X (compareOp .Gt) rGtU := op_gt
theorem op_geU : OpR X (compareOp .GtE) rGeU := op_ge
theorem op_subU : OpR X (binaryOp .Sub) rSubI := op_sub
theorem op_fdivU : OpR X (binaryOp .FloorDiv) rFdiv := op_fdiv
theorem op_modU : OpR X (binaryOp .Mod) rMod := op_mod
theorem op_powU : OpR X (binaryOp .Pow) rPow := op_pow
theorem op_inU : OpR X (compareOp .In) (rInU X.K) := op_in_seq.or op_in_sign
theorem op_notInU : OpR X (compareOp .NotIn) (rNotInU X.K) := op_notIn_seq.or op_notIn_sign
theorem op_isU : OpR X (compareOp .Is) rIsNo := op_isN
theorem op_isntU : OpR X (compareOp .IsNot) rIsntNo := op_notN
end
def rNeg : V → Hp → VK → Prop := rU fun i => .int (-i)
theorem un_negU {X : Cx} : UnR X (unaryOp .USub) rNeg := un_neg

def rAbs : List V → Hp → VK → Prop := fun xs H Q => ∃ i, xs = [.int i] ∧ Q (.int (if i < 0 then -i else i)) H
/-- max, min: of two ints, or of a list of ints -/
def rMaxU (K : PySem.W.Frag) : List V → Hp → VK → Prop := fun xs H Q => (∃ i j, xs = [.int i, .int j] ∧ Q (.int (if j > i then j else i)) H) ∨ rMax K xs H Q
def rMinU (K : PySem.W.Frag) : List V → Hp → VK → Prop := fun xs H Q => (∃ i j, xs = [.int i, .int j] ∧ Q (.int (if j < i then j else i)) H) ∨ rMin K xs H Q
def rIntU : List V → Hp → VK → Prop := fun xs H Q => ((∃ i, xs = [.int i] ∧ Q (.int i) H) ∨ ∃ k, xs = [.bl k] ∧ Q (.int (if k then 1 else 0)) H) ∨ ∃ a n, xs = [.str a] ∧ PySem.intText? a = some n ∧ a.length ≤ 640 ∧ Q (.int n) H
def rStrI : List V → Hp → VK → Prop := fun xs H Q => ∃ i, xs = [.int i] ∧ i.natAbs.log2 < 1920 ∧ Q (.str (toString i)) H
def rLen (K : PySem.W.Frag) : List V → Hp → VK → Prop := fun xs H Q => ∃ x n, xs = [x] ∧ LenV K x H n ∧ Q (.int n) H
def rDivmod : List V → Hp → VK → Prop := fun xs H Q => ∃ i j, xs = [.int i, .int j] ∧ CDiv i j ∧ ∀ p, H p = none → Q (.ref p) (upd H p (.tup [.int (i / j), .int (i % j)]))
def rTupOf (K : PySem.W.Frag) : List V → Hp → VK → Prop := fun xs H Q => ∃ p ys, xs = [.ref p] ∧ ((SqL K H p ys ∧ ∀ l, H l = none → Q (.ref l) (upd H l (.tup ys))) ∨ (SqT K H p ys ∧ Q (.ref p) H))
def rLstOf (K : PySem.W.Frag) : List V → Hp → VK → Prop := fun xs H Q => ∃ p ys, xs = [.ref p] ∧ (SqL K H p ys ∨ SqT K H p ys) ∧ ∀ l, H l = none → Q (.ref l) (upd H l (.lst ys))
def rIsiU (K : PySem.W.Frag) : List V → Hp → VK → Prop := fun xs H Q => rIsi K xs H Q ∨ rIsiT K xs H Q
/-- max(xs, default=d) over a list of ints -/
def rMaxD (K : PySem.W.Frag) : List V → List V → Hp → VK → Prop := fun xs zs H Q => ∃ (a : Addr) (ns : List Int) (d : V), xs = [.ref a] ∧ zs = [d] ∧ SqL K H a (ns.map V.int) ∧ (ns = [] → Q d H) ∧ ∀ y ys, ns = y :: ys → ∀ m, m ∈ ns → (∀ z, z ∈ ns → z ≤ m) → Q (.int m) H
section
variable {X : Cx}
theorem CallR.or {f : Value} {r r' : List V → Hp → VK → Prop} (h : CallR X f r) (h' : CallR X f r') : CallR X f (fun xs H Q => r xs H Q ∨ r' xs H Q) := by
  intro pins s σ H vs us Q I rv q
  rcases q with q | q
  · exact h pins s σ H vs us Q I rv q
  · exact h' pins s σ H vs us Q I rv q
theorem call_absU : CallR X (.builtin "abs") rAbs := call_abs
theorem call_maxU (hc : X.calm = true) : CallR X (.builtin "max") (rMaxU X.K) := CallR.or (call_max2 hc) (cr_max hc)
theorem call_minU (hc : X.calm = true) : CallR X (.builtin "min") (rMinU X.K) := CallR.or (call_min2 hc) (cr_min hc)
theorem call_intU : CallR X (.type "int") rIntU := CallR.or call_int1 call_int_str
theorem call_strU : CallR X (.type "str") rStrI := call_str_int
theorem call_lenU : CallR X (.builtin "len") (rLen X.K) := call_len
theorem call_divmodU : CallR X (.builtin "divmod") rDivmod := call_divmod
theorem call_tupleU : CallR X (.type "tuple") (rTupOf X.K) := call_tuple_of
theorem call_listU : CallR X (.type "list") (rLstOf X.K) := call_list_of
theorem call_isiU : CallR X (.builtin "isinstance") (rIsiU X.K) := CallR.or call_isi call_isiT
theorem max_of (ns : List Int) (y : Int) (ys : List Int) (e : ns = y :: ys) : PySem.W.maxOf y ys ∈ ns ∧ ∀ z, z ∈ ns → z ≤ PySem.W.maxOf y ys := by
  subst e
  have key : ∀ (l : List Int) (a : Int), (List.foldl (fun a y => if PySem.W.DatumOrd.lt a y = true then y else a) a l ∈ a :: l) ∧ ∀ z, z ∈ a :: l → z ≤ List.foldl (fun a y => if PySem.W.DatumOrd.lt a y = true then y else a) a l := by
    intro l
    induction l with
    | nil => intro a; exact ⟨List.mem_cons_self, fun z hz => by
        have : z = a := by simpa using hz
        subst this
        exact Int.le_refl _⟩
    | cons b l ih =>
      intro a
      rw [List.foldl_cons]
      have hlt : PySem.W.DatumOrd.lt a b = decide (a < b) := rfl
      by_cases c : a < b
      · have e1 : (if PySem.W.DatumOrd.lt a b = true then b else a) = b := by rw [hlt, if_pos (decide_eq_true c)]
        rw [e1]
        obtain ⟨h1, h2⟩ := ih b
        refine ⟨List.mem_cons_of_mem _ h1, fun z hz => ?_⟩
        rcases List.mem_cons.mp hz with e | hz
        · subst e
          exact Int.le_trans (Int.le_of_lt c) (h2 b List.mem_cons_self)
        · exact h2 z hz
      · have e1 : (if PySem.W.DatumOrd.lt a b = true then b else a) = a := by rw [hlt, decide_eq_false c, if_neg Bool.false_ne_true]
        rw [e1]
        obtain ⟨h1, h2⟩ := ih a
        refine ⟨?_, fun z hz => ?_⟩
        · rcases List.mem_cons.mp h1 with e | h1
          · rw [e]
            exact List.mem_cons_self
          · exact List.mem_cons_of_mem _ (List.mem_cons_of_mem _ h1)
        · rcases List.mem_cons.mp hz with e | hz
          · subst e
            exact h2 z List.mem_cons_self
          · rcases List.mem_cons.mp hz with e | hz
            · subst e
              exact Int.le_trans (Int.not_lt.mp c) (h2 a List.mem_cons_self)
            · exact h2 z (List.mem_cons_of_mem _ hz)
  exact key ys y
theorem ints_reads {h : Heap} : ∀ {ns : List Int} {us : List Value}, Vals (ns.map V.int) us → ReadsAll h us (ns.map PySem.W.Datum.toD) []
  | [], _, r => by cases r; exact .nil
  | n :: ns, _, r => by
    cases r with
    | cons a b =>
      obtain ⟨t, rfl⟩ := a
      exact .cons (.int n t) (ints_reads b)
theorem call_maxD {k : Nat} (hc : X.calm = true) (hr : RoomG k X.A) : CallRK X (.builtin "max") [Str.ofString "default"] (rMaxD X.K) := by
  intro pins s σ H xs zs us ws Q I r rz h
  obtain ⟨a, ns, d, rfl, rfl, hS, q0, q1⟩ := h
  cases r with
  | cons ra rn =>
    cases rn
    cases ra
    cases rz with
    | cons rd rn =>
      rename_i dv _
      cases rn
      obtain ⟨its, rv, p, hz⟩ := I.list hS
      have hA : PySem.W.HoldAll s.heap its.toArray.toList ns := ⟨[], by simpa using ints_reads rv⟩
      have hu := hr.rm.units
      refine PySem.W.max_list_datum_default (I.ok.hd hc) p.isList hA (by show X.A.units + 1 + 0 < cLine; omega) (fun e h' tk hk => ⟨d, H, I.kept hk, rd, q0 e⟩) fun y ys i v h' tk e hi hH hk => ?_
      obtain ⟨as, hR⟩ := hH
      obtain ⟨m1, m2⟩ := max_of ns y ys e
      have hR' : Reads h' v (.int (PySem.W.maxOf y ys)) as := hR
      cases hR' with
      | int i t => exact ⟨.int _, H, I.kept hk, ⟨_, rfl⟩, q1 y ys e _ m1 m2⟩
end
end Ls
end

section
set_option Elab.async false
set_option linter.all false
set_option maxRecDepth 100000
set_option maxHeartbeats 4000000
namespace Ls
open PySem PySem.Spec PyProof.Rows L2

/-- what a display asks behind its items -/
def kTup (xs : List V) (H : Hp) (Q : VK) : Prop := xs.length ≤ sizeLine ∧ ∀ p, H p = none → Q (.ref p) (upd H p (.tup xs))
def kLst (xs : List V) (H : Hp) (Q : VK) : Prop := xs.length ≤ sizeLine ∧ ∀ p, H p = none → p ≠ 1 → Q (.ref p) (upd H p (.lst xs))
def kPart (x : V) (QO : Option Int → Hp → Prop) (H1 : Hp) : Prop := ∃ i, x = .int i ∧ QO (some i) H1
def kB (x : V) (H : Hp) (Q : Bool → Hp → Prop) : Prop := ∃ k, x = .bl k ∧ Q k H
/-- what a for, a comprehension asks once it is known what is walked -/
def kFor (J : It) (g : TG) (tb : TS) (D : Ends) (σ : L2.St) (H : Hp) : Prop := ∃ W : Nat → Nat → L2.St → Hp → Prop, (∃ m, W 0 m σ H) ∧ ∀ i m σ H, W i m σ H →
  (J.stop i H ∧ D.nx σ H) ∨ (J.go i H ∧ ∃ N : L2.St → Hp → Prop, (∀ σ' H', N σ' H' → ∃ m', m' < m ∧ W (i + 1) m' σ' H') ∧ ∀ x H', J.yld i H x H' → g x σ H' fun σ2 H2 => tb { D with nx := N, ct := N, bk := D.nx } σ2 H2)
def kLc (J : It) (g : TG) (tt : TT) (te : TE) (vs : List Nat) (σ : L2.St) (H1 : Hp) (Q : VK) : Prop := ∀ D, H1 D = none → ∃ W : Nat → Nat → Hp → Prop, (∃ m, W 0 m (upd H1 D (.lst []))) ∧ ∀ i m H, W i m H →
  (J.stop i H ∧ Q (.ref D) H) ∨ (J.go i H ∧ ∃ Nx : Hp → Prop, (∀ H', Nx H' → ∃ m', m' < m ∧ W (i + 1) m' H') ∧ ∀ x H', J.yld i H x H' → g x (wipe σ vs) H' fun σ2 H2 => wipe σ2 vs = wipe σ vs ∧ tt σ2 H2 fun b H3 =>
    if b = true then te σ2 H3 fun y H4 => ∃ acc, H4 D = some (.lst acc) ∧ acc.length < sizeLine ∧ Nx (upd H4 D (.lst (acc ++ [y]))) else Nx H3)
section
variable {σ σ2 : L2.St} {H : Hp} {Q : VK} {v x y : V} {ta tb te : TE} {t : TA} {D : Ends} {K : PySem.W.Frag} {QA : List V → Hp → Prop} {tt uu : TT} {QT : Bool → Hp → Prop} {s1 s2 : TS} {g : TG} {QS : L2.St → Hp → Prop}
theorem r_var {i : Nat} (h : σ[i]? = some (some v)) (q : Q v H) : tVar i σ H Q := ⟨v, h, q⟩
theorem r_c (q : Q v H) : tC v σ H Q := q
theorem r_op {r : R2} (h : ta σ H fun x H1 => tb σ H1 fun y H2 => r x y H2 Q) : tOp r ta tb σ H Q := h
theorem r_un {r : V → Hp → VK → Prop} (h : ta σ H fun x H1 => r x H1 Q) : tUn r ta σ H Q := h
theorem r_nil (q : QA [] H) : tNil σ H QA := q
theorem r_cons (h : ta σ H fun x H1 => t σ H1 fun xs H2 => QA (x :: xs) H2) : tCons ta t σ H QA := h
theorem r_cb {r : List V → Hp → VK → Prop} (h : t σ H fun vs H1 => r vs H1 Q) : tCB r t σ H Q := h
theorem r_ckw {r : List V → List V → Hp → VK → Prop} {tk : TA} (h : t σ H fun vs H1 => tk σ H1 fun zs H2 => r vs zs H2 Q) : tCKw r t tk σ H Q := h
theorem r_cal {sp : Sp} {E : XK} (h : t σ H fun vs H1 => sp vs H1 Q E) : tCal sp E t σ H Q := h
theorem r_calK {sp : Sp} {E : XK} {perm : List V → List V} (h : t σ H fun vs H1 => sp (perm vs) H1 Q E) : tCalK sp E perm t σ H Q := h
theorem r_tup (h : t σ H fun xs H1 => kTup xs H1 Q) : tTup t σ H Q := h
theorem r_lst (h : t σ H fun xs H1 => kLst xs H1 Q) : tLstN t σ H Q := h
theorem r_if (h : tt σ H fun c H1 => if c = true then ta σ H1 Q else tb σ H1 Q) : tIf tt ta tb σ H Q := h
theorem r_andV (h : ta σ H fun x H1 => kB x H1 fun c H1 => if c = true then tb σ H1 Q else Q (.bl false) H1) : tAndV ta tb σ H Q := h
theorem r_orV (h : ta σ H fun x H1 => kB x H1 fun c H1 => if c = true then Q (.bl true) H1 else tb σ H1 Q) : tOrV ta tb σ H Q := h
theorem r_notV (h : ta σ H fun x H1 => kB x H1 fun c H1 => Q (.bl (!c)) H1) : tNotV ta σ H Q := h
theorem r_chain {r r' : R2} {tc : TE} (h : ta σ H fun x H1 => tb σ H1 fun y H2 => r x y H2 fun z H3 => kB z H3 fun k H3 => if k = true then tc σ H3 fun w' H4 => r' y w' H4 Q else Q (.bl false) H3) : tChain r r' ta tb tc σ H Q := h
theorem r_sl {r : V → Option Int → Option Int → Hp → VK → Prop} {tl th : TO} (h : te σ H fun x H1 => tl σ H1 fun l H2 => th σ H2 fun u H3 => r x l u H3 Q) : tSl r te tl th σ H Q := h
theorem r_nopart {QO : Option Int → Hp → Prop} (q : QO none H) : tNoPart σ H QO := q
theorem r_part {QO : Option Int → Hp → Prop} (h : te σ H fun x H1 => kPart x QO H1) : tPart te σ H QO := h
theorem k_part {QO : Option Int → Hp → Prop} {i : Int} (q : QO (some i) H) : kPart (.int i) QO H := ⟨i, rfl, q⟩
theorem r_bm0 {T : String} {r : V → List V → Hp → VK → Prop} (h : te σ H fun x H1 => tyV K T x H1 ∧ r x [] H1 Q) : tBM0 K T r te σ H Q := h
theorem r_bm {T : String} {r : V → List V → Hp → VK → Prop} (h : te σ H fun x H1 => tyV K T x H1 ∧ t σ H1 fun xs H2 => r x xs H2 Q) : tBM K T r te t σ H Q := h
theorem r_test (h : te σ H fun x H1 => kB x H1 QT) : tTest te σ H QT := h
theorem r_B (h : te σ H fun x H1 => kB x H1 QT) : tB te σ H QT := h
theorem k_B {b : Bool} (q : QT b H) : kB (.bl b) H QT := ⟨b, rfl, q⟩
theorem r_not (h : tt σ H fun c H1 => QT (!c) H1) : tNot tt σ H QT := h
theorem r_and (h : tt σ H fun c H1 => if c = true then uu σ H1 QT else QT false H1) : tAnd tt uu σ H QT := h
theorem r_or (h : tt σ H fun c H1 => if c = true then QT true H1 else uu σ H1 QT) : tOr tt uu σ H QT := h
theorem br {c A B : Prop} [Decidable c] (h1 : c → A) (h2 : ¬ c → B) : if decide c = true then A else B := by
  by_cases h : c
  · rw [decide_eq_true h, if_pos rfl]; exact h1 h
  · rw [decide_eq_false h, if_neg Bool.false_ne_true]; exact h2 h
theorem brN {c A B : Prop} [Decidable c] (h1 : ¬ c → A) (h2 : c → B) : if (!decide c) = true then A else B := by
  by_cases h : c
  · rw [decide_eq_true h, if_neg (by decide)]; exact h2 h
  · rw [decide_eq_false h, if_pos (by decide)]; exact h1 h
theorem brB {b : Bool} {A B : Prop} (h1 : b = true → A) (h2 : b = false → B) : if b = true then A else B := by
  cases b with
  | true => rw [if_pos rfl]; exact h1 rfl
  | false => rw [if_neg Bool.false_ne_true]; exact h2 rfl
theorem brBN {b : Bool} {A B : Prop} (h1 : b = false → A) (h2 : b = true → B) : if (!b) = true then A else B := by
  cases b with
  | true => rw [if_neg (by decide)]; exact h2 rfl
  | false => rw [if_pos (by decide)]; exact h1 rfl
theorem ifY {c A B : Prop} [Decidable c] (hc : c) (h : A) : if decide c = true then A else B := br (fun _ => h) fun n => absurd hc n
theorem ifN {c A B : Prop} [Decidable c] (hc : ¬ c) (h : B) : if decide c = true then A else B := br (fun n => absurd n hc) fun _ => h
theorem ifnY {c A B : Prop} [Decidable c] (hc : ¬ c) (h : A) : if (!decide c) = true then A else B := brN (fun _ => h) fun n => absurd n hc
theorem ifnN {c A B : Prop} [Decidable c] (hc : c) (h : B) : if (!decide c) = true then A else B := brN (fun n => absurd hc n) fun _ => h
theorem r_seq (h : s1 { D with nx := s2 D } σ H) : tSeq s1 s2 D σ H := h
theorem r_ifS (h : tt σ H fun b H1 => if b = true then s1 D σ H1 else s2 D σ H1) : tIfS tt s1 s2 D σ H := h
theorem r_next (q : D.nx σ H) : tNext D σ H := q
theorem r_brk (q : D.bk σ H) : tBreak D σ H := q
theorem r_cont (q : D.ct σ H) : tCont D σ H := q
theorem r_ret (h : te σ H D.rt) : tRet te D σ H := h
theorem r_retN (h : D.rt .non H) : tRetN D σ H := h
theorem r_drop (h : te σ H fun _ H1 => D.nx σ H1) : tDrop te D σ H := h
theorem r_asg (h : te σ H fun x H1 => g x σ H1 D.nx) : tAsg te g D σ H := h
theorem r_par {i j : Nat} (h : t σ H fun vs H1 => ∃ v w, vs = [v, w] ∧ D.nx ((σ.set i (some v)).set j (some w)) H1) : tPar i j t D σ H := h
theorem k_par {i j : Nat} (q : D.nx ((σ.set i (some x)).set j (some y)) H) : ∃ v w, [x, y] = [v, w] ∧ D.nx ((σ.set i (some v)).set j (some w)) H := ⟨x, y, rfl, q⟩
theorem r_aug {i : Nat} {ti : TIp} (h : σ[i]? = some (some x)) (q : te σ H fun y H1 => ti x y H1 fun z H2 => D.nx (σ.set i (some z)) H2) : tAug i te ti D σ H := ⟨x, h, q⟩
theorem y_ip {f : Int → Int → Int} {i j : Int} (q : Q (.int (f i j)) H) : ipI f (.int i) (.int j) H Q := ⟨i, j, rfl, rfl, q⟩
theorem g_name {i : Nat} (q : QS (σ.set i (some v)) H) : gName i v σ H QS := q
theorem g_tup {n : Nat} {gs : TGs} {a : Addr} {xs : List V} (hs : SqT K H a xs) (hl : xs.length = n) (q : gs xs σ H QS) : gTup K n gs (.ref a) σ H QS := ⟨a, xs, rfl, hs, hl, q⟩
theorem g_nil (q : QS σ H) : gNil [] σ H QS := ⟨rfl, q⟩
theorem g_cons {gs : TGs} {xs : List V} (q : g v σ H fun σ' H' => gs xs σ' H' QS) : gCons g gs (v :: xs) σ H QS := ⟨v, xs, rfl, q⟩
theorem g_sub {ts : TSet} (q : ta σ H fun o H1 => tb σ H1 fun i H2 => ts o i v H2 fun H3 => QS σ H3) : gSub ta tb ts v σ H QS := q
theorem e_nx {n b c : L2.St → Hp → Prop} {r : VK} (q : n σ H) : (Ends.mk n r b c).nx σ H := q
theorem e_rt {n b c : L2.St → Hp → Prop} {r : VK} (q : r v H) : (Ends.mk n r b c).rt v H := q
theorem e_bk {n b c : L2.St → Hp → Prop} {r : VK} (q : b σ H) : (Ends.mk n r b c).bk σ H := q
theorem e_ct {n b c : L2.St → Hp → Prop} {r : VK} (q : c σ H) : (Ends.mk n r b c).ct σ H := q
theorem r_for {wi : TI} {tb : TS} (h : wi σ H fun J H1 => kFor J g tb D σ H1) : tFor wi g tb D σ H := h
theorem r_lc {wi : TI} {vs : List Nat} (h : wi σ H fun J H1 => kLc J g tt te vs σ H1 Q) : tLc wi g tt te vs σ H Q := h
theorem k_tup {xs : List V} (q : ∀ p H', H p = none → Ex H H' → H' p = some (.tup xs) → Q (.ref p) H') (hz : xs.length ≤ 1000 := by simp) : kTup xs H Q :=
  ⟨Nat.le_trans hz (by decide), fun p n => q p _ n (Ex.new n) upd_same⟩
theorem k_lst {xs : List V} (q : ∀ p H', H p = none → p ≠ 1 → Ex H H' → H' p = some (.lst xs) → Q (.ref p) H') (hz : xs.length ≤ 1000 := by simp) : kLst xs H Q :=
  ⟨Nat.le_trans hz (by decide), fun p n m => q p _ n m (Ex.new n) upd_same⟩
theorem y_add {i j : Int} (q : Q (.int (i + j)) H) : rAddU K (.int i) (.int j) H Q := .inl ⟨i, j, rfl, rfl, q⟩
theorem y_addS {a b : Str} (hz : a.length + b.length ≤ sizeLine) (q : Q (.str (a ++ b)) H) : rAddU K (.str a) (.str b) H Q := .inr (.inl ⟨a, b, rfl, rfl, hz, q⟩)
theorem y_addT {a b : Addr} {xs ys : List V} (ha : SqT K H a xs) (hb : SqT K H b ys) (hz : xs.length + ys.length ≤ sizeLine) (q : ∀ p H', Ex H H' → SqT K H' p (xs ++ ys) → Q (.ref p) H') : rAddU K (.ref a) (.ref b) H Q :=
  .inr (.inr (.inl ⟨a, b, xs, ys, rfl, rfl, ha, hb, hz, fun e => q b H (Ex.refl H) (by rw [e]; exact hb), fun _ e => q a H (Ex.refl H) (by rw [e, List.append_nil]; exact ha), fun _ _ p n => q p _ (Ex.new n) (.of upd_same)⟩))
theorem y_addL {a b : Addr} {xs ys : List V} (ha : H a = some (.lst xs)) (hb : H b = some (.lst ys)) (hz : xs.length + ys.length ≤ sizeLine) (q : ∀ p H', H p = none → Ex H H' → H' p = some (.lst (xs ++ ys)) → Q (.ref p) H') : rAddU K (.ref a) (.ref b) H Q :=
  .inr (.inr (.inr ⟨a, b, xs, ys, rfl, rfl, ha, hb, hz, fun p n => q p _ n (Ex.new n) upd_same⟩))
theorem y_mul {i j : Int} (h : CMul i j) (q : Q (.int (i * j)) H) : rMulU K (.int i) (.int j) H Q := .inl ⟨i, j, rfl, rfl, h, q⟩
theorem y_mulL {a : Addr} {xs : List V} {k : Int} (ha : H a = some (.lst xs)) (h0 : 0 ≤ k) (h1 : k ≤ 1000) (hz : xs.length ≤ 1000) (q : ∀ p H', H p = none → Ex H H' → H' p = some (.lst (List.replicate k.toNat xs).flatten) → Q (.ref p) H') : rMulU K (.ref a) (.int k) H Q := by
  refine .inr (.inl ⟨a, k, xs, rfl, rfl, ha, by omega, by omega, ?_, fun p n => q p _ n (Ex.new n) upd_same⟩)
  have h2 : k.toNat ≤ 1000 := by omega
  exact Nat.le_trans (Nat.mul_le_mul hz h2) (by decide)
theorem y_mulT {a : Addr} {xs : List V} {k : Int} (ha : SqT K H a xs) (hn : xs ≠ []) (h0 : 2 ≤ k) (h1 : k ≤ 1000) (hz : xs.length ≤ 1000) (q : ∀ p H', H p = none → Ex H H' → H' p = some (.tup (List.replicate k.toNat xs).flatten) → Q (.ref p) H') : rMulU K (.ref a) (.int k) H Q :=
  .inr (.inr ⟨a, k, xs, rfl, rfl, ha, hn, h0, h1, hz, fun p n => q p _ n (Ex.new n) upd_same⟩)
theorem y_sub {i j : Int} (q : Q (.int (i - j)) H) : rSubI (.int i) (.int j) H Q := ⟨i, j, rfl, rfl, q⟩
theorem y_fdiv {i j : Int} (h : CDiv i j) (q : Q (.int (i / j)) H) : rFdiv (.int i) (.int j) H Q := ⟨i, j, rfl, rfl, h, q⟩
theorem y_mod {i j : Int} (h : 0 < j) (q : Q (.int (i % j)) H) : rMod (.int i) (.int j) H Q := ⟨i, j, rfl, rfl, h, q⟩
theorem y_pow {i j : Int} (h : CPow i j) (q : Q (.int (i ^ j.toNat)) H) : rPow (.int i) (.int j) H Q := ⟨i, j, rfl, rfl, h, q⟩
theorem y_neg {i : Int} (q : Q (.int (-i)) H) : rNeg (.int i) H Q := ⟨i, rfl, q⟩
theorem y_lt {i j : Int} (q : Q (.bl (decide (i < j))) H) : rLt (.int i) (.int j) H Q := ⟨i, j, rfl, rfl, q⟩
theorem y_le {i j : Int} (q : Q (.bl (decide (i ≤ j))) H) : rLe (.int i) (.int j) H Q := ⟨i, j, rfl, rfl, q⟩
theorem y_gt {i j : Int} (q : Q (.bl (decide (j < i))) H) : rGtU (.int i) (.int j) H Q := ⟨i, j, rfl, rfl, q⟩
theorem y_ge {i j : Int} (q : Q (.bl (decide (j ≤ i))) H) : rGeU (.int i) (.int j) H Q := ⟨i, j, rfl, rfl, q⟩
theorem decV {α : Type} {f : α → V} (hf : ∀ a b, f a = f b → a = b) (a b : α) [Decidable (a = b)] : decide (f a = f b) = decide (a = b) := by
  by_cases e : a = b
  · rw [decide_eq_true e, e]; simp
  · rw [decide_eq_false e]; exact decide_eq_false fun z => e (hf _ _ z)
theorem y_eqI {i j : Int} (q : Q (.bl (decide (i = j))) H) : rEqU K (.int i) (.int j) H Q := .inl ⟨rfl, by rw [decV (f := V.int) (fun _ _ e => V.int.inj e)]; exact q⟩
theorem y_eqS {i j : Str} (q : Q (.bl (decide (i = j))) H) : rEqU K (.str i) (.str j) H Q := .inl ⟨rfl, by rw [decV (f := V.str) (fun _ _ e => V.str.inj e)]; exact q⟩
theorem y_neI {i j : Int} (q : Q (.bl (!decide (i = j))) H) : rNeU K (.int i) (.int j) H Q := .inl ⟨rfl, by rw [decV (f := V.int) (fun _ _ e => V.int.inj e)]; exact q⟩
theorem y_neS {i j : Str} (q : Q (.bl (!decide (i = j))) H) : rNeU K (.str i) (.str j) H Q := .inl ⟨rfl, by rw [decV (f := V.str) (fun _ _ e => V.str.inj e)]; exact q⟩
theorem y_isNo (q : Q (.bl (decide (x = .non))) H) : rIsNo x .non H Q := ⟨rfl, q⟩
theorem y_isntNo (q : Q (.bl (!decide (x = .non))) H) : rIsntNo x .non H Q := ⟨rfl, q⟩
theorem y_inS {c : Nat} {z : Str} (q : Q (.bl (decide (c ∈ z.cps.toList))) H) : rInU K (.str ⟨#[c]⟩) (.str z) H Q := .inr ⟨c, z, rfl, rfl, q⟩
theorem y_ixL {p : Addr} {xs : List V} {i : Int} (h : SqL K H p xs) (ha : atI xs i = some v) (q : Q v H) : rIx K (.ref p) (.int i) H Q := .inl ⟨p, xs, i, v, rfl, rfl, h, ha, q⟩
theorem y_ixT {p : Addr} {xs : List V} {i : Int} (h : SqT K H p xs) (ha : atI xs i = some v) (q : Q v H) : rIx K (.ref p) (.int i) H Q := .inr (.inl ⟨p, xs, i, v, rfl, rfl, h, ha, q⟩)
theorem y_ixS {z : Str} {i : Int} {c : Nat} (hz : z.length ≤ sizeLine) (ha : atI z.cps.toList i = some c) (q : Q (.str ⟨#[c]⟩) H) : rIx K (.str z) (.int i) H Q := .inr (.inr ⟨z, i, c, rfl, rfl, hz, ha, q⟩)
theorem y_setL {p : Addr} {xs : List V} {i : Int} {j : Nat} {QH : Hp → Prop} (h : H p = some (.lst xs)) (hj : ixN xs.length i = some j) (q : ∀ H', Em p H H' → H' p = some (.lst (xs.set j v)) → QH H') : rSetL (.ref p) (.int i) v H QH := ⟨p, xs, i, j, rfl, rfl, h, hj, q _ Em.put upd_same⟩
theorem y_abs {i : Int} (q : Q (.int (if i < 0 then -i else i)) H) : rAbs [.int i] H Q := ⟨i, rfl, q⟩
theorem y_max2 {i j : Int} (q : Q (.int (if j > i then j else i)) H) : rMaxU K [.int i, .int j] H Q := .inl ⟨i, j, rfl, q⟩
theorem y_min2 {i j : Int} (q : Q (.int (if j < i then j else i)) H) : rMinU K [.int i, .int j] H Q := .inl ⟨i, j, rfl, q⟩
theorem y_maxL {a : Addr} {ns : List Int} (h : SqL K H a (ns.map V.int)) (hn : 0 < ns.length) (q : ∀ m, m ∈ ns → (∀ z, z ∈ ns → z ≤ m) → Q (.int m) H) : rMaxU K [.ref a] H Q := .inr ⟨a, ns, rfl, h, hn, q⟩
theorem y_maxD {a : Addr} {ns : List Int} {d : Int} (h : SqL K H a (ns.map V.int)) (q : ∀ m, (ns = [] → m = d) → (ns ≠ [] → m ∈ ns ∧ ∀ z, z ∈ ns → z ≤ m) → Q (.int m) H) : rMaxD K [.ref a] [.int d] H Q :=
  ⟨a, ns, .int d, rfl, rfl, h, fun e => q d (fun _ => rfl) (fun n => absurd e n), fun y ys e m m1 m2 => q m (fun z => by rw [z] at e; cases e) fun _ => ⟨m1, m2⟩⟩
theorem y_intI {i : Int} (q : Q (.int i) H) : rIntU [.int i] H Q := .inl (.inl ⟨i, rfl, q⟩)
theorem y_intB {b : Bool} (q : Q (.int (if b then 1 else 0)) H) : rIntU [.bl b] H Q := .inl (.inr ⟨b, rfl, q⟩)
theorem y_intS {a : Str} {n : Int} (h : PySem.intText? a = some n) (hz : a.length ≤ 640) (q : Q (.int n) H) : rIntU [.str a] H Q := .inr ⟨a, n, rfl, h, hz, q⟩
theorem y_str {i : Int} (h : i.natAbs.log2 < 1920) (q : Q (.str (toString i)) H) : rStrI [.int i] H Q := ⟨i, rfl, h, q⟩
theorem y_lenL {p : Addr} {xs : List V} (h : SqL K H p xs) (q : Q (.int (xs.length : Nat)) H) : rLen K [.ref p] H Q := ⟨_, xs.length, rfl, .inl ⟨xs, h, rfl⟩, q⟩
theorem y_lenT {p : Addr} {xs : List V} (h : SqT K H p xs) (q : Q (.int (xs.length : Nat)) H) : rLen K [.ref p] H Q := ⟨_, xs.length, rfl, .inr ⟨xs, h, rfl⟩, q⟩
theorem y_lenS {z : Str} (hz : z.length ≤ sizeLine) (q : Q (.int (z.length : Nat)) H) : rLen K [.str z] H Q := ⟨_, z.length, rfl, ⟨hz, rfl⟩, q⟩
theorem y_divmod {i j : Int} (h : CDiv i j) (q : ∀ p H', H p = none → Ex H H' → H' p = some (.tup [.int (i / j), .int (i % j)]) → Q (.ref p) H') : rDivmod [.int i, .int j] H Q := ⟨i, j, rfl, h, fun p n => q p _ n (Ex.new n) upd_same⟩
theorem y_tupL {p : Addr} {ys : List V} (h : SqL K H p ys) (q : ∀ l H', H l = none → Ex H H' → H' l = some (.tup ys) → Q (.ref l) H') : rTupOf K [.ref p] H Q := ⟨p, ys, rfl, .inl ⟨h, fun l n => q l _ n (Ex.new n) upd_same⟩⟩
theorem y_tupT {p : Addr} {ys : List V} (h : SqT K H p ys) (q : Q (.ref p) H) : rTupOf K [.ref p] H Q := ⟨p, ys, rfl, .inr ⟨h, q⟩⟩
theorem y_sum {a : Addr} {ns : List Int} (h : SqL K H a (ns.map V.int)) (q : Q (.int ns.sum) H) : rSum K [.ref a] H Q := ⟨a, ns, rfl, h, q⟩
theorem y_all {a : Addr} {bs : List Bool} (h : SqL K H a (bs.map V.bl)) (q : Q (.bl (bs.all id)) H) : rAll K [.ref a] H Q := ⟨a, bs, rfl, h, q⟩
theorem y_any {a : Addr} {bs : List Bool} (h : SqL K H a (bs.map V.bl)) (q : Q (.bl (bs.any id)) H) : rAny K [.ref a] H Q := ⟨a, bs, rfl, h, q⟩
theorem y_repr {d : PyData} (h : Dt K H x d) (hs : d.showable = true) (hz : d.shown.length ≤ sizeLine) (hd : d.depth ≤ 40) (q : Q (.str d.shown) H) : rRepr K [x] H Q := ⟨x, d, rfl, .inl h, hs, hz, hd, q⟩
theorem y_reprP {d : PyData} (h : Dp K H x d) (hn : d.hasDict = false) (hs : d.showable = true) (hz : d.shown.length ≤ sizeLine) (hd : d.depth ≤ 40) (q : Q (.str d.shown) H) : rRepr K [x] H Q := ⟨x, d, rfl, .inr ⟨h, hn⟩, hs, hz, hd, q⟩
theorem y_slL {p : Addr} {xs : List V} {lo hi : Option Int} (h : SqL K H p xs) (q : ∀ l H', H l = none → Ex H H' → H' l = some (.lst (cutV xs lo hi)) → Q (.ref l) H') : rSlL K (.ref p) lo hi H Q := ⟨p, xs, rfl, h, fun l n => q l _ n (Ex.new n) upd_same⟩
theorem y_slS {z : Str} {lo hi : Option Int} (hz : z.length ≤ sizeLine) (q : Q (.str (cutS z lo hi)) H) : rSlS (.str z) lo hi H Q := ⟨z, rfl, hz, q⟩
end
def tyn : PyData → String
  | .none => "NoneType" | .bool _ => "bool" | .int _ => "int" | .str _ => "str" | .list _ => "list" | .tuple _ => "tuple" | .dict _ => "dict"
theorem Dt.ty {K : PySem.W.Frag} {H : Hp} {v : V} {d : PyData} (h : Dt K H v d) : TyX K H v (.type (tyn d)) := by
  cases h with
  | non => exact .base .non
  | bl b => exact .base (.bl b)
  | int i => exact .base (.int i)
  | str x => exact .base (.str x)
  | lst h _ _ =>
    rcases h with (h | ⟨o, h⟩) | ⟨o, its, n, hk, hc, _⟩
    · exact .base (.lst h)
    · exact .base (.frz h)
    · exact .kList hk hc
  | tup h _ =>
    rcases h with (h | ⟨o, h⟩) | ⟨o, its, n, hk, hc, _⟩
    · exact .base (.tup h)
    · exact .fTuple h
    · exact .kTuple hk hc
  | dct h _ =>
    rcases h with h | ⟨o, h⟩
    · exact .base (.dK h)
    · exact .fDict h
theorem y_isi {K : PySem.W.Frag} {H : Hp} {Q : VK} {v : V} {d : PyData} {T : String} {b : Bool} (h : Dt K H v d) (hb : kitB (tyn d) T = some b) (q : Q (.bl b) H) : rIsiU K [v, .ty T] H Q :=
  .inl ⟨v, .ty T, .type (tyn d), .type T, b, rfl, .ty T, h.ty, kit_ty hb, q⟩
end Ls
end

section
set_option Elab.async false
set_option linter.all false
set_option maxRecDepth 100000
set_option maxHeartbeats 4000000
namespace Ls
open PySem PySem.Spec PyProof.Rows L2
section
variable {X : Cx} {tg : Expr}
theorem pe_const {x : Str} {v : V} {pos : Pos} (h : ∃ u, X.mg x = some u ∧ RelV v u) (hg : Gl X x := by rfl) (hd : (x == ("__debug__" : Str)) = false := by decide) : PE X (.Name x pos) (tC v) := by
  obtain ⟨u, hm, r⟩ := h
  exact pe_glob hg hm r hd
def rSlU (K : PySem.W.Frag) : V → Option Int → Option Int → Hp → VK → Prop := fun x lo hi H Q => rSlL K x lo hi H Q ∨ rSlA K x lo hi H Q ∨ rSlS x lo hi H Q
theorem sl_U : SlR X (rSlU X.K) := sl_list.or (sl_tupA.or sl_str)
def kSeq (K : PySem.W.Frag) (x : V) (R : It → Hp → Prop) (H1 : Hp) : Prop := ∃ a, x = .ref a ∧ (((∃ xs, SqL K H1 a xs) ∧ R (Itl K a) H1) ∨ ((∃ xs, SqT K H1 a xs) ∧ R (Itt K a) H1))
def kRng (vs : List V) (R : It → Hp → Prop) (H1 : Hp) : Prop := ∃ j : Int, vs = [.int j] ∧ -(2 ^ 62) ≤ j ∧ j < 2 ^ 62 ∧ R (Itr 0 j.toNat) H1
/-- a list or a tuple, walked -/
def iSeq (K : PySem.W.Frag) (tl : TE) : TI := fun σ H R => tl σ H fun x H1 => kSeq K x R H1
theorem pi_seq {l : Expr} {tl : TE} (hl : PE X l tl) : PI X tg l (iSeq X.K tl) := by
  refine ⟨fun pins s σ H R I h => ?_⟩
  refine thn (hl.run pins s σ H _ I h) fun v s1 ⟨x, H1, I1, r1, a, e, q⟩ => ?_
  subst e
  cases r1
  have fr : ∀ b ∈ [s1.heap.objs.size], FpOk X pins H1 b := fun b hb => by
    have z : b = s1.heap.objs.size := by simpa using hb
    subst z
    exact I1.fpOk (Nat.le_refl _) (I1.hok.fresh (Nat.le_refl _))
  rcases q with ⟨⟨xs, hq⟩, q⟩ | ⟨⟨xs, hq⟩, q⟩
  · obtain ⟨its, rv, p, hz⟩ := I1.list hq
    exact wpAny_pyIter_list p.isList ⟨_, _, _, _, H1, rfl, I1.kept (t' := s1.toks) fun b o z => Heap.get?_push_of_some _ z, turn_list a _, ⟨_, Heap.get?_push_size _ rfl, rfl, rfl⟩, fr, q⟩
  · obtain ⟨its, rv, p, hz⟩ := I1.tuple hq
    exact wpAny_pyIter_tuple (show s1.heap.IsTuple a its.toArray from p) ⟨_, _, _, _, H1, rfl, I1.kept (t' := s1.toks) fun b o z => Heap.get?_push_of_some _ z, turn_tuple a _, ⟨_, Heap.get?_push_size _ rfl, rfl, rfl⟩, fr, q⟩
end
section
variable {σ : L2.St} {H : Hp} {Q : VK} {K : PySem.W.Frag} {tl : TE} {R : It → Hp → Prop} {g : TG} {tb : TS} {D : Ends} {tt : TT} {te : TE} {vs : List Nat} {ta : TA}
theorem i_seq (h : tl σ H fun x H1 => kSeq K x R H1) : iSeq K tl σ H R := h
theorem i_L {a : Addr} {xs : List V} (h : SqL K H a xs) (q : R (Itl K a) H) : kSeq K (.ref a) R H := ⟨a, rfl, .inl ⟨⟨xs, h⟩, q⟩⟩
theorem i_T {a : Addr} {xs : List V} (h : SqT K H a xs) (q : R (Itt K a) H) : kSeq K (.ref a) R H := ⟨a, rfl, .inr ⟨⟨xs, h⟩, q⟩⟩
theorem i_rng1 (h : ta σ H fun vs H1 => kRng vs R H1) : iRng1 ta σ H R := h
theorem i_r1 {j : Int} (h1 : -(2 ^ 62) ≤ j) (h2 : j < 2 ^ 62) (q : R (Itr 0 j.toNat) H) : kRng [.int j] R H := ⟨j, rfl, h1, h2, q⟩
theorem k_forL {a : Addr} {xs : List V} (Pv : Nat → L2.St → Hp → Prop) (h0 : Pv 0 σ H) (hl : ∀ i σ H, i ≤ xs.length → Pv i σ H → SqL K H a xs)
    (hs : ∀ i x σ H, xs[i]? = some x → Pv i σ H → g x σ H fun σ2 H2 => tb { D with nx := Pv (i + 1), ct := Pv (i + 1), bk := D.nx } σ2 H2) (hd : ∀ σ H, Pv xs.length σ H → D.nx σ H) : kFor (Itl K a) g tb D σ H := for_list Pv h0 hl hs hd
theorem k_forT {a : Addr} {xs : List V} (Pv : Nat → L2.St → Hp → Prop) (h0 : Pv 0 σ H) (hl : ∀ i σ H, i ≤ xs.length → Pv i σ H → SqT K H a xs)
    (hs : ∀ i x σ H, xs[i]? = some x → Pv i σ H → g x σ H fun σ2 H2 => tb { D with nx := Pv (i + 1), ct := Pv (i + 1), bk := D.nx } σ2 H2) (hd : ∀ σ H, Pv xs.length σ H → D.nx σ H) : kFor (Itt K a) g tb D σ H := for_tup Pv h0 hl hs hd
theorem k_forR {lo : Int} {n : Nat} (Pv : Nat → L2.St → Hp → Prop) (h0 : Pv 0 σ H)
    (hs : ∀ i σ H, i < n → Pv i σ H → g (.int (lo + i)) σ H fun σ2 H2 => tb { D with nx := Pv (i + 1), ct := Pv (i + 1), bk := D.nx } σ2 H2) (hd : ∀ σ H, Pv n σ H → D.nx σ H) : kFor (Itr lo n) g tb D σ H := for_range Pv h0 hs hd
def kTurn (D : Addr) (j : Nat) (Pv : Nat → List V → Hp → Prop) : VK := fun y H4 => ∃ acc, H4 D = some (.lst acc) ∧ acc.length < sizeLine ∧ ∃ ys, ys.length = j + 1 ∧ upd H4 D (.lst (acc ++ [y])) D = some (.lst ys) ∧ Pv (j + 1) ys (upd H4 D (.lst (acc ++ [y])))
theorem k_turn {D : Addr} {j : Nat} {Pv : Nat → List V → Hp → Prop} {ys : List V} {y : V} (h : H D = some (.lst ys)) (hl : ys.length = j) (hj : j < 100000) (q : Pv (j + 1) (ys ++ [y]) (upd H D (.lst (ys ++ [y])))) : kTurn D j Pv y H :=
  ⟨ys, h, Nat.lt_of_lt_of_le (by omega : ys.length < 100000) (by decide), ys ++ [y], by rw [List.length_append, hl]; rfl, upd_same, q⟩
theorem t_yes {A B : Hp → Prop} (h : A H) : tYes σ H (fun b H1 => if b = true then A H1 else B H1) := by
  show (if true = true then A H else B H)
  rw [if_pos rfl]
  exact h
theorem k_lcL {a : Addr} {xs : List V} {i0 : Nat} (Pv : Nat → List V → Hp → Prop) (h0 : ∀ D, H D = none → Pv 0 [] (upd H D (.lst []))) (hl : ∀ j ys H', j ≤ xs.length → Pv j ys H' → SqL K H' a xs)
    (hs : ∀ D j x ys H', H D = none → xs[j]? = some x → j < xs.length → ys.length = j → H' D = some (.lst ys) → Pv j ys H' → te ((wipe σ vs).set i0 (some x)) H' (kTurn D j Pv))
    (hw : ∀ x, wipe ((wipe σ vs).set i0 (some x)) vs = wipe σ vs) (hd : ∀ D ys H', H D = none → ys.length = xs.length → H' D = some (.lst ys) → Pv xs.length ys H' → Q (.ref D) H') : kLc (Itl K a) (gName i0) tYes te vs σ H Q := fun D hD =>
  lc_list (fun j H' => ∃ ys : List V, ys.length = j ∧ H' D = some (.lst ys) ∧ Pv j ys H') ⟨[], rfl, upd_same, h0 D hD⟩ (fun j H' hj ⟨ys, _, _, p⟩ => hl j ys H' hj p)
    (fun j x H' hx ⟨ys, hy, hHD, p⟩ => ⟨hw x, t_yes (hs D j x ys H' hD hx (List.getElem?_eq_some_iff.mp hx).1 hy hHD p)⟩) fun H' ⟨ys, hy, hHD, p⟩ => hd D ys H' hD hy hHD p
theorem k_lcT {a : Addr} {xs : List V} {i0 : Nat} (Pv : Nat → List V → Hp → Prop) (h0 : ∀ D, H D = none → Pv 0 [] (upd H D (.lst []))) (hl : ∀ j ys H', j ≤ xs.length → Pv j ys H' → SqT K H' a xs)
    (hs : ∀ D j x ys H', H D = none → xs[j]? = some x → j < xs.length → ys.length = j → H' D = some (.lst ys) → Pv j ys H' → te ((wipe σ vs).set i0 (some x)) H' (kTurn D j Pv))
    (hw : ∀ x, wipe ((wipe σ vs).set i0 (some x)) vs = wipe σ vs) (hd : ∀ D ys H', H D = none → ys.length = xs.length → H' D = some (.lst ys) → Pv xs.length ys H' → Q (.ref D) H') : kLc (Itt K a) (gName i0) tYes te vs σ H Q := fun D hD =>
  lc_tup (fun j H' => ∃ ys : List V, ys.length = j ∧ H' D = some (.lst ys) ∧ Pv j ys H') ⟨[], rfl, upd_same, h0 D hD⟩ (fun j H' hj ⟨ys, _, _, p⟩ => hl j ys H' hj p)
    (fun j x H' hx ⟨ys, hy, hHD, p⟩ => ⟨hw x, t_yes (hs D j x ys H' hD hx (List.getElem?_eq_some_iff.mp hx).1 hy hHD p)⟩) fun H' ⟨ys, hy, hHD, p⟩ => hd D ys H' hD hy hHD p
theorem k_lcR {lo : Int} {n : Nat} {i0 : Nat} (Pv : Nat → List V → Hp → Prop) (h0 : ∀ D, H D = none → Pv 0 [] (upd H D (.lst [])))
    (hs : ∀ D j ys H', H D = none → j < n → ys.length = j → H' D = some (.lst ys) → Pv j ys H' → te ((wipe σ vs).set i0 (some (.int (lo + j)))) H' (kTurn D j Pv))
    (hw : ∀ x, wipe ((wipe σ vs).set i0 (some x)) vs = wipe σ vs) (hd : ∀ D ys H', H D = none → ys.length = n → H' D = some (.lst ys) → Pv n ys H' → Q (.ref D) H') : kLc (Itr lo n) (gName i0) tYes te vs σ H Q := fun D hD =>
  lc_range (fun j H' => ∃ ys : List V, ys.length = j ∧ H' D = some (.lst ys) ∧ Pv j ys H') ⟨[], rfl, upd_same, h0 D hD⟩
    (fun j H' hj ⟨ys, hy, hHD, p⟩ => ⟨hw _, t_yes (hs D j ys H' hD hj hy hHD p)⟩) fun H' ⟨ys, hy, hHD, p⟩ => hd D ys H' hD hy hHD p
end
/-- tuples stand, and what is locked -/
def Et (H H' : Hp) : Prop := (∀ a xs, H a = some (.tup xs) → H' a = some (.tup xs)) ∧ ∀ a o u, H a = some (.frz o u) → H' a = some (.frz o u)
theorem Et.refl (H : Hp) : Et H H := ⟨fun _ _ h => h, fun _ _ _ h => h⟩
theorem Et.trans {H H1 H2 : Hp} (a : Et H H1) (b : Et H1 H2) : Et H H2 := ⟨fun x o h => b.1 _ _ (a.1 _ _ h), fun x o u h => b.2 _ _ _ (a.2 _ _ _ h)⟩
theorem Ex.et {H H' : Hp} (e : Ex H H') : Et H H' := ⟨fun _ _ h => e _ _ h, fun _ _ _ h => e _ _ h⟩
theorem Em.et {p : Addr} {xs : List V} {H H' : Hp} (e : Em p H H') (h : H p = some (.lst xs)) : Et H H' :=
  ⟨fun a ys q => e a _ (fun z => by rw [z, h] at q; cases q) q, fun a o u q => e a _ (fun z => by rw [z, h] at q; cases q) q⟩
theorem Et.putL {p : Addr} {xs ys : List V} {H : Hp} (h : H p = some (.lst xs)) : Et H (upd H p (.lst ys)) := Em.et Em.put h
theorem Ex.putN {p : Addr} {o : HO} {H H' : Hp} (e : Ex H H') (h : H p = none) : Ex H (upd H' p o) := fun a u q => by rw [upd_ne (ne_of_none q h)]; exact e a u q
theorem Em.putN {p q : Addr} {o : HO} {H H' : Hp} (e : Em q H H') (h : H p = none) : Em q H (upd H' p o) := fun a u n z => by rw [upd_ne (ne_of_none z h)]; exact e a u n z
theorem Et.st {K : PySem.W.Frag} {H H' : Hp} {a : Addr} {xs : List V} (e : Et H H') (h : SqT K H a xs) : SqT K H' a xs := by
  rcases h with (h | ⟨o, h⟩) | h
  · exact .inl (.inl (e.1 _ _ h))
  · exact .inl (.inr ⟨o, e.2 _ _ _ h⟩)
  · exact .inr h
mutual
inductive Fl (K : PySem.W.Frag) (H : Hp) : V → PyData → Prop
  | non : Fl K H .non .none
  | bl (b : Bool) : Fl K H (.bl b) (.bool b)
  | int (i : Int) : Fl K H (.int i) (.int i)
  | str (x : Str) : Fl K H (.str x) (.str x)
  | tup {a : Addr} {xs : List V} {ds : List PyData} : SqT K H a xs → FlAll K H xs ds → Fl K H (.ref a) (.tuple ds)
inductive FlAll (K : PySem.W.Frag) (H : Hp) : List V → List PyData → Prop
  | nil : FlAll K H [] []
  | cons {v : V} {vs : List V} {d : PyData} {ds : List PyData} : Fl K H v d → FlAll K H vs ds → FlAll K H (v :: vs) (d :: ds)
end
section
variable {K : PySem.W.Frag} {H H' : Hp}
mutual
theorem Fl.mono (e : Et H H') : ∀ {v : V} {d : PyData}, Fl K H v d → Fl K H' v d
  | _, _, .non => .non
  | _, _, .bl b => .bl b
  | _, _, .int i => .int i
  | _, _, .str x => .str x
  | _, _, .tup h a => .tup (e.st h) (a.mono e)
theorem FlAll.mono (e : Et H H') : ∀ {v : List V} {d : List PyData}, FlAll K H v d → FlAll K H' v d
  | _, _, .nil => .nil
  | _, _, .cons a b => .cons (a.mono e) (b.mono e)
end
mutual
theorem Fl.dt : ∀ {v : V} {d : PyData}, Fl K H v d → Dt K H v d
  | _, _, .non => .non
  | _, _, .bl b => .bl b
  | _, _, .int i => .int i
  | _, _, .str x => .str x
  | _, _, .tup h a => .tup h a.dt
theorem FlAll.dt : ∀ {v : List V} {d : List PyData}, FlAll K H v d → DtAll K H v d
  | _, _, .nil => .nil
  | _, _, .cons a b => .cons a.dt b.dt
end
mutual
theorem Fl.dp : ∀ {v : V} {d : PyData}, Fl K H v d → Dp K H v d
  | _, _, .non => .non
  | _, _, .bl b => .bl b
  | _, _, .int i => .int i
  | _, _, .str x => .str x
  | _, _, .tup h a => .tup h a.dp
theorem FlAll.dp : ∀ {v : List V} {d : List PyData}, FlAll K H v d → DpAll K H v d
  | _, _, .nil => .nil
  | _, _, .cons a b => .cons a.dp b.dp
end
theorem FlAll.length : ∀ {vs : List V} {ds : List PyData}, FlAll K H vs ds → vs.length = ds.length
  | _, _, .nil => rfl
  | _, _, .cons _ b => congrArg Nat.succ b.length
theorem FlAll.get : ∀ {vs : List V} {ds : List PyData} {i : Nat} {v : V}, FlAll K H vs ds → vs[i]? = some v → ∃ d, ds[i]? = some d ∧ Fl K H v d
  | _, _, _, _, .nil, e => by simp at e
  | _, _, 0, v, .cons a _, e => ⟨_, rfl, (Option.some.inj e : _ = v) ▸ a⟩
  | _, _, i + 1, v, .cons _ b, e => b.get (i := i) (by simpa using e)
theorem FlAll.append : ∀ {vs ws : List V} {ds es : List PyData}, FlAll K H vs ds → FlAll K H ws es → FlAll K H (vs ++ ws) (ds ++ es)
  | _, _, _, _, .nil, b => b
  | _, _, _, _, .cons x a, b => .cons x (a.append b)
theorem FlAll.take : ∀ {vs : List V} {ds : List PyData} (n : Nat), FlAll K H vs ds → FlAll K H (vs.take n) (ds.take n)
  | _, _, 0, _ => .nil
  | _, _, _ + 1, .nil => .nil
  | _, _, n + 1, .cons x a => .cons x (a.take n)
theorem FlAll.drop : ∀ {vs : List V} {ds : List PyData} (n : Nat), FlAll K H vs ds → FlAll K H (vs.drop n) (ds.drop n)
  | _, _, 0, r => r
  | _, _, _ + 1, .nil => .nil
  | _, _, n + 1, .cons _ a => a.drop n
theorem FlAll.snoc {vs : List V} {ds : List PyData} {v : V} {d : PyData} (a : FlAll K H vs ds) (b : Fl K H v d) : FlAll K H (vs ++ [v]) (ds ++ [d]) := a.append (.cons b .nil)
end
end Ls
end

section
set_option Elab.async false
set_option linter.all false
set_option maxRecDepth 100000
set_option maxHeartbeats 4000000
namespace Ls
open PySem PySem.Spec PyProof.Rows L2
/-- the pot: two numbers -/
def Pt (H : Hp) (p : Addr) : Prop := ∃ a b : Int, H p = some (.lst [.int a, .int b]) ∧ 0 ≤ a ∧ 0 ≤ b ∧ b < 2147483648
theorem Pt.ex {H H' : Hp} {p : Addr} (h : Pt H p) (e : Ex H H') : Pt H' p := let ⟨a, b, h1, h2⟩ := h; ⟨a, b, e _ _ h1, h2⟩
theorem Pt.et {H H' : Hp} {p : Addr} (h : Pt H p) (e : Em p H H') : Et H H' := let ⟨a, b, h1, _⟩ := h; e.et h1
theorem Pt.ne {H : Hp} {p q : Addr} (h : Pt H p) (n : H q = none) : p ≠ q := let ⟨a, b, h1, _⟩ := h; ne_of_none h1 n
theorem Pt.put {H : Hp} {p q : Addr} {o : HO} (h : Pt H p) (n : p ≠ q) : Pt (upd H q o) p := let ⟨a, b, h1, h2⟩ := h; ⟨a, b, by rw [upd_ne n]; exact h1, h2⟩
theorem seq_em {K : PySem.W.Frag} {p l : Addr} {xs : List V} {H H' : Hp} (h : SqL K H l xs) (n : l ≠ p) (e : Em p H H') : SqL K H' l xs := by
  rcases h with (h | ⟨o, h⟩) | h
  · exact .inl (.inl (e _ _ n h))
  · exact .inl (.inr ⟨o, e _ _ n h⟩)
  · exact .inr h
theorem seq_new {K : PySem.W.Frag} {p l : Addr} {xs : List V} {H H1 H2 : Hp} (h : SqL K H l xs) (n : H p = none) (e : Ex H H1) (m : Em p H1 H2) : SqL K H2 l xs := by
  rcases h with (h | ⟨o, h⟩) | h
  · exact .inl (.inl (m _ _ (ne_of_none h n) (e _ _ h)))
  · exact .inl (.inr ⟨o, m _ _ (ne_of_none h n) (e _ _ h)⟩)
  · exact .inr h
def sp_pot (K : PySem.W.Frag) : Sp := fun vs H Q _ => ∃ (s : Addr) (ns : List Int) (k : Nat), vs = [.ref s, .int k] ∧ SqL K H s (ns.map V.int) ∧ k ≤ 100 ∧ ∀ p H', H p = none → Ex H H' → Pt H' p → Q (.ref p) H'
def sp_digit : Sp := fun vs H Q _ => ∃ (p : Addr) (m : Int), vs = [.ref p, .int m] ∧ Pt H p ∧ 0 < m ∧ m < 1073741824 ∧ ∀ (d : Int) H', 0 ≤ d → d < m → Pt H' p → Em p H H' → Q (.int d) H'
def sp_pick (K : PySem.W.Frag) : Sp := fun vs H Q _ => ∃ (p l : Addr) (xs : List V), vs = [.ref p, .ref l] ∧ Pt H p ∧ SqL K H l xs ∧ l ≠ p ∧ 0 < xs.length ∧ xs.length ≤ 1000 ∧ ∀ (v : V) H', v ∈ xs → Pt H' p → Em p H H' → Q v H'
def sp_int : Sp := fun vs H Q _ => ∃ p : Addr, vs = [.ref p] ∧ Pt H p ∧ ∀ (i : Int) H', i.natAbs ≤ 10 ^ 21 → Pt H' p → Em p H H' → Q (.int i) H'
section
variable {σ : L2.St} {H : Hp} {Q : VK} {K : PySem.W.Frag} {te : TE} {vs : List Nat}
/-- [f(x) for x in t], t a tuple of data, f a function of the data -/
theorem k_lcDt {a : Addr} {xs : List V} {ds : List PyData} {i0 : Nat} (f : PyData → V) (hS : SqT K H a xs) (hD : DtAll K H xs ds) (hz : xs.length ≤ 99999)
    (hs : ∀ x d H1 (Q1 : VK), d ∈ ds → Ex H H1 → Dt K H1 x d → (∀ H2, Ex H1 H2 → Q1 (f d) H2) → te ((wipe σ vs).set i0 (some x)) H1 Q1)
    (hw : ∀ x, wipe ((wipe σ vs).set i0 (some x)) vs = wipe σ vs) (q : ∀ D H2, H D = none → Ex H H2 → H2 D = some (.lst (ds.map f)) → Q (.ref D) H2) : kLc (Itt K a) (gName i0) tYes te vs σ H Q := by
  refine k_lcT (xs := xs) (fun j ys H' => Ex H H' ∧ ys = (ds.take j).map f) (fun D n => ⟨Ex.new n, rfl⟩) (fun j ys H' _ p => p.1.st hS) (fun D j x ys H' n hx hj hl hHD p => ?_) hw fun D ys H' n hl hHD p => ?_
  · obtain ⟨e, rfl⟩ := p
    obtain ⟨d, hd, hf⟩ := hD.get hx
    refine hs x d H' _ (List.mem_of_getElem? hd) e (hf.mono e) fun H2 e2 => k_turn (e2 _ _ hHD) hl (by omega) ⟨Ex.putN (e.trans e2) n, ?_⟩
    rw [List.take_add_one, hd, List.map_append]
    rfl
  · obtain ⟨e, rfl⟩ := p
    refine q D H' n e ?_
    rw [hHD, hD.length, List.take_length]
/-- [draw for k in range(n)]: what each draw gives keeps G; G is kept where tuples stand -/
theorem k_lcPot {p : Addr} {lo : Int} {n : Nat} {i0 : Nat} (G : V → Hp → Prop) (gm : ∀ y H H', Et H H' → G y H → G y H') (hP : Pt H p) (hz : n ≤ 99999)
    (hs : ∀ (j : Nat) H1 (Q1 : VK), j < n → Em p H H1 → Pt H1 p → (∀ y H2, Em p H1 H2 → Pt H2 p → G y H2 → Q1 y H2) → te ((wipe σ vs).set i0 (some (.int (lo + j)))) H1 Q1)
    (hw : ∀ x, wipe ((wipe σ vs).set i0 (some x)) vs = wipe σ vs) (q : ∀ D ys H2, H D = none → Em p H H2 → Pt H2 p → H2 D = some (.lst ys) → ys.length = n → (∀ y, y ∈ ys → G y H2) → Q (.ref D) H2) : kLc (Itr lo n) (gName i0) tYes te vs σ H Q := by
  refine k_lcR (fun j ys H' => Em p H H' ∧ Pt H' p ∧ ∀ y, y ∈ ys → G y H') (fun D n => ⟨(Ex.new n).em p, hP.put (hP.ne n), fun _ h => nomatch h⟩) (fun D j ys H' nD hj hl hHD c => ?_) hw fun D ys H' nD hl hHD c => ?_
  · obtain ⟨e, hP', g⟩ := c
    have npD : D ≠ p := fun z => by obtain ⟨_, _, h, _⟩ := hP; rw [z] at nD; rw [nD] at h; cases h
    refine hs j H' _ hj e hP' fun y H2 e2 P2 gy => k_turn (e2 _ _ npD hHD) hl (by omega) ⟨(e.trans e2).putN nD, P2.put npD.symm, fun z hz => ?_⟩
    have t2 : Et H2 (upd H2 D (.lst (ys ++ [y]))) := Et.putL (e2 _ _ npD hHD)
    rcases List.mem_append.mp hz with hz | hz
    · exact gm _ _ _ ((hP'.et e2).trans t2) (g z hz)
    · have : z = y := by simpa using hz
      subst this
      exact gm _ _ _ t2 gy
  · exact q D ys H' nD c.1 c.2.1 hHD hl c.2.2
end
/-- values that bear data, one by one -/
theorem fl_all {K : PySem.W.Frag} {H : Hp} {G : PyData → Prop} : ∀ {ys : List V}, (∀ y, y ∈ ys → ∃ d, Fl K H y d ∧ G d) → ∃ ds, FlAll K H ys ds ∧ ∀ d, d ∈ ds → G d
  | [], _ => ⟨[], .nil, fun _ h => nomatch h⟩
  | y :: ys, h => by
    obtain ⟨d, h1, h2⟩ := h y List.mem_cons_self
    obtain ⟨ds, h3, h4⟩ := fl_all (ys := ys) fun z hz => h z (List.mem_cons_of_mem _ hz)
    exact ⟨d :: ds, .cons h1 h3, fun e he => (List.mem_cons.mp he).elim (fun z => z ▸ h2) (h4 e)⟩
end Ls
end

section
set_option Elab.async false
set_option linter.all false
set_option maxRecDepth 100000
set_option maxHeartbeats 4000000
namespace Ls
open PySem PySem.Spec PyProof.Rows L2
/- how deep tuples lie within tuples -/
mutual
def tdp : PyData → Nat
  | .tuple ds => 1 + tdpL ds
  | _ => 0
def tdpL : List PyData → Nat
  | [] => 0
  | d :: ds => max (tdp d) (tdpL ds)
end
mutual
/-- an integer, or a tuple of at most forty such things -/
def nsD : PyData → Bool
  | .int _ => true
  | .tuple ds => decide (ds.length ≤ 40) && nsL ds
  | _ => false
def nsL : List PyData → Bool
  | [] => true
  | d :: ds => nsD d && nsL ds
end
/-- an integer's signs -/
def szI (i : Int) : Int := ((Str.ofString (toString (if i < 0 then -i else i))).length : Nat) + (if decide (i < 0) = true then 1 else 0)
mutual
def szD : PyData → Int
  | .int i => szI i
  | .tuple ds => 1 + szL ds
  | _ => 1
def szL : List PyData → Int
  | [] => 0
  | d :: ds => szD d + szL ds
end
mutual
/-- all integers within have less than 578 digits or so -/
def smD : PyData → Bool
  | .int i => decide (i.natAbs.log2 < 1920)
  | .tuple ds => smL ds
  | _ => true
def smL : List PyData → Bool
  | [] => true
  | d :: ds => smD d && smL ds
end
def isD (d : PyData) : Bool := nsD d && (decide ((tdp d : Int) ≤ 4) && decide (szD d ≤ 1000))
theorem tdp_mem : ∀ {ds : List PyData} {d : PyData}, d ∈ ds → tdp d ≤ tdpL ds
  | d' :: ds, d, h => by
    rw [tdpL]
    rcases List.mem_cons.mp h with rfl | h
    · exact Nat.le_max_left _ _
    · exact Nat.le_trans (tdp_mem h) (Nat.le_max_right _ _)
theorem tdp_tup {ds : List PyData} {d : PyData} {n : Nat} (h : tdp (.tuple ds) < n + 1) (hd : d ∈ ds) : tdp d < n := by
  rw [tdp] at h
  have := tdp_mem hd
  omega
theorem nsL_all : ∀ ds : List PyData, nsL ds = (ds.map nsD).all id
  | [] => rfl
  | d :: ds => by rw [nsL, nsL_all ds]; rfl
theorem nsL_mem {ds : List PyData} (h : nsL ds = true) {d : PyData} (hd : d ∈ ds) : nsD d = true := by
  rw [nsL_all, List.all_eq_true] at h
  exact h _ (List.mem_map.mpr ⟨d, hd, rfl⟩)
theorem smL_mem : ∀ {ds : List PyData}, smL ds = true → ∀ {d : PyData}, d ∈ ds → smD d = true
  | d' :: ds, h, d, hd => by
    rw [smL, Bool.and_eq_true] at h
    rcases List.mem_cons.mp hd with rfl | hd
    · exact h.1
    · exact smL_mem h.2 hd
theorem szL_sum : ∀ ds : List PyData, szL ds = (ds.map szD).sum
  | [] => rfl
  | d :: ds => by rw [szL, szL_sum ds]; rfl
/-- the greatest of some depths -/
theorem tdpL_max {ds : List PyData} {m : Int} (h0 : ds.map (fun d => (tdp d : Int)) = [] → m = 0) (h1 : ds.map (fun d => (tdp d : Int)) ≠ [] → m ∈ ds.map (fun d => (tdp d : Int)) ∧ ∀ z, z ∈ ds.map (fun d => (tdp d : Int)) → z ≤ m) : m = (tdpL ds : Int) := by
  have key : ∀ l : List PyData, l ≠ [] → ∃ d ∈ l, tdp d = tdpL l := by
    intro l
    induction l with
    | nil => intro h; exact absurd rfl h
    | cons a l ih =>
      intro _
      rw [tdpL]
      by_cases e : l = []
      · subst e
        exact ⟨a, List.mem_cons_self, by rw [tdpL]; omega⟩
      · obtain ⟨d, hd, he⟩ := ih e
        by_cases c : tdpL l ≤ tdp a
        · exact ⟨a, List.mem_cons_self, by omega⟩
        · exact ⟨d, List.mem_cons_of_mem _ hd, by omega⟩
  by_cases e : ds = []
  · subst e
    rw [h0 rfl]
    rfl
  · obtain ⟨hm, hle⟩ := h1 (by intro z; exact e (List.map_eq_nil_iff.mp z))
    obtain ⟨d, hd, he⟩ := key ds e
    have a1 : ((tdpL ds : Nat) : Int) ≤ m := by rw [← he]; exact hle _ (List.mem_map.mpr ⟨d, hd, rfl⟩)
    obtain ⟨d2, hd2, he2⟩ := List.mem_map.mp hm
    have := tdp_mem hd2
    omega
def sp_isint (K : PySem.W.Frag) : Sp := fun vs H Q _ => ∃ v d, vs = [v] ∧ Dt K H v d ∧ Q (.bl (match d with | .int _ => true | _ => false)) H
def sp_nested (K : PySem.W.Frag) (n : Nat) : Sp := fun vs H Q _ => ∃ v d, vs = [v] ∧ Dt K H v d ∧ tdp d < n ∧ ∀ H', Ex H H' → Q (.bl (nsD d)) H'
def sp_depth (K : PySem.W.Frag) (n : Nat) : Sp := fun vs H Q _ => ∃ v d, vs = [v] ∧ Dt K H v d ∧ nsD d = true ∧ tdp d < n ∧ ∀ H', Ex H H' → Q (.int (tdp d : Nat)) H'
def sp_dsize (K : PySem.W.Frag) (n : Nat) : Sp := fun vs H Q _ => ∃ v d, vs = [v] ∧ Dt K H v d ∧ nsD d = true ∧ smD d = true ∧ tdp d < n ∧ ∀ H', Ex H H' → Q (.int (szD d)) H'
def sp_isdatum (K : PySem.W.Frag) (n : Nat) : Sp := fun vs H Q _ => ∃ v d, vs = [v] ∧ Dt K H v d ∧ smD d = true ∧ tdp d < n ∧ ∀ H', Ex H H' → Q (.bl (isD d)) H'
/-- FAULT -/
def isF (d : PyData) : Bool := match d with | .str x => decide (x = "fault") | _ => false
def sp_isfault (K : PySem.W.Frag) : Sp := fun vs H Q _ => ∃ v d, vs = [v] ∧ Dt K H v d ∧ Q (.bl (isF d)) H
def sp_isvalue (K : PySem.W.Frag) (n : Nat) : Sp := fun vs H Q _ => ∃ v d, vs = [v] ∧ Dt K H v d ∧ smD d = true ∧ tdp d < n ∧ ∀ H', Ex H H' → Q (.bl (isF d || isD d)) H'
end Ls
end

section
set_option Elab.async false
set_option linter.all false
set_option maxRecDepth 100000
set_option maxHeartbeats 4000000
namespace Ls
open PySem PySem.Spec PyProof.Rows L2 SX
/-- the signs of a whole number -/
def intL (i : Int) : List Nat := if i < 0 then 45 :: TL.numL i.natAbs else TL.numL i.natAbs
theorem str_int (i : Int) : Str.ofString (toString i) = S (intL i) := by
  cases i with
  | ofNat n =>
    have h : ¬ (Int.ofNat n < 0) := fun z => nomatch z
    unfold intL
    rw [if_neg h]
    exact num_S n
  | negSucc n =>
    have h : Int.negSucc n < 0 := Int.negSucc_lt_zero n
    unfold intL
    rw [if_pos h]
    have e : toString (Int.negSucc n) = "-" ++ toString ((n + 1 : Nat) : Int) := by
      show Int.repr (Int.negSucc n) = "-" ++ Int.repr (Int.ofNat (n + 1))
      rfl
    have e2 : (Int.negSucc n).natAbs = n + 1 := rfl
    rw [e, e2]
    have e3 : Str.ofString ("-" ++ toString ((n + 1 : Nat) : Int)) = Str.ofString "-" ++ Str.ofString (toString ((n + 1 : Nat) : Int)) := by
      refine TL.ext_tl ?_
      rw [TL.tl_append, TL.tl_ofString, TL.tl_ofString, TL.tl_ofString]
      simp
    rw [e3, num_S]
    have e4 : Str.ofString "-" = S [45] := by decide +kernel
    rw [e4, S_cat]
    rfl
theorem abs_if (i : Int) : (if i < 0 then -i else i) = ((i.natAbs : Nat) : Int) := by
  split <;> omega
theorem intL_len (i : Int) : szI i = ((intL i).length : Nat) := by
  unfold szI
  rw [abs_if, num_S, S_len]
  unfold intL
  by_cases h : i < 0
  · rw [if_pos (decide_eq_true h), if_pos h, List.length_cons]
    omega
  · rw [if_neg (by simp [h]), if_neg h]
    omega
theorem numL_head (n : Nat) : ∃ c r, TL.numL n = c :: r ∧ 48 ≤ c ∧ c ≤ 57 ∧ (c = 48 → r = []) := by
  induction n using Nat.strongRecOn with
  | _ n ih =>
    by_cases h : n < 10
    · exact ⟨48 + n, [], TL.numL_lt h, by omega, by omega, fun _ => rfl⟩
    · obtain ⟨c, r, e, h1, h2, h3⟩ := ih (n / 10) (by omega)
      refine ⟨c, r ++ [48 + n % 10], by rw [TL.numL_step (by omega), e]; rfl, h1, h2, fun z => ?_⟩
      exfalso
      subst z
      rw [h3 rfl] at e
      have v := congrArg PySem.NumText.digitsVal e
      rw [TL.numL_val] at v
      have : PySem.NumText.digitsVal [48] = 0 := by decide
      omega
theorem intL_head (i : Int) : ∃ c r, intL i = c :: r ∧ (c = 45 ∨ (48 ≤ c ∧ c ≤ 57)) := by
  obtain ⟨c, r, e, h1, h2, _⟩ := numL_head i.natAbs
  unfold intL
  split
  · exact ⟨45, _, rfl, .inl rfl⟩
  · exact ⟨c, r, e, .inr ⟨h1, h2⟩⟩
/- the text of data -/
mutual
def txD : PyData → List Nat
  | .int i => intL i
  | .tuple ds => 91 :: (txL ds ++ [93])
  | _ => [102, 97, 117, 108, 116]
def txL : List PyData → List Nat
  | [] => []
  | d :: ds => txD d ++ txM ds
def txM : List PyData → List Nat
  | [] => []
  | d :: ds => 44 :: (txD d ++ txM ds)
end
theorem txD_head (d : PyData) : ∃ c r, txD d = c :: r ∧ c ≠ 93 ∧ c ≠ 44 ∧ (nsD d = true → c ≠ 102) := by
  cases d with
  | int i =>
    obtain ⟨c, r, e, h⟩ := intL_head i
    exact ⟨c, r, by rw [txD, e], by omega, by omega, fun _ => by omega⟩
  | tuple ds => exact ⟨91, _, rfl, by decide, by decide, fun _ => by decide⟩
  | none => exact ⟨102, _, rfl, by decide, by decide, fun h => by simp [nsD] at h⟩
  | bool b => exact ⟨102, _, rfl, by decide, by decide, fun h => by simp [nsD] at h⟩
  | str x => exact ⟨102, _, rfl, by decide, by decide, fun h => by simp [nsD] at h⟩
  | list x => exact ⟨102, _, rfl, by decide, by decide, fun h => by simp [nsD] at h⟩
  | dict x => exact ⟨102, _, rfl, by decide, by decide, fun h => by simp [nsD] at h⟩
theorem txL_join : ∀ ds : List PyData, txL ds = TL.joinL [44] (ds.map txD)
  | [] => by rw [txL]; rfl
  | d :: ds => by
    have key : ∀ (es : List PyData) (d : PyData), txD d ++ txM es = TL.joinL [44] ((d :: es).map txD) := by
      intro es
      induction es with
      | nil => intro d; rw [txM, List.append_nil]; rfl
      | cons e es ih =>
        intro d
        rw [txM, ih e]
        rfl
    rw [txL]
    exact key ds d
mutual
theorem szD_pos : ∀ d : PyData, nsD d = true → 1 ≤ szD d
  | .int i, _ => by
    rw [szD, intL_len]
    obtain ⟨c, r, e, _⟩ := intL_head i
    rw [e, List.length_cons]
    omega
  | .tuple ds, h => by
    rw [nsD, Bool.and_eq_true] at h
    rw [szD]
    have := szL_nn ds h.2
    omega
  | .none, h => by simp [nsD] at h
  | .bool _, h => by simp [nsD] at h
  | .str _, h => by simp [nsD] at h
  | .list _, h => by simp [nsD] at h
  | .dict _, h => by simp [nsD] at h
theorem szL_nn : ∀ ds : List PyData, nsL ds = true → 0 ≤ szL ds
  | [], _ => by rw [szL]; exact Int.le_refl _
  | d :: ds, h => by
    rw [nsL, Bool.and_eq_true] at h
    rw [szL]
    have := szD_pos d h.1
    have := szL_nn ds h.2
    omega
end
theorem szL_mem {ds : List PyData} (h : nsL ds = true) : ∀ {d : PyData}, d ∈ ds → szD d ≤ szL ds := by
  induction ds with
  | nil => intro d hd; cases hd
  | cons e ds ih =>
    intro d hd
    rw [nsL, Bool.and_eq_true] at h
    rw [szL]
    have h1 := szD_pos e h.1
    have h2 := szL_nn ds h.2
    rcases List.mem_cons.mp hd with rfl | hd
    · omega
    · have := ih h.2 hd
      omega
mutual
theorem txD_len : ∀ d : PyData, nsD d = true → ((txD d).length : Int) + 1 ≤ 3 * szD d
  | .int i, h => by
    have := szD_pos (.int i) h
    rw [szD] at this ⊢
    rw [txD, ← intL_len]
    omega
  | .tuple ds, h => by
    rw [nsD, Bool.and_eq_true] at h
    rw [szD, txD, List.length_cons, List.length_append, List.length_singleton]
    have := txL_len ds h.2
    omega
  | .none, h => by simp [nsD] at h
  | .bool _, h => by simp [nsD] at h
  | .str _, h => by simp [nsD] at h
  | .list _, h => by simp [nsD] at h
  | .dict _, h => by simp [nsD] at h
theorem txL_len : ∀ ds : List PyData, nsL ds = true → ((txL ds).length : Int) ≤ 3 * szL ds
  | [], _ => by rw [txL, szL]; exact Int.le_refl _
  | d :: ds, h => by
    rw [nsL, Bool.and_eq_true] at h
    rw [txL, szL, List.length_append]
    have := txD_len d h.1
    have := txM_len ds h.2
    omega
theorem txM_len : ∀ ds : List PyData, nsL ds = true → ((txM ds).length : Int) ≤ 3 * szL ds
  | [], _ => by rw [txM, szL]; exact Int.le_refl _
  | d :: ds, h => by
    rw [nsL, Bool.and_eq_true] at h
    rw [txM, szL, List.length_cons, List.length_append]
    have := txD_len d h.1
    have := txM_len ds h.2
    omega
end
theorem int_digits {n : Nat} (h : n.log2 < 1920) : (TL.numL n).length ≤ 600 := by
  refine TL.numL_len (by decide) ?_
  by_cases z : n = 0
  · subst z
    exact Nat.pow_pos (by decide)
  · have h1 : n < 2 ^ 1920 := (Nat.log2_lt z).mp h
    exact Nat.lt_trans h1 (by decide +kernel)
/-- slices of codes -/
theorem cut_mid {l : List Nat} {i j : Nat} : cutS (S l) (some (i : Int)) (some (j : Int)) = S ((l.drop i).take (j - i)) := by
  refine TL.ext_tl ?_
  show ((S l).cps.toList.drop (HT.sIx (S l).length 0 (some (i : Int)))).take (HT.sIx (S l).length (S l).length (some (j : Int)) - HT.sIx (S l).length 0 (some (i : Int))) = (l.drop i).take (j - i)
  rw [HT.sIx_nat, HT.sIx_nat, S_len]
  show (l.drop (min i l.length)).take (min j l.length - min i l.length) = _
  by_cases h : i ≤ l.length
  · rw [Nat.min_eq_left h]
    by_cases h2 : j ≤ l.length
    · rw [Nat.min_eq_left h2]
    · rw [Nat.min_eq_right (by omega), List.take_of_length_le (by rw [List.length_drop]; exact Nat.le_refl _), List.take_of_length_le (by rw [List.length_drop]; omega)]
  · have e : min i l.length = l.length := Nat.min_eq_right (by omega)
    rw [e, List.drop_eq_nil_of_le (Nat.le_refl _), List.drop_eq_nil_of_le (by omega : l.length ≤ i)]
    simp
theorem int_back {i : Int} (h : (intL i).length ≤ 601) : PySem.intText? (S (intL i)) = some i := by
  unfold intL at h ⊢
  by_cases hi : i < 0
  · rw [if_pos hi] at h ⊢
    rw [List.length_cons] at h
    have e := PySem.intText_neg (x := S (45 :: TL.numL i.natAbs)) (cs := TL.numL i.natAbs) rfl (TL.numL_digits _) (TL.numL_ne _) (by rw [S_len, List.length_cons]; omega)
    rw [TL.numL_val] at e
    rw [e]
    congr 1
    omega
  · rw [if_neg hi] at h ⊢
    have e := int_S (a := TL.numL i.natAbs) (List.all_eq_true.mpr fun c hc => by
      have z := TL.numL_digits i.natAbs c hc
      simpa using z) (TL.numL_ne _) (by omega)
    rw [TL.numL_val] at e
    rw [e]
    congr 1
    omega
end Ls
end

section
set_option Elab.async false
set_option linter.all false
set_option maxRecDepth 100000
set_option maxHeartbeats 4000000
namespace Ls
open PySem PySem.Spec PyProof.Rows L2
theorem meets_enum_new {l : Addr} {o : Obj} {H : Heap → Prop} (B : Begins (.ref l) o H) :
    Meets (Builtin.«enumerate.__new__» ⟨[.type "enumerate", .ref l], []⟩) (fun _ R s => H s.heap ∧
      R (.ok (.ret (.ref (s.heap.push o).objs.size))) { s with heap := (s.heap.push o).push { cls := .type "enumerate", data := .fields #[.none, .bool false, .ref s.heap.objs.size, rawInt 0, .none, .none] } }) :=
  .of_wp fun prog w A R s h => by
    obtain ⟨hp, g, d, tk, os⟩ := s; obtain ⟨h1, h⟩ := h
    have hsub := sub_enumerate
    have q1 : ∀ {A' : Around} {E : Value → Shared → Prop} {Q : Value → Shared → Prop}, Q (.ref hp.objs.size) ⟨hp.push o, g, d, tk, os⟩ → wpAny (model prog w) A' (pyIter (.ref l)) Q E ⟨hp, g, d, tk, os⟩ :=
      fun q => B.iter prog w _ _ ⟨hp, g, d, tk, os⟩ _ h1 q
    wp_walk using q1
    refine wpAny_stack_any fun st => wpAny_pure ?_
    split
    · rename_i c _ _ _ _ _
      cases (c == Value.type "enumerate")
      · wp_walk using q1
        exact ⟨_, rfl, h⟩
      · wp_walk using q1
        exact ⟨_, rfl, h⟩
    · wp_walk using q1
      exact ⟨_, rfl, h⟩
theorem enum_new {prog : Program} {w : World} {A : Around} {E : Value → Shared → Prop} {s : Shared} {l : Addr} {o : Obj} {H : Heap → Prop} {Q : Value → Shared → Prop} (B : Begins (.ref l) o H) (h1 : H s.heap)
    (h : ∀ h', IsEnum h' (s.heap.objs.size + 1) s.heap.objs.size 0 .none → h'.get? s.heap.objs.size = some o → h'.objs.size = s.heap.objs.size + 2 →
      (∀ b o, s.heap.get? b = some o → h'.get? b = some o) → Q (.ref (s.heap.objs.size + 1)) { s with heap := h' }) :
    wpAny (model prog w) A (call (.type "enumerate") [.ref l]) Q E s := by
  refine callType_new F.called_enumerate (by decide) (F.typeCall_enumerate_1 _) (F.newCall_enumerate_1 _) (fun obj => F.args_object_init_2 obj _) F.entry_enumerate_new
    (meets_enum_new B) ⟨h1, ?_⟩
  have hz : (s.heap.push o).objs.size = s.heap.objs.size + 1 := Heap.size_push ..
  show _ ∧ _
  rw [hz]
  have he : IsEnum ((s.heap.push o).push { cls := .type "enumerate", data := .fields #[.none, .bool false, .ref s.heap.objs.size, rawInt 0, .none, .none] }) (s.heap.objs.size + 1) s.heap.objs.size 0 .none := by
    have := Heap.get?_push_size (s.heap.push o) (o := { cls := .type "enumerate", data := .fields #[.none, .bool false, .ref s.heap.objs.size, rawInt 0, .none, .none] }) rfl
    rw [hz] at this; exact this
  refine ⟨⟨_, he, rfl⟩, h _ he (Heap.get?_push_of_some _ (Heap.get?_push_size _ B.free)) (by rw [Heap.size_push, hz]) fun b o x => Heap.get?_push_of_some _ (Heap.get?_push_of_some _ x)⟩
/-- the tuple at a, each item in a new pair -/
def Iteu (K : PySem.W.Frag) (a : Addr) : It :=
  ⟨fun i H => ∃ (xs : List V) (x : V), SqT K H a xs ∧ xs[i]? = some x, fun i H v H' => ∃ T x, v = .ref T ∧ H T = none ∧ H' = upd H T (.tup [.int (i : Nat), x]) ∧ ∀ xs, SqT K H a xs → xs[i]? = some x, fun i H => ∃ xs : List V, SqT K H a xs ∧ xs.length ≤ i⟩
theorem tup_not_iter {h : Heap} {a it : Addr} {i : Nat} {items : Array Value} (st : h.IsTupleIter it a i) (p : h.IsTuple a items) : a ≠ it := by
  intro e
  subst e
  obtain ⟨o, ho, hc, hd⟩ := st
  obtain ⟨o', ho', hc', _⟩ := p
  rw [ho] at ho'
  cases ho'
  rw [hc] at hc'
  exact absurd hc' (by decide)
theorem turn_enumT {P : Program} {w : World} {K : PySem.W.Frag} {elts : List Expr} {kk : Nat} {tpos : Pos} (a e it : Addr) :
    Turn P w K (.Tuple elts kk tpos) (Iteu K a) [e, it] e (fun i h => (∃ old, IsEnum h e it ((i : Nat) : Int) old) ∧ h.IsTupleIter it a i ∧ e ≠ it) where
  mem := by simp
  obj := fun i h st b hb => by
    obtain ⟨⟨old, he⟩, ⟨o, ho, hc, hd⟩, _⟩ := st
    have e' : b = e ∨ b = it := by simpa using hb
    rcases e' with z | z
    · rw [z]; exact ⟨_, he, fun v q => nomatch q⟩
    · rw [z]; exact ⟨o, ho, fun v q => by rw [hd] at q; cases q⟩
  keep := fun i h h' st k => let ⟨⟨old, he⟩, hi, hne⟩ := st; ⟨⟨old, k e (by simp) _ he⟩, hi.at fun o q => k it (by simp) o q, hne⟩
  item := by
    intro X hP hw hK hc i pins s σ H E I hf st hg
    subst hP hw hK
    obtain ⟨⟨old, he⟩, hit, hne⟩ := st
    obtain ⟨xs, x, hq, hx⟩ := hg
    obtain ⟨its, rv, p, hz⟩ := I.tuple hq
    obtain ⟨u, hu, ru⟩ := rv.get hx
    have hel : e < s.heap.objs.size := Heap.lt_size he
    have hil : it < s.heap.objs.size := by obtain ⟨_, q, _⟩ := hit; exact Heap.lt_size q
    have pt : s.heap.IsTuple a its.toArray := p
    have ni : a ≠ it := tup_not_iter hit pt
    have nea : e ≠ a := by
      intro z
      subst z
      obtain ⟨o', ho', hc', _⟩ := pt
      have he' := he
      unfold IsEnum at he'
      rw [he'] at ho'
      cases ho'
      have z2 : Value.type "enumerate" = Value.type "tuple" := hc'
      exact absurd z2 (by decide)
    have hi : i < its.toArray.size := by
      have := (List.getElem?_eq_some_iff.mp hu).1
      simpa using this
    refine wpAny_pyNext_enum_itemD (Draws.tuple (A := X.A.in1) (show X.A.in1.handled = none from I.ok.hd hc) it a ni its.toArray) he ⟨hit, pt⟩ hi hne (by simp [hne, nea]) fun x' h' tk hx' ho st' hT hsz hk => ?_
    have : x' = u := by
      have : its.toArray[i]? = some u := by simpa using hu
      rw [this] at hx'
      exact (Option.some.inj hx').symm
    subst this
    obtain ⟨hit', pt'⟩ := st'
    refine ⟨_, rfl, wpAny_letOwnedTupleGo_enum (s := { s with heap := h', toks := tk + 1 }) ho fun h'' he' sb => ?_⟩
    have hT2 : h''.get? s.heap.objs.size = some { cls := .type "tuple", data := .seq #[.int i tk, x'] } := (sb.2 _ (Nat.ne_of_gt hel)).trans hT
    have new : ObjOk X.prog X.w (upd H s.heap.objs.size (.tup [.int (i : Nat), x])) h'' s.heap.objs.size (.tup [.int (i : Nat), x]) :=
      ⟨by show 2 ≤ sizeLine; decide, [.int i tk, x'], .cons ⟨_, rfl⟩ (.cons ru .nil), ⟨_, hT2, rfl, _, rfl⟩⟩
    have I1 : Inv X pins σ (upd H s.heap.objs.size (.tup [.int (i : Nat), x])) { s with heap := h'', toks := tk + 1 } :=
      I.turnedNew (ch := [e, it]) (fun b ob hb q => (sb.2 b (fun z => hb (by simp [z]))).trans (hk b ob (fun z => hb (by simp [z])) (fun z => hb (by simp [z])) q)) hf (Nat.le_refl _) new
    refine ⟨.ref s.heap.objs.size, _, I1, rfl, ⟨_, x, rfl, I.hok.fresh (Nat.le_refl _), rfl, fun ys hy => by rw [I.tuple_inj hy hq]; exact hx⟩, ⟨⟨x', ?_⟩, hit'.at fun o q => (sb.2 it (Ne.symm hne)).trans q, hne⟩, fun b hb => ?_⟩
    · have e1 : ((i + 1 : Nat) : Int) = (i : Int) + 1 := by omega
      rw [e1]; exact he'
    · have hb' : b < s.heap.objs.size := by
        have e' : b = e ∨ b = it := by simpa using hb
        rcases e' with z | z
        · rw [z]; exact hel
        · rw [z]; exact hil
      rw [upd_ne (Nat.ne_of_lt hb')]
      exact (hf b hb).1
  done := by
    intro X hP hw hK hc i pins s σ H E I hf st hg
    subst hP hw hK
    obtain ⟨⟨old, he⟩, hit, hne⟩ := st
    obtain ⟨xs, hq, hx⟩ := hg
    obtain ⟨its, rv, p, hz⟩ := I.tuple hq
    have pt : s.heap.IsTuple a its.toArray := p
    obtain ⟨f0, f1, f2, f3, f4, f5⟩ := hf it (by simp)
    have hl := rv.length
    have ni : a ≠ it := tup_not_iter hit pt
    have hn : its.toArray[i]? = none := by simp; omega
    have hT : s.TypeIs (.ref e) "enumerate" := ⟨_, he, rfl⟩
    unfold pyNext
    refine wpAny_bind (wpAny_attempt (wpAny_callSpecial?_slot (name := Str.ofString "__next__") hT F.slot_enumerate_next
      (wpAny_call_entry F.slot_enumerate_next hT F.entry_enumerate_next ?_ (F.args_enumerate_next_1 _))))
    show wpAny _ _ (field (.ref e) 2 >>= _) _ _ _
    refine wpAny_bind (wpAny_field he rfl (x := .ref it) rfl ?_)
    refine wpAny_bind (wpAny_nextOf_tuple_end (show X.A.in1.handled = none from I.ok.hd hc) hit pt hn fun h' x he' hx' => ?_)
    obtain ⟨o, ho, hc⟩ := hx'
    refine wpAny_bind (wpAny_isInstance (T := "StopIteration") (b := true) ⟨o, ho, hc⟩ isSubtype_stop ?_)
    exact wpAny_pure ⟨rfl, I.turned (t' := s.toks) (fun b o hb q => he' b o hb q) f0 f1 f3 f4 f5⟩
  self := fun A i s Q E st h => let ⟨⟨_, he⟩, _⟩ := st; wpAny_pyIter_enum he h
def kEnum (K : PySem.W.Frag) (vs : List V) (R : It → Hp → Prop) (H1 : Hp) : Prop := ∃ a, vs = [.ref a] ∧ (((∃ xs, SqL K H1 a xs) ∧ R (Ite K a) H1) ∨ ((∃ xs, SqT K H1 a xs) ∧ R (Iteu K a) H1))
def iEnumU (K : PySem.W.Frag) (ta : TA) : TI := fun σ H R => ta σ H fun vs H1 => kEnum K vs R H1
theorem pi_enumU {X : Cx} {e : Expr} {ta : TA} {p pos tpos : Pos} {elts : List Expr} {kk : Nat} (hg : Gl X "enumerate") (hm : X.mg "enumerate" = none) (ha : PA X [e] ta) (hs : starEach [e] X.env = [(false, eval e X.env)] := by rfl) :
    PI X (.Tuple elts kk tpos) (.Call (.Name "enumerate" p) [e] [] pos) (iEnumU X.K ta) := by
  refine ⟨fun pins s σ H R I h => ?_⟩
  refine Call_ (ld_blt I hg hm boot_enumerate (PyProof.Rows.callWith_type1 (thn (ha.run pos pins s σ H _ I h) fun us s1 ⟨vs, H1, I1, r1, q1⟩ => ?_) hs rfl))
  obtain ⟨a, ex, q⟩ := q1
  subst ex
  cases r1 with
  | cons r rr =>
    cases rr
    cases r
    have fp : ∀ b ∈ [s1.heap.objs.size + 1, s1.heap.objs.size], FpOk X pins H1 b := fun b hb => by
      have e' : b = s1.heap.objs.size + 1 ∨ b = s1.heap.objs.size := by simpa using hb
      have hle : s1.heap.objs.size ≤ b := by
        rcases e' with z | z
        · rw [z]; exact Nat.le_add_right _ _
        · rw [z]; exact Nat.le_refl _
      exact I1.fpOk hle (I1.hok.fresh hle)
    rcases q with ⟨⟨xs, hq⟩, q⟩ | ⟨⟨xs, hq⟩, q⟩
    · obtain ⟨its, rv, p', hz⟩ := I1.list hq
      refine call_enumerate_list p'.isList fun h' he hit hsz hk => wpAny_pyIter_enum he ?_
      have I2 : Inv X pins σ H1 { s1 with heap := h' } := I1.kept (t' := s1.toks) hk
      exact ⟨s1.heap.objs.size + 1, [s1.heap.objs.size + 1, s1.heap.objs.size], _, _, H1, rfl, I2, turn_enum a (s1.heap.objs.size + 1) s1.heap.objs.size, ⟨⟨.none, he⟩, hit, Nat.succ_ne_self _⟩, fp, q⟩
    · obtain ⟨its, rv, p', hz⟩ := I1.tuple hq
      have pt : s1.heap.IsTuple a its.toArray := p'
      refine enum_new (begins_tuple a its.toArray) pt fun h' he ho hsz hk => wpAny_pyIter_enum he ?_
      have I2 : Inv X pins σ H1 { s1 with heap := h' } := I1.kept (t' := s1.toks) hk
      exact ⟨s1.heap.objs.size + 1, [s1.heap.objs.size + 1, s1.heap.objs.size], _, _, H1, rfl, I2, turn_enumT a (s1.heap.objs.size + 1) s1.heap.objs.size, ⟨⟨.none, he⟩, ⟨_, ho, rfl, rfl⟩, Nat.succ_ne_self _⟩, fp, q⟩
section
variable {σ : L2.St} {H : Hp} {K : PySem.W.Frag} {R : It → Hp → Prop} {g : TG} {tb : TS} {D : Ends} {ta : TA}
theorem i_enum (h : ta σ H fun vs H1 => kEnum K vs R H1) : iEnumU K ta σ H R := h
theorem i_eT {a : Addr} {xs : List V} (h : SqT K H a xs) (q : R (Iteu K a) H) : kEnum K [.ref a] R H := ⟨a, rfl, .inr ⟨⟨xs, h⟩, q⟩⟩
theorem i_eL {a : Addr} {xs : List V} (h : SqL K H a xs) (q : R (Ite K a) H) : kEnum K [.ref a] R H := ⟨a, rfl, .inl ⟨⟨xs, h⟩, q⟩⟩
theorem walk_enumT {a : Addr} {xs : List V} : Walk (Iteu K a) xs.length (fun H => SqT K H a xs) (YPair (fun i => some (.int (i : Nat))) (fun i => xs[i]?)) := by
  refine ⟨fun i _ hi q => ⟨xs, xs[i], q, by simp [hi]⟩, fun _ q => ⟨xs, q, Nat.le_refl _⟩, fun i H v H' _ q y => ?_⟩
  obtain ⟨T, x, h1, h2, h3, h4⟩ := y
  exact ⟨T, .int (i : Nat), x, h1, h2, h3, rfl, h4 xs q⟩
/-- for i, x in enumerate(a tuple): the pair is new -/
theorem k_forEU {a : Addr} {xs : List V} (Pv : Nat → L2.St → Hp → Prop) (h0 : Pv 0 σ H) (hl : ∀ i σ H, i ≤ xs.length → Pv i σ H → SqT K H a xs)
    (hs : ∀ i x T σ H H', xs[i]? = some x → Pv i σ H → H T = none → Ex H H' → H' T = some (.tup [.int (i : Nat), x]) → g (.ref T) σ H' fun σ2 H2 => tb { D with nx := Pv (i + 1), ct := Pv (i + 1), bk := D.nx } σ2 H2) (hd : ∀ σ H, Pv xs.length σ H → D.nx σ H) : kFor (Iteu K a) g tb D σ H :=
  for_it walk_enumT Pv h0 hl (fun i v σ H H' hi p y => by
    obtain ⟨T, x, z, h1, h2, h3, h4, h5⟩ := y
    subst h1 h3
    have e : V.int (i : Nat) = x := Option.some.inj h4
    subst e
    exact hs i z T σ H _ h5 p h2 (Ex.new h2) upd_same) hd
end
end Ls
end

section
set_option Elab.async false
set_option linter.all false
set_option maxRecDepth 100000
set_option maxHeartbeats 4000000
namespace Ls
open PySem PySem.Spec PyProof.Rows L2 SX
def kBody (Pv : Nat → L2.St → Hp → Prop) (m : Nat) (tb : TS) (D : Ends) (σ : L2.St) (H : Hp) : Prop := ∃ N : L2.St → Hp → Prop, (∀ σ' H', N σ' H' → ∃ m', m' < m ∧ Pv m' σ' H') ∧ tb { D with nx := N, ct := N, bk := D.nx } σ H
/-- sep.join(texts) -/
def rJoin (K : PySem.W.Frag) : V → List V → Hp → VK → Prop := fun x xs H Q => ∃ a p, ∃ ys : List Str, x = .str a ∧ xs = [.ref p] ∧ (SqL K H p (ys.map V.str) ∨ SqT K H p (ys.map V.str)) ∧ (ys.map (·.length)).sum + ys.length * a.length ≤ 16777216 ∧ Q (.str (Txt.join a ys)) H
theorem pe_joinU {X : Cx} {o e : Expr} {to te : TE} {apos pos : Pos} (ho : PE X o to) (he : PE X e te) (hs : starEach [e] X.env = [(false, eval e X.env)] := by rfl) (hbase : attributeBase o "join" X.env (eval o X.env) = eval o X.env := by rfl) (hline : (apos.endLine == pos.line) = true := by rfl) :
    PE X (.Call (.Attribute o "join" apos) [e] [] pos) (tM1 (rJoin X.K) to te) := pe_m1 F.slot_str_join F.type_str_join mt_join ho he hs hbase hline
section
variable {σ : L2.St} {H : Hp} {Q : VK} {K : PySem.W.Frag} {to te : TE} {D : Ends} {c : TT} {tb : TS} {t : TA} {v : V}
theorem r_m0 {r : V → List V → Hp → VK → Prop} (h : to σ H fun x H1 => (∃ a, x = .str a) ∧ r x [] H1 Q) : tM0 r to σ H Q := h
theorem r_m1 {r : V → List V → Hp → VK → Prop} (h : to σ H fun x H1 => (∃ a, x = .str a) ∧ te σ H1 fun y H2 => r x [y] H2 Q) : tM1 r to te σ H Q := h
theorem k_isS {z : Str} {A : Prop} (q : A) : (∃ a, V.str z = .str a) ∧ A := ⟨⟨z, rfl⟩, q⟩
theorem k_isL {p : Addr} {xs : List V} {A : Prop} (h : SqL K H p xs) (q : A) : tyV K "list" (.ref p) H ∧ A := ⟨.inl ⟨rfl, xs, h⟩, q⟩
theorem y_append {p : Addr} {xs : List V} (h : H p = some (.lst xs)) (hz : xs.length < sizeLine) (q : ∀ H', Em p H H' → H' p = some (.lst (xs ++ [v])) → Q .non H') : rAppend (.ref p) [v] H Q := ⟨p, xs, v, rfl, rfl, h, hz, q _ Em.put upd_same⟩
theorem y_join {a : Str} {p : Addr} {ys : List Str} (h : SqL K H p (ys.map V.str)) (hz : (ys.map (·.length)).sum + ys.length * a.length ≤ 16777216) (q : Q (.str (Txt.join a ys)) H) : rJoin K (.str a) [.ref p] H Q := ⟨a, p, ys, rfl, rfl, .inl h, hz, q⟩
/-- while, by a word with a measure -/
theorem k_while (Pv : Nat → L2.St → Hp → Prop) {m0 : Nat} (h0 : Pv m0 σ H) (hs : ∀ m σ H, Pv m σ H → c σ H fun b H1 => if b = true then kBody Pv m tb D σ H1 else D.nx σ H1) : tWhile c tb D σ H := ⟨Pv, ⟨m0, h0⟩, hs⟩
theorem k_body {Pv : Nat → L2.St → Hp → Prop} {m : Nat} (h : tb { D with nx := fun σ' H' => ∃ m', m' < m ∧ Pv m' σ' H', ct := fun σ' H' => ∃ m', m' < m ∧ Pv m' σ' H', bk := D.nx } σ H) : kBody Pv m tb D σ H := ⟨_, fun _ _ q => q, h⟩
theorem y_eqD {x y : V} {d e : PyData} (h1 : Dp K H x d) (h2 : Dp K H y e) (s1 : SeqAt.shaped d = true) (s2 : SeqAt.shaped e = true) (q : Q (.bl (PyData.eqv d e)) H) : rEqU K x y H Q := .inr ⟨d, e, h1, h2, s1, s2, q⟩
theorem y_neD {x y : V} {d e : PyData} (h1 : Dp K H x d) (h2 : Dp K H y e) (s1 : SeqAt.shaped d = true) (s2 : SeqAt.shaped e = true) (q : Q (.bl (!PyData.eqv d e)) H) : rNeU K x y H Q := .inr ⟨d, e, h1, h2, s1, s2, q⟩
theorem y_notInS {c : Nat} {z : Str} (q : Q (.bl (!decide (c ∈ z.cps.toList))) H) : rNotInU K (.str ⟨#[c]⟩) (.str z) H Q := .inr ⟨c, z, rfl, rfl, q⟩
/-- a slice of codes -/
theorem y_cut {l : List Nat} {i j : Int} {a b : Nat} (hz : l.length ≤ sizeLine) (ha : i = (a : Nat)) (hb : j = (b : Nat)) (q : Q (.str (S ((l.drop a).take (b - a)))) H) : rSlU K (.str (S l)) (some i) (some j) H Q := by
  subst ha hb
  refine .inr (.inr (y_slS (by rw [S_len]; exact hz) ?_))
  rw [cut_mid]
  exact q
theorem y_lenC {l : List Nat} (hz : l.length ≤ sizeLine) (q : Q (.int (l.length : Nat)) H) : rLen K [.str (S l)] H Q := y_lenS (by rw [S_len]; exact hz) (by rw [S_len]; exact q)
theorem y_ixC {l : List Nat} {i : Int} {c : Nat} (hz : l.length ≤ sizeLine) {a : Nat} (hi : i = (a : Nat)) (ha : l[a]? = some c) (q : Q (.str (S [c])) H) : rIx K (.str (S l)) (.int i) H Q := by
  subst hi
  exact y_ixS (by rw [S_len]; exact hz) (atI_nat ha) q
theorem y_inC {c : Nat} {l : List Nat} (q : Q (.bl (decide (c ∈ l))) H) : rInU K (.str (S [c])) (.str (S l)) H Q := y_inS q
theorem y_addC {a b : List Nat} (hz : a.length + b.length ≤ sizeLine) (q : Q (.str (S (a ++ b))) H) : rAddU K (.str (S a)) (.str (S b)) H Q := y_addS (by rw [S_len, S_len]; exact hz) (by rw [S_cat]; exact q)
theorem S_dec (a b : List Nat) : decide (S a = S b) = decide (a = b) := by
  by_cases h : a = b
  · rw [decide_eq_true h, h]; simp
  · rw [decide_eq_false h]; exact decide_eq_false fun z => h (S_inj z)
theorem y_eqC {a b : List Nat} (q : Q (.bl (decide (a = b))) H) : rEqU K (.str (S a)) (.str (S b)) H Q := y_eqS (by rw [S_dec]; exact q)
theorem y_neC {a b : List Nat} (q : Q (.bl (!decide (a = b))) H) : rNeU K (.str (S a)) (.str (S b)) H Q := y_neS (by rw [S_dec]; exact q)
/-- str(i), in codes -/
theorem y_strC {i : Int} (h : i.natAbs.log2 < 1920) (q : Q (.str (S (intL i))) H) : rStrI [.int i] H Q := y_str h (by rw [show ((toString i : String) : Str) = S (intL i) from str_int i]; exact q)
theorem y_intC {l : List Nat} {n : Int} (h : PySem.intText? (S l) = some n) (hz : l.length ≤ 640) (q : Q (.int n) H) : rIntU [.str (S l)] H Q := y_intS h (by rw [S_len]; exact hz) q
end
theorem iteNF {A B : Prop} (q : B) : if (!true) = true then A else B := by rw [if_neg (by decide)]; exact q
theorem iteNT {A B : Prop} (q : A) : if (!false) = true then A else B := by rw [if_pos (by decide)]; exact q
theorem ite_f {b : Bool} {A B : Prop} (h : b = false) (q : B) : if b = true then A else B := by rw [h, if_neg Bool.false_ne_true]; exact q
theorem ite_t {b : Bool} {A B : Prop} (h : b = true) (q : A) : if b = true then A else B := by rw [h, if_pos rfl]; exact q
theorem log2_of {n k : Nat} (hk : k ≠ 0) (h : n < 2 ^ k) : n.log2 < k := by
  by_cases z : n = 0
  · subst z
    rw [Nat.log2_zero]
    omega
  · exact (Nat.log2_lt z).mpr h
end Ls
end

section
set_option Elab.async false
set_option linter.all false
set_option maxRecDepth 100000
set_option maxHeartbeats 4000000
namespace Ls
open PySem PySem.Spec PyProof.Rows L2 SX
/-- a value of the package -/
def okV (n : Nat) (d : PyData) : Prop := smD d = true ∧ tdp d < n ∧ (isF d || isD d) = true
def sp_check (K : PySem.W.Frag) (n : Nat) : Sp := fun vs H Q _ => ∃ v d, vs = [v] ∧ Dt K H v d ∧ okV n d ∧ ∀ H', Ex H H' → Q .non H'
def sp_sizeof (K : PySem.W.Frag) (n : Nat) : Sp := fun vs H Q _ => ∃ v d, vs = [v] ∧ Dt K H v d ∧ okV n d ∧ ∀ H', Ex H H' → Q (.int (szD d)) H'
def sp_dtext (K : PySem.W.Frag) (n : Nat) : Sp := fun vs H Q _ => ∃ v d, vs = [v] ∧ Dt K H v d ∧ nsD d = true ∧ smD d = true ∧ szD d ≤ 1000 ∧ tdp d < n ∧ ∀ H', Ex H H' → Q (.str (S (txD d))) H'
def sp_format (K : PySem.W.Frag) (n : Nat) : Sp := fun vs H Q _ => ∃ v d, vs = [v] ∧ Dt K H v d ∧ okV n d ∧ ∀ H', Ex H H' → Q (.str (S (txD d))) H'
/-- what follows a number is no digit -/
def noDig (r : List Nat) : Prop := ∀ c, r.head? = some c → c < 48 ∨ 57 < c
def sp_rint : Sp := fun vs H Q _ => ∃ (p r : List Nat) (i : Int), vs = [.str (S (p ++ (intL i ++ r))), .int (p.length : Nat)] ∧ (p ++ (intL i ++ r)).length ≤ 10000 ∧ i.natAbs.log2 < 1920 ∧ noDig r ∧
  ∀ q H', Ex H H' → H' q = some (.tup [.int i, .int ((p.length + (intL i).length : Nat) : Int)]) → Q (.ref q) H'
def sp_rdat (K : PySem.W.Frag) (n : Nat) : Sp := fun vs H Q _ => ∃ (p r : List Nat) (d : PyData) (k : Nat), vs = [.str (S (p ++ (txD d ++ r))), .int (p.length : Nat), .int (k : Nat)] ∧ (p ++ (txD d ++ r)).length ≤ 10000 ∧ smD d = true ∧ nsD d = true ∧ tdp d < n ∧ k + tdp d ≤ 4 ∧ noDig r ∧
  ∀ v q H', Ex H H' → Fl K H' v d → H' q = some (.tup [v, .int ((p.length + (txD d).length : Nat) : Int)]) → Q (.ref q) H'
def sp_rtup (K : PySem.W.Frag) (n : Nat) : Sp := fun vs H Q _ => ∃ (p r : List Nat) (ds : List PyData) (k : Nat), vs = [.str (S (p ++ (txD (.tuple ds) ++ r))), .int (p.length : Nat), .int (k : Nat)] ∧ (p ++ (txD (.tuple ds) ++ r)).length ≤ 10000 ∧ smL ds = true ∧ nsD (.tuple ds) = true ∧ tdpL ds < n ∧ k + tdpL ds ≤ 4 ∧
  ∀ v q H', Ex H H' → Fl K H' v (.tuple ds) → H' q = some (.tup [v, .int ((p.length + (txD (.tuple ds)).length : Nat) : Int)]) → Q (.ref q) H'
def sp_parse (K : PySem.W.Frag) (n : Nat) : Sp := fun vs H Q _ => ∃ d, vs = [.str (S (txD d))] ∧ okV n d ∧ ∀ v H', Ex H H' → Fl K H' v d → Q v H'
theorem q_minus : Str.ofString "-" = S [45] := by decide +kernel
theorem q_empty : Str.ofString "" = S [] := by decide +kernel
theorem q_zero : Str.ofString "0" = S [48] := by decide +kernel
theorem q_digits : Str.ofString "0123456789" = S [48, 49, 50, 51, 52, 53, 54, 55, 56, 57] := by decide +kernel
theorem q_comma : Str.ofString "," = S [44] := by decide +kernel
theorem q_open : Str.ofString "[" = S [91] := by decide +kernel
theorem q_close : Str.ofString "]" = S [93] := by decide +kernel
theorem q_fault : Str.ofString "fault" = S [102, 97, 117, 108, 116] := by decide +kernel
theorem isF_inv {d : PyData} (h : isF d = true) : d = .str (Str.ofString "fault") := by
  cases d with
  | str x =>
    have : decide (x = "fault") = true := h
    rw [of_decide_eq_true this]
  | _ => cases h
theorem isF_tx {d : PyData} (h : isF d = true) : txD d = [102, 97, 117, 108, 116] := by rw [isF_inv h]; rfl
theorem isF_sz {d : PyData} (h : isF d = true) : szD d = 1 := by rw [isF_inv h]; rfl
theorem isD_of {n : Nat} {d : PyData} (h : okV n d) (hf : isF d = false) : nsD d = true ∧ tdp d ≤ 4 ∧ szD d ≤ 1000 := by
  have z := h.2.2
  rw [hf, Bool.false_or] at z
  unfold isD at z
  simp only [Bool.and_eq_true, decide_eq_true_eq] at z
  exact ⟨z.1, by omega, z.2.2⟩
theorem txL_sum : ∀ {ds : List PyData}, nsL ds = true → (((ds.map txD).map (·.length)).sum : Nat) ≤ 3 * szL ds
  | [], _ => by rw [szL]; decide
  | d :: ds, h => by
    rw [nsL, Bool.and_eq_true] at h
    rw [szL, List.map_cons, List.map_cons, List.sum_cons]
    have := txD_len d h.1
    have := txL_sum h.2
    omega
theorem join_tx (ds : List PyData) : Txt.join (S [44]) (ds.map fun d => S (txD d)) = S (txL ds) := by
  have e := join_S [44] (ds.map txD)
  rw [List.map_map] at e
  rw [txL_join]
  exact e
theorem lens_tx (ds : List PyData) : (ds.map fun d => S (txD d)).map (·.length) = (ds.map txD).map (·.length) := by
  rw [← lens (ds.map txD), List.map_map, List.map_map, List.map_map]
  rfl
theorem Ex.lstN {H H1 H2 : Hp} {l : Addr} (e : Ex H H1) (n : H l = none) (m : Em l H1 H2) : Ex H H2 := fun a o h => m a o (ne_of_none h n) (e a o h)
theorem noDig_M (fs : List PyData) (r : List Nat) : noDig (txM fs ++ 93 :: r) := by
  intro c h
  cases fs with
  | nil =>
    rw [txM] at h
    have : 93 = c := by simpa using h
    omega
  | cons f fs =>
    rw [txM] at h
    have : 44 = c := by simpa using h
    omega
theorem one_M (fs : List PyData) (r : List Nat) : (txM fs ++ 93 :: r).take 1 = if fs = [] then [93] else [44] := by
  cases fs with
  | nil => rw [txM]; rfl
  | cons f fs => rw [txM]; rfl
theorem one_L (fs : List PyData) (r : List Nat) : decide ((txL fs ++ 93 :: r).take 1 = [93]) = decide (fs = []) := by
  cases fs with
  | nil => rw [txL]; rfl
  | cons f fs =>
    obtain ⟨c, t, e, h, _⟩ := txD_head f
    rw [txL, e]
    show decide ([c] = [93]) = _
    rw [decide_eq_false (by simpa using h), decide_eq_false (by simp)]
theorem Fl.dtx {K : PySem.W.Frag} {H : Hp} {v : V} {d : PyData} (h : Fl K H v d) : Dt K H v d := h.dt
end Ls
end

section
set_option Elab.async false
set_option linter.all false
set_option maxRecDepth 100000
set_option maxHeartbeats 4000000
namespace Ls
open PySem PySem.Spec PyProof.Rows L2 SX
mutual
def gdD : PyData → Bool
  | .int i => decide (i.natAbs < 10 ^ 62)
  | .tuple ds => decide (ds.length ≤ 60) && gdL ds
  | _ => false
def gdL : List PyData → Bool
  | [] => true
  | d :: ds => gdD d && gdL ds
end
mutual
def ftD : PyData → Bool
  | .int i => decide (szI i ≤ 1000)
  | .tuple ds => (decide (ds.length ≤ 40) && ftL ds) && (decide ((tdpL ds : Nat) ≤ 3) && decide (1 + szL ds ≤ 1000))
  | _ => false
def ftL : List PyData → Bool
  | [] => true
  | d :: ds => ftD d && ftL ds
end
theorem gdL_mem : ∀ {ds : List PyData}, gdL ds = true → ∀ {d : PyData}, d ∈ ds → gdD d = true
  | d' :: ds, h, d, hd => by
    rw [gdL, Bool.and_eq_true] at h
    rcases List.mem_cons.mp hd with rfl | hd
    · exact h.1
    · exact gdL_mem h.2 hd
theorem gdL_of : ∀ {ds : List PyData}, (∀ d, d ∈ ds → gdD d = true) → gdL ds = true
  | [], _ => rfl
  | d :: ds, h => by rw [gdL, h d List.mem_cons_self, gdL_of fun e he => h e (List.mem_cons_of_mem _ he)]; rfl
theorem tdpL_le {m : Nat} : ∀ {ds : List PyData}, (∀ d, d ∈ ds → tdp d ≤ m) → tdpL ds ≤ m
  | [], _ => Nat.zero_le _
  | d :: ds, h => by
    rw [tdpL]
    exact Nat.max_le.mpr ⟨h d List.mem_cons_self, tdpL_le fun e he => h e (List.mem_cons_of_mem _ he)⟩
theorem ftL_all : ∀ ds : List PyData, ftL ds = (ds.map ftD).all id
  | [] => rfl
  | d :: ds => by rw [ftL, ftL_all ds]; rfl
theorem gd_log {i : Int} (h : i.natAbs < 10 ^ 62) : i.natAbs.log2 < 1920 := log2_of (by decide) (Nat.lt_trans h (by decide +kernel))
mutual
theorem gd_sm : ∀ d : PyData, gdD d = true → smD d = true
  | .int i, h => by
    rw [gdD, decide_eq_true_eq] at h
    rw [smD, decide_eq_true_eq]
    exact gd_log h
  | .tuple ds, h => by
    rw [gdD, Bool.and_eq_true] at h
    rw [smD]
    exact gdL_sm ds h.2
  | .none, h => by simp [gdD] at h
  | .bool _, h => by simp [gdD] at h
  | .str _, h => by simp [gdD] at h
  | .list _, h => by simp [gdD] at h
  | .dict _, h => by simp [gdD] at h
theorem gdL_sm : ∀ d : List PyData, gdL d = true → smL d = true
  | [], _ => rfl
  | d :: ds, h => by
    rw [gdL, Bool.and_eq_true] at h
    rw [smL, gd_sm d h.1, gdL_sm ds h.2]
    rfl
end
mutual
theorem gd_lay : ∀ d : PyData, gdD d = true → PyData.canLay0 d = true ∧ PyData.depth d = tdp d ∧ PyData.showable d = true
  | .int i, h => by
    rw [gdD, decide_eq_true_eq] at h
    refine ⟨rfl, rfl, ?_⟩
    rw [PyData.showable, decide_eq_true_eq]
    exact gd_log h
  | .tuple ds, h => by
    rw [gdD, Bool.and_eq_true] at h
    obtain ⟨a, b, c⟩ := gdL_lay ds h.2
    refine ⟨by rw [PyData.canLay0]; exact a, ?_, by rw [PyData.showable]; exact c⟩
    rw [PyData.depth, tdp, b]
    omega
  | .none, h => by simp [gdD] at h
  | .bool _, h => by simp [gdD] at h
  | .str _, h => by simp [gdD] at h
  | .list _, h => by simp [gdD] at h
  | .dict _, h => by simp [gdD] at h
theorem gdL_lay : ∀ d : List PyData, gdL d = true → PyData.canLayAll0 d = true ∧ PyData.depthAll d = tdpL d ∧ PyData.showableAll d = true
  | [], _ => ⟨rfl, rfl, rfl⟩
  | d :: ds, h => by
    rw [gdL, Bool.and_eq_true] at h
    obtain ⟨a, b, c⟩ := gd_lay d h.1
    obtain ⟨a2, b2, c2⟩ := gdL_lay ds h.2
    refine ⟨by rw [PyData.canLayAll0, a, a2]; rfl, ?_, by rw [PyData.showableAll, c, c2]; rfl⟩
    rw [PyData.depthAll, tdpL, b, b2]
end
mutual
theorem ft_ns : ∀ d : PyData, ftD d = true → nsD d = true
  | .int i, _ => rfl
  | .tuple ds, h => by
    rw [ftD] at h
    simp only [Bool.and_eq_true] at h
    rw [nsD, h.1.1, ftL_ns ds h.1.2]
    rfl
  | .none, h => by simp [ftD] at h
  | .bool _, h => by simp [ftD] at h
  | .str _, h => by simp [ftD] at h
  | .list _, h => by simp [ftD] at h
  | .dict _, h => by simp [ftD] at h
theorem ftL_ns : ∀ ds : List PyData, ftL ds = true → nsL ds = true
  | [], _ => rfl
  | d :: ds, h => by
    rw [ftL, Bool.and_eq_true] at h
    rw [nsL, ft_ns d h.1, ftL_ns ds h.2]
    rfl
end
theorem ft_is {d : PyData} (h : ftD d = true) : isD d = true := by
  have hn := ft_ns d h
  unfold isD
  rw [hn, Bool.true_and, Bool.and_eq_true, decide_eq_true_eq, decide_eq_true_eq]
  cases d with
  | int i =>
    rw [ftD, decide_eq_true_eq] at h
    exact ⟨(by decide : (0 : Int) ≤ 4), by rw [szD]; exact h⟩
  | tuple ds =>
    rw [ftD] at h
    simp only [Bool.and_eq_true, decide_eq_true_eq] at h
    exact ⟨by rw [tdp]; omega, by rw [szD]; exact h.2.2⟩
  | none => simp [ftD] at h
  | bool _ => simp [ftD] at h
  | str _ => simp [ftD] at h
  | list _ => simp [ftD] at h
  | dict _ => simp [ftD] at h
theorem len_app (x y : Str) : (x ++ y).length = x.length + y.length := by rw [TL.len_tl, TL.tl_append, List.length_append, ← TL.len_tl, ← TL.len_tl]
theorem join_len (sep : Str) : ∀ ts : List Str, (Str.join sep ts).length ≤ (ts.map (·.length)).sum + (ts.length - 1) * sep.length
  | [] => by
    rw [TL.len_tl, TL.tl_join]
    exact Nat.zero_le _
  | [t] => by
    rw [TL.len_tl, TL.tl_join]
    show (TL.tl t).length ≤ _
    rw [← TL.len_tl]
    simp
  | t :: u :: ts => by
    have ih := join_len sep (u :: ts)
    rw [TL.len_tl, TL.tl_join] at ih ⊢
    show (TL.tl t ++ (TL.tl sep ++ TL.joinL (TL.tl sep) ((u :: ts).map TL.tl))).length ≤ _
    rw [List.length_append, List.length_append, ← TL.len_tl, ← TL.len_tl]
    simp only [List.map_cons, List.sum_cons, List.length_cons, Nat.add_sub_cancel] at ih ⊢
    have : (ts.length + 1) * sep.length = ts.length * sep.length + sep.length := Nat.succ_mul _ _
    omega
theorem lit_open : (Str.ofString "(").length = 1 := by decide +kernel
theorem lit_close : (Str.ofString ")").length = 1 := by decide +kernel
theorem lit_close1 : (Str.ofString ",)").length = 2 := by decide +kernel
theorem lit_sep : (Str.ofString ", ").length = 2 := by decide +kernel
theorem lit_lo : (Str.ofString "[").length = 1 := by decide +kernel
theorem lit_lc : (Str.ofString "]").length = 1 := by decide +kernel
mutual
theorem shown_len : ∀ d : PyData, nsD d = true → ((PyData.shown d).length : Int) + 2 ≤ 4 * szD d
  | .int i, h => by
    have := szD_pos (.int i) h
    rw [szD] at this ⊢
    rw [PyData.shown_int, show ((toString i : String) : Str) = S (intL i) from str_int i, S_len, ← intL_len]
    omega
  | .tuple ds, h => by
    rw [nsD, Bool.and_eq_true] at h
    have ih := shownL_len ds h.2
    have hj := join_len (Str.ofString ", ") (PyData.shownAll ds)
    have hz := szL_nn ds h.2
    rw [lit_sep, PyData.shownAll_length] at hj
    rw [PyData.shown_tuple, len_app, len_app, szD, lit_open]
    by_cases h1 : ds.length = 1
    · rw [if_pos (by simpa using h1), lit_close1]
      omega
    · rw [if_neg (by simpa using h1), lit_close]
      by_cases h0 : ds.length = 0
      · omega
      · omega
  | .none, h => by simp [nsD] at h
  | .bool _, h => by simp [nsD] at h
  | .str _, h => by simp [nsD] at h
  | .list _, h => by simp [nsD] at h
  | .dict _, h => by simp [nsD] at h
theorem shownL_len : ∀ ds : List PyData, nsL ds = true → ((((PyData.shownAll ds).map (·.length)).sum : Nat) : Int) + 2 * ds.length ≤ 4 * szL ds
  | [], _ => by rw [PyData.shownAll_nil, szL]; decide
  | d :: ds, h => by
    rw [nsL, Bool.and_eq_true] at h
    have h1 := shown_len d h.1
    have h2 := shownL_len ds h.2
    rw [PyData.shownAll_cons, szL, List.map_cons, List.sum_cons, List.length_cons]
    omega
end
theorem fault_shown : (PyData.shown (.str (Str.ofString "fault"))).length ≤ 7 := by rw [PyData.shown_str]; decide +kernel
/-- what a law draws: FAULT, or data that fits -/
def drawn (d : PyData) : Bool := isF d || (gdD d && ftD d)
theorem drawn_ok {d : PyData} (h : drawn d = true) (n : Nat) (hn : 5 ≤ n) : okV n d := by
  unfold drawn at h
  cases hf : isF d with
  | true =>
    have e := isF_inv hf
    subst e
    exact ⟨rfl, (by omega : 0 < n), by rw [hf]; rfl⟩
  | false =>
    rw [hf, Bool.false_or, Bool.and_eq_true] at h
    have hd := ft_is h.2
    refine ⟨gd_sm d h.1, ?_, by rw [hd, Bool.or_true]⟩
    unfold isD at hd
    simp only [Bool.and_eq_true, decide_eq_true_eq] at hd
    omega
theorem drawn_repr {d : PyData} (h : drawn d = true) : PyData.showable d = true ∧ (PyData.shown d).length ≤ 4000 ∧ PyData.depth d ≤ 4 ∧ PyData.canLay0 d = true := by
  unfold drawn at h
  cases hf : isF d with
  | true =>
    have e := isF_inv hf
    subst e
    exact ⟨rfl, Nat.le_trans fault_shown (by decide), by rw [PyData.depth]; decide, by rw [PyData.canLay0]; decide +kernel⟩
  | false =>
    rw [hf, Bool.false_or, Bool.and_eq_true] at h
    have hd := ft_is h.2
    obtain ⟨a, b, c⟩ := gd_lay d h.1
    unfold isD at hd
    simp only [Bool.and_eq_true, decide_eq_true_eq] at hd
    have := shown_len d hd.1
    exact ⟨c, by omega, by omega, a⟩
def sp_ldatum (K : PySem.W.Frag) (n : Nat) : Sp := fun vs H Q _ => ∃ (p : Addr) (m : Nat), vs = [.ref p, .int (m : Nat)] ∧ Pt H p ∧ m < n ∧ ∀ v d H', Fl K H' v d → gdD d = true → tdp d ≤ m → Pt H' p → Em p H H' → Q v H'
def sp_lsize (K : PySem.W.Frag) (n : Nat) : Sp := fun vs H Q _ => ∃ v d, vs = [v] ∧ Fl K H v d ∧ (isF d || gdD d) = true ∧ tdp d < n ∧ tdp d ≤ 60 ∧ ∀ H', Ex H H' → Q (.int (szD d)) H'
def sp_ldeep (K : PySem.W.Frag) (n : Nat) : Sp := fun vs H Q _ => ∃ v d, vs = [v] ∧ Fl K H v d ∧ gdD d = true ∧ tdp d < n ∧ ∀ H', Ex H H' → Q (.int (tdp d : Nat)) H'
def sp_lfits (K : PySem.W.Frag) (n : Nat) : Sp := fun vs H Q _ => ∃ v d, vs = [v] ∧ Fl K H v d ∧ gdD d = true ∧ tdp d < n ∧ tdp d ≤ 60 ∧ ∀ H', Ex H H' → Q (.bl (ftD d)) H'
def sp_llong : Sp := fun vs H Q _ => ∃ (p : Addr) (k : Nat), vs = [.ref p, .int (k : Nat)] ∧ Pt H p ∧ 1 ≤ k ∧ k ≤ 61 ∧ ∀ (i : Int) H', i.natAbs < 10 ^ 61 → Pt H' p → Em p H H' → Q (.int i) H'
def sp_ldraw (K : PySem.W.Frag) : Sp := fun vs H Q _ => ∃ p : Addr, vs = [.ref p] ∧ Pt H p ∧ ∀ v d H', Fl K H' v d → (isF d || gdD d) = true → tdp d ≤ 4 → Pt H' p → Em p H H' → Q v H'
def sp_ltext (K : PySem.W.Frag) (n : Nat) : Sp := fun vs H Q _ => ∃ v d, vs = [v] ∧ Fl K H v d ∧ drawn d = true ∧ tdp d < n ∧ ∀ H', Ex H H' → Q (.str (S (txD d))) H'
def sp_lright : Sp := fun vs H Q _ => ∃ p : Addr, vs = [.ref p] ∧ Pt H p ∧ ∀ H', Pt H' p → Em p H H' → Q (.bl true) H'
section
variable {σ : L2.St} {H : Hp} {Q : VK} {K : PySem.W.Frag} {te : TE} {vs : List Nat}
/-- [f(x) for x in t], t a tuple of flat data -/
theorem k_lcFl {a : Addr} {xs : List V} {ds : List PyData} {i0 : Nat} (f : PyData → V) (hS : SqT K H a xs) (hD : FlAll K H xs ds) (hz : xs.length ≤ 99999)
    (hs : ∀ x d H1 (Q1 : VK), d ∈ ds → Ex H H1 → Fl K H1 x d → (∀ H2, Ex H1 H2 → Q1 (f d) H2) → te ((wipe σ vs).set i0 (some x)) H1 Q1)
    (hw : ∀ x, wipe ((wipe σ vs).set i0 (some x)) vs = wipe σ vs) (q : ∀ D H2, H D = none → Ex H H2 → H2 D = some (.lst (ds.map f)) → Q (.ref D) H2) : kLc (Itt K a) (gName i0) tYes te vs σ H Q := by
  refine k_lcT (xs := xs) (fun j ys H' => Ex H H' ∧ ys = (ds.take j).map f) (fun D n => ⟨Ex.new n, rfl⟩) (fun j ys H' _ p => p.1.st hS) (fun D j x ys H' n hx hj hl hHD p => ?_) hw fun D ys H' n hl hHD p => ?_
  · obtain ⟨e, rfl⟩ := p
    obtain ⟨d, hd, hf⟩ := hD.get hx
    refine hs x d H' _ (List.mem_of_getElem? hd) e (hf.mono e.et) fun H2 e2 => k_turn (e2 _ _ hHD) hl (by omega) ⟨Ex.putN (e.trans e2) n, ?_⟩
    rw [List.take_add_one, hd, List.map_append]
    rfl
  · obtain ⟨e, rfl⟩ := p
    refine q D H' n e ?_
    rw [hHD, hD.length, List.take_length]
end
end Ls
end

section
set_option Elab.async false
set_option linter.all false
set_option maxRecDepth 100000
set_option maxHeartbeats 4000000
namespace Ls
open PySem PySem.Spec PyProof.Rows L2 SX
/-- data that repr shows within bounds -/
structure Rp (d : PyData) : Prop where
  sh : PyData.showable d = true
  len : (PyData.shown d).length ≤ 40000
  dep : PyData.depth d ≤ 10
  lay : PyData.canLay0 d = true
theorem Rp.drawn {d : PyData} (h : drawn d = true) : Rp d := by
  obtain ⟨a, b, c, e⟩ := drawn_repr h
  exact ⟨a, by omega, by omega, e⟩
theorem Rp.int {i : Int} (h : i.natAbs.log2 < 1920) : Rp (.int i) := by
  refine ⟨by rw [PyData.showable, decide_eq_true_eq]; exact h, ?_, by rw [PyData.depth]; exact Nat.zero_le _, by rw [PyData.canLay0]⟩
  rw [PyData.shown_int, show ((toString i : String) : Str) = S (intL i) from str_int i, S_len]
  have := int_digits h
  unfold intL
  split
  · rw [List.length_cons]; omega
  · omega
theorem Rp.bool (b : Bool) : Rp (.bool b) := ⟨by rw [PyData.showable], by cases b <;> (rw [PyData.shown_bool]; decide +kernel), by rw [PyData.depth]; exact Nat.zero_le _, by rw [PyData.canLay0]⟩
theorem Rp.none : Rp .none := ⟨by rw [PyData.showable], by rw [PyData.shown_none]; decide +kernel, by rw [PyData.depth]; exact Nat.zero_le _, by rw [PyData.canLay0]⟩
theorem Rp.str {l : List Nat} (hl : l.length ≤ 3999) (ha : ∀ c ∈ l, c < 128) : Rp (.str (S l)) := by
  refine ⟨by rw [PyData.showable], ?_, by rw [PyData.depth]; exact Nat.zero_le _, ?_⟩
  · rw [PyData.shown_str]
    have := StrLaws.reprText_len (S l) (fun c hc => Nat.lt_trans (ha c hc) (by decide))
    have e := S_len l
    omega
  · rw [PyData.canLay0]
    show (S l).cps.all (· < 0x110000) = true
    rw [← Array.all_toList, List.all_eq_true]
    intro c hc
    exact decide_eq_true (Nat.lt_trans (ha c hc) (by decide))
theorem intL_ascii (i : Int) : ∀ c ∈ intL i, c < 128 := by
  intro c hc
  have h : ∀ c ∈ TL.numL i.natAbs, c < 128 := fun c hc => by
    have := TL.numL_digits i.natAbs c hc
    omega
  unfold intL at hc
  split at hc
  · rcases List.mem_cons.mp hc with rfl | hc
    · decide
    · exact h c hc
  · exact h c hc
mutual
theorem txD_ascii : ∀ (d : PyData), ∀ c ∈ txD d, c < 128
  | .int i, c, h => by rw [txD] at h; exact intL_ascii i c h
  | .tuple ds, c, h => by
    rw [txD] at h
    rcases List.mem_cons.mp h with rfl | h
    · decide
    · rcases List.mem_append.mp h with h | h
      · exact txL_ascii ds c h
      · have : c = 93 := by simpa using h
        omega
  | .none, c, h => fault_ascii c h
  | .bool _, c, h => fault_ascii c h
  | .str _, c, h => fault_ascii c h
  | .list _, c, h => fault_ascii c h
  | .dict _, c, h => fault_ascii c h
theorem txL_ascii : ∀ (ds : List PyData), ∀ c ∈ txL ds, c < 128
  | [], c, h => by rw [txL] at h; cases h
  | d :: ds, c, h => by
    rw [txL] at h
    rcases List.mem_append.mp h with h | h
    · exact txD_ascii d c h
    · exact txM_ascii ds c h
theorem txM_ascii : ∀ (ds : List PyData), ∀ c ∈ txM ds, c < 128
  | [], c, h => by rw [txM] at h; cases h
  | d :: ds, c, h => by
    rw [txM] at h
    rcases List.mem_cons.mp h with rfl | h
    · decide
    · rcases List.mem_append.mp h with h | h
      · exact txD_ascii d c h
      · exact txM_ascii ds c h
theorem fault_ascii : ∀ c ∈ [102, 97, 117, 108, 116], c < 128 := by decide
end
theorem drawn_len {d : PyData} (h : drawn d = true) : (txD d).length ≤ 2999 := by
  have ho := drawn_ok h 5 (Nat.le_refl _)
  cases hf : isF d with
  | true => rw [isF_tx hf]; decide
  | false =>
    obtain ⟨a, b, c⟩ := isD_of ho hf
    have := txD_len d a
    omega
theorem drawn_size {d : PyData} (h : drawn d = true) : 0 ≤ szD d ∧ szD d ≤ 1000 := by
  have ho := drawn_ok h 5 (Nat.le_refl _)
  cases hf : isF d with
  | true => rw [isF_sz hf]; decide
  | false =>
    obtain ⟨a, b, c⟩ := isD_of ho hf
    have := szD_pos d a
    omega
theorem Rp.text {d : PyData} (h : Ls.drawn d = true) : Rp (.str (S (txD d))) := .str (Nat.le_trans (drawn_len h) (by decide)) (txD_ascii d)
theorem Rp.size {d : PyData} (h : Ls.drawn d = true) : Rp (.int (szD d)) := by
  have := drawn_size h
  exact .int (log2_of (by decide) (Nat.lt_of_lt_of_le (show (szD d).natAbs < 2 ^ 10 by omega) (Nat.pow_le_pow_right (by decide) (by decide))))
section
variable {H : Hp} {Q : VK} {K : PySem.W.Frag} {x y : V} {d e : PyData}
theorem y_rep (h : Fl K H x d) (r : Rp d) (q : Q (.str d.shown) H) : rRepr K [x] H Q :=
  y_reprP h.dp (PyData.hasDict_of_canLay d r.lay) r.sh (Nat.le_trans r.len (by decide)) (by have := r.dep; omega) q
/-- repr([x, y]) -/
theorem y_rep2 {p : Addr} (hp : H p = some (.lst [x, y])) (h : Fl K H x d) (h2 : Fl K H y e) (r : Rp d) (r2 : Rp e) (q : Q (.str (PyData.list [d, e]).shown) H) : rRepr K [.ref p] H Q := by
  refine y_reprP (.lst (.of hp) (.cons h.dp (.cons h2.dp .nil))) ?_ ?_ ?_ ?_ q
  · have a := PyData.hasDict_of_canLay d r.lay
    have b := PyData.hasDict_of_canLay e r2.lay
    simp [PyData.hasDict, PyData.hasDictAll, a, b]
  · simp [PyData.showable, PyData.showableAll, r.sh, r2.sh]
  · rw [PyData.shown_list, len_app, len_app, lit_lo, lit_lc]
    have hj := join_len (Str.ofString ", ") (PyData.shownAll [d, e])
    rw [lit_sep, PyData.shownAll_length, PyData.shownAll_cons, PyData.shownAll_cons, PyData.shownAll_nil] at hj
    simp only [List.map_cons, List.map_nil, List.sum_cons, List.sum_nil, List.length_cons, List.length_nil] at hj
    have := r.len
    have := r2.len
    have h2 : sizeLine = 16777216 := rfl
    rw [PyData.shownAll_cons, PyData.shownAll_cons, PyData.shownAll_nil]
    omega
  · have := r.dep
    have := r2.dep
    simp only [PyData.depth, PyData.depthAll]
    omega
theorem rp_shaped {d : PyData} (r : Rp d) : SeqAt.shaped d = true := by
  unfold SeqAt.shaped
  rw [r.lay, Bool.true_and, decide_eq_true_eq]
  have := r.dep
  omega
theorem gd_shaped {d : PyData} (h : gdD d = true) (ht : tdp d ≤ 60) : SeqAt.shaped d = true := by
  obtain ⟨a, b, _⟩ := gd_lay d h
  unfold SeqAt.shaped
  rw [a, Bool.true_and, decide_eq_true_eq]
  omega
theorem fault_shaped : SeqAt.shaped (.str (Str.ofString "fault")) = true := by decide +kernel
/-- drawn data == "fault" -/
theorem y_eqFault (h : Fl K H x d) (hg : gdD d = true) (ht : tdp d ≤ 60) (q : Q (.bl false) H) : rEqU K x (.str (Str.ofString "fault")) H Q := by
  refine y_eqD h.dp (.str _) (gd_shaped hg ht) fault_shaped ?_
  cases d with
  | int i => exact q
  | tuple ds => exact q
  | none => simp [gdD] at hg
  | bool _ => simp [gdD] at hg
  | str _ => simp [gdD] at hg
  | list _ => simp [gdD] at hg
  | dict _ => simp [gdD] at hg
end
def isTup : PyData → Bool
  | .tuple _ => true
  | _ => false
def isInt : PyData → Bool
  | .int _ => true
  | _ => false
theorem y_isStr {K : PySem.W.Frag} {H : Hp} {Q : VK} {x : V} {d : PyData} (h : Fl K H x d) (hg : (isF d || gdD d) = true) (q : Q (.bl (isF d)) H) : rIsiU K [x, .ty "str"] H Q := by
  cases d with
  | str z =>
    have e : isF (.str z) = true := by simpa [gdD] using hg
    rw [e] at q
    exact y_isi h.dt (b := true) rfl q
  | int i => exact y_isi h.dt (b := false) rfl q
  | tuple ds => exact y_isi h.dt (b := false) rfl q
  | none => simp [gdD, isF] at hg
  | bool _ => simp [gdD, isF] at hg
  | list _ => simp [gdD, isF] at hg
  | dict _ => simp [gdD, isF] at hg
theorem y_isTup {K : PySem.W.Frag} {H : Hp} {Q : VK} {x : V} {d : PyData} (h : Fl K H x d) (hg : (isF d || gdD d) = true) (q : Q (.bl (isTup d)) H) : rIsiU K [x, .ty "tuple"] H Q := by
  cases d with
  | str z => exact y_isi h.dt (b := false) rfl q
  | int i => exact y_isi h.dt (b := false) rfl q
  | tuple ds => exact y_isi h.dt (b := true) rfl q
  | none => simp [gdD, isF] at hg
  | bool _ => simp [gdD, isF] at hg
  | list _ => simp [gdD, isF] at hg
  | dict _ => simp [gdD, isF] at hg
theorem isTup_inv {d : PyData} (h : isTup d = true) : ∃ ds, d = .tuple ds := by
  cases d with
  | tuple ds => exact ⟨ds, rfl⟩
  | _ => cases h
theorem Fl.tup_inv {K : PySem.W.Frag} {H : Hp} {v : V} {ds : List PyData} (h : Fl K H v (.tuple ds)) : ∃ a xs, v = .ref a ∧ SqT K H a xs ∧ FlAll K H xs ds := by
  cases h with | tup hS hA => exact ⟨_, _, rfl, hS, hA⟩
theorem drawn_w {d : PyData} (h : drawn d = true) : (isF d || gdD d) = true := by
  unfold drawn at h
  cases hf : isF d with
  | true => rfl
  | false =>
    rw [hf, Bool.false_or, Bool.and_eq_true] at h
    rw [h.1, Bool.or_true]
theorem drawn_dp {d : PyData} (h : drawn d = true) : tdp d ≤ 4 := by
  have ho := drawn_ok h 5 (Nat.le_refl _)
  have := ho.2.1
  omega
theorem drawn_mem {ds : List PyData} (h : drawn (.tuple ds) = true) {d : PyData} (hd : d ∈ ds) : drawn d = true := by
  unfold drawn at h ⊢
  have e : isF (.tuple ds) = false := rfl
  rw [e, Bool.false_or, Bool.and_eq_true, gdD, ftD] at h
  simp only [Bool.and_eq_true, decide_eq_true_eq] at h
  have h2 := h.2.1.2
  rw [ftL_all, List.all_eq_true] at h2
  have h3 : ftD d = true := h2 _ (List.mem_map.mpr ⟨d, hd, rfl⟩)
  rw [gdL_mem h.1.2 hd, h3, Bool.and_self, Bool.or_true]
theorem drawn_tup {ds : List PyData} (h : drawn (.tuple ds) = true) : ds.length ≤ 40 ∧ nsL ds = true ∧ 1 + szL ds ≤ 1000 := by
  unfold drawn at h
  have e : isF (.tuple ds) = false := rfl
  rw [e, Bool.false_or, Bool.and_eq_true, gdD, ftD] at h
  simp only [Bool.and_eq_true, decide_eq_true_eq] at h
  exact ⟨h.2.1.1, ftL_ns ds h.2.1.2, h.2.2.2⟩
/-- the greatest of 0 and some depths -/
theorem tdpL_max0 {ds : List PyData} {m : Int} (h1 : m ∈ (0 : Int) :: ds.map (fun d => (tdp d : Int))) (h2 : ∀ z, z ∈ (0 : Int) :: ds.map (fun d => (tdp d : Int)) → z ≤ m) : m = (tdpL ds : Int) := by
  by_cases e : ds = []
  · subst e
    have : m = 0 := by simpa using h1
    rw [this]; rfl
  · refine tdpL_max (fun z => absurd (List.map_eq_nil_iff.mp z) e) fun _ => ⟨?_, fun z hz => h2 z (List.mem_cons_of_mem _ hz)⟩
    rcases List.mem_cons.mp h1 with h | h
    · obtain ⟨d, hd⟩ := List.exists_mem_of_ne_nil ds e
      have h3 := h2 (tdp d : Int) (List.mem_cons_of_mem _ (List.mem_map.mpr ⟨d, hd, rfl⟩))
      have : (tdp d : Int) = m := by omega
      exact List.mem_map.mpr ⟨d, hd, this⟩
    · exact h
/-- the texts so far -/
theorem txL_snoc (es : List PyData) (d : PyData) : txL (es ++ [d]) = txL es ++ (if es = [] then [] else [44]) ++ txD d := by
  cases es with
  | nil => simp [txL, txM]
  | cons e es =>
    have key : ∀ l : List PyData, txM (l ++ [d]) = txM l ++ (44 :: txD d) := by
      intro l
      induction l with
      | nil => simp [txM]
      | cons a l ih => rw [List.cons_append, txM, ih, txM]; simp
    rw [List.cons_append, txL, key, txL, if_neg (List.cons_ne_nil _ _)]
    simp
section
variable {H : Hp} {Q : VK} {K : PySem.W.Frag}
theorem y_sliceL {p : Addr} {xs : List V} {lo hi : Option Int} (h : SqL K H p xs) (q : ∀ l H', H l = none → Ex H H' → H' l = some (.lst (cutV xs lo hi)) → Q (.ref l) H') : rSlU K (.ref p) lo hi H Q := .inl (y_slL h q)
theorem FlAll.cut {vs : List V} {ds : List PyData} (lo hi : Option Int) (h : FlAll K H vs ds) : ∃ es, FlAll K H (cutV vs lo hi) es ∧ ∀ d ∈ es, d ∈ ds := by
  refine ⟨_, (h.drop _).take _, fun d hd => List.mem_of_mem_drop (List.mem_of_mem_take hd)⟩
theorem FlAll.rep {v : V} {d : PyData} (h : Fl K H v d) : ∀ n : Nat, FlAll K H (List.replicate n [v]).flatten (List.replicate n d)
  | 0 => .nil
  | n + 1 => by
    rw [List.replicate_succ, List.replicate_succ, List.flatten_cons]
    exact .cons h (FlAll.rep h n)
end
end Ls
end

section
set_option Elab.async false
set_option linter.all false
set_option maxRecDepth 100000
set_option maxHeartbeats 4000000
namespace My
open PySem PySem.Spec PyProof.Rows L2 Ls
def topS (i : Nat) : Stmt := PySem.Challenge.pw_leastsession_k11_sizes_and_texts.main.body.getD i (.Pass ⟨0, 0, 0, 0⟩)
abbrev s_is_int : Stmt := topS 10
abbrev N_is_int : List Str := ["value"]
abbrev P_is_int : List Str := ["value"]
theorem sc_is_int : FnScope N_is_int P_is_int (defScope s_is_int) := ⟨rfl, rfl, rfl, by decide +kernel, rfl, by decide +kernel, by decide +kernel⟩
abbrev s_is_nested : Stmt := topS 11
abbrev N_is_nested : List Str := ["value", "item"]
abbrev P_is_nested : List Str := ["value"]
theorem sc_is_nested : FnScope N_is_nested P_is_nested (defScope s_is_nested) := ⟨rfl, rfl, rfl, by decide +kernel, rfl, by decide +kernel, by decide +kernel⟩
abbrev s_depth_of : Stmt := topS 12
abbrev N_depth_of : List Str := ["datum", "item"]
abbrev P_depth_of : List Str := ["datum"]
theorem sc_depth_of : FnScope N_depth_of P_depth_of (defScope s_depth_of) := ⟨rfl, rfl, rfl, by decide +kernel, rfl, by decide +kernel, by decide +kernel⟩
abbrev s_datum_size : Stmt := topS 13
abbrev N_datum_size : List Str := ["datum", "item"]
abbrev P_datum_size : List Str := ["datum"]
theorem sc_datum_size : FnScope N_datum_size P_datum_size (defScope s_datum_size) := ⟨rfl, rfl, rfl, by decide +kernel, rfl, by decide +kernel, by decide +kernel⟩
abbrev s_is_datum : Stmt := topS 14
abbrev N_is_datum : List Str := ["value"]
abbrev P_is_datum : List Str := ["value"]
theorem sc_is_datum : FnScope N_is_datum P_is_datum (defScope s_is_datum) := ⟨rfl, rfl, rfl, by decide +kernel, rfl, by decide +kernel, by decide +kernel⟩
abbrev s_is_fault : Stmt := topS 15
abbrev N_is_fault : List Str := ["value"]
abbrev P_is_fault : List Str := ["value"]
theorem sc_is_fault : FnScope N_is_fault P_is_fault (defScope s_is_fault) := ⟨rfl, rfl, rfl, by decide +kernel, rfl, by decide +kernel, by decide +kernel⟩
abbrev s_is_value : Stmt := topS 16
abbrev N_is_value : List Str := ["value"]
abbrev P_is_value : List Str := ["value"]
theorem sc_is_value : FnScope N_is_value P_is_value (defScope s_is_value) := ⟨rfl, rfl, rfl, by decide +kernel, rfl, by decide +kernel, by decide +kernel⟩
abbrev s_check_value : Stmt := topS 17
abbrev N_check_value : List Str := ["value"]
abbrev P_check_value : List Str := ["value"]
theorem sc_check_value : FnScope N_check_value P_check_value (defScope s_check_value) := ⟨rfl, rfl, rfl, by decide +kernel, rfl, by decide +kernel, by decide +kernel⟩
abbrev s_size_of : Stmt := topS 18
abbrev N_size_of : List Str := ["value"]
abbrev P_size_of : List Str := ["value"]
theorem sc_size_of : FnScope N_size_of P_size_of (defScope s_size_of) := ⟨rfl, rfl, rfl, by decide +kernel, rfl, by decide +kernel, by decide +kernel⟩
abbrev s_datum_text : Stmt := topS 19
abbrev N_datum_text : List Str := ["datum", "item"]
abbrev P_datum_text : List Str := ["datum"]
theorem sc_datum_text : FnScope N_datum_text P_datum_text (defScope s_datum_text) := ⟨rfl, rfl, rfl, by decide +kernel, rfl, by decide +kernel, by decide +kernel⟩
abbrev s_format_value : Stmt := topS 20
abbrev N_format_value : List Str := ["value"]
abbrev P_format_value : List Str := ["value"]
theorem sc_format_value : FnScope N_format_value P_format_value (defScope s_format_value) := ⟨rfl, rfl, rfl, by decide +kernel, rfl, by decide +kernel, by decide +kernel⟩
abbrev s_read_integer : Stmt := topS 21
abbrev N_read_integer : List Str := ["text", "at", "first", "end", "word"]
abbrev P_read_integer : List Str := ["text", "at"]
theorem sc_read_integer : FnScope N_read_integer P_read_integer (defScope s_read_integer) := ⟨rfl, rfl, rfl, by decide +kernel, rfl, by decide +kernel, by decide +kernel⟩
abbrev s_read_tuple : Stmt := topS 22
abbrev N_read_tuple : List Str := ["text", "at", "depth", "items", "is_more", "item"]
abbrev P_read_tuple : List Str := ["text", "at", "depth"]
theorem sc_read_tuple : FnScope N_read_tuple P_read_tuple (defScope s_read_tuple) := ⟨rfl, rfl, rfl, by decide +kernel, rfl, by decide +kernel, by decide +kernel⟩
abbrev s_read_datum : Stmt := topS 23
abbrev N_read_datum : List Str := ["text", "at", "depth"]
abbrev P_read_datum : List Str := ["text", "at", "depth"]
theorem sc_read_datum : FnScope N_read_datum P_read_datum (defScope s_read_datum) := ⟨rfl, rfl, rfl, by decide +kernel, rfl, by decide +kernel, by decide +kernel⟩
abbrev s_parse_value : Stmt := topS 24
abbrev N_parse_value : List Str := ["text", "datum", "end"]
abbrev P_parse_value : List Str := ["text"]
theorem sc_parse_value : FnScope N_parse_value P_parse_value (defScope s_parse_value) := ⟨rfl, rfl, rfl, by decide +kernel, rfl, by decide +kernel, by decide +kernel⟩
abbrev s_law_pot : Stmt := topS 26
abbrev N_law_pot : List Str := ["_law_script", "_law_index", "_law_cell"]
abbrev P_law_pot : List Str := ["_law_script", "_law_index"]
theorem sc_law_pot : FnScope N_law_pot P_law_pot (defScope s_law_pot) := ⟨rfl, rfl, rfl, by decide +kernel, rfl, by decide +kernel, by decide +kernel⟩
abbrev s_law_digit : Stmt := topS 27
abbrev N_law_digit : List Str := ["_law_pot_here", "_law_many", "_law_digit_here"]
abbrev P_law_digit : List Str := ["_law_pot_here", "_law_many"]
theorem sc_law_digit : FnScope N_law_digit P_law_digit (defScope s_law_digit) := ⟨rfl, rfl, rfl, by decide +kernel, rfl, by decide +kernel, by decide +kernel⟩
abbrev s_law_int : Stmt := topS 29
abbrev N_law_int : List Str := ["_law_pot_here", "_law_way", "_law_great"]
abbrev P_law_int : List Str := ["_law_pot_here"]
theorem sc_law_int : FnScope N_law_int P_law_int (defScope s_law_int) := ⟨rfl, rfl, rfl, by decide +kernel, rfl, by decide +kernel, by decide +kernel⟩
abbrev s_law_datum : Stmt := topS 30
abbrev N_law_datum : List Str := ["_law_pot_here", "_law_deep_here", "_law_k"]
abbrev P_law_datum : List Str := ["_law_pot_here", "_law_deep_here"]
theorem sc_law_datum : FnScope N_law_datum P_law_datum (defScope s_law_datum) := ⟨rfl, rfl, rfl, by decide +kernel, rfl, by decide +kernel, by decide +kernel⟩
abbrev s_law_size : Stmt := topS 31
abbrev N_law_size : List Str := ["_law_thing", "_law_each"]
abbrev P_law_size : List Str := ["_law_thing"]
theorem sc_law_size : FnScope N_law_size P_law_size (defScope s_law_size) := ⟨rfl, rfl, rfl, by decide +kernel, rfl, by decide +kernel, by decide +kernel⟩
abbrev s_law_deep : Stmt := topS 32
abbrev N_law_deep : List Str := ["_law_thing", "_law_each"]
abbrev P_law_deep : List Str := ["_law_thing"]
theorem sc_law_deep : FnScope N_law_deep P_law_deep (defScope s_law_deep) := ⟨rfl, rfl, rfl, by decide +kernel, rfl, by decide +kernel, by decide +kernel⟩
abbrev s_law_fits : Stmt := topS 33
abbrev N_law_fits : List Str := ["_law_thing", "_law_each"]
abbrev P_law_fits : List Str := ["_law_thing"]
theorem sc_law_fits : FnScope N_law_fits P_law_fits (defScope s_law_fits) := ⟨rfl, rfl, rfl, by decide +kernel, rfl, by decide +kernel, by decide +kernel⟩
abbrev s_law_long : Stmt := topS 34
abbrev N_law_long : List Str := ["_law_pot_here", "_law_many", "_law_found", "_law_turn"]
abbrev P_law_long : List Str := ["_law_pot_here", "_law_many"]
theorem sc_law_long : FnScope N_law_long P_law_long (defScope s_law_long) := ⟨rfl, rfl, rfl, by decide +kernel, rfl, by decide +kernel, by decide +kernel⟩
abbrev s_law_heavy : Stmt := topS 35
abbrev N_law_heavy : List Str := ["_law_pot_here", "_law_found", "_law_k"]
abbrev P_law_heavy : List Str := ["_law_pot_here"]
theorem sc_law_heavy : FnScope N_law_heavy P_law_heavy (defScope s_law_heavy) := ⟨rfl, rfl, rfl, by decide +kernel, rfl, by decide +kernel, by decide +kernel⟩
abbrev s_law_some : Stmt := topS 36
abbrev N_law_some : List Str := ["_law_pot_here", "_law_way"]
abbrev P_law_some : List Str := ["_law_pot_here"]
theorem sc_law_some : FnScope N_law_some P_law_some (defScope s_law_some) := ⟨rfl, rfl, rfl, by decide +kernel, rfl, by decide +kernel, by decide +kernel⟩
abbrev s_law_text : Stmt := topS 37
abbrev N_law_text : List Str := ["_law_thing", "_law_found", "_law_k", "_law_each"]
abbrev P_law_text : List Str := ["_law_thing"]
theorem sc_law_text : FnScope N_law_text P_law_text (defScope s_law_text) := ⟨rfl, rfl, rfl, by decide +kernel, rfl, by decide +kernel, by decide +kernel⟩
abbrev s_law_right : Stmt := topS 38
abbrev N_law_right : List Str := ["_law_pot_here", "_law_thing", "_law_words", "_law_shown", "_law_inner", "_law_each"]
abbrev P_law_right : List Str := ["_law_pot_here"]
theorem sc_law_right : FnScope N_law_right P_law_right (defScope s_law_right) := ⟨rfl, rfl, rfl, by decide +kernel, rfl, by decide +kernel, by decide +kernel⟩
abbrev s_law : Stmt := topS 39
abbrev N_law : List Str := ["_law_script", "_law_k", "_law_pot_here", "_law_turn"]
abbrev P_law : List Str := ["_law_script"]
theorem sc_law : FnScope N_law P_law (defScope s_law) := ⟨rfl, rfl, rfl, by decide +kernel, rfl, by decide +kernel, by decide +kernel⟩
structure Tx (K : PySem.W.Frag) (mg : Str → Option Value) : Prop where
  n_abs : mg "abs" = none
  n_all : mg "all" = none
  n_bool : mg "bool" = none
  n_divmod : mg "divmod" = none
  n_enumerate : mg "enumerate" = none
  n_int : mg "int" = none
  n_isinstance : mg "isinstance" = none
  n_len : mg "len" = none
  n_max : mg "max" = none
  n_min : mg "min" = none
  n_range : mg "range" = none
  n_repr : mg "repr" = none
  n_str : mg "str" = none
  n_sum : mg "sum" = none
  n_tuple : mg "tuple" = none
  c_FAULT : ∃ u, mg "FAULT" = some u ∧ RelV (.str "fault") u
  c_MOST_ITEMS : ∃ u, mg "MOST_ITEMS" = some u ∧ RelV (.int 40) u
  c_MOST_DEPTH : ∃ u, mg "MOST_DEPTH" = some u ∧ RelV (.int 4) u
  c_MOST_SIZE : ∃ u, mg "MOST_SIZE" = some u ∧ RelV (.int 1000) u
  c_DIGITS : ∃ u, mg "DIGITS" = some u ∧ RelV (.str "0123456789") u
  d_is_int : Df K mg "is_int" s_is_int P_is_int
  d_is_nested : Df K mg "is_nested" s_is_nested P_is_nested
  d_depth_of : Df K mg "depth_of" s_depth_of P_depth_of
  d_datum_size : Df K mg "datum_size" s_datum_size P_datum_size
  d_is_datum : Df K mg "is_datum" s_is_datum P_is_datum
  d_is_fault : Df K mg "is_fault" s_is_fault P_is_fault
  d_is_value : Df K mg "is_value" s_is_value P_is_value
  d_check_value : Df K mg "check_value" s_check_value P_check_value
  d_size_of : Df K mg "size_of" s_size_of P_size_of
  d_datum_text : Df K mg "datum_text" s_datum_text P_datum_text
  d_format_value : Df K mg "format_value" s_format_value P_format_value
  d_read_integer : Df K mg "read_integer" s_read_integer P_read_integer
  d_read_tuple : Df K mg "read_tuple" s_read_tuple P_read_tuple
  d_read_datum : Df K mg "read_datum" s_read_datum P_read_datum
  d_parse_value : Df K mg "parse_value" s_parse_value P_parse_value
  d_law_pot : Df K mg "_law_pot" s_law_pot P_law_pot
  d_law_digit : Df K mg "_law_digit" s_law_digit P_law_digit
  d_law_int : Df K mg "_law_int" s_law_int P_law_int
  d_law_datum : Df K mg "_law_datum" s_law_datum P_law_datum
  d_law_size : Df K mg "_law_size" s_law_size P_law_size
  d_law_deep : Df K mg "_law_deep" s_law_deep P_law_deep
  d_law_fits : Df K mg "_law_fits" s_law_fits P_law_fits
  d_law_long : Df K mg "_law_long" s_law_long P_law_long
  d_law_heavy : Df K mg "_law_heavy" s_law_heavy P_law_heavy
  d_law_some : Df K mg "_law_some" s_law_some P_law_some
  d_law_text : Df K mg "_law_text" s_law_text P_law_text
  d_law_right : Df K mg "_law_right" s_law_right P_law_right
  d_law : Df K mg "law" s_law P_law
end My
end

section
set_option Elab.async false
set_option linter.all false
set_option maxRecDepth 100000
set_option maxHeartbeats 4000000
namespace My
open PySem PySem.Spec PyProof.Rows L2 Ls SX
local macro_rules | `(tactic| walk_at "rd1") => `(tactic| (first | ((with_reducible refine' Ls.r_var ?hV ?_); (case hV => exact rfl)) | (with_reducible refine Ls.r_c ?_) | (with_reducible refine Ls.r_op ?_) | (with_reducible refine Ls.r_un ?_) | (with_reducible refine Ls.r_nil ?_) | (with_reducible refine Ls.r_cons ?_) | (with_reducible refine Ls.r_cb ?_) | (with_reducible refine Ls.r_ckw ?_) | (with_reducible refine Ls.r_cal ?_) | (with_reducible refine Ls.r_calK ?_) | (with_reducible refine Ls.r_tup ?_) | (with_reducible refine Ls.r_lst ?_) | (with_reducible refine Ls.r_if ?_) | (with_reducible refine Ls.r_andV ?_) | (with_reducible refine Ls.r_orV ?_) | (with_reducible refine Ls.r_notV ?_) | (with_reducible refine Ls.r_chain ?_) | (with_reducible refine Ls.r_sl ?_) | (with_reducible refine Ls.r_nopart ?_) | (with_reducible refine Ls.r_part ?_) | (with_reducible refine Ls.k_part ?_) | (with_reducible refine Ls.r_test ?_) | (with_reducible refine Ls.r_B ?_) | (with_reducible refine Ls.k_B ?_) | (with_reducible refine Ls.r_not ?_) | (with_reducible refine Ls.r_and ?_) | (with_reducible refine Ls.r_or ?_) | (with_reducible refine Ls.r_seq ?_) | (with_reducible refine Ls.r_ifS ?_) | (with_reducible refine Ls.r_next ?_) | (with_reducible refine Ls.r_brk ?_) | (with_reducible refine Ls.r_cont ?_) | (with_reducible refine Ls.r_ret ?_) | (with_reducible refine Ls.r_retN ?_) | (with_reducible refine Ls.r_drop ?_) | (with_reducible refine Ls.r_asg ?_) | (with_reducible refine Ls.r_par ?_) | (with_reducible refine Ls.k_par ?_) | ((with_reducible refine' Ls.r_aug ?hV ?_); (case hV => exact rfl)) | (with_reducible refine Ls.y_ip ?_) | (with_reducible refine Ls.g_name ?_) | (with_reducible refine Ls.g_nil ?_) | (with_reducible refine Ls.g_cons ?_) | (with_reducible refine Ls.g_sub ?_) | (with_reducible refine Ls.e_nx ?_) | (with_reducible refine Ls.e_rt ?_) | (with_reducible refine Ls.e_bk ?_) | (with_reducible refine Ls.e_ct ?_) | (with_reducible refine Ls.r_for ?_) | (with_reducible refine Ls.i_seq ?_) | (with_reducible refine Ls.i_enum ?_) | (with_reducible refine Ls.i_rng1 ?_) | (with_reducible refine Ls.r_m1 ?_) | (with_reducible refine Ls.r_m0 ?_) | (with_reducible refine Ls.k_isS ?_) | (with_reducible refine Ls.r_bm ?_) | (with_reducible refine Ls.r_lc ?_) | (with_reducible refine Ls.y_add ?_) | (with_reducible refine Ls.y_sub ?_) | (with_reducible refine Ls.y_neg ?_) | (with_reducible refine Ls.y_lt ?_) | (with_reducible refine Ls.y_le ?_) | (with_reducible refine Ls.y_gt ?_) | (with_reducible refine Ls.y_ge ?_) | (with_reducible refine Ls.y_eqI ?_) | (with_reducible refine Ls.y_eqS ?_) | (with_reducible refine Ls.y_neI ?_) | (with_reducible refine Ls.y_neS ?_) | (with_reducible refine Ls.y_isNo ?_) | (with_reducible refine Ls.y_isntNo ?_) | (with_reducible refine Ls.y_abs ?_) | (with_reducible refine Ls.y_max2 ?_) | (with_reducible refine Ls.y_min2 ?_) | (with_reducible refine Ls.y_intI ?_) | (with_reducible refine Ls.y_intB ?_) | ((with_reducible refine' Ls.y_ixL ?hS ?hA ?_); (case hS => first | assumption | exact L2.SqL.of (by assumption)); (case hA => rfl)) | ((with_reducible refine' Ls.y_ixT ?hS ?hA ?_); (case hS => first | assumption | exact L2.SqT.of (by assumption)); (case hA => rfl)) | ((with_reducible refine' Ls.y_mod ?hC ?_); (case hC => first | decide | omega)) | ((with_reducible refine' Ls.y_fdiv ?hC ?_); (case hC => first | decide | (constructor <;> omega))) | ((with_reducible refine' Ls.y_pow ?hC ?_); (case hC => exact ⟨by decide, by decide, by decide⟩)) | ((with_reducible refine' Ls.y_mul ?hC ?_); (case hC => first | exact .inr ⟨by decide, by decide⟩ | exact .inl ⟨by decide, by decide⟩ | exact .inr ⟨by omega, by omega⟩ | exact .inl ⟨by omega, by omega⟩)) | (with_reducible refine L2.iteT ?_) | (with_reducible refine L2.iteF ?_) | (with_reducible refine Ls.iteNF ?_) | (with_reducible refine Ls.iteNT ?_)))
local macro_rules | `(tactic| walk_at "rd") => `(tactic| (repeat walk_at "rd1"))

section
variable {P : Program} {w : World} {K : PySem.W.Frag} {mg : Str → Option Value} {base : Heap}
theorem ok_is_int (T : Tx K mg) : Cal P w K mg base 1 "is_int" s_is_int P_is_int (sp_isint K) := by
  refine T.d_is_int.ok sc_is_int (fun vs H Q E h => ?_) (fun f cdv A outer s H vs Q E hr h => ?_)
  · obtain ⟨v, d, rfl, _⟩ := h; rfl
  obtain ⟨v, d, rfl, hd, q⟩ := h
  refine ⟨_, PSs.nox (pss_one (ps_ret (pe_and (pe_callB call_isiU (by rfl) T.n_isinstance (by decide +kernel) (pa_cons (pv 0) (pa_cons (pe_bltn (v := .ty "int") (u := .type "int") (by rfl) T.n_int (by decide +kernel) rfl) pa_nil))) (pe_one (pe_not (pe_callB call_isiU (by rfl) T.n_isinstance (by decide +kernel) (pa_cons (pv 0) (pa_cons (pe_bltn (v := .ty "bool") (u := .type "bool") (by rfl) T.n_bool (by decide +kernel) rfl) pa_nil)))))))), ?_⟩
  walk_at "rd"
  cases d with
  | int i =>
    refine y_isi hd (b := true) rfl ?_
    walk_at "rd"
    refine y_isi hd (b := false) rfl ?_
    walk_at "rd"
    exact q
  | bool i =>
    refine y_isi hd (b := true) rfl ?_
    walk_at "rd"
    refine y_isi hd (b := true) rfl ?_
    walk_at "rd"
    exact q
  | none => exact y_isi hd (b := false) rfl (by walk_at "rd"; exact q)
  | str x => exact y_isi hd (b := false) rfl (by walk_at "rd"; exact q)
  | list x => exact y_isi hd (b := false) rfl (by walk_at "rd"; exact q)
  | tuple x => exact y_isi hd (b := false) rfl (by walk_at "rd"; exact q)
  | dict x => exact y_isi hd (b := false) rfl (by walk_at "rd"; exact q)
theorem ok_is_nested (T : Tx K mg) (C_is_int : Cal P w K mg base 1 "is_int" s_is_int P_is_int (sp_isint K)) : ∀ n, Cal P w K mg base (n + 2) "is_nested" s_is_nested P_is_nested (sp_nested K n)
  | 0 => (T.d_is_nested.never fun vs H Q E h => by obtain ⟨v, d, _, _, z, _⟩ := h; omega).up (by omega)
  | n + 1 => by
    have C_is_nested := ok_is_nested T C_is_int n
    refine T.d_is_nested.ok sc_is_nested (fun vs H Q E h => ?_) (fun f cdv A outer s H vs Q E hr h => ?_)
    · obtain ⟨v, d, rfl, _⟩ := h; rfl
    obtain ⟨v, d, rfl, hd, hn, q⟩ := h
    refine ⟨_, PSs.nox (pss_cons (ps_if (pt_val (pe_g C_is_int (hr.mono (by omega)) px0 (pa_cons (pv 0) pa_nil))) (pss_one (ps_ret pe_bl)) pss_nil)
      (pss_one (ps_ret (pe_and (pe_callB call_isiU (by rfl) T.n_isinstance (by decide +kernel) (pa_cons (pv 0) (pa_cons (pe_bltn (v := .ty "tuple") (u := .type "tuple") (by rfl) T.n_tuple (by decide +kernel) rfl) pa_nil))) (pe_and (pe_cmpR op_leU (pe_callB call_lenU (by rfl) T.n_len (by decide +kernel) (pa_cons (pv 0) pa_nil)) (pe_const T.c_MOST_ITEMS) (nomark _)) (pe_one (pe_callB (cr_all rfl) (by rfl) T.n_all (by decide +kernel) (pa_cons (pe_lc (own := [("item", 1)]) rfl sc_is_nested.nd (pi_seq (pv 0)) (blkOk_by (own := [("item", 1)]) (N := N_is_nested) (sc := defScope s_is_nested) (by decide +kernel)) (fun _ _ _ _ _ => (pg_name (i := 1) sc_is_nested.nd rfl (Or.inl rfl))) (fun _ _ _ _ _ => pts_nil) (fun _ _ _ _ _ => (pe_g C_is_nested (hr.mono (by omega)) px0 (pa_cons (pv 1) pa_nil)))) pa_nil)))))))), ?_⟩
    walk_at "rd"
    refine ⟨v, d, rfl, hd, ?_⟩
    cases d with
    | int i =>
      walk_at "rd"
      exact q H (Ex.refl H)
    | tuple ds =>
      walk_at "rd"
      refine y_isi hd (b := true) rfl ?_
      walk_at "rd"
      cases hd with | tup hS hA =>
      refine y_lenT hS ?_
      walk_at "rd"
      have hl := hA.length
      refine br (fun hle => ?_) fun hle => ?_
      · walk_at "rd"
        refine i_T hS ?_
        refine k_lcDt (fun d => .bl (nsD d)) hS hA (by omega) (fun x d H1 Q1 hm e hx hq => ?_) (fun x => rfl) fun D H2 nD e hD => ?_
        · walk_at "rd"
          exact ⟨x, d, rfl, hx, tdp_tup hn hm, hq⟩
        · walk_at "rd"
          refine y_all (bs := ds.map nsD) (.of (by rw [hD, List.map_map]; rfl)) ?_
          rw [← nsL_all]
          have z := q H2 e
          rw [nsD, decide_eq_true (by omega : ds.length ≤ 40), Bool.true_and] at z
          exact z
      · have z := q H (Ex.refl H)
        rw [nsD, decide_eq_false (by omega : ¬ ds.length ≤ 40), Bool.false_and] at z
        exact z
    | none => walk_at "rd"; exact y_isi hd (b := false) rfl (by walk_at "rd"; exact q H (Ex.refl H))
    | bool b => walk_at "rd"; exact y_isi hd (b := false) rfl (by walk_at "rd"; exact q H (Ex.refl H))
    | str x => walk_at "rd"; exact y_isi hd (b := false) rfl (by walk_at "rd"; exact q H (Ex.refl H))
    | list x => walk_at "rd"; exact y_isi hd (b := false) rfl (by walk_at "rd"; exact q H (Ex.refl H))
    | dict x => walk_at "rd"; exact y_isi hd (b := false) rfl (by walk_at "rd"; exact q H (Ex.refl H))
theorem ok_depth_of (T : Tx K mg) (C_is_int : Cal P w K mg base 1 "is_int" s_is_int P_is_int (sp_isint K)) : ∀ n, Cal P w K mg base (n + 2) "depth_of" s_depth_of P_depth_of (sp_depth K n)
  | 0 => (T.d_depth_of.never fun vs H Q E h => by obtain ⟨v, d, _, _, _, z, _⟩ := h; omega).up (by omega)
  | n + 1 => by
    have C_depth_of := ok_depth_of T C_is_int n
    refine T.d_depth_of.ok sc_depth_of (fun vs H Q E h => ?_) (fun f cdv A outer s H vs Q E hr h => ?_)
    · obtain ⟨v, d, rfl, _⟩ := h; rfl
    obtain ⟨v, d, rfl, hd, hs, hn, q⟩ := h
    refine ⟨_, PSs.nox (pss_one (ps_ret (pe_ifExp (pt_val (pe_g C_is_int (hr.mono (by omega)) px0 (pa_cons (pv 0) pa_nil))) pe_int (pe_op op_addU pe_int (pe_callBK (call_maxD rfl hr) (by rfl) T.n_max (by decide +kernel) (pa_cons (pe_lc (own := [("item", 1)]) rfl sc_depth_of.nd (pi_seq (pv 0)) (blkOk_by (own := [("item", 1)]) (N := N_depth_of) (sc := defScope s_depth_of) (by decide +kernel)) (fun _ _ _ _ _ => (pg_name (i := 1) sc_depth_of.nd rfl (Or.inl rfl))) (fun _ _ _ _ _ => pts_nil) (fun _ _ _ _ _ => (pe_g C_depth_of (hr.mono (by omega)) px0 (pa_cons (pv 1) pa_nil)))) pa_nil) (pk_cons pe_int pk_nil)))))), ?_⟩
    walk_at "rd"
    refine ⟨v, d, rfl, hd, ?_⟩
    cases d with
    | int i =>
      walk_at "rd"
      exact q H (Ex.refl H)
    | tuple ds =>
      walk_at "rd"
      cases hd with | tup hS hA =>
      rw [nsD, Bool.and_eq_true, decide_eq_true_eq] at hs
      have hl := hA.length
      refine i_T hS ?_
      refine k_lcDt (fun d => .int (tdp d : Nat)) hS hA (by omega) (fun x d H1 Q1 hm e hx hq => ?_) (fun x => rfl) fun D H2 nD e hD => ?_
      · walk_at "rd"
        exact ⟨x, d, rfl, hx, nsL_mem hs.2 hm, tdp_tup hn hm, hq⟩
      · walk_at "rd"
        refine y_maxD (ns := ds.map fun d => (tdp d : Int)) (.of (by rw [hD, List.map_map]; rfl)) fun m m0 m1 => ?_
        walk_at "rd"
        have z := q H2 e
        rw [tdpL_max m0 m1]
        rw [tdp] at z
        have e2 : ((1 + tdpL ds : Nat) : Int) = 1 + (tdpL ds : Int) := by omega
        rw [e2] at z
        exact z
    | none => simp [nsD] at hs
    | bool b => simp [nsD] at hs
    | str x => simp [nsD] at hs
    | list x => simp [nsD] at hs
    | dict x => simp [nsD] at hs
theorem ok_datum_size (T : Tx K mg) (C_is_int : Cal P w K mg base 1 "is_int" s_is_int P_is_int (sp_isint K)) : ∀ n, Cal P w K mg base (n + 2) "datum_size" s_datum_size P_datum_size (sp_dsize K n)
  | 0 => (T.d_datum_size.never fun vs H Q E h => by obtain ⟨v, d, _, _, _, _, z, _⟩ := h; omega).up (by omega)
  | n + 1 => by
    have C_datum_size := ok_datum_size T C_is_int n
    refine T.d_datum_size.ok sc_datum_size (fun vs H Q E h => ?_) (fun f cdv A outer s H vs Q E hr h => ?_)
    · obtain ⟨v, d, rfl, _⟩ := h; rfl
    obtain ⟨v, d, rfl, hd, hs, hm, hn, q⟩ := h
    refine ⟨_, PSs.nox (pss_cons (ps_if (pt_val (pe_g C_is_int (hr.mono (by omega)) px0 (pa_cons (pv 0) pa_nil))) (pss_one (ps_ret (pe_op op_addU (pe_callB call_lenU (by rfl) T.n_len (by decide +kernel) (pa_cons (pe_callTy call_strU (by rfl) T.n_str (by decide +kernel) (pa_cons (pe_callB call_absU (by rfl) T.n_abs (by decide +kernel) (pa_cons (pv 0) pa_nil)) pa_nil)) pa_nil)) (pe_callTy call_intU (by rfl) T.n_int (by decide +kernel) (pa_cons (pe_cmpR op_ltU (pv 0) pe_int (nomark _)) pa_nil))))) pss_nil)
      (pss_one (ps_ret (pe_op op_addU pe_int (pe_callB (cr_sum rfl) (by rfl) T.n_sum (by decide +kernel) (pa_cons (pe_lc (own := [("item", 1)]) rfl sc_datum_size.nd (pi_seq (pv 0)) (blkOk_by (own := [("item", 1)]) (N := N_datum_size) (sc := defScope s_datum_size) (by decide +kernel)) (fun _ _ _ _ _ => (pg_name (i := 1) sc_datum_size.nd rfl (Or.inl rfl))) (fun _ _ _ _ _ => pts_nil) (fun _ _ _ _ _ => (pe_g C_datum_size (hr.mono (by omega)) px0 (pa_cons (pv 1) pa_nil)))) pa_nil)))))), ?_⟩
    walk_at "rd"
    refine ⟨v, d, rfl, hd, ?_⟩
    cases d with
    | int i =>
      walk_at "rd"
      cases hd
      walk_at "rd"
      have hm' : i.natAbs.log2 < 1920 := by rw [smD, decide_eq_true_eq] at hm; exact hm
      refine y_str (by rw [abs_if]; exact hm') ?_
      walk_at "rd"
      refine y_lenS ?_ ?_
      · rw [abs_if, num_S, S_len]
        have := int_digits hm'
        exact Nat.le_trans this (by decide)
      walk_at "rd"
      exact q H (Ex.refl H)
    | tuple ds =>
      walk_at "rd"
      cases hd with | tup hS hA =>
      rw [nsD, Bool.and_eq_true, decide_eq_true_eq] at hs
      rw [smD] at hm
      have hl := hA.length
      refine i_T hS ?_
      refine k_lcDt (fun d => .int (szD d)) hS hA (by omega) (fun x d H1 Q1 hmm e hx hq => ?_) (fun x => rfl) fun D H2 nD e hD => ?_
      · walk_at "rd"
        exact ⟨x, d, rfl, hx, nsL_mem hs.2 hmm, smL_mem hm hmm, tdp_tup hn hmm, hq⟩
      · walk_at "rd"
        refine y_sum (ns := ds.map szD) (.of (by rw [hD, List.map_map]; rfl)) ?_
        walk_at "rd"
        have z := q H2 e
        rw [szD, szL_sum] at z
        exact z
    | none => simp [nsD] at hs
    | bool b => simp [nsD] at hs
    | str x => simp [nsD] at hs
    | list x => simp [nsD] at hs
    | dict x => simp [nsD] at hs
theorem ok_is_datum (T : Tx K mg) {n : Nat} (C_is_nested : Cal P w K mg base (n + 2) "is_nested" s_is_nested P_is_nested (sp_nested K n)) (C_depth_of : Cal P w K mg base (n + 2) "depth_of" s_depth_of P_depth_of (sp_depth K n)) (C_datum_size : Cal P w K mg base (n + 2) "datum_size" s_datum_size P_datum_size (sp_dsize K n)) :
    Cal P w K mg base (n + 3) "is_datum" s_is_datum P_is_datum (sp_isdatum K n) := by
  refine T.d_is_datum.ok sc_is_datum (fun vs H Q E h => ?_) (fun f cdv A outer s H vs Q E hr h => ?_)
  · obtain ⟨v, d, rfl, _⟩ := h; rfl
  obtain ⟨v, d, rfl, hd, hm, hn, q⟩ := h
  refine ⟨_, PSs.nox (pss_one (ps_ret (pe_and (pe_g C_is_nested (hr.mono (by omega)) px0 (pa_cons (pv 0) pa_nil)) (pe_and (pe_cmpR op_leU (pe_g C_depth_of (hr.mono (by omega)) px0 (pa_cons (pv 0) pa_nil)) (pe_const T.c_MOST_DEPTH) (nomark _)) (pe_one (pe_cmpR op_leU (pe_g C_datum_size (hr.mono (by omega)) px0 (pa_cons (pv 0) pa_nil)) (pe_const T.c_MOST_SIZE) (nomark _))))))), ?_⟩
  walk_at "rd"
  refine ⟨v, d, rfl, hd, hn, fun H1 e1 => ?_⟩
  walk_at "rd"
  unfold isD at q
  refine brB (fun h1 => ?_) fun h1 => ?_
  · walk_at "rd"
    refine ⟨v, d, rfl, hd.mono e1, h1, hn, fun H2 e2 => ?_⟩
    walk_at "rd"
    refine br (fun h2 => ?_) fun h2 => ?_
    · walk_at "rd"
      refine ⟨v, d, rfl, hd.mono (e1.trans e2), h1, hm, hn, fun H3 e3 => ?_⟩
      walk_at "rd"
      have z := q H3 (e1.trans (e2.trans e3))
      rw [h1, decide_eq_true h2, Bool.true_and, Bool.true_and] at z
      exact z
    · have z := q H2 (e1.trans e2)
      rw [h1, decide_eq_false h2, Bool.false_and, Bool.and_false] at z
      exact z
  · have z := q H1 e1
    rw [h1, Bool.false_and] at z
    exact z
theorem ok_is_fault (T : Tx K mg) : Cal P w K mg base 1 "is_fault" s_is_fault P_is_fault (sp_isfault K) := by
  refine T.d_is_fault.ok sc_is_fault (fun vs H Q E h => ?_) (fun f cdv A outer s H vs Q E hr h => ?_)
  · obtain ⟨v, d, rfl, _⟩ := h; rfl
  obtain ⟨v, d, rfl, hd, q⟩ := h
  refine ⟨_, PSs.nox (pss_one (ps_ret (pe_and (pe_callB call_isiU (by rfl) T.n_isinstance (by decide +kernel) (pa_cons (pv 0) (pa_cons (pe_bltn (v := .ty "str") (u := .type "str") (by rfl) T.n_str (by decide +kernel) rfl) pa_nil))) (pe_one (pe_cmpR (op_eqU hr) (pv 0) (pe_const T.c_FAULT) (nomark _)))))), ?_⟩
  walk_at "rd"
  cases d with
  | str x =>
    refine y_isi hd (b := true) rfl ?_
    walk_at "rd"
    cases hd
    walk_at "rd"
    exact q
  | int i => exact y_isi hd (b := false) rfl (by walk_at "rd"; exact q)
  | bool i => exact y_isi hd (b := false) rfl (by walk_at "rd"; exact q)
  | none => exact y_isi hd (b := false) rfl (by walk_at "rd"; exact q)
  | list x => exact y_isi hd (b := false) rfl (by walk_at "rd"; exact q)
  | tuple x => exact y_isi hd (b := false) rfl (by walk_at "rd"; exact q)
  | dict x => exact y_isi hd (b := false) rfl (by walk_at "rd"; exact q)
theorem ok_is_value (T : Tx K mg) {n : Nat} (C_is_fault : Cal P w K mg base 1 "is_fault" s_is_fault P_is_fault (sp_isfault K)) (C_is_datum : Cal P w K mg base (n + 3) "is_datum" s_is_datum P_is_datum (sp_isdatum K n)) :
    Cal P w K mg base (n + 4) "is_value" s_is_value P_is_value (sp_isvalue K n) := by
  refine T.d_is_value.ok sc_is_value (fun vs H Q E h => ?_) (fun f cdv A outer s H vs Q E hr h => ?_)
  · obtain ⟨v, d, rfl, _⟩ := h; rfl
  obtain ⟨v, d, rfl, hd, hm, hn, q⟩ := h
  refine ⟨_, PSs.nox (pss_one (ps_ret (pe_or (pe_g C_is_fault (hr.mono (by omega)) px0 (pa_cons (pv 0) pa_nil)) (pe_one (pe_g C_is_datum (hr.mono (by omega)) px0 (pa_cons (pv 0) pa_nil)))))), ?_⟩
  walk_at "rd"
  refine ⟨v, d, rfl, hd, ?_⟩
  walk_at "rd"
  refine brB (fun h1 => ?_) fun h1 => ?_
  · have z := q H (Ex.refl H)
    rw [h1, Bool.true_or] at z
    exact z
  · walk_at "rd"
    refine ⟨v, d, rfl, hd, hm, hn, fun H1 e1 => ?_⟩
    walk_at "rd"
    have z := q H1 e1
    rw [h1, Bool.false_or] at z
    exact z
end

end My
end

section
set_option Elab.async false
set_option linter.all false
set_option maxRecDepth 100000
set_option maxHeartbeats 4000000
namespace My
open PySem PySem.Spec PyProof.Rows L2 Ls SX
local macro_rules | `(tactic| walk_at "rd1") => `(tactic| (first | ((with_reducible refine' Ls.r_var ?hV ?_); (case hV => exact rfl)) | (with_reducible refine Ls.r_c ?_) | (with_reducible refine Ls.r_op ?_) | (with_reducible refine Ls.r_un ?_) | (with_reducible refine Ls.r_nil ?_) | (with_reducible refine Ls.r_cons ?_) | (with_reducible refine Ls.r_cb ?_) | (with_reducible refine Ls.r_ckw ?_) | (with_reducible refine Ls.r_cal ?_) | (with_reducible refine Ls.r_calK ?_) | (with_reducible refine Ls.r_tup ?_) | (with_reducible refine Ls.r_lst ?_) | (with_reducible refine Ls.r_if ?_) | (with_reducible refine Ls.r_andV ?_) | (with_reducible refine Ls.r_orV ?_) | (with_reducible refine Ls.r_notV ?_) | (with_reducible refine Ls.r_chain ?_) | (with_reducible refine Ls.r_sl ?_) | (with_reducible refine Ls.r_nopart ?_) | (with_reducible refine Ls.r_part ?_) | (with_reducible refine Ls.k_part ?_) | (with_reducible refine Ls.r_test ?_) | (with_reducible refine Ls.r_B ?_) | (with_reducible refine Ls.k_B ?_) | (with_reducible refine Ls.r_not ?_) | (with_reducible refine Ls.r_and ?_) | (with_reducible refine Ls.r_or ?_) | (with_reducible refine Ls.r_seq ?_) | (with_reducible refine Ls.r_ifS ?_) | (with_reducible refine Ls.r_next ?_) | (with_reducible refine Ls.r_brk ?_) | (with_reducible refine Ls.r_cont ?_) | (with_reducible refine Ls.r_ret ?_) | (with_reducible refine Ls.r_retN ?_) | (with_reducible refine Ls.r_drop ?_) | (with_reducible refine Ls.r_asg ?_) | (with_reducible refine Ls.r_par ?_) | (with_reducible refine Ls.k_par ?_) | ((with_reducible refine' Ls.r_aug ?hV ?_); (case hV => exact rfl)) | (with_reducible refine Ls.y_ip ?_) | (with_reducible refine Ls.g_name ?_) | (with_reducible refine Ls.g_nil ?_) | (with_reducible refine Ls.g_cons ?_) | (with_reducible refine Ls.g_sub ?_) | (with_reducible refine Ls.e_nx ?_) | (with_reducible refine Ls.e_rt ?_) | (with_reducible refine Ls.e_bk ?_) | (with_reducible refine Ls.e_ct ?_) | (with_reducible refine Ls.r_for ?_) | (with_reducible refine Ls.i_seq ?_) | (with_reducible refine Ls.i_enum ?_) | (with_reducible refine Ls.i_rng1 ?_) | (with_reducible refine Ls.r_m1 ?_) | (with_reducible refine Ls.r_m0 ?_) | (with_reducible refine Ls.k_isS ?_) | (with_reducible refine Ls.r_bm ?_) | (with_reducible refine Ls.r_lc ?_) | (with_reducible refine Ls.y_add ?_) | (with_reducible refine Ls.y_sub ?_) | (with_reducible refine Ls.y_neg ?_) | (with_reducible refine Ls.y_lt ?_) | (with_reducible refine Ls.y_le ?_) | (with_reducible refine Ls.y_gt ?_) | (with_reducible refine Ls.y_ge ?_) | (with_reducible refine Ls.y_eqI ?_) | (with_reducible refine Ls.y_eqS ?_) | (with_reducible refine Ls.y_neI ?_) | (with_reducible refine Ls.y_neS ?_) | (with_reducible refine Ls.y_isNo ?_) | (with_reducible refine Ls.y_isntNo ?_) | (with_reducible refine Ls.y_abs ?_) | (with_reducible refine Ls.y_max2 ?_) | (with_reducible refine Ls.y_min2 ?_) | (with_reducible refine Ls.y_intI ?_) | (with_reducible refine Ls.y_intB ?_) | ((with_reducible refine' Ls.y_ixL ?hS ?hA ?_); (case hS => first | assumption | exact L2.SqL.of (by assumption)); (case hA => rfl)) | ((with_reducible refine' Ls.y_ixT ?hS ?hA ?_); (case hS => first | assumption | exact L2.SqT.of (by assumption)); (case hA => rfl)) | ((with_reducible refine' Ls.y_mod ?hC ?_); (case hC => first | decide | omega)) | ((with_reducible refine' Ls.y_fdiv ?hC ?_); (case hC => first | decide | (constructor <;> omega))) | ((with_reducible refine' Ls.y_pow ?hC ?_); (case hC => exact ⟨by decide, by decide, by decide⟩)) | ((with_reducible refine' Ls.y_mul ?hC ?_); (case hC => first | exact .inr ⟨by decide, by decide⟩ | exact .inl ⟨by decide, by decide⟩ | exact .inr ⟨by omega, by omega⟩ | exact .inl ⟨by omega, by omega⟩)) | (with_reducible refine L2.iteT ?_) | (with_reducible refine L2.iteF ?_) | (with_reducible refine Ls.iteNF ?_) | (with_reducible refine Ls.iteNT ?_)))
local macro_rules | `(tactic| walk_at "rd") => `(tactic| (repeat walk_at "rd1"))

section
variable {P : Program} {w : World} {K : PySem.W.Frag} {mg : Str → Option Value} {base : Heap}
theorem ok_check_value (T : Tx K mg) {n : Nat} (C_is_value : Cal P w K mg base (n + 4) "is_value" s_is_value P_is_value (sp_isvalue K n)) :
    Cal P w K mg base (n + 5) "check_value" s_check_value P_check_value (sp_check K n) := by
  refine T.d_check_value.ok sc_check_value (fun vs H Q E h => ?_) (fun f cdv A outer s H vs Q E hr h => ?_)
  · obtain ⟨v, d, rfl, _⟩ := h; rfl
  obtain ⟨v, d, rfl, hd, ⟨hm, hn, ho⟩, q⟩ := h
  refine ⟨_, PSs.nox (pss_one (ps_if (pt_not (pt_val (pe_g C_is_value (hr.mono (by omega)) px0 (pa_cons (pv 0) pa_nil)))) (pss_one ps_never) pss_nil)), ?_⟩
  walk_at "rd"
  refine ⟨v, d, rfl, hd, hm, hn, fun H1 e1 => ?_⟩
  rw [ho]
  walk_at "rd"
  exact q H1 e1
theorem ok_size_of (T : Tx K mg) {n : Nat} (C_check_value : Cal P w K mg base (n + 5) "check_value" s_check_value P_check_value (sp_check K n)) (C_is_fault : Cal P w K mg base 1 "is_fault" s_is_fault P_is_fault (sp_isfault K)) (C_datum_size : Cal P w K mg base (n + 2) "datum_size" s_datum_size P_datum_size (sp_dsize K n)) :
    Cal P w K mg base (n + 6) "size_of" s_size_of P_size_of (sp_sizeof K n) := by
  refine T.d_size_of.ok sc_size_of (fun vs H Q E h => ?_) (fun f cdv A outer s H vs Q E hr h => ?_)
  · obtain ⟨v, d, rfl, _⟩ := h; rfl
  obtain ⟨v, d, rfl, hd, ho, q⟩ := h
  refine ⟨_, PSs.nox (pss_cons (ps_expr (pe_g C_check_value (hr.mono (by omega)) px0 (pa_cons (pv 0) pa_nil)))
      (pss_one (ps_ret (pe_ifExp (pt_val (pe_g C_is_fault (hr.mono (by omega)) px0 (pa_cons (pv 0) pa_nil))) pe_int (pe_g C_datum_size (hr.mono (by omega)) px0 (pa_cons (pv 0) pa_nil)))))), ?_⟩
  walk_at "rd"
  refine ⟨v, d, rfl, hd, ho, fun H1 e1 => ?_⟩
  walk_at "rd"
  refine ⟨v, d, rfl, hd.mono e1, ?_⟩
  walk_at "rd"
  refine brB (fun hf => ?_) fun hf => ?_
  · walk_at "rd"
    have z := q H1 e1
    rw [isF_sz hf] at z
    exact z
  · walk_at "rd"
    exact ⟨v, d, rfl, hd.mono e1, (isD_of ho hf).1, ho.1, ho.2.1, fun H2 e2 => q H2 (e1.trans e2)⟩
theorem ok_datum_text (T : Tx K mg) (C_is_int : Cal P w K mg base 1 "is_int" s_is_int P_is_int (sp_isint K)) : ∀ n, Cal P w K mg base (n + 2) "datum_text" s_datum_text P_datum_text (sp_dtext K n)
  | 0 => (T.d_datum_text.never fun vs H Q E h => by obtain ⟨v, d, _, _, _, _, _, z, _⟩ := h; omega).up (by omega)
  | n + 1 => by
    have C_datum_text := ok_datum_text T C_is_int n
    refine T.d_datum_text.ok sc_datum_text (fun vs H Q E h => ?_) (fun f cdv A outer s H vs Q E hr h => ?_)
    · obtain ⟨v, d, rfl, _⟩ := h; rfl
    obtain ⟨v, d, rfl, hd, hs, hm, hz, hn, q⟩ := h
    refine ⟨_, PSs.nox (pss_cons (ps_if (pt_val (pe_g C_is_int (hr.mono (by omega)) px0 (pa_cons (pv 0) pa_nil))) (pss_one (ps_ret (pe_callTy call_strU (by rfl) T.n_str (by decide +kernel) (pa_cons (pv 0) pa_nil)))) pss_nil)
      (pss_one (ps_ret (pe_op op_addU (pe_op op_addU pe_str (pe_joinU pe_str (pe_lc (own := [("item", 1)]) rfl sc_datum_text.nd (pi_seq (pv 0)) (blkOk_by (own := [("item", 1)]) (N := N_datum_text) (sc := defScope s_datum_text) (by decide +kernel)) (fun _ _ _ _ _ => (pg_name (i := 1) sc_datum_text.nd rfl (Or.inl rfl))) (fun _ _ _ _ _ => pts_nil) (fun _ _ _ _ _ => (pe_g C_datum_text (hr.mono (by omega)) px0 (pa_cons (pv 1) pa_nil)))))) pe_str)))), ?_⟩
    walk_at "rd"
    refine ⟨v, d, rfl, hd, ?_⟩
    cases d with
    | int i =>
      walk_at "rd"
      cases hd
      walk_at "rd"
      refine y_strC (by rw [smD, decide_eq_true_eq] at hm; exact hm) ?_
      exact q H (Ex.refl H)
    | tuple ds =>
      walk_at "rd"
      cases hd with | tup hS hA =>
      rw [nsD, Bool.and_eq_true, decide_eq_true_eq] at hs
      rw [smD] at hm
      rw [szD] at hz
      have hl := hA.length
      refine i_T hS ?_
      have hlen := txL_len ds hs.2
      have hsum := txL_sum hs.2
      refine k_lcDt (fun d => .str (S (txD d))) hS hA (by omega) (fun x d H1 Q1 hmm e hx hq => ?_) (fun x => rfl) fun D H2 nD e hD => ?_
      · walk_at "rd"
        exact ⟨x, d, rfl, hx, nsL_mem hs.2 hmm, smL_mem hm hmm, by have := szL_mem hs.2 hmm; omega, tdp_tup hn hmm, hq⟩
      · walk_at "rd"
        rw [q_comma]
        refine y_join (ys := ds.map fun d => S (txD d)) (.of (by rw [hD, List.map_map]; rfl)) ?_ ?_
        · rw [lens_tx, List.length_map, S_len]
          show _ + ds.length * 1 ≤ _
          omega
        rw [join_tx, q_open, q_close]
        refine y_addC (by have h2 : sizeLine = 16777216 := rfl; simp only [List.length_singleton]; omega) ?_
        refine y_addC (by have h2 : sizeLine = 16777216 := rfl; simp only [List.length_singleton, List.length_append]; omega) ?_
        exact q H2 e
    | none => simp [nsD] at hs
    | bool b => simp [nsD] at hs
    | str x => simp [nsD] at hs
    | list x => simp [nsD] at hs
    | dict x => simp [nsD] at hs
theorem ok_format_value (T : Tx K mg) {n : Nat} (C_check_value : Cal P w K mg base (n + 5) "check_value" s_check_value P_check_value (sp_check K n)) (C_is_fault : Cal P w K mg base 1 "is_fault" s_is_fault P_is_fault (sp_isfault K)) (C_datum_text : Cal P w K mg base (n + 2) "datum_text" s_datum_text P_datum_text (sp_dtext K n)) :
    Cal P w K mg base (n + 6) "format_value" s_format_value P_format_value (sp_format K n) := by
  refine T.d_format_value.ok sc_format_value (fun vs H Q E h => ?_) (fun f cdv A outer s H vs Q E hr h => ?_)
  · obtain ⟨v, d, rfl, _⟩ := h; rfl
  obtain ⟨v, d, rfl, hd, ho, q⟩ := h
  refine ⟨_, PSs.nox (pss_cons (ps_expr (pe_g C_check_value (hr.mono (by omega)) px0 (pa_cons (pv 0) pa_nil)))
      (pss_one (ps_ret (pe_ifExp (pt_val (pe_g C_is_fault (hr.mono (by omega)) px0 (pa_cons (pv 0) pa_nil))) (pe_const T.c_FAULT) (pe_g C_datum_text (hr.mono (by omega)) px0 (pa_cons (pv 0) pa_nil)))))), ?_⟩
  walk_at "rd"
  refine ⟨v, d, rfl, hd, ho, fun H1 e1 => ?_⟩
  walk_at "rd"
  refine ⟨v, d, rfl, hd.mono e1, ?_⟩
  walk_at "rd"
  refine brB (fun hf => ?_) fun hf => ?_
  · walk_at "rd"
    have z := q H1 e1
    rw [isF_tx hf, ← q_fault] at z
    exact z
  · walk_at "rd"
    exact ⟨v, d, rfl, hd.mono e1, (isD_of ho hf).1, ho.1, (isD_of ho hf).2.2, ho.2.1, fun H2 e2 => q H2 (e1.trans e2)⟩
end

end My
end

section
set_option Elab.async false
set_option linter.all false
set_option maxRecDepth 100000
set_option maxHeartbeats 4000000
namespace My
open PySem PySem.Spec PyProof.Rows L2 Ls SX
local macro_rules | `(tactic| walk_at "rd1") => `(tactic| (first | ((with_reducible refine' Ls.r_var ?hV ?_); (case hV => exact rfl)) | (with_reducible refine Ls.r_c ?_) | (with_reducible refine Ls.r_op ?_) | (with_reducible refine Ls.r_un ?_) | (with_reducible refine Ls.r_nil ?_) | (with_reducible refine Ls.r_cons ?_) | (with_reducible refine Ls.r_cb ?_) | (with_reducible refine Ls.r_ckw ?_) | (with_reducible refine Ls.r_cal ?_) | (with_reducible refine Ls.r_calK ?_) | (with_reducible refine Ls.r_tup ?_) | (with_reducible refine Ls.r_lst ?_) | (with_reducible refine Ls.r_if ?_) | (with_reducible refine Ls.r_andV ?_) | (with_reducible refine Ls.r_orV ?_) | (with_reducible refine Ls.r_notV ?_) | (with_reducible refine Ls.r_chain ?_) | (with_reducible refine Ls.r_sl ?_) | (with_reducible refine Ls.r_nopart ?_) | (with_reducible refine Ls.r_part ?_) | (with_reducible refine Ls.k_part ?_) | (with_reducible refine Ls.r_test ?_) | (with_reducible refine Ls.r_B ?_) | (with_reducible refine Ls.k_B ?_) | (with_reducible refine Ls.r_not ?_) | (with_reducible refine Ls.r_and ?_) | (with_reducible refine Ls.r_or ?_) | (with_reducible refine Ls.r_seq ?_) | (with_reducible refine Ls.r_ifS ?_) | (with_reducible refine Ls.r_next ?_) | (with_reducible refine Ls.r_brk ?_) | (with_reducible refine Ls.r_cont ?_) | (with_reducible refine Ls.r_ret ?_) | (with_reducible refine Ls.r_retN ?_) | (with_reducible refine Ls.r_drop ?_) | (with_reducible refine Ls.r_asg ?_) | (with_reducible refine Ls.r_par ?_) | (with_reducible refine Ls.k_par ?_) | ((with_reducible refine' Ls.r_aug ?hV ?_); (case hV => exact rfl)) | (with_reducible refine Ls.y_ip ?_) | (with_reducible refine Ls.g_name ?_) | (with_reducible refine Ls.g_nil ?_) | (with_reducible refine Ls.g_cons ?_) | (with_reducible refine Ls.g_sub ?_) | (with_reducible refine Ls.e_nx ?_) | (with_reducible refine Ls.e_rt ?_) | (with_reducible refine Ls.e_bk ?_) | (with_reducible refine Ls.e_ct ?_) | (with_reducible refine Ls.r_for ?_) | (with_reducible refine Ls.i_seq ?_) | (with_reducible refine Ls.i_enum ?_) | (with_reducible refine Ls.i_rng1 ?_) | (with_reducible refine Ls.r_m1 ?_) | (with_reducible refine Ls.r_m0 ?_) | (with_reducible refine Ls.k_isS ?_) | (with_reducible refine Ls.r_bm ?_) | (with_reducible refine Ls.r_lc ?_) | (with_reducible refine Ls.y_add ?_) | (with_reducible refine Ls.y_sub ?_) | (with_reducible refine Ls.y_neg ?_) | (with_reducible refine Ls.y_lt ?_) | (with_reducible refine Ls.y_le ?_) | (with_reducible refine Ls.y_gt ?_) | (with_reducible refine Ls.y_ge ?_) | (with_reducible refine Ls.y_eqI ?_) | (with_reducible refine Ls.y_eqS ?_) | (with_reducible refine Ls.y_neI ?_) | (with_reducible refine Ls.y_neS ?_) | (with_reducible refine Ls.y_isNo ?_) | (with_reducible refine Ls.y_isntNo ?_) | (with_reducible refine Ls.y_abs ?_) | (with_reducible refine Ls.y_max2 ?_) | (with_reducible refine Ls.y_min2 ?_) | (with_reducible refine Ls.y_intI ?_) | (with_reducible refine Ls.y_intB ?_) | ((with_reducible refine' Ls.y_ixL ?hS ?hA ?_); (case hS => first | assumption | exact L2.SqL.of (by assumption)); (case hA => rfl)) | ((with_reducible refine' Ls.y_ixT ?hS ?hA ?_); (case hS => first | assumption | exact L2.SqT.of (by assumption)); (case hA => rfl)) | ((with_reducible refine' Ls.y_mod ?hC ?_); (case hC => first | decide | omega)) | ((with_reducible refine' Ls.y_fdiv ?hC ?_); (case hC => first | decide | (constructor <;> omega))) | ((with_reducible refine' Ls.y_pow ?hC ?_); (case hC => exact ⟨by decide, by decide, by decide⟩)) | ((with_reducible refine' Ls.y_mul ?hC ?_); (case hC => first | exact .inr ⟨by decide, by decide⟩ | exact .inl ⟨by decide, by decide⟩ | exact .inr ⟨by omega, by omega⟩ | exact .inl ⟨by omega, by omega⟩)) | (with_reducible refine L2.iteT ?_) | (with_reducible refine L2.iteF ?_) | (with_reducible refine Ls.iteNF ?_) | (with_reducible refine Ls.iteNT ?_)))
local macro_rules | `(tactic| walk_at "rd") => `(tactic| (repeat walk_at "rd1"))

section
variable {P : Program} {w : World} {K : PySem.W.Frag} {mg : Str → Option Value} {base : Heap}
theorem ok_read_integer (T : Tx K mg) : Cal P w K mg base 1 "read_integer" s_read_integer P_read_integer sp_rint := by
  refine T.d_read_integer.ok sc_read_integer (fun vs H Q E h => ?_) (fun f cdv A outer s H vs Q E hr h => ?_)
  · obtain ⟨p, r, i, rfl, _⟩ := h; rfl
  obtain ⟨p, r, i, rfl, hz, hi, hr', q⟩ := h
  refine ⟨_, PSs.nox (pss_cons (ps_set (i := 2) sc_read_integer.nd rfl (by first | exact .inl rfl | exact .inr rfl) (pe_op op_addU (pv 1) (pe_callTy call_intU (by rfl) T.n_int (by decide +kernel) (pa_cons (pe_cmpR (op_eqU hr) (pe_slice sl_U (pv 0) (po_some (pv 1)) (po_some (pe_op op_addU (pv 1) pe_int))) pe_str (nomark _)) pa_nil))))
      (pss_cons (ps_set (i := 3) sc_read_integer.nd rfl (by first | exact .inl rfl | exact .inr rfl) (pv 2))
      (pss_cons (ps_while PassesOwn.never (PW.pt (pw_and (pt_cmpR op_ltU (pv 3) (pe_callB call_lenU (by rfl) T.n_len (by decide +kernel) (pa_cons (pv 0) pa_nil)) (nomark _)) (pw_and1 (pt_cmpR op_inU (pe_ix ix_seq (pv 0) (pv 3) (fun _ _ => rfl)) (pe_const T.c_DIGITS) (by rfl))))) (pss_one (ps_aug (i := 3) sc_read_integer.nd rfl (by first | exact .inl rfl | exact .inr rfl) pe_int ip_add)))
      (pss_cons (ps_set (i := 4) sc_read_integer.nd rfl (by first | exact .inl rfl | exact .inr rfl) (pe_slice sl_U (pv 0) (po_some (pv 2)) (po_some (pv 3))))
      (pss_cons (ps_if (PW.pt (pw_or (pt_cmpR (op_eqU hr) (pv 4) pe_str (nomark _)) (pw_or (pt_cmpR op_gtU (pe_callB call_lenU (by rfl) T.n_len (by decide +kernel) (pa_cons (pv 4) pa_nil)) (pe_const T.c_MOST_SIZE) (nomark _)) (pw_or1 (PW.pt (pw_and (pt_cmpR (op_eqU hr) (pe_ix ix_seq (pv 4) pe_int (fun _ _ => rfl)) pe_str (nomark _)) (pw_and1 (PW.pt (pw_or (pt_cmpR op_gtU (pe_callB call_lenU (by rfl) T.n_len (by decide +kernel) (pa_cons (pv 4) pa_nil)) pe_int (nomark _)) (pw_or1 (pt_cmpR op_gtU (pv 2) (pv 1) (nomark _)))))))))))) (pss_one ps_never) pss_nil)
      (pss_one (ps_ret (pe_tup (pa_cons (pe_callTy call_intU (by rfl) T.n_int (by decide +kernel) (pa_cons (pe_slice sl_U (pv 0) (po_some (pv 1)) (po_some (pv 3))) pa_nil)) (pa_cons (pv 3) pa_nil)))))))))), ?_⟩
  have h2 : sizeLine = 16777216 := rfl
  have hdig := int_digits hi
  obtain ⟨c, tl, ec, c1, c2, c0⟩ := numL_head i.natAbs
  -- sign and digits apart
  obtain ⟨sg, hsg⟩ : ∃ sg : List Nat, intL i = sg ++ TL.numL i.natAbs ∧ sg.length = (if i < 0 then 1 else 0) ∧ (decide ((([] : List Nat) ++ (intL i ++ r)).take 1 = [45]) = decide (i < 0)) := by
    unfold intL
    by_cases hn : i < 0
    · exact ⟨[45], by rw [if_pos hn]; rfl, by rw [if_pos hn]; rfl, by rw [if_pos hn, decide_eq_true hn]; rfl⟩
    · refine ⟨[], by rw [if_neg hn]; rfl, by rw [if_neg hn]; rfl, ?_⟩
      rw [if_neg hn, decide_eq_false hn, ec]
      refine decide_eq_false fun z => ?_
      have : c = 45 := by simpa using z
      omega
  obtain ⟨e1, e2, e3⟩ := hsg
  have el : p ++ (intL i ++ r) = (p ++ sg) ++ (TL.numL i.natAbs ++ r) := by rw [e1]; simp
  have hlen : (intL i).length = sg.length + (TL.numL i.natAbs).length := by rw [e1, List.length_append]
  walk_at "rd"
  refine y_cut (a := p.length) (b := p.length + 1) (by omega) rfl (by omega) ?_
  walk_at "rd"
  rw [q_minus, S_dec, List.drop_left, show p.length + 1 - p.length = 1 by omega]
  rw [List.nil_append] at e3
  rw [e3]
  have ef : (p.length : Int) + (if decide (i < 0) = true then 1 else 0) = ((p.length + sg.length : Nat) : Int) := by
    rw [e2]
    by_cases hn : i < 0
    · rw [decide_eq_true hn, if_pos rfl, if_pos hn]; omega
    · rw [decide_eq_false hn, if_neg (by decide), if_neg hn]; omega
  rw [ef]
  walk_at "rd"
  -- the text, by where its digits stand
  generalize hF : p.length + sg.length = F
  have hF2 : (p ++ sg).length = F := by rw [List.length_append]; exact hF
  generalize hT : p ++ (intL i ++ r) = tx at *
  generalize hD : TL.numL i.natAbs = ds at *
  have at_ : ∀ j, tx[F + j]? = (ds ++ r)[j]? := fun j => by rw [el, ← hF2, List.getElem?_append_right (Nat.le_add_right _ _), Nat.add_sub_cancel_left]
  have htl : tx.length = F + (ds.length + r.length) := by rw [el, List.length_append, hF2, List.length_append]
  refine k_while (m0 := ds.length) (fun m σ' H' => H' = H ∧ ∃ j, m + j = ds.length ∧ σ' = [some (.str (S tx)), some (.int (p.length : Nat)), some (.int (F : Nat)), some (.int ((F + j : Nat) : Int)), none]) ⟨rfl, 0, rfl, rfl⟩ ?_
  rintro m σ' H' ⟨rfl, j, hj, rfl⟩
  walk_at "rd"
  refine y_lenC (by omega) ?_
  walk_at "rd"
  by_cases hm : m = 0
  · have hjl : j = ds.length := by omega
    subst hjl
    have hds : ds ≠ [] := by rw [ec]; exact List.cons_ne_nil _ _
    by_cases hr0 : F + ds.length < tx.length
    case' neg => refine ifN (by omega) ?_
    case' pos =>
      refine ifY (by omega) ?_
      have hr1 : 0 < r.length := by omega
      have hget : tx[F + ds.length]? = some r[0] := by rw [at_, List.getElem?_append_right (Nat.le_refl _), Nat.sub_self, List.getElem?_eq_getElem hr1]
      walk_at "rd"
      refine y_ixC (by omega) rfl hget ?_
      walk_at "rd"
      rw [q_digits]
      refine y_inC ?_
      walk_at "rd"
      have hdg := hr' r[0] (by rw [List.head?_eq_getElem?, List.getElem?_eq_getElem hr1])
      refine ifN (by simp only [List.mem_cons, List.not_mem_nil, or_false]; omega) ?_
    all_goals
      walk_at "rd"
      refine y_cut (a := F) (b := F + ds.length) (by omega) rfl rfl ?_
      have ew : (tx.drop F).take (F + ds.length - F) = ds := by
        rw [el, ← hF2, List.drop_left, Nat.add_sub_cancel_left]
        exact List.take_left
      rw [ew]
      walk_at "rd"
      rw [q_empty, S_dec]
      refine ifN hds ?_
      walk_at "rd"
      refine y_lenC (by omega) ?_
      walk_at "rd"
      refine ifN (by omega) ?_
      walk_at "rd"
      refine y_ixC (a := 0) (c := c) (by omega) rfl (by rw [ec]; rfl) ?_
      walk_at "rd"
      rw [q_zero, S_dec]
      have goal2 : ∀ {A B : Prop}, (c ≠ 48 → B) → (c = 48 → A) → (if decide ([c] = [48]) = true then A else B) := fun hb ha => br (fun z => ha (by simpa using z)) fun z => hb fun z2 => z (by rw [z2])
      refine goal2 (fun hc => ?_) fun hc => ?_
      rotate_left
      focus
        have hds1 : ds = [48] := by rw [ec, c0 hc, hc]
        have hi0 : i.natAbs = 0 := by
          have v := congrArg PySem.NumText.digitsVal (hD.trans hds1)
          rw [TL.numL_val] at v
          rw [v]
          decide
        have hF0 : F = p.length := by
          rw [if_neg (by omega)] at e2
          omega
        walk_at "rd"
        refine y_lenC (by omega) ?_
        walk_at "rd"
        refine ifN (by rw [hds1]; decide) ?_
        walk_at "rd"
        refine ifN (by omega) ?_
      all_goals
        walk_at "rd"
        refine y_cut (a := p.length) (b := F + ds.length) (by omega) rfl rfl ?_
        have ei : (tx.drop p.length).take (F + ds.length - p.length) = intL i := by
          rw [← hT, List.drop_left, show F + ds.length - p.length = (intL i).length by omega]
          exact List.take_left
        rw [ei]
        walk_at "rd"
        refine y_intC (int_back (by omega)) (by omega) ?_
        walk_at "rd"
        refine k_tup fun t H2 nt e4 ht => ?_
        exact q t H2 e4 (by rw [ht, show F + ds.length = p.length + (intL i).length by omega])
  · have hlt : F + j < tx.length := by omega
    refine ifY (by omega) ?_
    have hjd : j < ds.length := by omega
    have hget : tx[F + j]? = some ds[j] := by rw [at_, List.getElem?_append_left hjd, List.getElem?_eq_getElem hjd]
    walk_at "rd"
    refine y_ixC (by omega) rfl hget ?_
    walk_at "rd"
    rw [q_digits]
    refine y_inC ?_
    walk_at "rd"
    have hdg : 48 ≤ ds[j] ∧ ds[j] ≤ 57 := by
      have := TL.numL_digits i.natAbs ds[j] (by rw [hD]; exact List.getElem_mem hjd)
      exact this
    refine ifY (by simp only [List.mem_cons, List.not_mem_nil, or_false]; omega) ?_
    refine k_body ?_
    walk_at "rd"
    exact ⟨m - 1, by omega, rfl, j + 1, by omega, by
      show _ = _
      rfl⟩
end

end My
end

section
set_option Elab.async false
set_option linter.all false
set_option maxRecDepth 100000
set_option maxHeartbeats 4000000
namespace My
open PySem PySem.Spec PyProof.Rows L2 Ls SX
local macro_rules | `(tactic| walk_at "rd1") => `(tactic| (first | ((with_reducible refine' Ls.r_var ?hV ?_); (case hV => exact rfl)) | (with_reducible refine Ls.r_c ?_) | (with_reducible refine Ls.r_op ?_) | (with_reducible refine Ls.r_un ?_) | (with_reducible refine Ls.r_nil ?_) | (with_reducible refine Ls.r_cons ?_) | (with_reducible refine Ls.r_cb ?_) | (with_reducible refine Ls.r_ckw ?_) | (with_reducible refine Ls.r_cal ?_) | (with_reducible refine Ls.r_calK ?_) | (with_reducible refine Ls.r_tup ?_) | (with_reducible refine Ls.r_lst ?_) | (with_reducible refine Ls.r_if ?_) | (with_reducible refine Ls.r_andV ?_) | (with_reducible refine Ls.r_orV ?_) | (with_reducible refine Ls.r_notV ?_) | (with_reducible refine Ls.r_chain ?_) | (with_reducible refine Ls.r_sl ?_) | (with_reducible refine Ls.r_nopart ?_) | (with_reducible refine Ls.r_part ?_) | (with_reducible refine Ls.k_part ?_) | (with_reducible refine Ls.r_test ?_) | (with_reducible refine Ls.r_B ?_) | (with_reducible refine Ls.k_B ?_) | (with_reducible refine Ls.r_not ?_) | (with_reducible refine Ls.r_and ?_) | (with_reducible refine Ls.r_or ?_) | (with_reducible refine Ls.r_seq ?_) | (with_reducible refine Ls.r_ifS ?_) | (with_reducible refine Ls.r_next ?_) | (with_reducible refine Ls.r_brk ?_) | (with_reducible refine Ls.r_cont ?_) | (with_reducible refine Ls.r_ret ?_) | (with_reducible refine Ls.r_retN ?_) | (with_reducible refine Ls.r_drop ?_) | (with_reducible refine Ls.r_asg ?_) | (with_reducible refine Ls.r_par ?_) | (with_reducible refine Ls.k_par ?_) | ((with_reducible refine' Ls.r_aug ?hV ?_); (case hV => exact rfl)) | (with_reducible refine Ls.y_ip ?_) | (with_reducible refine Ls.g_name ?_) | (with_reducible refine Ls.g_nil ?_) | (with_reducible refine Ls.g_cons ?_) | (with_reducible refine Ls.g_sub ?_) | (with_reducible refine Ls.e_nx ?_) | (with_reducible refine Ls.e_rt ?_) | (with_reducible refine Ls.e_bk ?_) | (with_reducible refine Ls.e_ct ?_) | (with_reducible refine Ls.r_for ?_) | (with_reducible refine Ls.i_seq ?_) | (with_reducible refine Ls.i_enum ?_) | (with_reducible refine Ls.i_rng1 ?_) | (with_reducible refine Ls.r_m1 ?_) | (with_reducible refine Ls.r_m0 ?_) | (with_reducible refine Ls.k_isS ?_) | (with_reducible refine Ls.r_bm ?_) | (with_reducible refine Ls.r_lc ?_) | (with_reducible refine Ls.y_add ?_) | (with_reducible refine Ls.y_sub ?_) | (with_reducible refine Ls.y_neg ?_) | (with_reducible refine Ls.y_lt ?_) | (with_reducible refine Ls.y_le ?_) | (with_reducible refine Ls.y_gt ?_) | (with_reducible refine Ls.y_ge ?_) | (with_reducible refine Ls.y_eqI ?_) | (with_reducible refine Ls.y_eqS ?_) | (with_reducible refine Ls.y_neI ?_) | (with_reducible refine Ls.y_neS ?_) | (with_reducible refine Ls.y_isNo ?_) | (with_reducible refine Ls.y_isntNo ?_) | (with_reducible refine Ls.y_abs ?_) | (with_reducible refine Ls.y_max2 ?_) | (with_reducible refine Ls.y_min2 ?_) | (with_reducible refine Ls.y_intI ?_) | (with_reducible refine Ls.y_intB ?_) | ((with_reducible refine' Ls.y_ixL ?hS ?hA ?_); (case hS => first | assumption | exact L2.SqL.of (by assumption)); (case hA => rfl)) | ((with_reducible refine' Ls.y_ixT ?hS ?hA ?_); (case hS => first | assumption | exact L2.SqT.of (by assumption)); (case hA => rfl)) | ((with_reducible refine' Ls.y_mod ?hC ?_); (case hC => first | decide | omega)) | ((with_reducible refine' Ls.y_fdiv ?hC ?_); (case hC => first | decide | (constructor <;> omega))) | ((with_reducible refine' Ls.y_pow ?hC ?_); (case hC => exact ⟨by decide, by decide, by decide⟩)) | ((with_reducible refine' Ls.y_mul ?hC ?_); (case hC => first | exact .inr ⟨by decide, by decide⟩ | exact .inl ⟨by decide, by decide⟩ | exact .inr ⟨by omega, by omega⟩ | exact .inl ⟨by omega, by omega⟩)) | (with_reducible refine L2.iteT ?_) | (with_reducible refine L2.iteF ?_) | (with_reducible refine Ls.iteNF ?_) | (with_reducible refine Ls.iteNT ?_)))
local macro_rules | `(tactic| walk_at "rd") => `(tactic| (repeat walk_at "rd1"))

section
variable {P : Program} {w : World} {K : PySem.W.Frag} {mg : Str → Option Value} {base : Heap}
theorem ok_read_tuple (T : Tx K mg) {n : Nat} (C_read_datum : Cal P w K mg base (2 * n + 1) "read_datum" s_read_datum P_read_datum (sp_rdat K n)) : Cal P w K mg base (2 * n + 2) "read_tuple" s_read_tuple P_read_tuple (sp_rtup K n) := by
  refine T.d_read_tuple.ok sc_read_tuple (fun vs H Q E h => ?_) (fun f cdv A outer s H vs Q E hr h => ?_)
  · obtain ⟨p, r, ds, k, rfl, _⟩ := h; rfl
  obtain ⟨p, r, ds, k, rfl, hz, hm, hns, hn, hk, q⟩ := h
  refine ⟨_, PSs.nox (pss_cons (ps_if (pt_cmpR op_gtU (pv 2) (pe_const T.c_MOST_DEPTH) (nomark _)) (pss_one ps_never) pss_nil)
      (pss_cons (ps_par (i := 3) (j := 1) rfl sc_read_tuple.nd rfl rfl (by decide) rfl rfl (pa_cons (pe_lstN pa_nil) (pa_cons (pe_op op_addU (pv 1) pe_int) pa_nil)) (by rfl))
      (pss_cons (ps_set (i := 4) sc_read_tuple.nd rfl (by first | exact .inl rfl | exact .inr rfl) (pe_cmpR (op_neU hr) (pe_slice sl_U (pv 0) (po_some (pv 1)) (po_some (pe_op op_addU (pv 1) pe_int))) pe_str (nomark _)))
      (pss_cons (ps_while PassesOwn.never (pt_val (pv 4)) (pss_cons (ps_asg (pe_g C_read_datum (hr.mono (by omega)) px0 (pa_cons (pv 0) (pa_cons (pv 1) (pa_cons (pv 2) pa_nil)))) (pg_tup rfl (pgs_cons (pg_name (i := 5) sc_read_tuple.nd rfl (by first | exact .inl rfl | exact .inr rfl)) (pgs_cons (pg_name (i := 1) sc_read_tuple.nd rfl (by first | exact .inl rfl | exact .inr rfl)) pgs_nil))))
      (pss_cons (ps_expr (pe_bm PySem.F.plainAttrs_list PySem.F.slot_list_append PySem.F.type_list_append mt_append (pv 3) (pa_cons (pv 5) pa_nil)))
      (pss_cons (ps_set (i := 4) sc_read_tuple.nd rfl (by first | exact .inl rfl | exact .inr rfl) (pe_cmpR (op_eqU hr) (pe_slice sl_U (pv 0) (po_some (pv 1)) (po_some (pe_op op_addU (pv 1) pe_int))) pe_str (nomark _)))
      (pss_one (ps_aug (i := 1) sc_read_tuple.nd rfl (by first | exact .inl rfl | exact .inr rfl) (pe_callTy call_intU (by rfl) T.n_int (by decide +kernel) (pa_cons (pv 4) pa_nil)) ip_add))))))
      (pss_cons (ps_if (pt_cmpR (op_neU hr) (pe_slice sl_U (pv 0) (po_some (pv 1)) (po_some (pe_op op_addU (pv 1) pe_int))) pe_str (nomark _)) (pss_one ps_never) pss_nil)
      (pss_one (ps_ret (pe_tup (pa_cons (pe_callTy call_tupleU (by rfl) T.n_tuple (by decide +kernel) (pa_cons (pv 3) pa_nil)) (pa_cons (pe_op op_addU (pv 1) pe_int) pa_nil)))))))))), ?_⟩
  have h2 : sizeLine = 16777216 := rfl
  rw [nsD, Bool.and_eq_true, decide_eq_true_eq] at hns
  walk_at "rd"
  refine ifN (by omega) ?_
  walk_at "rd"
  refine k_lst fun L H1 nL _ e1 hL => ?_
  walk_at "rd"
  have etx : p ++ (txD (.tuple ds) ++ r) = (p ++ [91]) ++ (txL ds ++ 93 :: r) := by rw [txD]; simp
  have etl : (txD (.tuple ds)).length = 2 + (txL ds).length := by rw [txD]; simp; omega
  generalize hT : p ++ (txD (.tuple ds) ++ r) = tx at *
  refine y_cut (a := p.length + 1) (b := p.length + 2) (by omega) (by omega) (by omega) ?_
  have epl : (p ++ [91]).length = p.length + 1 := by simp
  have e8 : (tx.drop (p.length + 1)).take (p.length + 2 - (p.length + 1)) = (txL ds ++ 93 :: r).take 1 := by
    have e7 : p.length + 2 - (p.length + 1) = 1 := by omega
    rw [e7, etx, ← epl, List.drop_left]
  rw [e8]
  walk_at "rd"
  rw [q_close, S_dec, one_L]
  refine k_while (m0 := ds.length) (fun m σ' H' => ∃ (es fs : List PyData) (xs : List V) (p' : List Nat) (it : Option V), ds = es ++ fs ∧ m = fs.length ∧ FlAll K H' xs es ∧ H' L = some (.lst xs) ∧ Ex H H' ∧ tx = p' ++ (txL fs ++ 93 :: r) ∧
    σ' = [some (.str (S tx)), some (.int (p'.length : Nat)), some (.int (k : Nat)), some (.ref L), some (.bl (!decide (fs = []))), it]) ⟨[], ds, [], p ++ [91], none, rfl, rfl, .nil, hL, e1, etx, by rw [epl]; rfl⟩ ?_
  rintro m σ' H' ⟨es, fs, xs, p', it, ed, hmf, hF, hHL, eH, ep, rfl⟩
  have hxl : xs.length ≤ 40 := by
    have := hF.length
    have := congrArg List.length ed
    rw [List.length_append] at this
    omega
  walk_at "rd"
  cases fs with
  | nil =>
    refine ite_f rfl ?_
    walk_at "rd"
    have epl2 : tx.length = p'.length + (1 + r.length) := by rw [ep, txL]; simp; omega
    refine y_cut (a := p'.length) (b := p'.length + 1) (by omega) rfl (by omega) ?_
    have e9 : (tx.drop p'.length).take (p'.length + 1 - p'.length) = [93] := by rw [ep, List.drop_left, Nat.add_sub_cancel_left, txL]; rfl
    rw [e9]
    walk_at "rd"
    refine ifnN rfl ?_
    walk_at "rd"
    refine y_tupL (.of hHL) fun l H2 nl e2 hl => ?_
    walk_at "rd"
    refine k_tup fun t H3 nt e3 ht => ?_
    have ed2 : ds = es := by rw [ed, List.append_nil]
    refine q (.ref l) t H3 (eH.trans (e2.trans e3)) (.tup (.of (e3 _ _ hl)) ?_) ?_
    · rw [ed2]
      exact hF.mono (e2.trans e3).et
    · have : tx.length = p.length + ((txD (.tuple ds)).length + r.length) := by rw [← hT]; simp
      rw [ht, show ((p'.length : Nat) : Int) + 1 = ((p.length + (txD (.tuple ds)).length : Nat) : Int) by omega]
  | cons d fs =>
    refine ite_t rfl ?_
    refine k_body ?_
    walk_at "rd"
    have hdm : d ∈ ds := by rw [ed]; simp
    have hdt := tdp_mem hdm
    refine ⟨p', txM fs ++ 93 :: r, d, k, by rw [ep, txL, List.append_assoc], by rw [← List.append_assoc (txD d), ← txL, ← ep]; exact hz, smL_mem hm hdm, nsL_mem hns.2 hdm, by omega, by omega, noDig_M _ _, fun v t H2 e2 hv ht => ?_⟩
    refine g_tup (.of ht) rfl ?_
    walk_at "rd"
    refine k_isL (.of (e2 _ _ hHL)) ?_
    walk_at "rd"
    refine y_append (e2 _ _ hHL) (by omega) fun H3 e3 hL3 => ?_
    walk_at "rd"
    have t3 : Et H2 H3 := e3.et (e2 _ _ hHL)
    have epx : tx = (p' ++ txD d) ++ (txM fs ++ 93 :: r) := by rw [ep, txL]; simp
    have epl3 : (p' ++ txD d).length = p'.length + (txD d).length := List.length_append
    refine y_cut (a := p'.length + (txD d).length) (b := p'.length + (txD d).length + 1) (by omega) rfl (by omega) ?_
    have e9 : (tx.drop (p'.length + (txD d).length)).take (p'.length + (txD d).length + 1 - (p'.length + (txD d).length)) = if fs = [] then [93] else [44] := by
      rw [Nat.add_sub_cancel_left, ← one_M fs r, ← epl3, epx, List.drop_left]
    rw [e9]
    walk_at "rd"
    rw [q_comma, S_dec]
    have e10 : decide ((if fs = [] then [93] else [44]) = [44]) = !decide (fs = []) := by
      by_cases hf : fs = []
      · rw [if_pos hf, decide_eq_true hf]; rfl
      · rw [if_neg hf, decide_eq_false hf]; rfl
    rw [e10]
    walk_at "rd"
    refine ⟨fs.length, by rw [hmf]; exact Nat.lt_succ_self _, es ++ [d], fs, xs ++ [v], p' ++ txD d ++ (if fs = [] then [] else [44]), some v, by rw [ed]; simp, rfl, ?_, hL3, (eH.trans e2).lstN nL e3, ?_, ?_⟩
    · exact (hF.mono (e2.et.trans t3)).snoc (hv.mono t3)
    · rw [epx]
      cases fs with
      | nil => rw [txM, txL]; simp
      | cons f fs => rw [txM, txL]; simp
    · have e11 : ((p'.length + (txD d).length : Nat) : Int) + (if (!decide (fs = [])) = true then 1 else 0) = (((p' ++ txD d ++ (if fs = [] then [] else [44])).length : Nat) : Int) := by
        by_cases hf : fs = []
        · rw [decide_eq_true hf, if_pos hf, if_neg (by decide), List.append_nil, epl3]; omega
        · rw [decide_eq_false hf, if_neg hf, if_pos (by decide), List.length_append, epl3]; simp
      rw [e11]
      rfl
theorem ok_read_datum (T : Tx K mg) (C_read_integer : Cal P w K mg base 1 "read_integer" s_read_integer P_read_integer sp_rint) : ∀ n, Cal P w K mg base (2 * n + 1) "read_datum" s_read_datum P_read_datum (sp_rdat K n)
  | 0 => (T.d_read_datum.never fun vs H Q E h => by obtain ⟨p, r, d, k, _, _, _, _, z, _⟩ := h; omega).up (by omega)
  | n + 1 => by
    have C_read_tuple := ok_read_tuple T (ok_read_datum T C_read_integer n)
    refine T.d_read_datum.ok sc_read_datum (fun vs H Q E h => ?_) (fun f cdv A outer s H vs Q E hr h => ?_)
    · obtain ⟨p, r, d, k, rfl, _⟩ := h; rfl
    obtain ⟨p, r, d, k, rfl, hz, hm, hns, hn, hk, hd, q⟩ := h
    refine ⟨_, PSs.nox (pss_cons (ps_if (pt_cmpR (op_eqU hr) (pe_slice sl_U (pv 0) (po_some (pv 1)) (po_some (pe_op op_addU (pv 1) pe_int))) pe_str (nomark _)) (pss_one (ps_ret (pe_g C_read_tuple (hr.mono (by omega)) px0 (pa_cons (pv 0) (pa_cons (pv 1) (pa_cons (pe_op op_addU (pv 2) pe_int) pa_nil)))))) pss_nil)
      (pss_one (ps_ret (pe_g C_read_integer (hr.mono (by omega)) px0 (pa_cons (pv 0) (pa_cons (pv 1) pa_nil)))))), ?_⟩
    have h2 : sizeLine = 16777216 := rfl
    walk_at "rd"
    refine y_cut (a := p.length) (b := p.length + 1) (by omega) rfl (by omega) ?_
    rw [List.drop_left, Nat.add_sub_cancel_left]
    walk_at "rd"
    rw [q_open, S_dec]
    cases d with
    | int i =>
      refine ifN (fun z => ?_) ?_
      · obtain ⟨c, t, e, h⟩ := intL_head i
        rw [txD, e] at z
        have : c = 91 := by simpa using z
        omega
      · walk_at "rd"
        exact ⟨p, r, i, rfl, hz, by rw [smD, decide_eq_true_eq] at hm; exact hm, hd, fun t H' e ht => q (.int i) t H' e (.int i) ht⟩
    | tuple ds =>
      refine ifY (by rw [txD]; rfl) ?_
      walk_at "rd"
      rw [tdp] at hn hk
      rw [smD] at hm
      exact ⟨p, r, ds, k + 1, rfl, hz, hm, hns, by omega, by omega, q⟩
    | none => simp [nsD] at hns
    | bool b => simp [nsD] at hns
    | str x => simp [nsD] at hns
    | list x => simp [nsD] at hns
    | dict x => simp [nsD] at hns
theorem ok_parse_value (T : Tx K mg) {n : Nat} (C_read_datum : Cal P w K mg base (2 * n + 1) "read_datum" s_read_datum P_read_datum (sp_rdat K n)) (C_is_datum : Cal P w K mg base (n + 3) "is_datum" s_is_datum P_is_datum (sp_isdatum K n)) :
    Cal P w K mg base (2 * n + 4) "parse_value" s_parse_value P_parse_value (sp_parse K n) := by
  refine T.d_parse_value.ok sc_parse_value (fun vs H Q E h => ?_) (fun f cdv A outer s H vs Q E hr h => ?_)
  · obtain ⟨d, rfl, _⟩ := h; rfl
  obtain ⟨d, rfl, ho, q⟩ := h
  refine ⟨_, PSs.nox (pss_cons (ps_if (pt_not (pt_val (pe_callB call_isiU (by rfl) T.n_isinstance (by decide +kernel) (pa_cons (pv 0) (pa_cons (pe_bltn (v := .ty "str") (u := .type "str") (by rfl) T.n_str (by decide +kernel) rfl) pa_nil))))) (pss_one ps_never) pss_nil)
      (pss_cons (ps_if (pt_cmpR (op_eqU hr) (pv 0) (pe_const T.c_FAULT) (nomark _)) (pss_one (ps_ret (pe_const T.c_FAULT))) pss_nil)
      (pss_cons (ps_asg (pe_g C_read_datum (hr.mono (by omega)) px0 (pa_cons (pv 0) (pa_cons pe_int (pa_cons pe_int pa_nil)))) (pg_tup rfl (pgs_cons (pg_name (i := 1) sc_parse_value.nd rfl (by first | exact .inl rfl | exact .inr rfl)) (pgs_cons (pg_name (i := 2) sc_parse_value.nd rfl (by first | exact .inl rfl | exact .inr rfl)) pgs_nil))))
      (pss_cons (ps_if (PW.pt (pw_or (pt_cmpR op_ltU (pv 2) (pe_callB call_lenU (by rfl) T.n_len (by decide +kernel) (pa_cons (pv 0) pa_nil)) (nomark _)) (pw_or1 (pt_not (pt_val (pe_g C_is_datum (hr.mono (by omega)) px0 (pa_cons (pv 1) pa_nil))))))) (pss_one ps_never) pss_nil)
      (pss_one (ps_ret (pv 1))))))), ?_⟩
  have h2 : sizeLine = 16777216 := rfl
  walk_at "rd"
  refine y_isi (d := .str (S (txD d))) (.str _) (b := true) rfl ?_
  walk_at "rd"
  rw [q_fault, S_dec]
  refine br (fun hf => ?_) fun hf => ?_
  · cases hF : isF d with
    | true =>
      walk_at "rd"
      have z := q (.str (Str.ofString "fault")) H (Ex.refl H) (by rw [isF_inv hF]; exact .str _)
      exact z
    | false =>
      obtain ⟨c, t, e, _, _, h⟩ := txD_head d
      rw [e] at hf
      exact absurd (List.cons.inj hf).1 (h (isD_of ho hF).1)
  · have hF : isF d = false := by
      cases hF : isF d with
      | true => exact absurd (isF_tx hF) hf
      | false => rfl
    obtain ⟨hn, ht, hs⟩ := isD_of ho hF
    have hlen := txD_len d hn
    walk_at "rd"
    refine ⟨[], [], d, 0, by rw [List.append_nil]; rfl, by simp; omega, ho.1, hn, ho.2.1, by omega, fun _ h => by simp at h, fun v t H1 e1 hv ht1 => ?_⟩
    refine g_tup (.of ht1) rfl ?_
    walk_at "rd"
    refine y_lenC (by omega) ?_
    walk_at "rd"
    refine ifN (by simp) ?_
    walk_at "rd"
    refine ⟨v, d, rfl, hv.dt, ho.1, ho.2.1, fun H2 e2 => ?_⟩
    have hD : isD d = true := by
      have z := ho.2.2
      rw [hF, Bool.false_or] at z
      exact z
    rw [hD]
    walk_at "rd"
    exact q v H2 (e1.trans e2) (hv.mono e2.et)
end

end My
end

section
set_option Elab.async false
set_option linter.all false
set_option maxRecDepth 100000
set_option maxHeartbeats 4000000
namespace My
open PySem PySem.Spec PyProof.Rows L2 Ls SX
local macro_rules | `(tactic| walk_at "rd1") => `(tactic| (first | ((with_reducible refine' Ls.r_var ?hV ?_); (case hV => exact rfl)) | (with_reducible refine Ls.r_c ?_) | (with_reducible refine Ls.r_op ?_) | (with_reducible refine Ls.r_un ?_) | (with_reducible refine Ls.r_nil ?_) | (with_reducible refine Ls.r_cons ?_) | (with_reducible refine Ls.r_cb ?_) | (with_reducible refine Ls.r_ckw ?_) | (with_reducible refine Ls.r_cal ?_) | (with_reducible refine Ls.r_calK ?_) | (with_reducible refine Ls.r_tup ?_) | (with_reducible refine Ls.r_lst ?_) | (with_reducible refine Ls.r_if ?_) | (with_reducible refine Ls.r_andV ?_) | (with_reducible refine Ls.r_orV ?_) | (with_reducible refine Ls.r_notV ?_) | (with_reducible refine Ls.r_chain ?_) | (with_reducible refine Ls.r_sl ?_) | (with_reducible refine Ls.r_nopart ?_) | (with_reducible refine Ls.r_part ?_) | (with_reducible refine Ls.k_part ?_) | (with_reducible refine Ls.r_test ?_) | (with_reducible refine Ls.r_B ?_) | (with_reducible refine Ls.k_B ?_) | (with_reducible refine Ls.r_not ?_) | (with_reducible refine Ls.r_and ?_) | (with_reducible refine Ls.r_or ?_) | (with_reducible refine Ls.r_seq ?_) | (with_reducible refine Ls.r_ifS ?_) | (with_reducible refine Ls.r_next ?_) | (with_reducible refine Ls.r_brk ?_) | (with_reducible refine Ls.r_cont ?_) | (with_reducible refine Ls.r_ret ?_) | (with_reducible refine Ls.r_retN ?_) | (with_reducible refine Ls.r_drop ?_) | (with_reducible refine Ls.r_asg ?_) | (with_reducible refine Ls.r_par ?_) | (with_reducible refine Ls.k_par ?_) | ((with_reducible refine' Ls.r_aug ?hV ?_); (case hV => exact rfl)) | (with_reducible refine Ls.y_ip ?_) | (with_reducible refine Ls.g_name ?_) | (with_reducible refine Ls.g_nil ?_) | (with_reducible refine Ls.g_cons ?_) | (with_reducible refine Ls.g_sub ?_) | (with_reducible refine Ls.e_nx ?_) | (with_reducible refine Ls.e_rt ?_) | (with_reducible refine Ls.e_bk ?_) | (with_reducible refine Ls.e_ct ?_) | (with_reducible refine Ls.r_for ?_) | (with_reducible refine Ls.i_seq ?_) | (with_reducible refine Ls.i_enum ?_) | (with_reducible refine Ls.i_rng1 ?_) | (with_reducible refine Ls.r_m1 ?_) | (with_reducible refine Ls.r_m0 ?_) | (with_reducible refine Ls.k_isS ?_) | (with_reducible refine Ls.r_bm ?_) | (with_reducible refine Ls.r_lc ?_) | (with_reducible refine Ls.y_add ?_) | (with_reducible refine Ls.y_sub ?_) | (with_reducible refine Ls.y_neg ?_) | (with_reducible refine Ls.y_lt ?_) | (with_reducible refine Ls.y_le ?_) | (with_reducible refine Ls.y_gt ?_) | (with_reducible refine Ls.y_ge ?_) | (with_reducible refine Ls.y_eqI ?_) | (with_reducible refine Ls.y_eqS ?_) | (with_reducible refine Ls.y_neI ?_) | (with_reducible refine Ls.y_neS ?_) | (with_reducible refine Ls.y_isNo ?_) | (with_reducible refine Ls.y_isntNo ?_) | (with_reducible refine Ls.y_abs ?_) | (with_reducible refine Ls.y_max2 ?_) | (with_reducible refine Ls.y_min2 ?_) | (with_reducible refine Ls.y_intI ?_) | (with_reducible refine Ls.y_intB ?_) | ((with_reducible refine' Ls.y_ixL ?hS ?hA ?_); (case hS => first | assumption | exact L2.SqL.of (by assumption)); (case hA => rfl)) | ((with_reducible refine' Ls.y_ixT ?hS ?hA ?_); (case hS => first | assumption | exact L2.SqT.of (by assumption)); (case hA => rfl)) | ((with_reducible refine' Ls.y_mod ?hC ?_); (case hC => first | decide | omega)) | ((with_reducible refine' Ls.y_fdiv ?hC ?_); (case hC => first | decide | (constructor <;> omega))) | ((with_reducible refine' Ls.y_pow ?hC ?_); (case hC => exact ⟨by decide, by decide, by decide⟩)) | ((with_reducible refine' Ls.y_mul ?hC ?_); (case hC => first | exact .inr ⟨by decide, by decide⟩ | exact .inl ⟨by decide, by decide⟩ | exact .inr ⟨by omega, by omega⟩ | exact .inl ⟨by omega, by omega⟩)) | (with_reducible refine L2.iteT ?_) | (with_reducible refine L2.iteF ?_) | (with_reducible refine Ls.iteNF ?_) | (with_reducible refine Ls.iteNT ?_)))
local macro_rules | `(tactic| walk_at "rd") => `(tactic| (repeat walk_at "rd1"))

section
variable {P : Program} {w : World} {K : PySem.W.Frag} {mg : Str → Option Value} {base : Heap}
theorem ok_pot (T : Tx K mg) : Cal P w K mg base 1 "_law_pot" s_law_pot P_law_pot (sp_pot K) := by
  refine T.d_law_pot.ok sc_law_pot (fun vs H Q E h => ?_) (fun f cdv A outer s H vs Q E hr h => ?_)
  · obtain ⟨p, m, k, rfl, _⟩ := h; rfl
  obtain ⟨sa, ns, k, rfl, hS, hk, q⟩ := h
  refine ⟨_, PSs.nox (pss_cons (ps_set (i := 2) sc_law_pot.nd rfl (by first | exact .inl rfl | exact .inr rfl) (pe_ifExp (pt_cmpR op_ltU (pv 1) (pe_callB call_lenU (by rfl) T.n_len (by decide +kernel) (pa_cons (pv 0) pa_nil)) (nomark _)) (pe_callB call_absU (by rfl) T.n_abs (by decide +kernel) (pa_cons (pe_ix ix_seq (pv 0) (pv 1) (fun _ _ => rfl)) pa_nil)) pe_int))
      (pss_one (ps_ret (pe_lstN (pa_cons (pe_callB (call_maxU rfl) (by rfl) T.n_max (by decide +kernel) (pa_cons pe_int (pa_cons (pe_op op_subU (pv 2) (pe_op op_powU pe_int pe_int)) pa_nil))) (pa_cons (pe_op op_modU (pe_op op_addU (pe_op op_addU (pe_op op_mulU (pe_op op_modU (pv 2) pe_int) pe_int) (pe_op op_mulU pe_int (pv 1))) pe_int) pe_int) pa_nil)))))), ?_⟩
  walk_at "rd"
  refine y_lenL hS ?_
  walk_at "rd"
  rw [List.length_map]
  have fin : ∀ c : Int, 0 ≤ c → 0 ≤ (if c - 10 ^ (18 : Int).toNat > 0 then c - 10 ^ (18 : Int).toNat else 0) := fun c hc => by split <;> omega
  have m0 : ∀ z : Int, 0 ≤ z % 2147483647 := fun z => Int.emod_nonneg _ (by decide)
  have m1 : ∀ z : Int, z % 2147483647 < 2147483648 := fun z => Int.lt_trans (Int.emod_lt_of_pos _ (by decide)) (by decide)
  refine br (fun hlt => ?_) fun hge => ?_
  · have hlt' : k < ns.length := by omega
    walk_at "rd"
    refine y_ixL (v := .int ns[k]) hS (atI_nat (by rw [List.getElem?_map, List.getElem?_eq_getElem hlt']; rfl)) ?_
    walk_at "rd"
    refine k_lst fun p H1 n _ e h1 => ?_
    exact q p H1 n e ⟨_, _, h1, fin _ (by split <;> omega), m0 _, m1 _⟩
  · walk_at "rd"
    refine k_lst fun p H1 n _ e h1 => ?_
    exact q p H1 n e ⟨_, _, h1, fin _ (by decide), m0 _, m1 _⟩
theorem ok_digit (T : Tx K mg) : Cal P w K mg base 1 "_law_digit" s_law_digit P_law_digit sp_digit := by
  refine T.d_law_digit.ok sc_law_digit (fun vs H Q E h => ?_) (fun f cdv A outer s H vs Q E hr h => ?_)
  · obtain ⟨p, m, rfl, _⟩ := h; rfl
  obtain ⟨p, m, rfl, ⟨a, b, hp, a0, b0, b1⟩, m0, m1, q⟩ := h
  refine ⟨_, PSs.nox (pss_cons (ps_if (pt_cmpR op_gtU (pe_ix ix_seq (pv 0) pe_int (fun _ _ => rfl)) pe_int (nomark _)) (pss_cons (ps_asg (pe_callB call_divmodU (by rfl) T.n_divmod (by decide +kernel) (pa_cons (pe_ix ix_seq (pv 0) pe_int (fun _ _ => rfl)) (pa_cons (pv 1) pa_nil))) (pg_tup rfl (pgs_cons (pg_sub (pv 0) pe_int set_list) (pgs_cons (pg_name (i := 2) sc_law_digit.nd rfl (by first | exact .inl rfl | exact .inr rfl)) pgs_nil))))
      (pss_one (ps_ret (pv 2)))) pss_nil)
      (pss_cons (ps_asg (pe_op op_modU (pe_op op_addU (pe_op op_mulU (pe_ix ix_seq (pv 0) pe_int (fun _ _ => rfl)) pe_int) pe_int) pe_int) (pg_sub (pv 0) pe_int set_list))
      (pss_one (ps_ret (pe_op op_modU (pe_op op_fdivU (pe_op op_modU (pe_op op_mulU (pe_ix ix_seq (pv 0) pe_int (fun _ _ => rfl)) (pe_ix ix_seq (pv 0) pe_int (fun _ _ => rfl))) pe_int) pe_int) (pv 1)))))), ?_⟩
  walk_at "rd"
  refine br (fun ha => ?_) fun ha => ?_
  · walk_at "rd"
    refine y_divmod ⟨m0, m1⟩ fun t H1 nt e1 ht => ?_
    refine g_tup (.of ht) rfl ?_
    walk_at "rd"
    refine y_setL (e1 _ _ hp) rfl fun H2 e2 h2 => ?_
    walk_at "rd"
    exact q _ H2 (Int.emod_nonneg _ (by omega)) (Int.emod_lt_of_pos _ m0) ⟨_, _, h2, Int.ediv_nonneg a0 (by omega), b0, b1⟩ ((e1.em p).trans e2)
  · walk_at "rd"
    refine y_setL hp rfl fun H2 e2 h2 => ?_
    have c0 : 0 ≤ (b * 39373 + 12227) % 2147483629 := Int.emod_nonneg _ (by decide)
    have c1 : (b * 39373 + 12227) % 2147483629 < 2147483629 := Int.emod_lt_of_pos _ (by decide)
    walk_at "rd"
    exact q _ H2 (Int.emod_nonneg _ (by omega)) (Int.emod_lt_of_pos _ m0) ⟨_, _, h2, a0, c0, by omega⟩ e2
theorem ok_int (T : Tx K mg) (C_law_digit : Cal P w K mg base 1 "_law_digit" s_law_digit P_law_digit sp_digit) : Cal P w K mg base 2 "_law_int" s_law_int P_law_int sp_int := by
  refine T.d_law_int.ok sc_law_int (fun vs H Q E h => ?_) (fun f cdv A outer s H vs Q E hr h => ?_)
  · obtain ⟨p, rfl, _⟩ := h; rfl
  obtain ⟨p, rfl, hP, q⟩ := h
  refine ⟨_, PSs.nox (pss_cons (ps_set (i := 1) sc_law_int.nd rfl (by first | exact .inl rfl | exact .inr rfl) (pe_g C_law_digit (hr.mono (by omega)) px0 (pa_cons (pv 0) (pa_cons pe_int pa_nil))))
      (pss_cons (ps_if (pt_cmpR op_ltU (pv 1) pe_int (nomark _)) (pss_one (ps_ret (pe_ix ix_seq (pe_lstN (pa_cons pe_int (pa_cons pe_int (pa_cons pe_int (pa_cons (pe_un un_negU pe_int) pa_nil))))) (pv 1) (fun _ _ => rfl)))) pss_nil)
      (pss_cons (ps_set (i := 2) sc_law_int.nd rfl (by first | exact .inl rfl | exact .inr rfl) (pe_lstN (pa_cons (pe_g C_law_digit (hr.mono (by omega)) px0 (pa_cons (pv 0) (pa_cons pe_int pa_nil))) (pa_cons (pe_un un_negU (pe_g C_law_digit (hr.mono (by omega)) px0 (pa_cons (pv 0) (pa_cons pe_int pa_nil)))) (pa_cons (pe_g C_law_digit (hr.mono (by omega)) px0 (pa_cons (pv 0) (pa_cons (pe_op op_powU pe_int pe_int) pa_nil))) (pa_cons (pe_op op_addU (pe_op op_powU pe_int pe_int) (pe_g C_law_digit (hr.mono (by omega)) px0 (pa_cons (pv 0) (pa_cons pe_int pa_nil)))) pa_nil))))))
      (pss_one (ps_ret (pe_ix ix_seq (pv 2) (pe_op op_subU (pv 1) pe_int) (fun _ _ => rfl))))))), ?_⟩
  walk_at "rd"
  refine ⟨p, 8, rfl, hP, by decide, by decide, fun w1 H1 w0 w8 P1 e1 => ?_⟩
  walk_at "rd"
  refine br (fun hw => ?_) fun hw => ?_
  · walk_at "rd"
    refine k_lst fun l H2 n2 _ x2 h2 => ?_
    walk_at "rd"
    have fin : ∀ i : Int, i.natAbs ≤ 10 ^ 21 → Q (.int i) H2 := fun i hi => q i H2 hi (P1.ex x2) (e1.trans (x2.em p))
    rcases (show w1 = 0 ∨ w1 = 1 ∨ w1 = 2 ∨ w1 = 3 by omega) with rfl | rfl | rfl | rfl
    · exact y_ixL (.of h2) rfl (fin _ (by decide))
    · exact y_ixL (.of h2) rfl (fin _ (by decide))
    · exact y_ixL (.of h2) rfl (fin _ (by decide))
    · exact y_ixL (.of h2) rfl (fin _ (by decide))
  · walk_at "rd"
    refine ⟨p, 10, rfl, P1, by decide, by decide, fun a H2 a0 a1 P2 e2 => ?_⟩
    walk_at "rd"
    refine ⟨p, 100, rfl, P2, by decide, by decide, fun b H3 b0 b1 P3 e3 => ?_⟩
    walk_at "rd"
    refine ⟨p, 100000, rfl, P3, by decide, by decide, fun c H4 c0 c1 P4 e4 => ?_⟩
    walk_at "rd"
    refine ⟨p, 1000, rfl, P4, by decide, by decide, fun d H5 d0 d1 P5 e5 => ?_⟩
    walk_at "rd"
    refine k_lst fun l H6 n6 _ x6 h6 => ?_
    walk_at "rd"
    have fin : ∀ i : Int, i.natAbs ≤ 10 ^ 21 → Q (.int i) H6 := fun i hi => q i H6 hi (P5.ex x6) ((e1.trans (e2.trans (e3.trans (e4.trans e5)))).trans (x6.em p))
    have p20 : (10 : Int) ^ (20 : Int).toNat = 100000000000000000000 := by decide
    rcases (show w1 = 4 ∨ w1 = 5 ∨ w1 = 6 ∨ w1 = 7 by omega) with rfl | rfl | rfl | rfl
    · exact y_ixL (.of h6) rfl (fin _ (by omega))
    · exact y_ixL (.of h6) rfl (fin _ (by omega))
    · exact y_ixL (.of h6) rfl (fin _ (by omega))
    · exact y_ixL (.of h6) rfl (fin _ (by rw [p20]; omega))
theorem ok_datum (T : Tx K mg) (C_law_digit : Cal P w K mg base 1 "_law_digit" s_law_digit P_law_digit sp_digit) (C_law_int : Cal P w K mg base 2 "_law_int" s_law_int P_law_int sp_int) : ∀ n, Cal P w K mg base (n + 3) "_law_datum" s_law_datum P_law_datum (sp_ldatum K n)
  | 0 => (T.d_law_datum.never fun vs H Q E h => by obtain ⟨p, m, _, _, z, _⟩ := h; omega).up (by omega)
  | n + 1 => by
    have C_law_datum := ok_datum T C_law_digit C_law_int n
    refine T.d_law_datum.ok sc_law_datum (fun vs H Q E h => ?_) (fun f cdv A outer s H vs Q E hr h => ?_)
    · obtain ⟨p, m, rfl, _⟩ := h; rfl
    obtain ⟨p, m, rfl, hP, hm, q⟩ := h
    refine ⟨_, PSs.nox (pss_cons (ps_if (PW.pt (pw_or (pt_cmpR (op_eqU hr) (pv 1) pe_int (nomark _)) (pw_or1 (pt_cmpR op_gtU (pe_g C_law_digit (hr.mono (by omega)) px0 (pa_cons (pv 0) (pa_cons pe_int pa_nil))) pe_int (nomark _))))) (pss_one (ps_ret (pe_g C_law_int (hr.mono (by omega)) px0 (pa_cons (pv 0) pa_nil)))) pss_nil)
      (pss_one (ps_ret (pe_callTy call_tupleU (by rfl) T.n_tuple (by decide +kernel) (pa_cons (pe_lc (own := [("_law_k", 2)]) rfl sc_law_datum.nd (pi_range1 rfl T.n_range (pa_cons (pe_g C_law_digit (hr.mono (by omega)) px0 (pa_cons (pv 0) (pa_cons pe_int pa_nil))) pa_nil)) (blkOk_by (own := [("_law_k", 2)]) (N := N_law_datum) (sc := defScope s_law_datum) (by decide +kernel)) (fun _ _ _ _ _ => (pg_name (i := 2) sc_law_datum.nd rfl (Or.inl rfl))) (fun _ _ _ _ _ => pts_nil) (fun _ _ _ _ _ => (pe_g C_law_datum (hr.mono (by omega)) px0 (pa_cons (pv 0) (pa_cons (pe_op op_subU (pv 1) pe_int) pa_nil))))) pa_nil))))), ?_⟩
    have leaf : ∀ (i : Int) H', i.natAbs ≤ 10 ^ 21 → Pt H' p → Em p H H' → Q (.int i) H' := fun i H' hi P1 e1 => q (.int i) (.int i) H' (.int i) (by rw [gdD, decide_eq_true_eq]; exact Nat.lt_of_le_of_lt hi (by decide)) (Nat.zero_le _) P1 e1
    walk_at "rd"
    refine br (fun h0 => ?_) fun h0 => ?_
    · walk_at "rd"
      exact ⟨p, rfl, hP, leaf⟩
    · walk_at "rd"
      refine ⟨p, 3, rfl, hP, by decide, by decide, fun w1 H1 w0 w3 P1 e1 => ?_⟩
      walk_at "rd"
      refine br (fun hw => ?_) fun hw => ?_
      · walk_at "rd"
        exact ⟨p, rfl, P1, fun i H' hi P2 e2 => leaf i H' hi P2 (e1.trans e2)⟩
      · walk_at "rd"
        refine ⟨p, 5, rfl, P1, by decide, by decide, fun c H2 c0 c5 P2 e2 => ?_⟩
        walk_at "rd"
        refine i_r1 (by omega) (by omega) ?_
        have hm1 : ((m : Nat) : Int) - 1 = ((m - 1 : Nat) : Int) := by omega
        refine k_lcPot (fun y H' => ∃ d, Fl K H' y d ∧ (gdD d = true ∧ tdp d ≤ m - 1)) (fun y H H' e ⟨d, h1, h2⟩ => ⟨d, h1.mono e, h2⟩) P2 (by omega) (fun j H3 Q1 hj e3 P3 hq => ?_) (fun x => rfl) fun D ys H3 nD e3 P3 hD hl hy => ?_
        · walk_at "rd"
          rw [hm1]
          exact ⟨p, m - 1, rfl, P3, by omega, fun v d H4 hv hg ht P4 e4 => hq v H4 e4 P4 ⟨d, hv, hg, ht⟩⟩
        · walk_at "rd"
          obtain ⟨ds, hF, hG⟩ := fl_all hy
          refine y_tupL (.of hD) fun l H4 nl e4 h4 => ?_
          have hl2 := hF.length
          refine q (.ref l) (.tuple ds) H4 (.tup (.of h4) (hF.mono e4.et)) ?_ ?_ (P3.ex e4) ((e1.trans (e2.trans e3)).trans (e4.em p))
          · rw [gdD, Bool.and_eq_true, decide_eq_true_eq]
            exact ⟨by omega, gdL_of fun d hd => (hG d hd).1⟩
          · rw [tdp]
            have := tdpL_le (m := m - 1) fun d hd => (hG d hd).2
            omega
end

section
variable {P : Program} {w : World} {K : PySem.W.Frag} {mg : Str → Option Value} {base : Heap}
theorem ok_lsize (T : Tx K mg) : ∀ n, Cal P w K mg base (n + 1) "_law_size" s_law_size P_law_size (sp_lsize K n)
  | 0 => (T.d_law_size.never fun vs H Q E h => by obtain ⟨v, d, _, _, _, z, _⟩ := h; omega).up (by omega)
  | n + 1 => by
    have C_law_size := ok_lsize T n
    refine T.d_law_size.ok sc_law_size (fun vs H Q E h => ?_) (fun f cdv A outer s H vs Q E hr h => ?_)
    · obtain ⟨v, d, rfl, _⟩ := h; rfl
    obtain ⟨v, d, rfl, hd, hg, hn, h60, q⟩ := h
    refine ⟨_, PSs.nox (pss_cons (ps_if (pt_cmpR (op_eqU hr) (pv 0) pe_str (nomark _)) (pss_one (ps_ret pe_int)) pss_nil)
      (pss_cons (ps_if (pt_val (pe_callB call_isiU (by rfl) T.n_isinstance (by decide +kernel) (pa_cons (pv 0) (pa_cons (pe_bltn (v := .ty "int") (u := .type "int") (by rfl) T.n_int (by decide +kernel) rfl) pa_nil)))) (pss_one (ps_ret (pe_op op_addU (pe_callB call_lenU (by rfl) T.n_len (by decide +kernel) (pa_cons (pe_callTy call_strU (by rfl) T.n_str (by decide +kernel) (pa_cons (pe_callB call_absU (by rfl) T.n_abs (by decide +kernel) (pa_cons (pv 0) pa_nil)) pa_nil)) pa_nil)) (pe_callTy call_intU (by rfl) T.n_int (by decide +kernel) (pa_cons (pe_cmpR op_ltU (pv 0) pe_int (nomark _)) pa_nil))))) pss_nil)
      (pss_one (ps_ret (pe_op op_addU pe_int (pe_callB (cr_sum rfl) (by rfl) T.n_sum (by decide +kernel) (pa_cons (pe_lc (own := [("_law_each", 1)]) rfl sc_law_size.nd (pi_seq (pv 0)) (blkOk_by (own := [("_law_each", 1)]) (N := N_law_size) (sc := defScope s_law_size) (by decide +kernel)) (fun _ _ _ _ _ => (pg_name (i := 1) sc_law_size.nd rfl (Or.inl rfl))) (fun _ _ _ _ _ => pts_nil) (fun _ _ _ _ _ => (pe_g C_law_size (hr.mono (by omega)) px0 (pa_cons (pv 1) pa_nil)))) pa_nil))))))), ?_⟩
    cases hF : isF d with
    | true =>
      have e := isF_inv hF
      subst e
      cases hd
      walk_at "rd"
      refine ifY rfl ?_
      walk_at "rd"
      exact q H (Ex.refl H)
    | false =>
    rw [hF, Bool.false_or] at hg
    cases d with
    | int i =>
      cases hd
      walk_at "rd"
      refine y_eqFault (.int i) hg (Nat.zero_le _) ?_
      walk_at "rd"
      refine y_isi (.int i) (b := true) rfl ?_
      walk_at "rd"
      have hm' : i.natAbs.log2 < 1920 := by rw [gdD, decide_eq_true_eq] at hg; exact gd_log hg
      refine y_str (by rw [abs_if]; exact hm') ?_
      walk_at "rd"
      refine y_lenS ?_ ?_
      · rw [abs_if, num_S, S_len]
        have := int_digits hm'
        exact Nat.le_trans this (by decide)
      walk_at "rd"
      exact q H (Ex.refl H)
    | tuple ds =>
      cases hd with | tup hS hA =>
      walk_at "rd"
      refine y_eqFault (.tup hS hA) hg h60 ?_
      walk_at "rd"
      refine y_isi (Fl.dt (.tup hS hA)) (b := false) rfl ?_
      walk_at "rd"
      rw [gdD, Bool.and_eq_true, decide_eq_true_eq] at hg
      have hl := hA.length
      refine i_T hS ?_
      refine k_lcFl (fun d => .int (szD d)) hS hA (by omega) (fun x d H1 Q1 hmm e hx hq => ?_) (fun x => rfl) fun D H2 nD e hD => ?_
      · walk_at "rd"
        exact ⟨x, d, rfl, hx, by rw [gdL_mem hg.2 hmm, Bool.or_true], tdp_tup hn hmm, Nat.le_of_lt (tdp_tup (Nat.lt_succ_of_le h60) hmm), hq⟩
      · walk_at "rd"
        refine y_sum (ns := ds.map szD) (.of (by rw [hD, List.map_map]; rfl)) ?_
        walk_at "rd"
        have z := q H2 e
        rw [szD, szL_sum] at z
        exact z
    | none => simp [gdD] at hg
    | bool b => simp [gdD] at hg
    | str x => simp [gdD] at hg
    | list x => simp [gdD] at hg
    | dict x => simp [gdD] at hg
theorem ok_ldeep (T : Tx K mg) : ∀ n, Cal P w K mg base (n + 1) "_law_deep" s_law_deep P_law_deep (sp_ldeep K n)
  | 0 => (T.d_law_deep.never fun vs H Q E h => by obtain ⟨v, d, _, _, _, z, _⟩ := h; omega).up (by omega)
  | n + 1 => by
    have C_law_deep := ok_ldeep T n
    refine T.d_law_deep.ok sc_law_deep (fun vs H Q E h => ?_) (fun f cdv A outer s H vs Q E hr h => ?_)
    · obtain ⟨v, d, rfl, _⟩ := h; rfl
    obtain ⟨v, d, rfl, hd, hg, hn, q⟩ := h
    refine ⟨_, PSs.nox (pss_one (ps_ret (pe_ifExp (pt_val (pe_callB call_isiU (by rfl) T.n_isinstance (by decide +kernel) (pa_cons (pv 0) (pa_cons (pe_bltn (v := .ty "int") (u := .type "int") (by rfl) T.n_int (by decide +kernel) rfl) pa_nil)))) pe_int (pe_op op_addU pe_int (pe_callB (call_maxU rfl) (by rfl) T.n_max (by decide +kernel) (pa_cons (pe_op op_addU (pe_lstN (pa_cons pe_int pa_nil)) (pe_lc (own := [("_law_each", 1)]) rfl sc_law_deep.nd (pi_seq (pv 0)) (blkOk_by (own := [("_law_each", 1)]) (N := N_law_deep) (sc := defScope s_law_deep) (by decide +kernel)) (fun _ _ _ _ _ => (pg_name (i := 1) sc_law_deep.nd rfl (Or.inl rfl))) (fun _ _ _ _ _ => pts_nil) (fun _ _ _ _ _ => (pe_g C_law_deep (hr.mono (by omega)) px0 (pa_cons (pv 1) pa_nil))))) pa_nil)))))), ?_⟩
    cases d with
    | int i =>
      cases hd
      walk_at "rd"
      refine y_isi (.int i) (b := true) rfl ?_
      walk_at "rd"
      exact q H (Ex.refl H)
    | tuple ds =>
      cases hd with | tup hS hA =>
      walk_at "rd"
      refine y_isi (Fl.dt (.tup hS hA)) (b := false) rfl ?_
      walk_at "rd"
      rw [gdD, Bool.and_eq_true, decide_eq_true_eq] at hg
      have hl := hA.length
      refine k_lst fun Z H1 nZ _ e1 hZ => ?_
      walk_at "rd"
      refine i_T (e1.st hS) ?_
      refine k_lcFl (fun d => .int (tdp d : Nat)) (e1.st hS) (hA.mono e1.et) (by omega) (fun x d H2 Q1 hmm e hx hq => ?_) (fun x => rfl) fun D H2 nD e hD => ?_
      · walk_at "rd"
        exact ⟨x, d, rfl, hx, gdL_mem hg.2 hmm, tdp_tup hn hmm, hq⟩
      · walk_at "rd"
        refine y_addL (e _ _ hZ) hD (by have h2 : sizeLine = 16777216 := rfl; simp only [List.length_singleton, List.length_map]; omega) fun L H3 nL e3 hL => ?_
        walk_at "rd"
        refine y_maxL (ns := 0 :: ds.map fun d => (tdp d : Int)) (.of (by rw [hL, List.map_cons, List.map_map]; rfl)) (Nat.succ_pos _) fun m m1 m2 => ?_
        walk_at "rd"
        have z := q H3 (e1.trans (e.trans e3))
        rw [tdpL_max0 m1 m2]
        rw [tdp] at z
        have e2 : ((1 + tdpL ds : Nat) : Int) = 1 + (tdpL ds : Int) := by omega
        rw [e2] at z
        exact z
    | none => simp [gdD] at hg
    | bool b => simp [gdD] at hg
    | str x => simp [gdD] at hg
    | list x => simp [gdD] at hg
    | dict x => simp [gdD] at hg
theorem ok_lfits (T : Tx K mg) (C_size : ∀ n, Cal P w K mg base (n + 1) "_law_size" s_law_size P_law_size (sp_lsize K n)) (C_deep : ∀ n, Cal P w K mg base (n + 1) "_law_deep" s_law_deep P_law_deep (sp_ldeep K n)) : ∀ n, Cal P w K mg base (n + 2) "_law_fits" s_law_fits P_law_fits (sp_lfits K n)
  | 0 => (T.d_law_fits.never fun vs H Q E h => by obtain ⟨v, d, _, _, _, z, _⟩ := h; omega).up (by omega)
  | n + 1 => by
    have C_law_fits := ok_lfits T C_size C_deep n
    have C_law_size := C_size (n + 1)
    have C_law_deep := C_deep (n + 1)
    refine T.d_law_fits.ok sc_law_fits (fun vs H Q E h => ?_) (fun f cdv A outer s H vs Q E hr h => ?_)
    · obtain ⟨v, d, rfl, _⟩ := h; rfl
    obtain ⟨v, d, rfl, hd, hg, hn, h60, q⟩ := h
    refine ⟨_, PSs.nox (pss_cons (ps_if (pt_val (pe_callB call_isiU (by rfl) T.n_isinstance (by decide +kernel) (pa_cons (pv 0) (pa_cons (pe_bltn (v := .ty "int") (u := .type "int") (by rfl) T.n_int (by decide +kernel) rfl) pa_nil)))) (pss_one (ps_ret (pe_cmpR op_leU (pe_g C_law_size (hr.mono (by omega)) px0 (pa_cons (pv 0) pa_nil)) pe_int (nomark _)))) pss_nil)
      (pss_cons (ps_if (PW.pt (pw_or (pt_cmpR op_gtU (pe_callB call_lenU (by rfl) T.n_len (by decide +kernel) (pa_cons (pv 0) pa_nil)) pe_int (nomark _)) (pw_or1 (pt_not (pt_val (pe_callB (cr_all rfl) (by rfl) T.n_all (by decide +kernel) (pa_cons (pe_lc (own := [("_law_each", 1)]) rfl sc_law_fits.nd (pi_seq (pv 0)) (blkOk_by (own := [("_law_each", 1)]) (N := N_law_fits) (sc := defScope s_law_fits) (by decide +kernel)) (fun _ _ _ _ _ => (pg_name (i := 1) sc_law_fits.nd rfl (Or.inl rfl))) (fun _ _ _ _ _ => pts_nil) (fun _ _ _ _ _ => (pe_g C_law_fits (hr.mono (by omega)) px0 (pa_cons (pv 1) pa_nil)))) pa_nil))))))) (pss_one (ps_ret pe_bl)) pss_nil)
      (pss_one (ps_ret (pe_and (pe_cmpR op_leU (pe_g C_law_deep (hr.mono (by omega)) px0 (pa_cons (pv 0) pa_nil)) pe_int (nomark _)) (pe_one (pe_cmpR op_leU (pe_g C_law_size (hr.mono (by omega)) px0 (pa_cons (pv 0) pa_nil)) pe_int (nomark _)))))))), ?_⟩
    cases d with
    | int i =>
      cases hd
      walk_at "rd"
      refine y_isi (.int i) (b := true) rfl ?_
      walk_at "rd"
      refine ⟨.int i, .int i, rfl, .int i, by rw [hg, Bool.or_true], hn, h60, fun H1 e1 => ?_⟩
      walk_at "rd"
      exact q H1 e1
    | tuple ds =>
      have hg0 := hg
      cases hd with | tup hS hA =>
      walk_at "rd"
      refine y_isi (Fl.dt (.tup hS hA)) (b := false) rfl ?_
      walk_at "rd"
      rw [gdD, Bool.and_eq_true, decide_eq_true_eq] at hg
      have hl := hA.length
      refine y_lenT hS ?_
      walk_at "rd"
      refine br (fun h40 => ?_) fun h40 => ?_
      · walk_at "rd"
        have z := q H (Ex.refl H)
        rw [ftD, decide_eq_false (by omega : ¬ ds.length ≤ 40), Bool.false_and, Bool.false_and] at z
        exact z
      · walk_at "rd"
        refine i_T hS ?_
        refine k_lcFl (fun d => .bl (ftD d)) hS hA (by omega) (fun x d H1 Q1 hmm e hx hq => ?_) (fun x => rfl) fun D H2 nD e hD => ?_
        · walk_at "rd"
          exact ⟨x, d, rfl, hx, gdL_mem hg.2 hmm, tdp_tup hn hmm, Nat.le_of_lt (tdp_tup (Nat.lt_succ_of_le h60) hmm), hq⟩
        · walk_at "rd"
          refine y_all (bs := ds.map ftD) (.of (by rw [hD, List.map_map]; rfl)) ?_
          rw [← ftL_all]
          walk_at "rd"
          refine brBN (fun hf => ?_) fun hf => ?_
          · walk_at "rd"
            have z := q H2 e
            rw [ftD, hf, Bool.and_false, Bool.false_and] at z
            exact z
          · walk_at "rd"
            refine ⟨_, .tuple ds, rfl, .tup (e.st hS) (hA.mono e.et), hg0, hn, fun H3 e3 => ?_⟩
            walk_at "rd"
            have fin : ∀ H', Ex H H' → Q (.bl (decide (tdpL ds ≤ 3) && decide (1 + szL ds ≤ 1000))) H' := fun H' e' => by
              have z := q H' e'
              rw [ftD, hf, decide_eq_true (by omega : ds.length ≤ 40), Bool.true_and, Bool.true_and] at z
              exact z
            refine br (fun h4 => ?_) fun h4 => ?_
            · rw [tdp] at h4
              walk_at "rd"
              refine ⟨_, .tuple ds, rfl, .tup ((e.trans e3).st hS) (hA.mono (e.trans e3).et), by rw [hg0, Bool.or_true], hn, h60, fun H4 e4 => ?_⟩
              walk_at "rd"
              have z := fin H4 (e.trans (e3.trans e4))
              rw [decide_eq_true (by omega : tdpL ds ≤ 3), Bool.true_and] at z
              rw [szD]
              exact z
            · rw [tdp] at h4
              have z := fin H3 (e.trans e3)
              rw [decide_eq_false (by omega : ¬ tdpL ds ≤ 3), Bool.false_and] at z
              exact z
    | none => simp [gdD] at hg
    | bool b => simp [gdD] at hg
    | str x => simp [gdD] at hg
    | list x => simp [gdD] at hg
    | dict x => simp [gdD] at hg
end

end My
end

section
set_option Elab.async false
set_option linter.all false
set_option maxRecDepth 100000
set_option maxHeartbeats 4000000
namespace My
open PySem PySem.Spec PyProof.Rows L2 Ls SX
local macro_rules | `(tactic| walk_at "rd1") => `(tactic| (first | ((with_reducible refine' Ls.r_var ?hV ?_); (case hV => exact rfl)) | (with_reducible refine Ls.r_c ?_) | (with_reducible refine Ls.r_op ?_) | (with_reducible refine Ls.r_un ?_) | (with_reducible refine Ls.r_nil ?_) | (with_reducible refine Ls.r_cons ?_) | (with_reducible refine Ls.r_cb ?_) | (with_reducible refine Ls.r_ckw ?_) | (with_reducible refine Ls.r_cal ?_) | (with_reducible refine Ls.r_calK ?_) | (with_reducible refine Ls.r_tup ?_) | (with_reducible refine Ls.r_lst ?_) | (with_reducible refine Ls.r_if ?_) | (with_reducible refine Ls.r_andV ?_) | (with_reducible refine Ls.r_orV ?_) | (with_reducible refine Ls.r_notV ?_) | (with_reducible refine Ls.r_chain ?_) | (with_reducible refine Ls.r_sl ?_) | (with_reducible refine Ls.r_nopart ?_) | (with_reducible refine Ls.r_part ?_) | (with_reducible refine Ls.k_part ?_) | (with_reducible refine Ls.r_test ?_) | (with_reducible refine Ls.r_B ?_) | (with_reducible refine Ls.k_B ?_) | (with_reducible refine Ls.r_not ?_) | (with_reducible refine Ls.r_and ?_) | (with_reducible refine Ls.r_or ?_) | (with_reducible refine Ls.r_seq ?_) | (with_reducible refine Ls.r_ifS ?_) | (with_reducible refine Ls.r_next ?_) | (with_reducible refine Ls.r_brk ?_) | (with_reducible refine Ls.r_cont ?_) | (with_reducible refine Ls.r_ret ?_) | (with_reducible refine Ls.r_retN ?_) | (with_reducible refine Ls.r_drop ?_) | (with_reducible refine Ls.r_asg ?_) | (with_reducible refine Ls.r_par ?_) | (with_reducible refine Ls.k_par ?_) | ((with_reducible refine' Ls.r_aug ?hV ?_); (case hV => exact rfl)) | (with_reducible refine Ls.y_ip ?_) | (with_reducible refine Ls.g_name ?_) | (with_reducible refine Ls.g_nil ?_) | (with_reducible refine Ls.g_cons ?_) | (with_reducible refine Ls.g_sub ?_) | (with_reducible refine Ls.e_nx ?_) | (with_reducible refine Ls.e_rt ?_) | (with_reducible refine Ls.e_bk ?_) | (with_reducible refine Ls.e_ct ?_) | (with_reducible refine Ls.r_for ?_) | (with_reducible refine Ls.i_seq ?_) | (with_reducible refine Ls.i_enum ?_) | (with_reducible refine Ls.i_rng1 ?_) | (with_reducible refine Ls.r_m1 ?_) | (with_reducible refine Ls.r_m0 ?_) | (with_reducible refine Ls.k_isS ?_) | (with_reducible refine Ls.r_bm ?_) | (with_reducible refine Ls.r_lc ?_) | (with_reducible refine Ls.y_add ?_) | (with_reducible refine Ls.y_sub ?_) | (with_reducible refine Ls.y_neg ?_) | (with_reducible refine Ls.y_lt ?_) | (with_reducible refine Ls.y_le ?_) | (with_reducible refine Ls.y_gt ?_) | (with_reducible refine Ls.y_ge ?_) | (with_reducible refine Ls.y_eqI ?_) | (with_reducible refine Ls.y_eqS ?_) | (with_reducible refine Ls.y_neI ?_) | (with_reducible refine Ls.y_neS ?_) | (with_reducible refine Ls.y_isNo ?_) | (with_reducible refine Ls.y_isntNo ?_) | (with_reducible refine Ls.y_abs ?_) | (with_reducible refine Ls.y_max2 ?_) | (with_reducible refine Ls.y_min2 ?_) | (with_reducible refine Ls.y_intI ?_) | (with_reducible refine Ls.y_intB ?_) | ((with_reducible refine' Ls.y_ixL ?hS ?hA ?_); (case hS => first | assumption | exact L2.SqL.of (by assumption)); (case hA => rfl)) | ((with_reducible refine' Ls.y_ixT ?hS ?hA ?_); (case hS => first | assumption | exact L2.SqT.of (by assumption)); (case hA => rfl)) | ((with_reducible refine' Ls.y_mod ?hC ?_); (case hC => first | decide | omega)) | ((with_reducible refine' Ls.y_fdiv ?hC ?_); (case hC => first | decide | (constructor <;> omega))) | ((with_reducible refine' Ls.y_pow ?hC ?_); (case hC => exact ⟨by decide, by decide, by decide⟩)) | ((with_reducible refine' Ls.y_mul ?hC ?_); (case hC => first | exact .inr ⟨by decide, by decide⟩ | exact .inl ⟨by decide, by decide⟩ | exact .inr ⟨by omega, by omega⟩ | exact .inl ⟨by omega, by omega⟩)) | (with_reducible refine L2.iteT ?_) | (with_reducible refine L2.iteF ?_) | (with_reducible refine Ls.iteNF ?_) | (with_reducible refine Ls.iteNT ?_)))
local macro_rules | `(tactic| walk_at "rd") => `(tactic| (repeat walk_at "rd1"))

section
variable {P : Program} {w : World} {K : PySem.W.Frag} {mg : Str → Option Value} {base : Heap}
theorem ok_long (T : Tx K mg) (C_law_digit : Cal P w K mg base 1 "_law_digit" s_law_digit P_law_digit sp_digit) : Cal P w K mg base 2 "_law_long" s_law_long P_law_long sp_llong := by
  refine T.d_law_long.ok sc_law_long (fun vs H Q E h => ?_) (fun f cdv A outer s H vs Q E hr h => ?_)
  · obtain ⟨p, k, rfl, _⟩ := h; rfl
  obtain ⟨p, k, rfl, hP, hk1, hk2, q⟩ := h
  refine ⟨_, PSs.nox (pss_cons (ps_set (i := 2) sc_law_long.nd rfl (by first | exact .inl rfl | exact .inr rfl) (pe_op op_addU pe_int (pe_g C_law_digit (hr.mono (by omega)) px0 (pa_cons (pv 0) (pa_cons pe_int pa_nil)))))
      (pss_cons (ps_for PassesOwn.never rfl (pi_range1 rfl T.n_range (pa_cons (pe_op op_fdivU (pe_op op_subU (pv 1) pe_int) pe_int) pa_nil)) (pg_name (i := 3) sc_law_long.nd rfl (by first | exact .inl rfl | exact .inr rfl)) (pss_one (ps_set (i := 2) sc_law_long.nd rfl (by first | exact .inl rfl | exact .inr rfl) (pe_op op_addU (pe_op op_mulU (pe_op op_powU pe_int pe_int) (pv 2)) (pe_g C_law_digit (hr.mono (by omega)) px0 (pa_cons (pv 0) (pa_cons (pe_op op_powU pe_int pe_int) pa_nil)))))))
      (pss_cons (ps_for PassesOwn.never rfl (pi_range1 rfl T.n_range (pa_cons (pe_op op_modU (pe_op op_subU (pv 1) pe_int) pe_int) pa_nil)) (pg_name (i := 3) sc_law_long.nd rfl (by first | exact .inl rfl | exact .inr rfl)) (pss_one (ps_set (i := 2) sc_law_long.nd rfl (by first | exact .inl rfl | exact .inr rfl) (pe_op op_addU (pe_op op_mulU pe_int (pv 2)) (pe_g C_law_digit (hr.mono (by omega)) px0 (pa_cons (pv 0) (pa_cons pe_int pa_nil)))))))
      (pss_one (ps_ret (pv 2)))))), ?_⟩
  have p9 : (10 : Int) ^ (9 : Int).toNat = 1000000000 := by decide
  have n9 : (10 : Nat) ^ 9 = 1000000000 := by decide
  walk_at "rd"
  refine ⟨p, 9, rfl, hP, by decide, by decide, fun w1 H1 w0 w9 P1 e1 => ?_⟩
  walk_at "rd"
  refine i_r1 (by omega) (by omega) ?_
  refine k_forR (fun j σ' H' => ∃ (x : Nat) (o : Option V), x < 10 ^ (9 * j + 1) ∧ σ' = [some (.ref p), some (.int (k : Nat)), some (.int (x : Nat)), o] ∧ Pt H' p ∧ Em p H H')
    ⟨(1 + w1).toNat, none, by omega, by rw [Int.toNat_of_nonneg (by omega)]; rfl, P1, e1⟩ ?_ ?_
  · rintro j σ' H' hj ⟨x, o, hx, rfl, P2, e2⟩
    walk_at "rd"
    refine ⟨p, 10 ^ (9 : Int).toNat, rfl, P2, by decide, by decide, fun d H2 d0 d1 P3 e3 => ?_⟩
    walk_at "rd"
    refine ⟨1000000000 * x + d.toNat, some (.int (0 + (j : Nat))), ?_, ?_, P3, e2.trans e3⟩
    · rw [p9] at d1
      have e : (10 : Nat) ^ (9 * (j + 1) + 1) = 10 ^ 9 * 10 ^ (9 * j + 1) := by rw [← Nat.pow_add]; congr 1; omega
      rw [e, n9]
      have : 1000000000 * (x + 1) ≤ 1000000000 * 10 ^ (9 * j + 1) := Nat.mul_le_mul_left _ hx
      omega
    · rw [p9, show ((1000000000 * x + d.toNat : Nat) : Int) = 1000000000 * (x : Int) + d by omega]
      rfl
  · rintro σ' H' ⟨x, o, hx, rfl, P2, e2⟩
    walk_at "rd"
    have c0 : 0 ≤ ((k : Nat) - 1 : Int) % 9 := Int.emod_nonneg _ (by decide)
    have c1 : ((k : Nat) - 1 : Int) % 9 < 9 := Int.emod_lt_of_pos _ (by decide)
    refine i_r1 (by omega) (by omega) ?_
    have en : 9 * (((k : Nat) - 1 : Int) / 9).toNat + 1 + (((k : Nat) - 1 : Int) % 9).toNat = k := by omega
    refine k_forR (fun j σ' H' => ∃ (x : Nat) (o : Option V), x < 10 ^ (9 * (((k : Nat) - 1 : Int) / 9).toNat + 1 + j) ∧ σ' = [some (.ref p), some (.int (k : Nat)), some (.int (x : Nat)), o] ∧ Pt H' p ∧ Em p H H')
      ⟨x, o, hx, rfl, P2, e2⟩ ?_ ?_
    · rintro j σ' H' hj ⟨x, o, hx, rfl, P2, e2⟩
      walk_at "rd"
      refine ⟨p, 10, rfl, P2, by decide, by decide, fun d H2 d0 d1 P3 e3 => ?_⟩
      walk_at "rd"
      refine ⟨10 * x + d.toNat, some (.int (0 + (j : Nat))), ?_, ?_, P3, e2.trans e3⟩
      · rw [← Nat.add_assoc, Nat.pow_succ]
        omega
      · rw [show ((10 * x + d.toNat : Nat) : Int) = 10 * (x : Int) + d by omega]
        rfl
    · rintro σ' H' ⟨x, o, hx, rfl, P2, e2⟩
      walk_at "rd"
      rw [en] at hx
      exact q _ H' (Nat.lt_of_lt_of_le hx (Nat.pow_le_pow_right (by decide) hk2)) P2 e2
/-- found pieces -/
theorem gd_int {i : Int} (h : i.natAbs < 10 ^ 61) : gdD (.int i) = true := by
  rw [gdD, decide_eq_true_eq]
  exact Nat.lt_trans h (by decide +kernel)
theorem ok_heavy (T : Tx K mg) (C_law_digit : Cal P w K mg base 1 "_law_digit" s_law_digit P_law_digit sp_digit) (C_law_long : Cal P w K mg base 2 "_law_long" s_law_long P_law_long sp_llong) : Cal P w K mg base 3 "_law_heavy" s_law_heavy P_law_heavy (sp_ldraw K) := by
  refine T.d_law_heavy.ok sc_law_heavy (fun vs H Q E h => ?_) (fun f cdv A outer s H vs Q E hr h => ?_)
  · obtain ⟨p, rfl, _⟩ := h; rfl
  obtain ⟨p, rfl, hP, q⟩ := h
  refine ⟨_, PSs.nox (pss_cons (ps_set (i := 1) sc_law_heavy.nd rfl (by first | exact .inl rfl | exact .inr rfl) (pe_op op_addU (pe_lc (own := [("_law_k", 2)]) rfl sc_law_heavy.nd (pi_range1 rfl T.n_range (pa_cons pe_int pa_nil)) (blkOk_by (own := [("_law_k", 2)]) (N := N_law_heavy) (sc := defScope s_law_heavy) (by decide +kernel)) (fun _ _ _ _ _ => (pg_name (i := 2) sc_law_heavy.nd rfl (Or.inl rfl))) (fun _ _ _ _ _ => pts_nil) (fun _ _ _ _ _ => (pe_g C_law_long (hr.mono (by omega)) px0 (pa_cons (pv 0) (pa_cons pe_int pa_nil))))) (pe_lstN (pa_cons (pe_un un_negU (pe_g C_law_long (hr.mono (by omega)) px0 (pa_cons (pv 0) (pa_cons pe_int pa_nil)))) pa_nil))))
      (pss_cons (ps_if (pt_cmpR (op_eqU hr) (pe_g C_law_digit (hr.mono (by omega)) px0 (pa_cons (pv 0) (pa_cons pe_int pa_nil))) pe_int (nomark _)) (pss_one (ps_ret (pe_callTy call_tupleU (by rfl) T.n_tuple (by decide +kernel) (pa_cons (pv 1) pa_nil)))) pss_nil)
      (pss_one (ps_ret (pe_op op_addU (pe_op op_addU (pe_callTy call_tupleU (by rfl) T.n_tuple (by decide +kernel) (pa_cons (pe_slice sl_U (pv 1) po_none (po_some pe_int)) pa_nil)) (pe_tup (pa_cons (pe_callTy call_tupleU (by rfl) T.n_tuple (by decide +kernel) (pa_cons (pe_slice sl_U (pv 1) (po_some pe_int) (po_some pe_int)) pa_nil)) pa_nil))) (pe_op op_mulU (pe_tup (pa_cons pe_int pa_nil)) pe_int)))))), ?_⟩
  have h2 : sizeLine = 16777216 := rfl
  walk_at "rd"
  refine i_r1 (by decide) (by decide) ?_
  refine k_lcPot (fun y H' => ∃ d, Fl K H' y d ∧ (gdD d = true ∧ tdp d ≤ 0)) (fun y H H' e ⟨d, h1, h2⟩ => ⟨d, h1.mono e, h2⟩) hP (by decide) (fun j H3 Q1 hj e3 P3 hq => ?_) (fun x => rfl) fun D ys H3 nD e3 P3 hD hl hy => ?_
  · walk_at "rd"
    exact ⟨p, 60, rfl, P3, by decide, by decide, fun i H4 hi P4 e4 => hq (.int i) H4 e4 P4 ⟨.int i, .int i, gd_int hi, Nat.le_refl _⟩⟩
  · have hl : ys.length = 16 := hl
    walk_at "rd"
    refine ⟨p, 38, rfl, P3, by decide, by decide, fun i H4 hi P4 e4 => ?_⟩
    walk_at "rd"
    refine k_lst fun L H5 nL _ e5 hL => ?_
    obtain ⟨ds, hF, hG⟩ := fl_all hy
    have nDp : D ≠ p := fun z => by obtain ⟨_, _, hh, _⟩ := hP; rw [z] at nD; rw [nD] at hh; cases hh
    have hD5 : H5 D = some (.lst ys) := e5 _ _ (e4 _ _ nDp hD)
    walk_at "rd"
    refine y_addL hD5 hL (by simp only [List.length_singleton]; omega) fun F H6 nF e6 hF6 => ?_
    walk_at "rd"
    have P6 : Pt H6 p := (P4.ex e5).ex e6
    refine ⟨p, 2, rfl, P6, by decide, by decide, fun c H7 c0 c1 P7 e7 => ?_⟩
    have nFp : F ≠ p := fun z => by
      obtain ⟨_, _, hh, _⟩ := P4.ex e5
      rw [z] at nF; rw [nF] at hh; cases hh
    have hF7 : H7 F = some (.lst (ys ++ [.int (-i)])) := e7 _ _ nFp hF6
    have eAll : Em p H H7 := e3.trans (e4.trans (((e5.trans e6).em p).trans e7))
    have et : Et H3 H7 := (P3.et e4).trans ((e5.trans e6).et.trans (P6.et e7))
    have hFl : FlAll K H7 (ys ++ [.int (-i)]) (ds ++ [.int (-i)]) := (hF.mono et).snoc (.int _)
    have hG2 : ∀ d, d ∈ ds ++ [.int (-i)] → gdD d = true ∧ tdp d ≤ 0 := fun d hd => by
      rcases List.mem_append.mp hd with hd | hd
      · exact hG d hd
      · have : d = .int (-i) := by simpa using hd
        subst this
        exact ⟨gd_int (by omega), Nat.le_refl _⟩
    have hlen := hF.length
    walk_at "rd"
    refine br (fun hc => ?_) fun hc => ?_
    · walk_at "rd"
      refine y_tupL (.of hF7) fun l H8 nl e8 h8 => ?_
      refine q (.ref l) (.tuple (ds ++ [.int (-i)])) H8 (.tup (.of h8) (hFl.mono e8.et)) ?_ ?_ (P7.ex e8) (eAll.trans (e8.em p))
      · rw [Bool.or_eq_true]
        refine .inr ?_
        rw [gdD, Bool.and_eq_true, decide_eq_true_eq]
        exact ⟨by rw [List.length_append, List.length_singleton]; omega, gdL_of fun d hd => (hG2 d hd).1⟩
      · rw [tdp]
        have := tdpL_le (m := 0) fun d hd => (hG2 d hd).2
        omega
    · walk_at "rd"
      refine y_sliceL (.of hF7) fun A1 H8 nA e8 hA8 => ?_
      walk_at "rd"
      refine y_tupL (.of hA8) fun B1 H9 nB e9 hB9 => ?_
      walk_at "rd"
      refine y_sliceL (.of ((e8.trans e9) _ _ hF7)) fun A2 H10 nA2 e10 hA10 => ?_
      walk_at "rd"
      refine y_tupL (.of hA10) fun B2 H11 nB2 e11 hB11 => ?_
      walk_at "rd"
      refine k_tup fun B3 H12 nB3 e12 hB12 => ?_
      walk_at "rd"
      have e9' : Ex H9 H12 := e10.trans (e11.trans e12)
      refine y_addT (.of (e9' _ _ hB9)) (.of hB12) (by have := cutV_length (ys ++ [.int (-i)]) none (some 8); rw [List.length_append, List.length_singleton] at this; simp only [List.length_singleton]; omega) fun B4 H13 e13 hB13 => ?_
      walk_at "rd"
      refine k_tup fun B5 H14 nB5 e14 hB14 => ?_
      walk_at "rd"
      refine y_mulT (.of hB14) (List.cons_ne_nil _ _) (by decide) (by decide) (by decide) fun B6 H15 nB6 e15 hB15 => ?_
      refine y_addT ((e14.trans e15).st hB13) (.of hB15) (by have := cutV_length (ys ++ [.int (-i)]) none (some 8); have r := (FlAll.rep (K := K) (H := H15) (Fl.int 77) 19).length; rw [List.length_replicate] at r; rw [List.length_append, List.length_singleton] at this; show (_ ++ _ : List V).length + (List.replicate 19 [V.int 77]).flatten.length ≤ _; rw [r, List.length_append, List.length_singleton]; omega) fun B7 H16 e16 hB16 => ?_
      have ee : Ex H7 H16 := e8.trans (e9.trans (e9'.trans (e13.trans (e14.trans (e15.trans e16)))))
      obtain ⟨d1, f1, g1⟩ := hFl.cut none (some 8)
      obtain ⟨d2, f2, g2⟩ := hFl.cut (some 8) (some 16)
      have l1 := f1.length
      have l2 := f2.length
      have c1 := cutV_length (ys ++ [.int (-i)]) none (some 8)
      have c2 := cutV_length (ys ++ [.int (-i)]) (some 8) (some 16)
      rw [List.length_append, List.length_singleton] at c1 c2
      have hB2 : SqT K H16 B2 _ := (e12.trans (e13.trans (e14.trans (e15.trans e16)))).st (.of hB11)
      have hfin := ((f1.mono ee.et).append (.cons (Fl.tup hB2 (f2.mono ee.et)) .nil)).append (FlAll.rep (K := K) (H := H16) (Fl.int 77) 19)
      refine q (.ref B7) (.tuple _) H16 (.tup hB16 hfin) ?_ ?_ (P7.ex ee) (eAll.trans (ee.em p))
      · rw [Bool.or_eq_true]
        refine .inr ?_
        rw [gdD, Bool.and_eq_true, decide_eq_true_eq]
        refine ⟨by simp only [List.length_append, List.length_singleton, List.length_replicate]; omega, gdL_of fun d hd => ?_⟩
        rcases List.mem_append.mp hd with hd | hd
        · rcases List.mem_append.mp hd with hd | hd
          · exact (hG2 d (g1 d hd)).1
          · have : d = .tuple d2 := by simpa using hd
            subst this
            rw [gdD, Bool.and_eq_true, decide_eq_true_eq]
            exact ⟨by omega, gdL_of fun d hd => (hG2 d (g2 d hd)).1⟩
        · rw [List.eq_of_mem_replicate hd]
          exact gd_int (by decide)
      · rw [tdp]
        have := tdpL_le (m := 1) (ds := d1 ++ [.tuple d2] ++ List.replicate 19 (.int 77)) fun d hd => by
          rcases List.mem_append.mp hd with hd | hd
          · rcases List.mem_append.mp hd with hd | hd
            · exact Nat.le_trans (hG2 d (g1 d hd)).2 (by decide)
            · have : d = .tuple d2 := by simpa using hd
              subst this
              rw [tdp]
              have := tdpL_le (m := 0) fun d hd => (hG2 d (g2 d hd)).2
              omega
          · rw [List.eq_of_mem_replicate hd]
            exact Nat.zero_le _
        omega
end

end My
end

section
set_option Elab.async false
set_option linter.all false
set_option maxRecDepth 100000
set_option maxHeartbeats 4000000
namespace My
open PySem PySem.Spec PyProof.Rows L2 Ls SX
local macro_rules | `(tactic| walk_at "rd1") => `(tactic| (first | ((with_reducible refine' Ls.r_var ?hV ?_); (case hV => exact rfl)) | (with_reducible refine Ls.r_c ?_) | (with_reducible refine Ls.r_op ?_) | (with_reducible refine Ls.r_un ?_) | (with_reducible refine Ls.r_nil ?_) | (with_reducible refine Ls.r_cons ?_) | (with_reducible refine Ls.r_cb ?_) | (with_reducible refine Ls.r_ckw ?_) | (with_reducible refine Ls.r_cal ?_) | (with_reducible refine Ls.r_calK ?_) | (with_reducible refine Ls.r_tup ?_) | (with_reducible refine Ls.r_lst ?_) | (with_reducible refine Ls.r_if ?_) | (with_reducible refine Ls.r_andV ?_) | (with_reducible refine Ls.r_orV ?_) | (with_reducible refine Ls.r_notV ?_) | (with_reducible refine Ls.r_chain ?_) | (with_reducible refine Ls.r_sl ?_) | (with_reducible refine Ls.r_nopart ?_) | (with_reducible refine Ls.r_part ?_) | (with_reducible refine Ls.k_part ?_) | (with_reducible refine Ls.r_test ?_) | (with_reducible refine Ls.r_B ?_) | (with_reducible refine Ls.k_B ?_) | (with_reducible refine Ls.r_not ?_) | (with_reducible refine Ls.r_and ?_) | (with_reducible refine Ls.r_or ?_) | (with_reducible refine Ls.r_seq ?_) | (with_reducible refine Ls.r_ifS ?_) | (with_reducible refine Ls.r_next ?_) | (with_reducible refine Ls.r_brk ?_) | (with_reducible refine Ls.r_cont ?_) | (with_reducible refine Ls.r_ret ?_) | (with_reducible refine Ls.r_retN ?_) | (with_reducible refine Ls.r_drop ?_) | (with_reducible refine Ls.r_asg ?_) | (with_reducible refine Ls.r_par ?_) | (with_reducible refine Ls.k_par ?_) | ((with_reducible refine' Ls.r_aug ?hV ?_); (case hV => exact rfl)) | (with_reducible refine Ls.y_ip ?_) | (with_reducible refine Ls.g_name ?_) | (with_reducible refine Ls.g_nil ?_) | (with_reducible refine Ls.g_cons ?_) | (with_reducible refine Ls.g_sub ?_) | (with_reducible refine Ls.e_nx ?_) | (with_reducible refine Ls.e_rt ?_) | (with_reducible refine Ls.e_bk ?_) | (with_reducible refine Ls.e_ct ?_) | (with_reducible refine Ls.r_for ?_) | (with_reducible refine Ls.i_seq ?_) | (with_reducible refine Ls.i_enum ?_) | (with_reducible refine Ls.i_rng1 ?_) | (with_reducible refine Ls.r_m1 ?_) | (with_reducible refine Ls.r_m0 ?_) | (with_reducible refine Ls.k_isS ?_) | (with_reducible refine Ls.r_bm ?_) | (with_reducible refine Ls.r_lc ?_) | (with_reducible refine Ls.y_add ?_) | (with_reducible refine Ls.y_sub ?_) | (with_reducible refine Ls.y_neg ?_) | (with_reducible refine Ls.y_lt ?_) | (with_reducible refine Ls.y_le ?_) | (with_reducible refine Ls.y_gt ?_) | (with_reducible refine Ls.y_ge ?_) | (with_reducible refine Ls.y_eqI ?_) | (with_reducible refine Ls.y_eqS ?_) | (with_reducible refine Ls.y_neI ?_) | (with_reducible refine Ls.y_neS ?_) | (with_reducible refine Ls.y_isNo ?_) | (with_reducible refine Ls.y_isntNo ?_) | (with_reducible refine Ls.y_abs ?_) | (with_reducible refine Ls.y_max2 ?_) | (with_reducible refine Ls.y_min2 ?_) | (with_reducible refine Ls.y_intI ?_) | (with_reducible refine Ls.y_intB ?_) | ((with_reducible refine' Ls.y_ixL ?hS ?hA ?_); (case hS => first | assumption | exact L2.SqL.of (by assumption)); (case hA => rfl)) | ((with_reducible refine' Ls.y_ixT ?hS ?hA ?_); (case hS => first | assumption | exact L2.SqT.of (by assumption)); (case hA => rfl)) | ((with_reducible refine' Ls.y_mod ?hC ?_); (case hC => first | decide | omega)) | ((with_reducible refine' Ls.y_fdiv ?hC ?_); (case hC => first | decide | (constructor <;> omega))) | ((with_reducible refine' Ls.y_pow ?hC ?_); (case hC => exact ⟨by decide, by decide, by decide⟩)) | ((with_reducible refine' Ls.y_mul ?hC ?_); (case hC => first | exact .inr ⟨by decide, by decide⟩ | exact .inl ⟨by decide, by decide⟩ | exact .inr ⟨by omega, by omega⟩ | exact .inl ⟨by omega, by omega⟩)) | (with_reducible refine L2.iteT ?_) | (with_reducible refine L2.iteF ?_) | (with_reducible refine Ls.iteNF ?_) | (with_reducible refine Ls.iteNT ?_)))
local macro_rules | `(tactic| walk_at "rd") => `(tactic| (repeat walk_at "rd1"))

section
variable {P : Program} {w : World} {K : PySem.W.Frag} {mg : Str → Option Value} {base : Heap}
theorem gd_i21 {i : Int} (h : i.natAbs ≤ 10 ^ 21) : gdD (.int i) = true := by
  rw [gdD, decide_eq_true_eq]
  exact Nat.lt_of_le_of_lt h (by decide)
theorem ok_some (T : Tx K mg) (C_law_digit : Cal P w K mg base 1 "_law_digit" s_law_digit P_law_digit sp_digit) (C_law_int : Cal P w K mg base 2 "_law_int" s_law_int P_law_int sp_int) (C_law_datum : Cal P w K mg base 8 "_law_datum" s_law_datum P_law_datum (sp_ldatum K 5))
    (C_law_long : Cal P w K mg base 2 "_law_long" s_law_long P_law_long sp_llong) (C_law_heavy : Cal P w K mg base 3 "_law_heavy" s_law_heavy P_law_heavy (sp_ldraw K)) : Cal P w K mg base 9 "_law_some" s_law_some P_law_some (sp_ldraw K) := by
  refine T.d_law_some.ok sc_law_some (fun vs H Q E h => ?_) (fun f cdv A outer s H vs Q E hr h => ?_)
  · obtain ⟨p, rfl, _⟩ := h; rfl
  obtain ⟨p, rfl, hP, q⟩ := h
  refine ⟨_, PSs.nox (pss_cons (ps_set (i := 1) sc_law_some.nd rfl (by first | exact .inl rfl | exact .inr rfl) (pe_g C_law_digit (hr.mono (by omega)) px0 (pa_cons (pv 0) (pa_cons pe_int pa_nil))))
      (pss_cons (ps_if (pt_cmpR op_ltU (pv 1) pe_int (nomark _)) (pss_one (ps_ret (pe_g C_law_datum (hr.mono (by omega)) px0 (pa_cons (pv 0) (pa_cons pe_int pa_nil))))) pss_nil)
      (pss_cons (ps_if (pt_cmpR (op_eqU hr) (pv 1) pe_int (nomark _)) (pss_one (ps_ret (pe_op op_mulU (pe_ix ix_seq (pe_lstN (pa_cons pe_int (pa_cons (pe_un un_negU pe_int) pa_nil))) (pe_g C_law_digit (hr.mono (by omega)) px0 (pa_cons (pv 0) (pa_cons pe_int pa_nil))) (fun _ _ => rfl)) (pe_g C_law_long (hr.mono (by omega)) px0 (pa_cons (pv 0) (pa_cons (pe_ix ix_seq (pe_lstN (pa_cons pe_int (pa_cons pe_int (pa_cons pe_int (pa_cons pe_int (pa_cons pe_int pa_nil)))))) (pe_g C_law_digit (hr.mono (by omega)) px0 (pa_cons (pv 0) (pa_cons pe_int pa_nil))) (fun _ _ => rfl)) pa_nil)))))) pss_nil)
      (pss_cons (ps_if (pt_cmpR (op_eqU hr) (pv 1) pe_int (nomark _)) (pss_one (ps_ret (pe_callTy call_tupleU (by rfl) T.n_tuple (by decide +kernel) (pa_cons (pe_op op_mulU (pe_lstN (pa_cons (pe_g C_law_int (hr.mono (by omega)) px0 (pa_cons (pv 0) pa_nil)) pa_nil)) (pe_ix ix_seq (pe_lstN (pa_cons pe_int (pa_cons pe_int (pa_cons pe_int (pa_cons pe_int pa_nil))))) (pe_g C_law_digit (hr.mono (by omega)) px0 (pa_cons (pv 0) (pa_cons pe_int pa_nil))) (fun _ _ => rfl))) pa_nil)))) pss_nil)
      (pss_cons (ps_if (pt_cmpR (op_eqU hr) (pv 1) pe_int (nomark _)) (pss_one (ps_ret (pe_g C_law_heavy (hr.mono (by omega)) px0 (pa_cons (pv 0) pa_nil)))) pss_nil)
      (pss_cons (ps_if (pt_cmpR (op_eqU hr) (pv 1) pe_int (nomark _)) (pss_one (ps_ret (pe_const T.c_FAULT))) pss_nil)
      (pss_one (ps_ret (pe_tup (pa_cons (pe_tup (pa_cons (pe_tup (pa_cons (pe_tup (pa_cons (pe_g C_law_int (hr.mono (by omega)) px0 (pa_cons (pv 0) pa_nil)) (pa_cons (pe_un un_negU pe_int) pa_nil))) pa_nil)) (pa_cons (pe_tup pa_nil) pa_nil))) (pa_cons pe_int (pa_cons (pe_tup (pa_cons (pe_g C_law_int (hr.mono (by omega)) px0 (pa_cons (pv 0) pa_nil)) pa_nil)) pa_nil)))))))))))), ?_⟩
  walk_at "rd"
  refine ⟨p, 7, rfl, hP, by decide, by decide, fun c H1 c0 c7 P1 e1 => ?_⟩
  walk_at "rd"
  refine br (fun hc => ?_) fun hc => ?_
  · walk_at "rd"
    exact ⟨p, 4, rfl, P1, by decide, fun v d H2 hv hg ht P2 e2 => q v d H2 hv (by rw [hg, Bool.or_true]) ht P2 (e1.trans e2)⟩
  walk_at "rd"
  refine br (fun hc => ?_) fun hc => ?_
  · walk_at "rd"
    refine k_lst fun L H2 nL _ e2 hL => ?_
    walk_at "rd"
    refine ⟨p, 2, rfl, P1.ex e2, by decide, by decide, fun a H3 a0 a1 P3 e3 => ?_⟩
    have nLp : L ≠ p := fun z => by obtain ⟨_, _, hh, _⟩ := P1; rw [z] at nL; rw [nL] at hh; cases hh
    have hL3 := e3 _ _ nLp hL
    have sgn : ∀ x : Int, (x = 1 ∨ x = -1) → tOp (rMulU K) (tC (.int x)) (tCal sp_llong E0 (tCons (tVar 0) (tCons (tOp (rIx K) (tLstN (tCons (tC (.int 1)) (tCons (tC (.int 2)) (tCons (tC (.int 9)) (tCons (tC (.int 10)) (tCons (tC (.int 60)) tNil)))))) (tCal sp_digit E0 (tCons (tVar 0) (tCons (tC (.int 5)) tNil)))) tNil)))
        [some (.ref p), some (.int c)] H3 Q := fun x hx => by
      walk_at "rd"
      refine k_lst fun M H4 nM _ e4 hM => ?_
      walk_at "rd"
      refine ⟨p, 5, rfl, P3.ex e4, by decide, by decide, fun b H5 b0 b5 P5 e5 => ?_⟩
      have nMp : M ≠ p := fun z => by obtain ⟨_, _, hh, _⟩ := P3; rw [z] at nM; rw [nM] at hh; cases hh
      have hM5 := e5 _ _ nMp hM
      walk_at "rd"
      have fin : ∀ k : Nat, 1 ≤ k → k ≤ 61 → tNil [some (.ref p), some (.int c)] H5 fun xs H1 => (fun xs H2 => sp_llong (.ref p :: xs) H2 (fun y H2 => rMulU K (.int x) y H2 Q) E0) (.int (k : Nat) :: xs) H1 := fun k k1 k2 => by
        walk_at "rd"
        refine ⟨p, k, rfl, P5, k1, k2, fun i H6 hi P6 e6 => ?_⟩
        have hx2 : x * i = i ∨ x * i = -i := by rcases hx with rfl | rfl <;> omega
        refine y_mul (.inl (by rcases hx with rfl | rfl <;> decide)) ?_
        refine q _ (.int (x * i)) H6 (.int _) (by rw [Bool.or_eq_true]; exact .inr (gd_int (by rcases hx2 with h | h <;> rw [h] <;> omega))) (Nat.zero_le _) P6 (((e1.trans (e2.em p)).trans e3).trans ((e4.em p).trans (e5.trans e6)))
      rcases (show b = 0 ∨ b = 1 ∨ b = 2 ∨ b = 3 ∨ b = 4 by omega) with rfl | rfl | rfl | rfl | rfl
      · exact y_ixL (.of hM5) rfl (fin 1 (by decide) (by decide))
      · exact y_ixL (.of hM5) rfl (fin 2 (by decide) (by decide))
      · exact y_ixL (.of hM5) rfl (fin 9 (by decide) (by decide))
      · exact y_ixL (.of hM5) rfl (fin 10 (by decide) (by decide))
      · exact y_ixL (.of hM5) rfl (fin 60 (by decide) (by decide))
    rcases (show a = 0 ∨ a = 1 by omega) with rfl | rfl
    · exact y_ixL (.of hL3) rfl (sgn 1 (.inl rfl))
    · exact y_ixL (.of hL3) rfl (sgn (-1) (.inr rfl))
  walk_at "rd"
  refine br (fun hc => ?_) fun hc => ?_
  · walk_at "rd"
    refine ⟨p, rfl, P1, fun i H2 hi P2 e2 => ?_⟩
    walk_at "rd"
    refine k_lst fun L H3 nL _ e3 hL => ?_
    walk_at "rd"
    refine k_lst fun M H4 nM _ e4 hM => ?_
    walk_at "rd"
    refine ⟨p, 4, rfl, (P2.ex e3).ex e4, by decide, by decide, fun b H5 b0 b4 P5 e5 => ?_⟩
    have nLp : L ≠ p := fun z => by obtain ⟨_, _, hh, _⟩ := P2; rw [z] at nL; rw [nL] at hh; cases hh
    have nMp : M ≠ p := fun z => by obtain ⟨_, _, hh, _⟩ := P2.ex e3; rw [z] at nM; rw [nM] at hh; cases hh
    have hM5 := e5 _ _ nMp hM
    have hL5 := e5 _ _ nLp (e4 _ _ hL)
    have fin : ∀ k : Nat, k ≤ 40 → rMulU K (.ref L) (.int (k : Nat)) H5 fun x H1 => tNil [some (.ref p), some (.int c)] H1 fun xs H2 => rTupOf K (x :: xs) H2 Q := fun k hk => by
      refine y_mulL hL5 (by omega) (by omega) (by simp) fun N H6 nN e6 hN => ?_
      walk_at "rd"
      refine y_tupL (.of hN) fun l H7 nl e7 h7 => ?_
      refine q (.ref l) (.tuple (List.replicate k (.int i))) H7 (.tup (.of h7) ?_) ?_ ?_ ((P5.ex e6).ex e7) ((((e1.trans e2).trans ((e3.trans e4).em p)).trans e5).trans ((e6.trans e7).em p))
      · rw [Int.toNat_natCast]
        exact FlAll.rep (.int i) k
      · rw [Bool.or_eq_true]
        refine .inr ?_
        rw [gdD, Bool.and_eq_true, decide_eq_true_eq, List.length_replicate]
        exact ⟨by omega, gdL_of fun d hd => by rw [List.eq_of_mem_replicate hd]; exact gd_i21 hi⟩
      · rw [tdp]
        have := tdpL_le (m := 0) (ds := List.replicate k (.int i)) fun d hd => by rw [List.eq_of_mem_replicate hd]; exact Nat.le_refl _
        omega
    walk_at "rd"
    rcases (show b = 0 ∨ b = 1 ∨ b = 2 ∨ b = 3 by omega) with rfl | rfl | rfl | rfl
    · exact y_ixL (.of hM5) rfl (fin 40 (by decide))
    · exact y_ixL (.of hM5) rfl (fin 39 (by decide))
    · exact y_ixL (.of hM5) rfl (fin 2 (by decide))
    · exact y_ixL (.of hM5) rfl (fin 0 (by decide))
  walk_at "rd"
  refine br (fun hc => ?_) fun hc => ?_
  · walk_at "rd"
    exact ⟨p, rfl, P1, fun v d H2 hv hg ht P2 e2 => q v d H2 hv hg ht P2 (e1.trans e2)⟩
  walk_at "rd"
  refine br (fun hc => ?_) fun hc => ?_
  · walk_at "rd"
    exact q _ (.str (Str.ofString "fault")) H1 (.str _) rfl (Nat.zero_le _) P1 e1
  walk_at "rd"
  refine ⟨p, rfl, P1, fun i H2 hi P2 e2 => ?_⟩
  walk_at "rd"
  refine k_tup fun A1 H3 n1 e3 h1 => ?_
  walk_at "rd"
  refine k_tup fun A2 H4 n2 e4 h2 => ?_
  walk_at "rd"
  refine k_tup fun A3 H5 n3 e5 h3 => ?_
  walk_at "rd"
  refine k_tup fun A4 H6 n4 e6 h4 => ?_
  walk_at "rd"
  refine ⟨p, rfl, (((P2.ex e3).ex e4).ex e5).ex e6, fun j H7 hj P7 e7 => ?_⟩
  walk_at "rd"
  refine k_tup fun A5 H8 n5 e8 h5 => ?_
  walk_at "rd"
  refine k_tup fun A6 H9 n6 e9 h6 => ?_
  have t7 : Et H6 H9 := ((((P2.ex e3).ex e4).ex e5).ex e6 |>.et e7).trans (e8.trans e9).et
  have f1 : Fl K H9 (.ref A1) (.tuple [.int i, .int (-0)]) := .tup (t7.st ((e4.trans (e5.trans e6)).st (.of h1))) (.cons (.int _) (.cons (.int _) .nil))
  have f2 : Fl K H9 (.ref A2) (.tuple [.tuple [.int i, .int (-0)]]) := .tup (t7.st ((e5.trans e6).st (.of h2))) (.cons f1 .nil)
  have f3 : Fl K H9 (.ref A3) (.tuple []) := .tup (t7.st (e6.st (.of h3))) .nil
  have f4 : Fl K H9 (.ref A4) (.tuple [.tuple [.tuple [.int i, .int (-0)]], .tuple []]) := .tup (t7.st (.of h4)) (.cons f2 (.cons f3 .nil))
  have f5 : Fl K H9 (.ref A5) (.tuple [.int j]) := .tup (e9.st (.of h5)) (.cons (.int _) .nil)
  refine q (.ref A6) (.tuple [.tuple [.tuple [.tuple [.int i, .int (-0)]], .tuple []], .int 0, .tuple [.int j]]) H9 (.tup (.of h6) (.cons f4 (.cons (.int _) (.cons f5 .nil)))) ?_ ?_ (P7.ex (e8.trans e9)) ((e1.trans e2).trans (((e3.trans (e4.trans (e5.trans e6))).em p).trans (e7.trans ((e8.trans e9).em p))))
  · rw [Bool.or_eq_true]
    refine .inr ?_
    have gi := gd_i21 hi
    have gj := gd_i21 hj
    rw [gdD, decide_eq_true_eq] at gi gj
    simp [gdD, gdL]
    simp at gi gj
    exact ⟨gi, gj⟩
  · simp [tdp, tdpL]
end

end My
end

section
set_option Elab.async false
set_option linter.all false
set_option maxRecDepth 100000
set_option maxHeartbeats 4000000
namespace My
open PySem PySem.Spec PyProof.Rows L2 Ls SX
local macro_rules | `(tactic| walk_at "rd1") => `(tactic| (first | ((with_reducible refine' Ls.r_var ?hV ?_); (case hV => exact rfl)) | (with_reducible refine Ls.r_c ?_) | (with_reducible refine Ls.r_op ?_) | (with_reducible refine Ls.r_un ?_) | (with_reducible refine Ls.r_nil ?_) | (with_reducible refine Ls.r_cons ?_) | (with_reducible refine Ls.r_cb ?_) | (with_reducible refine Ls.r_ckw ?_) | (with_reducible refine Ls.r_cal ?_) | (with_reducible refine Ls.r_calK ?_) | (with_reducible refine Ls.r_tup ?_) | (with_reducible refine Ls.r_lst ?_) | (with_reducible refine Ls.r_if ?_) | (with_reducible refine Ls.r_andV ?_) | (with_reducible refine Ls.r_orV ?_) | (with_reducible refine Ls.r_notV ?_) | (with_reducible refine Ls.r_chain ?_) | (with_reducible refine Ls.r_sl ?_) | (with_reducible refine Ls.r_nopart ?_) | (with_reducible refine Ls.r_part ?_) | (with_reducible refine Ls.k_part ?_) | (with_reducible refine Ls.r_test ?_) | (with_reducible refine Ls.r_B ?_) | (with_reducible refine Ls.k_B ?_) | (with_reducible refine Ls.r_not ?_) | (with_reducible refine Ls.r_and ?_) | (with_reducible refine Ls.r_or ?_) | (with_reducible refine Ls.r_seq ?_) | (with_reducible refine Ls.r_ifS ?_) | (with_reducible refine Ls.r_next ?_) | (with_reducible refine Ls.r_brk ?_) | (with_reducible refine Ls.r_cont ?_) | (with_reducible refine Ls.r_ret ?_) | (with_reducible refine Ls.r_retN ?_) | (with_reducible refine Ls.r_drop ?_) | (with_reducible refine Ls.r_asg ?_) | (with_reducible refine Ls.r_par ?_) | (with_reducible refine Ls.k_par ?_) | ((with_reducible refine' Ls.r_aug ?hV ?_); (case hV => exact rfl)) | (with_reducible refine Ls.y_ip ?_) | (with_reducible refine Ls.g_name ?_) | (with_reducible refine Ls.g_nil ?_) | (with_reducible refine Ls.g_cons ?_) | (with_reducible refine Ls.g_sub ?_) | (with_reducible refine Ls.e_nx ?_) | (with_reducible refine Ls.e_rt ?_) | (with_reducible refine Ls.e_bk ?_) | (with_reducible refine Ls.e_ct ?_) | (with_reducible refine Ls.r_for ?_) | (with_reducible refine Ls.i_seq ?_) | (with_reducible refine Ls.i_enum ?_) | (with_reducible refine Ls.i_rng1 ?_) | (with_reducible refine Ls.r_m1 ?_) | (with_reducible refine Ls.r_m0 ?_) | (with_reducible refine Ls.k_isS ?_) | (with_reducible refine Ls.r_bm ?_) | (with_reducible refine Ls.r_lc ?_) | (with_reducible refine Ls.y_add ?_) | (with_reducible refine Ls.y_sub ?_) | (with_reducible refine Ls.y_neg ?_) | (with_reducible refine Ls.y_lt ?_) | (with_reducible refine Ls.y_le ?_) | (with_reducible refine Ls.y_gt ?_) | (with_reducible refine Ls.y_ge ?_) | (with_reducible refine Ls.y_eqI ?_) | (with_reducible refine Ls.y_eqS ?_) | (with_reducible refine Ls.y_neI ?_) | (with_reducible refine Ls.y_neS ?_) | (with_reducible refine Ls.y_isNo ?_) | (with_reducible refine Ls.y_isntNo ?_) | (with_reducible refine Ls.y_abs ?_) | (with_reducible refine Ls.y_max2 ?_) | (with_reducible refine Ls.y_min2 ?_) | (with_reducible refine Ls.y_intI ?_) | (with_reducible refine Ls.y_intB ?_) | ((with_reducible refine' Ls.y_ixL ?hS ?hA ?_); (case hS => first | assumption | exact L2.SqL.of (by assumption)); (case hA => rfl)) | ((with_reducible refine' Ls.y_ixT ?hS ?hA ?_); (case hS => first | assumption | exact L2.SqT.of (by assumption)); (case hA => rfl)) | ((with_reducible refine' Ls.y_mod ?hC ?_); (case hC => first | decide | omega)) | ((with_reducible refine' Ls.y_fdiv ?hC ?_); (case hC => first | decide | (constructor <;> omega))) | ((with_reducible refine' Ls.y_pow ?hC ?_); (case hC => exact ⟨by decide, by decide, by decide⟩)) | ((with_reducible refine' Ls.y_mul ?hC ?_); (case hC => first | exact .inr ⟨by decide, by decide⟩ | exact .inl ⟨by decide, by decide⟩ | exact .inr ⟨by omega, by omega⟩ | exact .inl ⟨by omega, by omega⟩)) | (with_reducible refine L2.iteT ?_) | (with_reducible refine L2.iteF ?_) | (with_reducible refine Ls.iteNF ?_) | (with_reducible refine Ls.iteNT ?_)))
local macro_rules | `(tactic| walk_at "rd") => `(tactic| (repeat walk_at "rd1"))

section
variable {P : Program} {w : World} {K : PySem.W.Frag} {mg : Str → Option Value} {base : Heap}
theorem ok_ltext (T : Tx K mg) : ∀ n, Cal P w K mg base (n + 1) "_law_text" s_law_text P_law_text (sp_ltext K n)
  | 0 => (T.d_law_text.never fun vs H Q E h => by obtain ⟨v, d, _, _, _, z, _⟩ := h; omega).up (by omega)
  | n + 1 => by
    have C_law_text := ok_ltext T n
    refine T.d_law_text.ok sc_law_text (fun vs H Q E h => ?_) (fun f cdv A outer s H vs Q E hr h => ?_)
    · obtain ⟨v, d, rfl, _⟩ := h; rfl
    obtain ⟨v, d, rfl, hd, hg, hn, q⟩ := h
    refine ⟨_, PSs.nox (pss_cons (ps_if (pt_val (pe_callB call_isiU (by rfl) T.n_isinstance (by decide +kernel) (pa_cons (pv 0) (pa_cons (pe_bltn (v := .ty "str") (u := .type "str") (by rfl) T.n_str (by decide +kernel) rfl) pa_nil)))) (pss_one (ps_ret pe_str)) pss_nil)
      (pss_cons (ps_if (pt_val (pe_callB call_isiU (by rfl) T.n_isinstance (by decide +kernel) (pa_cons (pv 0) (pa_cons (pe_bltn (v := .ty "int") (u := .type "int") (by rfl) T.n_int (by decide +kernel) rfl) pa_nil)))) (pss_one (ps_ret (pe_callTy call_strU (by rfl) T.n_str (by decide +kernel) (pa_cons (pv 0) pa_nil)))) pss_nil)
      (pss_cons (ps_set (i := 1) sc_law_text.nd rfl (by first | exact .inl rfl | exact .inr rfl) pe_str)
      (pss_cons (ps_for PassesOwn.never rfl (pi_enumU rfl T.n_enumerate (pa_cons (pv 0) pa_nil)) (pg_tup rfl (pgs_cons (pg_name (i := 2) sc_law_text.nd rfl (by first | exact .inl rfl | exact .inr rfl)) (pgs_cons (pg_name (i := 3) sc_law_text.nd rfl (by first | exact .inl rfl | exact .inr rfl)) pgs_nil))) (pss_one (ps_set (i := 1) sc_law_text.nd rfl (by first | exact .inl rfl | exact .inr rfl) (pe_op op_addU (pe_op op_addU (pv 1) (pe_ifExp (pt_cmpR (op_eqU hr) (pv 2) pe_int (nomark _)) pe_str pe_str)) (pe_g C_law_text (hr.mono (by omega)) px0 (pa_cons (pv 3) pa_nil))))))
      (pss_one (ps_ret (pe_op op_addU (pv 1) pe_str))))))), ?_⟩
    have h2 : sizeLine = 16777216 := rfl
    have hlen := drawn_len hg
    cases hF : isF d with
    | true =>
      have e := isF_inv hF
      subst e
      cases hd
      walk_at "rd"
      refine y_isi (.str _) (b := true) rfl ?_
      walk_at "rd"
      have z := q H (Ex.refl H)
      rw [isF_tx hF, ← q_fault] at z
      exact z
    | false =>
    unfold drawn at hg
    rw [hF, Bool.false_or, Bool.and_eq_true] at hg
    cases d with
    | int i =>
      cases hd
      walk_at "rd"
      refine y_isi (.int i) (b := false) rfl ?_
      walk_at "rd"
      refine y_isi (.int i) (b := true) rfl ?_
      walk_at "rd"
      have hm' : i.natAbs.log2 < 1920 := by have h1 := hg.1; rw [gdD, decide_eq_true_eq] at h1; exact gd_log h1
      refine y_strC hm' ?_
      exact q H (Ex.refl H)
    | tuple ds =>
      cases hd with | tup hS hA =>
      walk_at "rd"
      refine y_isi (Fl.dt (.tup hS hA)) (b := false) rfl ?_
      walk_at "rd"
      refine y_isi (Fl.dt (.tup hS hA)) (b := false) rfl ?_
      walk_at "rd"
      obtain ⟨hg1, hg2⟩ := hg
      rw [gdD, Bool.and_eq_true, decide_eq_true_eq] at hg1
      rw [ftD] at hg2
      simp only [Bool.and_eq_true, decide_eq_true_eq] at hg2
      have hl := hA.length
      have eD : txD (.tuple ds) = 91 :: (txL ds ++ [93]) := by rw [txD]
      refine i_eT hS ?_
      rw [q_open, q_empty, q_comma, q_close]
      have htake : ∀ j, (txL (ds.take j)).length ≤ (txL ds).length := fun j => by
        have key : ∀ (es fs : List PyData), (txL es).length ≤ (txL (es ++ fs)).length := by
          intro es fs
          cases es with
          | nil => rw [txL]; exact Nat.zero_le _
          | cons e es =>
            have k2 : ∀ l : List PyData, (txM l).length ≤ (txM (l ++ fs)).length := by
              intro l
              induction l with
              | nil => rw [txM]; exact Nat.zero_le _
              | cons a l ih => rw [List.cons_append, txM, txM]; simp only [List.length_cons, List.length_append]; omega
            have := k2 es
            rw [List.cons_append, txL, txL]
            simp only [List.length_append]
            omega
        have := key (ds.take j) (ds.drop j)
        rw [List.take_append_drop] at this
        exact this
      rw [eD, List.length_cons, List.length_append, List.length_singleton] at hlen
      refine k_forEU (fun j σ' H' => Ex H H' ∧ ∃ o1 o2, σ' = [some (.ref _), some (.str (S (91 :: txL (ds.take j)))), o1, o2]) ⟨Ex.refl H, none, none, rfl⟩ (fun j σ' H' _ p => p.1.st hS) ?_ ?_
      · rintro j x T2 σ' H' H1 hx ⟨e1, o1, o2, rfl⟩ nT eT hT
        obtain ⟨d, hd, hfl⟩ := hA.get hx
        have hmm : d ∈ ds := List.mem_of_getElem? hd
        refine g_tup (.of hT) rfl ?_
        walk_at "rd"
        have hj : j < ds.length := (List.getElem?_eq_some_iff.mp hd).1
        have esn : ds.take (j + 1) = ds.take j ++ [d] := by rw [List.take_add_one, hd]; rfl
        have htk := htake j
        have htk1 := htake (j + 1)
        rw [esn, txL_snoc, List.length_append, List.length_append] at htk1
        have enil : ds.take j = [] ↔ j = 0 := by
          rw [List.take_eq_nil_iff]
          constructor
          · rintro (h | h)
            · exact h
            · rw [h] at hj; exact absurd hj (Nat.not_lt_zero _)
          · exact .inl
        refine br (fun h0 => ?_) fun h0 => ?_
        · have h0' : j = 0 := by omega
          rw [if_pos (enil.mpr h0')] at htk1
          walk_at "rd"
          refine y_addC (by simp only [List.length_cons, List.length_nil]; omega) ?_
          walk_at "rd"
          refine ⟨x, d, rfl, hfl.mono (e1.trans eT).et, by unfold drawn; rw [gdL_mem hg1.2 hmm, (show ftD d = true by have := ftL_all ds; rw [hg2.1.2] at this; exact (List.all_eq_true.mp this.symm) _ (List.mem_map.mpr ⟨d, hmm, rfl⟩)), Bool.and_self, Bool.or_true], tdp_tup hn hmm, fun H2 e2 => ?_⟩
          refine y_addC (by simp only [List.length_cons, List.length_append, List.length_nil]; omega) ?_
          walk_at "rd"
          refine ⟨(e1.trans eT).trans e2, _, _, by rw [esn, txL_snoc, if_pos (enil.mpr h0')]; rfl⟩
        · rw [if_neg (fun z => h0 (by have := enil.mp z; omega)), List.length_singleton] at htk1
          walk_at "rd"
          refine y_addC (by simp only [List.length_cons, List.length_nil]; omega) ?_
          walk_at "rd"
          refine ⟨x, d, rfl, hfl.mono (e1.trans eT).et, by unfold drawn; rw [gdL_mem hg1.2 hmm, (show ftD d = true by have := ftL_all ds; rw [hg2.1.2] at this; exact (List.all_eq_true.mp this.symm) _ (List.mem_map.mpr ⟨d, hmm, rfl⟩)), Bool.and_self, Bool.or_true], tdp_tup hn hmm, fun H2 e2 => ?_⟩
          refine y_addC (by simp only [List.length_cons, List.length_append, List.length_nil]; omega) ?_
          walk_at "rd"
          refine ⟨(e1.trans eT).trans e2, _, _, by rw [esn, txL_snoc, if_neg (fun z => h0 (by have := enil.mp z; omega))]; rfl⟩
      · rintro σ' H' ⟨e1, o1, o2, rfl⟩
        rw [hl, List.take_length]
        walk_at "rd"
        refine y_addC (by simp only [List.length_cons, List.length_nil]; omega) ?_
        have z := q H' e1
        rw [eD] at z
        exact z
    | none => simp [gdD] at hg
    | bool b => simp [gdD] at hg
    | str x => simp [gdD] at hg
    | list x => simp [gdD] at hg
    | dict x => simp [gdD] at hg
end

end My
end

section
set_option Elab.async false
set_option linter.all false
set_option maxRecDepth 100000
set_option maxHeartbeats 4000000
namespace My
open PySem PySem.Spec PyProof.Rows L2 Ls SX
local macro_rules | `(tactic| walk_at "rd1") => `(tactic| (first | ((with_reducible refine' Ls.r_var ?hV ?_); (case hV => exact rfl)) | (with_reducible refine Ls.r_c ?_) | (with_reducible refine Ls.r_op ?_) | (with_reducible refine Ls.r_un ?_) | (with_reducible refine Ls.r_nil ?_) | (with_reducible refine Ls.r_cons ?_) | (with_reducible refine Ls.r_cb ?_) | (with_reducible refine Ls.r_ckw ?_) | (with_reducible refine Ls.r_cal ?_) | (with_reducible refine Ls.r_calK ?_) | (with_reducible refine Ls.r_tup ?_) | (with_reducible refine Ls.r_lst ?_) | (with_reducible refine Ls.r_if ?_) | (with_reducible refine Ls.r_andV ?_) | (with_reducible refine Ls.r_orV ?_) | (with_reducible refine Ls.r_notV ?_) | (with_reducible refine Ls.r_chain ?_) | (with_reducible refine Ls.r_sl ?_) | (with_reducible refine Ls.r_nopart ?_) | (with_reducible refine Ls.r_part ?_) | (with_reducible refine Ls.k_part ?_) | (with_reducible refine Ls.r_test ?_) | (with_reducible refine Ls.r_B ?_) | (with_reducible refine Ls.k_B ?_) | (with_reducible refine Ls.r_not ?_) | (with_reducible refine Ls.r_and ?_) | (with_reducible refine Ls.r_or ?_) | (with_reducible refine Ls.r_seq ?_) | (with_reducible refine Ls.r_ifS ?_) | (with_reducible refine Ls.r_next ?_) | (with_reducible refine Ls.r_brk ?_) | (with_reducible refine Ls.r_cont ?_) | (with_reducible refine Ls.r_ret ?_) | (with_reducible refine Ls.r_retN ?_) | (with_reducible refine Ls.r_drop ?_) | (with_reducible refine Ls.r_asg ?_) | (with_reducible refine Ls.r_par ?_) | (with_reducible refine Ls.k_par ?_) | ((with_reducible refine' Ls.r_aug ?hV ?_); (case hV => exact rfl)) | (with_reducible refine Ls.y_ip ?_) | (with_reducible refine Ls.g_name ?_) | (with_reducible refine Ls.g_nil ?_) | (with_reducible refine Ls.g_cons ?_) | (with_reducible refine Ls.g_sub ?_) | (with_reducible refine Ls.e_nx ?_) | (with_reducible refine Ls.e_rt ?_) | (with_reducible refine Ls.e_bk ?_) | (with_reducible refine Ls.e_ct ?_) | (with_reducible refine Ls.r_for ?_) | (with_reducible refine Ls.i_seq ?_) | (with_reducible refine Ls.i_enum ?_) | (with_reducible refine Ls.i_rng1 ?_) | (with_reducible refine Ls.r_m1 ?_) | (with_reducible refine Ls.r_m0 ?_) | (with_reducible refine Ls.k_isS ?_) | (with_reducible refine Ls.r_bm ?_) | (with_reducible refine Ls.r_lc ?_) | (with_reducible refine Ls.y_add ?_) | (with_reducible refine Ls.y_sub ?_) | (with_reducible refine Ls.y_neg ?_) | (with_reducible refine Ls.y_lt ?_) | (with_reducible refine Ls.y_le ?_) | (with_reducible refine Ls.y_gt ?_) | (with_reducible refine Ls.y_ge ?_) | (with_reducible refine Ls.y_eqI ?_) | (with_reducible refine Ls.y_eqS ?_) | (with_reducible refine Ls.y_neI ?_) | (with_reducible refine Ls.y_neS ?_) | (with_reducible refine Ls.y_isNo ?_) | (with_reducible refine Ls.y_isntNo ?_) | (with_reducible refine Ls.y_abs ?_) | (with_reducible refine Ls.y_max2 ?_) | (with_reducible refine Ls.y_min2 ?_) | (with_reducible refine Ls.y_intI ?_) | (with_reducible refine Ls.y_intB ?_) | ((with_reducible refine' Ls.y_ixL ?hS ?hA ?_); (case hS => first | assumption | exact L2.SqL.of (by assumption)); (case hA => rfl)) | ((with_reducible refine' Ls.y_ixT ?hS ?hA ?_); (case hS => first | assumption | exact L2.SqT.of (by assumption)); (case hA => rfl)) | ((with_reducible refine' Ls.y_mod ?hC ?_); (case hC => first | decide | omega)) | ((with_reducible refine' Ls.y_fdiv ?hC ?_); (case hC => first | decide | (constructor <;> omega))) | ((with_reducible refine' Ls.y_pow ?hC ?_); (case hC => exact ⟨by decide, by decide, by decide⟩)) | ((with_reducible refine' Ls.y_mul ?hC ?_); (case hC => first | exact .inr ⟨by decide, by decide⟩ | exact .inl ⟨by decide, by decide⟩ | exact .inr ⟨by omega, by omega⟩ | exact .inl ⟨by omega, by omega⟩)) | (with_reducible refine L2.iteT ?_) | (with_reducible refine L2.iteF ?_) | (with_reducible refine Ls.iteNF ?_) | (with_reducible refine Ls.iteNT ?_)))
local macro_rules | `(tactic| walk_at "rd") => `(tactic| (repeat walk_at "rd1"))

section
variable {P : Program} {w : World} {K : PySem.W.Frag} {mg : Str → Option Value} {base : Heap}
theorem ok_right (T : Tx K mg) (C_law_some : Cal P w K mg base 9 "_law_some" s_law_some P_law_some (sp_ldraw K)) (C_law_fits : Cal P w K mg base 7 "_law_fits" s_law_fits P_law_fits (sp_lfits K 5)) (C_law_text : Cal P w K mg base 6 "_law_text" s_law_text P_law_text (sp_ltext K 5))
    (C_law_size : Cal P w K mg base 6 "_law_size" s_law_size P_law_size (sp_lsize K 5)) (C_size_of : Cal P w K mg base 11 "size_of" s_size_of P_size_of (sp_sizeof K 5)) (C_format_value : Cal P w K mg base 11 "format_value" s_format_value P_format_value (sp_format K 5)) (C_parse_value : Cal P w K mg base 14 "parse_value" s_parse_value P_parse_value (sp_parse K 5)) :
    Cal P w K mg base 15 "_law_right" s_law_right P_law_right sp_lright := by
  refine T.d_law_right.ok sc_law_right (fun vs H Q E h => ?_) (fun f cdv A outer s H vs Q E hr h => ?_)
  · obtain ⟨p, rfl, _⟩ := h; rfl
  obtain ⟨p, rfl, hP, q⟩ := h
  refine ⟨_, PSs.nox (pss_cons (ps_set (i := 1) sc_law_right.nd rfl (by first | exact .inl rfl | exact .inr rfl) (pe_g C_law_some (hr.mono (by omega)) px0 (pa_cons (pv 0) pa_nil)))
      (pss_cons (ps_if (PW.pt (pw_and (pt_not (pt_val (pe_callB call_isiU (by rfl) T.n_isinstance (by decide +kernel) (pa_cons (pv 1) (pa_cons (pe_bltn (v := .ty "str") (u := .type "str") (by rfl) T.n_str (by decide +kernel) rfl) pa_nil))))) (pw_and1 (pt_not (pt_val (pe_g C_law_fits (hr.mono (by omega)) px0 (pa_cons (pv 1) pa_nil))))))) (pss_one (ps_ret pe_bl)) pss_nil)
      (pss_cons (ps_par (i := 2) (j := 3) rfl sc_law_right.nd rfl rfl (by decide) rfl rfl (pa_cons (pe_g C_law_text (hr.mono (by omega)) px0 (pa_cons (pv 1) pa_nil)) (pa_cons (pe_callB (call_repr hr) (by rfl) T.n_repr (by decide +kernel) (pa_cons (pv 1) pa_nil)) pa_nil)) (by rfl))
      (pss_cons (ps_if (pt_cmpR (op_neU hr) (pe_callB (call_repr hr) (by rfl) T.n_repr (by decide +kernel) (pa_cons (pe_lstN (pa_cons (pe_g C_size_of (hr.mono (by omega)) px0 (pa_cons (pv 1) pa_nil)) (pa_cons (pe_gi (ks := ["value"]) C_size_of (hr.mono (by omega)) px0 (pk_cons (pv 1) pk_nil) (by rfl) (fun _ _ _ _ _ _ us hl => match us, hl with | [_], _ => rfl)) pa_nil))) pa_nil)) (pe_callB (call_repr hr) (by rfl) T.n_repr (by decide +kernel) (pa_cons (pe_op op_mulU (pe_lstN (pa_cons (pe_g C_law_size (hr.mono (by omega)) px0 (pa_cons (pv 1) pa_nil)) pa_nil)) pe_int) pa_nil)) (nomark _)) (pss_one (ps_ret pe_bl)) pss_nil)
      (pss_cons (ps_if (pt_cmpR (op_neU hr) (pe_callB (call_repr hr) (by rfl) T.n_repr (by decide +kernel) (pa_cons (pe_lstN (pa_cons (pe_g C_format_value (hr.mono (by omega)) px0 (pa_cons (pv 1) pa_nil)) (pa_cons (pe_gi (ks := ["value"]) C_format_value (hr.mono (by omega)) px0 (pk_cons (pv 1) pk_nil) (by rfl) (fun _ _ _ _ _ _ us hl => match us, hl with | [_], _ => rfl)) pa_nil))) pa_nil)) (pe_callB (call_repr hr) (by rfl) T.n_repr (by decide +kernel) (pa_cons (pe_lstN (pa_cons (pv 2) (pa_cons (pv 2) pa_nil))) pa_nil)) (nomark _)) (pss_one (ps_ret pe_bl)) pss_nil)
      (pss_cons (ps_if (pt_cmpR (op_neU hr) (pe_callB (call_repr hr) (by rfl) T.n_repr (by decide +kernel) (pa_cons (pe_lstN (pa_cons (pe_g C_parse_value (hr.mono (by omega)) px0 (pa_cons (pv 2) pa_nil)) (pa_cons (pe_gi (ks := ["text"]) C_parse_value (hr.mono (by omega)) px0 (pk_cons (pv 2) pk_nil) (by rfl) (fun _ _ _ _ _ _ us hl => match us, hl with | [_], _ => rfl)) pa_nil))) pa_nil)) (pe_callB (call_repr hr) (by rfl) T.n_repr (by decide +kernel) (pa_cons (pe_lstN (pa_cons (pv 1) (pa_cons (pv 1) pa_nil))) pa_nil)) (nomark _)) (pss_one (ps_ret pe_bl)) pss_nil)
      (pss_cons (ps_if (pt_val (pe_callB call_isiU (by rfl) T.n_isinstance (by decide +kernel) (pa_cons (pv 1) (pa_cons (pe_bltn (v := .ty "tuple") (u := .type "tuple") (by rfl) T.n_tuple (by decide +kernel) rfl) pa_nil)))) (pss_cons (ps_set (i := 4) sc_law_right.nd rfl (by first | exact .inl rfl | exact .inr rfl) (pe_joinU pe_str (pe_lc (own := [("_law_each", 5)]) rfl sc_law_right.nd (pi_seq (pv 1)) (blkOk_by (own := [("_law_each", 5)]) (N := N_law_right) (sc := defScope s_law_right) (by decide +kernel)) (fun _ _ _ _ _ => (pg_name (i := 5) sc_law_right.nd rfl (Or.inl rfl))) (fun _ _ _ _ _ => pts_nil) (fun _ _ _ _ _ => (pe_g C_format_value (hr.mono (by omega)) px0 (pa_cons (pv 5) pa_nil))))))
      (pss_one (ps_if (PW.pt (pw_or (pt_cmpR (op_neU hr) (pv 2) (pe_op op_addU (pe_op op_addU pe_str (pv 4)) pe_str) (nomark _)) (pw_or1 (pt_cmpR (op_neU hr) (pe_g C_size_of (hr.mono (by omega)) px0 (pa_cons (pv 1) pa_nil)) (pe_op op_addU pe_int (pe_callB (cr_sum rfl) (by rfl) T.n_sum (by decide +kernel) (pa_cons (pe_lc (own := [("_law_each", 5)]) rfl sc_law_right.nd (pi_seq (pv 1)) (blkOk_by (own := [("_law_each", 5)]) (N := N_law_right) (sc := defScope s_law_right) (by decide +kernel)) (fun _ _ _ _ _ => (pg_name (i := 5) sc_law_right.nd rfl (Or.inl rfl))) (fun _ _ _ _ _ => pts_nil) (fun _ _ _ _ _ => (pe_g C_size_of (hr.mono (by omega)) px0 (pa_cons (pv 5) pa_nil)))) pa_nil))) (nomark _))))) (pss_one (ps_ret pe_bl)) pss_nil))) pss_nil)
      (pss_one (ps_ret (pe_and (pe_cmpR (op_eqU hr) (pe_callB (call_repr hr) (by rfl) T.n_repr (by decide +kernel) (pa_cons (pv 1) pa_nil)) (pv 3) (nomark _)) (pe_one (pe_cmpR (op_eqU hr) (pe_g C_format_value (hr.mono (by omega)) px0 (pa_cons (pe_g C_parse_value (hr.mono (by omega)) px0 (pa_cons (pv 2) pa_nil)) pa_nil)) (pv 2) (nomark _))))))))))))), ?_⟩
  have h2 : sizeLine = 16777216 := rfl
  walk_at "rd"
  refine ⟨p, rfl, hP, fun v d H1 hv hg ht P1 e1 => ?_⟩
  walk_at "rd"
  refine y_isStr hv hg ?_
  walk_at "rd"
  have fin : ∀ H', Ex H1 H' → Q (.bl true) H' := fun H' e => q H' (P1.ex e) (e1.trans (e.em p))
  cases hF : isF d
  case' true =>
    have e2 := Ex.refl H1
    have hdr : drawn d = true := by unfold drawn; rw [hF]; rfl
  case' false =>
    rw [hF, Bool.false_or] at hg
    walk_at "rd"
    refine ⟨v, d, rfl, hv, hg, by omega, by omega, fun H2 e2 => ?_⟩
    walk_at "rd"
    refine brBN (fun hft => ?_) fun hft => ?_
    focus
      walk_at "rd"
      exact fin H2 e2
    have hdr : drawn d = true := by unfold drawn; rw [hg, hft, Bool.and_self, Bool.or_true]
  all_goals
    have ho := drawn_ok hdr 5 (Nat.le_refl _)
    have hw := drawn_w hdr
    have hrp := Rp.drawn hdr
    walk_at "rd"
    refine ⟨v, d, rfl, hv.mono e2.et, hdr, by omega, fun H3 e3 => ?_⟩
    replace e3 := e2.trans e3
    walk_at "rd"
    refine y_rep (hv.mono e3.et) hrp ?_
    walk_at "rd"
    -- size_of
    refine ⟨v, d, rfl, (hv.mono e3.et).dt, ho, fun H4 e4 => ?_⟩
    replace e4 := e3.trans e4
    walk_at "rd"
    refine ⟨v, d, rfl, (hv.mono e4.et).dt, ho, fun H5 e5 => ?_⟩
    replace e5 := e4.trans e5
    walk_at "rd"
    refine k_lst fun L1 H6 n1 _ e6 h1 => ?_
    replace e6 := e5.trans e6
    walk_at "rd"
    refine y_rep2 h1 (.int _) (.int _) (.size hdr) (.size hdr) ?_
    walk_at "rd"
    refine ⟨v, d, rfl, hv.mono e6.et, hw, by omega, by omega, fun H7 e7 => ?_⟩
    replace e7 := e6.trans e7
    walk_at "rd"
    refine k_lst fun L2 H8 n2 _ e8 h8 => ?_
    replace e8 := e7.trans e8
    walk_at "rd"
    refine y_mulL h8 (by decide) (by decide) (by simp) fun L3 H9 n3 e9 h9 => ?_
    replace e9 := e8.trans e9
    walk_at "rd"
    refine y_rep2 h9 (.int _) (.int _) (.size hdr) (.size hdr) ?_
    walk_at "rd"
    refine ifnN rfl ?_
    walk_at "rd"
    -- format_value
    refine ⟨v, d, rfl, (hv.mono e9.et).dt, ho, fun H10 e10 => ?_⟩
    replace e10 := e9.trans e10
    walk_at "rd"
    refine ⟨v, d, rfl, (hv.mono e10.et).dt, ho, fun H11 e11 => ?_⟩
    replace e11 := e10.trans e11
    walk_at "rd"
    refine k_lst fun L4 H12 n4 _ e12 h12 => ?_
    replace e12 := e11.trans e12
    walk_at "rd"
    refine y_rep2 h12 (.str _) (.str _) (.text hdr) (.text hdr) ?_
    walk_at "rd"
    refine k_lst fun L5 H13 n5 _ e13 h13 => ?_
    replace e13 := e12.trans e13
    walk_at "rd"
    refine y_rep2 h13 (.str _) (.str _) (.text hdr) (.text hdr) ?_
    walk_at "rd"
    refine ifnN rfl ?_
    walk_at "rd"
    -- parse_value
    refine ⟨d, rfl, ho, fun x1 H14 e14 f14 => ?_⟩
    replace e14 := e13.trans e14
    walk_at "rd"
    refine ⟨d, rfl, ho, fun x2 H15 e15 f15 => ?_⟩
    have f14 := f14.mono e15.et
    replace e15 := e14.trans e15
    walk_at "rd"
    refine k_lst fun L6 H16 n6 _ e16 h16 => ?_
    have f14 := f14.mono e16.et
    have f15 := f15.mono e16.et
    replace e16 := e15.trans e16
    walk_at "rd"
    refine y_rep2 h16 f14 f15 hrp hrp ?_
    walk_at "rd"
    refine k_lst fun L7 H17 n7 _ e17 h17 => ?_
    replace e17 := e16.trans e17
    walk_at "rd"
    refine y_rep2 h17 (hv.mono e17.et) (hv.mono e17.et) hrp hrp ?_
    walk_at "rd"
    refine ifnN rfl ?_
    walk_at "rd"
    refine y_isTup (hv.mono e17.et) hw ?_
    walk_at "rd"
    cases hT : isTup d
    case' false =>
      have e20 := e17
    case' true =>
      obtain ⟨ds, hds⟩ := isTup_inv hT
      subst hds
      obtain ⟨a, xs, hva, hS, hA⟩ := (hv.mono e17.et).tup_inv
      obtain ⟨hl40, hns, hsz⟩ := drawn_tup hdr
      have hl := hA.length
      have hlen := txL_len ds hns
      have hsum := txL_sum hns
      have hnn := szL_nn ds hns
      subst hva
      walk_at "rd"
      refine i_T hS ?_
      refine k_lcFl (fun d => .str (S (txD d))) hS hA (by omega) (fun x d H' Q1 hmm e hx hq => ?_) (fun x => rfl) fun D H18 nD e18 hD => ?_
      focus
        walk_at "rd"
        exact ⟨x, d, rfl, hx.dt, drawn_ok (drawn_mem hdr hmm) 5 (Nat.le_refl _), hq⟩
      have hS18 := e18.st hS
      have hA18 := hA.mono e18.et
      replace e18 := e17.trans e18
      walk_at "rd"
      rw [q_comma]
      refine y_join (ys := ds.map fun d => S (txD d)) (.of (by rw [hD, List.map_map]; rfl)) ?_ ?_
      focus
        rw [lens_tx, List.length_map, S_len]
        show _ + ds.length * 1 ≤ _
        omega
      rw [join_tx]
      walk_at "rd"
      rw [q_open, q_close]
      refine y_addC (by simp only [List.length_singleton]; omega) ?_
      walk_at "rd"
      refine y_addC (by simp only [List.length_singleton, List.length_append]; omega) ?_
      walk_at "rd"
      refine ifnN (by rw [txD]; rfl) ?_
      walk_at "rd"
      refine ⟨_, .tuple ds, rfl, (Fl.tup hS18 hA18).dt, ho, fun H19 e19 => ?_⟩
      have hS19 := e19.st hS18
      have hA19 := hA18.mono e19.et
      replace e19 := e18.trans e19
      walk_at "rd"
      refine i_T hS19 ?_
      refine k_lcFl (fun d => .int (szD d)) hS19 hA19 (by omega) (fun x d H' Q1 hmm e hx hq => ?_) (fun x => rfl) fun D2 H20 nD2 e20 hD2 => ?_
      focus
        walk_at "rd"
        exact ⟨x, d, rfl, hx.dt, drawn_ok (drawn_mem hdr hmm) 5 (Nat.le_refl _), hq⟩
      replace e20 := e19.trans e20
      walk_at "rd"
      refine y_sum (ns := ds.map szD) (.of (by rw [hD2, List.map_map]; rfl)) ?_
      walk_at "rd"
      refine ifnN (by rw [szD, szL_sum]) ?_
    all_goals
      walk_at "rd"
      refine y_rep (hv.mono e20.et) hrp ?_
      walk_at "rd"
      refine ifY rfl ?_
      walk_at "rd"
      refine ⟨_, rfl, ho, fun x3 H21 e21 f21 => ?_⟩
      replace e21 := e20.trans e21
      walk_at "rd"
      refine ⟨x3, _, rfl, f21.dt, ho, fun H22 e22 => ?_⟩
      replace e22 := e21.trans e22
      walk_at "rd"
      have z := fin H22 e22
      rw [← decide_eq_true (rfl : S (txD _) = S (txD _))] at z
      exact z
end

end My
end

section
set_option Elab.async false
set_option linter.all false
set_option maxRecDepth 100000
set_option maxHeartbeats 4000000
namespace My
open PySem PySem.Spec PyProof.Rows L2 Ls SX
local macro_rules | `(tactic| walk_at "rd1") => `(tactic| (first | ((with_reducible refine' Ls.r_var ?hV ?_); (case hV => exact rfl)) | (with_reducible refine Ls.r_c ?_) | (with_reducible refine Ls.r_op ?_) | (with_reducible refine Ls.r_un ?_) | (with_reducible refine Ls.r_nil ?_) | (with_reducible refine Ls.r_cons ?_) | (with_reducible refine Ls.r_cb ?_) | (with_reducible refine Ls.r_ckw ?_) | (with_reducible refine Ls.r_cal ?_) | (with_reducible refine Ls.r_calK ?_) | (with_reducible refine Ls.r_tup ?_) | (with_reducible refine Ls.r_lst ?_) | (with_reducible refine Ls.r_if ?_) | (with_reducible refine Ls.r_andV ?_) | (with_reducible refine Ls.r_orV ?_) | (with_reducible refine Ls.r_notV ?_) | (with_reducible refine Ls.r_chain ?_) | (with_reducible refine Ls.r_sl ?_) | (with_reducible refine Ls.r_nopart ?_) | (with_reducible refine Ls.r_part ?_) | (with_reducible refine Ls.k_part ?_) | (with_reducible refine Ls.r_test ?_) | (with_reducible refine Ls.r_B ?_) | (with_reducible refine Ls.k_B ?_) | (with_reducible refine Ls.r_not ?_) | (with_reducible refine Ls.r_and ?_) | (with_reducible refine Ls.r_or ?_) | (with_reducible refine Ls.r_seq ?_) | (with_reducible refine Ls.r_ifS ?_) | (with_reducible refine Ls.r_next ?_) | (with_reducible refine Ls.r_brk ?_) | (with_reducible refine Ls.r_cont ?_) | (with_reducible refine Ls.r_ret ?_) | (with_reducible refine Ls.r_retN ?_) | (with_reducible refine Ls.r_drop ?_) | (with_reducible refine Ls.r_asg ?_) | (with_reducible refine Ls.r_par ?_) | (with_reducible refine Ls.k_par ?_) | ((with_reducible refine' Ls.r_aug ?hV ?_); (case hV => exact rfl)) | (with_reducible refine Ls.y_ip ?_) | (with_reducible refine Ls.g_name ?_) | (with_reducible refine Ls.g_nil ?_) | (with_reducible refine Ls.g_cons ?_) | (with_reducible refine Ls.g_sub ?_) | (with_reducible refine Ls.e_nx ?_) | (with_reducible refine Ls.e_rt ?_) | (with_reducible refine Ls.e_bk ?_) | (with_reducible refine Ls.e_ct ?_) | (with_reducible refine Ls.r_for ?_) | (with_reducible refine Ls.i_seq ?_) | (with_reducible refine Ls.i_enum ?_) | (with_reducible refine Ls.i_rng1 ?_) | (with_reducible refine Ls.r_m1 ?_) | (with_reducible refine Ls.r_m0 ?_) | (with_reducible refine Ls.k_isS ?_) | (with_reducible refine Ls.r_bm ?_) | (with_reducible refine Ls.r_lc ?_) | (with_reducible refine Ls.y_add ?_) | (with_reducible refine Ls.y_sub ?_) | (with_reducible refine Ls.y_neg ?_) | (with_reducible refine Ls.y_lt ?_) | (with_reducible refine Ls.y_le ?_) | (with_reducible refine Ls.y_gt ?_) | (with_reducible refine Ls.y_ge ?_) | (with_reducible refine Ls.y_eqI ?_) | (with_reducible refine Ls.y_eqS ?_) | (with_reducible refine Ls.y_neI ?_) | (with_reducible refine Ls.y_neS ?_) | (with_reducible refine Ls.y_isNo ?_) | (with_reducible refine Ls.y_isntNo ?_) | (with_reducible refine Ls.y_abs ?_) | (with_reducible refine Ls.y_max2 ?_) | (with_reducible refine Ls.y_min2 ?_) | (with_reducible refine Ls.y_intI ?_) | (with_reducible refine Ls.y_intB ?_) | ((with_reducible refine' Ls.y_ixL ?hS ?hA ?_); (case hS => first | assumption | exact L2.SqL.of (by assumption)); (case hA => rfl)) | ((with_reducible refine' Ls.y_ixT ?hS ?hA ?_); (case hS => first | assumption | exact L2.SqT.of (by assumption)); (case hA => rfl)) | ((with_reducible refine' Ls.y_mod ?hC ?_); (case hC => first | decide | omega)) | ((with_reducible refine' Ls.y_fdiv ?hC ?_); (case hC => first | decide | (constructor <;> omega))) | ((with_reducible refine' Ls.y_pow ?hC ?_); (case hC => exact ⟨by decide, by decide, by decide⟩)) | ((with_reducible refine' Ls.y_mul ?hC ?_); (case hC => first | exact .inr ⟨by decide, by decide⟩ | exact .inl ⟨by decide, by decide⟩ | exact .inr ⟨by omega, by omega⟩ | exact .inl ⟨by omega, by omega⟩)) | (with_reducible refine L2.iteT ?_) | (with_reducible refine L2.iteF ?_) | (with_reducible refine Ls.iteNF ?_) | (with_reducible refine Ls.iteNT ?_)))
local macro_rules | `(tactic| walk_at "rd") => `(tactic| (repeat walk_at "rd1"))

def sp_law (K : PySem.W.Frag) : Sp := fun vs H Q _ => ∃ (a : Addr) (ns : List Int), vs = [.ref a] ∧ SqL K H a (ns.map V.int) ∧ ns.length ≤ 63 ∧ ∀ H', Q (.bl true) H'
theorem law_start (K : PySem.W.Frag) (H : Hp) (a : Addr) (ns : List Int) (hn : ns.length ≤ 63) (_ : Only H) (h : SqL K H a (ns.map V.int)) : sp_law K [.ref a] H (fun v _ => v = .bl true) fun _ _ _ => False := ⟨a, ns, rfl, h, hn, fun _ => rfl⟩
section
variable {P : Program} {w : World} {K : PySem.W.Frag} {mg : Str → Option Value} {base : Heap}
theorem ok_law (T : Tx K mg) (C_law_pot : Cal P w K mg base 1 "_law_pot" s_law_pot P_law_pot (sp_pot K)) (C_law_right : Cal P w K mg base 15 "_law_right" s_law_right P_law_right sp_lright) (C_size_of : Cal P w K mg base 11 "size_of" s_size_of P_size_of (sp_sizeof K 5)) :
    Cal P w K mg base 16 "law" s_law P_law (sp_law K) := by
  refine T.d_law.ok sc_law (fun vs H Q E h => ?_) (fun f cdv A outer s H vs Q E hr h => ?_)
  · obtain ⟨a, ns, rfl, _⟩ := h; rfl
  obtain ⟨a, ns, rfl, hS, hn, q⟩ := h
  refine ⟨_, PSs.nox (pss_cons (ps_for PassesOwn.never rfl (pi_range1 rfl T.n_range (pa_cons (pe_callB (call_maxU rfl) (by rfl) T.n_max (by decide +kernel) (pa_cons pe_int (pa_cons (pe_callB (call_minU rfl) (by rfl) T.n_min (by decide +kernel) (pa_cons (pe_callB call_lenU (by rfl) T.n_len (by decide +kernel) (pa_cons (pv 0) pa_nil)) (pa_cons pe_int pa_nil))) pa_nil))) pa_nil)) (pg_name (i := 1) sc_law.nd rfl (by first | exact .inl rfl | exact .inr rfl)) (pss_cons (ps_set (i := 2) sc_law.nd rfl (by first | exact .inl rfl | exact .inr rfl) (pe_g C_law_pot (hr.mono (by omega)) px0 (pa_cons (pv 0) (pa_cons (pv 1) pa_nil))))
      (pss_one (ps_if (pt_not (pt_val (pe_callB (cr_all rfl) (by rfl) T.n_all (by decide +kernel) (pa_cons (pe_lc (own := [("_law_turn", 3)]) rfl sc_law.nd (pi_range1 rfl T.n_range (pa_cons pe_int pa_nil)) (blkOk_by (own := [("_law_turn", 3)]) (N := N_law) (sc := defScope s_law) (by decide +kernel)) (fun _ _ _ _ _ => (pg_name (i := 3) sc_law.nd rfl (Or.inl rfl))) (fun _ _ _ _ _ => pts_nil) (fun _ _ _ _ _ => (pe_g C_law_right (hr.mono (by omega)) px0 (pa_cons (pv 2) pa_nil)))) pa_nil)))) (pss_one (ps_ret pe_bl)) pss_nil))))
      (pss_one (ps_ret (pe_cmpR (op_eqU hr) (pe_lstN (pa_cons (pe_g C_size_of (hr.mono (by omega)) px0 (pa_cons pe_int pa_nil)) (pa_cons (pe_g C_size_of (hr.mono (by omega)) px0 (pa_cons (pe_un un_negU pe_int) pa_nil)) (pa_cons (pe_g C_size_of (hr.mono (by omega)) px0 (pa_cons (pe_tup pa_nil) pa_nil)) (pa_cons (pe_g C_size_of (hr.mono (by omega)) px0 (pa_cons pe_str pa_nil)) (pa_cons (pe_g C_size_of (hr.mono (by omega)) px0 (pa_cons (pe_tup (pa_cons (pe_tup pa_nil) pa_nil)) pa_nil)) pa_nil)))))) (pe_lstN (pa_cons pe_int (pa_cons pe_int (pa_cons pe_int (pa_cons pe_int (pa_cons pe_int pa_nil)))))) (nomark _))))), ?_⟩
  walk_at "rd"
  refine y_lenL hS ?_
  walk_at "rd"
  rw [List.length_map]
  generalize hm : (if (if (5 : Int) < (ns.length : Nat) then (5 : Int) else (ns.length : Nat)) > 1 then (if (5 : Int) < (ns.length : Nat) then (5 : Int) else (ns.length : Nat)) else (1 : Int)) = m
  have hm5 : 1 ≤ m ∧ m ≤ 5 := by
    rw [← hm]
    constructor <;> (split <;> (try split) <;> omega)
  refine i_r1 (by omega) (by omega) ?_
  refine k_forR (fun j σ' H' => SqL K H' a (ns.map V.int) ∧ ∃ o1 o2 o3, σ' = [some (.ref a), o1, o2, o3]) ⟨hS, none, none, none, rfl⟩ ?_ ?_
  · rintro j σ' H1 hj ⟨hS1, o1, o2, o3, rfl⟩
    walk_at "rd"
    refine ⟨a, ns, j, by rw [Int.zero_add], hS1, by omega, fun p H2 np e2 P2 => ?_⟩
    walk_at "rd"
    refine i_r1 (by decide) (by decide) ?_
    refine k_lcPot (fun y _ => y = .bl true) (fun _ _ _ _ h => h) P2 (by decide) (fun i H3 Q1 hi e3 P3 hq => ?_) (fun x => rfl) fun D ys H3 nD e3 P3 hD hl hy => ?_
    · walk_at "rd"
      exact ⟨p, rfl, P3, fun H4 P4 e4 => hq _ H4 e4 P4 rfl⟩
    · walk_at "rd"
      have hys : ys = (List.replicate ys.length true).map V.bl := by
        rw [List.map_replicate]
        exact List.eq_replicate_iff.mpr ⟨rfl, hy⟩
      refine y_all (bs := List.replicate ys.length true) (.of (by rw [hD, ← hys])) ?_
      have hall : (List.replicate ys.length true).all id = true := by
        rw [List.all_eq_true]
        intro b hb
        rw [List.eq_of_mem_replicate hb]
        rfl
      rw [hall]
      walk_at "rd"
      exact ⟨seq_new hS1 np e2 e3, _, _, _, rfl⟩
  · rintro σ' H1 ⟨hS1, o1, o2, o3, rfl⟩
    have ok : ∀ d, drawn d = true → okV 5 d := fun d h => drawn_ok h 5 (Nat.le_refl _)
    walk_at "rd"
    refine ⟨_, .int 0, rfl, .int 0, ok _ (by decide +kernel), fun H2 e2 => ?_⟩
    rw [show szD (.int 0) = 1 by decide +kernel]
    walk_at "rd"
    refine ⟨_, .int (-1), rfl, .int _, ok _ (by decide +kernel), fun H3 e3 => ?_⟩
    rw [show szD (.int (-1)) = 2 by decide +kernel]
    walk_at "rd"
    refine k_tup fun A1 H4 n1 e4 h4 => ?_
    walk_at "rd"
    refine ⟨_, .tuple [], rfl, .tup (.of h4) .nil, ok _ (by decide +kernel), fun H5 e5 => ?_⟩
    rw [show szD (.tuple []) = 1 by decide +kernel]
    walk_at "rd"
    refine ⟨_, .str (Str.ofString "fault"), rfl, .str _, ok _ (by decide +kernel), fun H6 e6 => ?_⟩
    rw [show szD (.str (Str.ofString "fault")) = 1 by rfl]
    walk_at "rd"
    refine k_tup fun A2 H7 n2 e7 h7 => ?_
    walk_at "rd"
    refine k_tup fun A3 H8 n3 e8 h8 => ?_
    walk_at "rd"
    refine ⟨_, .tuple [.tuple []], rfl, .tup (.of h8) (.cons (.tup (.of (e8 _ _ h7)) .nil) .nil), ok _ (by decide +kernel), fun H9 e9 => ?_⟩
    rw [show szD (.tuple [.tuple []]) = 2 by decide +kernel]
    walk_at "rd"
    refine k_lst fun L1 H10 n4 _ e10 h10 => ?_
    walk_at "rd"
    refine k_lst fun L2 H11 n5 _ e11 h11 => ?_
    have dp : ∀ {l : Addr} {H : Hp}, H l = some (.lst [.int 1, .int 2, .int 1, .int 1, .int 2]) → Dp K H (.ref l) (.list [.int 1, .int 2, .int 1, .int 1, .int 2]) := fun h => .lst (.of h) (.cons (.int _) (.cons (.int _) (.cons (.int _) (.cons (.int _) (.cons (.int _) .nil)))))
    refine y_eqD (dp (e11 _ _ h10)) (dp h11) (by decide +kernel) (by decide +kernel) ?_
    rw [show PyData.eqv (.list [.int 1, .int 2, .int 1, .int 1, .int 2]) (.list [.int 1, .int 2, .int 1, .int 1, .int 2]) = true by decide +kernel]
    exact q _
theorem all_ok (T : Tx K mg) : Cal P w K mg base 16 "law" s_law P_law (sp_law K) := by
  have C1 := ok_is_int (P := P) (w := w) (base := base) T
  have C2 := ok_is_nested (P := P) (w := w) (base := base) T C1 5
  have C3 := ok_depth_of (P := P) (w := w) (base := base) T C1 5
  have C4 := ok_datum_size (P := P) (w := w) (base := base) T C1 5
  have C5 := ok_is_datum (P := P) (w := w) (base := base) T C2 C3 C4
  have C6 := ok_is_fault (P := P) (w := w) (base := base) T
  have C7 := ok_is_value (P := P) (w := w) (base := base) T C6 C5
  have C8 := ok_check_value (P := P) (w := w) (base := base) T C7
  have C9 := ok_size_of (P := P) (w := w) (base := base) T C8 C6 C4
  have C10 := ok_datum_text (P := P) (w := w) (base := base) T C1 5
  have C11 := ok_format_value (P := P) (w := w) (base := base) T C8 C6 C10
  have C12 := ok_read_integer (P := P) (w := w) (base := base) T
  have C13 := ok_read_datum (P := P) (w := w) (base := base) T C12 5
  have C14 := ok_parse_value (P := P) (w := w) (base := base) T C13 C5
  have D1 := ok_pot (P := P) (w := w) (base := base) T
  have D2 := ok_digit (P := P) (w := w) (base := base) T
  have D3 := ok_int (P := P) (w := w) (base := base) T D2
  have D4 := ok_datum (P := P) (w := w) (base := base) T D2 D3 5
  have D5 := ok_long (P := P) (w := w) (base := base) T D2
  have D6 := ok_heavy (P := P) (w := w) (base := base) T D2 D5
  have D7 := ok_some (P := P) (w := w) (base := base) T D2 D3 D4 D5 D6
  have D8 := fun n => ok_lsize (P := P) (w := w) (base := base) T n
  have D9 := fun n => ok_ldeep (P := P) (w := w) (base := base) T n
  have D10 := ok_lfits (P := P) (w := w) (base := base) T D8 D9 5
  have D11 := ok_ltext (P := P) (w := w) (base := base) T 5
  have D12 := ok_right (P := P) (w := w) (base := base) T D7 D10 D11 (D8 5) C9 C11 C14
  exact ok_law T D1 D12 C9
end
theorem tx_mk {K : PySem.W.Frag} {h : Heap} {mg : Str → Option Value} (X : K.In h) (G : h.Ns mainGlobals mg)
    (z_abs : PySem.W.nsIn K mainGlobals "abs" = some none)
    (z_all : PySem.W.nsIn K mainGlobals "all" = some none)
    (z_bool : PySem.W.nsIn K mainGlobals "bool" = some none)
    (z_divmod : PySem.W.nsIn K mainGlobals "divmod" = some none)
    (z_enumerate : PySem.W.nsIn K mainGlobals "enumerate" = some none)
    (z_int : PySem.W.nsIn K mainGlobals "int" = some none)
    (z_isinstance : PySem.W.nsIn K mainGlobals "isinstance" = some none)
    (z_len : PySem.W.nsIn K mainGlobals "len" = some none)
    (z_max : PySem.W.nsIn K mainGlobals "max" = some none)
    (z_min : PySem.W.nsIn K mainGlobals "min" = some none)
    (z_range : PySem.W.nsIn K mainGlobals "range" = some none)
    (z_repr : PySem.W.nsIn K mainGlobals "repr" = some none)
    (z_str : PySem.W.nsIn K mainGlobals "str" = some none)
    (z_sum : PySem.W.nsIn K mainGlobals "sum" = some none)
    (z_tuple : PySem.W.nsIn K mainGlobals "tuple" = some none)
    {t_FAULT : Tok} (y_FAULT : PySem.W.nsIn K mainGlobals "FAULT" = some (some (.str "fault" t_FAULT)))
    {t_MOST_ITEMS : Tok} (y_MOST_ITEMS : PySem.W.nsIn K mainGlobals "MOST_ITEMS" = some (some (.int 40 t_MOST_ITEMS)))
    {t_MOST_DEPTH : Tok} (y_MOST_DEPTH : PySem.W.nsIn K mainGlobals "MOST_DEPTH" = some (some (.int 4 t_MOST_DEPTH)))
    {t_MOST_SIZE : Tok} (y_MOST_SIZE : PySem.W.nsIn K mainGlobals "MOST_SIZE" = some (some (.int 1000 t_MOST_SIZE)))
    {t_DIGITS : Tok} (y_DIGITS : PySem.W.nsIn K mainGlobals "DIGITS" = some (some (.str "0123456789" t_DIGITS)))
    {f_is_int : Addr} {od_is_int an_is_int : Option Addr} {sl_is_int : Array (Option Value)} {oc_is_int kV_is_int dc_is_int pm_is_int cd_is_int ct_is_int : Value}
    (a_is_int : PySem.W.nsIn K mainGlobals "is_int" = some (some (.ref f_is_int)))
    (l_is_int : K.lookup f_is_int = some ⟨oc_is_int, od_is_int, .func (PySem.W.fnOf "is_int" "is_int" (defArgs s_is_int) (defBody s_is_int) (defScope s_is_int) .none kV_is_int dc_is_int pm_is_int an_is_int cd_is_int ct_is_int), sl_is_int⟩)
    (g_is_int : PySem.W.codeIn K cd_is_int "is_int" = true) (k_is_int : PySem.W.keepIn K (.ref f_is_int) = true)
    {f_is_nested : Addr} {od_is_nested an_is_nested : Option Addr} {sl_is_nested : Array (Option Value)} {oc_is_nested kV_is_nested dc_is_nested pm_is_nested cd_is_nested ct_is_nested : Value}
    (a_is_nested : PySem.W.nsIn K mainGlobals "is_nested" = some (some (.ref f_is_nested)))
    (l_is_nested : K.lookup f_is_nested = some ⟨oc_is_nested, od_is_nested, .func (PySem.W.fnOf "is_nested" "is_nested" (defArgs s_is_nested) (defBody s_is_nested) (defScope s_is_nested) .none kV_is_nested dc_is_nested pm_is_nested an_is_nested cd_is_nested ct_is_nested), sl_is_nested⟩)
    (g_is_nested : PySem.W.codeIn K cd_is_nested "is_nested" = true) (k_is_nested : PySem.W.keepIn K (.ref f_is_nested) = true)
    {f_depth_of : Addr} {od_depth_of an_depth_of : Option Addr} {sl_depth_of : Array (Option Value)} {oc_depth_of kV_depth_of dc_depth_of pm_depth_of cd_depth_of ct_depth_of : Value}
    (a_depth_of : PySem.W.nsIn K mainGlobals "depth_of" = some (some (.ref f_depth_of)))
    (l_depth_of : K.lookup f_depth_of = some ⟨oc_depth_of, od_depth_of, .func (PySem.W.fnOf "depth_of" "depth_of" (defArgs s_depth_of) (defBody s_depth_of) (defScope s_depth_of) .none kV_depth_of dc_depth_of pm_depth_of an_depth_of cd_depth_of ct_depth_of), sl_depth_of⟩)
    (g_depth_of : PySem.W.codeIn K cd_depth_of "depth_of" = true) (k_depth_of : PySem.W.keepIn K (.ref f_depth_of) = true)
    {f_datum_size : Addr} {od_datum_size an_datum_size : Option Addr} {sl_datum_size : Array (Option Value)} {oc_datum_size kV_datum_size dc_datum_size pm_datum_size cd_datum_size ct_datum_size : Value}
    (a_datum_size : PySem.W.nsIn K mainGlobals "datum_size" = some (some (.ref f_datum_size)))
    (l_datum_size : K.lookup f_datum_size = some ⟨oc_datum_size, od_datum_size, .func (PySem.W.fnOf "datum_size" "datum_size" (defArgs s_datum_size) (defBody s_datum_size) (defScope s_datum_size) .none kV_datum_size dc_datum_size pm_datum_size an_datum_size cd_datum_size ct_datum_size), sl_datum_size⟩)
    (g_datum_size : PySem.W.codeIn K cd_datum_size "datum_size" = true) (k_datum_size : PySem.W.keepIn K (.ref f_datum_size) = true)
    {f_is_datum : Addr} {od_is_datum an_is_datum : Option Addr} {sl_is_datum : Array (Option Value)} {oc_is_datum kV_is_datum dc_is_datum pm_is_datum cd_is_datum ct_is_datum : Value}
    (a_is_datum : PySem.W.nsIn K mainGlobals "is_datum" = some (some (.ref f_is_datum)))
    (l_is_datum : K.lookup f_is_datum = some ⟨oc_is_datum, od_is_datum, .func (PySem.W.fnOf "is_datum" "is_datum" (defArgs s_is_datum) (defBody s_is_datum) (defScope s_is_datum) .none kV_is_datum dc_is_datum pm_is_datum an_is_datum cd_is_datum ct_is_datum), sl_is_datum⟩)
    (g_is_datum : PySem.W.codeIn K cd_is_datum "is_datum" = true) (k_is_datum : PySem.W.keepIn K (.ref f_is_datum) = true)
    {f_is_fault : Addr} {od_is_fault an_is_fault : Option Addr} {sl_is_fault : Array (Option Value)} {oc_is_fault kV_is_fault dc_is_fault pm_is_fault cd_is_fault ct_is_fault : Value}
    (a_is_fault : PySem.W.nsIn K mainGlobals "is_fault" = some (some (.ref f_is_fault)))
    (l_is_fault : K.lookup f_is_fault = some ⟨oc_is_fault, od_is_fault, .func (PySem.W.fnOf "is_fault" "is_fault" (defArgs s_is_fault) (defBody s_is_fault) (defScope s_is_fault) .none kV_is_fault dc_is_fault pm_is_fault an_is_fault cd_is_fault ct_is_fault), sl_is_fault⟩)
    (g_is_fault : PySem.W.codeIn K cd_is_fault "is_fault" = true) (k_is_fault : PySem.W.keepIn K (.ref f_is_fault) = true)
    {f_is_value : Addr} {od_is_value an_is_value : Option Addr} {sl_is_value : Array (Option Value)} {oc_is_value kV_is_value dc_is_value pm_is_value cd_is_value ct_is_value : Value}
    (a_is_value : PySem.W.nsIn K mainGlobals "is_value" = some (some (.ref f_is_value)))
    (l_is_value : K.lookup f_is_value = some ⟨oc_is_value, od_is_value, .func (PySem.W.fnOf "is_value" "is_value" (defArgs s_is_value) (defBody s_is_value) (defScope s_is_value) .none kV_is_value dc_is_value pm_is_value an_is_value cd_is_value ct_is_value), sl_is_value⟩)
    (g_is_value : PySem.W.codeIn K cd_is_value "is_value" = true) (k_is_value : PySem.W.keepIn K (.ref f_is_value) = true)
    {f_check_value : Addr} {od_check_value an_check_value : Option Addr} {sl_check_value : Array (Option Value)} {oc_check_value kV_check_value dc_check_value pm_check_value cd_check_value ct_check_value : Value}
    (a_check_value : PySem.W.nsIn K mainGlobals "check_value" = some (some (.ref f_check_value)))
    (l_check_value : K.lookup f_check_value = some ⟨oc_check_value, od_check_value, .func (PySem.W.fnOf "check_value" "check_value" (defArgs s_check_value) (defBody s_check_value) (defScope s_check_value) .none kV_check_value dc_check_value pm_check_value an_check_value cd_check_value ct_check_value), sl_check_value⟩)
    (g_check_value : PySem.W.codeIn K cd_check_value "check_value" = true) (k_check_value : PySem.W.keepIn K (.ref f_check_value) = true)
    {f_size_of : Addr} {od_size_of an_size_of : Option Addr} {sl_size_of : Array (Option Value)} {oc_size_of kV_size_of dc_size_of pm_size_of cd_size_of ct_size_of : Value}
    (a_size_of : PySem.W.nsIn K mainGlobals "size_of" = some (some (.ref f_size_of)))
    (l_size_of : K.lookup f_size_of = some ⟨oc_size_of, od_size_of, .func (PySem.W.fnOf "size_of" "size_of" (defArgs s_size_of) (defBody s_size_of) (defScope s_size_of) .none kV_size_of dc_size_of pm_size_of an_size_of cd_size_of ct_size_of), sl_size_of⟩)
    (g_size_of : PySem.W.codeIn K cd_size_of "size_of" = true) (k_size_of : PySem.W.keepIn K (.ref f_size_of) = true)
    {f_datum_text : Addr} {od_datum_text an_datum_text : Option Addr} {sl_datum_text : Array (Option Value)} {oc_datum_text kV_datum_text dc_datum_text pm_datum_text cd_datum_text ct_datum_text : Value}
    (a_datum_text : PySem.W.nsIn K mainGlobals "datum_text" = some (some (.ref f_datum_text)))
    (l_datum_text : K.lookup f_datum_text = some ⟨oc_datum_text, od_datum_text, .func (PySem.W.fnOf "datum_text" "datum_text" (defArgs s_datum_text) (defBody s_datum_text) (defScope s_datum_text) .none kV_datum_text dc_datum_text pm_datum_text an_datum_text cd_datum_text ct_datum_text), sl_datum_text⟩)
    (g_datum_text : PySem.W.codeIn K cd_datum_text "datum_text" = true) (k_datum_text : PySem.W.keepIn K (.ref f_datum_text) = true)
    {f_format_value : Addr} {od_format_value an_format_value : Option Addr} {sl_format_value : Array (Option Value)} {oc_format_value kV_format_value dc_format_value pm_format_value cd_format_value ct_format_value : Value}
    (a_format_value : PySem.W.nsIn K mainGlobals "format_value" = some (some (.ref f_format_value)))
    (l_format_value : K.lookup f_format_value = some ⟨oc_format_value, od_format_value, .func (PySem.W.fnOf "format_value" "format_value" (defArgs s_format_value) (defBody s_format_value) (defScope s_format_value) .none kV_format_value dc_format_value pm_format_value an_format_value cd_format_value ct_format_value), sl_format_value⟩)
    (g_format_value : PySem.W.codeIn K cd_format_value "format_value" = true) (k_format_value : PySem.W.keepIn K (.ref f_format_value) = true)
    {f_read_integer : Addr} {od_read_integer an_read_integer : Option Addr} {sl_read_integer : Array (Option Value)} {oc_read_integer kV_read_integer dc_read_integer pm_read_integer cd_read_integer ct_read_integer : Value}
    (a_read_integer : PySem.W.nsIn K mainGlobals "read_integer" = some (some (.ref f_read_integer)))
    (l_read_integer : K.lookup f_read_integer = some ⟨oc_read_integer, od_read_integer, .func (PySem.W.fnOf "read_integer" "read_integer" (defArgs s_read_integer) (defBody s_read_integer) (defScope s_read_integer) .none kV_read_integer dc_read_integer pm_read_integer an_read_integer cd_read_integer ct_read_integer), sl_read_integer⟩)
    (g_read_integer : PySem.W.codeIn K cd_read_integer "read_integer" = true) (k_read_integer : PySem.W.keepIn K (.ref f_read_integer) = true)
    {f_read_tuple : Addr} {od_read_tuple an_read_tuple : Option Addr} {sl_read_tuple : Array (Option Value)} {oc_read_tuple kV_read_tuple dc_read_tuple pm_read_tuple cd_read_tuple ct_read_tuple : Value}
    (a_read_tuple : PySem.W.nsIn K mainGlobals "read_tuple" = some (some (.ref f_read_tuple)))
    (l_read_tuple : K.lookup f_read_tuple = some ⟨oc_read_tuple, od_read_tuple, .func (PySem.W.fnOf "read_tuple" "read_tuple" (defArgs s_read_tuple) (defBody s_read_tuple) (defScope s_read_tuple) .none kV_read_tuple dc_read_tuple pm_read_tuple an_read_tuple cd_read_tuple ct_read_tuple), sl_read_tuple⟩)
    (g_read_tuple : PySem.W.codeIn K cd_read_tuple "read_tuple" = true) (k_read_tuple : PySem.W.keepIn K (.ref f_read_tuple) = true)
    {f_read_datum : Addr} {od_read_datum an_read_datum : Option Addr} {sl_read_datum : Array (Option Value)} {oc_read_datum kV_read_datum dc_read_datum pm_read_datum cd_read_datum ct_read_datum : Value}
    (a_read_datum : PySem.W.nsIn K mainGlobals "read_datum" = some (some (.ref f_read_datum)))
    (l_read_datum : K.lookup f_read_datum = some ⟨oc_read_datum, od_read_datum, .func (PySem.W.fnOf "read_datum" "read_datum" (defArgs s_read_datum) (defBody s_read_datum) (defScope s_read_datum) .none kV_read_datum dc_read_datum pm_read_datum an_read_datum cd_read_datum ct_read_datum), sl_read_datum⟩)
    (g_read_datum : PySem.W.codeIn K cd_read_datum "read_datum" = true) (k_read_datum : PySem.W.keepIn K (.ref f_read_datum) = true)
    {f_parse_value : Addr} {od_parse_value an_parse_value : Option Addr} {sl_parse_value : Array (Option Value)} {oc_parse_value kV_parse_value dc_parse_value pm_parse_value cd_parse_value ct_parse_value : Value}
    (a_parse_value : PySem.W.nsIn K mainGlobals "parse_value" = some (some (.ref f_parse_value)))
    (l_parse_value : K.lookup f_parse_value = some ⟨oc_parse_value, od_parse_value, .func (PySem.W.fnOf "parse_value" "parse_value" (defArgs s_parse_value) (defBody s_parse_value) (defScope s_parse_value) .none kV_parse_value dc_parse_value pm_parse_value an_parse_value cd_parse_value ct_parse_value), sl_parse_value⟩)
    (g_parse_value : PySem.W.codeIn K cd_parse_value "parse_value" = true) (k_parse_value : PySem.W.keepIn K (.ref f_parse_value) = true)
    {f_law_pot : Addr} {od_law_pot an_law_pot : Option Addr} {sl_law_pot : Array (Option Value)} {oc_law_pot kV_law_pot dc_law_pot pm_law_pot cd_law_pot ct_law_pot : Value}
    (a_law_pot : PySem.W.nsIn K mainGlobals "_law_pot" = some (some (.ref f_law_pot)))
    (l_law_pot : K.lookup f_law_pot = some ⟨oc_law_pot, od_law_pot, .func (PySem.W.fnOf "_law_pot" "_law_pot" (defArgs s_law_pot) (defBody s_law_pot) (defScope s_law_pot) .none kV_law_pot dc_law_pot pm_law_pot an_law_pot cd_law_pot ct_law_pot), sl_law_pot⟩)
    (g_law_pot : PySem.W.codeIn K cd_law_pot "_law_pot" = true) (k_law_pot : PySem.W.keepIn K (.ref f_law_pot) = true)
    {f_law_digit : Addr} {od_law_digit an_law_digit : Option Addr} {sl_law_digit : Array (Option Value)} {oc_law_digit kV_law_digit dc_law_digit pm_law_digit cd_law_digit ct_law_digit : Value}
    (a_law_digit : PySem.W.nsIn K mainGlobals "_law_digit" = some (some (.ref f_law_digit)))
    (l_law_digit : K.lookup f_law_digit = some ⟨oc_law_digit, od_law_digit, .func (PySem.W.fnOf "_law_digit" "_law_digit" (defArgs s_law_digit) (defBody s_law_digit) (defScope s_law_digit) .none kV_law_digit dc_law_digit pm_law_digit an_law_digit cd_law_digit ct_law_digit), sl_law_digit⟩)
    (g_law_digit : PySem.W.codeIn K cd_law_digit "_law_digit" = true) (k_law_digit : PySem.W.keepIn K (.ref f_law_digit) = true)
    {f_law_int : Addr} {od_law_int an_law_int : Option Addr} {sl_law_int : Array (Option Value)} {oc_law_int kV_law_int dc_law_int pm_law_int cd_law_int ct_law_int : Value}
    (a_law_int : PySem.W.nsIn K mainGlobals "_law_int" = some (some (.ref f_law_int)))
    (l_law_int : K.lookup f_law_int = some ⟨oc_law_int, od_law_int, .func (PySem.W.fnOf "_law_int" "_law_int" (defArgs s_law_int) (defBody s_law_int) (defScope s_law_int) .none kV_law_int dc_law_int pm_law_int an_law_int cd_law_int ct_law_int), sl_law_int⟩)
    (g_law_int : PySem.W.codeIn K cd_law_int "_law_int" = true) (k_law_int : PySem.W.keepIn K (.ref f_law_int) = true)
    {f_law_datum : Addr} {od_law_datum an_law_datum : Option Addr} {sl_law_datum : Array (Option Value)} {oc_law_datum kV_law_datum dc_law_datum pm_law_datum cd_law_datum ct_law_datum : Value}
    (a_law_datum : PySem.W.nsIn K mainGlobals "_law_datum" = some (some (.ref f_law_datum)))
    (l_law_datum : K.lookup f_law_datum = some ⟨oc_law_datum, od_law_datum, .func (PySem.W.fnOf "_law_datum" "_law_datum" (defArgs s_law_datum) (defBody s_law_datum) (defScope s_law_datum) .none kV_law_datum dc_law_datum pm_law_datum an_law_datum cd_law_datum ct_law_datum), sl_law_datum⟩)
    (g_law_datum : PySem.W.codeIn K cd_law_datum "_law_datum" = true) (k_law_datum : PySem.W.keepIn K (.ref f_law_datum) = true)
    {f_law_size : Addr} {od_law_size an_law_size : Option Addr} {sl_law_size : Array (Option Value)} {oc_law_size kV_law_size dc_law_size pm_law_size cd_law_size ct_law_size : Value}
    (a_law_size : PySem.W.nsIn K mainGlobals "_law_size" = some (some (.ref f_law_size)))
    (l_law_size : K.lookup f_law_size = some ⟨oc_law_size, od_law_size, .func (PySem.W.fnOf "_law_size" "_law_size" (defArgs s_law_size) (defBody s_law_size) (defScope s_law_size) .none kV_law_size dc_law_size pm_law_size an_law_size cd_law_size ct_law_size), sl_law_size⟩)
    (g_law_size : PySem.W.codeIn K cd_law_size "_law_size" = true) (k_law_size : PySem.W.keepIn K (.ref f_law_size) = true)
    {f_law_deep : Addr} {od_law_deep an_law_deep : Option Addr} {sl_law_deep : Array (Option Value)} {oc_law_deep kV_law_deep dc_law_deep pm_law_deep cd_law_deep ct_law_deep : Value}
    (a_law_deep : PySem.W.nsIn K mainGlobals "_law_deep" = some (some (.ref f_law_deep)))
    (l_law_deep : K.lookup f_law_deep = some ⟨oc_law_deep, od_law_deep, .func (PySem.W.fnOf "_law_deep" "_law_deep" (defArgs s_law_deep) (defBody s_law_deep) (defScope s_law_deep) .none kV_law_deep dc_law_deep pm_law_deep an_law_deep cd_law_deep ct_law_deep), sl_law_deep⟩)
    (g_law_deep : PySem.W.codeIn K cd_law_deep "_law_deep" = true) (k_law_deep : PySem.W.keepIn K (.ref f_law_deep) = true)
    {f_law_fits : Addr} {od_law_fits an_law_fits : Option Addr} {sl_law_fits : Array (Option Value)} {oc_law_fits kV_law_fits dc_law_fits pm_law_fits cd_law_fits ct_law_fits : Value}
    (a_law_fits : PySem.W.nsIn K mainGlobals "_law_fits" = some (some (.ref f_law_fits)))
    (l_law_fits : K.lookup f_law_fits = some ⟨oc_law_fits, od_law_fits, .func (PySem.W.fnOf "_law_fits" "_law_fits" (defArgs s_law_fits) (defBody s_law_fits) (defScope s_law_fits) .none kV_law_fits dc_law_fits pm_law_fits an_law_fits cd_law_fits ct_law_fits), sl_law_fits⟩)
    (g_law_fits : PySem.W.codeIn K cd_law_fits "_law_fits" = true) (k_law_fits : PySem.W.keepIn K (.ref f_law_fits) = true)
    {f_law_long : Addr} {od_law_long an_law_long : Option Addr} {sl_law_long : Array (Option Value)} {oc_law_long kV_law_long dc_law_long pm_law_long cd_law_long ct_law_long : Value}
    (a_law_long : PySem.W.nsIn K mainGlobals "_law_long" = some (some (.ref f_law_long)))
    (l_law_long : K.lookup f_law_long = some ⟨oc_law_long, od_law_long, .func (PySem.W.fnOf "_law_long" "_law_long" (defArgs s_law_long) (defBody s_law_long) (defScope s_law_long) .none kV_law_long dc_law_long pm_law_long an_law_long cd_law_long ct_law_long), sl_law_long⟩)
    (g_law_long : PySem.W.codeIn K cd_law_long "_law_long" = true) (k_law_long : PySem.W.keepIn K (.ref f_law_long) = true)
    {f_law_heavy : Addr} {od_law_heavy an_law_heavy : Option Addr} {sl_law_heavy : Array (Option Value)} {oc_law_heavy kV_law_heavy dc_law_heavy pm_law_heavy cd_law_heavy ct_law_heavy : Value}
    (a_law_heavy : PySem.W.nsIn K mainGlobals "_law_heavy" = some (some (.ref f_law_heavy)))
    (l_law_heavy : K.lookup f_law_heavy = some ⟨oc_law_heavy, od_law_heavy, .func (PySem.W.fnOf "_law_heavy" "_law_heavy" (defArgs s_law_heavy) (defBody s_law_heavy) (defScope s_law_heavy) .none kV_law_heavy dc_law_heavy pm_law_heavy an_law_heavy cd_law_heavy ct_law_heavy), sl_law_heavy⟩)
    (g_law_heavy : PySem.W.codeIn K cd_law_heavy "_law_heavy" = true) (k_law_heavy : PySem.W.keepIn K (.ref f_law_heavy) = true)
    {f_law_some : Addr} {od_law_some an_law_some : Option Addr} {sl_law_some : Array (Option Value)} {oc_law_some kV_law_some dc_law_some pm_law_some cd_law_some ct_law_some : Value}
    (a_law_some : PySem.W.nsIn K mainGlobals "_law_some" = some (some (.ref f_law_some)))
    (l_law_some : K.lookup f_law_some = some ⟨oc_law_some, od_law_some, .func (PySem.W.fnOf "_law_some" "_law_some" (defArgs s_law_some) (defBody s_law_some) (defScope s_law_some) .none kV_law_some dc_law_some pm_law_some an_law_some cd_law_some ct_law_some), sl_law_some⟩)
    (g_law_some : PySem.W.codeIn K cd_law_some "_law_some" = true) (k_law_some : PySem.W.keepIn K (.ref f_law_some) = true)
    {f_law_text : Addr} {od_law_text an_law_text : Option Addr} {sl_law_text : Array (Option Value)} {oc_law_text kV_law_text dc_law_text pm_law_text cd_law_text ct_law_text : Value}
    (a_law_text : PySem.W.nsIn K mainGlobals "_law_text" = some (some (.ref f_law_text)))
    (l_law_text : K.lookup f_law_text = some ⟨oc_law_text, od_law_text, .func (PySem.W.fnOf "_law_text" "_law_text" (defArgs s_law_text) (defBody s_law_text) (defScope s_law_text) .none kV_law_text dc_law_text pm_law_text an_law_text cd_law_text ct_law_text), sl_law_text⟩)
    (g_law_text : PySem.W.codeIn K cd_law_text "_law_text" = true) (k_law_text : PySem.W.keepIn K (.ref f_law_text) = true)
    {f_law_right : Addr} {od_law_right an_law_right : Option Addr} {sl_law_right : Array (Option Value)} {oc_law_right kV_law_right dc_law_right pm_law_right cd_law_right ct_law_right : Value}
    (a_law_right : PySem.W.nsIn K mainGlobals "_law_right" = some (some (.ref f_law_right)))
    (l_law_right : K.lookup f_law_right = some ⟨oc_law_right, od_law_right, .func (PySem.W.fnOf "_law_right" "_law_right" (defArgs s_law_right) (defBody s_law_right) (defScope s_law_right) .none kV_law_right dc_law_right pm_law_right an_law_right cd_law_right ct_law_right), sl_law_right⟩)
    (g_law_right : PySem.W.codeIn K cd_law_right "_law_right" = true) (k_law_right : PySem.W.keepIn K (.ref f_law_right) = true)
    {f_law : Addr} {od_law an_law : Option Addr} {sl_law : Array (Option Value)} {oc_law kV_law dc_law pm_law cd_law ct_law : Value}
    (a_law : PySem.W.nsIn K mainGlobals "law" = some (some (.ref f_law)))
    (l_law : K.lookup f_law = some ⟨oc_law, od_law, .func (PySem.W.fnOf "law" "law" (defArgs s_law) (defBody s_law) (defScope s_law) .none kV_law dc_law pm_law an_law cd_law ct_law), sl_law⟩)
    (g_law : PySem.W.codeIn K cd_law "law" = true) (k_law : PySem.W.keepIn K (.ref f_law) = true) :
    Tx K mg := {
    n_abs := PySem.W.mg_none_of X G z_abs
    n_all := PySem.W.mg_none_of X G z_all
    n_bool := PySem.W.mg_none_of X G z_bool
    n_divmod := PySem.W.mg_none_of X G z_divmod
    n_enumerate := PySem.W.mg_none_of X G z_enumerate
    n_int := PySem.W.mg_none_of X G z_int
    n_isinstance := PySem.W.mg_none_of X G z_isinstance
    n_len := PySem.W.mg_none_of X G z_len
    n_max := PySem.W.mg_none_of X G z_max
    n_min := PySem.W.mg_none_of X G z_min
    n_range := PySem.W.mg_none_of X G z_range
    n_repr := PySem.W.mg_none_of X G z_repr
    n_str := PySem.W.mg_none_of X G z_str
    n_sum := PySem.W.mg_none_of X G z_sum
    n_tuple := PySem.W.mg_none_of X G z_tuple
    c_FAULT := ⟨_, PySem.W.mg_of X G y_FAULT, _, rfl⟩
    c_MOST_ITEMS := ⟨_, PySem.W.mg_of X G y_MOST_ITEMS, _, rfl⟩
    c_MOST_DEPTH := ⟨_, PySem.W.mg_of X G y_MOST_DEPTH, _, rfl⟩
    c_MOST_SIZE := ⟨_, PySem.W.mg_of X G y_MOST_SIZE, _, rfl⟩
    c_DIGITS := ⟨_, PySem.W.mg_of X G y_DIGITS, _, rfl⟩
    d_is_int := Df.make (PySem.W.mg_of X G a_is_int) l_is_int g_is_int k_is_int fun _ _ _ _ _ _ us hl => match us, hl with | [_], _ => rfl
    d_is_nested := Df.make (PySem.W.mg_of X G a_is_nested) l_is_nested g_is_nested k_is_nested fun _ _ _ _ _ _ us hl => match us, hl with | [_], _ => rfl
    d_depth_of := Df.make (PySem.W.mg_of X G a_depth_of) l_depth_of g_depth_of k_depth_of fun _ _ _ _ _ _ us hl => match us, hl with | [_], _ => rfl
    d_datum_size := Df.make (PySem.W.mg_of X G a_datum_size) l_datum_size g_datum_size k_datum_size fun _ _ _ _ _ _ us hl => match us, hl with | [_], _ => rfl
    d_is_datum := Df.make (PySem.W.mg_of X G a_is_datum) l_is_datum g_is_datum k_is_datum fun _ _ _ _ _ _ us hl => match us, hl with | [_], _ => rfl
    d_is_fault := Df.make (PySem.W.mg_of X G a_is_fault) l_is_fault g_is_fault k_is_fault fun _ _ _ _ _ _ us hl => match us, hl with | [_], _ => rfl
    d_is_value := Df.make (PySem.W.mg_of X G a_is_value) l_is_value g_is_value k_is_value fun _ _ _ _ _ _ us hl => match us, hl with | [_], _ => rfl
    d_check_value := Df.make (PySem.W.mg_of X G a_check_value) l_check_value g_check_value k_check_value fun _ _ _ _ _ _ us hl => match us, hl with | [_], _ => rfl
    d_size_of := Df.make (PySem.W.mg_of X G a_size_of) l_size_of g_size_of k_size_of fun _ _ _ _ _ _ us hl => match us, hl with | [_], _ => rfl
    d_datum_text := Df.make (PySem.W.mg_of X G a_datum_text) l_datum_text g_datum_text k_datum_text fun _ _ _ _ _ _ us hl => match us, hl with | [_], _ => rfl
    d_format_value := Df.make (PySem.W.mg_of X G a_format_value) l_format_value g_format_value k_format_value fun _ _ _ _ _ _ us hl => match us, hl with | [_], _ => rfl
    d_read_integer := Df.make (PySem.W.mg_of X G a_read_integer) l_read_integer g_read_integer k_read_integer fun _ _ _ _ _ _ us hl => match us, hl with | [_, _], _ => rfl
    d_read_tuple := Df.make (PySem.W.mg_of X G a_read_tuple) l_read_tuple g_read_tuple k_read_tuple fun _ _ _ _ _ _ us hl => match us, hl with | [_, _, _], _ => rfl
    d_read_datum := Df.make (PySem.W.mg_of X G a_read_datum) l_read_datum g_read_datum k_read_datum fun _ _ _ _ _ _ us hl => match us, hl with | [_, _, _], _ => rfl
    d_parse_value := Df.make (PySem.W.mg_of X G a_parse_value) l_parse_value g_parse_value k_parse_value fun _ _ _ _ _ _ us hl => match us, hl with | [_], _ => rfl
    d_law_pot := Df.make (PySem.W.mg_of X G a_law_pot) l_law_pot g_law_pot k_law_pot fun _ _ _ _ _ _ us hl => match us, hl with | [_, _], _ => rfl
    d_law_digit := Df.make (PySem.W.mg_of X G a_law_digit) l_law_digit g_law_digit k_law_digit fun _ _ _ _ _ _ us hl => match us, hl with | [_, _], _ => rfl
    d_law_int := Df.make (PySem.W.mg_of X G a_law_int) l_law_int g_law_int k_law_int fun _ _ _ _ _ _ us hl => match us, hl with | [_], _ => rfl
    d_law_datum := Df.make (PySem.W.mg_of X G a_law_datum) l_law_datum g_law_datum k_law_datum fun _ _ _ _ _ _ us hl => match us, hl with | [_, _], _ => rfl
    d_law_size := Df.make (PySem.W.mg_of X G a_law_size) l_law_size g_law_size k_law_size fun _ _ _ _ _ _ us hl => match us, hl with | [_], _ => rfl
    d_law_deep := Df.make (PySem.W.mg_of X G a_law_deep) l_law_deep g_law_deep k_law_deep fun _ _ _ _ _ _ us hl => match us, hl with | [_], _ => rfl
    d_law_fits := Df.make (PySem.W.mg_of X G a_law_fits) l_law_fits g_law_fits k_law_fits fun _ _ _ _ _ _ us hl => match us, hl with | [_], _ => rfl
    d_law_long := Df.make (PySem.W.mg_of X G a_law_long) l_law_long g_law_long k_law_long fun _ _ _ _ _ _ us hl => match us, hl with | [_, _], _ => rfl
    d_law_heavy := Df.make (PySem.W.mg_of X G a_law_heavy) l_law_heavy g_law_heavy k_law_heavy fun _ _ _ _ _ _ us hl => match us, hl with | [_], _ => rfl
    d_law_some := Df.make (PySem.W.mg_of X G a_law_some) l_law_some g_law_some k_law_some fun _ _ _ _ _ _ us hl => match us, hl with | [_], _ => rfl
    d_law_text := Df.make (PySem.W.mg_of X G a_law_text) l_law_text g_law_text k_law_text fun _ _ _ _ _ _ us hl => match us, hl with | [_], _ => rfl
    d_law_right := Df.make (PySem.W.mg_of X G a_law_right) l_law_right g_law_right k_law_right fun _ _ _ _ _ _ us hl => match us, hl with | [_], _ => rfl
    d_law := Df.make (PySem.W.mg_of X G a_law) l_law g_law k_law fun _ _ _ _ _ _ us hl => match us, hl with | [_], _ => rfl }

end My
end

section
set_option Elab.async false
set_option linter.all false
set_option maxRecDepth 100000
set_option maxHeartbeats 4000000
open PySem PySem.W PyProof.Rows
set_option maxHeartbeats 0 in
theorem PySem.Challenge.cw_leastsession_k11_sizes_and_texts_holds : PySem.Challenge.rw_leastsession_k11_sizes_and_texts.Holds := by
  w_on; o_law; k_head; (case hw => w_witness2)
  k_fill
  refine Ls.walk_g (l := PySem.Challenge.rw_leastsession_k11_sizes_and_texts) (n := 63) (k := 16) (x := "_law_script") (st := My.s_law) (sp := My.sp_law) rfl (by decide) rfl ⟨rfl, by decide, by decide⟩ (fun w h Y => PySem.W.kIn_of Y) ?F My.law_start
  case F =>
    intro w mg fa h KX G hmg base hb1 hb2
    refine My.all_ok ?T
    refine' My.tx_mk KX G ?z_abs ?z_all ?z_bool ?z_divmod ?z_enumerate ?z_int ?z_isinstance ?z_len ?z_max ?z_min ?z_range ?z_repr ?z_str ?z_sum ?z_tuple ?y_FAULT ?y_MOST_ITEMS ?y_MOST_DEPTH ?y_MOST_SIZE ?y_DIGITS ?a_is_int ?l_is_int ?g_is_int ?k_is_int ?a_is_nested ?l_is_nested ?g_is_nested ?k_is_nested ?a_depth_of ?l_depth_of ?g_depth_of ?k_depth_of ?a_datum_size ?l_datum_size ?g_datum_size ?k_datum_size ?a_is_datum ?l_is_datum ?g_is_datum ?k_is_datum ?a_is_fault ?l_is_fault ?g_is_fault ?k_is_fault ?a_is_value ?l_is_value ?g_is_value ?k_is_value ?a_check_value ?l_check_value ?g_check_value ?k_check_value ?a_size_of ?l_size_of ?g_size_of ?k_size_of ?a_datum_text ?l_datum_text ?g_datum_text ?k_datum_text ?a_format_value ?l_format_value ?g_format_value ?k_format_value ?a_read_integer ?l_read_integer ?g_read_integer ?k_read_integer ?a_read_tuple ?l_read_tuple ?g_read_tuple ?k_read_tuple ?a_read_datum ?l_read_datum ?g_read_datum ?k_read_datum ?a_parse_value ?l_parse_value ?g_parse_value ?k_parse_value ?a_law_pot ?l_law_pot ?g_law_pot ?k_law_pot ?a_law_digit ?l_law_digit ?g_law_digit ?k_law_digit ?a_law_int ?l_law_int ?g_law_int ?k_law_int ?a_law_datum ?l_law_datum ?g_law_datum ?k_law_datum ?a_law_size ?l_law_size ?g_law_size ?k_law_size ?a_law_deep ?l_law_deep ?g_law_deep ?k_law_deep ?a_law_fits ?l_law_fits ?g_law_fits ?k_law_fits ?a_law_long ?l_law_long ?g_law_long ?k_law_long ?a_law_heavy ?l_law_heavy ?g_law_heavy ?k_law_heavy ?a_law_some ?l_law_some ?g_law_some ?k_law_some ?a_law_text ?l_law_text ?g_law_text ?k_law_text ?a_law_right ?l_law_right ?g_law_right ?k_law_right ?a_law ?l_law ?g_law ?k_law
    (case z_abs => k_is)
    (case z_all => k_is)
    (case z_bool => k_is)
    (case z_divmod => k_is)
    (case z_enumerate => k_is)
    (case z_int => k_is)
    (case z_isinstance => k_is)
    (case z_len => k_is)
    (case z_max => k_is)
    (case z_min => k_is)
    (case z_range => k_is)
    (case z_repr => k_is)
    (case z_str => k_is)
    (case z_sum => k_is)
    (case z_tuple => k_is)
    (case y_FAULT => k_is)
    (case y_MOST_ITEMS => k_is)
    (case y_MOST_DEPTH => k_is)
    (case y_MOST_SIZE => k_is)
    (case y_DIGITS => k_is)
    (case a_is_int => k_is)
    (case l_is_int => k_is)
    (case g_is_int => k_is)
    (case k_is_int => k_is)
    (case a_is_nested => k_is)
    (case l_is_nested => k_is)
    (case g_is_nested => k_is)
    (case k_is_nested => k_is)
    (case a_depth_of => k_is)
    (case l_depth_of => k_is)
    (case g_depth_of => k_is)
    (case k_depth_of => k_is)
    (case a_datum_size => k_is)
    (case l_datum_size => k_is)
    (case g_datum_size => k_is)
    (case k_datum_size => k_is)
    (case a_is_datum => k_is)
    (case l_is_datum => k_is)
    (case g_is_datum => k_is)
    (case k_is_datum => k_is)
    (case a_is_fault => k_is)
    (case l_is_fault => k_is)
    (case g_is_fault => k_is)
    (case k_is_fault => k_is)
    (case a_is_value => k_is)
    (case l_is_value => k_is)
    (case g_is_value => k_is)
    (case k_is_value => k_is)
    (case a_check_value => k_is)
    (case l_check_value => k_is)
    (case g_check_value => k_is)
    (case k_check_value => k_is)
    (case a_size_of => k_is)
    (case l_size_of => k_is)
    (case g_size_of => k_is)
    (case k_size_of => k_is)
    (case a_datum_text => k_is)
    (case l_datum_text => k_is)
    (case g_datum_text => k_is)
    (case k_datum_text => k_is)
    (case a_format_value => k_is)
    (case l_format_value => k_is)
    (case g_format_value => k_is)
    (case k_format_value => k_is)
    (case a_read_integer => k_is)
    (case l_read_integer => k_is)
    (case g_read_integer => k_is)
    (case k_read_integer => k_is)
    (case a_read_tuple => k_is)
    (case l_read_tuple => k_is)
    (case g_read_tuple => k_is)
    (case k_read_tuple => k_is)
    (case a_read_datum => k_is)
    (case l_read_datum => k_is)
    (case g_read_datum => k_is)
    (case k_read_datum => k_is)
    (case a_parse_value => k_is)
    (case l_parse_value => k_is)
    (case g_parse_value => k_is)
    (case k_parse_value => k_is)
    (case a_law_pot => k_is)
    (case l_law_pot => k_is)
    (case g_law_pot => k_is)
    (case k_law_pot => k_is)
    (case a_law_digit => k_is)
    (case l_law_digit => k_is)
    (case g_law_digit => k_is)
    (case k_law_digit => k_is)
    (case a_law_int => k_is)
    (case l_law_int => k_is)
    (case g_law_int => k_is)
    (case k_law_int => k_is)
    (case a_law_datum => k_is)
    (case l_law_datum => k_is)
    (case g_law_datum => k_is)
    (case k_law_datum => k_is)
    (case a_law_size => k_is)
    (case l_law_size => k_is)
    (case g_law_size => k_is)
    (case k_law_size => k_is)
    (case a_law_deep => k_is)
    (case l_law_deep => k_is)
    (case g_law_deep => k_is)
    (case k_law_deep => k_is)
    (case a_law_fits => k_is)
    (case l_law_fits => k_is)
    (case g_law_fits => k_is)
    (case k_law_fits => k_is)
    (case a_law_long => k_is)
    (case l_law_long => k_is)
    (case g_law_long => k_is)
    (case k_law_long => k_is)
    (case a_law_heavy => k_is)
    (case l_law_heavy => k_is)
    (case g_law_heavy => k_is)
    (case k_law_heavy => k_is)
    (case a_law_some => k_is)
    (case l_law_some => k_is)
    (case g_law_some => k_is)
    (case k_law_some => k_is)
    (case a_law_text => k_is)
    (case l_law_text => k_is)
    (case g_law_text => k_is)
    (case k_law_text => k_is)
    (case a_law_right => k_is)
    (case l_law_right => k_is)
    (case g_law_right => k_is)
    (case k_law_right => k_is)
    (case a_law => k_is)
    (case l_law => k_is)
    (case g_law => k_is)
    (case k_law => k_is)
end
