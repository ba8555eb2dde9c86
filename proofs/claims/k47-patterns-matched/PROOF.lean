import PyProof.Rows.All
import Wide.All
import OpenK.AllK
import Wide.FinOn
import HandS.ForMost
import HandS.Lambda
import HandS.EndTab
import HandS.EndOwn
import HandS.Codes
import PyProof.ReprRoads
import HandS.Walk
import HandS.Steps
import HandS.IsInst
import HandS.SortInts
import HandS.OwnEq
import HandS.Conv
import HandS.More
import HandS.Dict
import PyProof.Rows.SetFrom
import HandS.Set
import HandS.SetFor
import HandS.Strs
import HandS.ExcInit
import KE.KExcSuper
import KE.KSuper
import HandS.ExcOwn
import HandS.ExcField
import HandS.WordsExc
import HandS.Exc
import HandS.ExcIs
import HandS.Evl
import PySem.Challenge.RW_trueagain_k47_patterns_matched
import HandS.NestedK
import KE.KNestM
set_option Elab.async false
set_option linter.all false
set_option maxRecDepth 100000
set_option maxHeartbeats 4000000
/-! TaBase: a def's promise where no repr is under way (FnG); repr of data; the end of a law with such a promise -/
namespace TA
open PySem PySem.Spec PyProof.Rows L2

/-- a def keeps sp wherever the stack bears no repr that is under way -/
structure FnG (P : Program) (w : World) (K : PySem.W.Frag) (mg : Str → Option Value) (base : Heap) (k : Nat) (f : Addr) (fd : FuncData) (ps : List Str) (sp : Sp) : Prop where
  len : ∀ vs H Q E, sp vs H Q E → vs.length = ps.length
  run : ∀ (A : Around) (outer : List Env) (s : Shared) (H : Hp) (args : Args) (us : List Value) (vs : List V) (Q : VK) (E : XK), A.guards = some [] → Room k A →
    Env0 P w K mg base A outer s H → BindsTo s fd args (ps.zip us) → Vals vs us → sp vs H Q E →
    codeAny (model P w) A (.call (.ref f) args) (CR C8.CX0 outer P w H s Q E) s

/-- a def of the module under its name, with such a promise -/
structure CalG (P : Program) (w : World) (K : PySem.W.Frag) (mg : Str → Option Value) (base : Heap) (k : Nat) (x : Str) (sp : Sp) : Prop where
  ex : ∃ (f : Addr) (fd : FuncData) (ps : List Str), FnG P w K mg base k f fd ps sp ∧ mg x = some (.ref f) ∧ PySem.W.keepIn K (.ref f) = true ∧ L2.Binds K fd ps []

section
variable {P : Program} {w : World} {K : PySem.W.Frag} {mg : Str → Option Value} {base : Heap}
theorem fnG_by {x : Str} {st : Stmt} {f : Addr} {fd : FuncData} {N ps : List Str} {k : Nat} {sp : Sp} (F : C8.Fun K x x st f fd) (Sc : FnScope N ps (C8.fnScope st))
    (len : ∀ vs H Q E, sp vs H Q E → vs.length = ps.length)
    (hbody : ∀ (cdv : Value) (A : Around) (outer : List Env) (s : Shared) (H : Hp) (vs : List V) (Q : VK) (E : XK), A.guards = some [] →
      Room k (A.deeper (envOfC x (C8.fnScope st) s.heap.objs.size f cdv)) → sp vs H Q E →
      ∃ t, PSs (cxOf C8.CX0 P w K mg base N x (C8.fnScope st) f cdv A outer s H E).nox (C8.fnBody st) t ∧ t { nx := fun _ H' => Q .non H', rt := Q } (L2.start N vs) H) :
    FnG P w K mg base (k + 1) f fd ps sp := by
  obtain ⟨oc, od, dV, kV, doc, pm, an, cdv, ct, osl, rfl, lk, hcd⟩ := F.ex
  refine ⟨len, fun A outer s H args us vs Q E hg hr e0 hb r h => ?_⟩
  refine LamX.run_ofS lk hcd Sc hr e0 hb r (len _ _ _ _ h) fun hr2 => ?_
  obtain ⟨t, ht, q⟩ := hbody cdv A outer s H vs Q E hg hr2 h
  exact ⟨t, ht.nox, q⟩
theorem calG_by {x : Str} {st : Stmt} {f : Addr} {fd : FuncData} {N ps : List Str} {k : Nat} {sp : Sp} (F : C8.Def K mg x st f fd) (b : L2.Binds K fd ps []) (Sc : FnScope N ps (C8.fnScope st))
    (len : ∀ vs H Q E, sp vs H Q E → vs.length = ps.length)
    (hbody : ∀ (cdv : Value) (A : Around) (outer : List Env) (s : Shared) (H : Hp) (vs : List V) (Q : VK) (E : XK), A.guards = some [] →
      Room k (A.deeper (envOfC x (C8.fnScope st) s.heap.objs.size f cdv)) → sp vs H Q E →
      ∃ t, PSs (cxOf C8.CX0 P w K mg base N x (C8.fnScope st) f cdv A outer s H E).nox (C8.fnBody st) t ∧ t { nx := fun _ H' => Q .non H', rt := Q } (L2.start N vs) H) :
    CalG P w K mg base (k + 1) x sp := ⟨f, fd, ps, fnG_by F.fn Sc len hbody, F.mgf, F.kp, b⟩
end

section
variable {X : Cx} {k j : Nat} {x : Str} {sp : Sp} {p pos : Pos} {e : Expr} {es : List Expr} {t : TA}
theorem pe_g (c : CalG X.prog X.w X.K X.mg X.base k x sp) (hg : X.A.guards = some []) (hr : Room j X.A) (hk : k ≤ j) (hgl : Gl X x) (ha : PA X (e :: es) t)
    (hdb : (x == ("__debug__" : Str)) = false := by decide) (he : starEach (e :: es) X.env = (false, eval e X.env) :: starEach es X.env := by rfl) (hpl : (backTo pos (starEach es X.env)).any (·.1) = false := by rfl) :
    PE X (.Call (.Name x p) (e :: es) [] pos) (tCall sp [] C8.E0 t) := by
  obtain ⟨f, fd, ps, F, hm, kp, hb⟩ := c.ex
  refine ⟨fun pins s σ H Q I h => wpAny_Call_Name_kw (ld_glob I hgl hm ?_ hdb)⟩
  refine PySem.W.callWith_K (h₀ := X.base) I.ok.mod.kin kp (thn (ha.run pos pins s σ H _ I h) fun us s1 hh => ?_) he hpl
  obtain ⟨vs, H1, I1, r1, q1⟩ := hh
  rw [List.append_nil] at q1
  have hl : us.length = ps.length := r1.length.symm.trans (F.len _ _ _ _ q1)
  have hb2 := hb s1 us I1.kIn (by rw [List.append_nil]; exact hl)
  rw [List.append_nil] at hb2
  have rc := F.run X.A X.stack s1 H1 ⟨us, []⟩ us vs Q C8.E0 hg (hr.mono hk) I1.env0 hb2 r1 q1
  refine ⟨I1.kIn, wpAny_call (codeAny_mono rc fun res s2 hq => ?_)⟩
  match res, hq with
  | .ok (.ret u), hq => exact I1.after hq
  | .ok .next, hq => exact False.elim hq
  | .ok .brk, hq => exact False.elim hq
  | .ok .cont, hq => exact False.elim hq
  | .error er, hq => exact (show False from hq).elim
end

/-! ### repr of data -/
/-- repr(v), v standing for the data d -/
def rRepr (K : PySem.W.Frag) : List V → Hp → VK → Prop := fun vs H Q => ∃ (v : V) (d : PyData), vs = [v] ∧ Dp K H v d ∧ d.showable = true ∧ d.hasDict = false ∧ d.depth ≤ 60 ∧ d.shown.length ≤ sizeLine ∧ Q (.str d.shown) H
theorem cr_repr {X : Cx} (hg : X.A.guards = some []) (hu : X.A.units + 64 < cLine) : CallR X (.builtin "repr") (rRepr X.K) := by
  intro pins s σ H xs us Q I r h
  obtain ⟨v, d, rfl, hd, hs, hn, hdep, hz, q⟩ := h
  obtain ⟨u, rfl, ru⟩ := vals1 r
  obtain ⟨as, hr⟩ := Dp.reads I d v u hd ru
  have fin : ∀ (h' : Heap) (u : Tok) (tk : Nat), (∀ b o, s.heap.get? b = some o → h'.get? b = some o) → EP X pins σ Q (.str d.shown u) { s with heap := h', toks := tk } := fun h' u tk k =>
    ⟨.str d.shown, H, I.kept k, ⟨u, rfl⟩, q⟩
  cases hr with
  | none => exact P.repr_of_none (fin s.heap _ _ fun _ _ e => e)
  | bool b => exact P.repr_of_bool (fin s.heap _ _ fun _ _ e => e)
  | int i t =>
    have hi : i.natAbs.log2 < 1920 := by simpa [PyData.showable] using hs
    exact P.repr_of_int hi (fin s.heap _ _ fun _ _ e => e)
  | str x t => exact P.repr_of_str (fin s.heap _ _ fun _ _ e => e) (by simpa [PyData.shown] using hz)
  | list h1 h2 h3 h4 => exact repr_of_reads' (.list h1 h2 h3 h4) hs (PyData.noDict_hsm hn) hg (by omega) (fun _ _ e => e) (fun h' u tk k => fin h' u tk k) hz
  | tuple h1 h2 h3 h4 => exact repr_of_reads' (.tuple h1 h2 h3 h4) hs (PyData.noDict_hsm hn) hg (by omega) (fun _ _ e => e) (fun h' u tk k => fin h' u tk k) hz
  | dict h1 h2 h3 h4 h5 => cases hd
end TA

set_option Elab.async false
set_option linter.all false
set_option maxRecDepth 100000
set_option maxHeartbeats 4000000
/-! TaEnd: the end of a law whose promise speaks of calls under the outermost caller alone (there no repr is under way) -/
namespace TA
open PySem PySem.Spec PyProof.Rows L2

/-- the abstract heap at the law's call: the script (unless it is the module's own), the empty tables of ts -/
def H0 (own : Bool) (a : Addr) (o : Obj) (u : HO) (ts : List Addr) : Hp := fun b => if b ∈ ts then some (.tbl #[]) else if b = a ∧ own = false then some (.frz o u) else none
theorem H0_tab {own : Bool} {a b : Addr} {o : Obj} {u : HO} {ts : List Addr} (h : b ∈ ts) : H0 own a o u ts b = some (.tbl #[]) := if_pos h
theorem H0_scr {a : Addr} {o : Obj} {u : HO} {ts : List Addr} (h : a ∉ ts) : H0 false a o u ts a = some (.frz o u) := by unfold H0; rw [if_neg h, if_pos ⟨rfl, rfl⟩]
theorem H0_inv {own : Bool} {a b : Addr} {o : Obj} {u v : HO} {ts : List Addr} (h : H0 own a o u ts b = some v) : (b ∈ ts ∧ v = .tbl #[]) ∨ (b = a ∧ own = false ∧ v = .frz o u) := by
  unfold H0 at h
  split at h
  · next hb => exact .inl ⟨hb, (Option.some.inj h).symm⟩
  · split at h
    · next hb => exact .inr ⟨hb.1, hb.2, (Option.some.inj h).symm⟩
    · cases h

section
variable {P : Program} {w : World} {K : PySem.W.Frag} {mg mb : Str → Option Value} {fa a : Addr} {cs : List (Addr × Addr)} {s₁ : Shared} {vs : List Value} {ns : List Int}
theorem law_run (KX : K.In s₁.heap) (hns : s₁.heap.Ns mainGlobals mg) (hb : s₁.heap.Ns builtinsNs mb) (hbb : ∀ x : Str, x ≠ "__name__" → mb x = bootBuiltins x) (hlim : s₁.heap.NoLimit) (hg : s₁.gens = #[])
    (hT : ∀ p ∈ cs, s₁.heap.get? p.2 = some { cls := .none, data := .fields #[] }) (nT : ∀ p ∈ cs, K.lookup p.2 = none) (C : ∀ p ∈ cs, PySem.W.CodeHd s₁.heap p.1 p.2)
    (hbm : ∃ (bm : Addr) (ob : Obj), mg "__builtins__" = some (.ref bm) ∧ bm ≠ builtinsNs ∧ s₁.heap.get? bm = some ob ∧ ob.cls = .type "module" ∧ ob.dict = some builtinsNs ∧ ob.data = .plain)
    (ha : s₁.heap.get? a = some { cls := .type "list", data := .seq vs.toArray }) (hi : IntsAre vs ns) (hl : ns.length ≤ sizeLine)
    (run : ∀ (base : Heap) (H : Hp), K.In base → base.Ns mainGlobals mg → (∀ p ∈ cs, LamX.TabB base mg p.1 p.2) → (∀ p ∈ cs, H p.2 = some (.tbl #[])) → SqL K H a (ns.map V.int) →
      Env0 P w K mg base callerA [] s₁ H → codeAny (model P w) callerA (.call (.ref fa) ⟨[.ref a], []⟩) (CR C8.CX0 [] P w H s₁ (fun v _ => v = .bl true) C8.E0) s₁) :
    codeAny (model P w) callerA (.call (.ref fa) ⟨[.ref a], []⟩) (fun r s' => r = .ok (.ret (.bool true)) ∧ OldK s₁.heap s'.heap ∧ s'.os = s₁.os ∧ AllBare s'.gens) s₁ := by
  have rv := vals_ints hi
  have tabAt : ∀ {b : Addr}, b ∈ cs.map (·.2) → s₁.heap.get? b = some { cls := .none, data := .fields #[] } := fun {b} hb => by
    obtain ⟨p, hp, rfl⟩ := List.mem_map.mp hb
    exact hT p hp
  have tabK : ∀ {b : Addr}, b ∈ cs.map (·.2) → K.lookup b = none := fun {b} hb => by
    obtain ⟨p, hp, rfl⟩ := List.mem_map.mp hb
    exact nT p hp
  have aT : a ∉ cs.map (·.2) := fun z => by
    have q := tabAt z
    rw [ha] at q
    have z' : Data.seq vs.toArray _ = Data.fields #[] := congrArg Obj.data (Option.some.inj q)
    cases z'
  have main : ∀ own : Bool, (own = false → K.lookup a = none) → SqL K (H0 own a { cls := .type "list", data := .seq vs.toArray } (.lst (ns.map V.int)) (cs.map (·.2))) a (ns.map V.int) →
      codeAny (model P w) callerA (.call (.ref fa) ⟨[.ref a], []⟩) (fun r s' => r = .ok (.ret (.bool true)) ∧ OldK s₁.heap s'.heap ∧ s'.os = s₁.os ∧ AllBare s'.gens) s₁ := by
    intro own hown hS
    generalize hH : H0 own a { cls := .type "list", data := .seq vs.toArray } (.lst (ns.map V.int)) (cs.map (·.2)) = H at hS
    have inv : ∀ {b : Addr} {v : HO}, H b = some v → (b ∈ cs.map (·.2) ∧ v = .tbl #[]) ∨ (b = a ∧ own = false ∧ v = .frz { cls := .type "list", data := .seq vs.toArray } (.lst (ns.map V.int))) := fun {b v} e => by
      rw [← hH] at e
      exact H0_inv e
    have hok : HOk P w H s₁.heap := fun b v e => by
      rcases inv e with ⟨hb, rfl⟩ | ⟨rfl, _, rfl⟩
      · exact tabAt hb
      · exact ⟨ha, by rw [List.length_map]; exact hl, vs, _, rv, ha⟩
    -- what is neither the script nor an empty table is not tracked
    have none_of : ∀ {b : Addr} {o : Obj}, s₁.heap.get? b = some o → (∀ us m, o.data ≠ .seq us m) → o.data ≠ .fields #[] → H b = none := fun {b o} e h1 h2 => by
      cases q : H b with
      | none => rfl
      | some v =>
        rcases inv q with ⟨hb, _⟩ | ⟨rfl, _⟩
        · rw [tabAt hb] at e
          cases e
          exact (h2 rfl).elim
        · rw [ha] at e
          cases e
          exact (h1 _ _ rfl).elim
    have hid : ∀ {b : Addr} {o : Obj}, s₁.heap.get? b = some o → (∀ us m, o.data ≠ .seq us m) → o.data ≠ .fields #[] → (hidT s₁.heap H).get? b = some o := fun e h1 h2 => hidT_get e (none_of e h1 h2)
    have nsK : ∀ {b : Addr} {m : Str → Option Value}, s₁.heap.Ns b m → (hidT s₁.heap H).Ns b m := fun {b m} hn => by
      obtain ⟨o, es, ep, e, d, r⟩ := hn
      exact ⟨o, es, ep, hid e (fun us m z => by rw [d] at z; cases z) (fun z => by rw [d] at z; cases z), d, r⟩
    have kin : K.In (hidT s₁.heap H) := fun b o e => hidT_get (KX b o e) (by
      cases q : H b with
      | none => rfl
      | some v =>
        rcases inv q with ⟨hb, _⟩ | ⟨rfl, ho, _⟩
        · rw [tabK hb] at e
          cases e
        · rw [hown ho] at e
          cases e)
    have mod : Mod K mg (hidT s₁.heap H) := by
      obtain ⟨mc, l1, l2⟩ := hlim
      exact ⟨kin, nsK hns, ⟨mb, nsK hb, hbb⟩, ⟨mc, nsK l1, l2⟩⟩
    have TB : ∀ p ∈ cs, LamX.TabB (hidT s₁.heap H) mg p.1 p.2 := fun p hp => by
      refine ⟨?_, ?_, fun z => ?_⟩
      · obtain ⟨o, us, file, tf, flags, tg, inF, text, tt, e1, r1, r2, r3, rest⟩ := C p hp
        refine ⟨o, us, file, tf, flags, tg, inF, text, tt, hid e1 (fun us m z => by rw [r2] at z; cases z) (fun z => ?_), r1, r2, r3, rest⟩
        rw [r2] at z
        cases z
        simp at r3
      · obtain ⟨bm, ob, b1, b2, b3, b4, b5, b6⟩ := hbm
        refine ⟨bm, ob, b1, b2, fun q => ?_, fun q => ?_, hid b3 (fun us m z => by rw [b6] at z; cases z) (fun z => by rw [b6] at z; cases z), b4, b5, b6⟩
        · obtain ⟨o, es, ep, e, hd, _⟩ := hns
          rw [q, e] at b3
          cases b3
          rw [hd] at b6
          cases b6
        · rw [q, hT p hp] at b3
          cases b3
          cases b6
      · obtain ⟨o, es, ep, e, hd, _⟩ := hns
        rw [z, hT p hp] at e
        cases e
        cases hd
    have tabH : ∀ p ∈ cs, H p.2 = some (.tbl #[]) := fun p hp => by
      rw [← hH]
      exact H0_tab (List.mem_map.mpr ⟨p, hp, rfl⟩)
    have e0 : Env0 P w K mg (hidT s₁.heap H) callerA [] s₁ H :=
      { frames := rfl, mod := mod, bs := fun b o e => of_hidT e, bsz := Nat.le_of_eq (hidT_size _ _), funs := trivial, frf := fun b z => absurd (show b ∈ ([] : List Addr) from z) (by simp), hok := hok, bare := .of_eq hg }
    refine codeAny_mono (run _ H kin (nsK hns) TB tabH hS e0) fun r s' h => ?_
    match r, h with
    | .error e, h => exact (show False from h).elim
    | .ok .next, h => exact False.elim h
    | .ok .brk, h => exact False.elim h
    | .ok .cont, h => exact False.elim h
    | .ok (.ret u), h =>
      obtain ⟨v, H', os, bare, un, hok', r', q⟩ := h
      obtain rfl : v = .bl true := q
      obtain rfl : u = Value.bool true := r'
      have noF : ∀ b : Addr, b ∉ frs ([] : List Env) := fun b z => absurd (show b ∈ ([] : List Addr) from z) (by simp)
      have stays : ∀ b o, b ∉ cs.map (·.2) → s₁.heap.get? b = some o → s'.heap.get? b = some o := fun b o nb e => by
        cases q : H b with
        | none => exact un.keep b o e q (noF b) (by simp)
        | some v =>
          rcases inv q with ⟨hb, _⟩ | ⟨rfl, _, rfl⟩
          · exact absurd hb nb
          · have z := hok' b _ (un.frzs b _ _ q)
            rw [ha] at e
            cases e
            exact z.1
      have grown : ∀ b, b ∈ cs.map (·.2) → ∃ p ∈ cs, p.2 = b ∧ ∃ more : Array Value, s'.heap.get? b = some { cls := .none, data := .fields more } := fun b hb => by
        obtain ⟨p, hp, rfl⟩ := List.mem_map.mp hb
        obtain ⟨more, z⟩ := un.tbls p.2 #[] (tabH p hp)
        exact ⟨p, hp, rfl, _, hok' p.2 _ z⟩
      refine ⟨rfl, ⟨fun b o e => ?_, fun b o e => ?_⟩, os, bare⟩
      · by_cases hb : b ∈ cs.map (·.2)
        · obtain ⟨p, hp, rfl, more, hm⟩ := grown b hb
          rw [hT p hp] at e
          cases e
          exact .inr (.inl ⟨((C p hp).tab (hT p hp)).isCodeTable, rfl, #[], more, rfl, by rw [Array.empty_append]; exact hm⟩)
        · exact .inl (stays b o hb e)
      · by_cases hb : b ∈ cs.map (·.2)
        · obtain ⟨p, hp, rfl, more, hm⟩ := grown b hb
          exact ⟨_, hm⟩
        · exact ⟨o, stays b o hb e⟩
  cases hk : K.lookup a with
  | none => exact main false (fun _ => hk) (.inl (.inr ⟨_, H0_scr aT⟩))
  | some o =>
    have e := KX a o hk
    rw [ha] at e
    cases e
    refine main true (fun z => Bool.noConfusion z) (.inr ⟨_, vs.toArray, _, hk, rfl, rfl, rfl, ?_, by simpa using rv⟩)
    have lenV := hi.length
    rw [List.size_toArray, lenV]
    exact hl
end

/-- what is to be shown of the law at the head's heap h: its def and the tables that it (and others) grow -/
def LawG (l : PySem.W.OpenLaw) (w : World) (K : PySem.W.Frag) (k n : Nat) (x : Str) (mg : Str → Option Value) (fa : Addr) (h : Heap) : Prop :=
  ∃ (fd : FuncData) (cs : List (Addr × Addr)) (sp : Sp), (∀ p ∈ cs, h.get? p.2 = some { cls := .none, data := .fields #[] }) ∧ (∀ p ∈ cs, K.lookup p.2 = none) ∧ (∀ p ∈ cs, PySem.W.CodeHd h p.1 p.2) ∧
    (∀ (s : Shared) (u : Value), BindsTo s fd ⟨[u], []⟩ [(x, u)]) ∧
    (∀ (H : Hp) (a : Addr) (ns : List Int), ns.length ≤ n → (∀ p ∈ cs, H p.2 = some (.tbl #[])) → SqL K H a (ns.map V.int) → sp [.ref a] H (fun v _ => v = .bl true) C8.E0) ∧
    ∀ base : Heap, K.In base → base.Ns mainGlobals mg → (∀ p ∈ cs, LamX.TabB base mg p.1 p.2) → FnG l.prog w K mg base k fa fd [x] sp
theorem walk_G {l : PySem.W.OpenLaw} {n k : Nat} {q : Program} {loose : List Str} {XP : (Str → Option Value) → Heap → Prop} {YP : World → Heap → Prop} {d : DefRec} {K : Params → PySem.W.Frag} {x : Str}
    (hn : l.most = some n) (hn2 : n ≤ sizeLine) (hdf : d.params.defaults = []) (hr : Room k callerA) (hrec : ((recsOf q).any fun e => e.name == d.name) = true) (hY : ∀ (w : World) (h : Heap), YP w h → (K w.params).In h)
    (F : ∀ (w : World) (mg : Str → Option Value) (fa : Addr) (h : Heap), YP w h → (K w.params).In h → h.Ns mainGlobals mg → mg d.name = some (.ref fa) → LamX.OwnTab (K w.params) fa h → LawG l w (K w.params) k n x mg fa h) :
    PySem.W.WalkO q loose XP YP l.row.toRowW d [] (fun f vs => PySem.call f vs) := by
  refine Att.attach_call hn hdf fun w s₀ s₁ mg mb fa o pm cd doc a vs ns G Y ho hd hcd hmg hobj hints hlen hg => ?_
  have KX := hY w _ Y
  have own : LamX.OwnTab (K w.params) fa s₁.heap := fun c P o1 fd1 e dd vs1 sl k1 k2 k3 k4 k5 => by
    obtain ⟨dL, hm, hn1⟩ := List.any_eq_true.mp hrec
    have same : dL.name = d.name := beq_iff_eq.mp hn1
    obtain ⟨a', o', fd', c', P', h1, h2, h3, h4, _, ⟨oc, vc, e1, _, e3, e4⟩, hP⟩ := G.T.tab dL hm
    rw [same, hmg] at h1
    cases h1
    rw [KX _ _ k1] at h2
    cases h2
    rw [k2] at h3
    cases h3
    rw [k3] at h4
    cases h4
    rw [KX _ _ k4] at e1
    cases e1
    cases e3
    rw [k5] at e4
    cases e4
    exact hP
  obtain ⟨fd, cs, sp, hT, nT, C, hb, hsp, hF⟩ := F w mg fa _ Y KX G.T.g hmg own
  refine law_run KX G.T.g G.T.b G.T.builtins G.T.nolimit hg hT nT C G.T.bmain hobj hints (Nat.le_trans hlen hn2) fun base H k1 k2 k3 k4 k5 e0 => ?_
  exact (hF base k1 k2 k3).run callerA [] s₁ H ⟨[.ref a], []⟩ [.ref a] [.ref a] _ _ rfl hr e0 (hb s₁ (.ref a)) (.cons rfl .nil) (hsp H a ns hlen k4 k5)
end TA

set_option Elab.async false
set_option linter.all false
set_option maxRecDepth 100000
set_option maxHeartbeats 4000000
/-! TaRead: readings with a part of the heap that may change (local lists in the making, the law's stream) and a rest that stays -/
namespace TA
open PySem PySem.Spec PyProof.Rows L2

/-- no code table -/
def NT (o : HO) : Prop := ∀ ps, o ≠ .tbl ps
theorem nt_lst {xs : List V} : NT (.lst xs) := fun ps z => by cases z
theorem nt_tup {xs : List V} : NT (.tup xs) := fun ps z => by cases z
/-- all stays -/
def Ko (H H' : Hp) : Prop := ∀ a o, H a = some o → H' a = some o
theorem Ko.new {H : Hp} {p : Addr} {o : HO} (n : H p = none) : Ko H (upd H p o) := fun a u h => by
  rw [upd_ne (ne_of_none h n)]
  exact h
/-- all but m and the code tables stays -/
def Mo (m : List Addr) (H H' : Hp) : Prop := ∀ a o, a ∉ m → NT o → H a = some o → H' a = some o
theorem Ko.mo {m : List Addr} {H H' : Hp} (e : Ko H H') : Mo m H H' := fun a o _ _ h => e a o h
theorem Mo.refl {m : List Addr} {H : Hp} : Mo m H H := fun _ _ _ _ h => h
theorem Mo.trans {m : List Addr} {H H1 H2 : Hp} (x : Mo m H H1) (y : Mo m H1 H2) : Mo m H H2 := fun a o n t h => y a o n t (x a o n t h)
theorem Mo.weak {m m' : List Addr} {H H' : Hp} (x : Mo m H H') (s : ∀ a, a ∈ m → a ∈ m') : Mo m' H H' := fun a o n t h => x a o (fun z => n (s a z)) t h
theorem Mo.of {m : List Addr} {H H' : Hp} (x : Mo [] H H') : Mo m H H' := x.weak fun a z => absurd z (by simp)
theorem Mo.new {m : List Addr} {H : Hp} {p : Addr} {o : HO} (n : H p = none) : Mo m H (upd H p o) := (Ko.new n).mo
theorem Mo.set {m : List Addr} {H : Hp} {p : Addr} {o : HO} (n : p ∈ m) : Mo m H (upd H p o) := fun a u na _ h => by
  rw [upd_ne (fun z => na (by rw [z]; exact n))]
  exact h
/-- P, whatever happens to m -/
def Bx (m : List Addr) (P : Hp → Prop) (H : Hp) : Prop := ∀ H', Mo m H H' → P H'
theorem Bx.now {m : List Addr} {P : Hp → Prop} {H : Hp} (x : Bx m P H) : P H := x H Mo.refl
theorem Bx.mo {m : List Addr} {P : Hp → Prop} {H H' : Hp} (x : Bx m P H) (e : Mo m H H') : Bx m P H' := fun H2 e2 => x H2 (e.trans e2)
theorem Bx.imp {m : List Addr} {P R : Hp → Prop} {H : Hp} (x : Bx m P H) (f : ∀ H, P H → R H) : Bx m R H := fun H' e => f H' (x H' e)
theorem Bx.const {m : List Addr} {p : Prop} {H : Hp} (h : p) : Bx m (fun _ => p) H := fun _ _ => h
theorem Bx.at {m : List Addr} {H : Hp} {a : Addr} {o : HO} (n : a ∉ m) (h : H a = some o) (t : NT o := by intro ps z; cases z) : Bx m (fun H => H a = some o) H := fun _ e => e a o n t h
/-- a new object: what was known is known whatever happens to it -/
theorem Bx.grow {m : List Addr} {P : Hp → Prop} {H : Hp} {p : Addr} {o : HO} (x : Bx m P H) (n : H p = none) : Bx (p :: m) P (upd H p o) := fun H' e => x H' fun a u na t h => by
  have ne : a ≠ p := ne_of_none h n
  exact e a u (fun z => (List.mem_cons.mp z).elim ne na) t (by rw [upd_ne ne]; exact h)
theorem Bx.less {m m' : List Addr} {P : Hp → Prop} {H : Hp} (x : Bx m' P H) (s : ∀ a, a ∈ m → a ∈ m') : Bx m P H := fun H' e => x H' (e.weak s)
/-- what is known -/
def Kn (m : List Addr) (l : List (Hp → Prop)) (H : Hp) : Prop := ∀ φ ∈ l, Bx m φ H
theorem Kn.nil {m : List Addr} {H : Hp} : Kn m [] H := fun _ h => absurd h (by simp)
theorem Kn.mo {m : List Addr} {l : List (Hp → Prop)} {H H' : Hp} (k : Kn m l H) (e : Mo m H H') : Kn m l H' := fun φ h => (k φ h).mo e
theorem Kn.push {m : List Addr} {l : List (Hp → Prop)} {H : Hp} {φ : Hp → Prop} (k : Kn m l H) (b : Bx m φ H) : Kn m (φ :: l) H := fun ψ h => by
  rcases List.mem_cons.mp h with rfl | h
  · exact b
  · exact k ψ h
theorem Kn.get {m : List Addr} {l : List (Hp → Prop)} {H : Hp} {φ : Hp → Prop} (k : Kn m l H) (h : φ ∈ l) : φ H := (k φ h).now
theorem Kn.box {m : List Addr} {l : List (Hp → Prop)} {H : Hp} {φ : Hp → Prop} (k : Kn m l H) (h : φ ∈ l) : Bx m φ H := k φ h
theorem Kn.less {m m' : List Addr} {l : List (Hp → Prop)} {H : Hp} (k : Kn m' l H) (s : ∀ a, a ∈ m → a ∈ m') : Kn m l H := fun φ h => (k φ h).less s
theorem Kn.grow {m : List Addr} {l : List (Hp → Prop)} {H : Hp} {p : Addr} {o : HO} (k : Kn m l H) (n : H p = none) : Kn (p :: m) l (upd H p o) := fun φ h => (k φ h).grow n
theorem Kn.sub {m : List Addr} {l l' : List (Hp → Prop)} {H : Hp} (k : Kn m l H) (s : ∀ φ, φ ∈ l' → φ ∈ l) : Kn m l' H := fun φ h => k φ (s φ h)

/-! ### the law's stream -/
def mostDraws : Int := 10000000
/-- at a and b a stream from which n more numbers may be drawn -/
def Strm (a b : Addr) (n : Nat) (H : Hp) : Prop := ∃ (cur cnt mix : Int) (xs : List Int), H a = some (.lst [.ref b, .int cur, .int cnt, .int mix]) ∧ H b = some (.lst (xs.map V.int)) ∧
  0 ≤ cur ∧ 0 ≤ cnt ∧ cnt + (n : Int) ≤ mostDraws ∧ 0 ≤ mix ∧ mix < 2147483647 ∧ xs.length ≤ 1000
theorem Strm.le {a b : Addr} {n k : Nat} {H : Hp} (x : Strm a b n H) (h : k ≤ n) : Strm a b k H := by
  obtain ⟨cur, cnt, mix, xs, h1, h2, h3, h4, h5, h6⟩ := x
  exact ⟨cur, cnt, mix, xs, h1, h2, h3, h4, by omega, h6⟩
theorem Strm.at {a b : Addr} {n : Nat} {H H' : Hp} (x : Strm a b n H) (ha : ∀ xs, H a = some (.lst xs) → H' a = some (.lst xs)) (hb : ∀ xs, H b = some (.lst xs) → H' b = some (.lst xs)) : Strm a b n H' := by
  obtain ⟨cur, cnt, mix, xs, h1, h2, r⟩ := x
  exact ⟨cur, cnt, mix, xs, ha _ h1, hb _ h2, r⟩
theorem Strm.mo {a b : Addr} {n : Nat} {m : List Addr} {H H' : Hp} (x : Strm a b n H) (e : Mo m H H') (ha : a ∉ m) (hb : b ∉ m) : Strm a b n H' := x.at (fun _ h => e _ _ ha nt_lst h) fun _ h => e _ _ hb nt_lst h
/-! ### code tables -/
theorem code_lst {c : Addr} {q : Str} {xs : List V} : LamX.CodeO c q ≠ .lst xs := fun z => by
  unfold LamX.CodeO at z
  cases z
theorem code_nt {c : Addr} {q : Str} : NT (LamX.CodeO c q) := fun ps z => by
  unfold LamX.CodeO at z
  cases z
/-- tables that are as they were, in a heap where all but m stays -/
theorem tabs_at {T : List (Addr × Str)} {H H' : Hp} (t : LamX.Tabs T H) (hT : ∀ p ∈ T, ∀ ps, H p.1 = some (.tbl ps) → H' p.1 = some (.tbl ps)) (hc : ∀ c q, H c = some (LamX.CodeO c q) → H' c = some (LamX.CodeO c q)) : LamX.Tabs T H' := fun p hp => by
  obtain ⟨ps, h1, h2, h3⟩ := t p hp
  refine ⟨ps, hT p hp ps h1, h2, fun pos cv h => ?_⟩
  obtain ⟨c, e, h4⟩ := h3 pos cv h
  exact ⟨c, e, hc c _ h4⟩
/-- what is there beside the lists in the making: a stream (or none), code tables that may grow -/
structure Sd where
  st : Option (Addr × Addr)
  tb : List (Addr × Str)
abbrev sd0 : Sd := ⟨none, []⟩
abbrev sdS (a b : Addr) : Sd := ⟨some (a, b), []⟩
def Sd.m (d : Sd) : List Addr := (match d.st with
  | some ab => [ab.1, ab.2]
  | none => []) ++ d.tb.map (·.1)
/-- what may change: the stream (if there is one), code tables, lists in the making -/
structure Ctx where
  st : Sd
  S : List (Addr × HO)
def Ctx.m (c : Ctx) : List Addr := c.S.map (·.1) ++ c.st.m
structure Ctx.J (c : Ctx) (n : Nat) (H : Hp) : Prop where
  str : ∀ ab, c.st.st = some ab → Strm ab.1 ab.2 n H
  own : ∀ q ∈ c.S, H q.1 = some q.2
  nd : c.m.Nodup
  tab : LamX.Tabs c.st.tb H
abbrev pure0 : Ctx := ⟨sd0, []⟩
theorem tabs0 {H : Hp} : LamX.Tabs [] H := fun p h => absurd h (by simp)
theorem J0 {H : Hp} {n : Nat} : pure0.J n H := ⟨(fun _ h => nomatch h), (fun _ h => absurd h (by simp)), by simp [Ctx.m, Sd.m], tabs0⟩
section
variable {c : Ctx} {n k : Nat} {H H' : Hp} {l : List (Hp → Prop)}
theorem Ctx.J.le (j : c.J n H) (h : k ≤ n) : c.J k H := ⟨fun ab e => (j.str ab e).le h, j.own, j.nd, j.tab⟩
theorem Ctx.J.ext (j : c.J n H) (e : Ko H H') : c.J n H' := ⟨fun ab q => (j.str ab q).at (fun _ h => e _ _ h) fun _ h => e _ _ h, fun q h => e _ _ (j.own q h), j.nd, tabs_at j.tab (fun _ _ _ h => e _ _ h) fun _ _ h => e _ _ h⟩
theorem Sd.mem_s {d : Sd} {ab : Addr × Addr} (e : d.st = some ab) : ∀ x, x ∈ [ab.1, ab.2] → x ∈ d.m := fun x h => by
  unfold Sd.m
  rw [e]
  exact List.mem_append_left _ h
theorem Sd.mem_t {d : Sd} {p : Addr × Str} (h : p ∈ d.tb) : p.1 ∈ d.m := by
  unfold Sd.m
  exact List.mem_append_right _ (List.mem_map.mpr ⟨p, h, rfl⟩)
theorem Sd.mem_inv {d : Sd} {x : Addr} (h : x ∈ d.m) : (∃ ab, d.st = some ab ∧ x ∈ [ab.1, ab.2]) ∨ ∃ p ∈ d.tb, p.1 = x := by
  unfold Sd.m at h
  rcases List.mem_append.mp h with h | h
  · cases e : d.st with
    | none => rw [e] at h; cases h
    | some ab => rw [e] at h; exact .inl ⟨ab, rfl, h⟩
  · obtain ⟨p, hp, e⟩ := List.mem_map.mp h
    exact .inr ⟨p, hp, e⟩
theorem Ctx.J.there (j : c.J n H) {a : Addr} (h : a ∈ c.m) : ∃ o, H a = some o := by
  rcases List.mem_append.mp h with h | h
  · obtain ⟨q, hq, rfl⟩ := List.mem_map.mp h
    exact ⟨_, j.own q hq⟩
  · rcases Sd.mem_inv h with ⟨ab, e, h⟩ | ⟨p, hp, rfl⟩
    · obtain ⟨cur, cnt, mix, xs, h1, h2, _⟩ := j.str ab e
      rcases List.mem_cons.mp h with rfl | h
      · exact ⟨_, h1⟩
      · rcases List.mem_cons.mp h with rfl | h
        · exact ⟨_, h2⟩
        · exact absurd h (by simp)
    · obtain ⟨ps, h1, _⟩ := j.tab p hp
      exact ⟨_, h1⟩
theorem Ctx.J.new (j : c.J n H) {p : Addr} (h : H p = none) : p ∉ c.m := fun z => by
  obtain ⟨o, e⟩ := j.there z
  rw [h] at e
  cases e
theorem Ctx.sub {ab : Addr × Addr} (hs : c.st.st = some ab) : ∀ x, x ∈ [ab.1, ab.2] → x ∈ c.m := fun x h => List.mem_append_right _ (Sd.mem_s hs x h)
/-- a new list in the making -/
theorem Ctx.J.push (j : c.J n H) {p : Addr} {o : HO} (h : H p = none) : (Ctx.mk c.st ((p, o) :: c.S)).J n (upd H p o) := by
  have j2 := j.ext (Ko.new (o := o) h)
  refine ⟨j2.str, fun q hq => ?_, ?_, j2.tab⟩
  · rcases List.mem_cons.mp hq with rfl | hq
    · exact upd_same
    · exact j2.own q hq
  · show (p :: c.m).Nodup
    exact List.nodup_cons.mpr ⟨j.new h, j.nd⟩
/-- .. is done -/
theorem Ctx.J.pop {st : Sd} {S : List (Addr × HO)} {q : Addr × HO} (j : (Ctx.mk st (q :: S)).J n H) : (Ctx.mk st S).J n H :=
  ⟨j.str, fun r h => j.own r (List.mem_cons_of_mem _ h), (List.nodup_cons.mp (show (q.1 :: (Ctx.mk st S).m).Nodup from j.nd)).2, j.tab⟩
theorem Ctx.J.done {st : Sd} {S : List (Addr × HO)} {p : Addr} {o : HO} (j : (Ctx.mk st ((p, o) :: S)).J n H) (t : NT o := by intro ps z; cases z) : Bx (Ctx.mk st S).m (fun H => H p = some o) H :=
  Bx.at (List.nodup_cons.mp (show (p :: (Ctx.mk st S).m).Nodup from j.nd)).1 (j.own (p, o) (List.mem_cons_self ..)) t
/-- the youngest list is changed -/
theorem Ctx.J.put {st : Sd} {S : List (Addr × HO)} {p : Addr} {xs : List V} {u : HO} (j : (Ctx.mk st ((p, .lst xs) :: S)).J n H) : (Ctx.mk st ((p, u) :: S)).J n (upd H p u) := by
  have nd : (p :: (Ctx.mk st S).m).Nodup := j.nd
  have np : ∀ a, a ∈ (Ctx.mk st S).m → a ≠ p := fun a h z => (List.nodup_cons.mp nd).1 (by rw [← z]; exact h)
  have hp := j.own (p, .lst xs) (List.mem_cons_self ..)
  refine ⟨fun ab e => ?_, fun q hq => ?_, nd, ?_⟩
  · have s := Ctx.sub (c := Ctx.mk st S) (ab := ab) e
    exact (j.str ab e).at (fun _ h => by rw [upd_ne (np _ (s _ (by simp)))]; exact h) fun _ h => by rw [upd_ne (np _ (s _ (by simp)))]; exact h
  · rcases List.mem_cons.mp hq with rfl | hq
    · exact upd_same
    · rw [upd_ne (np _ (List.mem_append_left _ (List.mem_map.mpr ⟨q, hq, rfl⟩)))]
      exact j.own q (List.mem_cons_of_mem _ hq)
  · refine tabs_at j.tab (fun t ht ps h => ?_) fun c q h => ?_
    · rw [upd_ne (np _ (List.mem_append_right _ (Sd.mem_t ht)))]
      exact h
    · rw [upd_ne]
      · exact h
      · rintro rfl
        rw [hp] at h
        exact code_lst (Option.some.inj h).symm
end

/-! ### what an expression comes to -/
/-- of a value: which values, and what is known of the heap with it -/
abbrev Po := V → (Hp → Prop) → Prop
def Ev (c : Ctx) (l : List (Hp → Prop)) (d : Nat) (te : TE) (σ : L2.St) (P : Po) : Prop :=
  ∀ n H, Kn c.m l H → c.J (n + d) H → ∀ Q : VK, (∀ v φ H', Mo c.m H H' → c.J n H' → P v φ → Bx c.m φ H' → Q v H') → te σ H Q
def Args (m : List Addr) : List Po → List V → Hp → Prop
  | [], vs, _ => vs = []
  | P :: Ps, vs, H => ∃ v r φ, vs = v :: r ∧ P v φ ∧ Bx m φ H ∧ Args m Ps r H
theorem Args.mo {m : List Addr} {H H' : Hp} (e : Mo m H H') : ∀ {Ps : List Po} {vs : List V}, Args m Ps vs H → Args m Ps vs H'
  | [], _, h => h
  | _ :: _, _, ⟨v, r, φ, e1, p, b, a⟩ => ⟨v, r, φ, e1, p, b.mo e, Args.mo e a⟩
theorem Args.length {m : List Addr} {H : Hp} : ∀ {Ps : List Po} {vs : List V}, Args m Ps vs H → vs.length = Ps.length
  | [], _, h => by rw [show _ = [] from h]; rfl
  | _ :: _, _, ⟨v, r, φ, e1, p, b, a⟩ => by rw [e1, List.length_cons, List.length_cons, Args.length a]
def EvA (c : Ctx) (l : List (Hp → Prop)) (d : Nat) (ta : L2.TA) (σ : L2.St) (Ps : List Po) : Prop :=
  ∀ n H, Kn c.m l H → c.J (n + d) H → ∀ Q : List V → Hp → Prop, (∀ vs H', Mo c.m H H' → c.J n H' → Args c.m Ps vs H' → Q vs H') → ta σ H Q
def EvT (c : Ctx) (l : List (Hp → Prop)) (d : Nat) (tt : TT) (σ : L2.St) (P : Bool → Prop) : Prop :=
  ∀ n H, Kn c.m l H → c.J (n + d) H → ∀ Q : Bool → Hp → Prop, (∀ b H', Mo c.m H H' → c.J n H' → P b → Q b H') → tt σ H Q
abbrev T0 : Hp → Prop := fun _ => True
/-- a value, told -/
def is (x : V) : Po := fun v φ => v = x ∧ φ = T0
/-- some int, text, bool -/
def anI (A : Int → Prop) : Po := fun v φ => φ = T0 ∧ ∃ i, A i ∧ v = .int i
def aS (A : Str → Prop) : Po := fun v φ => φ = T0 ∧ ∃ x, A x ∧ v = .str x
def aB (A : Bool → Prop) : Po := fun v φ => φ = T0 ∧ ∃ b, A b ∧ v = .bl b
/-- known lists, tuples -/
def kL (K : PySem.W.Frag) (p : Addr) (xs : List V) : Hp → Prop := fun H => SqL K H p xs
def kT (K : PySem.W.Frag) (p : Addr) (xs : List V) : Hp → Prop := fun H => SqT K H p xs
/-- a list, a tuple that stays -/
def aL (K : PySem.W.Frag) (A : List V → Prop) : Po := fun v φ => ∃ p xs, v = .ref p ∧ A xs ∧ φ = kL K p xs
def aT (K : PySem.W.Frag) (A : List V → Prop) : Po := fun v φ => ∃ p xs, v = .ref p ∧ A xs ∧ φ = kT K p xs
section
variable {c : Ctx} {l : List (Hp → Prop)} {d d1 d2 d3 : Nat} {σ : L2.St} {ta tb te : TE} {P P1 P2 P3 : Po} {K : PySem.W.Frag}
theorem kn0 {m : List Addr} {H : Hp} : Bx m T0 H := fun _ _ => trivial
theorem Ev.up (h : Ev c l d te σ P) (e : d ≤ d1) : Ev c l d1 te σ P := fun n H k j Q q => h n H k (j.le (by omega)) Q q
theorem Ev.imp {R : Po} (h : Ev c l d te σ P) (f : ∀ v φ, P v φ → R v φ) : Ev c l d te σ R := fun n H k j Q q => h n H k j Q fun v φ H' e j' p b => q v φ H' e j' (f v φ p) b
theorem Ev.more {φ : Hp → Prop} (h : Ev c l d te σ P) : Ev c (φ :: l) d te σ P := fun n H k j Q q => h n H (k.sub fun _ h => List.mem_cons_of_mem _ h) j Q q
theorem Ev.sub {l' : List (Hp → Prop)} (h : Ev c l d te σ P) (s : ∀ φ, φ ∈ l → φ ∈ l') : Ev c l' d te σ P := fun n H k j Q q => h n H (k.sub s) j Q q
theorem ev_c {x : V} : Ev c l 0 (tC x) σ (is x) := fun n H _ j Q q => q x T0 H Mo.refl j ⟨rfl, rfl⟩ kn0
theorem ev_var {i : Nat} {x : V} (h : σ[i]? = some (some x)) : Ev c l 0 (tVar i) σ (is x) := fun n H _ j Q q => ⟨x, h, q x T0 H Mo.refl j ⟨rfl, rfl⟩ kn0⟩
/-- a variable that holds a known list, tuple -/
theorem ev_varL {i : Nat} {p : Addr} {xs : List V} (h : σ[i]? = some (some (.ref p))) (hm : kL K p xs ∈ l) : Ev c l 0 (tVar i) σ (aL K (· = xs)) := fun n H k j Q q => ⟨.ref p, h, q _ (kL K p xs) H Mo.refl j ⟨p, xs, rfl, rfl, rfl⟩ (k.box hm)⟩
theorem ev_varT {i : Nat} {p : Addr} {xs : List V} (h : σ[i]? = some (some (.ref p))) (hm : kT K p xs ∈ l) : Ev c l 0 (tVar i) σ (aT K (· = xs)) := fun n H k j Q q => ⟨.ref p, h, q _ (kT K p xs) H Mo.refl j ⟨p, xs, rfl, rfl, rfl⟩ (k.box hm)⟩
/-- .. told as some int, text -/
theorem ev_varI {i : Nat} {z : Int} (h : σ[i]? = some (some (.int z))) : Ev c l 0 (tVar i) σ (anI (· = z)) := (ev_var h).imp fun v φ p => ⟨p.2, z, rfl, p.1⟩
theorem ev_varS {i : Nat} {z : Str} (h : σ[i]? = some (some (.str z))) : Ev c l 0 (tVar i) σ (aS (· = z)) := (ev_var h).imp fun v φ p => ⟨p.2, z, rfl, p.1⟩
theorem ev_cI {z : Int} : Ev c l 0 (tC (.int z)) σ (anI (· = z)) := ev_c.imp fun v φ p => ⟨p.2, z, rfl, p.1⟩
theorem ev_cS {z : Str} : Ev c l 0 (tC (.str z)) σ (aS (· = z)) := ev_c.imp fun v φ p => ⟨p.2, z, rfl, p.1⟩
theorem ev_cB {z : Bool} : Ev c l 0 (tC (.bl z)) σ (aB (· = z)) := ev_c.imp fun v φ p => ⟨p.2, z, rfl, p.1⟩
/-- an operation on values -/
def Op2 (c : Ctx) (l : List (Hp → Prop)) (P1 P2 : Po) (r : R2) (P3 : Po) : Prop :=
  ∀ x y φ ψ n H, Kn c.m l H → c.J n H → P1 x φ → P2 y ψ → Bx c.m φ H → Bx c.m ψ H → ∀ Q : VK, (∀ v χ H', Mo c.m H H' → c.J n H' → P3 v χ → Bx c.m χ H' → Q v H') → r x y H Q
theorem ev_op {r : R2} (ha : Ev c l d1 ta σ P1) (hb : Ev c l d2 tb σ P2) (hr : Op2 c l P1 P2 r P3) : Ev c l (d1 + d2) (tOp r ta tb) σ P3 := fun n H k j Q q =>
  ha (n + d2) H k (j.le (by omega)) _ fun x φ H1 e1 j1 p1 b1 => hb n H1 (k.mo e1) j1 _ fun y ψ H2 e2 j2 p2 b2 =>
    hr x y φ ψ n H2 (k.mo (e1.trans e2)) j2 p1 p2 (b1.mo e2) b2 Q fun v χ H3 e3 j3 p3 b3 => q v χ H3 ((e1.trans e2).trans e3) j3 p3 b3
theorem ea_nil : EvA c l 0 tNil σ [] := fun n H _ j Q q => q [] H Mo.refl j rfl
theorem ea_cons {tr : L2.TA} {Ps : List Po} (h : Ev c l d1 te σ P) (hr : EvA c l d2 tr σ Ps) : EvA c l (d1 + d2) (tCons te tr) σ (P :: Ps) := fun n H k j Q q =>
  h (n + d2) H k (j.le (by omega)) _ fun x φ H1 e1 j1 p1 b1 => hr n H1 (k.mo e1) j1 _ fun vs H2 e2 j2 a2 => q (x :: vs) H2 (e1.trans e2) j2 ⟨x, vs, φ, rfl, p1, b1.mo e2, a2⟩
/-- a call by values -/
def Cl (c : Ctx) (l : List (Hp → Prop)) (d : Nat) (Ps : List Po) (r : List V → Hp → VK → Prop) (P : Po) : Prop :=
  ∀ vs n H, Kn c.m l H → c.J (n + d) H → Args c.m Ps vs H → ∀ Q : VK, (∀ v φ H', Mo c.m H H' → c.J n H' → P v φ → Bx c.m φ H' → Q v H') → r vs H Q
theorem ev_cb {r : List V → Hp → VK → Prop} {ta : L2.TA} {Ps : List Po} (h : EvA c l d1 ta σ Ps) (hr : Cl c l d2 Ps r P) : Ev c l (d1 + d2) (tCB r ta) σ P := fun n H k j Q q =>
  h (n + d2) H k (j.le (by omega)) _ fun vs H1 e1 j1 a1 => hr vs n H1 (k.mo e1) j1 a1 Q fun v φ H2 e2 j2 p2 b2 => q v φ H2 (e1.trans e2) j2 p2 b2
theorem ev_call {sp : Sp} {E : XK} {ta : L2.TA} {Ps : List Po} (h : EvA c l d1 ta σ Ps) (hr : Cl c l d2 Ps (fun vs H Q => sp vs H Q E) P) : Ev c l (d1 + d2) (tCall sp [] E ta) σ P := fun n H k j Q q =>
  h (n + d2) H k (j.le (by omega)) _ fun vs H1 e1 j1 a1 => by
    rw [List.append_nil]
    exact hr vs n H1 (k.mo e1) j1 a1 Q fun v φ H2 e2 j2 p2 b2 => q v φ H2 (e1.trans e2) j2 p2 b2
theorem ev_tup {ta : L2.TA} {Ps : List Po} (h : EvA c l d ta σ Ps) (hl : Ps.length ≤ 100000) : Ev c l d (tTup ta) σ (fun v φ => ∃ p xs, v = .ref p ∧ φ = fun H => H p = some (.tup xs) ∧ Args c.m Ps xs H) := fun n H k j Q q =>
  h n H k j _ fun vs H1 e1 j1 a1 => by
    refine ⟨by rw [a1.length, sizeLine_eq]; omega, fun p hp => ?_⟩
    have e2 : Mo c.m H1 (upd H1 p (.tup vs)) := Mo.new hp
    exact q _ _ _ (e1.trans e2) (j1.ext (Ko.new hp)) ⟨p, vs, rfl, rfl⟩ fun H' e' => ⟨e' _ _ (j1.new hp) (by intro ps z; cases z) upd_same, a1.mo (e2.trans e')⟩
theorem ev_lst {ta : L2.TA} {Ps : List Po} (h : EvA c l d ta σ Ps) (hl : Ps.length ≤ 100000) : Ev c l d (tLst ta) σ (fun v φ => ∃ p xs, v = .ref p ∧ φ = fun H => H p = some (.lst xs) ∧ Args c.m Ps xs H) := fun n H k j Q q =>
  h n H k j _ fun vs H1 e1 j1 a1 => by
    refine ⟨by rw [a1.length, sizeLine_eq]; omega, fun p hp => ?_⟩
    have e2 : Mo c.m H1 (upd H1 p (.lst vs)) := Mo.new hp
    exact q _ _ _ (e1.trans e2) (j1.ext (Ko.new hp)) ⟨p, vs, rfl, rfl⟩ fun H' e' => ⟨e' _ _ (j1.new hp) (by intro ps z; cases z) upd_same, a1.mo (e2.trans e')⟩
/-- a display of told values -/
theorem Args.told {m : List Addr} {H : Hp} : ∀ {xs vs : List V}, Args m (xs.map is) vs H → vs = xs
  | [], _, h => h
  | x :: xs, _, ⟨v, r, φ, e1, p, _, a⟩ => by rw [e1, p.1, Args.told a]
theorem ev_lstT {ta : L2.TA} {xs : List V} (h : EvA c l d ta σ (xs.map is)) (hl : xs.length ≤ 100000) : Ev c l d (tLst ta) σ (aL K (· = xs)) := fun n H k j Q q =>
  ev_lst h (by rw [List.length_map]; exact hl) n H k j Q fun v φ H' e j' p b => by
    obtain ⟨a, ys, rfl, rfl⟩ := p
    refine q _ (kL K a ys) H' e j' ⟨a, ys, rfl, Args.told b.now.2, rfl⟩ fun H2 e2 => SqL.of (b H2 e2).1
theorem ev_tupT {ta : L2.TA} {xs : List V} (h : EvA c l d ta σ (xs.map is)) (hl : xs.length ≤ 100000) : Ev c l d (tTup ta) σ (aT K (· = xs)) := fun n H k j Q q =>
  ev_tup h (by rw [List.length_map]; exact hl) n H k j Q fun v φ H' e j' p b => by
    obtain ⟨a, ys, rfl, rfl⟩ := p
    refine q _ (kT K a ys) H' e j' ⟨a, ys, rfl, Args.told b.now.2, rfl⟩ fun H2 e2 => SqT.of (b H2 e2).1
theorem ev_orV {A B : Bool → Prop} (h1 : Ev c l d1 ta σ (aB A)) (h2 : A false → Ev c l d2 tb σ (aB B)) : Ev c l (d1 + d2) (tOrV ta tb) σ (aB fun b => (b = true ∧ A true) ∨ (A false ∧ B b)) := fun n H k j Q q =>
  h1 (n + d2) H k (j.le (by omega)) _ fun x φ H1 e1 j1 p1 b1 => by
    obtain ⟨_, b, hb, rfl⟩ := p1
    refine ⟨b, rfl, ?_⟩
    cases b with
    | true => exact q _ T0 H1 e1 (j1.le (by omega)) ⟨rfl, true, .inl ⟨rfl, hb⟩, rfl⟩ kn0
    | false =>
      refine h2 hb n H1 (k.mo e1) j1 Q fun v φ H2 e2 j2 p2 b2 => ?_
      obtain ⟨e3, b, h, rfl⟩ := p2
      exact q _ φ H2 (e1.trans e2) j2 ⟨e3, b, .inr ⟨hb, h⟩, rfl⟩ b2
theorem ev_andV {A B : Bool → Prop} (h1 : Ev c l d1 ta σ (aB A)) (h2 : A true → Ev c l d2 tb σ (aB B)) : Ev c l (d1 + d2) (tAndV ta tb) σ (aB fun b => (b = false ∧ A false) ∨ (A true ∧ B b)) := fun n H k j Q q =>
  h1 (n + d2) H k (j.le (by omega)) _ fun x φ H1 e1 j1 p1 b1 => by
    obtain ⟨_, b, hb, rfl⟩ := p1
    refine ⟨b, rfl, ?_⟩
    cases b with
    | false => exact q _ T0 H1 e1 (j1.le (by omega)) ⟨rfl, false, .inl ⟨rfl, hb⟩, rfl⟩ kn0
    | true =>
      refine h2 hb n H1 (k.mo e1) j1 Q fun v φ H2 e2 j2 p2 b2 => ?_
      obtain ⟨e3, b, h, rfl⟩ := p2
      exact q _ φ H2 (e1.trans e2) j2 ⟨e3, b, .inr ⟨hb, h⟩, rfl⟩ b2
theorem ev_notV {A : Bool → Prop} (h1 : Ev c l d ta σ (aB A)) : Ev c l d (tNotV ta) σ (aB fun b => A (!b)) := fun n H k j Q q =>
  h1 n H k j _ fun x φ H1 e1 j1 p1 b1 => by
    obtain ⟨_, b, hb, rfl⟩ := p1
    exact ⟨b, rfl, q _ T0 H1 e1 j1 ⟨rfl, !b, (show A (!(!b)) by rw [Bool.not_not]; exact hb), rfl⟩ kn0⟩
theorem ev_if {t : TT} {A : Bool → Prop} (h : EvT c l d1 t σ A) (h1 : A true → Ev c l d2 ta σ P1) (h2 : A false → Ev c l d2 tb σ P2) : Ev c l (d1 + d2) (tIf t ta tb) σ (fun v φ => (A true ∧ P1 v φ) ∨ (A false ∧ P2 v φ)) := fun n H k j Q q =>
  h (n + d2) H k (j.le (by omega)) _ fun b H1 e1 j1 hb => by
    cases b with
    | true => exact h1 hb n H1 (k.mo e1) j1 Q fun v φ H2 e2 j2 p2 b2 => q v φ H2 (e1.trans e2) j2 (.inl ⟨hb, p2⟩) b2
    | false => exact h2 hb n H1 (k.mo e1) j1 Q fun v φ H2 e2 j2 p2 b2 => q v φ H2 (e1.trans e2) j2 (.inr ⟨hb, p2⟩) b2
/-! tests -/
theorem et_of {A : Bool → Prop} (h : Ev c l d te σ (aB A)) : EvT c l d (tTest te) σ A := fun n H k j Q q => h n H k j _ fun v φ H1 e1 j1 p1 b1 => by
  obtain ⟨_, b, hb, rfl⟩ := p1
  exact ⟨b, rfl, q b H1 e1 j1 hb⟩
theorem et_B {A : Bool → Prop} (h : Ev c l d te σ (aB A)) : EvT c l d (tB te) σ A := fun n H k j Q q => h n H k j _ fun v φ H1 e1 j1 p1 b1 => by
  obtain ⟨_, b, hb, rfl⟩ := p1
  exact ⟨b, rfl, q b H1 e1 j1 hb⟩
theorem EvT.imp {t : TT} {A B : Bool → Prop} (h : EvT c l d t σ A) (f : ∀ b, A b → B b) : EvT c l d t σ B := fun n H k j Q q => h n H k j Q fun b H' e j' a => q b H' e j' (f b a)
theorem et_and {t u : TT} {A B : Bool → Prop} (h1 : EvT c l d1 t σ A) (h2 : A true → EvT c l d2 u σ B) : EvT c l (d1 + d2) (tAnd t u) σ (fun b => (b = false ∧ A false) ∨ (A true ∧ B b)) := fun n H k j Q q =>
  h1 (n + d2) H k (j.le (by omega)) _ fun b H1 e1 j1 hb => by
    cases b with
    | false => exact q false H1 e1 (j1.le (by omega)) (.inl ⟨rfl, hb⟩)
    | true => exact h2 hb n H1 (k.mo e1) j1 Q fun b H2 e2 j2 h => q b H2 (e1.trans e2) j2 (.inr ⟨hb, h⟩)
theorem et_or {t u : TT} {A B : Bool → Prop} (h1 : EvT c l d1 t σ A) (h2 : A false → EvT c l d2 u σ B) : EvT c l (d1 + d2) (tOr t u) σ (fun b => (b = true ∧ A true) ∨ (A false ∧ B b)) := fun n H k j Q q =>
  h1 (n + d2) H k (j.le (by omega)) _ fun b H1 e1 j1 hb => by
    cases b with
    | true => exact q true H1 e1 (j1.le (by omega)) (.inl ⟨rfl, hb⟩)
    | false => exact h2 hb n H1 (k.mo e1) j1 Q fun b H2 e2 j2 h => q b H2 (e1.trans e2) j2 (.inr ⟨hb, h⟩)
theorem et_not {t : TT} {A : Bool → Prop} (h : EvT c l d t σ A) : EvT c l d (tNot t) σ (fun b => A (!b)) := fun n H k j Q q => h n H k j _ fun b H1 e1 j1 hb => q (!b) H1 e1 j1 (show A (!(!b)) by rw [Bool.not_not]; exact hb)
end

/-! ### statements -/
section
variable {c : Ctx} {l : List (Hp → Prop)} {d n : Nat} {σ : L2.St} {H : Hp} {ta tb te : TE} {P : Po} {K : PySem.W.Frag} {D : Ends} {tu tw tz : TS} {t : TT} {A : Bool → Prop}
theorem q_asg {i : Nat} (h : Ev c l d te σ P) (k : Kn c.m l H) (j : c.J (n + d) H) (q : ∀ v φ H', P v φ → Kn c.m (φ :: l) H' → c.J n H' → tz D (σ.set i (some v)) H') : tSeq (tAsg te (gName i)) tz D σ H :=
  h n H k j _ fun v φ H' e j' p b => q v φ H' p ((k.mo e).push b) j'
theorem s_asg {i : Nat} (h : Ev c l d te σ P) (k : Kn c.m l H) (j : c.J (n + d) H) (q : ∀ v φ H', P v φ → Kn c.m (φ :: l) H' → c.J n H' → D.nx (σ.set i (some v)) H') : tAsg te (gName i) D σ H :=
  h n H k j _ fun v φ H' e j' p b => q v φ H' p ((k.mo e).push b) j'
theorem s_ret (h : Ev c l d te σ P) (k : Kn c.m l H) (j : c.J (n + d) H) (q : ∀ v φ H', Mo c.m H H' → P v φ → Kn c.m (φ :: l) H' → c.J n H' → D.rt v H') : tRet te D σ H :=
  h n H k j _ fun v φ H' e j' p b => q v φ H' e p ((k.mo e).push b) j'
theorem s_drop (h : Ev c l d te σ P) (k : Kn c.m l H) (j : c.J (n + d) H) (q : ∀ v φ H', P v φ → Kn c.m (φ :: l) H' → c.J n H' → D.nx σ H') : tDrop te D σ H :=
  h n H k j _ fun v φ H' e j' p b => q v φ H' p ((k.mo e).push b) j'
theorem s_if (h : EvT c l d t σ A) (k : Kn c.m l H) (j : c.J (n + d) H) (h1 : A true → ∀ H', Mo c.m H H' → Kn c.m l H' → c.J n H' → tu D σ H') (h2 : A false → ∀ H', Mo c.m H H' → Kn c.m l H' → c.J n H' → tw D σ H') : tIfS t tu tw D σ H :=
  h n H k j _ fun b H' e j' a => by
    cases b with
    | true => exact h1 a H' e (k.mo e) j'
    | false => exact h2 a H' e (k.mo e) j'
theorem q_if (h : EvT c l d t σ A) (k : Kn c.m l H) (j : c.J (n + d) H) (h1 : A true → ∀ H', Mo c.m H H' → Kn c.m l H' → c.J n H' → tu { D with nx := tz D } σ H') (h2 : A false → ∀ H', Mo c.m H H' → Kn c.m l H' → c.J n H' → tw { D with nx := tz D } σ H') : tSeq (tIfS t tu tw) tz D σ H :=
  s_if (D := { D with nx := tz D }) h k j h1 h2
/-- an if without else -/
theorem q_when (h : EvT c l d t σ A) (k : Kn c.m l H) (j : c.J (n + d) H) (h1 : A true → ∀ H', Mo c.m H H' → Kn c.m l H' → c.J n H' → tu { D with nx := tz D } σ H') (h2 : A false → ∀ H', Mo c.m H H' → Kn c.m l H' → c.J n H' → tz D σ H') : tSeq (tIfS t tu tNext) tz D σ H :=
  s_if (D := { D with nx := tz D }) h k j h1 h2
/-- xs = [..] or list(..): a list in the making from now on -/
theorem q_own {i : Nat} {A : List V → Prop}
    (hf : ∀ (n : Nat) (H : Hp), Kn c.m l H → c.J (n + d) H → ∀ Q : VK, (∀ (xs : List V) (p : Addr) (H' : Hp), A xs → Mo c.m H H' → c.J n H' → H' p = none → Q (.ref p) (upd H' p (.lst xs))) → te σ H Q) (k : Kn c.m l H) (j : c.J (n + d) H)
    (q : ∀ xs p H', A xs → Kn (p :: c.m) l H' → Ctx.J ⟨c.st, (p, .lst xs) :: c.S⟩ n H' → tz D (σ.set i (some (.ref p))) H') : tSeq (tAsg te (gName i)) tz D σ H :=
  hf n H k j _ fun xs p H' a e j' hp => q xs p _ a ((k.mo e).grow hp) (j'.push hp)
/-- .. by an empty display -/
theorem q_nil {i : Nat} (k : Kn c.m l H) (j : c.J n H) (q : ∀ p H', Kn (p :: c.m) l H' → Ctx.J ⟨c.st, (p, .lst []) :: c.S⟩ n H' → tz D (σ.set i (some (.ref p))) H') : tSeq (tAsg (tLst tNil) (gName i)) tz D σ H :=
  ⟨Nat.zero_le _, fun p hp => q p _ (k.grow hp) (j.push hp)⟩
/-- xs.append(e), xs the youngest list in the making -/
theorem s_app {st : Sd} {S : List (Addr × HO)} {p : Addr} {xs : List V} (ha : Ev ⟨st, (p, .lst xs) :: S⟩ l 0 ta σ (is (.ref p))) (h : Ev ⟨st, (p, .lst xs) :: S⟩ l d te σ P) (hz : xs.length < 100000)
    (k : Kn (p :: (Ctx.mk st S).m) l H) (j : Ctx.J ⟨st, (p, .lst xs) :: S⟩ (n + d) H)
    (q : ∀ v φ H', P v φ → Kn (p :: (Ctx.mk st S).m) (φ :: l) H' → Ctx.J ⟨st, (p, .lst (xs ++ [v])) :: S⟩ n H' → D.nx σ H') : tDrop (tBM K "list" rAppend ta (tCons te tNil)) D σ H :=
  ha (n + d) H k j _ fun x φ H1 e1 j1 p1 b1 => by
    obtain ⟨rfl, _⟩ := p1
    have o1 := j1.own (p, .lst xs) (List.mem_cons_self ..)
    refine ⟨Or.inl ⟨rfl, xs, SqL.of o1⟩, h n H1 (Kn.mo k e1) j1 _ fun v φ H2 e2 j2 p2 b2 => ?_⟩
    have o2 := j2.own (p, .lst xs) (List.mem_cons_self ..)
    refine ⟨p, xs, v, rfl, rfl, o2, by rw [sizeLine_eq]; omega, ?_⟩
    have e3 : Mo (p :: (Ctx.mk st S).m) H2 (upd H2 p (.lst (xs ++ [v]))) := Mo.set (List.mem_cons_self ..)
    exact q v φ _ p2 ((Kn.mo k ((Mo.trans e1 e2).trans e3)).push (Bx.mo b2 e3)) j2.put
end
end TA

set_option Elab.async false
set_option linter.all false
set_option maxRecDepth 100000
set_option maxHeartbeats 4000000
/-! TaLoop: loops and comprehensions over what is walked -/
namespace TA
open PySem PySem.Spec PyProof.Rows L2

/-- what is walked: N turns, Y i tells of turn i's item -/
def EvI (c : Ctx) (l : List (Hp → Prop)) (d : Nat) (wi : TI) (σ : L2.St) (Z : Nat → (Nat → Po) → Prop) : Prop :=
  ∀ n H, Kn c.m l H → c.J (n + d) H → ∀ R : It → Hp → Prop,
    (∀ (J : It) H1 (N : Nat) (Y : Nat → Po) (G : Hp → Prop) (Y0 : Nat → Hp → V → Hp → Prop), Z N Y → Mo c.m H H1 → c.J n H1 → Bx c.m G H1 → Walk J N G Y0 →
      (∀ i Ha x Hb, i < N → Y0 i Ha x Hb → Ko Ha Hb ∧ ∃ φ, Y i x φ ∧ ∀ m : List Addr, (∀ a ∈ m, ∃ o, Ha a = some o) → Bx m φ Hb) → R J H1) → wi σ H R
/-- the items of a list -/
def zL (A : List V → Prop) : Nat → (Nat → Po) → Prop := fun N Y => ∃ xs, A xs ∧ N = xs.length ∧ Y = fun i x φ => xs[i]? = some x ∧ φ = T0
/-- .. of a text -/
def zS (A : Str → Prop) : Nat → (Nat → Po) → Prop := fun N Y => ∃ z, A z ∧ N = z.cps.size ∧ Y = fun i x φ => φ = T0 ∧ ∃ ch, z.cps[i]? = some ch ∧ x = .str ⟨#[ch]⟩
/-- lo, lo + 1, .. -/
def zR (lo : Int) (A : Nat → Prop) : Nat → (Nat → Po) → Prop := fun N Y => A N ∧ Y = fun i x φ => x = .int (lo + i) ∧ φ = T0
/-- the items of a list with their numbers -/
def zE (K : PySem.W.Frag) (A : List V → Prop) : Nat → (Nat → Po) → Prop := fun N Y => ∃ xs, A xs ∧ N = xs.length ∧ Y = fun i x φ => ∃ T y, x = .ref T ∧ xs[i]? = some y ∧ φ = kT K T [.int (i : Nat), y]
section
variable {c : Ctx} {l : List (Hp → Prop)} {d d0 n : Nat} {σ : L2.St} {H : Hp} {ta tb te tl : TE} {K : PySem.W.Frag}
theorem i_list {A : List V → Prop} (h : Ev c l d tl σ (aL K A)) : EvI c l d (iList K tl) σ (zL A) := fun n H k j R r =>
  h n H k j _ fun v φ H1 e1 j1 p1 b1 => by
    obtain ⟨p, xs, rfl, hA, rfl⟩ := p1
    refine ⟨p, rfl, ⟨xs, b1.now⟩, r _ H1 xs.length _ _ _ ⟨xs, hA, rfl, rfl⟩ e1 j1 b1 walk_list fun i Ha x Hb _ y => ?_⟩
    obtain ⟨rfl, y⟩ := y
    exact ⟨fun _ _ h => h, T0, ⟨y, rfl⟩, fun _ _ => kn0⟩
theorem i_tup {A : List V → Prop} (h : Ev c l d tl σ (aT K A)) : EvI c l d (iTup K tl) σ (zL A) := fun n H k j R r =>
  h n H k j _ fun v φ H1 e1 j1 p1 b1 => by
    obtain ⟨p, xs, rfl, hA, rfl⟩ := p1
    refine ⟨p, rfl, ⟨xs, b1.now⟩, r _ H1 xs.length _ _ _ ⟨xs, hA, rfl, rfl⟩ e1 j1 b1 walk_tup fun i Ha x Hb _ y => ?_⟩
    obtain ⟨rfl, y⟩ := y
    exact ⟨fun _ _ h => h, T0, ⟨y, rfl⟩, fun _ _ => kn0⟩
theorem i_str {A : Str → Prop} (h : Ev c l d tl σ (aS A)) : EvI c l d (iStr tl) σ (zS A) := fun n H k j R r =>
  h n H k j _ fun v φ H1 e1 j1 p1 b1 => by
    obtain ⟨rfl, z, hA, rfl⟩ := p1
    refine ⟨z, rfl, r _ H1 _ _ (fun _ => True) _ ⟨z, hA, rfl, rfl⟩ e1 j1 (Bx.const trivial) walk_str fun i Ha x Hb _ y => ?_⟩
    obtain ⟨rfl, y⟩ := y
    exact ⟨fun _ _ h => h, T0, ⟨rfl, y⟩, fun _ _ => kn0⟩
theorem i_range1 {ta : L2.TA} {A : Nat → Prop} {N0 : Nat} (h : EvA c l d ta σ [anI fun i => ∃ N : Nat, A N ∧ i = (N : Int)]) (hN : ∀ N, A N → N ≤ N0) (hz : N0 ≤ 100000) : EvI c l d (iRng1 ta) σ (zR 0 A) := fun n H k j R r =>
  h n H k j _ fun vs H1 e1 j1 a1 => by
    obtain ⟨v, r1, φ, rfl, ⟨rfl, i, ⟨N, hA, rfl⟩, rfl⟩, _, a2⟩ := a1
    cases (show r1 = [] from a2)
    have := hN N hA
    refine ⟨(N : Int), rfl, by omega, by omega, ?_⟩
    rw [Int.toNat_natCast]
    refine r _ H1 N _ (fun _ => True) _ ⟨hA, rfl⟩ e1 j1 (Bx.const trivial) walk_range fun i Ha x Hb _ y => ?_
    obtain ⟨rfl, y⟩ := y
    exact ⟨fun _ _ h => h, T0, ⟨y, rfl⟩, fun _ _ => kn0⟩
theorem i_enum {ta : L2.TA} {A : List V → Prop} (h : EvA c l d ta σ [aL K A]) : EvI c l d (iEnum K ta) σ (zE K A) := fun n H k j R r =>
  h n H k j _ fun vs H1 e1 j1 a1 => by
    obtain ⟨v, r1, φ, rfl, ⟨p, xs, rfl, hA, rfl⟩, b1, a2⟩ := a1
    cases (show r1 = [] from a2)
    refine ⟨p, xs, rfl, b1.now, r _ H1 xs.length _ _ _ ⟨xs, hA, rfl, rfl⟩ e1 j1 b1 walk_enum fun i Ha x Hb _ y => ?_⟩
    obtain ⟨T, a, b, rfl, hT, rfl, ea, eb⟩ := y
    cases ea
    refine ⟨Ko.new hT, _, ⟨T, b, rfl, eb, rfl⟩, fun m hm H' e' => SqT.of (e' _ _ (fun z => ?_) nt_tup upd_same)⟩
    obtain ⟨o, ho⟩ := hm T z
    rw [hT] at ho
    cases ho
/-- how the target is stored -/
def EvG (g : TG) (Y : Po) (f : V → (Hp → Prop) → L2.St → L2.St → Prop) : Prop := ∀ x φ σ H m, Y x φ → Bx m φ H → ∀ Q : L2.St → Hp → Prop, (∀ σ2, f x φ σ σ2 → Q σ2 H) → g x σ H Q
theorem g_name {j : Nat} {Y : Po} : EvG (gName j) Y (fun x _ σ σ2 => σ2 = σ.set j (some x)) := fun x φ σ H m _ _ Q q => q _ rfl
theorem g_pair {i j : Nat} {Y : Po} {R : V → V → Prop} (h : ∀ x φ, Y x φ → ∃ T a b, x = .ref T ∧ φ = kT K T [a, b] ∧ R a b) :
    EvG (gTup K 2 (gCons (gName i) (gCons (gName j) gNil))) Y (fun x φ σ σ2 => ∃ a b, R a b ∧ σ2 = (σ.set i (some a)).set j (some b)) := fun x φ σ H m y b Q q => by
  obtain ⟨T, a, b', rfl, rfl, hR⟩ := h x φ y
  exact ⟨T, [a, b'], rfl, b.now, rfl, a, [b'], rfl, b', [], rfl, rfl, q _ ⟨a, b', hR, rfl⟩⟩
theorem fuel {N0 i d : Nat} (h : i < N0) : (N0 - i) * d = (N0 - (i + 1)) * d + d := by
  rw [show N0 - i = (N0 - (i + 1)) + 1 by omega, Nat.add_mul, Nat.one_mul]
/-- [e for target in ..]: one item a turn -/
theorem ev_lc {wi : TI} {g : TG} {vs : List Nat} {N0 : Nat} {Z : Nat → (Nat → Po) → Prop} {f : Nat → V → (Hp → Prop) → L2.St → L2.St → Prop} {P : Nat → V → (Hp → Prop) → Po}
    (hi : EvI c l d0 wi σ Z) (hN : ∀ N Y, Z N Y → N ≤ N0) (hz : N0 ≤ 100000) (hg : ∀ N Y i, Z N Y → i < N → EvG g (Y i) (f i)) (hw : ∀ i x φ σ2, f i x φ (wipe σ vs) σ2 → wipe σ2 vs = wipe σ vs)
    (he : ∀ N Y i x φ σ2 (D : Addr) (ys : List V), Z N Y → i < N → Y i x φ → f i x φ (wipe σ vs) σ2 → Ev ⟨c.st, (D, .lst ys) :: c.S⟩ (φ :: l) d te σ2 (P i x φ)) :
    Ev c l (d0 + N0 * d) (tLc wi g tYes te vs) σ (fun v χ => ∃ p ys N Y, Z N Y ∧ v = .ref p ∧ ys.length = N ∧
      χ = fun H => H p = some (.lst ys) ∧ ∀ i y, ys[i]? = some y → ∃ x φ ψ, Y i x φ ∧ P i x φ y ψ ∧ Bx c.m ψ H) := fun n H k j Q q =>
  hi (n + N0 * d) H k (j.le (by omega)) _ fun J H1 N Y G Y0 z e1 j1 bG w hy D hD => by
    have nD : D ∉ c.m := j1.new hD
    have hNN := hN N Y z
    refine lc_it w (fun i H' => ∃ ys, ys.length = i ∧ Kn (D :: c.m) (G :: l) H' ∧ Mo (D :: c.m) H1 H' ∧ Ctx.J ⟨c.st, (D, .lst ys) :: c.S⟩ (n + (N0 - i) * d) H' ∧
        ∀ i y, ys[i]? = some y → ∃ x φ ψ, Y i x φ ∧ P i x φ y ψ ∧ Bx (D :: c.m) ψ H')
      ⟨[], rfl, ((k.mo e1).push bG).grow hD, Mo.set (List.mem_cons_self ..), j1.push hD, fun i y h => by simp at h⟩ (fun i H' _ ⟨ys, _, kk, _⟩ => kk.get (List.mem_cons_self ..)) (fun i x Ha Hb hi ⟨ys, hl, kk, e, jj, hp⟩ y => ?_) (fun H' ⟨ys, hl, kk, e, jj, hp⟩ => ?_)
    · obtain ⟨e2, φ, yi, bx⟩ := hy i Ha x Hb hi y
      have b2 : Bx (D :: c.m) φ Hb := bx _ fun a ha => jj.there ha
      refine hg N Y i z hi x φ _ Hb _ yi b2 _ fun σ2 hf => ⟨hw i x φ σ2 hf, ?_⟩
      have j2 := jj.ext e2
      rw [fuel (show i < N0 by omega), ← Nat.add_assoc] at j2
      have kb : Kn (D :: c.m) (φ :: l) Hb := Kn.push ((kk.mo e2.mo).sub fun _ h => List.mem_cons_of_mem _ h) b2
      show te σ2 Hb _
      refine he N Y i x φ σ2 D ys z hi yi hf _ Hb kb j2 _ fun y ψ H4 e4 j4 p4 b4 => ?_
      have o4 := j4.own (D, .lst ys) (List.mem_cons_self ..)
      have e5 : Mo (D :: c.m) H4 (upd H4 D (.lst (ys ++ [y]))) := Mo.set (List.mem_cons_self ..)
      have e4 : Mo (D :: c.m) Hb H4 := e4
      have ea : Mo (D :: c.m) Ha (upd H4 D (.lst (ys ++ [y]))) := ((e2.mo).trans e4).trans e5
      refine ⟨ys, o4, by rw [hl, sizeLine_eq]; omega, ys ++ [y], by rw [List.length_append, hl]; rfl, kk.mo ea, e.trans ea, j4.put, fun i' y' hy' => ?_⟩
      by_cases hlt : i' < ys.length
      · rw [List.getElem?_append_left hlt] at hy'
        obtain ⟨x', φ', ψ', h1, h2, h3⟩ := hp i' y' hy'
        exact ⟨x', φ', ψ', h1, h2, h3.mo ea⟩
      · rw [List.getElem?_append_right (by omega)] at hy'
        have hi' : i' - ys.length = 0 := by
          cases hq : i' - ys.length with
          | zero => rfl
          | succ m => rw [hq] at hy'; simp at hy'
        rw [hi'] at hy'
        have ey : y = y' := by simpa using hy'
        have ei : i' = i := by omega
        subst ey ei
        exact ⟨x, φ, ψ, yi, p4, Bx.mo b4 e5⟩
    · have less : ∀ a, a ∈ c.m → a ∈ D :: c.m := fun a h => List.mem_cons_of_mem _ h
      refine q (.ref D) _ H' ?_ (jj.pop.le (by omega)) ⟨D, ys, N, Y, z, rfl, hl, rfl⟩ fun H2 e2 => ⟨jj.done nt_lst H2 e2, fun i y h => ?_⟩
      · intro a o na t h
        have h1 := e1 a o na t h
        have ne : a ≠ D := ne_of_none h1 hD
        exact e a o (fun z => (List.mem_cons.mp z).elim ne na) t h1
      · obtain ⟨x, φ, ψ, h1, h2, h3⟩ := hp i y h
        exact ⟨x, φ, ψ, h1, h2, (h3.less less).mo e2⟩
/-- for target in ..: body -/
theorem s_for {wi : TI} {g : TG} {tu : TS} {D : Ends} {N0 : Nat} {Z : Nat → (Nat → Po) → Prop} {f : Nat → V → (Hp → Prop) → L2.St → L2.St → Prop}
    (hi : EvI c l d0 wi σ Z) (hN : ∀ N Y, Z N Y → N ≤ N0) (hg : ∀ N Y i, Z N Y → i < N → EvG g (Y i) (f i)) (k : Kn c.m l H) (j : c.J (n + (d0 + N0 * d)) H)
    (Inv : Nat → (Nat → Po) → Nat → L2.St → List (Addr × HO) → List (Hp → Prop) → Prop) (h0 : ∀ N Y, Z N Y → Inv N Y 0 σ c.S [])
    (hs : ∀ N Y i x φ σ1 σ2 S lx G H', Z N Y → i < N → Y i x φ → f i x φ σ1 σ2 → Inv N Y i σ1 S lx → S.map (·.1) = c.S.map (·.1) → Kn c.m (φ :: (lx ++ G :: l)) H' → Ctx.J ⟨c.st, S⟩ (n + (N0 - (i + 1)) * d + d) H' →
      tu { D with nx := fun σ3 H3 => ∃ S3 lx3, Inv N Y (i + 1) σ3 S3 lx3 ∧ S3.map (·.1) = c.S.map (·.1) ∧ Kn c.m (lx3 ++ G :: l) H3 ∧ Ctx.J ⟨c.st, S3⟩ (n + (N0 - (i + 1)) * d) H3,
                  ct := fun σ3 H3 => ∃ S3 lx3, Inv N Y (i + 1) σ3 S3 lx3 ∧ S3.map (·.1) = c.S.map (·.1) ∧ Kn c.m (lx3 ++ G :: l) H3 ∧ Ctx.J ⟨c.st, S3⟩ (n + (N0 - (i + 1)) * d) H3, bk := D.nx } σ2 H')
    (hd : ∀ N Y σ1 S lx G H', Z N Y → Inv N Y N σ1 S lx → S.map (·.1) = c.S.map (·.1) → Kn c.m (lx ++ G :: l) H' → Ctx.J ⟨c.st, S⟩ n H' → D.nx σ1 H') : tFor wi g tu D σ H :=
  hi (n + N0 * d) H k (j.le (by omega)) _ fun J H1 N Y G Y0 z e1 j1 bG w hy => by
    have hNN := hN N Y z
    have mS : ∀ {S : List (Addr × HO)}, S.map (·.1) = c.S.map (·.1) → (Ctx.mk c.st S).m = c.m := fun {S} e => by
      unfold Ctx.m
      rw [show (Ctx.mk c.st S).S.map (·.1) = c.S.map (·.1) from e]
    refine for_it w (fun i σ1 H' => ∃ S lx, Inv N Y i σ1 S lx ∧ S.map (·.1) = c.S.map (·.1) ∧ Kn c.m (lx ++ G :: l) H' ∧ Ctx.J ⟨c.st, S⟩ (n + (N0 - i) * d) H') ⟨c.S, [], h0 N Y z, rfl, (k.mo e1).push bG, j1⟩
      (fun i σ1 H' _ ⟨S, lx, _, _, kk, _⟩ => kk.get (List.mem_append_right _ (List.mem_cons_self ..))) (fun i x σ1 Ha Hb hi ⟨S, lx, iv, eS, kk, jj⟩ y => ?_) (fun σ1 H' ⟨S, lx, iv, eS, kk, jj⟩ => hd N Y σ1 S lx G H' z iv eS kk (jj.le (by omega)))
    obtain ⟨e2, φ, yi, bx⟩ := hy i Ha x Hb hi y
    have b2 : Bx c.m φ Hb := bx _ fun a ha => jj.there (by rw [mS eS]; exact ha)
    refine hg N Y i z hi x φ _ Hb _ yi b2 _ fun σ2 hf => ?_
    have j2 := jj.ext e2
    rw [fuel (show i < N0 by omega), ← Nat.add_assoc] at j2
    exact hs N Y i x φ σ1 σ2 S lx G Hb z hi yi hf iv eS ((kk.mo e2.mo).push b2) j2
/-- .. with what comes behind it -/
theorem q_for {wi : TI} {g : TG} {tu tz : TS} {D : Ends} {N0 : Nat} {Z : Nat → (Nat → Po) → Prop} {f : Nat → V → (Hp → Prop) → L2.St → L2.St → Prop}
    (hi : EvI c l d0 wi σ Z) (hN : ∀ N Y, Z N Y → N ≤ N0) (hg : ∀ N Y i, Z N Y → i < N → EvG g (Y i) (f i)) (k : Kn c.m l H) (j : c.J (n + (d0 + N0 * d)) H)
    (Inv : Nat → (Nat → Po) → Nat → L2.St → List (Addr × HO) → List (Hp → Prop) → Prop) (h0 : ∀ N Y, Z N Y → Inv N Y 0 σ c.S [])
    (hs : ∀ N Y i x φ σ1 σ2 S lx G H', Z N Y → i < N → Y i x φ → f i x φ σ1 σ2 → Inv N Y i σ1 S lx → S.map (·.1) = c.S.map (·.1) → Kn c.m (φ :: (lx ++ G :: l)) H' → Ctx.J ⟨c.st, S⟩ (n + (N0 - (i + 1)) * d + d) H' →
      tu { D with nx := fun σ3 H3 => ∃ S3 lx3, Inv N Y (i + 1) σ3 S3 lx3 ∧ S3.map (·.1) = c.S.map (·.1) ∧ Kn c.m (lx3 ++ G :: l) H3 ∧ Ctx.J ⟨c.st, S3⟩ (n + (N0 - (i + 1)) * d) H3,
                  ct := fun σ3 H3 => ∃ S3 lx3, Inv N Y (i + 1) σ3 S3 lx3 ∧ S3.map (·.1) = c.S.map (·.1) ∧ Kn c.m (lx3 ++ G :: l) H3 ∧ Ctx.J ⟨c.st, S3⟩ (n + (N0 - (i + 1)) * d) H3, bk := tz D } σ2 H')
    (hd : ∀ N Y σ1 S lx G H', Z N Y → Inv N Y N σ1 S lx → S.map (·.1) = c.S.map (·.1) → Kn c.m (lx ++ G :: l) H' → Ctx.J ⟨c.st, S⟩ n H' → tz D σ1 H') : tSeq (tFor wi g tu) tz D σ H :=
  s_for (D := { D with nx := tz D }) hi hN hg k j Inv h0 hs hd
end
end TA

set_option Elab.async false
set_option linter.all false
set_option maxRecDepth 100000
set_option maxHeartbeats 4000000
/-! TaText: texts with strokes -/
namespace TA
open PySem PySem.Spec PyProof.Rows L2

/-- the parts of a text between strokes -/
def parts (x : Str) : List Str := Txt.split x "/"
theorem spl_len {p : List Nat} : ∀ {a acc : List Nat} {k : Nat}, p ∈ TL.spl [47] k acc a → p.length ≤ acc.length + a.length
  | [], acc, k, h => by
    rw [TL.spl_nil] at h
    rw [List.mem_singleton.mp h]
    simp
  | c :: r, acc, 0, h => by
    unfold TL.spl at h
    split at h
    · rcases List.mem_cons.mp h with rfl | h
      · omega
      · have := spl_len h
        simp only [List.length_nil, List.length_cons] at this ⊢
        omega
    · have := spl_len h
      simp only [List.length_append, List.length_cons, List.length_nil] at this ⊢
      omega
  | c :: r, acc, k + 1, h => by
    unfold TL.spl at h
    have := spl_len h
    simp only [List.length_cons] at this ⊢
    omega
theorem spl_count : ∀ {a acc : List Nat} {k : Nat}, (TL.spl [47] k acc a).length ≤ a.length + 1
  | [], acc, k => by
    rw [TL.spl_nil]
    simp
  | c :: r, acc, 0 => by
    unfold TL.spl
    split
    · have := spl_count (a := r) (acc := []) (k := [47].length - 1)
      simp only [List.length_cons] at this ⊢
      omega
    · have := spl_count (a := r) (acc := acc ++ [c]) (k := 0)
      simp only [List.length_cons]
      omega
  | c :: r, acc, k + 1 => by
    unfold TL.spl
    have := spl_count (a := r) (acc := acc) (k := k)
    simp only [List.length_cons]
    omega
theorem spl_ne : ∀ {a acc : List Nat} {k : Nat}, TL.spl [47] k acc a ≠ []
  | [], acc, k => by
    rw [TL.spl_nil]
    simp
  | c :: r, acc, 0 => by
    unfold TL.spl
    split
    · simp
    · exact spl_ne
  | c :: r, acc, k + 1 => by
    unfold TL.spl
    exact spl_ne
theorem stroke : (SX.S [47] : Str) = "/" := by decide +kernel
theorem parts_S (x : Str) : parts x = (TL.spl [47] 0 [] x.cps.toList).map SX.S := by
  unfold parts
  have h := SX.split_S (a := x.cps.toList) (b := [47]) (by simp) (by decide)
  rw [SX.S_tl, stroke] at h
  exact h
theorem len_cps (x : Str) : x.cps.toList.length = x.length := by
  show x.cps.toList.length = x.cps.size
  simp
theorem parts_len {x p : Str} (h : p ∈ parts x) : p.length ≤ x.length := by
  rw [parts_S] at h
  obtain ⟨q, hq, rfl⟩ := List.mem_map.mp h
  have := spl_len hq
  rw [SX.S_len]
  rw [len_cps] at this
  simpa using this
theorem parts_count (x : Str) : (parts x).length ≤ x.length + 1 := by
  rw [parts_S, List.length_map]
  have := spl_count (a := x.cps.toList) (acc := []) (k := 0)
  rw [len_cps] at this
  exact this
theorem parts_ne (x : Str) : parts x ≠ [] := by
  rw [parts_S]
  intro h
  exact spl_ne (List.map_eq_nil_iff.mp h)
theorem parts_join {ss : List Str} (hne : ss ≠ []) (h : ∀ x ∈ ss, 47 ∉ x.cps.toList) : parts (Txt.join "/" ss) = ss :=
  TL.split_join (y := "/") (s := 47) (S := []) (by decide +kernel) (by decide +kernel) hne h
end TA
namespace TA
open PySem PySem.Spec PyProof.Rows L2
/-! ### joined texts -/
theorem joinL_nil : ∀ ys : List (List Nat), TL.joinL [] ys = ys.flatten
  | [] => rfl
  | [p] => by simp [TL.joinL]
  | p :: q :: r => by
    rw [TL.joinL, joinL_nil (q :: r), List.nil_append]
    rfl
theorem joinL_len {s : List Nat} : ∀ ys : List (List Nat), (TL.joinL s ys).length ≤ (ys.map (·.length)).sum + ys.length * s.length
  | [] => by simp [TL.joinL]
  | [p] => by simp [TL.joinL]
  | p :: q :: r => by
    have := joinL_len (s := s) (q :: r)
    rw [TL.joinL, List.length_append, List.length_append, List.map_cons, List.sum_cons, List.length_cons, Nat.succ_mul]
    omega
theorem map_S {ss : List Str} : (ss.map fun x : Str => x.cps.toList).map SX.S = ss := by
  rw [List.map_map]
  have : (SX.S ∘ fun x : Str => x.cps.toList) = id := by
    funext x
    exact SX.S_tl x
  rw [this, List.map_id]
/-- '/'.join -/
theorem join_len {ss : List Str} {z : Str} : (Txt.join z ss).length ≤ (ss.map (·.length)).sum + ss.length * z.length := by
  have h := SX.join_S z.cps.toList (ss.map fun x : Str => x.cps.toList)
  rw [map_S, SX.S_tl] at h
  rw [h, SX.S_len]
  have := joinL_len (s := z.cps.toList) (ss.map fun x : Str => x.cps.toList)
  rw [List.map_map, List.length_map, len_cps] at this
  have e : ((fun x : List Nat => x.length) ∘ fun x : Str => x.cps.toList) = fun x : Str => x.length := by
    funext x
    exact len_cps x
  rw [e] at this
  exact this
theorem sum_le {ss : List Str} {m : Nat} (h : ∀ x ∈ ss, x.length ≤ m) : (ss.map (·.length)).sum ≤ ss.length * m := by
  induction ss with
  | nil => simp
  | cons x r ih =>
    rw [List.map_cons, List.sum_cons, List.length_cons, Nat.succ_mul]
    have h1 := h x (List.mem_cons_self ..)
    have h2 := ih fun y hy => h y (List.mem_cons_of_mem _ hy)
    omega
/-- ''.join of signs -/
theorem join_signs (cs : List Nat) : Txt.join "" (cs.map fun c => (⟨#[c]⟩ : Str)) = SX.S cs := by
  have h := SX.join_S [] (cs.map fun c => [c])
  rw [joinL_nil, List.map_map] at h
  have e1 : (SX.S [] : Str) = "" := by decide +kernel
  have e2 : (cs.map fun c => [c]).flatten = cs := by
    induction cs with
    | nil => rfl
    | cons c r ih =>
      rw [List.map_cons, List.flatten_cons]
      rw [ih]
      · rfl
      · have := SX.join_S [] (r.map fun c => [c])
        rw [joinL_nil, List.map_map] at this
        exact this
  rw [e1, e2] at h
  exact h
end TA

set_option Elab.async false
set_option linter.all false
set_option maxRecDepth 100000
set_option maxHeartbeats 4000000
/-! TaOps: operators and calls of built-ins, over TaRead's words -/
namespace TA
open PySem PySem.Spec PyProof.Rows L2

/-- a list that stands by itself in the heap -/
def kM (p : Addr) (xs : List V) : Hp → Prop := fun H => H p = some (.lst xs)
def aM (A : List V → Prop) : Po := fun v φ => ∃ p xs, v = .ref p ∧ A xs ∧ φ = kM p xs
/-- a value without heap -/
def aV (A : V → Prop) : Po := fun v φ => φ = T0 ∧ A v
section
variable {c : Ctx} {l : List (Hp → Prop)} {d d1 d2 n : Nat} {σ : L2.St} {H : Hp} {ta tb te to : TE} {K : PySem.W.Frag} {A : List V → Prop}
theorem Ev.toL (h : Ev c l d te σ (aM A)) : Ev c l d te σ (aL K A) := fun n H k j Q q => h n H k j Q fun v φ H' e j' p b => by
  obtain ⟨a, xs, rfl, hA, rfl⟩ := p
  exact q _ (kL K a xs) H' e j' ⟨a, xs, rfl, hA, rfl⟩ (b.imp fun _ h => SqL.of h)
theorem ev_varM {i : Nat} {p : Addr} {xs : List V} (h : σ[i]? = some (some (.ref p))) (hm : kM p xs ∈ l) : Ev c l 0 (tVar i) σ (aM (· = xs)) := fun n H k j Q q => ⟨.ref p, h, q _ (kM p xs) H Mo.refl j ⟨p, xs, rfl, rfl, rfl⟩ (k.box hm)⟩
theorem Ev.aV {x : V} (h : Ev c l d te σ (is x)) : Ev c l d te σ (aV (· = x)) := h.imp fun v φ p => ⟨p.2, p.1⟩
theorem Ev.vI {A : Int → Prop} (h : Ev c l d te σ (anI A)) : Ev c l d te σ (TA.aV fun v => ∃ i, A i ∧ v = .int i) := h
theorem Ev.vS {A : Str → Prop} (h : Ev c l d te σ (aS A)) : Ev c l d te σ (TA.aV fun v => ∃ i, A i ∧ v = .str i) := h
/-- a new list of told values -/
theorem ev_lstM {ta : L2.TA} {xs : List V} (h : EvA c l d ta σ (xs.map is)) (hl : xs.length ≤ 100000) : Ev c l d (tLst ta) σ (aM (· = xs)) := fun n H k j Q q =>
  ev_lst h (by rw [List.length_map]; exact hl) n H k j Q fun v φ H' e j' p b => by
    obtain ⟨a, ys, rfl, rfl⟩ := p
    exact q _ (kM a ys) H' e j' ⟨a, ys, rfl, Args.told b.now.2, rfl⟩ fun H2 e2 => (b H2 e2).1
/-- a list in the making, looked at -/
theorem ev_own {st : Sd} {S : List (Addr × HO)} {p : Addr} {xs : List V} {Q : VK} (h : Ev ⟨st, (p, .lst xs) :: S⟩ l d te σ (is (.ref p))) (k : Kn (Ctx.mk st ((p, .lst xs) :: S)).m l H) (j : Ctx.J ⟨st, (p, .lst xs) :: S⟩ (n + d) H)
    (q : ∀ H', Mo (Ctx.mk st ((p, .lst xs) :: S)).m H H' → H' p = some (.lst xs) → Ctx.J ⟨st, (p, .lst xs) :: S⟩ n H' → Q (.ref p) H') : te σ H Q := h n H k j Q fun v φ H' e j' p1 b => by
  obtain ⟨rfl, _⟩ := p1
  exact q H' e (j'.own _ (List.mem_cons_self ..)) j'
/-! ### operators -/
theorem op_II {A B : Int → Prop} {g : Int → Int → Int} : Op2 c l (anI A) (anI B) (rI0 fun i j => .int (g i j)) (anI fun k => ∃ i j, A i ∧ B j ∧ k = g i j) := fun x y φ ψ n H k j p1 p2 b1 b2 Q q => by
  obtain ⟨_, i, hi, rfl⟩ := p1
  obtain ⟨_, i', hi', rfl⟩ := p2
  exact ⟨i, i', rfl, rfl, q _ T0 H Mo.refl j ⟨rfl, _, ⟨i, i', hi, hi', rfl⟩, rfl⟩ kn0⟩
theorem op_IC {A B : Int → Prop} {C : Int → Int → Prop} {g : Int → Int → Int} (hC : ∀ i j, A i → B j → C i j) : Op2 c l (anI A) (anI B) (rI C fun i j => .int (g i j)) (anI fun k => ∃ i j, A i ∧ B j ∧ k = g i j) := fun x y φ ψ n H k j p1 p2 b1 b2 Q q => by
  obtain ⟨_, i, hi, rfl⟩ := p1
  obtain ⟨_, i', hi', rfl⟩ := p2
  exact ⟨i, i', rfl, rfl, hC i i' hi hi', q _ T0 H Mo.refl j ⟨rfl, _, ⟨i, i', hi, hi', rfl⟩, rfl⟩ kn0⟩
theorem op_IB {A B : Int → Prop} {g : Int → Int → Bool} : Op2 c l (anI A) (anI B) (rI0 fun i j => .bl (g i j)) (aB fun k => ∃ i j, A i ∧ B j ∧ k = g i j) := fun x y φ ψ n H k j p1 p2 b1 b2 Q q => by
  obtain ⟨_, i, hi, rfl⟩ := p1
  obtain ⟨_, i', hi', rfl⟩ := p2
  exact ⟨i, i', rfl, rfl, q _ T0 H Mo.refl j ⟨rfl, _, ⟨i, i', hi, hi', rfl⟩, rfl⟩ kn0⟩
theorem op_eqI {A B : Int → Prop} : Op2 c l (anI A) (anI B) rEq (aB fun k => ∃ i j, A i ∧ B j ∧ k = decide (i = j)) := fun x y φ ψ n H k j p1 p2 b1 b2 Q q => by
  obtain ⟨_, i, hi, rfl⟩ := p1
  obtain ⟨_, i', hi', rfl⟩ := p2
  exact ⟨rfl, q _ T0 H Mo.refl j ⟨rfl, _, ⟨i, i', hi, hi', rfl⟩, by simp⟩ kn0⟩
theorem op_eqS {A B : Str → Prop} : Op2 c l (aS A) (aS B) rEq (aB fun k => ∃ i j, A i ∧ B j ∧ k = decide (i = j)) := fun x y φ ψ n H k j p1 p2 b1 b2 Q q => by
  obtain ⟨_, i, hi, rfl⟩ := p1
  obtain ⟨_, i', hi', rfl⟩ := p2
  exact ⟨rfl, q _ T0 H Mo.refl j ⟨rfl, _, ⟨i, i', hi, hi', rfl⟩, by simp⟩ kn0⟩
theorem op_neS {A B : Str → Prop} : Op2 c l (aS A) (aS B) rNe (aB fun k => ∃ i j, A i ∧ B j ∧ k = !decide (i = j)) := fun x y φ ψ n H k j p1 p2 b1 b2 Q q => by
  obtain ⟨_, i, hi, rfl⟩ := p1
  obtain ⟨_, i', hi', rfl⟩ := p2
  exact ⟨rfl, q _ T0 H Mo.refl j ⟨rfl, _, ⟨i, i', hi, hi', rfl⟩, by simp⟩ kn0⟩
/-- one sign in a text -/
theorem op_sign {A : Nat → Prop} {B : Str → Prop} : Op2 c l (aS fun x => ∃ ch, A ch ∧ x = ⟨#[ch]⟩) (aS B) rInS (aB fun k => ∃ ch z, A ch ∧ B z ∧ k = decide (ch ∈ z.cps.toList)) := fun x y φ ψ n H k j p1 p2 b1 b2 Q q => by
  obtain ⟨_, i, ⟨ch, hc, rfl⟩, rfl⟩ := p1
  obtain ⟨_, z, hz, rfl⟩ := p2
  exact ⟨ch, z, rfl, rfl, q _ T0 H Mo.refl j ⟨rfl, _, ⟨ch, z, hc, hz, rfl⟩, rfl⟩ kn0⟩
theorem op_inL {B : V → Prop} {neg : Bool} (hx : ∀ v, B v → flatV v = true) (hf : ∀ xs, A xs → xs.all flatV = true) : Op2 c l (aV B) (aL K A) (rIn K neg) (aB fun k => ∃ x xs, B x ∧ A xs ∧ k = if neg then !inV x xs else inV x xs) := fun x y φ ψ n H k j p1 p2 b1 b2 Q q => by
  obtain ⟨_, hb⟩ := p1
  obtain ⟨p, xs, rfl, ha, rfl⟩ := p2
  exact ⟨p, xs, rfl, .inl b2.now, hx x hb, hf xs ha, q _ T0 H Mo.refl j ⟨rfl, _, ⟨x, xs, hb, ha, rfl⟩, rfl⟩ kn0⟩
theorem op_inT {B : V → Prop} {neg : Bool} (hx : ∀ v, B v → flatV v = true) (hf : ∀ xs, A xs → xs.all flatV = true) : Op2 c l (aV B) (aT K A) (rIn K neg) (aB fun k => ∃ x xs, B x ∧ A xs ∧ k = if neg then !inV x xs else inV x xs) := fun x y φ ψ n H k j p1 p2 b1 b2 Q q => by
  obtain ⟨_, hb⟩ := p1
  obtain ⟨p, xs, rfl, ha, rfl⟩ := p2
  exact ⟨p, xs, rfl, .inr b2.now, hx x hb, hf xs ha, q _ T0 H Mo.refl j ⟨rfl, _, ⟨x, xs, hb, ha, rfl⟩, rfl⟩ kn0⟩
/-- .. in a list in the making -/
theorem op_inO {st : Sd} {S : List (Addr × HO)} {p : Addr} {xs : List V} {B : V → Prop} {neg : Bool} (hx : ∀ v, B v → flatV v = true) (hf : xs.all flatV = true) :
    Op2 ⟨st, (p, .lst xs) :: S⟩ l (aV B) (is (.ref p)) (rIn K neg) (aB fun k => ∃ x, B x ∧ k = if neg then !inV x xs else inV x xs) := fun x y φ ψ n H k j p1 p2 b1 b2 Q q => by
  obtain ⟨_, hb⟩ := p1
  obtain ⟨rfl, _⟩ := p2
  exact ⟨p, xs, rfl, .inl (SqL.of (j.own _ (List.mem_cons_self ..))), hx x hb, hf, q _ T0 H Mo.refl j ⟨rfl, _, ⟨x, hb, rfl⟩, rfl⟩ kn0⟩
theorem op_ixL {B : Int → Prop} (h : ∀ xs i, A xs → B i → ∃ v, atI xs i = some v) : Op2 c l (aL K A) (anI B) (rIxL K) (aV fun v => ∃ xs i, A xs ∧ B i ∧ atI xs i = some v) := fun x y φ ψ n H k j p1 p2 b1 b2 Q q => by
  obtain ⟨p, xs, rfl, ha, rfl⟩ := p1
  obtain ⟨_, i, hi, rfl⟩ := p2
  obtain ⟨v, hv⟩ := h xs i ha hi
  exact ⟨p, xs, i, v, rfl, rfl, b1.now, hv, q v T0 H Mo.refl j ⟨rfl, xs, i, ha, hi, hv⟩ kn0⟩
theorem op_ixT {B : Int → Prop} (h : ∀ xs i, A xs → B i → ∃ v, atI xs i = some v) : Op2 c l (aT K A) (anI B) (rIxT K) (aV fun v => ∃ xs i, A xs ∧ B i ∧ atI xs i = some v) := fun x y φ ψ n H k j p1 p2 b1 b2 Q q => by
  obtain ⟨p, xs, rfl, ha, rfl⟩ := p1
  obtain ⟨_, i, hi, rfl⟩ := p2
  obtain ⟨v, hv⟩ := h xs i ha hi
  exact ⟨p, xs, i, v, rfl, rfl, b1.now, hv, q v T0 H Mo.refl j ⟨rfl, xs, i, ha, hi, hv⟩ kn0⟩
theorem op_ixS {B : Int → Prop} {A : Str → Prop} (h : ∀ z i, A z → B i → z.length ≤ 100000 ∧ ∃ ch, atI z.cps.toList i = some ch) : Op2 c l (aS A) (anI B) rIxS (aS fun x => ∃ z i ch, A z ∧ B i ∧ atI z.cps.toList i = some ch ∧ x = ⟨#[ch]⟩) := fun x y φ ψ n H k j p1 p2 b1 b2 Q q => by
  obtain ⟨_, z, hz, rfl⟩ := p1
  obtain ⟨_, i, hi, rfl⟩ := p2
  obtain ⟨hl, ch, hc⟩ := h z i hz hi
  exact ⟨z, i, ch, rfl, rfl, by rw [sizeLine_eq]; omega, hc, q _ T0 H Mo.refl j ⟨rfl, _, ⟨z, i, ch, hz, hi, hc, rfl⟩, rfl⟩ kn0⟩
theorem op_addS {A B : Str → Prop} (h : ∀ x y, A x → B y → x.length + y.length ≤ 1000000) :
    Op2 c l (aS A) (aS B) (fun x y H Q => ∃ i j, x = .str i ∧ y = .str j ∧ i.length + j.length ≤ sizeLine ∧ Q (.str (i ++ j)) H) (aS fun z => ∃ x y, A x ∧ B y ∧ z = x ++ y) := fun x y φ ψ n H k j p1 p2 b1 b2 Q q => by
  obtain ⟨_, i, hi, rfl⟩ := p1
  obtain ⟨_, i', hi', rfl⟩ := p2
  have hz := h i i' hi hi'
  exact ⟨i, i', rfl, rfl, by rw [sizeLine_eq]; omega, q _ T0 H Mo.refl j ⟨rfl, _, ⟨i, i', hi, hi', rfl⟩, rfl⟩ kn0⟩
theorem op_catM {B : List V → Prop} (h : ∀ xs ys, A xs → B ys → xs.length + ys.length ≤ 1000000) : Op2 c l (aM A) (aM B) rCat (aM fun zs => ∃ xs ys, A xs ∧ B ys ∧ zs = xs ++ ys) := fun x y φ ψ n H k j p1 p2 b1 b2 Q q => by
  obtain ⟨p, xs, rfl, ha, rfl⟩ := p1
  obtain ⟨p', ys, rfl, hb, rfl⟩ := p2
  have hz := h xs ys ha hb
  refine ⟨p, p', xs, ys, rfl, rfl, b1.now, b2.now, by rw [sizeLine_eq]; omega, fun r hr => ?_⟩
  exact q _ (kM r (xs ++ ys)) _ (Mo.new hr) (j.ext (Ko.new hr)) ⟨r, _, rfl, ⟨xs, ys, ha, hb, rfl⟩, rfl⟩ (Bx.at (j.new hr) upd_same)
/-- a < b < c of ints -/
theorem ev_chain {d3 : Nat} {tc : TE} {A B C : Int → Prop} {g g' : Int → Int → Bool} (ha : Ev c l d1 ta σ (anI A)) (hb : Ev c l d2 tb σ (anI B)) (hc : Ev c l d3 tc σ (anI C)) :
    Ev c l (d1 + d2 + d3) (tChain (rI0 fun i j => .bl (g i j)) (rI0 fun i j => .bl (g' i j)) ta tb tc) σ (aB fun b => ∃ i j, A i ∧ B j ∧ ((b = false ∧ g i j = false) ∨ ∃ k, C k ∧ g i j = true ∧ b = g' j k)) := fun n H k j Q q =>
  ha (n + d2 + d3) H k (j.le (by omega)) _ fun x φ H1 e1 j1 p1 b1 => hb (n + d3) H1 (k.mo e1) (j1.le (by omega)) _ fun y ψ H2 e2 j2 p2 b2 => by
    obtain ⟨_, i, hi, rfl⟩ := p1
    obtain ⟨_, i', hi', rfl⟩ := p2
    refine ⟨i, i', rfl, rfl, g i i', rfl, ?_⟩
    cases hg : g i i' with
    | false => exact q _ T0 H2 (e1.trans e2) (j2.le (by omega)) ⟨rfl, false, ⟨i, i', hi, hi', .inl ⟨rfl, hg⟩⟩, rfl⟩ kn0
    | true =>
      show tc σ H2 _
      refine hc n H2 (k.mo (e1.trans e2)) j2 _ fun z χ H3 e3 j3 p3 b3 => ?_
      obtain ⟨_, i3, hi3, rfl⟩ := p3
      exact ⟨i', i3, rfl, rfl, q _ T0 H3 ((e1.trans e2).trans e3) j3 ⟨rfl, _, ⟨i, i', hi, hi', .inr ⟨i3, hi3, hg, rfl⟩⟩, rfl⟩ kn0⟩
/-! ### calls of built-ins -/
theorem cl_lenL : Cl c l 0 [aL K A] (fun xs H Q => ∃ p ys, xs = [.ref p] ∧ (SqL K H p ys ∨ SqT K H p ys) ∧ Q (.int ys.length) H) (anI fun k => ∃ xs, A xs ∧ k = (xs.length : Int)) := fun vs n H k j a Q q => by
  obtain ⟨v, r, φ, rfl, ⟨p, xs, rfl, ha, rfl⟩, b, a⟩ := a
  cases (show r = [] from a)
  exact ⟨p, xs, rfl, .inl b.now, q _ T0 H Mo.refl j ⟨rfl, _, ⟨xs, ha, rfl⟩, rfl⟩ kn0⟩
theorem cl_lenT : Cl c l 0 [aT K A] (fun xs H Q => ∃ p ys, xs = [.ref p] ∧ (SqL K H p ys ∨ SqT K H p ys) ∧ Q (.int ys.length) H) (anI fun k => ∃ xs, A xs ∧ k = (xs.length : Int)) := fun vs n H k j a Q q => by
  obtain ⟨v, r, φ, rfl, ⟨p, xs, rfl, ha, rfl⟩, b, a⟩ := a
  cases (show r = [] from a)
  exact ⟨p, xs, rfl, .inr b.now, q _ T0 H Mo.refl j ⟨rfl, _, ⟨xs, ha, rfl⟩, rfl⟩ kn0⟩
theorem cl_lenO {st : Sd} {S : List (Addr × HO)} {p : Addr} {xs : List V} : Cl ⟨st, (p, .lst xs) :: S⟩ l 0 [is (.ref p)] (fun xs H Q => ∃ p ys, xs = [.ref p] ∧ (SqL K H p ys ∨ SqT K H p ys) ∧ Q (.int ys.length) H) (anI (· = (xs.length : Int))) := fun vs n H k j a Q q => by
  obtain ⟨v, r, φ, rfl, ⟨rfl, _⟩, b, a⟩ := a
  cases (show r = [] from a)
  exact ⟨p, xs, rfl, .inl (SqL.of (j.own _ (List.mem_cons_self ..))), q _ T0 H Mo.refl j ⟨rfl, _, rfl, rfl⟩ kn0⟩
theorem cl_lenS {A : Str → Prop} (h : ∀ z, A z → z.length ≤ 1000000) : Cl c l 0 [aS A] (fun xs H Q => ∃ z, xs = [.str z] ∧ z.length ≤ sizeLine ∧ Q (.int z.length) H) (anI fun k => ∃ z, A z ∧ k = (z.length : Int)) := fun vs n H k j a Q q => by
  obtain ⟨v, r, φ, rfl, ⟨rfl, z, hz, rfl⟩, b, a⟩ := a
  cases (show r = [] from a)
  have := h z hz
  exact ⟨z, rfl, by rw [sizeLine_eq]; omega, q _ T0 H Mo.refl j ⟨rfl, _, ⟨z, hz, rfl⟩, rfl⟩ kn0⟩
theorem cl_all {B : List Bool → Prop} : Cl c l 0 [aL K fun xs => ∃ bs, B bs ∧ xs = bs.map V.bl] (rAll K) (aB fun k => ∃ bs, B bs ∧ k = bs.all id) := fun vs n H k j a Q q => by
  obtain ⟨v, r, φ, rfl, ⟨p, xs, rfl, ⟨bs, hb, rfl⟩, rfl⟩, b, a⟩ := a
  cases (show r = [] from a)
  exact ⟨p, bs, rfl, b.now, q _ T0 H Mo.refl j ⟨rfl, _, ⟨bs, hb, rfl⟩, rfl⟩ kn0⟩
theorem cl_any {B : List Bool → Prop} : Cl c l 0 [aL K fun xs => ∃ bs, B bs ∧ xs = bs.map V.bl] (rAny K) (aB fun k => ∃ bs, B bs ∧ k = bs.any id) := fun vs n H k j a Q q => by
  obtain ⟨v, r, φ, rfl, ⟨p, xs, rfl, ⟨bs, hb, rfl⟩, rfl⟩, b, a⟩ := a
  cases (show r = [] from a)
  exact ⟨p, bs, rfl, b.now, q _ T0 H Mo.refl j ⟨rfl, _, ⟨bs, hb, rfl⟩, rfl⟩ kn0⟩
theorem cl_list : Cl c l 0 [aL K A] (fun xs H Q => ∃ p ys, xs = [.ref p] ∧ (SqL K H p ys ∨ SqT K H p ys) ∧ ∀ l, H l = none → Q (.ref l) (upd H l (.lst ys))) (aM A) := fun vs n H k j a Q q => by
  obtain ⟨v, r, φ, rfl, ⟨p, xs, rfl, ha, rfl⟩, b, a⟩ := a
  cases (show r = [] from a)
  exact ⟨p, xs, rfl, .inl b.now, fun r hr => q _ (kM r xs) _ (Mo.new hr) (j.ext (Ko.new hr)) ⟨r, _, rfl, ha, rfl⟩ (Bx.at (j.new hr) upd_same)⟩
theorem cl_tuple : Cl c l 0 [aL K A] (fun xs H Q => ∃ p ys, xs = [.ref p] ∧ ((SqL K H p ys ∧ ∀ l, H l = none → Q (.ref l) (upd H l (.tup ys))) ∨ (SqT K H p ys ∧ Q (.ref p) H))) (aT K A) := fun vs n H k j a Q q => by
  obtain ⟨v, r, φ, rfl, ⟨p, xs, rfl, ha, rfl⟩, b, a⟩ := a
  cases (show r = [] from a)
  exact ⟨p, xs, rfl, .inl ⟨b.now, fun r hr => q _ (kT K r xs) _ (Mo.new hr) (j.ext (Ko.new hr)) ⟨r, _, rfl, ha, rfl⟩ ((Bx.at (j.new hr) upd_same).imp fun _ h => SqT.of h)⟩⟩
theorem cl_sortedI {B : List Int → Prop} : Cl c l 0 [aL K fun xs => ∃ ns, B ns ∧ xs = ns.map V.int] (rSortedI K) (aM fun ys => ∃ ns ns' : List Int, B ns ∧ ns'.Perm ns ∧ ns'.Pairwise (· ≤ ·) ∧ ys = ns'.map V.int) := fun vs n H k j a Q q => by
  obtain ⟨v, r, φ, rfl, ⟨p, xs, rfl, ⟨ns, hb, rfl⟩, rfl⟩, b, a⟩ := a
  cases (show r = [] from a)
  exact ⟨p, ns, rfl, b.now, fun ns' r hp hs hr => q _ (kM r (ns'.map V.int)) _ (Mo.new hr) (j.ext (Ko.new hr)) ⟨r, _, rfl, ⟨ns, ns', hb, hp, hs, rfl⟩, rfl⟩ (Bx.at (j.new hr) upd_same)⟩
theorem cl_intB {B : Bool → Prop} : Cl c l 0 [aB B] (fun xs H Q => (∃ i, xs = [.int i] ∧ Q (.int i) H) ∨ ∃ k, xs = [.bl k] ∧ Q (.int (if k then 1 else 0)) H) (anI fun i => ∃ b, B b ∧ i = if b then 1 else 0) := fun vs n H k j a Q q => by
  obtain ⟨v, r, φ, rfl, ⟨rfl, z, hz, rfl⟩, b, a⟩ := a
  cases (show r = [] from a)
  exact .inr ⟨z, rfl, q _ T0 H Mo.refl j ⟨rfl, _, ⟨z, hz, rfl⟩, rfl⟩ kn0⟩
theorem cl_intI {B : Int → Prop} : Cl c l 0 [anI B] (fun xs H Q => (∃ i, xs = [.int i] ∧ Q (.int i) H) ∨ ∃ k, xs = [.bl k] ∧ Q (.int (if k then 1 else 0)) H) (anI B) := fun vs n H k j a Q q => by
  obtain ⟨v, r, φ, rfl, ⟨rfl, z, hz, rfl⟩, b, a⟩ := a
  cases (show r = [] from a)
  exact .inl ⟨z, rfl, q _ T0 H Mo.refl j ⟨rfl, _, hz, rfl⟩ kn0⟩
/-- isinstance(x, T), T a built-in class -/
theorem cl_isi {x : V} {T : String} {b : Bool} (h : ∀ H, Kn c.m l H → ∃ t, TyX K H x t ∧ PySem.W.kitOne K t (.type T) = some b) : Cl c l 0 [is x, is (.ty T)] (rIsi K) (aB (· = b)) := fun vs n H k j a Q q => by
  obtain ⟨v, r, φ, rfl, ⟨rfl, _⟩, _, v', r', φ', rfl, ⟨rfl, _⟩, _, a⟩ := a
  cases (show r' = [] from a)
  obtain ⟨t, h1, h2⟩ := h H k
  exact ⟨v, _, t, _, b, rfl, ClsV.ty T, h1, h2, q _ T0 H Mo.refl j ⟨rfl, _, rfl, rfl⟩ kn0⟩
/-! ### methods of texts -/
theorem ev_split {A : Str → Prop} {z : Str} (ho : Ev c l d1 to σ (aS A)) (he : Ev c l d2 te σ (aS (· = z))) (hz : (z.length == 0) = false) (hA : ∀ x, A x → x.length ≤ 100000) :
    Ev c l (d1 + d2) (tM1 (fun x xs H Q => ∃ a b, x = .str a ∧ xs = [.str b] ∧ (b.length == 0) = false ∧ a.length + 2 ≤ sizeLine ∧ rNewStrs (Txt.split a b) H Q) to te) σ (aM fun ys => ∃ x, A x ∧ ys = (Txt.split x z).map V.str) := fun n H k j Q q =>
  ho (n + d2) H k (j.le (by omega)) _ fun v φ H1 e1 j1 p1 b1 => by
    obtain ⟨_, x, hx, rfl⟩ := p1
    refine ⟨⟨x, rfl⟩, he n H1 (k.mo e1) j1 _ fun y ψ H2 e2 j2 p2 b2 => ?_⟩
    obtain ⟨_, z', rfl, rfl⟩ := p2
    have := hA x hx
    refine ⟨x, _, rfl, rfl, hz, by rw [sizeLine_eq]; omega, fun r hr => ?_⟩
    exact q _ (kM r _) _ ((e1.trans e2).trans (Mo.new hr)) (j2.ext (Ko.new hr)) ⟨r, _, rfl, ⟨x, hx, rfl⟩, rfl⟩ (Bx.at (j2.new hr) upd_same)
theorem ev_join {B : List Str → Prop} {z : Str} (ho : Ev c l d1 to σ (aS (· = z))) (he : Ev c l d2 te σ (aL K fun xs => ∃ ss, B ss ∧ xs = ss.map V.str)) (hB : ∀ ss, B ss → (ss.map (·.length)).sum + ss.length * z.length ≤ 16777216) :
    Ev c l (d1 + d2) (tM1 (fun x xs H Q => ∃ a p, ∃ ys : List Str, x = .str a ∧ xs = [.ref p] ∧ (SqL K H p (ys.map V.str) ∨ SqT K H p (ys.map V.str)) ∧ (ys.map (·.length)).sum + ys.length * a.length ≤ 16777216 ∧ Q (.str (Txt.join a ys)) H) to te) σ
      (aS fun x => ∃ ss, B ss ∧ x = Txt.join z ss) := fun n H k j Q q =>
  ho (n + d2) H k (j.le (by omega)) _ fun v φ H1 e1 j1 p1 b1 => by
    obtain ⟨_, z', rfl, rfl⟩ := p1
    refine ⟨⟨_, rfl⟩, he n H1 (k.mo e1) j1 _ fun y ψ H2 e2 j2 p2 b2 => ?_⟩
    obtain ⟨p, xs, rfl, ⟨ss, hs, rfl⟩, rfl⟩ := p2
    exact ⟨_, p, ss, rfl, rfl, .inl b2.now, hB ss hs, q _ T0 H2 (e1.trans e2) j2 ⟨rfl, _, ⟨ss, hs, rfl⟩, rfl⟩ kn0⟩
end
/-- what a comprehension gives where each item is told by its source's item -/
theorem lc_vals {α : Type} {c : Ctx} {l : List (Hp → Prop)} {d : Nat} {te : TE} {σ : L2.St} {Z : Nat → (Nat → Po) → Prop} {P : Nat → V → (Hp → Prop) → Po} {f : α → V} {B : List α → Prop}
    (h : Ev c l d te σ (fun v χ => ∃ p ys N Y, Z N Y ∧ v = .ref p ∧ ys.length = N ∧ χ = fun H => H p = some (.lst ys) ∧ ∀ i y, ys[i]? = some y → ∃ x φ ψ, Y i x φ ∧ P i x φ y ψ ∧ Bx c.m ψ H))
    (g : ∀ N Y ys, Z N Y → ys.length = N → (∀ i y, ys[i]? = some y → ∃ x φ ψ, Y i x φ ∧ P i x φ y ψ) → ∃ zs, B zs ∧ ys = zs.map f) : Ev c l d te σ (aM fun xs => ∃ zs, B zs ∧ xs = zs.map f) := fun n H k j Q q =>
  h n H k j Q fun v χ H' e j' p b => by
    obtain ⟨a, ys, N, Y, hz, rfl, hl, rfl⟩ := p
    refine q _ (kM a ys) H' e j' ⟨a, ys, rfl, g N Y ys hz hl fun i y hy => ?_, rfl⟩ (b.imp fun _ h => h.1)
    obtain ⟨x, φ, ψ, h1, h2, _⟩ := b.now.2 i y hy
    exact ⟨x, φ, ψ, h1, h2⟩
/-- lists by their items -/
theorem map_of_items {α β : Type} {xs : List α} {ys : List β} {f : α → β} (hl : ys.length = xs.length) (h : ∀ (i : Nat) y, ys[i]? = some y → ∃ x, xs[i]? = some x ∧ y = f x) : ys = xs.map f := by
  apply List.ext_getElem? 
  intro i
  rw [List.getElem?_map]
  cases hy : ys[i]? with
  | some y =>
    obtain ⟨x, hx, rfl⟩ := h i y hy
    rw [hx]
    rfl
  | none =>
    have : xs[i]? = none := by
      rw [List.getElem?_eq_none_iff] at hy ⊢
      omega
    rw [this]
    rfl
theorem list_of_items {β γ : Type} {ys : List β} {f : γ → β} {C : γ → Prop} (h : ∀ (i : Nat) y, ys[i]? = some y → ∃ z, C z ∧ y = f z) : ∃ zs : List γ, (∀ z ∈ zs, C z) ∧ zs.length = ys.length ∧ ys = zs.map f := by
  induction ys with
  | nil => exact ⟨[], by simp, rfl, rfl⟩
  | cons y r ih =>
    obtain ⟨z, hz, rfl⟩ := h 0 y rfl
    obtain ⟨zs, h1, h2, h3⟩ := ih fun i y' hy => h (i + 1) y' hy
    refine ⟨z :: zs, fun w hw => ?_, by rw [List.length_cons, List.length_cons, h2], by rw [List.map_cons, ← h3]⟩
    rcases List.mem_cons.mp hw with rfl | hw
    · exact hz
    · exact h1 w hw
/-! ### comprehensions whose items are values without heap -/
section
variable {c : Ctx} {l : List (Hp → Prop)} {d d0 : Nat} {σ : L2.St} {tl te : TE} {K : PySem.W.Frag} {vs : List Nat} {j : Nat}
theorem ev_lcS {z : Str} (f : Nat → V) (h : Ev c l d0 tl σ (aS (· = z))) (hz : z.length ≤ 100000) (hw : ∀ x, wipe ((wipe σ vs).set j (some x)) vs = wipe σ vs)
    (he : ∀ (i : Nat) ch (D : Addr) (ys : List V), z.cps[i]? = some ch → Ev ⟨c.st, (D, .lst ys) :: c.S⟩ (T0 :: l) 0 te ((wipe σ vs).set j (some (.str ⟨#[ch]⟩))) (aV (· = f ch))) :
    Ev c l d0 (tLc (iStr tl) (gName j) tYes te vs) σ (aM (· = z.cps.toList.map f)) := fun n H k jj Q q => by
  refine ev_lc (d := 0) (N0 := 100000) (P := fun i x _ => aV fun y => ∀ ch, z.cps[i]? = some ch → y = f ch) (i_str h) ?_ (Nat.le_refl _) (fun _ _ _ _ _ => g_name) (fun i x φ σ2 e => by rw [e]; exact hw x) ?_ n H k (by rw [Nat.mul_zero]; exact jj) Q fun v χ H' e j' p b => ?_
  · rintro N Y ⟨z', rfl, hN, _⟩
    rw [hN]
    exact hz
  · rintro N Y i y φ σ2 D ys ⟨z', rfl, hN, rfl⟩ hi ⟨rfl, ch, hc, rfl⟩ rfl
    refine (he i ch D ys hc).imp fun v φ p => ⟨p.1, fun ch' h' => ?_⟩
    rw [hc] at h'
    cases h'
    exact p.2
  · obtain ⟨a, ys, N, Y, ⟨z', rfl, hN, rfl⟩, rfl, hl, rfl⟩ := p
    refine q _ (kM a ys) H' e j' ⟨a, ys, rfl, ?_, rfl⟩ (b.imp fun _ h => h.1)
    refine map_of_items (by rw [hl, hN]; simp) fun i y hy => ?_
    obtain ⟨x, φ, ψ, ⟨_, ch, h1, _⟩, ⟨_, h2⟩, _⟩ := b.now.2 i y hy
    exact ⟨ch, by simpa using h1, h2 ch h1⟩
theorem ev_lcL {A : List V → Prop} {N0 : Nat} (R : V → V → Prop) (h : Ev c l d0 tl σ (aL K A)) (hN : ∀ xs, A xs → xs.length ≤ N0) (hz : N0 ≤ 100000) (hw : ∀ x, wipe ((wipe σ vs).set j (some x)) vs = wipe σ vs)
    (he : ∀ xs (i : Nat) x (D : Addr) (ys : List V), A xs → xs[i]? = some x → Ev ⟨c.st, (D, .lst ys) :: c.S⟩ (T0 :: l) d te ((wipe σ vs).set j (some x)) (aV (R x))) :
    Ev c l (d0 + N0 * d) (tLc (iList K tl) (gName j) tYes te vs) σ (aM fun ys => ∃ xs, A xs ∧ ys.length = xs.length ∧ ∀ (i : Nat) x y, xs[i]? = some x → ys[i]? = some y → R x y) := fun n H k jj Q q => by
  refine ev_lc (N0 := N0) (P := fun i x _ => aV (R x)) (i_list h) ?_ hz (fun _ _ _ _ _ => g_name) (fun i x φ σ2 e => by rw [e]; exact hw x) ?_ n H k jj Q fun v χ H' e j' p b => ?_
  · rintro N Y ⟨xs, hA, hN', _⟩
    rw [hN']
    exact hN xs hA
  · rintro N Y i y φ σ2 D ys ⟨xs, hA, hN', rfl⟩ hi ⟨hy, rfl⟩ rfl
    exact he xs i y D ys hA hy
  · obtain ⟨a, ys, N, Y, ⟨xs, hA, hN', rfl⟩, rfl, hl, rfl⟩ := p
    refine q _ (kM a ys) H' e j' ⟨a, ys, rfl, ⟨xs, hA, by rw [hl, hN'], fun i x y hx hy => ?_⟩, rfl⟩ (b.imp fun _ h => h.1)
    obtain ⟨x', φ, ψ, ⟨h1, _⟩, ⟨_, h2⟩, _⟩ := b.now.2 i y hy
    rw [hx] at h1
    cases h1
    exact h2
/-- .. by a function of the item -/
theorem ev_lcF {xs : List V} (f : V → V) (h : Ev c l d0 tl σ (aL K (· = xs))) (hz : xs.length ≤ 100000) (hw : ∀ x, wipe ((wipe σ vs).set j (some x)) vs = wipe σ vs)
    (he : ∀ (i : Nat) x (D : Addr) (ys : List V), xs[i]? = some x → Ev ⟨c.st, (D, .lst ys) :: c.S⟩ (T0 :: l) 0 te ((wipe σ vs).set j (some x)) (aV (· = f x))) :
    Ev c l d0 (tLc (iList K tl) (gName j) tYes te vs) σ (aM (· = xs.map f)) := by
  have g := ev_lcL (d := 0) (N0 := 100000) (fun x y => y = f x) h (fun ys e => by rw [e]; exact hz) (Nat.le_refl _) hw (fun ys i x D zs e hx => he i x D zs (by rw [← e]; exact hx))
  rw [Nat.mul_zero] at g
  refine g.imp fun v φ ⟨p, ys, e1, ⟨xs', e2, hl, hi⟩, e3⟩ => ⟨p, ys, e1, ?_, e3⟩
  subst e2
  exact map_of_items hl fun i y hy => by
    have hlt : i < xs'.length := by
      rw [← hl]
      exact (List.getElem?_eq_some_iff.mp hy).1
    exact ⟨xs'[i], List.getElem?_eq_getElem hlt, hi i _ y (List.getElem?_eq_getElem hlt) hy⟩
theorem ev_lcR {ta : L2.TA} {A : Nat → Prop} {N0 : Nat} (R : V → Prop) (h : EvA c l d0 ta σ [anI fun i => ∃ N : Nat, A N ∧ i = (N : Int)]) (hN : ∀ N, A N → N ≤ N0) (hz : N0 ≤ 100000) (hw : ∀ x, wipe ((wipe σ vs).set j (some x)) vs = wipe σ vs)
    (he : ∀ N i (D : Addr) (ys : List V), A N → i < N → Ev ⟨c.st, (D, .lst ys) :: c.S⟩ (T0 :: l) d te ((wipe σ vs).set j (some (.int ((0 : Int) + (i : Nat))))) (aV R)) :
    Ev c l (d0 + N0 * d) (tLc (iRng1 ta) (gName j) tYes te vs) σ (aM fun ys => ∃ N, A N ∧ ys.length = N ∧ ∀ y ∈ ys, R y) := fun n H k jj Q q => by
  refine ev_lc (N0 := N0) (P := fun i x _ => aV R) (i_range1 h hN hz) ?_ hz (fun _ _ _ _ _ => g_name) (fun i x φ σ2 e => by rw [e]; exact hw x) ?_ n H k jj Q fun v χ H' e j' p b => ?_
  · rintro N Y ⟨hA, _⟩
    exact hN N hA
  · rintro N Y i y φ σ2 D ys ⟨hA, rfl⟩ hi ⟨rfl, rfl⟩ rfl
    exact he N i D ys hA hi
  · obtain ⟨a, ys, N, Y, ⟨hA, rfl⟩, rfl, hl, rfl⟩ := p
    refine q _ (kM a ys) H' e j' ⟨a, ys, rfl, ⟨N, hA, hl, fun y hy => ?_⟩, rfl⟩ (b.imp fun _ h => h.1)
    obtain ⟨i, hi⟩ := List.mem_iff_getElem?.mp hy
    obtain ⟨x', φ, ψ, _, ⟨_, h2⟩, _⟩ := b.now.2 i y hi
    exact h2
end
/-- values that are all texts -/
theorem strs_of {C : Str → Prop} {ys : List V} (h : ∀ y ∈ ys, ∃ x, C x ∧ y = V.str x) : ∃ ss : List Str, (∀ x ∈ ss, C x) ∧ ss.length = ys.length ∧ ys = ss.map V.str :=
  list_of_items (f := V.str) fun i y hy => h y (List.mem_of_getElem? hy)
/-- a list of truths by a function -/
theorem Ev.bools {α : Type} {c : Ctx} {l : List (Hp → Prop)} {d : Nat} {te : TE} {σ : L2.St} {g : α → Bool} {xs : List α} (h : Ev c l d te σ (aM (· = xs.map fun x => V.bl (g x)))) :
    Ev c l d te σ (aM fun ys => ∃ bs, bs = xs.map g ∧ ys = bs.map V.bl) := h.imp fun v φ ⟨p, ys, e1, e2, e3⟩ => ⟨p, ys, e1, ⟨_, rfl, by rw [e2, List.map_map]; rfl⟩, e3⟩
theorem Ev.eqM {c : Ctx} {l : List (Hp → Prop)} {d : Nat} {te : TE} {σ : L2.St} {xs ys : List V} (e : xs = ys) (h : Ev c l d te σ (aM (· = xs))) : Ev c l d te σ (aM (· = ys)) := by
  rw [← e]
  exact h
theorem Ev.told {α : Type} {c : Ctx} {l : List (Hp → Prop)} {d : Nat} {te : TE} {σ : L2.St} {x : α} {g : α → List V} (h : Ev c l d te σ (aM fun ys => ∃ y, y = x ∧ ys = g y)) : Ev c l d te σ (aM (· = g x)) :=
  h.imp fun v φ ⟨p, ys, e1, ⟨y, e2, e3⟩, e4⟩ => ⟨p, ys, e1, by rw [e3, e2], e4⟩
/-- the type of a value stays -/
theorem tyx_box {K : PySem.W.Frag} {H : Hp} {v : V} {t : Value} (h : TyX K H v t) : Bx [] (fun H => TyX K H v t) H := fun H' e => by
  have e' : ∀ {a : Addr} {o : HO}, NT o → H a = some o → H' a = some o := fun t h => e _ _ (by simp) t h
  cases h with
  | base h => exact .base (by cases h with
      | non => exact .non
      | bl x => exact .bl x
      | int i => exact .int i
      | str x => exact .str x
      | flt x => exact .flt x
      | lst e => exact .lst (e' (by intro ps z; cases z) e)
      | frz e => exact .frz (e' (by intro ps z; cases z) e)
      | tup e => exact .tup (e' (by intro ps z; cases z) e)
      | dK e => exact .dK (e' (by intro ps z; cases z) e)
      | dT e => exact .dT (e' (by intro ps z; cases z) e)
      | ins e c h1 h2 h3 h4 => exact .ins (e' (by intro ps z; cases z) e) c h1 h2 h3 h4)
  | byt b => exact .byt b
  | set e => exact .set (e' (by intro ps z; cases z) e)
  | kList e c => exact .kList e c
  | kTuple e c => exact .kTuple e c
  | kDict e c => exact .kDict e c
  | fTuple e => exact .fTuple (e' (by intro ps z; cases z) e)
  | fDict e => exact .fDict (e' (by intro ps z; cases z) e)
/-- x.split('/') -/
theorem ev_parts {c : Ctx} {l : List (Hp → Prop)} {d1 d2 : Nat} {σ : L2.St} {to te : TE} {x : Str} (ho : Ev c l d1 to σ (aS (· = x))) (he : Ev c l d2 te σ (aS (· = "/"))) (hx : x.length ≤ 100000) :
    Ev c l (d1 + d2) (tM1 (fun x xs H Q => ∃ a b, x = .str a ∧ xs = [.str b] ∧ (b.length == 0) = false ∧ a.length + 2 ≤ sizeLine ∧ rNewStrs (Txt.split a b) H Q) to te) σ (aM (· = (parts x).map V.str)) :=
  (ev_split ho he (by decide +kernel) (fun y e => by rw [e]; exact hx)).imp fun v φ ⟨p, ys, e1, ⟨y, e2, e3⟩, e4⟩ => ⟨p, ys, e1, by rw [e3, e2]; rfl, e4⟩
end TA

set_option Elab.async false
set_option linter.all false
set_option maxRecDepth 100000
set_option maxHeartbeats 4000000
/-! TaMore: lists of whole numbers and of texts; lists in the making that are done -/
namespace TA
open PySem PySem.Spec PyProof.Rows L2

/-! rules told with K by name (within a comprehension the reading may not name the block) -/
theorem op_inK {X : Cx} {K : PySem.W.Frag} (e : X.K = K) : OpR X (compareOp .In) (rIn K false) := by
  subst e
  exact op_in_seq
theorem op_notInK {X : Cx} {K : PySem.W.Frag} (e : X.K = K) : OpR X (compareOp .NotIn) (rIn K true) := by
  subst e
  exact op_notIn_seq
theorem ix_listK {X : Cx} {K : PySem.W.Frag} (e : X.K = K) : IxR X (rIxL K) := by
  subst e
  exact ix_list
theorem ix_tupK {X : Cx} {K : PySem.W.Frag} (e : X.K = K) : IxR X (rIxT K) := by
  subst e
  exact ix_tup
theorem call_lenK {X : Cx} {K : PySem.W.Frag} (e : X.K = K) : CallR X (.builtin "len") (fun xs H Q => ∃ p ys, xs = [.ref p] ∧ (SqL K H p ys ∨ SqT K H p ys) ∧ Q (.int ys.length) H) := by
  subst e
  exact call_len_seq
/-- a list, a tuple that is read, kept -/
theorem sqL_mo {K : PySem.W.Frag} {H H' : Hp} {p : Addr} {xs : List V} {m : List Addr} (h : SqL K H p xs) (n : p ∉ m) (e : Mo m H H') : SqL K H' p xs :=
  h.elim (fun h => .inl (h.elim (fun h => .inl (e _ _ n nt_lst h)) fun ⟨o, h⟩ => .inr ⟨o, e _ _ n (by intro ps z; cases z) h⟩)) fun h => .inr h
theorem sqT_mo {K : PySem.W.Frag} {H H' : Hp} {p : Addr} {xs : List V} {m : List Addr} (h : SqT K H p xs) (n : p ∉ m) (e : Mo m H H') : SqT K H' p xs :=
  h.elim (fun h => .inl (h.elim (fun h => .inl (e _ _ n nt_tup h)) fun ⟨o, h⟩ => .inr ⟨o, e _ _ n (by intro ps z; cases z) h⟩)) fun h => .inr h
theorem sqL_box {K : PySem.W.Frag} {H : Hp} {p : Addr} {xs : List V} {m : List Addr} (h : SqL K H p xs) (n : p ∉ m) : Bx m (kL K p xs) H := fun H' e => sqL_mo h n e
theorem sqT_box {K : PySem.W.Frag} {H : Hp} {p : Addr} {xs : List V} {m : List Addr} (h : SqT K H p xs) (n : p ∉ m) : Bx m (kT K p xs) H := fun H' e => sqT_mo h n e
/-- what was there ahead is known -/
theorem Kn.start {m : List Addr} {H : Hp} : Kn m [Mo m H] H := Kn.nil.push fun _ e => e
theorem m0 {α : Type} {a : α} {l : List α} : a ∈ a :: l := .head _
theorem m1 {α : Type} {a b : α} {l : List α} : a ∈ b :: a :: l := .tail _ m0
theorem m2 {α : Type} {a b c : α} {l : List α} : a ∈ b :: c :: a :: l := .tail _ m1
theorem m3 {α : Type} {a b c d : α} {l : List α} : a ∈ b :: c :: d :: a :: l := .tail _ m2
theorem m4 {α : Type} {a b c d e : α} {l : List α} : a ∈ b :: c :: d :: e :: a :: l := .tail _ m3
theorem m5 {α : Type} {a b c d e f : α} {l : List α} : a ∈ b :: c :: d :: e :: f :: a :: l := .tail _ m4
theorem m6 {α : Type} {a b c d e f g : α} {l : List α} : a ∈ b :: c :: d :: e :: f :: g :: a :: l := .tail _ m5
theorem m7 {α : Type} {a b c d e f g h : α} {l : List α} : a ∈ b :: c :: d :: e :: f :: g :: h :: a :: l := .tail _ m6
theorem mem_mid {α : Type} {x g f : α} {lx l : List α} (h : x ∈ lx ++ l) : x ∈ f :: (lx ++ g :: l) := by
  rcases List.mem_append.mp h with h | h
  · exact .tail _ (List.mem_append_left _ h)
  · exact .tail _ (List.mem_append_right _ (.tail _ h))
theorem mem_mid0 {α : Type} {x g : α} {lx l : List α} (h : x ∈ lx ++ l) : x ∈ lx ++ g :: l := by
  rcases List.mem_append.mp h with h | h
  · exact List.mem_append_left _ h
  · exact List.mem_append_right _ (.tail _ h)
/-- natural numbers as values -/
def natV (ks : List Nat) : List V := ks.map fun (k : Nat) => V.int k
theorem natV_len {ks : List Nat} : (natV ks).length = ks.length := by
  unfold natV
  rw [List.length_map]
theorem natV_flat {ks : List Nat} : (natV ks).all flatV = true := by
  unfold natV
  rw [List.all_map, List.all_eq_true]
  intro x _
  rfl
theorem natV_in {k : Nat} {ks : List Nat} : inV (.int k) (natV ks) = decide (k ∈ ks) := by
  unfold natV inV
  rw [List.any_map, Bool.eq_iff_iff, decide_eq_true_iff, List.any_eq_true]
  constructor
  · rintro ⟨x, hx, h⟩
    have : (x : Int) = k := by simpa [eqV] using h
    have : x = k := by omega
    rw [← this]
    exact hx
  · intro h
    exact ⟨k, h, by simp [eqV]⟩
theorem natV_item {ks : List Nat} {i : Nat} {v : V} (h : (natV ks)[i]? = some v) : ∃ k : Nat, ks[i]? = some k ∧ v = .int k := by
  unfold natV at h
  rw [List.getElem?_map] at h
  cases e : ks[i]? with
  | none => rw [e] at h; cases h
  | some y => rw [e] at h; exact ⟨y, rfl, (Option.some.inj h).symm⟩
theorem natV_app {ks : List Nat} {k : Nat} : natV ks ++ [V.int k] = natV (ks ++ [k]) := by
  unfold natV
  rw [List.map_append]
  rfl
theorem strV_flat {ss : List Str} : (ss.map V.str).all flatV = true := by
  rw [List.all_map, List.all_eq_true]
  intro x _
  rfl
theorem strV_in {x : Str} {ss : List Str} : inV (.str x) (ss.map V.str) = decide (x ∈ ss) := by
  unfold inV
  rw [List.any_map, Bool.eq_iff_iff, decide_eq_true_iff, List.any_eq_true]
  constructor
  · rintro ⟨y, hy, h⟩
    have : y = x := by simpa [eqV] using h
    rw [← this]
    exact hy
  · intro h
    exact ⟨x, h, by simp [eqV]⟩
theorem strV_item {ss : List Str} {i : Nat} {v : V} (h : (ss.map V.str)[i]? = some v) : ∃ y, ss[i]? = some y ∧ v = .str y := by
  rw [List.getElem?_map] at h
  cases e : ss[i]? with
  | none => rw [e] at h; cases h
  | some y => rw [e] at h; exact ⟨y, rfl, (Option.some.inj h).symm⟩
/-- sorted numbers are natural where the numbers are -/
theorem nat_perm {ns : List Int} {ks : List Nat} (h : ns.Perm (ks.map fun (k : Nat) => (k : Int))) : ∃ ks' : List Nat, ks'.Perm ks ∧ ns = ks'.map fun (k : Nat) => (k : Int) := by
  refine ⟨ns.map Int.toNat, ?_, ?_⟩
  · have q := h.map Int.toNat
    rw [List.map_map] at q
    have e : (Int.toNat ∘ fun (k : Nat) => (k : Int)) = id := by
      funext k
      exact Int.toNat_natCast k
    rw [e, List.map_id] at q
    exact q
  · rw [List.map_map]
    have : ∀ x ∈ ns, ((fun (k : Nat) => (k : Int)) ∘ Int.toNat) x = x := by
      intro x hx
      obtain ⟨k, _, rfl⟩ := List.mem_map.mp (h.mem_iff.mp hx)
      show ((Int.toNat (k : Int) : Nat) : Int) = k
      rw [Int.toNat_natCast]
    calc ns = ns.map id := (List.map_id _).symm
      _ = _ := List.map_congr_left fun x hx => (this x hx).symm
theorem natV_int {ks : List Nat} : natV ks = (ks.map fun (k : Nat) => (k : Int)).map V.int := by
  unfold natV
  rw [List.map_map]
  rfl
section
variable {c : TA.Ctx} {l : List (Hp → Prop)} {d d1 d2 n : Nat} {σ : L2.St} {H : Hp} {ta tb te to : TE} {K : PySem.W.Frag} {A : List V → Prop}
/-- a list in the making is done -/
theorem Ctx.J.froze {st : Sd} {S : List (Addr × HO)} {p : Addr} {o : HO} (j : (TA.Ctx.mk st ((p, o) :: S)).J n H) (k : Kn (p :: (TA.Ctx.mk st S).m) l H) (t : NT o := by intro ps z; cases z) : Kn (TA.Ctx.mk st S).m ((fun H => H p = some o) :: l) H :=
  Kn.push (k.less fun a h => List.mem_cons_of_mem _ h) (j.done t)
/-- x = list(..) -/
theorem own_list {tt : L2.TA} {Q : VK} (h : EvA c l d tt σ [aL K A]) (k : Kn c.m l H) (j : c.J (n + d) H)
    (q : ∀ (xs : List V) (p : Addr) (H' : Hp), A xs → Mo c.m H H' → c.J n H' → H' p = none → Q (.ref p) (upd H' p (.lst xs))) :
    tCB (fun xs H Q => ∃ p ys, xs = [.ref p] ∧ (SqL K H p ys ∨ SqT K H p ys) ∧ ∀ l, H l = none → Q (.ref l) (upd H l (.lst ys))) tt σ H Q :=
  h n H k j _ fun vs H' e j' a => by
    obtain ⟨v, r, φ, rfl, ⟨p, xs, rfl, ha, rfl⟩, b, a⟩ := a
    cases (show r = [] from a)
    exact ⟨p, xs, rfl, .inl b.now, fun r hr => q xs r H' ha e j' hr⟩
theorem Ev.strs {ss : List Str} (h : Ev c l d te σ (aM (· = ss.map V.str))) : Ev c l d te σ (aL K (· = ss.map V.str)) := Ev.toL h
/-- known as the list that is read -/
theorem ev_varF {i : Nat} {p : Addr} {xs : List V} (h : σ[i]? = some (some (.ref p))) (hm : (fun H => H p = some (.lst xs)) ∈ l) : Ev c l 0 (tVar i) σ (aM (· = xs)) := ev_varM h hm
theorem cl_sortedN {ks : List Nat} : Cl c l 0 [aL K (· = natV ks)] (rSortedI K) (aM fun ys => ∃ ks' : List Nat, ks'.Perm ks ∧ ys = natV ks') := fun vs n H k j a Q q => by
  obtain ⟨v, r, φ, rfl, ⟨p, xs, rfl, rfl, rfl⟩, b, a⟩ := a
  cases (show r = [] from a)
  refine ⟨p, ks.map fun (k : Nat) => (k : Int), rfl, by rw [← natV_int]; exact b.now, fun ns' r hp hs hr => ?_⟩
  obtain ⟨ks', h1, rfl⟩ := nat_perm hp
  exact q _ (kM r _) _ (Mo.new hr) (j.ext (Ko.new hr)) ⟨r, _, rfl, ⟨ks', h1, natV_int.symm⟩, rfl⟩ (Bx.at (j.new hr) upd_same)
/-! ### told values -/
theorem op_tI {i j : Int} {g : Int → Int → Int} : Op2 c l (anI (· = i)) (anI (· = j)) (rI0 fun i j => .int (g i j)) (anI (· = g i j)) := fun x y φ ψ n H k j p1 p2 b1 b2 Q q =>
  op_II x y φ ψ n H k j p1 p2 b1 b2 Q fun v χ H' e j' ⟨h, k, ⟨i, j, e1, e2, e3⟩, e4⟩ b => q v χ H' e j' ⟨h, k, by rw [e3, e1, e2], e4⟩ b
theorem op_tIB {i j : Int} {g : Int → Int → Bool} : Op2 c l (anI (· = i)) (anI (· = j)) (rI0 fun i j => .bl (g i j)) (aB (· = g i j)) := fun x y φ ψ n H k j p1 p2 b1 b2 Q q =>
  op_IB x y φ ψ n H k j p1 p2 b1 b2 Q fun v χ H' e j' ⟨h, k, ⟨i, j, e1, e2, e3⟩, e4⟩ b => q v χ H' e j' ⟨h, k, by rw [e3, e1, e2], e4⟩ b
theorem op_teqS {i j : Str} : Op2 c l (aS (· = i)) (aS (· = j)) rEq (aB (· = decide (i = j))) := fun x y φ ψ n H k j p1 p2 b1 b2 Q q =>
  op_eqS x y φ ψ n H k j p1 p2 b1 b2 Q fun v χ H' e j' ⟨h, k, ⟨i, j, e1, e2, e3⟩, e4⟩ b => q v χ H' e j' ⟨h, k, by rw [e3, e1, e2], e4⟩ b
theorem op_teqI {i j : Int} : Op2 c l (anI (· = i)) (anI (· = j)) rEq (aB (· = decide (i = j))) := fun x y φ ψ n H k j p1 p2 b1 b2 Q q =>
  op_eqI x y φ ψ n H k j p1 p2 b1 b2 Q fun v χ H' e j' ⟨h, k, ⟨i, j, e1, e2, e3⟩, e4⟩ b => q v χ H' e j' ⟨h, k, by rw [e3, e1, e2], e4⟩ b
theorem op_inTS {x : Str} {ss : List Str} : Op2 c l (aV (· = .str x)) (aT K (· = ss.map V.str)) (rIn K false) (aB (· = decide (x ∈ ss))) := fun x y φ ψ n H k j p1 p2 b1 b2 Q q =>
  op_inT (fun v e => by rw [e]; rfl) (fun xs e => by rw [e]; exact strV_flat) x y φ ψ n H k j p1 p2 b1 b2 Q fun v χ H' e j' ⟨h, k, ⟨i, j, e1, e2, e3⟩, e4⟩ b => q v χ H' e j' ⟨h, k, by rw [e3, e1, e2, if_neg (by decide), strV_in], e4⟩ b
theorem op_inLS {x : Str} {ss : List Str} : Op2 c l (aV (· = .str x)) (aL K (· = ss.map V.str)) (rIn K false) (aB (· = decide (x ∈ ss))) := fun x y φ ψ n H k j p1 p2 b1 b2 Q q =>
  op_inL (fun v e => by rw [e]; rfl) (fun xs e => by rw [e]; exact strV_flat) x y φ ψ n H k j p1 p2 b1 b2 Q fun v χ H' e j' ⟨h, k, ⟨i, j, e1, e2, e3⟩, e4⟩ b => q v χ H' e j' ⟨h, k, by rw [e3, e1, e2, if_neg (by decide), strV_in], e4⟩ b
theorem op_niLS {x : Str} {ss : List Str} : Op2 c l (aV (· = .str x)) (aL K (· = ss.map V.str)) (rIn K true) (aB (· = !decide (x ∈ ss))) := fun x y φ ψ n H k j p1 p2 b1 b2 Q q =>
  op_inL (fun v e => by rw [e]; rfl) (fun xs e => by rw [e]; exact strV_flat) x y φ ψ n H k j p1 p2 b1 b2 Q fun v χ H' e j' ⟨h, k, ⟨i, j, e1, e2, e3⟩, e4⟩ b => q v χ H' e j' ⟨h, k, by rw [e3, e1, e2, if_pos (by decide), strV_in], e4⟩ b
theorem op_inTN {x : Nat} {ss : List Nat} : Op2 c l (aV (· = .int x)) (aT K (· = natV ss)) (rIn K false) (aB (· = decide (x ∈ ss))) := fun x y φ ψ n H k j p1 p2 b1 b2 Q q =>
  op_inT (fun v e => by rw [e]; rfl) (fun xs e => by rw [e]; exact natV_flat) x y φ ψ n H k j p1 p2 b1 b2 Q fun v χ H' e j' ⟨h, k, ⟨i, j, e1, e2, e3⟩, e4⟩ b => q v χ H' e j' ⟨h, k, by rw [e3, e1, e2, if_neg (by decide), natV_in], e4⟩ b
theorem op_inLN {x : Nat} {ss : List Nat} : Op2 c l (aV (· = .int x)) (aL K (· = natV ss)) (rIn K false) (aB (· = decide (x ∈ ss))) := fun x y φ ψ n H k j p1 p2 b1 b2 Q q =>
  op_inL (fun v e => by rw [e]; rfl) (fun xs e => by rw [e]; exact natV_flat) x y φ ψ n H k j p1 p2 b1 b2 Q fun v χ H' e j' ⟨h, k, ⟨i, j, e1, e2, e3⟩, e4⟩ b => q v χ H' e j' ⟨h, k, by rw [e3, e1, e2, if_neg (by decide), natV_in], e4⟩ b
theorem op_inON {st : Sd} {S : List (Addr × HO)} {p : Addr} {x : Nat} {ss : List Nat} :
    Op2 ⟨st, (p, .lst (natV ss)) :: S⟩ l (aV (· = .int x)) (is (.ref p)) (rIn K false) (aB (· = decide (x ∈ ss))) := fun x y φ ψ n H k j p1 p2 b1 b2 Q q =>
  op_inO (fun v e => by rw [e]; rfl) natV_flat x y φ ψ n H k j p1 p2 b1 b2 Q fun v χ H' e j' ⟨h, k, ⟨i, e1, e3⟩, e4⟩ b => q v χ H' e j' ⟨h, k, by rw [e3, e1, if_neg (by decide), natV_in], e4⟩ b
theorem op_niON {st : Sd} {S : List (Addr × HO)} {p : Addr} {x : Nat} {ss : List Nat} :
    Op2 ⟨st, (p, .lst (natV ss)) :: S⟩ l (aV (· = .int x)) (is (.ref p)) (rIn K true) (aB (· = !decide (x ∈ ss))) := fun x y φ ψ n H k j p1 p2 b1 b2 Q q =>
  op_inO (fun v e => by rw [e]; rfl) natV_flat x y φ ψ n H k j p1 p2 b1 b2 Q fun v χ H' e j' ⟨h, k, ⟨i, e1, e3⟩, e4⟩ b => q v χ H' e j' ⟨h, k, by rw [e3, e1, if_pos (by decide), natV_in], e4⟩ b
theorem op_inOS {st : Sd} {S : List (Addr × HO)} {p : Addr} {x : Str} {ss : List Str} :
    Op2 ⟨st, (p, .lst (ss.map V.str)) :: S⟩ l (aV (· = .str x)) (is (.ref p)) (rIn K false) (aB (· = decide (x ∈ ss))) := fun x y φ ψ n H k j p1 p2 b1 b2 Q q =>
  op_inO (fun v e => by rw [e]; rfl) strV_flat x y φ ψ n H k j p1 p2 b1 b2 Q fun v χ H' e j' ⟨h, k, ⟨i, e1, e3⟩, e4⟩ b => q v χ H' e j' ⟨h, k, by rw [e3, e1, if_neg (by decide), strV_in], e4⟩ b
theorem cl_tlenL {xs : List V} : Cl c l 0 [aL K (· = xs)] (fun xs H Q => ∃ p ys, xs = [.ref p] ∧ (SqL K H p ys ∨ SqT K H p ys) ∧ Q (.int ys.length) H) (anI (· = (xs.length : Int))) := fun vs n H k j a Q q =>
  cl_lenL vs n H k j a Q fun v χ H' e j' ⟨h, k, ⟨i, e1, e3⟩, e4⟩ b => q v χ H' e j' ⟨h, k, by rw [e3, e1], e4⟩ b
theorem op_tixL {xs : List V} {i : Int} {v : V} (h : atI xs i = some v) : Op2 c l (aL K (· = xs)) (anI (· = i)) (rIxL K) (aV (· = v)) := fun x y φ ψ n H k j p1 p2 b1 b2 Q q =>
  op_ixL (fun xs' i' e1 e2 => ⟨v, by rw [e1, e2]; exact h⟩) x y φ ψ n H k j p1 p2 b1 b2 Q fun u χ H' e j' ⟨h1, xs', i', e1, e2, e3⟩ b => q u χ H' e j' ⟨h1, by
    rw [e1, e2, h] at e3
    exact (Option.some.inj e3).symm⟩ b
theorem atI_at {α : Type} {xs : List α} {i : Nat} : atI xs (i : Int) = xs[i]? := by
  unfold atI ixN
  by_cases h : i < xs.length
  · rw [if_pos (by omega), if_pos (by omega)]
    simp
  · rw [if_pos (by omega), if_neg (by omega)]
    simp
    omega
theorem Ev.asV {x : V} (h : Ev c l d te σ (is x)) : Ev c l d te σ (TA.aV (· = x)) := h.imp fun v φ p => ⟨p.2, p.1⟩
theorem Ev.vN {i : Int} (h : Ev c l d te σ (anI (· = i))) : Ev c l d te σ (TA.aV (· = .int i)) := h.imp fun v φ ⟨e, k, e1, e2⟩ => ⟨e, by rw [e2, e1]⟩
theorem Ev.vT {i : Str} (h : Ev c l d te σ (aS (· = i))) : Ev c l d te σ (TA.aV (· = .str i)) := h.imp fun v φ ⟨e, k, e1, e2⟩ => ⟨e, by rw [e2, e1]⟩
theorem Ev.isV {x : V} (h : Ev c l d te σ (TA.aV (· = x))) : Ev c l d te σ (is x) := h.imp fun v φ p => ⟨p.2, p.1⟩
theorem Ev.toN {i : Int} (h : Ev c l d te σ (is (.int i))) : Ev c l d te σ (anI (· = i)) := h.imp fun v φ p => ⟨p.2, i, rfl, p.1⟩
theorem Ev.toT {i : Str} (h : Ev c l d te σ (is (.str i))) : Ev c l d te σ (aS (· = i)) := h.imp fun v φ p => ⟨p.2, i, rfl, p.1⟩
theorem Ev.isI {i : Int} (h : Ev c l d te σ (anI (· = i))) : Ev c l d te σ (is (.int i)) := h.imp fun v φ ⟨e, k, e1, e2⟩ => ⟨by rw [e2, e1], e⟩
/-- a told truth -/
theorem EvT.holds {t : TT} {b : Bool} {A : Bool → Prop} (h : EvT c l d t σ (· = b)) (e : A b) : EvT c l d t σ A := h.imp fun _ q => by rw [q]; exact e
/-- p and q, both told -/
theorem et_tand {t u : TT} {a b : Bool} (h1 : EvT c l d1 t σ (· = a)) (h2 : a = true → EvT c l d2 u σ (· = b)) : EvT c l (d1 + d2) (tAnd t u) σ (· = (a && b)) :=
  (et_and h1 fun h => h2 h.symm).imp fun r h => by
    rcases h with ⟨h, h'⟩ | ⟨h, h'⟩
    · rw [h, ← h']
      rfl
    · rw [h', ← h]
      rfl
theorem et_tor {t u : TT} {a b : Bool} (h1 : EvT c l d1 t σ (· = a)) (h2 : a = false → EvT c l d2 u σ (· = b)) : EvT c l (d1 + d2) (tOr t u) σ (· = (a || b)) :=
  (et_or h1 fun h => h2 h.symm).imp fun r h => by
    rcases h with ⟨h, h'⟩ | ⟨h, h'⟩
    · rw [h, ← h']
      rfl
    · rw [h', ← h]
      rfl
theorem et_tnot {t : TT} {a : Bool} (h : EvT c l d t σ (· = a)) : EvT c l d (tNot t) σ (· = !a) := (et_not h).imp fun r h => by rw [← h, Bool.not_not]
/-- x if t else y, all told -/
theorem ev_tif {t : TT} {a : Bool} {x y : V} (h : EvT c l d1 t σ (· = a)) (h1 : a = true → Ev c l d2 ta σ (aV (· = x))) (h2 : a = false → Ev c l d2 tb σ (aV (· = y))) : Ev c l (d1 + d2) (tIf t ta tb) σ (aV (· = if a then x else y)) :=
  (ev_if h (fun h => h1 h.symm) fun h => h2 h.symm).imp fun v φ h => by
    rcases h with ⟨h, h'⟩ | ⟨h, h'⟩
    · rw [← h]
      exact h'
    · rw [← h]
      exact h'
end
end TA

set_option Elab.async false
set_option linter.all false
set_option maxRecDepth 100000
set_option maxHeartbeats 4000000
/-! TaSpec: promises of defs that change nothing that was there (spF), or the stream alone (spS), told by TaRead's words -/
namespace TA
open PySem PySem.Spec PyProof.Rows L2

section
variable {c : TA.Ctx} {l : List (Hp → Prop)} {n d : Nat} {H H' : Hp}
theorem m_none {S0 : List (Addr × HO)} : (TA.Ctx.mk sd0 S0).m = S0.map (·.1) := List.append_nil _
theorem m_strm {a b : Addr} {S0 : List (Addr × HO)} : (TA.Ctx.mk (sdS a b) S0).m = S0.map (·.1) ++ [a, b] := rfl
/-- nothing has changed: m is as it was -/
theorem Mo.pure {S0 : List (Addr × HO)} (e : Mo (TA.Ctx.mk sd0 S0).m H H') (j : ∀ q ∈ S0, H q.1 = some q.2) (j' : ∀ q ∈ S0, H' q.1 = some q.2) : Mo [] H H' := fun a o _ t h => by
  rw [m_none] at e
  by_cases hm : a ∈ S0.map (·.1)
  · obtain ⟨q, hq, rfl⟩ := List.mem_map.mp hm
    have e1 := j q hq
    rw [h] at e1
    rw [Option.some.inj e1]
    exact j' q hq
  · exact e a o hm t h
/-- .. but the stream -/
theorem Mo.strm {a b : Addr} {S0 : List (Addr × HO)} (e : Mo (TA.Ctx.mk (sdS a b) S0).m H H') (j : ∀ q ∈ S0, H q.1 = some q.2) (j' : ∀ q ∈ S0, H' q.1 = some q.2) : Mo [a, b] H H' := fun x o hx t h => by
  rw [m_strm] at e
  by_cases hm : x ∈ S0.map (·.1)
  · obtain ⟨q, hq, rfl⟩ := List.mem_map.mp hm
    have e1 := j q hq
    rw [h] at e1
    rw [Option.some.inj e1]
    exact j' q hq
  · exact e x o (fun z => (List.mem_append.mp z).elim hm hx) t h
theorem objs (m : List Addr) (h : ∀ a ∈ m, ∃ o, H a = some o) : ∃ S0 : List (Addr × HO), S0.map (·.1) = m ∧ ∀ q ∈ S0, H q.1 = some q.2 := by
  induction m with
  | nil => exact ⟨[], rfl, fun q h => by cases h⟩
  | cons a m ih =>
    obtain ⟨o, ho⟩ := h a (List.mem_cons_self ..)
    obtain ⟨S0, h1, h2⟩ := ih fun b hb => h b (List.mem_cons_of_mem _ hb)
    refine ⟨(a, o) :: S0, by rw [List.map_cons, h1], fun q hq => ?_⟩
    rcases List.mem_cons.mp hq with rfl | hq
    · exact ho
    · exact h2 q hq
/-- an object that is told is as it was -/
theorem same_at {S0 : List (Addr × HO)} (j : ∀ q ∈ S0, H q.1 = some q.2) (j' : ∀ q ∈ S0, H' q.1 = some q.2) {a : Addr} (h : a ∈ S0.map (·.1)) : H' a = H a := by
  obtain ⟨q, hq, rfl⟩ := List.mem_map.mp h
  rw [j q hq, j' q hq]
/-- all that may change, as objects -/
theorem Ctx.J.all (j : c.J n H) : ∃ S0 : List (Addr × HO), S0.map (·.1) = c.m ∧ (TA.Ctx.mk sd0 S0).J 0 H := by
  obtain ⟨S0, h1, h2⟩ := objs c.m fun a h => j.there h
  refine ⟨S0, h1, (fun _ h => nomatch h), h2, ?_, tabs0⟩
  rw [m_none, h1]
  exact j.nd
theorem Ctx.J.back {S0 : List (Addr × HO)} (j : c.J n H) (h1 : S0.map (·.1) = c.m) (h2 : ∀ q ∈ S0, H q.1 = some q.2) (h3 : ∀ q ∈ S0, H' q.1 = some q.2) (e : Mo [] H H') : c.J n H' := by
  have sm : ∀ a, a ∈ c.m → H' a = H a := fun a h => same_at h2 h3 (by rw [h1]; exact h)
  refine ⟨fun ab q => ?_, fun q hq => ?_, j.nd, tabs_at j.tab (fun p hp ps h => ?_) fun c q h => e _ _ (by simp) code_nt h⟩
  · have s := Ctx.sub (c := c) q
    exact (j.str ab q).at (fun xs h => by rw [sm _ (s _ (by simp))]; exact h) fun xs h => by rw [sm _ (s _ (by simp))]; exact h
  · rw [sm _ (List.mem_append_left _ (List.mem_map.mpr ⟨q, hq, rfl⟩))]
    exact j.own q hq
  · rw [sm _ (List.mem_append_right _ (Sd.mem_t hp))]
    exact h
/-- a def that changes nothing -/
def spF {α : Type} (ok : α → Prop) (Ps : α → List Po) (P : α → Po) : Sp := fun vs H Q _ => ∃ (x : α) (S0 : List (Addr × HO)), ok x ∧ (TA.Ctx.mk sd0 S0).J 0 H ∧ TA.Args (TA.Ctx.mk sd0 S0).m (Ps x) vs H ∧
  ∀ v φ H', Mo [] H H' → (∀ q ∈ S0, H' q.1 = some q.2) → P x v φ → Bx (TA.Ctx.mk sd0 S0).m φ H' → Q v H'
theorem cl_spF {α : Type} {ok : α → Prop} {Ps : α → List Po} {P : α → Po} {E : XK} (x : α) (hx : ok x) : Cl c l 0 (Ps x) (fun vs H Q => spF ok Ps P vs H Q E) (P x) := fun vs n H k j a Q q => by
  obtain ⟨S0, h1, h2⟩ := j.all
  refine ⟨x, S0, hx, h2, by rw [m_none, h1]; exact a, fun v φ H' e o p b => q v φ H' e.of (j.back h1 h2.own o e) p (by rw [m_none, h1] at b; exact b)⟩
theorem spF_len {α : Type} {ok : α → Prop} {Ps : α → List Po} {P : α → Po} {k : Nat} {vs : List V} {H : Hp} {Q : VK} {E : XK} (h : spF ok Ps P vs H Q E) (hk : ∀ x, (Ps x).length = k) : vs.length = k := by
  obtain ⟨x, S0, _, _, a, _⟩ := h
  rw [a.length, hk]
/-- .. at its end -/
theorem fin_F {S0 : List (Addr × HO)} {Q : VK} {P : Po} (fin : ∀ v φ H', Mo [] H H' → (∀ q ∈ S0, H' q.1 = some q.2) → P v φ → Bx (TA.Ctx.mk sd0 S0).m φ H' → Q v H') (j : (TA.Ctx.mk sd0 S0).J d H) {v : V} {φ : Hp → Prop} {H3 : Hp} (p : P v φ)
    (k3 : Kn (TA.Ctx.mk sd0 S0).m (φ :: l) H3) (h : Mo (TA.Ctx.mk sd0 S0).m H ∈ l) (j3 : (TA.Ctx.mk sd0 S0).J n H3) : Q v H3 :=
  fin v φ H3 (Mo.pure (k3.get (List.mem_cons_of_mem _ h)) j.own j3.own) j3.own p (k3.box (List.mem_cons_self ..))
/-- a def that draws up to d x numbers of the stream that it is handed first -/
def spS {α : Type} (ok : α → Prop) (d : α → Nat) (Ps : α → List Po) (P : α → Po) : Sp := fun vs H Q _ => ∃ (x : α) (a b : Addr) (S0 : List (Addr × HO)) (n : Nat) (ws : List V), ok x ∧ (TA.Ctx.mk (sdS a b) S0).J (n + d x) H ∧ vs = .ref a :: ws ∧
  TA.Args (TA.Ctx.mk (sdS a b) S0).m (Ps x) ws H ∧ ∀ v φ H', Mo [a, b] H H' → (∀ q ∈ S0, H' q.1 = some q.2) → Strm a b n H' → P x v φ → Bx (TA.Ctx.mk (sdS a b) S0).m φ H' → Q v H'
theorem cl_spS {α : Type} {ok : α → Prop} {dd : α → Nat} {Ps : α → List Po} {P : α → Po} {E : XK} {a b : Addr} {tb : List (Addr × Str)} {S : List (Addr × HO)} (x : α) (hx : ok x) :
    Cl ⟨⟨some (a, b), tb⟩, S⟩ l (dd x) (is (.ref a) :: Ps x) (fun vs H Q => spS ok dd Ps P vs H Q E) (P x) := fun vs n H k j ar Q q => by
  obtain ⟨v, r, φ, rfl, ⟨rfl, _⟩, _, ar⟩ := ar
  have tht : ∀ t ∈ tb.map (fun p : Addr × Str => p.1), ∃ o, H t = some o := fun t ht => by
    obtain ⟨p, hp, rfl⟩ := List.mem_map.mp ht
    obtain ⟨ps, e, _⟩ := j.tab p hp
    exact ⟨_, e⟩
  obtain ⟨S1, h1, h2⟩ := objs (tb.map (fun p : Addr × Str => p.1)) tht
  have mm : (TA.Ctx.mk ⟨some (a, b), tb⟩ S).m = S.map (·.1) ++ ([a, b] ++ tb.map (·.1)) := rfl
  have mn : (TA.Ctx.mk (sdS a b) (S ++ S1)).m = (S.map (·.1) ++ tb.map (·.1)) ++ [a, b] := by
    rw [m_strm, List.map_append, h1]
  have pm : (TA.Ctx.mk (sdS a b) (S ++ S1)).m.Perm (TA.Ctx.mk ⟨some (a, b), tb⟩ S).m := by
    rw [mm, mn, List.append_assoc]
    exact List.Perm.append_left _ List.perm_append_comm
  have own : ∀ q ∈ S ++ S1, H q.1 = some q.2 := fun q hq => (List.mem_append.mp hq).elim (j.own q) (h2 q)
  have less : ∀ x, x ∈ (TA.Ctx.mk (sdS a b) (S ++ S1)).m → x ∈ (TA.Ctx.mk ⟨some (a, b), tb⟩ S).m := fun x h => pm.mem_iff.mp h
  have more : ∀ x, x ∈ (TA.Ctx.mk ⟨some (a, b), tb⟩ S).m → x ∈ (TA.Ctx.mk (sdS a b) (S ++ S1)).m := fun x h => pm.mem_iff.mpr h
  have argsL : ∀ {Ps : List Po} {vs : List V}, TA.Args (TA.Ctx.mk ⟨some (a, b), tb⟩ S).m Ps vs H → TA.Args (TA.Ctx.mk (sdS a b) (S ++ S1)).m Ps vs H := by
    intro Ps
    induction Ps with
    | nil => exact fun h => h
    | cons P Ps ih =>
      rintro vs ⟨v, r, φ, e1, p, b, ar⟩
      exact ⟨v, r, φ, e1, p, b.less less, ih ar⟩
  refine ⟨x, a, b, S ++ S1, n, r, hx, ⟨fun ab e => ?_, own, pm.nodup_iff.mpr j.nd, tabs0⟩, rfl, argsL ar, fun v φ H' e o s p b' => ?_⟩
  · obtain rfl := Option.some.inj (show some (a, b) = some ab from e)
    exact j.str (a, b) rfl
  · refine q v φ H' (e.weak (TA.Ctx.sub (ab := (a, b)) rfl)) ⟨fun ab e => ?_, fun q hq => o q (List.mem_append_left _ hq), j.nd, tabs_at j.tab (fun t ht ps h => ?_) fun c q h => e _ _ (fun z => ?_) code_nt h⟩ p (b'.less more)
    · obtain rfl := Option.some.inj (show some (a, b) = some ab from e)
      exact s
    · rw [same_at h2 (fun q hq => o q (List.mem_append_right _ hq)) (by rw [h1]; exact List.mem_map.mpr ⟨t, ht, rfl⟩)]
      exact h
    · obtain ⟨cur, cnt, mix, xs, e1, e2, _⟩ := j.str (a, b) rfl
      rcases List.mem_cons.mp z with rfl | z
      · rw [e1] at h
        exact code_lst (Option.some.inj h).symm
      · obtain rfl := List.mem_singleton.mp z
        rw [e2] at h
        exact code_lst (Option.some.inj h).symm
theorem spS_len {α : Type} {ok : α → Prop} {dd : α → Nat} {Ps : α → List Po} {P : α → Po} {k : Nat} {vs : List V} {H : Hp} {Q : VK} {E : XK} (h : spS ok dd Ps P vs H Q E) (hk : ∀ x, (Ps x).length + 1 = k) : vs.length = k := by
  obtain ⟨x, a, b, S0, n, ws, _, _, rfl, ar, _⟩ := h
  rw [List.length_cons, ar.length, hk]
theorem fin_S {a b : Addr} {S0 : List (Addr × HO)} {Q : VK} {P : Po} (fin : ∀ v φ H', Mo [a, b] H H' → (∀ q ∈ S0, H' q.1 = some q.2) → Strm a b n H' → P v φ → Bx (TA.Ctx.mk (sdS a b) S0).m φ H' → Q v H') (j : (TA.Ctx.mk (sdS a b) S0).J d H) {v : V} {φ : Hp → Prop} {H3 : Hp} (p : P v φ)
    (k3 : Kn (TA.Ctx.mk (sdS a b) S0).m (φ :: l) H3) (h : Mo (TA.Ctx.mk (sdS a b) S0).m H ∈ l) (j3 : (TA.Ctx.mk (sdS a b) S0).J n H3) : Q v H3 :=
  fin v φ H3 (Mo.strm (k3.get (List.mem_cons_of_mem _ h)) j.own j3.own) j3.own (j3.str _ rfl) p (k3.box (List.mem_cons_self ..))
end
end TA

set_option Elab.async false
set_option linter.all false
set_option maxRecDepth 100000
set_option maxHeartbeats 4000000
/-! TaDraw: the stream opened: its two lists as lists in the making -/
namespace TA
open PySem PySem.Spec PyProof.Rows L2

abbrev stL (b : Addr) (cur cnt mix : Int) : HO := .lst [.ref b, .int cur, .int cnt, .int mix]
section
variable {c : TA.Ctx} {l : List (Hp → Prop)} {n d : Nat} {H H' : Hp} {σ : L2.St} {st : Sd} {S : List (Addr × HO)} {p : Addr} {xs : List V} {K : PySem.W.Frag} {D : Ends} {te to ti : TE} {P : Po} {tz : TS}
/-- xs[k] of the youngest list in the making -/
theorem ev_ixO {i : Nat} {k : Int} {v : V} (h : σ[i]? = some (some (.ref p))) (hv : atI xs k = some v) : Ev ⟨st, (p, .lst xs) :: S⟩ l 0 (tOp (rIxL K) (tVar i) (tC (.int k))) σ (aV (· = v)) := fun n H kn j Q q =>
  ⟨.ref p, h, p, xs, k, v, rfl, rfl, SqL.of (j.own _ (List.mem_cons_self ..)), hv, q v T0 H Mo.refl j ⟨rfl, rfl⟩ kn0⟩
/-- xs[k] = e, xs the youngest list in the making -/
theorem s_set {i : Nat} {k : Int} {m : Nat} (h : Ev ⟨st, (p, .lst xs) :: S⟩ l d te σ P) (hi : σ[i]? = some (some (.ref p))) (hk : ixN xs.length k = some m) (kn : Kn (p :: (TA.Ctx.mk st S).m) l H) (j : TA.Ctx.J ⟨st, (p, .lst xs) :: S⟩ (n + d) H)
    (q : ∀ v φ H', P v φ → Kn (p :: (TA.Ctx.mk st S).m) (φ :: l) H' → TA.Ctx.J ⟨st, (p, .lst (xs.set m v)) :: S⟩ n H' → D.nx σ H') : tAsg te (gSub (tVar i) (tC (.int k)) rSetL) D σ H :=
  h n H kn j _ fun v φ H1 e1 j1 p1 b1 => by
    have o1 := j1.own (p, .lst xs) (List.mem_cons_self ..)
    refine ⟨.ref p, hi, p, xs, k, m, rfl, rfl, o1, hk, ?_⟩
    have e2 : Mo (p :: (TA.Ctx.mk st S).m) H1 (upd H1 p (.lst (xs.set m v))) := Mo.set (List.mem_cons_self ..)
    exact q v φ _ p1 ((Kn.mo kn (Mo.trans e1 e2)).push (Bx.mo b1 e2)) j1.put
theorem q_set {i : Nat} {k : Int} {m : Nat} (h : Ev ⟨st, (p, .lst xs) :: S⟩ l d te σ P) (hi : σ[i]? = some (some (.ref p))) (hk : ixN xs.length k = some m) (kn : Kn (p :: (TA.Ctx.mk st S).m) l H) (j : TA.Ctx.J ⟨st, (p, .lst xs) :: S⟩ (n + d) H)
    (q : ∀ v φ H', P v φ → Kn (p :: (TA.Ctx.mk st S).m) (φ :: l) H' → TA.Ctx.J ⟨st, (p, .lst (xs.set m v)) :: S⟩ n H' → tz D σ H') : tSeq (tAsg te (gSub (tVar i) (tC (.int k)) rSetL)) tz D σ H :=
  s_set (D := { D with nx := tz D }) h hi hk kn j q
theorem Ctx.J.swap {x y : Addr × HO} (j : TA.Ctx.J ⟨st, x :: y :: S⟩ n H) : TA.Ctx.J ⟨st, y :: x :: S⟩ n H := by
  refine ⟨j.str, fun q hq => j.own q ?_, ?_, j.tab⟩
  · rcases List.mem_cons.mp hq with rfl | hq
    · exact .tail _ (.head _)
    · rcases List.mem_cons.mp hq with rfl | hq
      · exact .head _
      · exact .tail _ (.tail _ hq)
  · have h : (x.1 :: y.1 :: (TA.Ctx.mk st S).m).Nodup := j.nd
    show (y.1 :: x.1 :: (TA.Ctx.mk st S).m).Nodup
    exact (List.Perm.swap ..).nodup_iff.mpr h
theorem strm_open {a b : Addr} {S0 : List (Addr × HO)} (j : TA.Ctx.J ⟨sdS a b, S0⟩ (n + 1) H) : ∃ (cur cnt mix : Int) (xs : List Int), 0 ≤ cur ∧ 0 ≤ cnt ∧ cnt + (n : Int) + 1 ≤ mostDraws ∧ 0 ≤ mix ∧ mix < 2147483647 ∧ xs.length ≤ 1000 ∧
    TA.Ctx.J ⟨sd0, (a, stL b cur cnt mix) :: (b, .lst (xs.map V.int)) :: S0⟩ 0 H := by
  obtain ⟨cur, cnt, mix, xs, h1, h2, h3, h4, h5, h6, h7, h8⟩ := j.str (a, b) rfl
  refine ⟨cur, cnt, mix, xs, h3, h4, by push_cast at h5; omega, h6, h7, h8, (fun _ h => nomatch h), fun q hq => ?_, ?_, tabs0⟩
  · rcases List.mem_cons.mp hq with rfl | hq
    · exact h1
    · rcases List.mem_cons.mp hq with rfl | hq
      · exact h2
      · exact j.own q hq
  · have nd := j.nd
    rw [m_strm] at nd
    rw [m_none]
    show (a :: b :: S0.map (fun q : Addr × HO => q.1)).Nodup
    exact (List.perm_append_comm (l₁ := S0.map (fun q : Addr × HO => q.1)) (l₂ := [a, b])).nodup_iff.mp nd
theorem strm_close {a b : Addr} {S0 : List (Addr × HO)} {cur cnt mix : Int} {xs : List Int} (h3 : 0 ≤ cur) (h4 : 0 ≤ cnt) (h5 : cnt + (n : Int) ≤ mostDraws) (h6 : 0 ≤ mix) (h7 : mix < 2147483647) (h8 : xs.length ≤ 1000)
    (j : TA.Ctx.J ⟨sd0, (a, stL b cur cnt mix) :: (b, .lst (xs.map V.int)) :: S0⟩ d H) : Strm a b n H ∧ ∀ q ∈ S0, H q.1 = some q.2 :=
  ⟨⟨cur, cnt, mix, xs, j.own _ (.head _), j.own _ (.tail _ (.head _)), h3, h4, h5, h6, h7, h8⟩, fun q hq => j.own q (.tail _ (.tail _ hq))⟩
/-- the end of a draw -/
theorem fin_draw {a b : Addr} {S0 : List (Addr × HO)} {cur cnt mix : Int} {xs : List Int} {Q : VK} {P : Po} {H3 : Hp} {v : V} {cur0 cnt0 mix0 : Int} {xs0 : List Int} (fin : ∀ v φ H', Mo [a, b] H H' → (∀ q ∈ S0, H' q.1 = some q.2) → Strm a b n H' → P v φ → Bx (TA.Ctx.mk (sdS a b) S0).m φ H' → Q v H')
    (j0 : TA.Ctx.J ⟨sd0, (a, stL b cur0 cnt0 mix0) :: (b, .lst (xs0.map V.int)) :: S0⟩ d H) (hP : P v T0) (k3 : Mo (a :: b :: (TA.Ctx.mk sd0 S0).m) H H3) (h3 : 0 ≤ cur) (h4 : 0 ≤ cnt) (h5 : cnt + (n : Int) ≤ mostDraws) (h6 : 0 ≤ mix) (h7 : mix < 2147483647) (h8 : xs.length ≤ 1000)
    (j : TA.Ctx.J ⟨sd0, (a, stL b cur cnt mix) :: (b, .lst (xs.map V.int)) :: S0⟩ d H3) : Q v H3 := by
  obtain ⟨s, o⟩ := strm_close h3 h4 h5 h6 h7 h8 j
  refine fin v T0 H3 (fun x o' hx t h => ?_) o s hP kn0
  by_cases hm : x ∈ S0.map (·.1)
  · obtain ⟨q, hq, rfl⟩ := List.mem_map.mp hm
    have e1 := j0.own q (.tail _ (.tail _ hq))
    rw [h] at e1
    rw [Option.some.inj e1]
    exact o q hq
  · refine k3 x o' (fun z => ?_) t h
    rcases List.mem_cons.mp z with rfl | z
    · exact hx (.head _)
    · rcases List.mem_cons.mp z with rfl | z
      · exact hx (.tail _ (.head _))
      · rw [m_none] at z
        exact hm z
theorem Ev.nI {i : Int} (h : Ev c l d te σ (TA.aV (· = .int i))) : Ev c l d te σ (anI (· = i)) := h.imp fun v φ p => ⟨p.1, i, rfl, p.2⟩
theorem Kn.from {m : List Addr} (e : Mo m H H') : Kn m [Mo m H] H' := Kn.nil.push fun _ e2 => e.trans e2
theorem op_tmod {i j : Int} (h : 0 < j) : Op2 c l (anI (· = i)) (anI (· = j)) (rI (fun _ j => 0 < j) fun i j => .int (i % j)) (anI (· = i % j)) := fun x y φ ψ n H k jj p1 p2 b1 b2 Q q =>
  op_IC (fun i' j' e1 e2 => by rw [e2]; exact h) x y φ ψ n H k jj p1 p2 b1 b2 Q fun v χ H' e j' ⟨h, k, ⟨i, j, e1, e2, e3⟩, e4⟩ b => q v χ H' e j' ⟨h, k, by rw [e3, e1, e2], e4⟩ b
theorem op_tC {i j : Int} {C : Int → Int → Prop} {g : Int → Int → Int} (h : C i j) : Op2 c l (anI (· = i)) (anI (· = j)) (rI C fun i j => .int (g i j)) (anI (· = g i j)) := fun x y φ ψ n H k jj p1 p2 b1 b2 Q q =>
  op_IC (fun i' j' e1 e2 => by rw [e1, e2]; exact h) x y φ ψ n H k jj p1 p2 b1 b2 Q fun v χ H' e j' ⟨h, k, ⟨i, j, e1, e2, e3⟩, e4⟩ b => q v χ H' e j' ⟨h, k, by rw [e3, e1, e2], e4⟩ b
theorem cl_tint {i : Int} : Cl c l 0 [anI (· = i)] (fun xs H Q => (∃ i, xs = [.int i] ∧ Q (.int i) H) ∨ ∃ k, xs = [.bl k] ∧ Q (.int (if k then 1 else 0)) H) (anI (· = i)) := cl_intI
/-- an if whose suite ends where what is known behind it is R -/
theorem q_whenI {t : TT} {A : Bool → Prop} {tu : TS} {R : Hp → Prop} (h : EvT c l d t σ A) (k : Kn c.m l H) (j : c.J (n + d) H) (h2 : ∀ H', R H' → tz D σ H')
    (h1 : A true → ∀ H', Kn c.m l H' → c.J n H' → ∀ G : Ends, G.rt = D.rt → (∀ H', R H' → G.nx σ H') → tu G σ H') (h3 : A false → ∀ H', Kn c.m l H' → c.J n H' → R H') : tSeq (tIfS t tu tNext) tz D σ H :=
  q_when h k j (fun a H' _ k' j' => h1 a H' k' j' _ rfl fun H' r => h2 H' r) fun a H' _ k' j' => h2 H' (h3 a H' k' j')
/-! lists of ints as data -/
theorem dp_ints : ∀ {xs : List Int}, DpAll K H (xs.map V.int) (xs.map PyData.int)
  | [] => .nil
  | x :: xs => .cons (.int x) dp_ints
theorem lay_ints : ∀ {xs : List Int}, PyData.canLayAll0 (xs.map PyData.int) = true
  | [] => by simp [PyData.canLayAll0]
  | x :: xs => by simp [PyData.canLayAll0, PyData.canLay0, lay_ints]
theorem depth_ints : ∀ {xs : List Int}, PyData.depthAll (xs.map PyData.int) = 0
  | [] => by simp [PyData.depthAll]
  | x :: xs => by simp [PyData.depthAll, PyData.depth, depth_ints]
theorem shaped_ints {xs : List Int} : SeqAt.shaped (.list (xs.map PyData.int)) = true := by
  unfold SeqAt.shaped
  rw [PyData.canLay0, lay_ints, PyData.depth, depth_ints]
  rfl
theorem eqv_nil {xs : List PyData} : PyData.eqv (.list xs) (.list []) = xs.isEmpty := by
  cases xs <;> simp [PyData.eqv, PyData.eqvAll]
end
end TA

set_option Elab.async false
set_option linter.all false
set_option maxRecDepth 100000
set_option maxHeartbeats 4000000
/-! TaStep: more statements and expressions over TaRead's words -/
namespace TA
open PySem PySem.Spec PyProof.Rows L2
section
variable {c : TA.Ctx} {l : List (Hp → Prop)} {n d d1 d2 : Nat} {H H' : Hp} {σ : L2.St} {st : Sd} {S : List (Addr × HO)} {p : Addr} {xs : List V} {K : PySem.W.Frag} {D : Ends} {te to ti ta tb : TE} {P P1 P2 : Po} {tz : TS} {tt : L2.TA}
/-- x, y = a, b -/
theorem q_par {i j : Nat} (h : EvA c l d tt σ [P1, P2]) (k : Kn c.m l H) (jj : c.J (n + d) H)
    (q : ∀ v w φ ψ H', P1 v φ → P2 w ψ → Kn c.m (φ :: ψ :: l) H' → c.J n H' → tz D ((σ.set i (some v)).set j (some w)) H') : tSeq (tPar i j tt) tz D σ H :=
  h n H k jj _ fun vs H1 e1 j1 a => by
    obtain ⟨v, r, φ, rfl, hv, bv, w, r', ψ, rfl, hw, bw, a⟩ := a
    cases (show r' = [] from a)
    exact ⟨v, w, rfl, q v w φ ψ H1 hv hw (((k.mo e1).push bw).push bv) j1⟩
/-- x, y = (a, b), by a tuple -/
theorem q_pair {i j : Nat} (h : EvA c l d tt σ [P1, P2]) (k : Kn c.m l H) (jj : c.J (n + d) H)
    (q : ∀ v w φ ψ H', P1 v φ → P2 w ψ → Kn c.m (φ :: ψ :: l) H' → c.J n H' → tz D ((σ.set i (some v)).set j (some w)) H') : tSeq (tAsg (tTup tt) (gTup K 2 (gCons (gName i) (gCons (gName j) gNil)))) tz D σ H :=
  h n H k jj _ fun vs H1 e1 j1 a => by
    obtain ⟨v, r, φ, rfl, hv, bv, w, r', ψ, rfl, hw, bw, a⟩ := a
    cases (show r' = [] from a)
    refine ⟨by show 2 ≤ sizeLine; rw [sizeLine_eq]; decide, fun p hp => ⟨p, [v, w], rfl, SqT.of upd_same, rfl, v, [w], rfl, w, [], rfl, rfl, ?_⟩⟩
    have e2 : Mo c.m H1 (upd H1 p (.tup [v, w])) := Mo.new hp
    exact q v w φ ψ _ hv hw (((k.mo (e1.trans e2)).push (bw.mo e2)).push (bv.mo e2)) (j1.ext (Ko.new hp))
/-- list(range(a, b)) -/
theorem ev_listRg {a b : Nat} (ha : Ev c l d1 ta σ (anI (· = (a : Int)))) (hb : Ev c l d2 tb σ (anI (· = (b : Int)))) (h1 : a ≤ 10000) (h2 : b ≤ 10000) : Ev c l (d1 + d2) (tLstRg (tRg2 ta tb)) σ (aM (· = natV ((List.range (b - a)).map fun i => a + i))) := fun n H k j Q q =>
  ha (n + d2) H k (j.le (by omega)) _ fun x φ H1 e1 j1 p1 b1 => hb n H1 (k.mo e1) j1 _ fun y ψ H2 e2 j2 p2 b2 => by
    obtain ⟨_, i, rfl, rfl⟩ := p1
    obtain ⟨_, i', rfl, rfl⟩ := p2
    refine ⟨a, b, rfl, rfl, RgOk.of_le (by omega) (by omega) (by omega) (by omega), fun r hr => ?_⟩
    have e : rgV (a : Int) (b : Int) = natV ((List.range (b - a)).map fun i => a + i) := by
      unfold rgV natV
      rw [List.map_map, show ((b : Int) - (a : Int)).toNat = b - a by omega]
      rfl
    rw [e]
    exact q _ (kM r _) _ ((e1.trans e2).trans (Mo.new hr)) (j2.ext (Ko.new hr)) ⟨r, _, rfl, rfl, rfl⟩ (Bx.at (j2.new hr) upd_same)
/-- xs.extend(e), xs the youngest list in the making -/
theorem s_ext {A : List V → Prop} (ha : Ev ⟨st, (p, .lst xs) :: S⟩ l 0 ta σ (is (.ref p))) (h : Ev ⟨st, (p, .lst xs) :: S⟩ l d te σ (aM A)) (hz : ∀ ys, A ys → xs.length + ys.length ≤ 100000)
    (k : Kn (p :: (TA.Ctx.mk st S).m) l H) (j : TA.Ctx.J ⟨st, (p, .lst xs) :: S⟩ (n + d) H)
    (q : ∀ ys H', A ys → Kn (p :: (TA.Ctx.mk st S).m) l H' → TA.Ctx.J ⟨st, (p, .lst (xs ++ ys)) :: S⟩ n H' → D.nx σ H') : tDrop (tBM K "list" rExtend ta (tCons te tNil)) D σ H :=
  ha (n + d) H k j _ fun x φ H1 e1 j1 p1 b1 => by
    obtain ⟨rfl, _⟩ := p1
    have o1 := j1.own (p, .lst xs) (List.mem_cons_self ..)
    refine ⟨Or.inl ⟨rfl, xs, SqL.of o1⟩, h n H1 (Kn.mo k e1) j1 _ fun v φ H2 e2 j2 p2 b2 => ?_⟩
    obtain ⟨r, ys, rfl, hA, rfl⟩ := p2
    have o2 := j2.own (p, .lst xs) (List.mem_cons_self ..)
    have := hz ys hA
    refine ⟨p, r, xs, ys, rfl, rfl, o2, b2.now, by rw [sizeLine_eq]; omega, ?_⟩
    have e3 : Mo (p :: (TA.Ctx.mk st S).m) H2 (upd H2 p (.lst (xs ++ ys))) := Mo.set (List.mem_cons_self ..)
    exact q ys _ hA (Kn.mo k ((Mo.trans e1 e2).trans e3)) j2.put
/-- an expression that only looks at the youngest list in the making -/
theorem ev_frz (h : Ev ⟨st, S⟩ (kM p xs :: l) d te σ P) (hP : ∀ v φ, P v φ → φ = T0) : Ev ⟨st, (p, .lst xs) :: S⟩ l d te σ P := fun n H k j Q q =>
  h n H (j.froze k) j.pop Q fun v φ H' e j' pv b => by
    have np : p ∉ (TA.Ctx.mk st S).m := (List.nodup_cons.mp (show (p :: (TA.Ctx.mk st S).m).Nodup from j.nd)).1
    have o := j.own (p, .lst xs) (List.mem_cons_self ..)
    refine q v φ H' (e.weak fun a h => List.mem_cons_of_mem _ h) ⟨j'.str, fun r hr => ?_, j.nd, j'.tab⟩ pv (by rw [hP v φ pv]; exact kn0)
    rcases List.mem_cons.mp hr with rfl | hr
    · exact e _ _ np nt_lst o
    · exact j'.own r hr
theorem et_frz {t : TT} {A : Bool → Prop} (h : EvT ⟨st, S⟩ (kM p xs :: l) d t σ A) : EvT ⟨st, (p, .lst xs) :: S⟩ l d t σ A := fun n H k j Q q =>
  h n H (j.froze k) j.pop Q fun b H' e j' pv => by
    have np : p ∉ (TA.Ctx.mk st S).m := (List.nodup_cons.mp (show (p :: (TA.Ctx.mk st S).m).Nodup from j.nd)).1
    have o := j.own (p, .lst xs) (List.mem_cons_self ..)
    refine q b H' (e.weak fun a h => List.mem_cons_of_mem _ h) ⟨j'.str, fun r hr => ?_, j.nd, j'.tab⟩ pv
    rcases List.mem_cons.mp hr with rfl | hr
    · exact e _ _ np nt_lst o
    · exact j'.own r hr
end
end TA

set_option Elab.async false
set_option linter.all false
set_option maxRecDepth 100000
set_option maxHeartbeats 4000000
/-! TaStep2: a written dict asked, list.insert, slices, == [] -/
namespace TA
open PySem PySem.Spec PyProof.Rows L2
section
variable {c : TA.Ctx} {l : List (Hp → Prop)} {n d d1 d2 : Nat} {H H' : Hp} {σ : L2.St} {st : Sd} {S : List (Addr × HO)} {p : Addr} {xs : List V} {K : PySem.W.Frag} {D : Ends} {te to ti ta tb t1 t2 tx tz : TE} {P P1 P2 : Po} {tt : L2.TA}
theorem Ctx.J.putG {o u : HO} (j : (TA.Ctx.mk st ((p, o) :: S)).J n H) (ho : ∀ c q, LamX.CodeO c q ≠ o) : (TA.Ctx.mk st ((p, u) :: S)).J n (upd H p u) := by
  have nd : (p :: (TA.Ctx.mk st S).m).Nodup := j.nd
  have np : ∀ a, a ∈ (TA.Ctx.mk st S).m → a ≠ p := fun a h z => (List.nodup_cons.mp nd).1 (by rw [← z]; exact h)
  have hp := j.own (p, o) (List.mem_cons_self ..)
  refine ⟨fun ab e => ?_, fun q hq => ?_, nd, ?_⟩
  · have s := TA.Ctx.sub (c := TA.Ctx.mk st S) (ab := ab) e
    exact (j.str ab e).at (fun _ h => by rw [upd_ne (np _ (s _ (by simp)))]; exact h) fun _ h => by rw [upd_ne (np _ (s _ (by simp)))]; exact h
  · rcases List.mem_cons.mp hq with rfl | hq
    · exact upd_same
    · rw [upd_ne (np _ (List.mem_append_left _ (List.mem_map.mpr ⟨q, hq, rfl⟩)))]
      exact j.own q (List.mem_cons_of_mem _ hq)
  · refine tabs_at j.tab (fun t ht ps h => ?_) fun c q h => ?_
    · rw [upd_ne (np _ (List.mem_append_right _ (Sd.mem_t ht)))]
      exact h
    · rw [upd_ne]
      · exact h
      · rintro rfl
        rw [hp] at h
        exact ho _ _ (Option.some.inj h).symm
theorem code_dK {c : Addr} {q : Str} {kvs : List (Key × V)} : LamX.CodeO c q ≠ .dK kvs := fun z => by
  unfold LamX.CodeO at z
  cases z
/-- {k1: a, k2: b}.get(x, z) -/
theorem ev_dget {k1 k2 x : Str} {v1 z : V} (h1 : ∀ p, Ev ⟨c.st, (p, .dK []) :: c.S⟩ l 0 t1 σ (is v1)) (h2 : ∀ p, Ev ⟨c.st, (p, .dK []) :: c.S⟩ l d t2 σ P2) (hP2 : ∀ v φ, P2 v φ → φ = T0) (hx : Ev c l 0 tx σ (is (.str x))) (hz : Ev c l 0 tz σ (is z)) :
    Ev c l d (tDGet2 (tDisp [(tC (.str k1), t1), (tC (.str k2), t2)]) tx tz) σ (fun v φ => φ = T0 ∧ if x = k2 then P2 v T0 else if x = k1 then v = v1 else v = z) := fun n H k j Q q => fun p hp => by
  have nm := j.new hp
  have j1 := j.push (o := .dK []) hp
  have k1' := k.grow (o := .dK []) hp
  refine h1 p (n + d) _ k1' j1 _ fun x1 φ1 H1 e1 j2 p1 b1 => ?_
  obtain ⟨rfl, _⟩ := p1
  refine h2 p n H1 (Kn.mo k1' e1) j2 _ fun x2 φ2 H2 e2 j3 p2 b2 => ?_
  obtain rfl := hP2 _ _ p2
  refine ⟨j3.own _ (List.mem_cons_self ..), [(.inr k1, x1), (.inr k2, x2)], rfl, by simp, ?_⟩
  have j4 := (j3.putG (u := .dK (mergeK [] [(.inr k1, x1), (.inr k2, x2)])) fun _ _ => code_dK).pop
  have e3 : Mo c.m H (upd H2 p (.dK (mergeK [] [(.inr k1, x1), (.inr k2, x2)]))) := fun a o na t h => by
    have ne : a ≠ p := ne_of_none h hp
    rw [upd_ne ne]
    refine e2 a o (fun z => (List.mem_cons.mp z).elim ne na) t (e1 a o (fun z => (List.mem_cons.mp z).elim ne na) t ?_)
    rw [upd_ne ne]
    exact h
  have j5 : c.J n (upd H2 p (.dK (mergeK [] [(.inr k1, x1), (.inr k2, x2)]))) := j4
  refine ⟨p, rfl, .inl ⟨_, .inl upd_same⟩, hx n _ (k.mo e3) j5 _ fun y φ3 H3 e4 j6 p3 b3 => ?_⟩
  obtain ⟨rfl, _⟩ := p3
  refine hz n H3 (k.mo (e3.trans e4)) j6 _ fun w φ4 H4 e5 j7 p4 b4 => ?_
  obtain ⟨rfl, _⟩ := p4
  have o4 : H4 p = some (.dK (mergeK [] [(.inr k1, x1), (.inr k2, x2)])) := e5 _ _ nm (by intro ps z; cases z) (e4 _ _ nm (by intro ps z; cases z) upd_same)
  refine ⟨_, DGet.k (k := .inr x) o4, q _ T0 H4 ((e3.trans e4).trans e5) j7 ⟨rfl, ?_⟩ kn0⟩
  have ev : valV (mergeK [] [((.inr k1 : Key), x1), (.inr k2, x2)]) (.inr x) = if x = k2 then some x2 else if x = k1 then some x1 else none := by
    show valV (putK (putK [] (Sum.inr k1 : Key) x1) (Sum.inr k2 : Key) x2) (Sum.inr x : Key) = _
    rw [valV_put, valV_put, valV_nil]
    simp only [Sum.inr.injEq]
  rw [ev]
  by_cases hx2 : x = k2
  · rw [if_pos hx2, if_pos hx2]
    exact p2
  · rw [if_neg hx2, if_neg hx2]
    by_cases hx1 : x = k1
    · rw [if_pos hx1, if_pos hx1]
      rfl
    · rw [if_neg hx1, if_neg hx1]
      rfl
/-- xs.insert(i, e), xs the youngest list in the making -/
theorem s_ins {A : Int → Prop} {A2 : V → Prop} (ha : Ev ⟨st, (p, .lst xs) :: S⟩ l 0 ta σ (is (.ref p))) (hi : Ev ⟨st, (p, .lst xs) :: S⟩ l d1 ti σ (anI A)) (h : Ev ⟨st, (p, .lst xs) :: S⟩ l d2 te σ (aV A2)) (hA : ∀ i, A i → 0 ≤ i ∧ i ≤ 100000) (hz : xs.length < 100000)
    (k : Kn (p :: (TA.Ctx.mk st S).m) l H) (j : TA.Ctx.J ⟨st, (p, .lst xs) :: S⟩ (n + (d1 + d2)) H)
    (q : ∀ v m H', A2 v → Kn (p :: (TA.Ctx.mk st S).m) l H' → TA.Ctx.J ⟨st, (p, .lst (xs.take m ++ [v] ++ xs.drop m)) :: S⟩ n H' → D.nx σ H') :
    tDrop (tBM K "list" (fun x vs H Q => ∃ (l : Addr) (xs : List V) (i : Int) (y : V), x = .ref l ∧ vs = [.int i, y] ∧ H l = some (.lst xs) ∧ xs.length < sizeLine ∧ 0 ≤ i ∧ i < 2 ^ 63 ∧
      Q .non (upd H l (.lst (xs.take i.toNat ++ [y] ++ xs.drop i.toNat)))) ta (tCons ti (tCons te tNil))) D σ H :=
  ha (n + (d1 + d2)) H k j _ fun x φ H1 e1 j1 p1 b1 => by
    obtain ⟨rfl, _⟩ := p1
    have o1 := j1.own (p, .lst xs) (List.mem_cons_self ..)
    refine ⟨Or.inl ⟨rfl, xs, SqL.of o1⟩, hi (n + d2) H1 (Kn.mo k e1) (j1.le (by omega)) _ fun iv φ H2 e2 j2 p2 b2 => ?_⟩
    obtain ⟨_, i, hAi, rfl⟩ := p2
    obtain ⟨i0, i1⟩ := hA i hAi
    refine h n H2 (Kn.mo k (Mo.trans e1 e2)) j2 _ fun v φ H3 e3 j3 p3 b3 => ?_
    have o3 := j3.own (p, .lst xs) (List.mem_cons_self ..)
    refine ⟨p, xs, i, v, rfl, rfl, o3, by rw [sizeLine_eq]; omega, i0, by omega, ?_⟩
    have e4 : Mo (p :: (TA.Ctx.mk st S).m) H3 (upd H3 p (.lst (xs.take i.toNat ++ [v] ++ xs.drop i.toNat))) := Mo.set (List.mem_cons_self ..)
    exact q v i.toNat _ p3.2 (Kn.mo k (((Mo.trans e1 e2).trans e3).trans e4)) j3.put
/-- xs[:k] -/
theorem ev_cutTo {k : Nat} (h : Ev c l d te σ (aL K (· = xs))) : Ev c l d (tSl (rSlL K) te tNoPart (tPart (tC (.int k)))) σ (aM (· = xs.take k)) := fun n H kn j Q q =>
  h n H kn j _ fun v φ H1 e1 j1 p1 b1 => by
    obtain ⟨u, xs', rfl, rfl, rfl⟩ := p1
    refine ⟨k, rfl, u, xs', rfl, b1.now, fun r hr => ?_⟩
    have e : cutV xs' none (some (k : Int)) = xs'.take k := by
      unfold cutV
      rw [HT.sIx_none, HT.sIx_nat, List.drop_zero, Nat.sub_zero, ← List.take_eq_take_min]
    rw [e]
    exact q _ (kM r _) _ (e1.trans (Mo.new hr)) (j1.ext (Ko.new hr)) ⟨r, _, rfl, rfl, rfl⟩ (Bx.at (j1.new hr) upd_same)
/-! texts as data -/
theorem dp_strs : ∀ {xs : List Str}, DpAll K H (xs.map V.str) (xs.map PyData.str)
  | [] => .nil
  | x :: xs => .cons (.str x) dp_strs
theorem lay_strs : ∀ {xs : List Str}, (∀ x ∈ xs, PyData.strOk x = true) → PyData.canLayAll0 (xs.map PyData.str) = true
  | [], _ => by simp [PyData.canLayAll0]
  | x :: xs, h => by
    rw [List.map_cons, PyData.canLayAll0, PyData.canLay0, h x (List.mem_cons_self ..), lay_strs fun y hy => h y (List.mem_cons_of_mem _ hy)]
    rfl
theorem depth_strs : ∀ {xs : List Str}, PyData.depthAll (xs.map PyData.str) = 0
  | [] => by simp [PyData.depthAll]
  | x :: xs => by simp [PyData.depthAll, PyData.depth, depth_strs]
theorem shaped_strs {xs : List Str} (h : ∀ x ∈ xs, PyData.strOk x = true) : SeqAt.shaped (.list (xs.map PyData.str)) = true := by
  unfold SeqAt.shaped
  rw [PyData.canLay0, lay_strs h, PyData.depth, depth_strs]
  rfl
/-- xs == [], xs a list of texts in the making -/
theorem et_isNil {i : Nat} {ss : List Str} (hi : σ[i]? = some (some (.ref p))) (h : ∀ x ∈ ss, PyData.strOk x = true) : EvT ⟨st, (p, .lst (ss.map V.str)) :: S⟩ l 0 (tTest (tOp (rEqD K) (tVar i) (tLst tNil))) σ (· = ss.isEmpty) := fun n H k j Q q => by
  have op := j.own (p, .lst (ss.map V.str)) (List.mem_cons_self ..)
  refine ⟨.ref p, hi, Nat.zero_le _, fun r hr => ?_⟩
  have ne : p ≠ r := ne_of_none op hr
  refine ⟨.list (ss.map PyData.str), .list [], .lst (SqL.of (by rw [upd_ne ne]; exact op)) dp_strs, .lst (SqL.of upd_same) .nil, shaped_strs h, shaped_strs (xs := []) (fun x hx => by cases hx), _, rfl, ?_⟩
  refine q _ _ (Mo.new hr) (j.ext (Ko.new hr)) ?_
  rw [eqv_nil]
  cases ss <;> rfl
end
end TA

set_option Elab.async false
set_option linter.all false
set_option maxRecDepth 100000
set_option maxHeartbeats 4000000
/-! TaSet: set(l) of a list of ints (the kit's rule for tuples, turned to lists), sorted(set(l)) -/
namespace TA
open PySem PySem.Spec PyProof.Rows L2
section
variable {P : Program} {w : World} {A : Around} {E : Value → Shared → Prop} {s : Shared}
set_option maxHeartbeats 3200000 in
theorem call_set_listI {l : Addr} {items : Array Value} (ns : List Int) {Q : Value → Shared → Prop} (hh : A.handled = none) (hl : s.heap.IsList l items) (hit : IntsAre items.toList ns) (hb : ns.length + 1 < scanBound)
    (h : ∀ (h' : Heap) (tk c : Nat), SetR w h' s.heap.objs.size (fun j => decide (j ∈ ns)) c → c ≤ ns.length → (∀ b o, s.heap.get? b = some o → h'.get? b = some o) → Q (.ref s.heap.objs.size) { s with heap := h', toks := tk }) :
    wpAny (model P w) A (call (.type "set") [.ref l]) Q E s := by
  have hisz : items.size = ns.length := by
    have q := IntsAre.length hit
    rw [Array.length_toList] at q
    exact q
  obtain ⟨c, tl, hmro⟩ := PySem.F.called_set.mro
  have hmade := PySem.F.called_set.made
  have hsub := PySem.F.called_set.sub
  refine wpAny_call (codeAny_of_tree ?_)
  show wpAny _ _ (callAny (.type "set") _) _ _ _
  refine wpAny_pure ⟨Code.quiet_builtin _ (by decide +kernel), codeAny_builtin PySem.F.entry_type_call ?_⟩
  rw [Around.under_plain (weight_type_call_type "set" [.ref l] []) rfl]
  have h1 := PySem.F.called_set.notType
  have h2 := PySem.F.called_set.canCreate
  have hct := PySem.F.typeCall_set_1 (.ref l)
  repeat (any_goals (first | assumption | wp_step))

  refine codeAny_mono (code_set_led1 (.ref l) (E := E) (Q₁ := fun obj s₁ => obj = .ref s.heap.objs.size ∧ s₁ = { s with heap := s.heap.push { cls := .type "set", dict := none, data := .set #[] 0 (.fresh 0 0 (!w.params.followText "set-order")) } }) ⟨rfl, rfl⟩) fun r s₁ hr => ?_
  cases r with
  | error e => exact hr
  | ok fl =>
    cases fl with
    | ret obj =>
      obtain ⟨rfl, rfl⟩ := hr
      have hS : (s.heap.push { cls := .type "set", dict := none, data := .set #[] 0 (.fresh 0 0 (!w.params.followText "set-order")) }).get? s.heap.objs.size = some { cls := .type "set", dict := none, data := .set #[] 0 (.fresh 0 0 (!w.params.followText "set-order")) } := Heap.get?_push_size _ rfl
      have hT : Shared.TypeIs { s with heap := s.heap.push { cls := .type "set", dict := none, data := .set #[] 0 (.fresh 0 0 (!w.params.followText "set-order")) } } (.ref s.heap.objs.size) "set" := ⟨_, hS, rfl⟩
      have hli := PySem.F.called_set.init.lookup
      have hbi := PySem.F.called_set.init.bind (.ref s.heap.objs.size)
      repeat (any_goals (first | assumption | wp_step))

      refine codeAny_mono (codeAny_call_builtin (R := wants (fun r s₂ => r = .none ∧ ∃ h' tk c, s₂ = { s with heap := h', toks := tk } ∧ SetR w h' s.heap.objs.size (fun j => decide (j ∈ ns)) c ∧ c ≤ ns.length ∧
          (∀ b o, s.heap.get? b = some o → h'.get? b = some o)) E) PySem.F.called_set.init.plain PySem.F.entry_set_init (check_set_init_1 hT ?_)) fun r₂ s₂ hr₂ => ?_
      · obtain ⟨ol, hol, hcl, nl, hdl⟩ := hl
        obtain ⟨ocls, odict, odata, oslots⟩ := ol
        simp only at hcl hdl
        subst hcl; subst hdl
        have hol' : (s.heap.push { cls := .type "set", dict := none, data := .set #[] 0 (.fresh 0 0 (!w.params.followText "set-order")) }).get? l = some { cls := .type "list", dict := odict, data := .seq items nl, slots := oslots } := Heap.get?_push_of_some _ hol
        have hsls := PySem.F.sub_list_set
        have hslf := PySem.F.sub_list_frozenset
        have hne : (Value.type "list" == Value.type "dict") = false := by decide
        have hl1 : (s.heap.push { cls := .type "set", dict := none, data := .set #[] 0 (.fresh 0 0 (!w.params.followText "set-order")) }).IsList l items := ⟨_, hol', rfl, nl, rfl⟩
        unfold Builtin.«set.__init__» noKeywords Builtin.Frozenset.updateFrom
        generalize hPI : pyIter = PI
        wp_walk
        subst hPI

        refine wpAny_pyIter_list hl1 ?_
        refine wpAny_bind (wpAny_runValue ?_)
        have hlS : l < s.heap.objs.size := Heap.lt_size hol
        have hh3 : A.in1.in1.in1.handled = none := by simp [hh]
        have hz1 : (s.heap.push { cls := .type "set", dict := none, data := .set #[] 0 (.fresh 0 0 (!w.params.followText "set-order")) }).objs.size = s.heap.objs.size + 1 := Heap.size_push ..
        have hneI : l ≠ (s.heap.push { cls := .type "set", dict := none, data := .set #[] 0 (.fresh 0 0 (!w.params.followText "set-order")) }).objs.size := by
          rw [Heap.size_push]; exact Nat.ne_of_lt (Nat.lt_succ_of_lt hlS)
        have hSf : s.heap.objs.size ∉ [(s.heap.push { cls := .type "set", dict := none, data := .set #[] 0 (.fresh 0 0 (!w.params.followText "set-order")) }).objs.size, l] := by
          rw [Heap.size_push]; simp only [List.mem_cons, List.mem_singleton, List.not_mem_nil, or_false, not_or]
          exact ⟨Nat.ne_of_lt (Nat.lt_succ_self _), Nat.ne_of_gt hlS⟩
        have hval : ∀ (i : Nat) (v : Value), items[i]? = some v → ∃ k t, ns[i]? = some k ∧ v = .int k t := fun i v hv => by
          have hi : i < ns.length := by rw [← hisz]; exact (Array.getElem?_eq_some_iff.mp hv).1
          obtain ⟨t, e⟩ := PyProof.Rows.IntsAre.int_at hit i v (by rw [Array.getElem?_toList]; exact hv)
          refine ⟨ns[i], t, List.getElem?_eq_getElem hi, ?_⟩
          rw [e, List.getD_eq_getElem?_getD, List.getElem?_eq_getElem hi] <;> rfl
        refine set_update_ints ((Walks.list hh3 _ l hneI items).toS) s.heap.objs.size
          hSf ns hisz hb hval (items.size - 0) 0 _ (by omega) (Nat.zero_le _)
          ⟨⟨_, Heap.get?_push_size _ rfl, rfl, rfl⟩, (hl1.push _)⟩ ?hS0 ?hR
        case hS0 =>
          have hget : ((s.heap.push { cls := .type "set", dict := none, data := .set #[] 0 (.fresh 0 0 (!w.params.followText "set-order")) }).push { cls := .type "list_iterator", data := .fields #[.ref l, .int 0 0] }).get? s.heap.objs.size
              = some { cls := .type "set", dict := none, data := .set #[] 0 (.fresh 0 0 (!w.params.followText "set-order")) } := Heap.get?_push_of_some _ hS
          exact ⟨0, Nat.le_refl 0, setR_new_at hget⟩
        case hR =>
          intro s' c' hm hc' hS'
          obtain ⟨h', g2, d', tk', os'⟩ := s'
          have eg : g2 = s.gens := hm.gens
          have ed : d' = s.drawn := hm.drawn
          have eo : os' = s.os := hm.os
          subst eg; subst ed; subst eo
          show wpAny _ _ _ _ _ _
          refine wpAny_pure ?_
          show wpAny _ _ (ret Value.none) _ _ _
          rw [hisz] at hc'
          refine wpAny_pure ⟨rfl, h', tk', c', rfl, hS', hc', fun b o e => ?_⟩
          have hb0 : b < s.heap.objs.size := Heap.lt_size e
          have hb1 : b ≠ s.heap.objs.size := Nat.ne_of_lt hb0
          have hb2 : b ≠ (s.heap.push { cls := .type "set", dict := none, data := .set #[] 0 (.fresh 0 0 (!w.params.followText "set-order")) }).objs.size := by
            rw [Heap.size_push]; exact Nat.ne_of_lt (Nat.lt_succ_of_lt hb0)
          exact hm.heap b o (by simp only [List.mem_cons, List.mem_singleton, List.not_mem_nil, or_false, not_or]; exact ⟨hb1, hb2⟩) (Heap.get?_push_of_some _ (Heap.get?_push_of_some _ e))

      · cases r₂ with
        | error e => exact hr₂
        | ok fl₂ =>
          cases fl₂ with
          | ret r =>
            obtain ⟨rfl, h', tk, c', rfl, hS', hc', hk'⟩ := hr₂
            repeat (any_goals (first | assumption | wp_step))
            exact h _ _ _ hS' hc' hk'
          | _ => exact hr₂.elim
    | _ => exact hr.elim

end
/-- set(l), l a list of ints -/
def rSetI (w : World) (K : PySem.W.Frag) : List V → Hp → VK → Prop := fun vs H Q => ∃ (p : Addr) (ns : List Int), vs = [.ref p] ∧ SqL K H p (ns.map V.int) ∧ ns.length + 1 < scanBound ∧
  ∀ q n, H q = none → n ≤ ns.length → Q (.ref q) (upd H q (SetO w q (fun j => decide (j ∈ ns)) n))
theorem cr_setI {X : Cx} {K : PySem.W.Frag} (hK : X.K = K) (hc : X.calm = true) : CallR X (.type "set") (rSetI X.w K) := by
  subst hK
  intro pins s σ H vs us Q I r h
  obtain ⟨p, ns, rfl, hp, hb, q⟩ := h
  obtain ⟨u, rfl, rx⟩ := vals1 r
  cases rx
  obtain ⟨its, r', pl, hz⟩ := I.list hp
  refine call_set_listI ns (I.ok.hd hc) pl.isList (by simpa using ints_of_vals r') hb fun h' tk c R hc' k => ?_
  exact ⟨.ref s.heap.objs.size, _, I.laid (t' := tk) k (Nat.le_refl _) (setO_new R), rfl, q _ c (I.hok.fresh (Nat.le_refl _)) hc'⟩
end TA

set_option Elab.async false
set_option linter.all false
set_option maxRecDepth 100000
set_option maxHeartbeats 4000000
/-! TaSet: sorted(set(l)) of a list of natural numbers -/
namespace TA
open PySem PySem.Spec PyProof.Rows L2
section
variable {c : TA.Ctx} {l : List (Hp → Prop)} {d n : Nat} {σ : L2.St} {H : Hp} {K : PySem.W.Frag} {w : World} {tt : L2.TA}
theorem mem_cast {k : Nat} {ks : List Nat} : ((k : Int) ∈ ks.map fun (k : Nat) => (k : Int)) ↔ k ∈ ks := by
  rw [List.mem_map]
  constructor
  · rintro ⟨x, hx, e⟩
    have : x = k := by omega
    rw [← this]
    exact hx
  · exact fun h => ⟨k, h, rfl⟩
/-- numbers that are the members of a list of natural ones -/
theorem nat_same {ns : List Int} {ks : List Nat} (h : ∀ k : Int, k ∈ ns ↔ k ∈ ks.map fun (k : Nat) => (k : Int)) : ∃ ks' : List Nat, (∀ k, k ∈ ks' ↔ k ∈ ks) ∧ ks'.length = ns.length ∧ ns = ks'.map fun (k : Nat) => (k : Int) := by
  have e : ns = (ns.map Int.toNat).map fun (k : Nat) => (k : Int) := by
    rw [List.map_map]
    have : ∀ x ∈ ns, ((fun (k : Nat) => (k : Int)) ∘ Int.toNat) x = x := by
      intro x hx
      obtain ⟨k, _, rfl⟩ := List.mem_map.mp ((h x).mp hx)
      show ((Int.toNat (k : Int) : Nat) : Int) = k
      rw [Int.toNat_natCast]
    calc ns = ns.map id := (List.map_id _).symm
      _ = _ := List.map_congr_left fun x hx => (this x hx).symm
  refine ⟨ns.map Int.toNat, fun k => ?_, List.length_map _, e⟩
  rw [← mem_cast, ← e, h, mem_cast]
theorem up_cast {ks : List Nat} (h : (ks.map fun (k : Nat) => (k : Int)).Pairwise (· < ·)) : ks.Pairwise (· < ·) := by
  rw [List.pairwise_map] at h
  exact h.imp fun h => by omega
/-- ascending numbers below m are at most m -/
theorem up_len {m : Nat} : ∀ {ks : List Nat} {a : Nat}, ks.Pairwise (· < ·) → (∀ k ∈ ks, a ≤ k ∧ k < m) → ks.length ≤ m - a
  | [], _, _, _ => Nat.zero_le _
  | x :: ks, a, h, hb => by
    rw [List.pairwise_cons] at h
    have h1 := hb x (List.mem_cons_self ..)
    have := up_len (m := m) (a := x + 1) h.2 fun k hk => ⟨h.1 k hk, (hb k (List.mem_cons_of_mem _ hk)).2⟩
    rw [List.length_cons]
    omega
/-- sorted(set(l)) -/
theorem ev_sortset {ks : List Nat} (h : EvA c l d tt σ [aL K (· = natV ks)]) (hk : ks.length < 64) :
    Ev c l d (tCB (rSortedSet w) (tCons (tCB (rSetI w K) tt) tNil)) σ (aM fun ys => ∃ ks' : List Nat, (∀ k, k ∈ ks' ↔ k ∈ ks) ∧ ks'.Pairwise (· < ·) ∧ ys = natV ks') := fun n H k j Q q =>
  h n H k j _ fun vs H1 e1 j1 a1 => by
    obtain ⟨v, r, φ, rfl, ⟨p, xs, rfl, rfl, rfl⟩, b, a⟩ := a1
    cases (show r = [] from a)
    refine ⟨p, ks.map fun (k : Nat) => (k : Int), rfl, by rw [← natV_int]; exact b.now, by rw [List.length_map]; unfold scanBound; omega, fun u m hu hm => ?_⟩
    rw [List.length_map] at hm
    refine ⟨u, _, m, rfl, upd_same, by omega, fun ns p' hs hmem hl hp' => ?_⟩
    obtain ⟨ks', h1, h2, rfl⟩ := nat_same (ks := ks) fun k => by rw [hmem]; exact decide_eq_true_iff
    have e2 : Mo c.m H1 (upd (upd H1 u (SetO w u (fun j => decide (j ∈ ks.map fun (k : Nat) => (k : Int))) m)) p' (.lst ((ks'.map fun (k : Nat) => (k : Int)).map V.int))) := (Mo.new hu).trans (Mo.new hp')
    refine q _ (kM p' _) _ (e1.trans e2) ((j1.ext (Ko.new hu)).ext (Ko.new hp')) ⟨p', _, rfl, ⟨ks', h1, up_cast hs, natV_int.symm⟩, rfl⟩ (Bx.at ?_ upd_same)
    exact (j1.ext (Ko.new hu)).new hp'
end
end TA

set_option Elab.async false
set_option linter.all false
set_option maxRecDepth 100000
set_option maxHeartbeats 4000000
/-! TaSuper: the __init__ of an own error, which calls super().__init__(..) of a ValueError first -/
namespace TA
open PySem PySem.Spec PyProof.Rows L2

/-- the context of such a body -/
def cxSup (P : Program) (w : World) (K : PySem.W.Frag) (mg : Str → Option Value) (base : Heap) (N : List Str) (qual : Str) (scope : Scope) (f : Addr) (cdv : Value) (cc : Addr) (A : Around) (outer : List Env) (s : Shared) (H : Hp) : Cx where
  prog := P
  w := w
  K := K
  mg := mg
  base := base
  A := A.deeper (PySem.W.ksEnv qual scope s.heap.objs.size f cdv cc)
  N := N
  s_0 := s
  H_0 := H
  env := PySem.W.ksEnv qual scope s.heap.objs.size f cdv cc
  outer := outer
  stack := PySem.W.ksEnv qual scope s.heap.objs.size f cdv cc :: outer
  ex := []
  calm := true
  fn := fun _ => false
  pn := []
  xe := fun _ _ => False

theorem lookup_mem {α : Type} : ∀ {l : List (Str × α)} {x : Str} {u : α}, (l.map (·.1)).Nodup → (x, u) ∈ l → l.lookup x = some u
  | [], _, _, _, h => by cases h
  | (y, v) :: l, x, u, nd, h => by
    rw [List.map_cons, List.nodup_cons] at nd
    rcases List.mem_cons.mp h with e | h
    · cases e
      simp [List.lookup]
    · have ne : (x == y) = false := by
        simp only [beq_eq_false_iff_ne]
        intro e
        exact nd.1 (List.mem_map.mpr ⟨_, h, e⟩)
      simp only [List.lookup, ne]
      exact lookup_mem nd.2 h
theorem zip_rev {ps : List Str} {us : List Value} {i : Nat} {x : Str} {u : Value} (nd : ps.Nodup) (hl : ps.length ≤ us.length) (h1 : ps[i]? = some x) (h2 : us[i]? = some u) : (ps.zip us).reverse.lookup x = some u := by
  have hm : (x, u) ∈ ps.zip us := by
    rw [List.mem_iff_getElem?]
    exact ⟨i, by rw [List.getElem?_zip_eq_some]; exact ⟨h1, h2⟩⟩
  refine lookup_mem ?_ (List.mem_reverse.mpr hm)
  rw [List.map_reverse]
  have hz : (ps.zip us).map (fun p : Str × Value => p.1) = ps := List.map_fst_zip hl
  rw [hz]
  exact List.pairwise_reverse.mpr (nd.imp fun h e => h e.symm)

theorem inv_sup {P : Program} {w : World} {K : PySem.W.Frag} {mg : Str → Option Value} {base : Heap} {ps : List Str} {qual : Str} {scope : Scope} {f cc : Addr} {cdv : Value} {A : Around} {outer : List Env} {s : Shared} {H : Hp} {us : List Value} {vs : List V} {h₀ : Heap} {tk : Nat}
    {cl : Value} {cld : Option Addr} {D : Addr} {csl : Array (Option Value)}
    (hk : scope.kind = .function) (nd : ps.Nodup) (par : ∀ x ∈ ps, scope.names.lookup x = some .local) (hcell : K.lookup cc = some ⟨cl, cld, .cell (some (.ref D)), csl⟩)
    (nofree : ∀ x, (scope.names.lookup x = some .cell ∨ scope.names.lookup x = some .free) → x = "__class__")
    (hd : A.handled = none) (e0 : Env0 P w K mg base A outer s H) (hl : vs.length = ps.length) (r : Vals vs us)
    (hns : h₀.Ns s.heap.objs.size (fun x => (ps.zip us).reverse.lookup x)) (k : ∀ b o, s.heap.get? b = some o → h₀.get? b = some o) :
    Inv (cxSup P w K mg base ps qual scope f cdv cc A outer s H) [] (L2.start ps vs) H { s with heap := h₀, toks := tk } := by
  have noA : ∀ b : Addr, b ∉ (cxSup P w K mg base ps qual scope f cdv cc A outer s H).ex := fun b z => absurd (show b ∈ ([] : List Addr) from z) (by simp)
  have cb : base.get? cc = some ⟨cl, cld, .cell (some (.ref D)), csl⟩ := e0.mod.kin _ _ hcell
  have lc : ∀ x c, (cxSup P w K mg base ps qual scope f cdv cc A outer s H).env.cells.lookup x = some c → x = "__class__" ∧ c = cc := fun x c h => by
    have h' : List.lookup x [(("__class__" : Str), cc)] = some c := h
    simp only [List.lookup] at h'
    split at h'
    · next q => exact ⟨beq_iff_eq.mp q, (Option.some.inj h').symm⟩
    · cases h'
  have est : L2.start ps vs = vs.map some := by
    unfold L2.start
    rw [hl, Nat.sub_self]
    simp
  refine ⟨⟨e0.mod, hk, rfl, rfl, Nat.le_refl _, fun y z c h1 h2 => ?_, fun y hy => ?_, fun y c h _ => ?_, fun _ => hd, Around.frames_deeper e0.frames, .inr ⟨rfl, rfl⟩, fun b z => absurd z (noA b), e0.bs, e0.bsz, fun b _ _ => noA b, fun b z => absurd z (noA b), e0.funs, e0.frf⟩,
    rfl, e0.bare, Un.kept k, ⟨_, hns, fun i y v h1 h2 h3 => ?_⟩, fun y c h => ?_, e0.hok.fresh (Nat.le_refl _), fun y c h => ?_, fun p hp => absurd (show p ∈ ([] : List (Addr × Obj)) from hp) (by simp), e0.hok.kept k, ?_⟩
  · rw [(lc y c h1).1, (lc z c h2).1]
  · rw [nofree y hy]
    exact ⟨cc, rfl⟩
  · cases h
  · rw [est, List.getElem?_map] at h2
    cases e : vs[i]? with
    | none => rw [e] at h2; cases h2
    | some a =>
      rw [e] at h2
      obtain ⟨u, hu, rv⟩ := r.get e
      have : a = v := Option.some.inj (Option.some.inj h2)
      subst this
      exact ⟨u, rv, .inl ⟨par y (List.mem_of_getElem? h1), zip_rev nd (by rw [← hl, ← r.length]; exact Nat.le_refl _) h1 hu⟩⟩
  · obtain ⟨_, rfl⟩ := lc y c h
    exact ⟨_, _, k _ _ (e0.bs _ _ cb).1, rfl⟩
  · obtain ⟨_, rfl⟩ := lc y c h
    exact (e0.bs _ _ cb).2
  · rw [est, List.length_map]
    exact hl

/-- what the written part says of such an __init__ -/
structure IniF (P : Program) (K : PySem.W.Frag) (C f : Addr) (fd : FuncData) (ps : List Str) (st0 : Stmt) (rest : List Stmt) (qual : Str) (scope : Scope) (cda cc : Addr) : Prop where
  lk : ∃ name params dV kV doc pm an ct oc od osl ar tl, fd = PySem.W.ksFn name qual params (st0 :: rest) scope dV kV doc pm an (.ref cda) ct cc ∧ K.lookup f = some ⟨oc, od, .func fd, osl⟩ ∧ (params.posonlyargs ++ params.args).head? = some ar ∧ ps = ar.arg :: tl
  code : ∃ ccl cdd vs ccs file tf, K.lookup cda = some ⟨ccl, cdd, .fields vs, ccs⟩ ∧ vs[2]? = some (.str file tf) ∧ ((P.main.file : Str) == file) = true
  cd : PySem.W.codeIn K (.ref cda) qual = true
  cell : ∃ cl cld csl, K.lookup cc = some ⟨cl, cld, .cell (some (.ref C)), csl⟩
  opq : PySem.W.nsIn K cStatics "thirdparty.any" = some none
  sup : PySem.W.ks_superIn K C C "__init__" = some (some (.builtin "ValueError.__init__"))
  sub : PySem.W.subIn K (.ref C) (.type "ValueError") = some true
  mro : PySem.W.mroIn K C (.ref C) = some true
  kind : scope.kind = .function
  co : scope.isCoroutine = false
  gen : scope.isGenerator = false
  nd : ps.Nodup
  par : ∀ x ∈ ps, scope.names.lookup x = some .local
  ks : scope.names.lookup ("super" : Str) = some .globalImplicit
  kc : scope.names.lookup ("__class__" : Str) = some .free
  cells : ∀ x ∈ scope.names, x.2 ≠ .cell
  fre : ∀ x ∈ scope.names, x.2 = .free → x.1 = "__class__"
  top : (P.main.scope.names.lookup ("super" : Str)).isSome = false

section
variable {P : Program} {w : World} {K : PySem.W.Frag} {mg : Str → Option Value} {base : Heap} {C f cda cc : Addr} {fd : FuncData} {ps : List Str} {rest : List Stmt} {qual : Str} {scope : Scope} {k : Nat} {sp : Sp} {p0 p1 p2 p3 p4 : Pos} {e : Expr} {es : List Expr}
/-- super().__init__(..), then the rest -/
theorem fn_sup (F : IniF P K C f fd ps (.Expr (.Call (.Attribute (.Call (.Name "super" p0) [] [] p1) "__init__" p2) (e :: es) [] p3) p4) rest qual scope cda cc) (T : OexC K C) (ms : mg "super" = none) (len : ∀ vs H Q E, sp vs H Q E → vs.length = ps.length)
    (hbody : ∀ (A : Around) (outer : List Env) (s : Shared) (H : Hp) (vs : List V) (Q : VK) (E : XK), sp vs H Q E → ∃ (a : Addr) (ws : List V) (ta : L2.TA) (t : TS), vs = .ref a :: ws ∧
      PA (cxSup P w K mg base ps qual scope f (.ref cda) cc A outer s H) (e :: es) ta ∧ PSs (cxSup P w K mg base ps qual scope f (.ref cda) cc A outer s H) rest t ∧ H a = some (exo a C none) ∧
      ta (L2.start ps vs) H fun zs H1 => zs.length ≤ 1000 ∧ H1 = H ∧ t { nx := fun _ H' => Q .non H', rt := Q } (L2.start ps vs) H)
    (he : ∀ env, starEach (e :: es) env = (false, eval e env) :: starEach es env) (hpl : ∀ env, (backTo p3 (starEach es env)).any (·.1) = false)
    (hs : ∀ (L : Addr), swapsWith (.Call (.Attribute (.Call (.Name "super" p0) [] [] p1) "__init__" p2) (e :: es) [] p3) none p4.line (PySem.W.ksEnv qual scope L f (.ref cda) cc) = pure false)
    (hcall : ∀ (L : Addr), ∃ pl : Sem Bool, eval (.Call (.Attribute (.Call (.Name "super" p0) [] [] p1) "__init__" p2) (e :: es) [] p3) (PySem.W.ksEnv qual scope L f (.ref cda) cc) = (do
      let ov ← attributeBase (.Call (.Name "super" p0) [] [] p1) "__init__" (PySem.W.ksEnv qual scope L f (.ref cda) cc) (eval (.Call (.Name "super" p0) [] [] p1) (PySem.W.ksEnv qual scope L f (.ref cda) cc))
      standAt p2.atName
      let (g, first) ← holding [ov] (getMethod ov "__init__" pl)
      callWith p3 g first (backTo p3 (starEach (e :: es) (PySem.W.ksEnv qual scope L f (.ref cda) cc))) [])) :
    FnOk P w K mg base C8.CX0 (k + 1) f fd ps sp := by
  refine ⟨len, fun A outer s H args us vs Q E hr e0 hb r hsp => ?_⟩
  have hl := len _ _ _ _ hsp
  have KX : K.In s.heap := e0.mod.kin.keeps fun b o e => (e0.bs b o e).1
  have lim : s.heap.NoLimit := e0.mod.nolimit.keeps fun b o e => (e0.bs b o e).1
  obtain ⟨name, params, dV, kV, doc, pm, an, ct, oc, od, osl, ar, tl, rfl, lk, hp, hps⟩ := F.lk
  obtain ⟨ccl, cdd, cvs, ccs, file, tf, hcode, hvs, hfile⟩ := F.code
  obtain ⟨cl, cld, csl, hcell⟩ := F.cell
  have nofree : ∀ x, (scope.names.lookup x = some .cell ∨ scope.names.lookup x = some .free) → x = "__class__" := fun x h => by
    rcases h with h | h
    · exact absurd rfl (F.cells _ (PySem.mem_of_lookup h))
    · exact F.fre _ (PySem.mem_of_lookup h) rfl
  obtain ⟨a, ws, ta, t, rfl, hA, hT, hex, hta⟩ := hbody A outer s H vs Q E hsp
  refine ks_codeAny_call_defAt hr.depth (KX _ _ lk) rfl lim (PySem.W.codeRec_of KX F.cd) rfl hb F.cells (fun x hx => F.par _ (List.of_mem_zip hx).1) (fun h₀ hns kk => ?_) F.co F.gen F.kind
  show PySem.wpAt (model P w) (A.deeper (PySem.W.ksEnv qual scope s.heap.objs.size f (.ref cda) cc)) (.func _ (PySem.W.ksEnv qual scope s.heap.objs.size f (.ref cda) cc)) (execs _ (PySem.W.ksEnv qual scope s.heap.objs.size f (.ref cda) cc)) _ _ _
  have I : Inv (cxSup P w K mg base ps qual scope f (.ref cda) cc A outer s H) [] (L2.start ps (.ref a :: ws)) H { s with heap := h₀, toks := s.toks + (ps.zip us).length } :=
    inv_sup F.kind F.nd F.par hcell nofree hr.hd e0 hl r hns kk
  refine PySem.wpAt_mono (E := fun _ _ => False) ?_ (fun _ _ z => z) fun _ _ z => z.elim
  obtain ⟨u0, ur, rfl⟩ : ∃ u0 ur, us = u0 :: ur := by
    cases r with
    | cons h t => exact ⟨_, _, rfl⟩
  have ra : u0 = .ref a := by
    cases r with
    | cons h t => exact h
  subst ra
  have K0 : K.In h₀ := I.kIn
  obtain ⟨nm, q, N, bs, bm, sn, sub, ab, col, dd, k0, k1, k2, k3, k5, hC, hbm⟩ := T.cls
  have hcl : PySem.W.clsIn K C = some { name := nm, bases := bs, mro := .ref C :: bm, ns := N, qualname := q, hasDict := true, slotNames := sn, subclasses := sub, abstract := ab, collection := col, hasDel := false } := by unfold PySem.W.clsIn; rw [hC] <;> rfl
  obtain ⟨t1, hoa⟩ := exo_at I.hok hex
  obtain ⟨pl, hc⟩ := hcall s.heap.objs.size
  have hIa : PySem.W.InstAt h₀ a { cls := .ref C, dict := none, data := .fields #[.ref t1, .none, .none, .none, .bool false, .none] } C none := ⟨hoa, rfl, rfl, trivial⟩
  refine ks_wpAt_execs_cons (ks_wpAt_Expr_any (ks_wpAt_MethodCall (pl := pl) ?_ hc) (by simp [interactive, F.kind]) (hs _))
  obtain ⟨mb, hb1, hb2⟩ := I.mod.blt
  obtain ⟨hp0, g, d, tk, os⟩ := s
  refine ks_wpAt_super_base (env := PySem.W.ksEnv qual scope hp0.objs.size f (.ref cda) cc) F.ks F.kc (by decide) rfl (K0 _ _ lk) rfl hp rfl (K0 _ _ hcode) rfl hvs hfile F.top ?_
  refine PySem.W.ks_loadName_global F.kind F.ks (Calls.loadGlobal_builtin (I.mod.glob.keeps I.bk) ms (hb1.keeps I.bk) ((hb2 _ (by decide +kernel)).trans PyProof.Rows.Boot.super) ⟨rfl, ?_⟩)
  refine wpAny_loadName_free F.kind F.kc rfl ⟨_, K0 _ _ hcell, rfl⟩ ?_
  refine wpAny_loadName_local (v := .ref a) F.kind (F.par _ (by rw [hps]; exact List.mem_cons_self ..)) hns ?_ ?_
  · exact zip_rev F.nd (by rw [← hl]; exact Nat.le_of_eq r.length) (i := 0) (by rw [hps]; rfl) rfl
  have hC0 : h₀.get? C = some (excClassObj nm q C N bs bm true sn sub ab col dd k0 k1 k2 k3 k5 "ValueError.__new__") := K0 _ _ hC
  refine ks_wpAny_isType_cls hC0 rfl ⟨rfl, ?_⟩
  refine ks_wpAny_call_super hC0 rfl hoa rfl (fun c z => by cases z) (PySem.W.looks_mroIn K0 F.mro) (fun h1 so1 kk1 => ?_)
  have I1 : Inv (cxSup P w K mg base ps qual scope f (.ref cda) cc A outer ⟨hp0, g, d, tk, os⟩ H) [] (L2.start ps (.ref a :: ws)) H ⟨h1, g, d, tk + (ps.zip (Value.ref a :: ur)).length, os⟩ := I.kept kk1
  have K1 : K.In h1 := I1.kIn
  have hoa1 := kk1 _ _ hoa
  have hIa1 : PySem.W.InstAt h1 a { cls := .ref C, dict := none, data := .fields #[.ref t1, .none, .none, .none, .bool false, .none] } C none := ⟨hoa1, rfl, rfl, trivial⟩
  have hm := F.sup
  unfold PySem.W.ks_superIn at hm
  rw [hcl] at hm
  refine PySem.W.kxs_getMethod PySem.W.kxs_ValueError so1 (PySem.W.looks_opaque K1 F.opq) (l₀ := .ref C :: bm) ?_ rfl K1 hm (hIa1.type.andThen (PySem.W.looks_subIn K1 F.sub)) (PySem.W.ks_ne K1 hIa1 hcl) (by decide) ?_
  · exact fun A Q E s k q => wpAny_bind ((PySem.W.looks_clsIn K1 hcl) A _ E s k (wpAny_pure q))
  have kk2 : ∀ b o, h1.get? b = some o → (h1.push (PySem.W.kxs_mw "ValueError.__init__" a)).get? b = some o := fun b o e => Heap.get?_push_of_some _ e
  have I2 := (I1.kept (t' := tk + (ps.zip (Value.ref a :: ur)).length + 1) kk2).pins_of (pins' := [(h1.objs.size, PySem.W.kxs_mw "ValueError.__init__" a)]) fun p hp => by
    obtain rfl := List.mem_singleton.mp hp
    refine ⟨Heap.get?_push_at rfl rfl, I1.hok.fresh (Nat.le_refl _), fun z => ?_, I1.nofs (Nat.le_refl _), fun v z => by cases z⟩
    have y := I1.lt
    rw [← z] at y
    exact absurd y (Nat.lt_irrefl _)
  have fin : ∀ (zs : List Value) (s3 : Shared), AP (cxSup P w K mg base ps qual scope f (.ref cda) cc A outer ⟨hp0, g, d, tk, os⟩ H) [(h1.objs.size, PySem.W.kxs_mw "ValueError.__init__" a)] (L2.start ps (.ref a :: ws))
      (fun zs H1 => zs.length ≤ 1000 ∧ H1 = H ∧ t { nx := fun _ H' => Q .non H', rt := Q } (L2.start ps (.ref a :: ws)) H) zs s3 →
      PySem.W.KxsAt "ValueError.__init__" h1.objs.size a s3.heap ∧ wpAny (model P w) (A.deeper (PySem.W.ksEnv qual scope hp0.objs.size f (.ref cda) cc)) (call (.ref h1.objs.size) ([] ++ zs)) (fun _ s4 => PySem.wpAt (model P w) (A.deeper (PySem.W.ksEnv qual scope hp0.objs.size f (.ref cda) cc)) (.func (.Expr (.Call (.Attribute (.Call (.Name "super" p0) [] [] p1) "__init__" p2) (e :: es) [] p3) p4 :: rest) (PySem.W.ksEnv qual scope hp0.objs.size f (.ref cda) cc)) (execs rest (PySem.W.ksEnv qual scope hp0.objs.size f (.ref cda) cc)) (fun f s' => CR C8.CX0 outer P w H ⟨hp0, g, d, tk, os⟩ Q E (.ok (.ret (match f with | .ret v => v | _ => .none))) s') (fun _ _ => False) s4) (fun _ _ => False) s3 := by
    rintro zs ⟨h3, g3, d3, t3, os3⟩ ⟨vz, H1, I3, rz, hz, rfl, ht⟩
    have hu : h3.get? h1.objs.size = some (PySem.W.kxs_mw "ValueError.__init__" a) := (I3.pin (h1.objs.size, PySem.W.kxs_mw "ValueError.__init__" a) (List.mem_append_right _ (List.mem_cons_self ..))).1
    refine ⟨hu, ?_⟩
    have K3 : K.In h3 := I3.kIn
    obtain ⟨t3', hoa3⟩ := exo_at I3.hok hex
    have hzs : zs.length ≤ sizeLine := by
      rw [← rz.length, sizeLine_eq]
      omega
    rw [List.nil_append]
    refine wpAny_call (codeAny_of_tree ?_)
    show wpAny _ _ (callAny (.ref h1.objs.size) ⟨zs, []⟩) _ _ _
    simp only [callAny]
    refine wpAny_bind (wpAny_load hu ?_)
    simp only [PySem.W.kxs_mw, show (Value.type "method-wrapper" == Value.type "method" || Value.type "method-wrapper" == Value.type "builtin_function_or_method" || Value.type "method-wrapper" == Value.type "method-wrapper") = true by decide, if_true]
    refine PySem.W.KFB.if_so (by decide) ?_
    refine wpAny_bind (PySem.W.check_bound_init PySem.F.excBase_ValueError.toExcCallFacts (K3 _ _ hC) hoa3 rfl ?_)
    refine wpAny_bind (wpAny_pure (wpAny_pure ?_))
    refine ⟨plainId_quiet PySem.F.excBase_ValueError.init.plain _, codeAny_builtin PySem.F.excBase_ValueError.initEntry ?_⟩
    refine PySem.W.exc_init_tree (cls := .ref C) (t0 := t3') (dv := none) (c2 := .none) (c3 := .none) (b4 := .bool false) hoa3 hzs fun h4 k4 e4 _ => ?_
    have J := I3.write (t' := t3) (x := a) (e := a) (o := exo a C none) (by rw [hex]; exact True.intro) (.inl rfl) k4 ⟨_, e4⟩ (exo_ok e4)
    have eu : upd H1 a (exo a C none) = H1 := by
      funext b
      by_cases hb : b = a
      · rw [hb, upd_same, hex]
      · rw [upd_ne hb]
    rw [eu] at J
    show PySem.wpAt _ _ _ _ _ _ _
    refine wpAt_of_wpAny (wpAny_mono (hT.run _ _ _ _ _ J ht) (fun fl s5 hs5 => ?_) fun _ _ z => z)
    have fin : ∀ {σ' : L2.St} {H' : Hp} {v : V} {u : Value}, Inv (cxSup P w K mg base ps qual scope f (.ref cda) cc A outer ⟨hp0, g, d, tk, os⟩ H1) [(h1.objs.size, PySem.W.kxs_mw "ValueError.__init__" a)] σ' H' s5 → L2.RelV v u → Q v H' → CE outer P w H1 ⟨hp0, g, d, tk, os⟩ Q u s5 :=
      fun {σ' H' v u} J rv q => ⟨v, H', J.os, J.bare, J.base, J.hok, rv, q⟩
    cases fl with
    | ret u =>
      obtain ⟨v, σ', H', J, rv, q⟩ := hs5
      exact fin J rv q
    | next =>
      obtain ⟨σ', H', J, q⟩ := hs5
      exact fin (v := V.non) (u := Value.none) J rfl q
    | brk =>
      obtain ⟨_, _, _, q⟩ := hs5
      exact False.elim q
    | cont =>
      obtain ⟨_, _, _, q⟩ := hs5
      exact False.elim q
  have run : wpAny (model P w) (A.deeper (PySem.W.ksEnv qual scope hp0.objs.size f (.ref cda) cc)) (spliced (backTo p3 (starEach (e :: es) (PySem.W.ksEnv qual scope hp0.objs.size f (.ref cda) cc)))) _ _ _ := hA.run p3 _ _ _ _ _ I2 hta
  rw [he] at run ⊢
  refine PySem.W.kxs_callWith (i := "ValueError.__init__") (x := a) (by show (false || (backTo p3 (starEach es _)).any (·.1)) = false; rw [hpl]; rfl) (Calls.evalArgs_plain ?_)
  exact wpAny_mono run (fun zs s3 h => fin zs s3 h) fun _ _ z => z
end
end TA

set_option Elab.async false
set_option linter.all false
set_option maxRecDepth 100000
set_option maxHeartbeats 4000000
/-! TaErr: own errors with one field: made, raised, caught -/
namespace TA
open PySem PySem.Spec PyProof.Rows L2

/-- __init__(self, par): super().__init__(..); self.fld = par -/
def spErr1 (C : Addr) (fld : Str) : Sp := fun vs H Q _ => ∃ (a : Addr) (v : V), vs = [.ref a, v] ∧ H a = some (exo a C none) ∧ ∀ dx, H dx = none → dx ≠ a → Q .non (upd (upd H dx (exd dx [(fld, v)])) a (exo a C (some dx)))
section
variable {P : Program} {w : World} {K : PySem.W.Frag} {mg : Str → Option Value} {base : Heap} {C f cda cc : Addr} {fd : FuncData} {qual : Str} {scope : Scope} {k : Nat} {p0 p1 p2 p3 p4 p5 q0 q1 q2 q3 : Pos} {slf par fld msg : Str} {n : Nat}
theorem fn_err1 (F : IniF P K C f fd [slf, par] (.Expr (.Call (.Attribute (.Call (.Name "super" p0) [] [] p1) "__init__" p2) [.Constant (.str msg) n p5] [] p3) p4) [.Assign [.Attribute (.Name slf q0) fld q1] (.Name par q2) q3] qual scope cda cc)
    (T : OexC K C) (ms : mg "super" = none) (hno : PySem.W.findIn K (.ref C) fld = some none)
    (d1 : (slf == ("__debug__" : Str)) = false) (d2 : (par == ("__debug__" : Str)) = false) (d3 : (slf == ("__classdict__" : Str)) = false) (d4 : (par == ("__classdict__" : Str)) = false)
    (hcall : ∀ (L : Addr), ∃ pl : Sem Bool, eval (.Call (.Attribute (.Call (.Name "super" p0) [] [] p1) "__init__" p2) [.Constant (.str msg) n p5] [] p3) (PySem.W.ksEnv qual scope L f (.ref cda) cc) = (do
      let ov ← attributeBase (.Call (.Name "super" p0) [] [] p1) "__init__" (PySem.W.ksEnv qual scope L f (.ref cda) cc) (eval (.Call (.Name "super" p0) [] [] p1) (PySem.W.ksEnv qual scope L f (.ref cda) cc))
      standAt p2.atName
      let (g, first) ← holding [ov] (getMethod ov "__init__" pl)
      callWith p3 g first (backTo p3 (starEach [.Constant (.str msg) n p5] (PySem.W.ksEnv qual scope L f (.ref cda) cc))) [])) : FnOk P w K mg base C8.CX0 (k + 1) f fd [slf, par] (spErr1 C fld) := by
  refine fn_sup F T ms (fun vs H Q E h => ?_) (fun A outer s H vs Q E h => ?_) (fun _ => rfl) (fun _ => rfl) (fun L => rfl) hcall
  · obtain ⟨a, v, rfl, _⟩ := h
    rfl
  · obtain ⟨a, v, rfl, ha, q⟩ := h
    refine ⟨a, [v], _, _, rfl, pa_cons pe_str pa_nil, pss_one (ps_ost (pe_var (i := 0) rfl (.inl (F.par _ (List.mem_cons_self ..))) d1 d3) (pe_var (i := 1) rfl (.inl (F.par _ (List.mem_cons_of_mem _ (List.mem_cons_self ..)))) d2 d4)), ha, ?_⟩
    refine ⟨by simp, rfl, ?_⟩
    exact ⟨v, rfl, .ref a, rfl, a, C, rfl, T, hno, .inl ⟨ha, fun dx h1 h2 => q dx h1 h2⟩⟩
end
end TA

set_option Elab.async false
set_option linter.all false
set_option maxRecDepth 100000
set_option maxHeartbeats 4000000
/-! TaTry: several clauses 'except x as n'; raising an own error with one field; defs that raise -/
namespace TA
open PySem PySem.Spec PyProof.Rows L2

/-- the ends of a suite behind which slot i is empty -/
def endAs (i : Nat) (D : Ends) : Ends := { nx := fun σ' H' => D.nx (σ'.set i none) H', rt := D.rt, bk := fun σ' H' => D.bk (σ'.set i none) H', ct := fun σ' H' => D.ct (σ'.set i none) H' }
/-- what the clauses wish of an exception of the body, one after the other -/
def wAsN (K : PySem.W.Frag) (i : Nat) (Wout : WX) (D : Ends) : List (Value × (Addr → Value → Option Addr → TS)) → WX
  | [] => Wout
  | (c, ts) :: r => fun cls d σ H => ∃ b, PySem.W.exmOne K cls c = some b ∧ (b = true → ∀ a, H a = none → ts a cls d (endAs i D) (σ.set i (some (.ref a))) H) ∧ (b = false → wAsN K i Wout D r cls d σ H)
inductive HdsAs (X : Cx) (n : Str) : List ExceptHandler → List (Value × (Addr → Value → Option Addr → TS)) → Prop
  | nil : HdsAs X n [] []
  | cons {x : Str} {c : Value} {ts : Addr → Value → Option Addr → TS} {b₀ : Stmt} {suite : List Stmt} {np pos' : Pos} {hds : List ExceptHandler} {l : List (Value × (Addr → Value → Option Addr → TS))} (hc : Names X x c)
      (hsu : ∀ (a : Addr) (oe : Obj) (cls : Value) (d : Option Addr) (pn : List (Addr × Obj)), Zc cls d oe → (∃ vs, oe.data = .fields vs) → PSs (X.suite a ((a, oe) :: pn)) (b₀ :: suite) (ts a cls d)) (r : HdsAs X n hds l) :
      HdsAs X n (.ExceptHandler (some (.Name x np)) (some n) (b₀ :: suite) pos' :: hds) ((c, ts) :: l)
section
variable {X : Cx} {body : List Stmt} {n : Str} {i : Nat} {h₀ : ExceptHandler} {hds : List ExceptHandler} {l : List (Value × (Addr → Value → Option Addr → TS))} {pos : Pos} {tb : WX → TS} {Wout : WX}
theorem ps_try_asN (hs : X.stack = X.env :: X.outer) (hf : X.env.frame = some X.env.locals) (hN : X.N.Nodup) (hi : X.N[i]? = some n) (hln : X.env.kindOf n = some .local) (tk : Takes X Wout)
    (hb : ∀ (W : WX) (pn : List (Addr × Obj)) (xe : Value → Shared → Prop), Takes (X.tr pn xe) W → PassesOwn (model X.prog X.w) X.A X.env xe → PSs (X.tr pn xe) body (tb W))
    (hh : HdsAs X n (h₀ :: hds) l) : PS X (.Try body (h₀ :: hds) [] [] pos) (fun D σ H => tb (wAsN X.K i Wout D l) D σ H) := by
  refine ⟨fun pins s σ H D I h => ?_⟩
  have ok := I.ok
  have hfr : X.A.frames = some (X.env :: X.outer) := by rw [ok.frames, hs]
  have hloc : Loc X.env.scope n := .inl hln
  refine wpAny_Try_except ?_
  refine wpAny_mono ((hb (wAsN X.K i Wout D l) (X.pn ++ pins) (fun e s₁ => wpAny (model X.prog X.w) X.A (noteFrame e X.env) (fun _ s₂ => wpAny (model X.prog X.w) X.A (setFlight e none) (fun _ s₃ =>
    wpAny (model X.prog X.w) X.A (handleBy e X.env (h₀ :: hds)) (SP X pins D) X.xe s₃) X.xe s₂) X.xe s₁) (fun u s' xx => ?_) PassesOwn.looking).run [] s σ H D (I.toTry _) h) (fun f s1 hsp => ?_) (fun e s1 he => he)
  · obtain ⟨a, B, sI, pins', σ', H', cls, d, rfl, J', nb, up, sky, na, os, ag, w⟩ := xx
    have J : Inv X pins σ' H' sI := J'.ofTry ok
    have sky' : Sky B (X.env :: X.outer) a (Zc cls d) X.env.locals s'.heap := by rw [← hs]; exact sky
    show wpAny (model X.prog X.w) X.A (noteFrame (.ref a) X.env) _ _ _
    refine Sky.land Zc.steady hfr hf sky' fun h3 fl3 up3 => ?_
    have J3 : Inv X pins σ' H' { s' with heap := h3 } := J.landed nb fl3.1 (up.trans up3) os ag
    obtain ⟨oe3, vs3, he3, hz3, hd3⟩ := fl3.there
    have notFr : ∀ {h : Heap} {o : Obj} {vs : Array Value}, h.FunFrames B (X.env :: X.outer) → h.get? a = some o → o.data = .fields vs → a ∉ frs (X.env :: X.outer) := fun {h o vs} ff e dd hm => by
      obtain ⟨_, o', e', hnf⟩ := ff.mem hm
      rw [e] at e'
      cases e'
      exact hnf _ dd
    have nfr := notFr fl3.2.2.1 he3 hd3
    have nL : a ≠ X.env.locals := fun z => nfr (List.mem_filterMap.mpr ⟨X.env, List.mem_cons_self, by rw [hf, z]⟩)
    have nF : a ∉ X.fs := fun hm => by
      obtain ⟨e, he, q⟩ := List.mem_filterMap.mp hm
      exact nfr (List.mem_filterMap.mpr ⟨e, List.mem_cons_of_mem _ he, q⟩)
    have S3 := J3.suite he3 hd3 na nL nF
    have go : ∀ {hds' : List ExceptHandler} {l' : List (Value × (Addr → Value → Option Addr → TS))}, HdsAs X n hds' l' → wAsN X.K i Wout D l' cls d σ' H' →
        wpAny (model X.prog X.w) X.A (handleBy (.ref a) X.env hds') (SP X pins D) X.xe { s' with heap := h3 } := by
      intro hds' l' hk
      induction hk with
      | nil =>
        intro w
        refine wpAny_handleBy_nil ?_
        obtain ⟨k1, k2, k3, oe, vs, T, oT, ts', he, hz, hd, h1, hr⟩ := id fl3
        unfold PySem.passOn
        refine wpAny_bind (wpAny_field he hd h1 ?_)
        rw [if_neg (show ¬ ((Value.ref T == Value.none) = true) from by simp)]
        have fin : wpAny (model X.prog X.w) X.A (setFlight (.ref a) X.env.frame) (fun _ s4 => wpAny (model X.prog X.w) X.A (throw (.ref a) : Sem Flow) (SP X pins D) X.xe s4) X.xe { s' with heap := h3 } := by
          rw [hf]
          refine HandSPX.setFlight_upZ fl3 fun h4 hh4 up4 => wpAny_throw (tk _ _ ?_)
          exact ⟨a, B, sI, pins, σ', H', cls, d, rfl, J, nb, (up.trans up3).trans up4, .inr (.inr (by rw [hs]; exact hh4)), na, os, ag, w⟩
        first
          | exact wpAny_bind (wpAny_pure (wpAny_bind fin))
          | exact wpAny_bind fin
      | @cons x c ts b₀ suite np pos' hds2 l2 hc hsu r ih =>
        intro w
        obtain ⟨b, hb1, hyes, hno⟩ := w
        refine wpAny_handleBy_cons (codeAny_handlers_test ?_) (by intro q; cases q)
        have LT : PySem.W.Looks (model X.prog X.w) h3 (typeOf (.ref a)) cls := fun A Q E s k q => wpAny_typeOf_ref (k _ _ he3) (by rw [hz3.1]; exact q)
        have LM := PySem.W.exm_one (M := model X.prog X.w) (J3.kIn) LT hb1
        have test : ∀ {Q : Value → Shared → Prop} {E : Value → Shared → Prop}, Q c { s' with heap := h3 } → wpAny (model X.prog X.w) (X.A.mark (some (.ref a))) (eval (.Name x np) X.env) Q E { s' with heap := h3 } := fun {Q E} q => by
          obtain ⟨hg, hdbg, hm | ⟨hm, hv, hnn⟩⟩ := hc
          · exact ld_glob (X := X.suite a ((a, oe3) :: (X.pn ++ pins))) S3 hg hm q hdbg
          · exact ld_blt (X := X.suite a ((a, oe3) :: (X.pn ++ pins))) S3 hg hm hv q hnn hdbg
        refine test (LM.here ?_)
        cases b with
        | true =>
          refine codeAny_handlers_suite_as ?_
          refine HandSPX.lands_againZ fl3 fun h4 fl4 up4 => ?_
          have J4 : Inv X pins σ' H' { s' with heap := h4 } := J.landed nb fl4.1 ((up.trans up3).trans up4) os ag
          obtain ⟨oe4, vs4, he4, hz4, hd4⟩ := fl4.there
          have S4 := J4.suite he4 hd4 na nL nF
          refine store_ok (X := X.suite a ((a, oe4) :: (X.pn ++ pins))) (v := .ref a) S4 hN hi hloc rfl (fun s5 S5 => ?_) (.inr hln)
          refine wpAny_mono ((hsu a oe4 cls d (X.pn ++ pins) hz4 ⟨_, hd4⟩).run [] s5 _ H' _ S5 (hyes rfl a na)) (fun f s6 hsp => ?_) (fun _ _ z => False.elim z)
          have end_ : ∀ {σ6 : L2.St} {H6 : Hp} {Q : Shared → Prop}, Inv (X.suite a ((a, oe4) :: (X.pn ++ pins))) [] σ6 H6 s6 → (∀ s7, Inv X pins (σ6.set i none) H6 s7 → Q s7) →
              wpAny (model X.prog X.w) X.A (do bindName X.env n .none; unbindBehindTheSuite X.env n pos') (fun _ s7 => Q s7) X.xe s6 := fun {σ6 H6 Q} S6 hq => gone_ok (S6.unsuite ok) hN hi hln hq
          cases f with
          | next =>
            obtain ⟨σ6, H6, S6, q6⟩ := hsp
            exact end_ S6 fun s7 J7 => ⟨_, _, J7, q6⟩
          | brk =>
            obtain ⟨σ6, H6, S6, q6⟩ := hsp
            exact end_ S6 fun s7 J7 => ⟨_, _, J7, q6⟩
          | cont =>
            obtain ⟨σ6, H6, S6, q6⟩ := hsp
            exact end_ S6 fun s7 J7 => ⟨_, _, J7, q6⟩
          | ret u =>
            obtain ⟨v6, σ6, H6, S6, r6, q6⟩ := hsp
            exact end_ S6 fun s7 J7 => ⟨_, _, _, J7, r6, q6⟩
        | false =>
          show wpAny _ X.A (handleBy (.ref a) X.env hds2) _ _ _
          exact ih (hno rfl)
    exact go hh w
  · cases f with
    | next =>
      obtain ⟨σ', H', J', q⟩ := hsp
      exact wpAny_execs_nil ⟨σ', H', J'.ofTry ok, q⟩
    | brk =>
      obtain ⟨σ', H', J', q⟩ := hsp
      exact ⟨σ', H', J'.ofTry ok, q⟩
    | cont =>
      obtain ⟨σ', H', J', q⟩ := hsp
      exact ⟨σ', H', J'.ofTry ok, q⟩
    | ret u =>
      obtain ⟨v, σ', H', J', r, q⟩ := hsp
      exact ⟨v, σ', H', J'.ofTry ok, r, q⟩
end

/-! ### an own error with one field -/
structure Err1 (P : Program) (w : World) (K : PySem.W.Frag) (mg : Str → Option Value) (base : Heap) (x : Str) (C : Addr) (fld : Str) : Prop where
  T : OexC K C
  ini : ∃ (fI : Addr) (fd : FuncData) (ps : List Str), PySem.W.findIn K (.ref C) "__init__" = some (some (.ref fI)) ∧ PySem.W.typeIn K (.ref fI) = some (.type "function") ∧ FnOk P w K mg base C8.CX0 1 fI fd ps (spErr1 C fld) ∧ L2.Binds K fd ps []
  gC : mg x = some (.ref C)
  xf : XfC K C
  fno : PySem.W.findIn K (.ref C) fld = some none
/-- raise x(e): its dict is new -/
def tErr1 (C : Addr) (fld : Str) (W : WX) (te : TE) : TS := fun _ σ H => te σ H fun v H1 => ∀ d, H1 d = none → W (.ref C) (some d) σ (upd H1 d (.xd [(fld, v)]))
theorem pe_weak {X : Cx} {e : Expr} {te : TE} (h : PE X e te) : PE X e (fun σ H Q => ∃ R : VK, te σ H R ∧ ∀ v H1, R v H1 → Q v H1) := ⟨fun pins s σ H Q I ⟨R, h1, h2⟩ => thn (h.run pins s σ H R I h1) fun u s1 ⟨v, H1, I1, r, q⟩ => ⟨v, H1, I1, r, h2 v H1 q⟩⟩
theorem ps_err1 {X : Cx} {W : WX} {x fld : Str} {C : Addr} {e : Expr} {te : TE} {p pos pos' : Pos} {j : Nat} (R : Err1 X.prog X.w X.K X.mg X.base x C fld) (hc : X.calm = true) (tk : Takes X W) (hr : Room j X.A) (hj : 2 ≤ j) (hg : Gl X x) (he : PE X e te)
    (hdb : (x == ("__debug__" : Str)) = false := by decide) (hes : starEach [e] X.env = (false, eval e X.env) :: starEach [] X.env := by rfl) :
    PS X (.Raise (some (.Call (.Name x p) [e] [] pos)) none pos') (tErr1 C fld W te) := by
  obtain ⟨fI, fd, ps, i1, i2, i3, i4⟩ := R.ini
  have q := ps_raise (pos := pos') hc tk (pmk_oex (p := p) (pos := pos) R.T i1 i2 i3 (hr.mono hj) i4 .nil C8.pass0 hg R.gC (pa_cons (pe_weak he) pa_nil (hs := hes)) hdb hes rfl)
  refine ⟨fun pins s σ H D I h => q.run pins s σ H D I ?_⟩
  refine ⟨_, h, fun v H1 hv => ⟨by simp, fun a ha => ⟨a, v, rfl, upd_same, fun dx h1 h2 => ⟨rfl, dx, [(fld, v)], upd_same, ?_, ?_, ?_⟩⟩⟩⟩
  · rw [upd_ne h2, upd_same]
  · rw [upd_ne h2] at h1
    exact h1
  · have hd : H1 dx = none := by
      rw [upd_ne h2] at h1
      exact h1
    have e : upd (del (upd (upd (upd H1 a (exo a C none)) dx (exd dx [(fld, v)])) a (exo a C (some dx))) a) dx (.xd [(fld, v)]) = upd H1 dx (.xd [(fld, v)]) := by
      funext b
      by_cases hb : b = dx
      · rw [hb, upd_same, upd_same]
      · rw [upd_ne hb, upd_ne hb]
        by_cases hba : b = a
        · rw [hba, del_same, ha]
        · rw [del_ne hba, upd_ne hba, upd_ne hb, upd_ne hba]
    rw [e]
    exact hv dx hd
/-! ### defs that raise -/
structure CalX (P : Program) (w : World) (K : PySem.W.Frag) (mg : Str → Option Value) (base : Heap) (k : Nat) (x : Str) (sp : Sp) : Prop where
  ex : ∃ (f : Addr) (fd : FuncData) (ps : List Str), FnOk P w K mg base (L2.CX P w) k f fd ps sp ∧ mg x = some (.ref f) ∧ PySem.W.keepIn K (.ref f) = true ∧ L2.Binds K fd ps []
theorem calX_by {P : Program} {w : World} {K : PySem.W.Frag} {mg : Str → Option Value} {base : Heap} {x : Str} {st : Stmt} {f : Addr} {fd : FuncData} {N ps : List Str} {k : Nat} {sp : Sp} (F : C8.Def K mg x st f fd) (b : L2.Binds K fd ps []) (Sc : FnScope N ps (C8.fnScope st))
    (len : ∀ vs H Q E, sp vs H Q E → vs.length = ps.length)
    (hbody : ∀ (cdv : Value) (A : Around) (outer : List Env) (s : Shared) (H : Hp) (vs : List V) (Q : VK) (E : XK), Room k (A.deeper (envOfC x (C8.fnScope st) s.heap.objs.size f cdv)) → sp vs H Q E →
      ∃ t, PSs (cxOf (L2.CX P w) P w K mg base N x (C8.fnScope st) f cdv A outer s H E) (C8.fnBody st) t ∧ t { nx := fun _ H' => Q .non H', rt := Q } (L2.start N vs) H) :
    CalX P w K mg base (k + 1) x sp := by
  obtain ⟨oc, od, dV, kV, doc, pm, an, cdv, ct, osl, rfl, lk, hcd⟩ := F.fn.ex
  exact ⟨f, _, ps, fn_of lk hcd Sc len fun A outer s H vs Q E hr hsp => hbody cdv A outer s H vs Q E hr hsp, F.mgf, F.kp, b⟩
theorem pe_x {X : Cx} {k j : Nat} {x : Str} {sp : Sp} {E : XK} {p pos : Pos} {e : Expr} {es : List Expr} {t : L2.TA} (c : CalX X.prog X.w X.K X.mg X.base k x sp) (hr : Room j X.A) (hk : k ≤ j) (hg : Gl X x) (hx : Passes (L2.CX X.prog X.w) X E) (ha : PA X (e :: es) t)
    (hdb : (x == ("__debug__" : Str)) = false := by decide) (he : starEach (e :: es) X.env = (false, eval e X.env) :: starEach es X.env := by rfl) (hpl : (backTo pos (starEach es X.env)).any (·.1) = false := by rfl) :
    PE X (.Call (.Name x p) (e :: es) [] pos) (tCall sp [] E t) := by
  obtain ⟨f, fd, ps, F, hm, kp, b⟩ := c.ex
  exact pe_call F (hr.mono hk) hg hm kp b .nil hx ha hdb he hpl
end TA

set_option Elab.async false
set_option linter.all false
/-! M47: patterns and paths, in plain words: parts and names of any type, two marks (one: any one name, many: any number) -/
namespace M47
section
variable {α : Type} [DecidableEq α] {one many : α}
/-- the parts can stand for the names -/
inductive Mt (one many : α) : List α → List α → Prop
  | nil : Mt one many [] []
  | step {ps ns : List α} {p n : α} : Mt one many ps ns → (p = one ∨ p = n) → p ≠ many → Mt one many (ps ++ [p]) (ns ++ [n])
  | skip {ps ns : List α} : Mt one many ps ns → Mt one many (ps ++ [many]) ns
  | more {ps ns : List α} {n : α} : Mt one many (ps ++ [many]) ns → Mt one many (ps ++ [many]) (ns ++ [n])
theorem Mt.nil_inv {ns : List α} (h : Mt one many [] ns) : ns = [] := by
  generalize e : ([] : List α) = ps at h
  cases h with
  | nil => rfl
  | step _ _ _ => simp at e
  | skip _ => simp at e
  | more _ => simp at e
theorem app_inj {xs ys : List α} {x y : α} (h : xs ++ [x] = ys ++ [y]) : xs = ys ∧ x = y := by
  have := List.append_inj' h rfl
  exact ⟨this.1, by simpa using this.2⟩
theorem Mt.inv {ps ns : List α} {p : α} (h : Mt one many (ps ++ [p]) ns) :
    (∃ ms n, ns = ms ++ [n] ∧ Mt one many ps ms ∧ (p = one ∨ p = n) ∧ p ≠ many) ∨ (p = many ∧ Mt one many ps ns) ∨ (p = many ∧ ∃ ms n, ns = ms ++ [n] ∧ Mt one many (ps ++ [p]) ms) := by
  generalize e : ps ++ [p] = qs at h
  cases h with
  | nil => simp at e
  | step h1 h2 h3 =>
    obtain ⟨rfl, rfl⟩ := app_inj e
    exact .inl ⟨_, _, rfl, h1, h2, h3⟩
  | skip h1 =>
    obtain ⟨rfl, rfl⟩ := app_inj e
    exact .inr (.inl ⟨rfl, h1⟩)
  | more h1 =>
    obtain ⟨rfl, rfl⟩ := app_inj e
    exact .inr (.inr ⟨rfl, _, _, rfl, h1⟩)
theorem take_snoc {ps : List α} {k : Nat} {p : α} (h : ps[k]? = some p) : ps.take (k + 1) = ps.take k ++ [p] := by
  rw [List.take_succ, h]
  rfl
/-- where one may stand among the parts behind the names -/
def At (one many : α) (ps ns : List α) (k : Nat) : Prop := k ≤ ps.length ∧ (Mt one many (ps.take k) ns ∨ (ps[k]? = some many ∧ Mt one many (ps.take (k + 1)) ns))
theorem at_end {ps ns : List α} : At one many ps ns ps.length ↔ Mt one many ps ns := by
  unfold At
  rw [List.take_length]
  constructor
  · rintro ⟨_, h | ⟨h, _⟩⟩
    · exact h
    · simp at h
  · exact fun h => ⟨Nat.le_refl _, .inl h⟩
/-- the closure by what many stands for: none -/
def openStep (many : α) (ps : List α) (f : List Nat) (i : Nat) : List Nat := if ps[i]? = some many ∧ i ∈ f ∧ i + 1 ∉ f then f ++ [i + 1] else f
def openN (many : α) (ps : List α) (f : List Nat) (i : Nat) : List Nat := (List.range i).foldl (openStep many ps) f
def openF (many : α) (ps : List α) (f : List Nat) : List Nat := openN many ps f ps.length
theorem openN_succ (ps : List α) (f : List Nat) (i : Nat) : openN many ps f (i + 1) = openStep many ps (openN many ps f i) i := by
  unfold openN
  rw [List.range_succ, List.foldl_append]
  rfl
/-- f's own, and what is led to from it -/
theorem openN_mem (ps : List α) (f : List Nat) : ∀ (i : Nat) (k : Nat), k ∈ openN many ps f i ↔ ∃ j, j ∈ f ∧ j ≤ k ∧ (∀ m, j ≤ m → m < k → m < i ∧ ps[m]? = some many)
  | 0, k => by
    show k ∈ f ↔ _
    constructor
    · exact fun h => ⟨k, h, Nat.le_refl _, fun m h1 h2 => by omega⟩
    · rintro ⟨j, h1, h2, h3⟩
      by_cases e : j = k
      · rw [← e]
        exact h1
      · have := (h3 j (Nat.le_refl _) (by omega)).1
        omega
  | i + 1, k => by
    rw [openN_succ]
    have ih := openN_mem ps f i
    unfold openStep
    constructor
    · intro h
      split at h
      · next hc =>
        rcases List.mem_append.mp h with h | h
        · obtain ⟨j, h1, h2, h3⟩ := (ih k).mp h
          exact ⟨j, h1, h2, fun m a b => ⟨by have := (h3 m a b).1; omega, (h3 m a b).2⟩⟩
        · have e : k = i + 1 := by simpa using h
          obtain ⟨j, h1, h2, h3⟩ := (ih i).mp hc.2.1
          refine ⟨j, h1, by omega, fun m a b => ?_⟩
          by_cases em : m = i
          · rw [em]
            exact ⟨by omega, hc.1⟩
          · have := h3 m a (by omega)
            exact ⟨by omega, this.2⟩
      · obtain ⟨j, h1, h2, h3⟩ := (ih k).mp h
        exact ⟨j, h1, h2, fun m a b => ⟨by have := (h3 m a b).1; omega, (h3 m a b).2⟩⟩
    · rintro ⟨j, h1, h2, h3⟩
      by_cases hk : ∀ m, j ≤ m → m < k → m < i
      · have hm : k ∈ openN many ps f i := (ih k).mpr ⟨j, h1, h2, fun m a b => ⟨hk m a b, (h3 m a b).2⟩⟩
        split
        · exact List.mem_append_left _ hm
        · exact hm
      · -- k = i + 1
        have ek : k = i + 1 ∧ j ≤ i := by
          have : ¬ (∀ m, j ≤ m → m < k → m < i) := hk
          refine Classical.byContradiction fun hn => this fun m a b => ?_
          have h4 := (h3 m a b).1
          have h5 := (h3 (k - 1) (by omega) (by omega)).1
          refine Classical.byContradiction fun h6 => hn ?_
          have : m = i := by omega
          exact ⟨by omega, by omega⟩
        have hi : i ∈ openN many ps f i := (ih i).mpr ⟨j, h1, ek.2, fun m a b => ⟨b, (h3 m a (by omega)).2⟩⟩
        have hp : ps[i]? = some many := (h3 i ek.2 (by omega)).2
        rw [ek.1]
        split
        · simp
        · next hc =>
          refine Classical.byContradiction fun hn => hc ⟨hp, hi, ?_⟩
          exact hn
theorem openF_mem {ps : List α} {f : List Nat} {k : Nat} : k ∈ openF many ps f ↔ ∃ j, j ∈ f ∧ j ≤ k ∧ ∀ m, j ≤ m → m < k → ps[m]? = some many := by
  unfold openF
  rw [openN_mem]
  constructor
  · rintro ⟨j, h1, h2, h3⟩
    exact ⟨j, h1, h2, fun m a b => (h3 m a b).2⟩
  · rintro ⟨j, h1, h2, h3⟩
    exact ⟨j, h1, h2, fun m a b => ⟨by
      have := h3 m a b
      exact (List.getElem?_eq_some_iff.mp this).1, h3 m a b⟩⟩
theorem openN_nodup {ps : List α} {f : List Nat} (h : f.Nodup) : ∀ i, (openN many ps f i).Nodup
  | 0 => h
  | i + 1 => by
    rw [openN_succ]
    unfold openStep
    split
    · next hc =>
      rw [List.nodup_append]
      refine ⟨openN_nodup h i, by simp, fun a ha b hb => ?_⟩
      have : b = i + 1 := by simpa using hb
      rintro rfl
      exact hc.2.2 (by rw [← this]; exact ha)
    · exact openN_nodup h i
theorem openN_len (ps : List α) (f : List Nat) : ∀ i, (openN many ps f i).length ≤ f.length + i
  | 0 => Nat.le_refl _
  | i + 1 => by
    rw [openN_succ]
    have := openN_len ps f i
    unfold openStep
    split
    · rw [List.length_append]
      simp only [List.length_cons, List.length_nil]
      omega
    · omega
/-- a name is taken -/
def moveStep (one many : α) (non : α) (ps : List α) (n : α) (f : List Nat) (k : Nat) : List Nat :=
  let p := (ps[k]?).getD non
  let b := if p = many then k else k + 1
  if (p = one ∨ p = many ∨ p = n) ∧ b ∉ f then f ++ [b] else f
def moveF (one many non : α) (ps : List α) (n : α) (ks : List Nat) : List Nat := ks.foldl (moveStep one many non ps n) []
theorem moveStep_mem {non : α} {ps : List α} {n : α} {f : List Nat} {k b : Nat} : b ∈ moveStep one many non ps n f k ↔ b ∈ f ∨
    (((ps[k]?).getD non = one ∨ (ps[k]?).getD non = many ∨ (ps[k]?).getD non = n) ∧ b = if (ps[k]?).getD non = many then k else k + 1) := by
  unfold moveStep
  simp only
  by_cases hc : ((ps[k]?).getD non = one ∨ (ps[k]?).getD non = many ∨ (ps[k]?).getD non = n) ∧ (if (ps[k]?).getD non = many then k else k + 1) ∉ f
  · rw [if_pos hc, List.mem_append, List.mem_singleton]
    constructor
    · rintro (h | h)
      · exact .inl h
      · exact .inr ⟨hc.1, h⟩
    · rintro (h | ⟨_, h⟩)
      · exact .inl h
      · exact .inr h
  · rw [if_neg hc]
    constructor
    · exact .inl
    · rintro (h | ⟨h1, h2⟩)
      · exact h
      · rw [h2]
        exact Classical.byContradiction fun hn => hc ⟨h1, hn⟩
theorem moveF_mem' {non : α} {ps : List α} {n : α} : ∀ {ks f : List Nat} {b : Nat}, b ∈ ks.foldl (moveStep one many non ps n) f ↔ b ∈ f ∨
    ∃ k ∈ ks, ((ps[k]?).getD non = one ∨ (ps[k]?).getD non = many ∨ (ps[k]?).getD non = n) ∧ b = if (ps[k]?).getD non = many then k else k + 1
  | [], f, b => by simp
  | k :: ks, f, b => by
    rw [List.foldl_cons, moveF_mem', moveStep_mem]
    constructor
    · rintro ((h | h) | ⟨k', h1, h2⟩)
      · exact .inl h
      · exact .inr ⟨k, List.mem_cons_self .., h⟩
      · exact .inr ⟨k', List.mem_cons_of_mem _ h1, h2⟩
    · rintro (h | ⟨k', h1, h2⟩)
      · exact .inl (.inl h)
      · rcases List.mem_cons.mp h1 with rfl | h1
        · exact .inl (.inr h2)
        · exact .inr ⟨k', h1, h2⟩
theorem moveStep_nodup {non : α} {ps : List α} {n : α} {f : List Nat} {k : Nat} (h : f.Nodup) : (moveStep one many non ps n f k).Nodup := by
  unfold moveStep
  simp only
  generalize (if (ps[k]?).getD non = many then k else k + 1) = b
  split
  · next hc =>
    rw [List.nodup_append]
    refine ⟨h, by simp, fun a ha b' hb => ?_⟩
    have e := List.mem_singleton.mp hb
    rintro rfl
    exact hc.2 (by rw [← e]; exact ha)
  · exact h
theorem moveStep_len {non : α} {ps : List α} {n : α} {f : List Nat} {k : Nat} : (moveStep one many non ps n f k).length ≤ f.length + 1 := by
  unfold moveStep
  simp only
  generalize (if (ps[k]?).getD non = many then k else k + 1) = b
  split
  · rw [List.length_append]
    simp
  · omega
theorem moveF_nodup' {non : α} {ps : List α} {n : α} : ∀ {ks f : List Nat}, f.Nodup → (ks.foldl (moveStep one many non ps n) f).Nodup
  | [], f, h => h
  | k :: ks, f, h => by
    rw [List.foldl_cons]
    exact moveF_nodup' (moveStep_nodup h)
theorem moveF_len' {non : α} {ps : List α} {n : α} : ∀ {ks f : List Nat}, (ks.foldl (moveStep one many non ps n) f).length ≤ f.length + ks.length
  | [], f => Nat.le_refl _
  | k :: ks, f => by
    rw [List.foldl_cons, List.length_cons]
    refine Nat.le_trans moveF_len' ?_
    have := moveStep_len (one := one) (many := many) (non := non) (ps := ps) (n := n) (f := f) (k := k)
    omega
/-- at first one may stand where many stands for none -/
theorem at_start {ps : List α} {k : Nat} : k ∈ openF many ps [0] ↔ At one many ps [] k := by
  rw [openF_mem]
  have key : ∀ k, (∀ m, m < k → ps[m]? = some many) → Mt one many (ps.take k) [] := by
    intro k
    induction k with
    | zero => exact fun _ => .nil
    | succ k ih =>
      intro h
      rw [take_snoc (h k (by omega))]
      exact .skip (ih fun m hm => h m (by omega))
  have back : ∀ k, k ≤ ps.length → Mt one many (ps.take k) [] → ∀ m, m < k → ps[m]? = some many := by
    intro k
    induction k with
    | zero => intro _ _ m hm; omega
    | succ k ih =>
      intro hk h m hm
      have hp : ps[k]? = some ps[k] := List.getElem?_eq_getElem (by omega)
      rw [take_snoc hp] at h
      rcases h.inv with ⟨ms, n, e, _⟩ | ⟨e, h⟩ | ⟨e, ms, n, e2, _⟩
      · simp at e
      · by_cases em : m = k
        · rw [em, hp, e]
        · exact ih (by omega) h m (by omega)
      · simp at e2
  constructor
  · rintro ⟨j, h1, h2, h3⟩
    have : j = 0 := by simpa using h1
    subst this
    have hk : k ≤ ps.length := by
      refine Classical.byContradiction fun hn => ?_
      have := h3 ps.length (by omega) (by omega)
      simp at this
    exact ⟨hk, .inl (key k fun m hm => h3 m (by omega) hm)⟩
  · rintro ⟨hk, h | ⟨h1, h2⟩⟩
    · exact ⟨0, by simp, by omega, fun m _ hm => back k hk h m hm⟩
    · have hk' : k + 1 ≤ ps.length := (List.getElem?_eq_some_iff.mp h1).1
      exact ⟨0, by simp, by omega, fun m _ hm => back (k + 1) hk' h2 m (by omega)⟩
/-- a name more -/
theorem at_next {non : α} {ps ns : List α} {n : α} {ks : List Nat} (hno : non ≠ one ∧ non ≠ many ∧ non ≠ n) (h : ∀ k, k ∈ ks ↔ At one many ps ns k) (k : Nat) :
    k ∈ openF many ps (moveF one many non ps n ks) ↔ At one many ps (ns ++ [n]) k := by
  have mv : ∀ b, b ∈ moveF one many non ps n ks ↔ ∃ k ∈ ks, ∃ p, ps[k]? = some p ∧ (p = one ∨ p = many ∨ p = n) ∧ b = if p = many then k else k + 1 := by
    intro b
    unfold moveF
    rw [moveF_mem']
    constructor
    · rintro (h | ⟨k, hk, h1, h2⟩)
      · cases h
      · cases hp : ps[k]? with
        | none =>
          rw [hp] at h1
          simp only [Option.getD_none] at h1
          rcases h1 with e | e | e
          · exact absurd e hno.1
          · exact absurd e hno.2.1
          · exact absurd e hno.2.2
        | some p =>
          rw [hp] at h1 h2
          exact ⟨k, hk, p, hp, h1, h2⟩
    · rintro ⟨k, hk, p, hp, h1, h2⟩
      refine .inr ⟨k, hk, ?_⟩
      rw [hp]
      exact ⟨h1, h2⟩
  -- what a taken name leads to
  have fwd : ∀ b, b ∈ moveF one many non ps n ks → At one many ps (ns ++ [n]) b := by
    intro b hb
    obtain ⟨k, hk, p, hp, h1, rfl⟩ := (mv b).mp hb
    obtain ⟨hle, hat⟩ := (h k).mp hk
    have hlt : k + 1 ≤ ps.length := (List.getElem?_eq_some_iff.mp hp).1
    by_cases e : p = many
    · rw [if_pos e]
      subst e
      have m1 : Mt one p (ps.take (k + 1)) ns := by
        rcases hat with hat | ⟨_, hat⟩
        · rw [take_snoc hp]
          exact .skip hat
        · exact hat
      rw [take_snoc hp] at m1
      exact ⟨hle, .inr ⟨hp, by rw [take_snoc hp]; exact .more m1⟩⟩
    · rw [if_neg e]
      refine ⟨hlt, .inl ?_⟩
      rw [take_snoc hp]
      rcases hat with hat | ⟨h2, _⟩
      · refine .step hat ?_ e
        rcases h1 with h1 | h1 | h1
        · exact .inl h1
        · exact absurd h1 e
        · exact .inr h1
      · rw [hp] at h2
        exact absurd (Option.some.inj h2) e
  have up : ∀ j, At one many ps (ns ++ [n]) j → ps[j]? = some many → At one many ps (ns ++ [n]) (j + 1) := by
    rintro j ⟨hle, hat⟩ hp
    refine ⟨(List.getElem?_eq_some_iff.mp hp).1, .inl ?_⟩
    rcases hat with hat | ⟨_, hat⟩
    · rw [take_snoc hp]
      exact .skip hat
    · exact hat
  constructor
  · intro hk
    obtain ⟨j, h1, h2, h3⟩ := openF_mem.mp hk
    have : ∀ d, j + d ≤ k → At one many ps (ns ++ [n]) (j + d) := by
      intro d
      induction d with
      | zero => exact fun _ => fwd j h1
      | succ d ih => exact fun hd => up (j + d) (ih (by omega)) (h3 (j + d) (by omega) (by omega))
    have e := this (k - j) (by omega)
    rw [show j + (k - j) = k by omega] at e
    exact e
  · -- back: by the number of the part
    have cl : ∀ j, j ∈ openF many ps (moveF one many non ps n ks) → ps[j]? = some many → j + 1 ∈ openF many ps (moveF one many non ps n ks) := by
      intro j hj hp
      obtain ⟨i, h1, h2, h3⟩ := openF_mem.mp hj
      refine openF_mem.mpr ⟨i, h1, by omega, fun m a b => ?_⟩
      by_cases e : m = j
      · rw [e]
        exact hp
      · exact h3 m a (by omega)
    have incl : ∀ b, b ∈ moveF one many non ps n ks → b ∈ openF many ps (moveF one many non ps n ks) := fun b hb => openF_mem.mpr ⟨b, hb, Nat.le_refl _, fun m a c => by omega⟩
    have first : ∀ k, k ≤ ps.length → Mt one many (ps.take k) (ns ++ [n]) → k ∈ openF many ps (moveF one many non ps n ks) := by
      intro k
      induction k with
      | zero =>
        intro _ h
        have := h.nil_inv
        simp at this
      | succ k ih =>
        intro hk hm
        have hp : ps[k]? = some ps[k] := List.getElem?_eq_getElem (by omega)
        rw [take_snoc hp] at hm
        rcases hm.inv with ⟨ms, n', e, h1, h2, h3⟩ | ⟨e, h1⟩ | ⟨e, ms, n', e2, h1⟩
        · obtain ⟨rfl, rfl⟩ := app_inj e
          refine incl _ ((mv _).mpr ⟨k, (h k).mpr ⟨by omega, .inl h1⟩, _, hp, ?_, by rw [if_neg h3]⟩)
          rcases h2 with h2 | h2
          · exact .inl h2
          · exact .inr (.inr h2)
        · exact cl k (ih (by omega) h1) (by rw [hp, e])
        · obtain ⟨rfl, rfl⟩ := app_inj e2
          refine cl k (incl _ ((mv _).mpr ⟨k, (h k).mpr ⟨by omega, .inr ⟨by rw [hp, e], ?_⟩⟩, _, hp, .inr (.inl e), by rw [if_pos e]⟩)) (by rw [hp, e])
          rw [take_snoc hp]
          exact h1
    rintro ⟨hk, hm | ⟨hp, hm⟩⟩
    · exact first k hk hm
    · rw [take_snoc hp] at hm
      rcases hm.inv with ⟨ms, n', e, h1, h2, h3⟩ | ⟨e, h1⟩ | ⟨e, ms, n', e2, h1⟩
      · exact absurd rfl h3
      · exact first k hk h1
      · obtain ⟨rfl, rfl⟩ := app_inj e2
        refine incl _ ((mv _).mpr ⟨k, (h k).mpr ⟨hk, .inr ⟨hp, ?_⟩⟩, _, hp, .inr (.inl rfl), by rw [if_pos rfl]⟩)
        rw [take_snoc hp]
        exact h1
/-! ### the other way: part by part, where one may stand among the names -/
def En (one many : α) (ps ns : List α) (i : Nat) (e : Nat) : Prop := e ≤ ns.length ∧ Mt one many (ps.take i) (ns.take e)
theorem en_zero {ps ns : List α} {e : Nat} : En one many ps ns 0 e ↔ e = 0 := by
  unfold En
  constructor
  · rintro ⟨h1, h2⟩
    have := Mt.nil_inv (show Mt one many [] (ns.take e) from h2)
    rw [List.take_eq_nil_iff] at this
    rcases this with h | h
    · exact h
    · rw [h] at h1
      simpa using h1
  · rintro rfl
    exact ⟨Nat.zero_le _, .nil⟩
theorem en_end {ps ns : List α} : En one many ps ns ps.length ns.length ↔ Mt one many ps ns := by
  unfold En
  rw [List.take_length, List.take_length]
  exact ⟨fun h => h.2, fun h => ⟨Nat.le_refl _, h⟩⟩
theorem en_many {ps ns : List α} {i : Nat} (hp : ps[i]? = some many) (e : Nat) : En one many ps ns (i + 1) e ↔ e ≤ ns.length ∧ ∃ b, En one many ps ns i b ∧ b ≤ e := by
  unfold En
  rw [take_snoc hp]
  constructor
  · rintro ⟨h1, h2⟩
    refine ⟨h1, ?_⟩
    induction e with
    | zero =>
      rcases h2.inv with ⟨ms, n, e, _, _, h⟩ | ⟨_, h⟩ | ⟨_, ms, n, e, _⟩
      · exact absurd rfl h
      · exact ⟨0, ⟨by omega, h⟩, by omega⟩
      · simp at e
    | succ e ih =>
      rcases h2.inv with ⟨ms, n, e, _, _, h⟩ | ⟨_, h⟩ | ⟨_, ms, n, e2, h⟩
      · exact absurd rfl h
      · exact ⟨e + 1, ⟨h1, h⟩, by omega⟩
      · rw [take_snoc (List.getElem?_eq_getElem (show e < ns.length by omega))] at e2
        obtain ⟨rfl, _⟩ := app_inj e2
        obtain ⟨b, hb, hle⟩ := ih (by omega) h
        exact ⟨b, hb, by omega⟩
  · rintro ⟨h1, b, ⟨h2, h3⟩, h4⟩
    refine ⟨h1, ?_⟩
    have : ∀ d, b + d ≤ e → Mt one many (ps.take i ++ [many]) (ns.take (b + d)) := by
      intro d
      induction d with
      | zero => exact fun _ => .skip h3
      | succ d ih =>
        intro hd
        rw [← Nat.add_assoc, take_snoc (List.getElem?_eq_getElem (show b + d < ns.length by omega))]
        exact .more (ih (by omega))
    have q := this (e - b) (by omega)
    rw [show b + (e - b) = e by omega] at q
    exact q
theorem en_one {ps ns : List α} {i : Nat} {p : α} (hp : ps[i]? = some p) (hm : p ≠ many) (e : Nat) : En one many ps ns (i + 1) e ↔ ∃ b n, e = b + 1 ∧ En one many ps ns i b ∧ ns[b]? = some n ∧ (p = one ∨ p = n) := by
  unfold En
  rw [take_snoc hp]
  constructor
  · rintro ⟨h1, h2⟩
    rcases h2.inv with ⟨ms, n, e1, h3, h4, _⟩ | ⟨h, _⟩ | ⟨h, _⟩
    · cases e with
      | zero => simp at e1
      | succ b =>
        have hb : ns[b]? = some ns[b] := List.getElem?_eq_getElem (by omega)
        rw [take_snoc hb] at e1
        obtain ⟨rfl, rfl⟩ := app_inj e1
        exact ⟨b, _, rfl, ⟨by omega, h3⟩, hb, h4⟩
    · exact absurd h hm
    · exact absurd h hm
  · rintro ⟨b, n, rfl, ⟨h1, h2⟩, hb, h4⟩
    refine ⟨(List.getElem?_eq_some_iff.mp hb).1, ?_⟩
    rw [take_snoc hb]
    exact .step h2 h4 hm
end
end M47

set_option Elab.async false
set_option linter.all false
set_option maxRecDepth 100000
set_option maxHeartbeats 4000000
namespace K47
open PySem PySem.Spec PyProof.Rows L2
open SX (S)
def topS (i : Nat) : Stmt := PySem.Challenge.pw_trueagain_k47_patterns_matched.main.body.getD i (.Pass ⟨0, 0, 0, 0⟩)
abbrev st_is_name : Stmt := topS 7
theorem sc_is_name : FnScope ["thing", "letter"] ["thing"] (C8.fnScope st_is_name) := C8.fnScope_by (by decide +kernel)
abbrev st_is_path : Stmt := topS 8
theorem sc_is_path : FnScope ["thing", "part"] ["thing"] (C8.fnScope st_is_path) := C8.fnScope_by (by decide +kernel)
abbrev st_is_pattern : Stmt := topS 10
theorem sc_is_pattern : FnScope ["thing", "part"] ["thing"] (C8.fnScope st_is_pattern) := C8.fnScope_by (by decide +kernel)
abbrev st_opened : Stmt := topS 11
theorem sc_opened : FnScope ["parts", "spots", "found", "at", "part"] ["parts", "spots"] (C8.fnScope st_opened) := C8.fnScope_by (by decide +kernel)
abbrev st_moved : Stmt := topS 12
theorem sc_moved : FnScope ["parts", "spots", "name", "after", "at", "part", "behind"] ["parts", "spots", "name"] (C8.fnScope st_moved) := C8.fnScope_by (by decide +kernel)
abbrev st_led : Stmt := topS 13
theorem sc_led : FnScope ["parts", "names", "spots", "name"] ["parts", "names"] (C8.fnScope st_led) := C8.fnScope_by (by decide +kernel)
abbrev st_matched : Stmt := topS 14
theorem sc_matched : FnScope ["pattern", "path", "parts"] ["pattern", "path"] (C8.fnScope st_matched) := C8.fnScope_by (by decide +kernel)
abbrev st_matches : Stmt := topS 15
theorem sc_matches : FnScope ["pattern", "path"] ["pattern", "path"] (C8.fnScope st_matches) := C8.fnScope_by (by decide +kernel)
abbrev st__law_draw : Stmt := topS 17
theorem sc__law_draw : FnScope ["_law_stream", "_law_many", "_law_digit", "_law_mixed"] ["_law_stream", "_law_many"] (C8.fnScope st__law_draw) := C8.fnScope_by (by decide +kernel)
abbrev st__law_pick : Stmt := topS 18
theorem sc__law_pick : FnScope ["_law_stream", "_law_things"] ["_law_stream", "_law_things"] (C8.fnScope st__law_pick) := C8.fnScope_by (by decide +kernel)
abbrev st__law_same : Stmt := topS 19
theorem sc__law_same : FnScope ["_law_found", "_law_due"] ["_law_found", "_law_due"] (C8.fnScope st__law_same) := C8.fnScope_by (by decide +kernel)
abbrev st__law_fresh : Stmt := topS 20
theorem sc__law_fresh : FnScope ["_law_stream", "_law_taken", "_law_letters", "_law_words", "_law_k", "_law_name", "_law_spare"] ["_law_stream", "_law_taken"] (C8.fnScope st__law_fresh) := C8.fnScope_by (by decide +kernel)
abbrev st__law_pool : Stmt := topS 21
theorem sc__law_pool : FnScope ["_law_stream", "_law_many", "_law_found", "_law_k"] ["_law_stream", "_law_many"] (C8.fnScope st__law_pool) := C8.fnScope_by (by decide +kernel)
abbrev st__law_path : Stmt := topS 22
theorem sc__law_path : FnScope ["_law_stream", "_law_pool_here", "_law_most", "_law_k"] ["_law_stream", "_law_pool_here", "_law_most"] (C8.fnScope st__law_path) := C8.fnScope_by (by decide +kernel)
abbrev st__law_pattern : Stmt := topS 23
theorem sc__law_pattern : FnScope ["_law_stream", "_law_pool_here", "_law_most", "_law_some", "_law_k"] ["_law_stream", "_law_pool_here", "_law_most"] (C8.fnScope st__law_pattern) := C8.fnScope_by (by decide +kernel)
abbrev st__law_stood_for : Stmt := topS 24
theorem sc__law_stood_for : FnScope ["_law_stream", "_law_pool_here", "_law_pattern_here", "_law_found", "_law_part", "_law_many", "_law_k"] ["_law_stream", "_law_pool_here", "_law_pattern_here"] (C8.fnScope st__law_stood_for) := C8.fnScope_by (by decide +kernel)
abbrev st__law_matches : Stmt := topS 25
theorem sc__law_matches : FnScope ["_law_pattern_here", "_law_path_here", "_law_names", "_law_ends", "_law_part", "_law_later", "_law_end"] ["_law_pattern_here", "_law_path_here"] (C8.fnScope st__law_matches) := C8.fnScope_by (by decide +kernel)
abbrev st__law_tried : Stmt := topS 26
theorem sc__law_tried : FnScope ["_law_ask", "_law_found", "e"] ["_law_ask"] (C8.fnScope st__law_tried) := C8.fnScope_by (by decide +kernel)
abbrev st_law : Stmt := topS 27
theorem sc_law : FnScope ["_law_script", "_law_stream", "_law_turn", "_law_pool_here", "_law_found", "_law_bad", "_law_odd", "_law_path_here", "_law_pattern_here"] ["_law_script"] (C8.fnScope st_law) := C8.fnScope_by (by decide +kernel)
/-- what the top has left: built-ins that stand, the module's constants -/
structure Txt (mg : Str → Option Value) : Prop where
  m_isinstance : mg "isinstance" = none
  m_str : mg "str" = none
  m_len : mg "len" = none
  m_all : mg "all" = none
  m_list : mg "list" = none
  m_tuple : mg "tuple" = none
  m_sorted : mg "sorted" = none
  m_enumerate : mg "enumerate" = none
  m_range : mg "range" = none
  m_int : mg "int" = none
  m_set : mg "set" = none
  m_repr : mg "repr" = none
  g_LETTERS : ∃ u, mg "LETTERS" = some u ∧ RelV (.str "abcdefghijklmnopqrstuvwxyz") u
  g_LONGEST : ∃ u, mg "LONGEST" = some u ∧ RelV (.int 8) u
section
variable {P : Program} {w : World} {K : PySem.W.Frag} {mg : Str → Option Value} {base : Heap}
/-! ### is_name -/
def letters : Str := "abcdefghijklmnopqrstuvwxyz"
/-- letters a to z -/
def isLet (ch : Nat) : Bool := decide (ch ∈ letters.cps.toList)
def nmB (x : Str) : Bool := decide (1 ≤ x.length) && decide (x.length ≤ 8) && x.cps.toList.all isLet
abbrev psIsName (x : Str) : List TA.Po := [TA.is (.str x)]
abbrev poIsName (x : Str) : TA.Po := TA.aB (· = nmB x)
def spIsName : Sp := TA.spF (fun x : Str => x.length ≤ 100000) psIsName poIsName
theorem all_map {α : Type} (f : α → Bool) (xs : List α) : (xs.map f).all id = xs.all f := by
  rw [List.all_map]
  rfl
open TA in
theorem c_is_name {f : Addr} {fd : FuncData} (T : Txt mg) (F : C8.Def K mg "is_name" st_is_name f fd) (b : Binds K fd ["thing"] []) : C8.Cal P w K mg base 1 "is_name" spIsName [] := by
  refine C8.cal0 F b .nil sc_is_name (fun vs H Q E h => spF_len h fun _ => rfl) (fun cdv A outer s H vs Q E hr h => ?_)
  · obtain ⟨x, S0, hz, j0, ⟨v, r, φ, rfl, ⟨rfl, _⟩, _, hn⟩, fin⟩ := h
    cases (show r = [] from hn)
    refine ⟨_, (pss_one (ps_ret (pe_and (pe_callB call_isi (by rfl) T.m_isinstance (by decide +kernel) (pa_cons (pv 0) (pa_cons (pe_bltn (v := .ty "str") (by rfl) T.m_str (by decide +kernel) rfl) pa_nil))) (pe_and (pe_chain op_le op_le pe_int (pe_callB call_len_str (by rfl) T.m_len (by decide +kernel) (pa_cons (pv 0) pa_nil)) (C8.pe_gc (by rfl) T.g_LONGEST)) (pe_one (pe_callB (cr_all rfl) (by rfl) T.m_all (by decide +kernel) (pa_cons (pe_lc (own := [("letter", 1)]) (g := (gName 1)) (by rfl) sc_is_name.nd (pi_str (pv 0)) (blkOk_by (own := [("letter", 1)]) (N := ["thing", "letter"]) (sc := C8.fnScope st_is_name) (by decide +kernel)) (fun _ _ _ _ _ => (pg_name (i := 1) sc_is_name.nd rfl (Or.inl rfl))) (fun _ _ _ _ _ => pts_nil) (fun _ _ _ _ _ => (pe_cmpR op_inS (pv 1) (C8.pe_gc (by rfl) T.g_LETTERS) (by rfl)))) pa_nil))))))), ?_⟩
    refine s_ret (c := ⟨sd0, S0⟩) (n := 0) (P := aB (· = nmB x)) (Ev.imp (ev_andV (A := (· = true)) (ev_cb (ea_cons (ev_var rfl) (ea_cons ev_c ea_nil)) (cl_isi fun H _ => ⟨_, .base (.str x), kit_ty (by decide +kernel)⟩))
      fun _ => ev_andV (ev_chain ev_cI (ev_cb (ea_cons (ev_varS rfl) ea_nil) (cl_lenS (A := (· = x)) fun z e => by rw [e]; omega)) ev_cI) fun _ =>
        ev_cb (ea_cons (Ev.toL (Ev.bools (ev_lcS (fun ch => .bl (isLet ch)) (ev_varS rfl) hz (fun _ => rfl) fun i ch D ys hc => Ev.imp (ev_op ((ev_var rfl).imp fun v φ p => ⟨p.2, _, ⟨ch, rfl, rfl⟩, p.1⟩) ev_cS op_sign) ?_))) ea_nil) cl_all) ?_) Kn.start j0 ?_
    · rintro v φ ⟨e, b, ⟨ch', z, rfl, rfl, rfl⟩, rfl⟩
      exact ⟨e, rfl⟩
    · rintro v φ ⟨e, b, h, rfl⟩
      refine ⟨e, _, ?_, rfl⟩
      unfold nmB
      simp only [Bool.true_eq_false, Bool.false_eq_true, and_false, and_true, true_and, false_or] at h
      rcases h with ⟨rfl, i, j, rfl, ⟨z, rfl, rfl⟩, h⟩ | ⟨⟨i, j, rfl, ⟨z, rfl, rfl⟩, h⟩, bs, hbs, rfl⟩
      · rcases h with h | ⟨k, rfl, h1, h2⟩
        · have : ¬ (1 ≤ z.length) := by
            have := of_decide_eq_false h
            omega
          simp [this]
        · have : ¬ (z.length ≤ 8) := by
            have := of_decide_eq_false h2.symm
            omega
          simp [this]
      · rcases h with ⟨h, _⟩ | ⟨k, rfl, h1, h2⟩
        · cases h
        · have a1 := of_decide_eq_true h1
          have a2 := of_decide_eq_true h2.symm
          have a3 : 1 ≤ z.length := by omega
          have a4 : z.length ≤ 8 := by omega
          simp only [a3, a4, decide_true, Bool.true_and, hbs, all_map]
    · intro v φ H' e hP k3 j3
      exact fin_F fin j0 hP k3 m0 j3
/-! ### is_path, is_pattern -/
def pathB (x : Str) : Bool := (TA.parts x).all nmB
def patB (x : Str) : Bool := (TA.parts x).all fun y => decide (y = "*") || decide (y = "**") || nmB y
/-- what is no text -/
def noTx (K : PySem.W.Frag) (v : V) : Hp → Prop := fun H => ∃ t, TyX K H v t ∧ PySem.W.kitOne K t (.type "str") = some false
/-- told of a text, or of what is none -/
def okText (x : V) : Prop := ∀ z, x = .str z → z.length ≤ 10000
def txB (f : Str → Bool) : V → Bool
  | .str z => f z
  | _ => false
def isTx : V → Bool
  | .str _ => true
  | _ => false
abbrev psText (K : PySem.W.Frag) (x : V) : List TA.Po := [fun v φ => v = x ∧ (isTx x = false → φ = noTx K x)]
abbrev poText (f : Str → Bool) (x : V) : TA.Po := TA.aB (· = txB f x)
def spText (K : PySem.W.Frag) (f : Str → Bool) : Sp := TA.spF okText (psText K) (poText f)
open TA in
theorem u_is_name {c : TA.Ctx} {l : List (Hp → Prop)} {x : Str} (hx : x.length ≤ 100000) : Cl c l 0 [is (.str x)] (fun vs H Q => spIsName vs H Q C8.E0) (aB (· = nmB x)) := cl_spF (ok := fun x : Str => x.length ≤ 100000) (Ps := psIsName) (P := poIsName) x hx
open TA in
theorem u_text {c : TA.Ctx} {l : List (Hp → Prop)} {f : Str → Bool} (x : V) (hx : okText x) : Cl c l 0 (psText K x) (fun vs H Q => spText K f vs H Q C8.E0) (poText f x) := cl_spF (ok := okText) (Ps := psText K) (P := poText f) x hx
def onStr (f : Str → Bool) : V → V
  | .str x => .bl (f x)
  | _ => .non
theorem map_onStr (f : Str → Bool) (ss : List Str) : (ss.map V.str).map (onStr f) = ss.map fun x => V.bl (f x) := by
  rw [List.map_map]
  rfl
theorem str_item {ss : List Str} {i : Nat} {v : V} (h : (ss.map V.str)[i]? = some v) : ∃ y, y ∈ ss ∧ v = .str y := by
  rw [List.getElem?_map] at h
  cases e : ss[i]? with
  | none => rw [e] at h; cases h
  | some y => rw [e] at h; exact ⟨y, List.mem_of_getElem? e, (Option.some.inj h).symm⟩
open TA in
theorem c_is_path {f : Addr} {fd : FuncData} (T : Txt mg) (c_is_name : C8.Cal P w K mg base 1 "is_name" spIsName []) (F : C8.Def K mg "is_path" st_is_path f fd) (b : Binds K fd ["thing"] []) : C8.Cal P w K mg base 2 "is_path" (spText K pathB) [] := by
  refine C8.cal0 F b .nil sc_is_path (fun vs H Q E h => spF_len h fun _ => rfl) (fun cdv A outer s H vs Q E hr h => ?_)
  obtain ⟨x, S0, hz, j0, ⟨v, r, φ, rfl, ⟨rfl, hno⟩, bv, hn⟩, fin⟩ := h
  cases (show r = [] from hn)
  refine ⟨_, (pss_one (ps_ret (pe_and (pe_callB call_isi (by rfl) T.m_isinstance (by decide +kernel) (pa_cons (pv 0) (pa_cons (pe_bltn (v := .ty "str") (by rfl) T.m_str (by decide +kernel) rfl) pa_nil))) (pe_one (pe_callB (cr_all rfl) (by rfl) T.m_all (by decide +kernel) (pa_cons (pe_lc (own := [("part", 1)]) (g := (gName 1)) (by rfl) sc_is_path.nd (pi_list (pe_split (pv 0) pe_str)) (blkOk_by (own := [("part", 1)]) (N := ["thing", "part"]) (sc := C8.fnScope st_is_path) (by decide +kernel)) (fun _ _ _ _ _ => (pg_name (i := 1) sc_is_path.nd rfl (Or.inl rfl))) (fun _ _ _ _ _ => pts_nil) (fun _ _ _ _ _ => (C8.pe_c c_is_name hr (by decide) (by rfl) (pa_cons (pv 1) pa_nil)))) pa_nil)))))), ?_⟩
  by_cases hx : isTx v = true
  · obtain ⟨x, rfl⟩ : ∃ x, v = .str x := by
      cases v <;> first | exact ⟨_, rfl⟩ | cases hx
    have hz := hz x rfl
    refine s_ret (c := ⟨sd0, S0⟩) (n := 0) (P := aB (· = pathB x)) (Ev.imp (ev_andV (A := (· = true)) (ev_cb (ea_cons (ev_var rfl) (ea_cons ev_c ea_nil)) (cl_isi fun H _ => ⟨_, .base (.str x), kit_ty (by decide +kernel)⟩))
      fun _ => ev_cb (ea_cons (Ev.toL (Ev.bools (g := nmB) (xs := TA.parts x) (Ev.eqM (map_onStr nmB (TA.parts x)) (ev_lcF (onStr nmB) (Ev.toL (ev_parts (ev_varS rfl) ev_cS (by omega))) ?h1 (fun _ => rfl) ?h2)))) ea_nil) cl_all) ?_) Kn.start j0 ?_
    case h1 =>
      rw [List.length_map]
      have := TA.parts_count x
      omega
    case h2 =>
      intro i v D ys hi
      obtain ⟨y, hy, rfl⟩ := str_item hi
      have := TA.parts_len (x := x) hy
      refine Ev.imp (ev_call (ea_cons (ev_var rfl) ea_nil) (u_is_name (x := y) (by omega))) ?_
      rintro v φ ⟨e, b, rfl, rfl⟩
      exact ⟨e, rfl⟩
    · rintro v φ ⟨e, b, h, rfl⟩
      refine ⟨e, b, ?_, rfl⟩
      rcases h with ⟨_, h⟩ | ⟨_, bs, rfl, rfl⟩
      · cases h
      · exact all_map nmB _
    · intro v φ H' e hP k3 j3
      exact fin_F fin j0 hP k3 m0 j3
  · have hx : isTx v = false := by simpa using hx
    have hf : txB pathB v = false := by
      cases v <;> first | rfl | cases hx
    obtain rfl := hno hx
    refine s_ret (c := ⟨sd0, S0⟩) (n := 0) (P := aB (· = txB pathB v)) (Ev.imp (ev_andV (A := (· = false)) (B := fun _ => False) (d2 := 0) (ev_cb (ea_cons (ev_var rfl) (ea_cons ev_c ea_nil)) (cl_isi fun H k => k.get m0))
      (fun h => absurd h (by decide))) ?_) (Kn.start.push bv) j0 ?_
    · rintro v φ ⟨e, b, ⟨rfl, _⟩ | ⟨h, _⟩, rfl⟩
      · exact ⟨e, _, hf.symm, rfl⟩
      · cases h
    · intro v φ H' e hP k3 j3
      exact fin_F fin j0 hP k3 m1 j3
end
end K47

set_option Elab.async false
set_option linter.all false
set_option maxRecDepth 100000
set_option maxHeartbeats 4000000
namespace K47
open PySem PySem.Spec PyProof.Rows L2
section
variable {P : Program} {w : World} {K : PySem.W.Frag} {mg : Str → Option Value} {base : Heap}
def partB (y : Str) : Bool := decide (y = "*") || decide (y = "**") || nmB y
open TA in
theorem c_is_pattern {f : Addr} {fd : FuncData} (T : Txt mg) (c_is_name : C8.Cal P w K mg base 1 "is_name" spIsName []) (F : C8.Def K mg "is_pattern" st_is_pattern f fd) (b : Binds K fd ["thing"] []) : C8.Cal P w K mg base 2 "is_pattern" (spText K patB) [] := by
  refine C8.cal0 F b .nil sc_is_pattern (fun vs H Q E h => spF_len h fun _ => rfl) (fun cdv A outer s H vs Q E hr h => ?_)
  obtain ⟨x, S0, hz, j0, ⟨v, r, φ, rfl, ⟨rfl, hno⟩, bv, hn⟩, fin⟩ := h
  cases (show r = [] from hn)
  refine ⟨_, (pss_cons (ps_if (pt_not (pt_val (pe_callB call_isi (by rfl) T.m_isinstance (by decide +kernel) (pa_cons (pv 0) (pa_cons (pe_bltn (v := .ty "str") (by rfl) T.m_str (by decide +kernel) rfl) pa_nil)))))
      (pss_one (ps_ret pe_bl))
      pss_nil)
      (pss_one (ps_ret (pe_callB (cr_all rfl) (by rfl) T.m_all (by decide +kernel) (pa_cons (pe_lc (own := [("part", 1)]) (g := (gName 1)) (by rfl) sc_is_pattern.nd (pi_list (pe_split (pv 0) pe_str)) (blkOk_by (own := [("part", 1)]) (N := ["thing", "part"]) (sc := C8.fnScope st_is_pattern) (by decide +kernel)) (fun _ _ _ _ _ => (pg_name (i := 1) sc_is_pattern.nd rfl (Or.inl rfl))) (fun _ _ _ _ _ => pts_nil) (fun _ _ _ _ _ => (pe_or (pe_cmpR (TA.op_inK (K := K) rfl) (pv 1) (pe_tup (pa_cons pe_str (pa_cons pe_str pa_nil))) (by rfl)) (pe_one (C8.pe_c c_is_name hr (by decide) (by rfl) (pa_cons (pv 1) pa_nil)))))) pa_nil))))), ?_⟩
  by_cases hx : isTx v = true
  · obtain ⟨x, rfl⟩ : ∃ x, v = .str x := by
      cases v <;> first | exact ⟨_, rfl⟩ | cases hx
    have hz := hz x rfl
    refine q_when (c := ⟨sd0, S0⟩) (n := 0) (A := (· = false)) (et_tnot (et_B (ev_cb (ea_cons (ev_var rfl) (ea_cons ev_c ea_nil)) (cl_isi (b := true) fun H _ => ⟨_, .base (.str x), kit_ty (by decide +kernel)⟩)))) Kn.start j0 (fun h => absurd h (by decide)) fun _ H1 e1 k1 j1 => ?_
    refine s_ret (c := ⟨sd0, S0⟩) (n := 0) (P := aB (· = patB x)) (Ev.imp (ev_cb (ea_cons (Ev.toL (Ev.bools (g := partB) (xs := TA.parts x) (Ev.eqM (map_onStr partB (TA.parts x)) (ev_lcF (onStr partB) (Ev.toL (ev_parts (ev_varS rfl) ev_cS (by omega))) ?h1 (fun _ => rfl) ?h2)))) ea_nil) cl_all) ?_) k1 j1 ?_
    case h1 =>
      rw [List.length_map]
      have := TA.parts_count x
      omega
    case h2 =>
      intro i v D ys hi
      obtain ⟨y, hy, rfl⟩ := str_item hi
      have := TA.parts_len (x := x) hy
      refine Ev.imp (ev_orV (ev_op (Ev.aV (ev_var rfl)) (ev_tupT (K := K) (xs := ([("*" : Str), "**"]).map V.str) (ea_cons ev_c (ea_cons ev_c ea_nil)) (by decide)) (op_inTS (x := y) (ss := ["*", "**"]))) fun _ => ev_call (ea_cons (ev_var rfl) ea_nil) (u_is_name (x := y) (by omega))) ?_
      rintro v φ ⟨e, b, h, rfl⟩
      refine ⟨e, ?_⟩
      show V.bl b = V.bl (partB y)
      congr 1
      unfold partB
      simp only [List.mem_cons, List.not_mem_nil, or_false] at h
      rcases h with ⟨rfl, h⟩ | ⟨h, rfl⟩
      · have := of_decide_eq_true h.symm
        rcases this with rfl | rfl
        · simp
        · simp
      · have := of_decide_eq_false h.symm
        have h1 : ¬ y = "*" := fun z => this (.inl z)
        have h2 : ¬ y = "**" := fun z => this (.inr z)
        simp [h1, h2]
    · rintro v φ ⟨e, b, ⟨bs, rfl, rfl⟩, rfl⟩
      exact ⟨e, _, all_map partB _, rfl⟩
    · intro v φ H' e hP k3 j3
      exact fin_F fin j0 hP k3 m0 j3
  · have hx : isTx v = false := by simpa using hx
    have hf : txB patB v = false := by
      cases v <;> first | rfl | cases hx
    obtain rfl := hno hx
    refine q_when (c := ⟨sd0, S0⟩) (n := 0) (A := (· = true)) (et_tnot (et_B (ev_cb (ea_cons (ev_var rfl) (ea_cons ev_c ea_nil)) (cl_isi (b := false) fun H k => k.get m0)))) (Kn.start.push bv) j0 (fun _ H1 e1 k1 j1 => ?_) (fun h => absurd h (by decide))
    refine s_ret (c := ⟨sd0, S0⟩) (n := 0) (P := aB (· = txB patB v)) (by rw [hf]; exact ev_cB) k1 j1 ?_
    intro v φ H' e hP k3 j3
    exact fin_F fin j0 hP k3 m1 j3
/-! ### opened -/
def okOpened (x : List Str × List Nat) : Prop := x.1.length + x.2.length ≤ 50000
open TA in
abbrev psOpened (K : PySem.W.Frag) (x : List Str × List Nat) : List Po := [aL K (· = x.1.map V.str), aL K (· = natV x.2)]
open TA in
abbrev poOpened (K : PySem.W.Frag) (x : List Str × List Nat) : Po := (aT K fun xs => ∃ ks : List Nat, ks.Perm (M47.openF ("**" : Str) x.1 x.2) ∧ xs = natV ks)
def spOpened (K : PySem.W.Frag) : Sp := TA.spF okOpened (psOpened K) (poOpened K)
open TA in
theorem u_opened {c : TA.Ctx} {l : List (Hp → Prop)} (x : List Str × List Nat) (hx : okOpened x) : Cl c l 0 (psOpened K x) (fun vs H Q => spOpened K vs H Q C8.E0) (poOpened K x) := cl_spF (ok := okOpened) (Ps := psOpened K) (P := poOpened K) x hx
open TA in
theorem c_opened {f : Addr} {fd : FuncData} (T : Txt mg) (F : C8.Def K mg "opened" st_opened f fd) (b : Binds K fd ["parts", "spots"] []) : C8.Cal P w K mg base 1 "opened" (spOpened K) [] := by
  refine C8.cal0 F b .nil sc_opened (fun vs H Q E h => spF_len h fun _ => rfl) (fun cdv A outer s H vs Q E hr h => ?_)
  obtain ⟨⟨ps, f⟩, S0, hz, j0, ⟨v, r, φ, rfl, ⟨p, xs, rfl, rfl, rfl⟩, bp, v', r', φ', rfl, ⟨q, xs', rfl, rfl, rfl⟩, bq, hn⟩, fin⟩ := h
  cases (show r' = [] from hn)
  have hz : ps.length + f.length ≤ 50000 := hz
  simp only at bp bq fin
  refine ⟨_, (pss_cons (ps_set (i := 2) sc_opened.nd rfl (Or.inl rfl) (pe_callTy call_list_of (by rfl) T.m_list (by decide +kernel) (pa_cons (pv 1) pa_nil)))
      (pss_cons (ps_for PassesOwn.never rfl (pi_enum (by rfl) T.m_enumerate (pa_cons (pv 0) pa_nil)) (pg_tup rfl (pgs_cons (pg_name (i := 3) sc_opened.nd rfl (Or.inl rfl)) (pgs_cons (pg_name (i := 4) sc_opened.nd rfl (Or.inl rfl)) pgs_nil)))
      (pss_one (ps_if (PW.pt (pw_and (pt_cmpR op_eq (pv 4) pe_str (nomark _)) (pw_and (pt_cmpR (TA.op_inK (K := K) rfl) (pv 3) (pv 2) (by rfl)) (pw_and1 (pt_cmpR (TA.op_notInK (K := K) rfl) (pe_op op_add (pv 3) pe_int) (pv 2) (by rfl))))))
      (pss_one (ps_expr (pe_bm PySem.F.plainAttrs_list PySem.F.slot_list_append PySem.F.type_list_append mt_append (pv 2) (pa_cons (pe_op op_add (pv 3) pe_int) pa_nil))))
      pss_nil)))
      (pss_one (ps_ret (pe_callTy call_tuple_of (by rfl) T.m_tuple (by decide +kernel) (pa_cons (pe_callB cr_sortedI (by rfl) T.m_sorted (by decide +kernel) (pa_cons (pv 2) pa_nil)) pa_nil)))))), ?_⟩
  refine q_own (c := ⟨sd0, S0⟩) (n := 0) (d := 0) (A := (· = natV f)) (fun n H k j Q hq => own_list (ea_cons (ev_varL rfl m0) ea_nil) k j hq) ((Kn.start.push bp).push bq) j0 ?_
  rintro _ r H1 rfl k1 j1
  refine q_for (c := ⟨sd0, (r, .lst (natV f)) :: S0⟩) (n := 0) (d0 := 0) (d := 0) (N0 := ps.length) (f := fun i x _ σ σ2 => ∃ a b, (a = V.int i ∧ (ps.map V.str)[i]? = some b) ∧ σ2 = (σ.set 3 (some a)).set 4 (some b))
    (i_enum (A := (· = ps.map V.str)) (ea_cons (ev_varL rfl m1) ea_nil)) ?hN ?hg k1 (by simpa using j1)
    (fun N Y i σ S lx => lx = [] ∧ (∃ o3 o4, σ = [some (.ref p), some (.ref q), some (.ref r), o3, o4]) ∧ S = (r, .lst (natV (M47.openN ("**" : Str) ps f i))) :: S0) ?h0 ?hs ?hd
  case hN =>
    rintro N Y ⟨xs, rfl, rfl, _⟩
    rw [List.length_map]
    exact Nat.le_refl _
  case hg =>
    rintro N Y i ⟨xs, rfl, rfl, rfl⟩ hi
    refine g_pair fun x φ h => ?_
    obtain ⟨T, y, h1, h2, h3⟩ := h
    exact ⟨T, _, y, h1, h3, rfl, h2⟩
  case h0 =>
    rintro N Y _
    exact ⟨rfl, ⟨none, none, rfl⟩, rfl⟩
  case hs =>
    rintro N Y i x φ σ1 σ2 S lx G H' ⟨xs, rfl, rfl, rfl⟩ hi hy ⟨a, b, ⟨rfl, hb⟩, rfl⟩ ⟨rfl, ⟨o3, o4, rfl⟩, rfl⟩ _ k2 j2
    obtain ⟨y, hy1, rfl⟩ := strV_item hb
    rw [List.length_map] at hi
    have hlen := M47.openN_len (many := ("**" : Str)) ps f i
    refine s_if (c := ⟨sd0, (r, .lst (natV (M47.openN ("**" : Str) ps f i))) :: S0⟩) (n := 0) (et_tand (et_of (ev_op (ev_varS rfl) ev_cS op_teqS)) fun _ => et_tand (et_of (ev_op (Ev.aV (ev_var rfl)) (ev_var rfl) op_inON)) fun _ => et_of (ev_op (Ev.vN (ev_op (ev_varI rfl) ev_cI (op_tI (g := fun i j => i + j)))) (ev_var rfl) (op_niON (x := i + 1)))) k2 (by simpa using j2) (fun hA H3 e3 k3 j3 => ?_) (fun hA H3 e3 k3 j3 => ?_)
    · have hA := hA.symm
      simp only [Bool.and_eq_true, Bool.not_eq_true', decide_eq_true_eq, decide_eq_false_iff_not] at hA
      refine s_app (st := sd0) (S := S0) (ev_var rfl) (ev_op (ev_varI rfl) ev_cI (op_tI (g := fun i j => i + j))) (by rw [natV_len]; omega) k3 j3 ?_
      rintro v φ H4 ⟨e, k, rfl, rfl⟩ k4 j4
      have eS : natV (M47.openN ("**" : Str) ps f i) ++ [V.int ((i : Int) + 1)] = natV (M47.openN ("**" : Str) ps f (i + 1)) := by
        rw [M47.openN_succ, M47.openStep, if_pos ⟨by rw [hy1, hA.1], hA.2⟩]
        exact natV_app (k := i + 1)
      refine ⟨_, [], ⟨rfl, ⟨_, _, rfl⟩, rfl⟩, rfl, k4.sub fun _ h => .tail _ (.tail _ h), ?_⟩
      rw [← eS]
      simpa using j4
    · have eS : M47.openN ("**" : Str) ps f i = M47.openN ("**" : Str) ps f (i + 1) := by
        rw [M47.openN_succ, M47.openStep, if_neg]
        rintro ⟨h1, h2, h3⟩
        rw [hy1] at h1
        rw [Option.some.inj h1] at hA
        simp [h2, h3] at hA
      refine ⟨_, [], ⟨rfl, ⟨_, _, rfl⟩, rfl⟩, rfl, k3.sub fun _ h => .tail _ h, ?_⟩
      rw [← eS]
      simpa using j3
  case hd =>
    rintro N Y σ1 S lx G H' ⟨xs, rfl, rfl, rfl⟩ ⟨rfl, ⟨o3, o4, rfl⟩, rfl⟩ _ k2 j2
    rw [List.length_map] at j2
    refine s_ret (c := ⟨sd0, S0⟩) (n := 0) (ev_cb (ea_cons (Ev.toL (ev_cb (ea_cons (Ev.toL (ev_varF rfl m0)) ea_nil) cl_sortedN)) ea_nil) cl_tuple) (j2.froze k2) j2.pop ?_
    intro v φ H3 e3 hP k3 j3
    exact fin_F fin j0 hP k3 m4 j3
/-! ### moved -/
def okMoved (x : List Str × List Nat × Str) : Prop := x.1.length + x.2.1.length ≤ 50000
open TA in
abbrev psMoved (K : PySem.W.Frag) (x : List Str × List Nat × Str) : List Po := [aL K (· = x.1.map V.str), aT K (· = natV x.2.1), is (.str x.2.2)]
open TA in
abbrev poMoved (K : PySem.W.Frag) (x : List Str × List Nat × Str) : Po := (aT K fun xs => ∃ ks : List Nat, ks.Perm (M47.openF ("**" : Str) x.1 (M47.moveF ("*" : Str) ("**" : Str) ("" : Str) x.1 x.2.2 x.2.1)) ∧ xs = natV ks)
def spMoved (K : PySem.W.Frag) : Sp := TA.spF okMoved (psMoved K) (poMoved K)
open TA in
theorem u_moved {c : TA.Ctx} {l : List (Hp → Prop)} (x : List Str × List Nat × Str) (hx : okMoved x) : Cl c l 0 (psMoved K x) (fun vs H Q => spMoved K vs H Q C8.E0) (poMoved K x) := cl_spF (ok := okMoved) (Ps := psMoved K) (P := poMoved K) x hx
open TA in
theorem c_moved {f : Addr} {fd : FuncData} (T : Txt mg) (c_opened : C8.Cal P w K mg base 1 "opened" (spOpened K) []) (F : C8.Def K mg "moved" st_moved f fd) (b : Binds K fd ["parts", "spots", "name"] []) : C8.Cal P w K mg base 2 "moved" (spMoved K) [] := by
  refine C8.cal0 F b .nil sc_moved (fun vs H Q E h => spF_len h fun _ => rfl) (fun cdv A outer s H vs Q E hr h => ?_)
  obtain ⟨⟨ps, ks, nm⟩, S0, hz, j0, ⟨v, r, φ, rfl, ⟨p, xs, rfl, rfl, rfl⟩, bp, v', r', φ', rfl, ⟨q, xs', rfl, rfl, rfl⟩, bq, v2, r2, φ2, rfl, ⟨rfl, _⟩, _, hn⟩, fin⟩ := h
  cases (show r2 = [] from hn)
  have hz : ps.length + ks.length ≤ 50000 := hz
  simp only at bp bq fin
  refine ⟨_, (pss_cons (ps_set (i := 3) sc_moved.nd rfl (Or.inl rfl) (pe_lst pa_nil))
      (pss_cons (ps_for PassesOwn.never rfl (pi_tup (pv 1)) (pg_name (i := 4) sc_moved.nd rfl (Or.inl rfl))
      (pss_cons (ps_set (i := 5) sc_moved.nd rfl (Or.inl rfl) (pe_ifExp (pt_cmpR op_lt (pv 4) (pe_callB (TA.call_lenK (K := K) rfl) (by rfl) T.m_len (by decide +kernel) (pa_cons (pv 0) pa_nil)) (nomark _)) (pe_ix (TA.ix_listK (K := K) rfl) (pv 0) (pv 4) (fun _ _ => rfl)) pe_str))
      (pss_cons (ps_set (i := 6) sc_moved.nd rfl (Or.inl rfl) (pe_ifExp (pt_cmpR op_eq (pv 5) pe_str (nomark _)) (pv 4) (pe_op op_add (pv 4) pe_int)))
      (pss_one (ps_if (PW.pt (pw_and (pt_cmpR (TA.op_inK (K := K) rfl) (pv 5) (pe_tup (pa_cons pe_str (pa_cons pe_str (pa_cons (pv 2) pa_nil)))) (by rfl)) (pw_and1 (pt_cmpR (TA.op_notInK (K := K) rfl) (pv 6) (pv 3) (by rfl)))))
      (pss_one (ps_expr (pe_bm PySem.F.plainAttrs_list PySem.F.slot_list_append PySem.F.type_list_append mt_append (pv 3) (pa_cons (pv 6) pa_nil))))
      pss_nil)))))
      (pss_one (ps_ret (C8.pe_c c_opened hr (by decide) (by rfl) (pa_cons (pv 0) (pa_cons (pv 3) pa_nil))))))), ?_⟩
  refine q_nil (c := ⟨sd0, S0⟩) (n := 0) ((Kn.start.push bp).push bq) j0 ?_
  rintro r H1 k1 j1
  refine q_for (c := ⟨sd0, (r, .lst []) :: S0⟩) (n := 0) (d0 := 0) (d := 0) (N0 := ks.length) (i_tup (A := (· = natV ks)) (ev_varT rfl m0)) ?hN (fun _ _ _ _ _ => g_name) k1 (by simpa using j1)
    (fun N Y i σ S lx => lx = [] ∧ (∃ o4 o5 o6, σ = [some (.ref p), some (.ref q), some (.str nm), some (.ref r), o4, o5, o6]) ∧ S = (r, .lst (natV ((ks.take i).foldl (M47.moveStep ("*" : Str) ("**" : Str) ("" : Str) ps nm) []))) :: S0) ?h0 ?hs ?hd
  case hN =>
    rintro N Y ⟨xs, rfl, rfl, _⟩
    rw [natV_len]
    exact Nat.le_refl _
  case h0 =>
    rintro N Y _
    exact ⟨rfl, ⟨none, none, none, rfl⟩, rfl⟩
  case hs =>
    rintro N Y i x φ σ1 σ2 S lx G H' ⟨xs, rfl, rfl, rfl⟩ hi ⟨hx, rfl⟩ rfl ⟨rfl, ⟨o4, o5, o6, rfl⟩, rfl⟩ _ k2 j2
    obtain ⟨k, hk, rfl⟩ := natV_item hx
    rw [natV_len] at hi
    have ht := M47.take_snoc hk
    generalize hF : (ks.take i).foldl (M47.moveStep ("*" : Str) ("**" : Str) ("" : Str) ps nm) [] = g at k2 j2
    have hlen : g.length ≤ ks.length := by
      rw [← hF]
      refine Nat.le_trans M47.moveF_len' ?_
      rw [List.length_take]
      simp only [List.length_nil]
      omega
    have hF' : (ks.take (i + 1)).foldl (M47.moveStep ("*" : Str) ("**" : Str) ("" : Str) ps nm) [] = M47.moveStep ("*" : Str) ("**" : Str) ("" : Str) ps nm g k := by
      rw [ht, List.foldl_append, hF]
      rfl
    rw [hF']
    refine q_asg (c := ⟨sd0, (r, .lst (natV g)) :: S0⟩) (n := 0) (P := aV (· = .str ((ps[k]?).getD ""))) (Ev.imp (ev_tif (et_of (ev_op (ev_varI rfl) (ev_cb (ea_cons (ev_varL rfl m3) ea_nil) cl_tlenL) op_tIB)) (x := .str ((ps[k]?).getD "")) (y := .str ((ps[k]?).getD "")) (fun hlt => ev_op (ev_varL rfl m3) (ev_varI rfl) (op_tixL ?h1)) fun hlt => Ev.vT (Ev.imp ev_cS ?h2)) ?h3) k2 (by simpa using j2) ?_
    case h1 =>
      have hlt := of_decide_eq_true hlt
      rw [List.length_map] at hlt
      rw [atI_at, List.getElem?_map, List.getElem?_eq_getElem (show k < ps.length by omega)]
      rfl
    case h2 =>
      have hlt := of_decide_eq_false hlt
      rw [List.length_map] at hlt
      rw [List.getElem?_eq_none (show ps.length ≤ k by omega)]
      exact fun v φ h => h
    case h3 =>
      rintro v φ ⟨e, h⟩
      refine ⟨e, ?_⟩
      rw [h]
      split <;> rfl
    rintro v φ H3 ⟨rfl, rfl⟩ k3 j3
    unfold M47.moveStep
    generalize (ps[k]?).getD ("" : Str) = y at k3 j3
    simp only
    refine q_asg (c := ⟨sd0, (r, .lst (natV g)) :: S0⟩) (n := 0) (P := aV (· = .int (if y = "**" then k else k + 1 : Nat))) (Ev.imp (ev_tif (et_of (ev_op (ev_varS rfl) ev_cS op_teqS)) (fun _ => Ev.aV (ev_var rfl)) fun _ => Ev.vN (ev_op (ev_varI rfl) ev_cI (op_tI (g := fun i j => i + j)))) ?h4) k3 (by simpa using j3) ?_
    case h4 =>
      rintro v φ ⟨e, h⟩
      refine ⟨e, ?_⟩
      rw [h]
      by_cases hy : y = "**"
      · simp [hy]
      · simp [hy]
    rintro v φ H4 ⟨rfl, rfl⟩ k4 j4
    generalize (if y = "**" then k else k + 1 : Nat) = bh at k4 j4
    refine s_if (c := ⟨sd0, (r, .lst (natV g)) :: S0⟩) (n := 0) (et_tand (et_of (ev_op (Ev.aV (ev_var rfl)) (ev_tupT (K := K) (xs := ([("*" : Str), "**", nm]).map V.str) (ea_cons ev_c (ea_cons ev_c (ea_cons (ev_var rfl) ea_nil))) (by simp)) (op_inTS (x := y) (ss := ["*", "**", nm])))) fun _ => et_of (ev_op (Ev.aV (ev_var rfl)) (ev_var rfl) (op_niON (x := bh)))) k4 (by simpa using j4) (fun hA H5 e5 k5 j5 => ?_) (fun hA H5 e5 k5 j5 => ?_)
    · have hA := hA.symm
      simp only [Bool.and_eq_true, Bool.not_eq_true', decide_eq_true_eq, decide_eq_false_iff_not, List.mem_cons, List.not_mem_nil, or_false] at hA
      refine s_app (st := sd0) (S := S0) (ev_var rfl) (Ev.aV (ev_var rfl)) (by rw [natV_len]; omega) k5 j5 ?_
      rintro v φ H6 ⟨e, rfl⟩ k6 j6
      refine ⟨_, [], ⟨rfl, ⟨_, _, _, rfl⟩, rfl⟩, rfl, k6.sub fun _ h => .tail _ (.tail _ (.tail _ (.tail _ h))), ?_⟩
      rw [if_pos hA, ← natV_app]
      simpa using j6
    · have hA := hA.symm
      simp only [Bool.and_eq_false_iff, Bool.not_eq_false', decide_eq_true_eq, decide_eq_false_iff_not, List.mem_cons, List.not_mem_nil, or_false] at hA
      refine ⟨_, [], ⟨rfl, ⟨_, _, _, rfl⟩, rfl⟩, rfl, k5.sub fun _ h => .tail _ (.tail _ (.tail _ h)), ?_⟩
      rw [if_neg (fun h => hA.elim (fun z => z h.1) fun z => h.2 z)]
      simpa using j5
  case hd =>
    rintro N Y σ1 S lx G H' ⟨xs, rfl, rfl, rfl⟩ ⟨rfl, ⟨o4, o5, o6, rfl⟩, rfl⟩ _ k2 j2
    rw [natV_len, List.take_length] at j2
    have hl : (M47.moveF ("*" : Str) ("**" : Str) ("" : Str) ps nm ks).length ≤ ks.length := by
      unfold M47.moveF
      refine Nat.le_trans M47.moveF_len' ?_
      simp
    refine s_ret (c := ⟨sd0, S0⟩) (n := 0) (ev_call (d2 := 0) (ea_cons (ev_varL rfl m3) (ea_cons (Ev.toL (ev_varF rfl m0)) ea_nil)) (u_opened (ps, M47.moveF ("*" : Str) ("**" : Str) ("" : Str) ps nm ks) (by unfold okOpened; simp only; omega))) (j2.froze k2) j2.pop ?_
    intro v φ H3 e3 hP k3 j3
    exact fin_F fin j0 hP k3 m4 j3
/-! ### led -/
def okLed (x : List Str × List Str) : Prop := (x.2.length + 2) * (x.1.length + 1) ≤ 20000 ∧ ∀ n ∈ x.2, n ≠ ""
open TA in
abbrev psLed (K : PySem.W.Frag) (x : List Str × List Str) : List Po := [aL K (· = x.1.map V.str), aL K (· = x.2.map V.str)]
open TA in
abbrev poLed (K : PySem.W.Frag) (x : List Str × List Str) : Po := (aT K fun xs => ∃ ks : List Nat, (∀ k, k ∈ ks ↔ M47.At ("*" : Str) ("**" : Str) x.1 x.2 k) ∧ xs = natV ks)
def spLed (K : PySem.W.Frag) : Sp := TA.spF okLed (psLed K) (poLed K)
open TA in
theorem u_led {c : TA.Ctx} {l : List (Hp → Prop)} (x : List Str × List Str) (hx : okLed x) : Cl c l 0 (psLed K x) (fun vs H Q => spLed K vs H Q C8.E0) (poLed K x) := cl_spF (ok := okLed) (Ps := psLed K) (P := poLed K) x hx
open TA in
theorem c_led {f : Addr} {fd : FuncData} (T : Txt mg) (c_opened : C8.Cal P w K mg base 1 "opened" (spOpened K) []) (c_moved : C8.Cal P w K mg base 2 "moved" (spMoved K) []) (F : C8.Def K mg "led" st_led f fd) (b : Binds K fd ["parts", "names"] []) : C8.Cal P w K mg base 3 "led" (spLed K) [] := by
  refine C8.cal0 F b .nil sc_led (fun vs H Q E h => spF_len h fun _ => rfl) (fun cdv A outer s H vs Q E hr h => ?_)
  obtain ⟨⟨ps, ns⟩, S0, hz, j0, ⟨v, r, φ, rfl, ⟨p, xs, rfl, rfl, rfl⟩, bp, v', r', φ', rfl, ⟨q, xs', rfl, rfl, rfl⟩, bq, hn⟩, fin⟩ := h
  cases (show r' = [] from hn)
  obtain ⟨hz, hne⟩ := hz
  simp only at bp bq fin hz hne
  have h0 : ps.length ≤ 9999 := by
    have : 2 * (ps.length + 1) ≤ (ns.length + 2) * (ps.length + 1) := Nat.mul_le_mul_right _ (by omega)
    omega
  refine ⟨_, (pss_cons (ps_set (i := 2) sc_led.nd rfl (Or.inl rfl) (C8.pe_c c_opened hr (by decide) (by rfl) (pa_cons (pv 0) (pa_cons (pe_lst (pa_cons pe_int pa_nil)) pa_nil))))
      (pss_cons (ps_for PassesOwn.never rfl (pi_list (pv 1)) (pg_name (i := 3) sc_led.nd rfl (Or.inl rfl))
      (pss_one (ps_set (i := 2) sc_led.nd rfl (Or.inl rfl) (C8.pe_c c_moved hr (by decide) (by rfl) (pa_cons (pv 0) (pa_cons (pv 2) (pa_cons (pv 3) pa_nil)))))))
      (pss_one (ps_ret (pv 2))))), ?_⟩
  refine q_asg (c := ⟨sd0, S0⟩) (n := 0) (ev_call (d2 := 0) (ea_cons (ev_varL rfl m1) (ea_cons (Ev.toL (ev_lstM (xs := natV [0]) (ea_cons ev_c ea_nil) (by decide))) ea_nil)) (u_opened (ps, [0]) (by unfold okOpened; simp; omega))) ((Kn.start.push bp).push bq) j0 ?_
  rintro v φ H1 ⟨u, xs, rfl, ⟨ks, hks, rfl⟩, rfl⟩ k1 j1
  simp only at hks
  have hat : ∀ k, k ∈ ks ↔ M47.At ("*" : Str) ("**" : Str) ps [] k := fun k => by
    rw [hks.mem_iff]
    exact M47.at_start
  have hlen : ks.length ≤ 1 + 1 * ps.length := by
    rw [hks.length_eq]
    have := M47.openN_len (many := ("**" : Str)) ps [0] ps.length
    unfold M47.openF
    simp only [List.length_cons, List.length_nil] at this
    omega
  have k1 : Kn (TA.Ctx.mk sd0 S0).m [kT K u (natV ks), kL K q (ns.map V.str), kL K p (ps.map V.str), Mo (TA.Ctx.mk sd0 S0).m H] H1 := k1
  refine q_for (c := ⟨sd0, S0⟩) (n := 0) (d0 := 0) (d := 0) (N0 := ns.length) (i_list (A := (· = ns.map V.str)) (ev_varL rfl m1)) ?hN (fun _ _ _ _ _ => g_name) k1 (by simpa using j1)
    (fun N Y i σ S lx => S = S0 ∧ ∃ u' ks' o3, σ = [some (.ref p), some (.ref q), some (.ref u'), o3] ∧ ks'.length ≤ 1 + (i + 1) * ps.length ∧ (∀ k, k ∈ ks' ↔ M47.At ("*" : Str) ("**" : Str) ps (ns.take i) k) ∧
      kT K u' (natV ks') ∈ lx ++ [kT K u (natV ks), kL K q (ns.map V.str), kL K p (ps.map V.str), Mo (TA.Ctx.mk sd0 S0).m H]) ?h0 ?hs ?hd
  case hN =>
    rintro N Y ⟨xs, rfl, rfl, _⟩
    rw [List.length_map]
    exact Nat.le_refl _
  case h0 =>
    rintro N Y _
    exact ⟨rfl, u, ks, none, rfl, by simpa using hlen, hat, m0⟩
  case hs =>
    rintro N Y i x φ σ1 σ2 S lx G H' ⟨xs, rfl, rfl, rfl⟩ hi ⟨hx, rfl⟩ rfl ⟨rfl, u', ks', o3, rfl, hl, hat', hm⟩ _ k2 j2
    obtain ⟨nm, hnm, rfl⟩ := strV_item hx
    rw [List.length_map] at hi
    have hb : (i + 2) * ps.length ≤ 20000 := by
      refine Nat.le_trans (Nat.le_trans (Nat.mul_le_mul_right _ (show i + 2 ≤ ns.length + 2 by omega)) (Nat.mul_le_mul_left _ (Nat.le_succ _))) hz
    have hb2 : (i + 2) * ps.length = (i + 1) * ps.length + ps.length := Nat.succ_mul (i + 1) ps.length
    have hb3 : (i + 1 + 1) * ps.length = (i + 1) * ps.length + ps.length := Nat.succ_mul (i + 1) ps.length
    refine s_asg (c := ⟨sd0, S⟩) (n := 0) (ev_call (d2 := 0) (ea_cons (ev_varL (K := K) (p := p) (xs := ps.map V.str) rfl (mem_mid (List.mem_append_right _ m2))) (ea_cons (ev_varT (K := K) rfl (mem_mid hm)) (ea_cons (ev_var rfl) ea_nil))) (u_moved (ps, ks', nm) (by unfold okMoved; simp only; omega))) k2 (by simpa using j2) ?_
    rintro v φ H3 ⟨u2, xs, rfl, ⟨ks2, hks2, rfl⟩, rfl⟩ k3 j3
    simp only at hks2
    refine ⟨S, [kT K u2 (natV ks2)], ⟨rfl, u2, ks2, _, rfl, ?_, ?_, m0⟩, rfl, k3.sub ?_, by simpa using j3⟩
    · have h1 := M47.openN_len (many := ("**" : Str)) ps (M47.moveF ("*" : Str) ("**" : Str) ("" : Str) ps nm ks') ps.length
      have h2 : (M47.moveF ("*" : Str) ("**" : Str) ("" : Str) ps nm ks').length ≤ ks'.length := by
        unfold M47.moveF
        refine Nat.le_trans M47.moveF_len' ?_
        simp
      rw [hks2.length_eq]
      unfold M47.openF
      omega
    · intro k
      rw [hks2.mem_iff, M47.take_snoc hnm]
      exact M47.at_next ⟨by decide, by decide, fun e => hne nm (List.mem_of_getElem? hnm) e.symm⟩ hat' k
    · intro x h
      rcases List.mem_cons.mp h with rfl | h
      · exact m0
      · exact .tail _ (.tail _ (List.mem_append_right _ h))
  case hd =>
    rintro N Y σ1 S lx G H' ⟨xs, rfl, rfl, rfl⟩ ⟨rfl, u', ks', o3, rfl, hl, hat', hm⟩ _ k2 j2
    rw [List.length_map, List.take_length] at hat'
    refine s_ret (c := ⟨sd0, S⟩) (n := 0) (ev_varT (K := K) rfl (mem_mid0 hm)) k2 j2 ?_
    rintro v φ H3 e3 ⟨p3, xs3, rfl, rfl, rfl⟩ k3 j3
    exact fin_F fin j0 ⟨p3, _, rfl, ⟨ks', hat', rfl⟩, rfl⟩ k3 (mem_mid0 (List.mem_append_right _ m3)) j3
/-! ### matched -/
noncomputable def mtB (pattern path : Str) : Bool := @decide (M47.Mt ("*" : Str) ("**" : Str) (TA.parts pattern) (TA.parts path)) (Classical.propDecidable _)
theorem mtB_iff {p q : Str} : mtB p q = true ↔ M47.Mt ("*" : Str) ("**" : Str) (TA.parts p) (TA.parts q) := by
  unfold mtB
  exact @decide_eq_true_iff _ (Classical.propDecidable _)
def okMatched (x : Str × Str) : Prop := x.1.length ≤ 100 ∧ x.2.length ≤ 100 ∧ pathB x.2 = true
open TA in
abbrev psMatched (x : Str × Str) : List Po := [is (.str x.1), is (.str x.2)]
open TA in
noncomputable abbrev poMatched (x : Str × Str) : Po := (aB (· = mtB x.1 x.2))
noncomputable def spMatched : Sp := TA.spF okMatched (psMatched) (poMatched)
open TA in
theorem u_matched {c : TA.Ctx} {l : List (Hp → Prop)} (x : Str × Str) (hx : okMatched x) : Cl c l 0 (psMatched x) (fun vs H Q => spMatched vs H Q C8.E0) (poMatched x) := cl_spF (ok := okMatched) (Ps := psMatched) (P := poMatched) x hx
theorem nmB_ne {x : Str} (h : nmB x = true) : x ≠ "" := by
  rintro rfl
  exact absurd h (by decide +kernel)
open TA in
theorem c_matched {f : Addr} {fd : FuncData} (T : Txt mg) (c_led : C8.Cal P w K mg base 3 "led" (spLed K) []) (F : C8.Def K mg "matched" st_matched f fd) (b : Binds K fd ["pattern", "path"] []) : C8.Cal P w K mg base 4 "matched" spMatched [] := by
  refine C8.cal0 F b .nil sc_matched (fun vs H Q E h => spF_len h fun _ => rfl) (fun cdv A outer s H vs Q E hr h => ?_)
  obtain ⟨⟨pt, pa⟩, S0, ⟨h1, h2, h3⟩, j0, ⟨v, r, φ, rfl, ⟨rfl, _⟩, _, v', r', φ', rfl, ⟨rfl, _⟩, _, hn⟩, fin⟩ := h
  cases (show r' = [] from hn)
  simp only at h1 h2 h3 fin
  refine ⟨_, (pss_cons (ps_set (i := 2) sc_matched.nd rfl (Or.inl rfl) (pe_split (pv 0) pe_str))
      (pss_one (ps_ret (pe_cmpR (TA.op_inK (K := K) rfl) (pe_callB (TA.call_lenK (K := K) rfl) (by rfl) T.m_len (by decide +kernel) (pa_cons (pv 2) pa_nil)) (C8.pe_c c_led hr (by decide) (by rfl) (pa_cons (pv 2) (pa_cons (pe_split (pv 1) pe_str) pa_nil))) (by rfl))))), ?_⟩
  have c1 := TA.parts_count pt
  have c2 := TA.parts_count pa
  refine q_asg (c := ⟨sd0, S0⟩) (n := 0) (ev_parts (x := pt) (ev_varS rfl) ev_cS (by omega)) Kn.start j0 ?_
  rintro v φ H1 ⟨u, xs, rfl, rfl, rfl⟩ k1 j1
  refine s_ret (c := ⟨sd0, S0⟩) (n := 0) (P := aB (· = mtB pt pa)) (Ev.imp (ev_op (P3 := aB (· = mtB pt pa)) (Ev.vN (ev_cb (ea_cons (Ev.toL (ev_varM rfl m0)) ea_nil) cl_tlenL)) (ev_call (d2 := 0) (ea_cons (Ev.toL (ev_varM rfl m0)) (ea_cons (Ev.toL (ev_parts (x := pa) (ev_varS rfl) ev_cS (by omega))) ea_nil)) (u_led (TA.parts pt, TA.parts pa) ?h1)) ?h2) ?h3) k1 (by simpa using j1) ?_
  case h1 =>
    refine ⟨?_, fun n hn' => ?_⟩
    · exact Nat.le_trans (Nat.mul_le_mul (show (TA.parts pa).length + 2 ≤ 103 by omega) (show (TA.parts pt).length + 1 ≤ 102 by omega)) (by decide)
    · unfold pathB at h3
      exact nmB_ne (List.all_eq_true.mp h3 n hn')
  case h2 =>
    intro x1 y1 φ ψ n1 H1 k j p1 p2 b1 b2 Q q'
    refine op_inT (B := (· = .int (((TA.parts pt).map V.str).length : Nat))) (A := fun xs => ∃ ks : List Nat, (∀ k, k ∈ ks ↔ M47.At ("*" : Str) ("**" : Str) (TA.parts pt) (TA.parts pa) k) ∧ xs = natV ks) (fun v e => by rw [e]; rfl) (fun xs ⟨ks, _, e⟩ => by rw [e]; exact natV_flat) x1 y1 φ ψ n1 H1 k j p1 p2 b1 b2 Q ?_
    rintro v χ H' e j' ⟨e2, k, ⟨x, xs, rfl, ⟨ks, hks, rfl⟩, rfl⟩, rfl⟩ b
    refine q' _ χ H' e j' ⟨e2, _, ?_, rfl⟩ b
    show _ = mtB pt pa
    rw [if_neg (by decide), natV_in, List.length_map, Bool.eq_iff_iff, decide_eq_true_iff, mtB_iff, hks, M47.at_end]
  case h3 => exact fun v φ h => h
  rintro v φ H3 e3 hP k3 j3
  exact fin_F fin j0 hP k3 m1 j3
end
end K47

set_option Elab.async false
set_option linter.all false
set_option maxRecDepth 100000
set_option maxHeartbeats 4000000
namespace K47
open PySem PySem.Spec PyProof.Rows L2
section
variable {P : Program} {w : World} {K : PySem.W.Frag} {mg : Str → Option Value} {base : Heap} {CP CA : Addr}
/-! ### matches -/
/-- an error with a field is let out -/
def letOut (S0 : List (Addr × HO)) (H : Hp) (E : XK) (C : Addr) (fld : Str) (v : V) : Prop :=
  ∀ H' d, TA.Mo [] H H' → (∀ q ∈ S0, H' q.1 = some q.2) → d ∉ S0.map (·.1) → H' d = some (.xd [(fld, v)]) → E (.ref C) (some d) H'
open TA in
theorem letOut_by {S0 : List (Addr × HO)} {H H1 : Hp} {E : XK} {C : Addr} {fld : Str} {v : V} {n m : Nat} {l : List (Hp → Prop)} (h : letOut S0 H E C fld v) (j0 : (TA.Ctx.mk sd0 S0).J n H) (j1 : (TA.Ctx.mk sd0 S0).J m H1) (k : Kn (TA.Ctx.mk sd0 S0).m l H1) (hm : Mo (TA.Ctx.mk sd0 S0).m H ∈ l) (d : Addr) (hd : H1 d = none) :
    E (.ref C) (some d) (upd H1 d (.xd [(fld, v)])) := by
  have nd := j1.new hd
  rw [m_none] at nd
  have j2 := j1.ext (Ko.new (o := .xd [(fld, v)]) hd)
  refine h _ d (Mo.pure ((k.get hm).trans (Mo.new hd)) j0.own j2.own) j2.own nd upd_same
/-- two texts, or what is none: what matches tells, or lets out -/
def okMs (x y : V) : Prop := (∀ z, x = .str z → z.length ≤ 100) ∧ ∀ z, y = .str z → z.length ≤ 100
noncomputable def mtV : V → V → Bool
  | .str x, .str y => mtB x y
  | _, _ => false
noncomputable def spMatches (K : PySem.W.Frag) (CP CA : Addr) : Sp := fun vs H Q E => ∃ (x y : V) (S0 : List (Addr × HO)), okMs x y ∧ (TA.Ctx.mk TA.sd0 S0).J 0 H ∧ TA.Args (TA.Ctx.mk TA.sd0 S0).m (psText K x ++ psText K y) vs H ∧
  (txB patB x = false → letOut S0 H E CP "thing" x) ∧ (txB patB x = true → txB pathB y = false → letOut S0 H E CA "path" y) ∧
  (txB patB x = true → txB pathB y = true → ∀ H', TA.Mo [] H H' → (∀ q ∈ S0, H' q.1 = some q.2) → Q (.bl (mtV x y)) H')
theorem tx_str {f : Str → Bool} {v : V} (h : txB f v = true) : ∃ z, v = .str z := by
  cases v <;> first | exact ⟨_, rfl⟩ | cases h
/-- known of what may be no text -/
def txK (K : PySem.W.Frag) (x : V) : Hp → Prop := fun H => isTx x = false → noTx K x H
open TA in
theorem txK_box {m : List Addr} {H : Hp} {x : V} {φ : Hp → Prop} (b : Bx m φ H) (h : isTx x = false → φ = noTx K x) : Bx m (txK K x) H := fun H' e hx => by
  have := b H' e
  rw [h hx] at this
  exact this
open TA in
theorem ev_varTx {c : TA.Ctx} {l : List (Hp → Prop)} {σ : L2.St} {i : Nat} {x : V} (h : σ[i]? = some (some x)) (hm : txK K x ∈ l) : Ev c l 0 (tVar i) σ (fun v φ => v = x ∧ (isTx x = false → φ = noTx K x)) := fun n H k j Q q => by
  refine ⟨x, h, ?_⟩
  by_cases hx : isTx x = true
  · exact q x T0 H Mo.refl j ⟨rfl, fun z => by rw [hx] at z; cases z⟩ kn0
  · have hx : isTx x = false := by simpa using hx
    exact q x (noTx K x) H Mo.refl j ⟨rfl, fun _ => rfl⟩ ((k.box hm).imp fun H h => h hx)
open TA in
theorem c_matches {f : Addr} {fd : FuncData} (T : Txt mg) (c_is_pattern : C8.Cal P w K mg base 2 "is_pattern" (spText K patB) []) (c_is_path : C8.Cal P w K mg base 2 "is_path" (spText K pathB) []) (c_matched : C8.Cal P w K mg base 4 "matched" spMatched [])
    (R_BadPattern : Err1 P w K mg base "BadPattern" CP "thing") (R_BadPath : Err1 P w K mg base "BadPath" CA "path")
    (F : C8.Def K mg "matches" st_matches f fd) (b : Binds K fd ["pattern", "path"] []) : CalX P w K mg base 5 "matches" (spMatches K CP CA) := by
  refine calX_by F b sc_matches (fun vs H Q E h => ?_) (fun cdv A outer s H vs Q E hr h => ?_)
  · obtain ⟨x, y, S0, _, _, a, _⟩ := h
    rw [a.length]
    rfl
  obtain ⟨x, y, S0, ⟨h1, h2⟩, j0, ⟨v, r, φ, rfl, ⟨rfl, hx⟩, bx, v', r', φ', rfl, ⟨rfl, hy⟩, by', hn⟩, o1, o2, o3⟩ := h
  cases (show r' = [] from hn)
  refine ⟨_, (pss_cons (ps_if (pt_not (pt_val (C8.pe_c c_is_pattern hr (by decide) (by rfl) (pa_cons (pv 0) pa_nil))))
      (pss_one (TA.ps_err1 R_BadPattern rfl (takes_of rfl rfl rfl rfl) hr (by decide) (by rfl) (pv 0)))
      pss_nil)
      (pss_cons (ps_if (pt_not (pt_val (C8.pe_c c_is_path hr (by decide) (by rfl) (pa_cons (pv 1) pa_nil))))
      (pss_one (TA.ps_err1 R_BadPath rfl (takes_of rfl rfl rfl rfl) hr (by decide) (by rfl) (pv 1)))
      pss_nil)
      (pss_one (ps_ret (C8.pe_c c_matched hr (by decide) (by rfl) (pa_cons (pv 0) (pa_cons (pv 1) pa_nil))))))), ?_⟩
  have k0 : Kn (TA.Ctx.mk sd0 S0).m [txK K v', txK K v, Mo (TA.Ctx.mk sd0 S0).m H] H := (Kn.start.push (txK_box bx hx)).push (txK_box by' hy)
  refine q_when (c := ⟨sd0, S0⟩) (n := 0) (et_tnot (et_B (ev_call (d2 := 0) (ea_cons (ev_varTx rfl m1) ea_nil) (u_text v (fun z e => Nat.le_trans (h1 z e) (by decide)))))) k0 j0 (fun hA H1 e1 k1 j1 => ?_) (fun hA H1 e1 k1 j1 => ?_)
  · have hA : txB patB v = false := by simpa using hA
    exact ⟨v, rfl, fun d hd => letOut_by (o1 hA) j0 j1 k1 m2 d hd⟩
  have hA : txB patB v = true := by simpa using hA
  refine q_when (c := ⟨sd0, S0⟩) (n := 0) (et_tnot (et_B (ev_call (d2 := 0) (ea_cons (ev_varTx rfl m0) ea_nil) (u_text v' (fun z e => Nat.le_trans (h2 z e) (by decide)))))) k1 j1 (fun hB H2 e2 k2 j2 => ?_) (fun hB H2 e2 k2 j2 => ?_)
  · have hB : txB pathB v' = false := by simpa using hB
    exact ⟨v', rfl, fun d hd => letOut_by (o2 hA hB) j0 j2 k2 m2 d hd⟩
  have hB : txB pathB v' = true := by simpa using hB
  obtain ⟨z, rfl⟩ := tx_str hA
  obtain ⟨z', rfl⟩ := tx_str hB
  refine s_ret (c := ⟨sd0, S0⟩) (n := 0) (ev_call (d2 := 0) (ea_cons (ev_var rfl) (ea_cons (ev_var rfl) ea_nil)) (u_matched (z, z') ⟨h1 z rfl, h2 z' rfl, hB⟩)) k2 j2 ?_
  rintro v φ H3 e3 ⟨rfl, b, rfl, rfl⟩ k3 j3
  exact o3 hA hB H3 (Mo.pure (k3.get m3) j0.own j3.own) j3.own
end
end K47

set_option Elab.async false
set_option linter.all false
set_option maxRecDepth 100000
set_option maxHeartbeats 4000000
namespace K47
open PySem PySem.Spec PyProof.Rows L2
section
variable {P : Program} {w : World} {K : PySem.W.Frag} {mg : Str → Option Value} {base : Heap}
/-! ### _law_draw -/
def okDraw (m : Nat) : Prop := 1 ≤ m ∧ m ≤ 1000000
abbrev psDraw (m : Nat) : List TA.Po := [TA.is (.int m)]
abbrev poDraw (m : Nat) : TA.Po := TA.anI fun i => 0 ≤ i ∧ i < (m : Int)
def spDraw : Sp := TA.spS okDraw (fun _ => 1) psDraw poDraw
open TA in
theorem u_draw {a b : Addr} {tb : List (Addr × Str)} {S : List (Addr × HO)} {l : List (Hp → Prop)} (m : Nat) (hm : okDraw m) : Cl ⟨⟨some (a, b), tb⟩, S⟩ l 1 [is (.ref a), is (.int m)] (fun vs H Q => spDraw vs H Q C8.E0) (anI fun i => 0 ≤ i ∧ i < (m : Int)) :=
  cl_spS (ok := okDraw) (dd := fun _ => 1) (Ps := psDraw) (P := poDraw) m hm
open TA in
theorem c__law_draw {f : Addr} {fd : FuncData} (T : Txt mg) (F : C8.Def K mg "_law_draw" st__law_draw f fd) (b : Binds K fd ["_law_stream", "_law_many"] []) : C8.Cal P w K mg base 1 "_law_draw" spDraw [] := by
  refine C8.cal0 F b .nil sc__law_draw (fun vs H Q E h => spS_len h fun _ => rfl) (fun cdv A outer s H vs Q E hr h => ?_)
  obtain ⟨m, a, b, S0, n, ws, ⟨hm1, hm2⟩, j, rfl, ⟨v, r, φ, rfl, ⟨rfl, _⟩, _, hn⟩, fin⟩ := h
  cases (show r = [] from hn)
  obtain ⟨cur, cnt, mix, xs, c1, c2, c3, c4, c5, c6, j0⟩ := strm_open j
  unfold mostDraws at c3
  refine ⟨_, (pss_cons (ps_asg (pe_op op_add (pe_ix (TA.ix_listK (K := K) rfl) (pv 0) pe_int (fun _ _ => rfl)) pe_int) (pg_sub (pv 0) pe_int set_list))
      (pss_cons (ps_if (PW.pt (pw_and (pt_cmpR op_eq (pe_ix (TA.ix_listK (K := K) rfl) (pv 0) pe_int (fun _ _ => rfl)) pe_int (nomark _)) (pw_and1 (pt_cmpR (op_neD hr.units) (pe_ix (TA.ix_listK (K := K) rfl) (pv 0) pe_int (fun _ _ => rfl)) (pe_lst pa_nil) (nomark _)))))
      (pss_cons (ps_asg (pe_bm PySem.F.plainAttrs_list PySem.F.slot_list_pop PySem.F.type_list_pop mt_popAt (pe_ix (TA.ix_listK (K := K) rfl) (pv 0) pe_int (fun _ _ => rfl)) (pa_cons pe_int pa_nil)) (pg_sub (pv 0) pe_int set_list))
      (pss_one (ps_if (pt_cmpR op_lt (pe_ix (TA.ix_listK (K := K) rfl) (pv 0) pe_int (fun _ _ => rfl)) (pe_op op_pow pe_int pe_int) (nomark _))
      (pss_cons (ps_asg (pe_op op_mod (pe_callTy call_int1 (by rfl) T.m_int (by decide +kernel) (pa_cons (pe_op op_add (pe_op op_add (pe_op op_mul (pe_ix (TA.ix_listK (K := K) rfl) (pv 0) pe_int (fun _ _ => rfl)) pe_int) (pe_ix (TA.ix_listK (K := K) rfl) (pv 0) pe_int (fun _ _ => rfl))) pe_int) pa_nil)) pe_int) (pg_sub (pv 0) pe_int set_list))
      (pss_one (ps_asg pe_int (pg_sub (pv 0) pe_int set_list))))
      pss_nil)))
      pss_nil)
      (pss_cons (ps_if (pt_cmpR op_gt (pe_ix (TA.ix_listK (K := K) rfl) (pv 0) pe_int (fun _ _ => rfl)) pe_int (nomark _))
      (pss_cons (ps_set (i := 2) sc__law_draw.nd rfl (Or.inl rfl) (pe_op op_mod (pe_callTy call_int1 (by rfl) T.m_int (by decide +kernel) (pa_cons (pe_ix (TA.ix_listK (K := K) rfl) (pv 0) pe_int (fun _ _ => rfl)) pa_nil)) (pv 1)))
      (pss_cons (ps_asg (pe_op op_fdiv (pe_ix (TA.ix_listK (K := K) rfl) (pv 0) pe_int (fun _ _ => rfl)) (pv 1)) (pg_sub (pv 0) pe_int set_list))
      (pss_one (ps_ret (pv 2)))))
      pss_nil)
      (pss_cons (ps_set (i := 3) sc__law_draw.nd rfl (Or.inl rfl) (pe_op op_mod (pe_op op_pow (pe_op op_add (pe_op op_add (pe_ix (TA.ix_listK (K := K) rfl) (pv 0) pe_int (fun _ _ => rfl)) (pe_op op_mul pe_int (pe_ix (TA.ix_listK (K := K) rfl) (pv 0) pe_int (fun _ _ => rfl)))) pe_int) pe_int) pe_int))
      (pss_one (ps_ret (pe_op op_mod (pe_op op_mod (pe_op op_pow (pe_op op_add (pe_op op_add (pe_op op_mul (pv 3) pe_int) (pe_op op_mul (pe_op op_mul pe_int (pe_ix (TA.ix_listK (K := K) rfl) (pv 0) pe_int (fun _ _ => rfl))) (pe_ix (TA.ix_listK (K := K) rfl) (pv 0) pe_int (fun _ _ => rfl)))) pe_int) pe_int) pe_int) (pv 1)))))))), ?_⟩
  refine q_set (st := sd0) (n := 0) (i := 0) (m := 2) (ev_op (Ev.nI (ev_ixO rfl rfl)) ev_cI (op_tI (g := fun i j => i + j))) rfl rfl Kn.start j0 ?_
  rintro v φ H1 ⟨_, k, rfl, rfl⟩ k1 j1
  have j1 : TA.Ctx.J ⟨sd0, (a, stL b cur (cnt + 1) mix) :: (b, .lst (xs.map V.int)) :: S0⟩ 0 H1 := j1
  refine q_whenI (c := ⟨sd0, (a, stL b cur (cnt + 1) mix) :: (b, .lst (xs.map V.int)) :: S0⟩) (n := 0) (d := 0) (A := fun k => k = true → cur = 0 ∧ xs ≠ [])
    (R := fun H' => ∃ (cur' mix' : Int) (xs' : List Int), 0 ≤ cur' ∧ 0 ≤ mix' ∧ mix' < 2147483647 ∧ xs'.length ≤ 1000 ∧ Mo (a :: b :: (TA.Ctx.mk sd0 S0).m) H H' ∧ TA.Ctx.J ⟨sd0, (a, stL b cur' (cnt + 1) mix') :: (b, .lst (xs'.map V.int)) :: S0⟩ 0 H') ?ht k1 j1 ?h2 ?h1 ?h3
  case ht =>
    refine EvT.imp (et_and (d2 := 0) (et_of (ev_op (Ev.nI (ev_ixO rfl rfl)) ev_cI op_teqI)) fun hc => (?_ : EvT _ _ _ _ _ (· = !xs.isEmpty))) ?_
    · intro n' H' k' j' Q' q'
      have ob := j'.own (b, .lst (xs.map V.int)) (.tail _ (.head _))
      refine ⟨.ref a, rfl, a, _, 0, .ref b, rfl, rfl, SqL.of (j'.own _ (.head _)), rfl, Nat.zero_le _, fun p hp => ?_⟩
      have ne : b ≠ p := ne_of_none ob hp
      refine ⟨.list (xs.map PyData.int), .list [], .lst (SqL.of (by rw [upd_ne ne]; exact ob)) dp_ints, .lst (SqL.of upd_same) .nil, shaped_ints, shaped_ints (xs := []), _, rfl, ?_⟩
      refine q' _ _ (Mo.new hp) (j'.ext (Ko.new hp)) ?_
      rw [eqv_nil]
      cases xs <;> rfl
    · rintro k h rfl
      rcases h with ⟨h, _⟩ | ⟨h1, h2⟩
      · cases h
      · refine ⟨of_decide_eq_true h1.symm, fun e => ?_⟩
        rw [e] at h2
        cases h2
  case h1 =>
    intro hA H2 k2 j2 G hG hnx
    obtain ⟨rfl, hxs⟩ := hA rfl
    obtain ⟨x, xs', rfl⟩ : ∃ x xs', xs = x :: xs' := by
      cases xs with
      | nil => exact absurd rfl hxs
      | cons x xs' => exact ⟨x, xs', rfl⟩
    have oa := j2.own _ (.head _)
    have ob := j2.own (b, .lst ((x :: xs').map V.int)) (.tail _ (.head _))
    have mo2 : Mo (a :: b :: (TA.Ctx.mk sd0 S0).m) H H2 := k2.get m1
    refine ⟨.ref a, rfl, a, _, 0, .ref b, rfl, rfl, SqL.of oa, rfl, .inl ⟨rfl, _, SqL.of ob⟩, b, _, 0, 0, .int x, rfl, rfl, ob, by decide, by decide, (seqIndex_of (by decide) (by rw [List.length_map, List.length_cons]; omega)), rfl, .ref a, rfl, a, [.ref b, .int 0, .int (cnt + 1), .int mix], 1, 1, rfl, rfl, ?_, rfl, ?_⟩
    · have nab : a ≠ b := fun z => by
        have nd : (a :: b :: (TA.Ctx.mk sd0 S0).m).Nodup := j2.nd
        rw [z] at nd
        simp at nd
      rw [upd_ne nab]
      exact oa
    · have j3 := (j2.swap.put (u := .lst (xs'.map V.int))).swap
      have j4 : TA.Ctx.J ⟨sd0, (a, stL b x (cnt + 1) mix) :: (b, .lst (xs'.map V.int)) :: S0⟩ 0 (upd (upd H2 b (.lst (xs'.map V.int))) a (stL b x (cnt + 1) mix)) := j3.put
      have mo4 : Mo (a :: b :: (TA.Ctx.mk sd0 S0).m) H (upd (upd H2 b (.lst (xs'.map V.int))) a (stL b x (cnt + 1) mix)) := (mo2.trans (Mo.set (.tail _ (.head _)))).trans (Mo.set (.head _))
      have d4 : xs'.length ≤ 1000 := by
        rw [List.length_cons] at c6
        omega
      dsimp only
      refine s_if (H := upd (upd H2 b (.lst (xs'.map V.int))) a (stL b x (cnt + 1) mix)) (c := ⟨sd0, (a, stL b x (cnt + 1) mix) :: (b, .lst (xs'.map V.int)) :: S0⟩) (n := 0) (et_of (ev_op (Ev.nI (ev_ixO rfl rfl)) (ev_op ev_cI ev_cI (op_tC ⟨by decide, by decide, by decide⟩)) op_tIB)) (Kn.from mo4) j4 (fun hA H3 e3 k3 j5 => ?_) (fun hA H3 e3 k3 j5 => ?_)
      · refine q_set (st := sd0) (S := (b, .lst (xs'.map V.int)) :: S0) (n := 0) (i := 0) (m := 3) (ev_op (ev_cb (ea_cons (ev_op (ev_op (ev_op (Ev.nI (ev_ixO rfl rfl)) ev_cI (op_tC (.inr ⟨by decide, by decide⟩))) (Ev.nI (ev_ixO rfl rfl)) (op_tI (g := fun i j => i + j))) ev_cI (op_tI (g := fun i j => i + j))) ea_nil) cl_tint) ev_cI (op_tmod (by decide))) rfl rfl k3 j5 ?_
        rintro v φ H4 ⟨_, k, rfl, rfl⟩ k4 j6
        refine s_set (st := sd0) (S := (b, .lst (xs'.map V.int)) :: S0) (n := 0) (i := 0) (m := 1) ev_cI rfl rfl k4 j6 ?_
        rintro v φ H5 ⟨_, k, rfl, rfl⟩ k5 j7
        exact hnx _ ⟨0, _, xs', by decide, Int.emod_nonneg _ (by decide), Int.emod_lt_of_pos _ (by decide), d4, k5.get m2, j7⟩
      · have hx := of_decide_eq_false hA.symm
        refine hnx _ ⟨x, mix, xs', ?_, c4, c5, d4, k3.get m0, j5⟩
        have : (10 : Int) ^ (18 : Int).toNat = 1000000000000000000 := by decide
        omega
  case h3 =>
    intro hA H2 k2 j2
    exact ⟨cur, mix, xs, c1, c4, c5, c6, k2.get m1, j2⟩
  case h2 =>
    rintro H2 ⟨cur', mix', xs', d1, d2, d3, d4, mo2, j2⟩
    refine q_when (c := ⟨sd0, (a, stL b cur' (cnt + 1) mix') :: (b, .lst (xs'.map V.int)) :: S0⟩) (n := 0) (et_of (ev_op (Ev.nI (ev_ixO rfl rfl)) ev_cI op_tIB)) (Kn.from mo2) j2 (fun hA H3 e3 k3 j3 => ?_) (fun hA H3 e3 k3 j3 => ?_)
    · refine q_asg (n := 0) (ev_op (ev_cb (ea_cons (Ev.nI (ev_ixO rfl rfl)) ea_nil) cl_tint) (ev_varI rfl) (op_tmod (by omega))) k3 j3 ?_
      rintro v φ H4 ⟨_, k, rfl, rfl⟩ k4 j4
      refine q_set (st := sd0) (S := (b, .lst (xs'.map V.int)) :: S0) (n := 0) (i := 0) (m := 1) (ev_op (Ev.nI (ev_ixO rfl rfl)) (ev_varI rfl) (op_tC ⟨by omega, by omega⟩)) rfl rfl k4 j4 ?_
      rintro v φ H5 ⟨_, k, rfl, rfl⟩ k5 j5
      refine s_ret (c := ⟨sd0, (a, stL b (cur' / m) (cnt + 1) mix') :: (b, .lst (xs'.map V.int)) :: S0⟩) (n := 0) (ev_varI rfl) k5 j5 ?_
      rintro v φ H6 e6 ⟨_, k, rfl, rfl⟩ k6 j6
      refine fin_draw (cur := cur' / m) (cnt := cnt + 1) (mix := mix') (xs := xs') fin j0 ⟨rfl, _, ⟨Int.emod_nonneg _ (by omega), Int.emod_lt_of_pos _ (by omega)⟩, rfl⟩ (k6.get m3) (Int.ediv_nonneg d1 (by omega)) (by omega) (by unfold mostDraws; omega) d2 d3 d4 j6
    · refine q_asg (n := 0) (ev_op (ev_op (ev_op (ev_op (Ev.nI (ev_ixO rfl rfl)) (ev_op ev_cI (Ev.nI (ev_ixO rfl rfl)) (op_tC (.inl ⟨by decide, by decide⟩))) (op_tI (g := fun i j => i + j))) ev_cI (op_tI (g := fun i j => i + j))) ev_cI (op_tC ?hp1)) ev_cI (op_tmod (by decide))) k3 j3 ?_
      case hp1 => exact ⟨by decide, by decide, by omega⟩
      rintro v φ H4 ⟨_, mx, hmx, rfl⟩ k4 j4
      have hx1 : 0 ≤ mx := by
        rw [hmx]
        exact Int.emod_nonneg _ (by decide)
      have hx2 : mx < 2147483629 := by
        rw [hmx]
        exact Int.emod_lt_of_pos _ (by decide)
      clear hmx
      have hcc : 0 ≤ (cnt + 1) * (cnt + 1) ∧ (cnt + 1) * (cnt + 1) ≤ 100000000000000 := by
        refine ⟨Int.mul_nonneg (by omega) (by omega), ?_⟩
        exact Int.le_trans (Int.mul_le_mul (by omega : cnt + 1 ≤ 10000000) (by omega : cnt + 1 ≤ 10000000) (by omega) (by decide)) (by decide)
      have hc3 : 40503 * (cnt + 1) * (cnt + 1) = 40503 * ((cnt + 1) * (cnt + 1)) := Int.mul_assoc _ _ _
      refine s_ret (c := ⟨sd0, (a, stL b cur' (cnt + 1) mix') :: (b, .lst (xs'.map V.int)) :: S0⟩) (n := 0) (ev_op (ev_op (ev_op (ev_op (ev_op (ev_op (ev_varI rfl) ev_cI (op_tC (.inr ⟨by decide, by decide⟩))) (ev_op (ev_op ev_cI (Ev.nI (ev_ixO rfl rfl)) (op_tC (.inl ⟨by decide, by decide⟩))) (Ev.nI (ev_ixO rfl rfl)) (op_tC ?hp2)) (op_tI (g := fun i j => i + j))) ev_cI (op_tI (g := fun i j => i + j))) ev_cI (op_tC ?hp3)) ev_cI (op_tmod (by decide))) (ev_varI rfl) (op_tmod (by omega))) k4 j4 ?_
      case hp2 => exact .inr ⟨by omega, by omega⟩
      case hp3 => exact ⟨by decide, by decide, by omega⟩
      rintro v φ H6 e6 ⟨_, k, rfl, rfl⟩ k6 j6
      exact fin_draw (cur := cur') (cnt := cnt + 1) (mix := mix') (xs := xs') fin j0 ⟨rfl, _, ⟨Int.emod_nonneg _ (by omega), Int.emod_lt_of_pos _ (by omega)⟩, rfl⟩ (k6.get m2) d1 (by omega) (by unfold mostDraws; omega) d2 d3 d4 j6
end
end K47

set_option Elab.async false
set_option linter.all false
set_option maxRecDepth 100000
set_option maxHeartbeats 4000000
namespace K47
open PySem PySem.Spec PyProof.Rows L2
/-! ### the law's own look, in plain words -/
def lStep (p : Str) (ns : List Str) (f : List Nat) (e : Nat) : List Nat :=
  if p = "**" then f ++ (List.range (ns.length + 1 - e)).map fun i => e + i else if e < ns.length ∧ (p = "*" ∨ ns[e]? = some p) then f ++ [e + 1] else f
def lHit (p : Str) (ns : List Str) (e b : Nat) : Prop := (p = "**" ∧ e ≤ b ∧ b ≤ ns.length) ∨ (p ≠ "**" ∧ e < ns.length ∧ (p = "*" ∨ ns[e]? = some p) ∧ b = e + 1)
theorem lStep_mem {p : Str} {ns : List Str} {f : List Nat} {e b : Nat} : b ∈ lStep p ns f e ↔ b ∈ f ∨ lHit p ns e b := by
  unfold lStep lHit
  by_cases hp : p = "**"
  · rw [if_pos hp, List.mem_append, List.mem_map]
    constructor
    · rintro (h | ⟨i, hi, rfl⟩)
      · exact .inl h
      · rw [List.mem_range] at hi
        exact .inr (.inl ⟨hp, by omega, by omega⟩)
    · rintro (h | ⟨_, h1, h2⟩ | ⟨h, _⟩)
      · exact .inl h
      · exact .inr ⟨b - e, by rw [List.mem_range]; omega, by omega⟩
      · exact absurd hp h
  · rw [if_neg hp]
    by_cases hc : e < ns.length ∧ (p = "*" ∨ ns[e]? = some p)
    · rw [if_pos hc, List.mem_append, List.mem_singleton]
      constructor
      · rintro (h | h)
        · exact .inl h
        · exact .inr (.inr ⟨hp, hc.1, hc.2, h⟩)
      · rintro (h | ⟨h, _⟩ | ⟨_, _, _, h⟩)
        · exact .inl h
        · exact absurd h hp
        · exact .inr h
    · rw [if_neg hc]
      constructor
      · exact .inl
      · rintro (h | ⟨h, _⟩ | ⟨_, h1, h2, _⟩)
        · exact h
        · exact absurd h hp
        · exact absurd ⟨h1, h2⟩ hc
theorem lFold_mem {p : Str} {ns : List Str} : ∀ {es f : List Nat} {b : Nat}, b ∈ es.foldl (lStep p ns) f ↔ b ∈ f ∨ ∃ e ∈ es, lHit p ns e b
  | [], f, b => by simp
  | e :: es, f, b => by
    rw [List.foldl_cons, lFold_mem, lStep_mem]
    constructor
    · rintro ((h | h) | ⟨e', h1, h2⟩)
      · exact .inl h
      · exact .inr ⟨e, List.mem_cons_self .., h⟩
      · exact .inr ⟨e', List.mem_cons_of_mem _ h1, h2⟩
    · rintro (h | ⟨e', h1, h2⟩)
      · exact .inl (.inl h)
      · rcases List.mem_cons.mp h1 with rfl | h1
        · exact .inl (.inr h2)
        · exact .inr ⟨e', h1, h2⟩
theorem lFold_len {p : Str} {ns : List Str} : ∀ {es f : List Nat}, (es.foldl (lStep p ns) f).length ≤ f.length + es.length * (ns.length + 1)
  | [], f => by simp
  | e :: es, f => by
    rw [List.foldl_cons, List.length_cons, Nat.succ_mul]
    refine Nat.le_trans lFold_len ?_
    have : (lStep p ns f e).length ≤ f.length + (ns.length + 1) := by
      unfold lStep
      split
      · rw [List.length_append, List.length_map, List.length_range]
        omega
      · split
        · rw [List.length_append]
          simp
        · omega
    omega
/-- a part more -/
theorem en_step {ps ns : List Str} {i : Nat} {p : Str} {es : List Nat} (hp : ps[i]? = some p) (h : ∀ e, e ∈ es ↔ M47.En ("*" : Str) ("**" : Str) ps ns i e) (b : Nat) : b ∈ es.foldl (lStep p ns) [] ↔ M47.En ("*" : Str) ("**" : Str) ps ns (i + 1) b := by
  rw [lFold_mem]
  by_cases hm : p = "**"
  · subst hm
    rw [M47.en_many hp]
    constructor
    · rintro (h' | ⟨e, h1, ⟨_, h2, h3⟩ | ⟨h', _⟩⟩)
      · cases h'
      · exact ⟨h3, e, (h e).mp h1, h2⟩
      · exact absurd rfl h'
    · rintro ⟨h3, e, h1, h2⟩
      exact .inr ⟨e, (h e).mpr h1, .inl ⟨rfl, h2, h3⟩⟩
  · rw [M47.en_one hp hm]
    constructor
    · rintro (h' | ⟨e, h1, ⟨h', _⟩ | ⟨_, h2, h3, rfl⟩⟩)
      · cases h'
      · exact absurd h' hm
      · have hn : ns[e]? = some ns[e] := List.getElem?_eq_getElem h2
        refine ⟨e, ns[e], rfl, (h e).mp h1, hn, ?_⟩
        rcases h3 with h3 | h3
        · exact .inl h3
        · rw [hn] at h3
          exact .inr (Option.some.inj h3).symm
    · rintro ⟨e, n, rfl, h1, h2, h3⟩
      refine .inr ⟨e, (h e).mpr h1, .inr ⟨hm, (List.getElem?_eq_some_iff.mp h2).1, ?_, rfl⟩⟩
      rcases h3 with h3 | h3
      · exact .inl h3
      · exact .inr (by rw [h2, h3])
section
variable {P : Program} {w : World} {K : PySem.W.Frag} {mg : Str → Option Value} {base : Heap}
/-! ### _law_matches -/
def okLm (x : Str × Str) : Prop := x.1.length ≤ 100 ∧ x.2.length ≤ 100 ∧ (TA.parts x.2).length ≤ 6
abbrev psLm (x : Str × Str) : List TA.Po := [TA.is (.str x.1), TA.is (.str x.2)]
noncomputable abbrev poLm (x : Str × Str) : TA.Po := TA.aB (· = mtB x.1 x.2)
noncomputable def spLm : Sp := TA.spF okLm psLm poLm
open TA in
theorem u_lm {c : TA.Ctx} {l : List (Hp → Prop)} (x : Str × Str) (hx : okLm x) : Cl c l 0 (psLm x) (fun vs H Q => spLm vs H Q C8.E0) (poLm x) := cl_spF (ok := okLm) (Ps := psLm) (P := poLm) x hx
open TA in
theorem c__law_matches {f : Addr} {fd : FuncData} (T : Txt mg) (F : C8.Def K mg "_law_matches" st__law_matches f fd) (b : Binds K fd ["_law_pattern_here", "_law_path_here"] []) : C8.Cal P w K mg base 1 "_law_matches" spLm [] := by
  refine C8.cal0 F b .nil sc__law_matches (fun vs H Q E h => spF_len h fun _ => rfl) (fun cdv A outer s H vs Q E hr h => ?_)
  obtain ⟨⟨pt, pa⟩, S0, ⟨h1, h2, h3⟩, j0, ⟨v, r, φ, rfl, ⟨rfl, _⟩, _, v', r', φ', rfl, ⟨rfl, _⟩, _, hn⟩, fin⟩ := h
  cases (show r' = [] from hn)
  simp only at h1 h2 h3 fin
  refine ⟨_, (pss_cons (ps_par (i := 2) (j := 3) (by rfl) sc__law_matches.nd rfl rfl (by decide) rfl rfl (pa_cons (pe_split (pv 1) pe_str) (pa_cons (pe_lst (pa_cons pe_int pa_nil)) pa_nil)) (by rfl))
      (pss_cons (ps_for PassesOwn.never rfl (pi_list (pe_split (pv 0) pe_str)) (pg_name (i := 4) sc__law_matches.nd rfl (Or.inl rfl))
      (pss_cons (ps_set (i := 5) sc__law_matches.nd rfl (Or.inl rfl) (pe_lst pa_nil))
      (pss_cons (ps_for PassesOwn.never rfl (pi_list (pv 3)) (pg_name (i := 6) sc__law_matches.nd rfl (Or.inl rfl))
      (pss_one (ps_if (pt_cmpR op_eq (pv 4) pe_str (nomark _))
      (pss_one (ps_expr (pe_bm PySem.F.plainAttrs_list PySem.F.slot_list_extend PySem.F.type_list_extend mt_extend (pv 5) (pa_cons (pe_listRg rfl (by rfl) T.m_list (prg_2 (by rfl) T.m_range (pv 6) (pe_op op_add (pe_callB (TA.call_lenK (K := K) rfl) (by rfl) T.m_len (by decide +kernel) (pa_cons (pv 2) pa_nil)) pe_int))) pa_nil))))
      (pss_one (ps_if (PW.pt (pw_and (pt_cmpR op_lt (pv 6) (pe_callB (TA.call_lenK (K := K) rfl) (by rfl) T.m_len (by decide +kernel) (pa_cons (pv 2) pa_nil)) (nomark _)) (pw_and1 (pt_cmpR (TA.op_inK (K := K) rfl) (pv 4) (pe_tup (pa_cons pe_str (pa_cons (pe_ix (TA.ix_listK (K := K) rfl) (pv 2) (pv 6) (fun _ _ => rfl)) pa_nil))) (by rfl)))))
      (pss_one (ps_expr (pe_bm PySem.F.plainAttrs_list PySem.F.slot_list_append PySem.F.type_list_append mt_append (pv 5) (pa_cons (pe_op op_add (pv 6) pe_int) pa_nil))))
      pss_nil)))))
      (pss_one (ps_set (i := 3) sc__law_matches.nd rfl (Or.inl rfl) (pe_callB (cr_sortedSet rfl) (by rfl) T.m_sorted (by decide +kernel) (pa_cons (pe_callTy (TA.cr_setI (K := K) rfl rfl) (by rfl) T.m_set (by decide +kernel) (pa_cons (pv 5) pa_nil)) pa_nil)))))))
      (pss_one (ps_ret (pe_cmpR (TA.op_inK (K := K) rfl) (pe_callB (TA.call_lenK (K := K) rfl) (by rfl) T.m_len (by decide +kernel) (pa_cons (pv 2) pa_nil)) (pv 3) (by rfl)))))), ?_⟩
  have c1 := TA.parts_count pt
  generalize hns : TA.parts pa = ns at h3
  generalize hps : TA.parts pt = ps at c1
  refine q_par (c := ⟨sd0, S0⟩) (n := 0) (ea_cons (ev_parts (x := pa) (ev_varS rfl) ev_cS (by omega)) (ea_cons (ev_lstM (xs := natV [0]) (ea_cons ev_c ea_nil) (by decide)) ea_nil)) Kn.start j0 ?_
  rintro v v' φ ψ H1 ⟨pn, xs, rfl, rfl, rfl⟩ ⟨pe, xs', rfl, rfl, rfl⟩ k1 j1
  rw [hns] at k1
  refine q_for (c := ⟨sd0, S0⟩) (n := 0) (d0 := 0) (d := 0) (N0 := ps.length) (i_list (A := (· = ps.map V.str)) (Ev.toL (Ev.eqM (by rw [hps]) (ev_parts (x := pt) (ev_varS rfl) ev_cS (by omega))))) ?hN (fun _ _ _ _ _ => g_name) k1 (by simpa using j1)
    (fun N Y i σ S lx => S = S0 ∧ ∃ u es o4 o5 o6, σ = [some (.str pt), some (.str pa), some (.ref pn), some (.ref u), o4, o5, o6] ∧ es.length ≤ 7 ∧ (∀ e, e ∈ es ↔ M47.En ("*" : Str) ("**" : Str) ps ns i e) ∧
      kM u (natV es) ∈ lx ++ [kM pn (ns.map V.str), kM pe (natV [0]), Mo (TA.Ctx.mk sd0 S0).m H]) ?h0 ?hs ?hd
  case hN =>
    rintro N Y ⟨xs, rfl, rfl, _⟩
    rw [List.length_map]
    exact Nat.le_refl _
  case h0 =>
    rintro N Y _
    exact ⟨rfl, pe, [0], none, none, none, rfl, by decide, fun e => by rw [M47.en_zero]; simp, m1⟩
  case hs =>
    rintro N Y i x φ σ1 σ2 S lx G H' ⟨xs, rfl, rfl, rfl⟩ hi ⟨hx, rfl⟩ rfl ⟨rfl, u, es, o4, o5, o6, rfl, hl, hes, hm⟩ _ k2 j2
    obtain ⟨p, hp, rfl⟩ := strV_item hx
    have hbd : ∀ e, e ∈ es → e ≤ ns.length := fun e he => ((hes e).mp he).1
    refine q_nil (c := ⟨sd0, S⟩) (n := 0) k2 (by simpa using j2) ?_
    rintro q H3 k3 j3
    refine q_for (c := ⟨sd0, (q, .lst []) :: S⟩) (n := 0) (d0 := 0) (d := 0) (N0 := es.length) (i_list (K := K) (A := (· = natV es)) (Ev.toL (ev_varM rfl (mem_mid hm)))) ?gN (fun _ _ _ _ _ => g_name) k3 (by simpa using j3)
      (fun N Y i σ S' lx' => lx' = [] ∧ (∃ o6, σ = [some (.str pt), some (.str pa), some (.ref pn), some (.ref u), some (.str p), some (.ref q), o6]) ∧ S' = (q, .lst (natV ((es.take i).foldl (lStep p ns) []))) :: S) ?g0 ?gs ?gd
    case gN =>
      rintro N Y ⟨xs, rfl, rfl, _⟩
      rw [natV_len]
      exact Nat.le_refl _
    case g0 =>
      rintro N Y _
      exact ⟨rfl, ⟨o6, rfl⟩, rfl⟩
    case gs =>
      rintro N Y i' x φ σ1 σ2 S' lx' G' H4 ⟨xs, rfl, rfl, rfl⟩ hi' ⟨hx', rfl⟩ rfl ⟨rfl, ⟨o6', rfl⟩, rfl⟩ _ k4 j4
      obtain ⟨e, he, rfl⟩ := natV_item hx'
      have hle := hbd e (List.mem_of_getElem? he)
      have ht := M47.take_snoc he
      generalize hF : (es.take i').foldl (lStep p ns) [] = g at k4 j4
      have hlen : g.length ≤ 49 := by
        rw [← hF]
        refine Nat.le_trans lFold_len ?_
        rw [List.length_take, List.length_nil, Nat.zero_add]
        exact Nat.le_trans (Nat.mul_le_mul (show min i' es.length ≤ 7 by omega) (show ns.length + 1 ≤ 7 by omega)) (by decide)
      have hF' : (es.take (i' + 1)).foldl (lStep p ns) [] = lStep p ns g e := by
        rw [ht, List.foldl_append, hF]
        rfl
      have mn : kM pn (ns.map V.str) ∈ T0 :: ([] ++ G' :: (T0 :: (lx ++ G :: [kM pn (ns.map V.str), kM pe (natV [0]), Mo (TA.Ctx.mk sd0 S).m H]))) := .tail _ (.tail _ (mem_mid (List.mem_append_right _ m0)))
      rw [hF']
      unfold lStep
      refine s_if (c := ⟨sd0, (q, .lst (natV g)) :: S⟩) (n := 0) (et_of (ev_op (ev_varS rfl) ev_cS op_teqS)) k4 (by simpa using j4) (fun hA H5 e5 k5 j5 => ?_) (fun hA H5 e5 k5 j5 => ?_)
      · have hA := of_decide_eq_true hA.symm
        rw [if_pos hA]
        refine s_ext (st := sd0) (S := S) (ev_var rfl) (ev_listRg (a := e) (b := ns.length + 1) (ev_varI rfl) (Ev.imp (ev_op (ev_cb (ea_cons (Ev.toL (K := K) (ev_varM rfl mn)) ea_nil) cl_tlenL) ev_cI (op_tI (g := fun i j => i + j))) ?_) (by omega) (by omega)) ?_ k5 j5 ?_
        · rintro v φ ⟨h, k, rfl, rfl⟩
          exact ⟨h, _, by rw [List.length_map]; rfl, rfl⟩
        · rintro ys rfl
          rw [natV_len, natV_len, List.length_map, List.length_range]
          omega
        · rintro ys H6 rfl k6 j6
          refine ⟨_, [], ⟨rfl, ⟨_, rfl⟩, rfl⟩, rfl, k6.sub fun _ h => .tail _ h, ?_⟩
          have en : natV g ++ natV ((List.range (ns.length + 1 - e)).map fun i => e + i) = natV (g ++ (List.range (ns.length + 1 - e)).map fun i => e + i) := by
            unfold natV
            rw [List.map_append]
          rw [← en]
          simpa using j6
      · have hA := of_decide_eq_false hA.symm
        rw [if_neg hA]
        refine s_if (c := ⟨sd0, (q, .lst (natV g)) :: S⟩) (n := 0) (et_tand (b := decide (p ∈ ([("*" : Str), ns.getD e ""]))) (et_of (ev_op (ev_varI rfl) (ev_cb (ea_cons (Ev.toL (K := K) (ev_varM rfl mn)) ea_nil) cl_tlenL) op_tIB)) fun hlt => et_of (ev_op (Ev.aV (ev_var rfl)) (ev_tupT (K := K) (xs := ([("*" : Str), ns.getD e ""]).map V.str) (ea_cons ev_c (ea_cons (Ev.isV (ev_op (Ev.toL (K := K) (ev_varM rfl mn)) (ev_varI rfl) (op_tixL ?hx))) ea_nil)) (by simp)) (op_inTS (x := p) (ss := [("*" : Str), ns.getD e ""])))) k5 j5 (fun hB H6 e6 k6 j6 => ?_) (fun hB H6 e6 k6 j6 => ?_)
        case hx =>
          have hlt := of_decide_eq_true hlt
          rw [List.length_map] at hlt
          have hlt : e < ns.length := by omega
          rw [atI_at, List.getElem?_map, List.getElem?_eq_getElem hlt, List.getD_eq_getElem?_getD, List.getElem?_eq_getElem hlt]
          rfl
        · have hB := hB.symm
          simp only [Bool.and_eq_true, decide_eq_true_eq, List.mem_cons, List.not_mem_nil, or_false, List.length_map] at hB
          have hlt : e < ns.length := by omega
          have hg : ns[e]? = some (ns.getD e "") := by rw [List.getD_eq_getElem?_getD, List.getElem?_eq_getElem hlt]; rfl
          rw [if_pos ⟨hlt, hB.2.imp id fun h => by rw [hg, ← h]⟩]
          refine s_app (st := sd0) (S := S) (ev_var rfl) (ev_op (ev_varI rfl) ev_cI (op_tI (g := fun i j => i + j))) (by rw [natV_len]; omega) k6 j6 ?_
          rintro v φ H7 ⟨e', k, rfl, rfl⟩ k7 j7
          refine ⟨_, [], ⟨rfl, ⟨_, rfl⟩, rfl⟩, rfl, k7.sub fun _ h => .tail _ (.tail _ h), ?_⟩
          rw [← natV_app (k := e + 1)]
          simpa using j7
        · have hB := hB.symm
          simp only [Bool.and_eq_false_iff, decide_eq_false_iff_not, List.mem_cons, List.not_mem_nil, or_false, List.length_map] at hB
          rw [if_neg]
          · refine ⟨_, [], ⟨rfl, ⟨_, rfl⟩, rfl⟩, rfl, k6.sub fun _ h => .tail _ h, ?_⟩
            simpa using j6
          · rintro ⟨hlt, hc⟩
            have hg : ns[e]? = some (ns.getD e "") := by rw [List.getD_eq_getElem?_getD, List.getElem?_eq_getElem hlt]; rfl
            rcases hB with hB | hB
            · omega
            · refine hB (hc.imp id fun h => ?_)
              rw [hg] at h
              exact (Option.some.inj h).symm
    case gd =>
      rintro N Y σ1 S' lx' G' H4 ⟨xs, rfl, rfl, rfl⟩ ⟨rfl, ⟨o6', rfl⟩, rfl⟩ _ k4 j4
      rw [natV_len, List.take_length] at j4
      have hst := en_step hp hes
      have hlen : (es.foldl (lStep p ns) []).length < 64 := by
        refine Nat.lt_of_le_of_lt lFold_len ?_
        rw [List.length_nil, Nat.zero_add]
        exact Nat.lt_of_le_of_lt (Nat.mul_le_mul hl (show ns.length + 1 ≤ 7 by omega)) (by decide)
      refine s_asg (c := ⟨sd0, S⟩) (n := 0) (ev_sortset (K := K) (ks := es.foldl (lStep p ns) []) (ea_cons (Ev.toL (ev_varF rfl m0)) ea_nil) hlen) (j4.froze k4) j4.pop ?_
      rintro v φ H5 ⟨u2, xs, rfl, ⟨ks2, hks2, hup, rfl⟩, rfl⟩ k5 j5
      refine ⟨S, [kM u2 (natV ks2)], ⟨rfl, u2, ks2, _, _, _, rfl, ?_, fun b => by rw [hks2, hst], m0⟩, rfl, k5.sub ?_, by simpa using j5⟩
      · refine Nat.le_trans (up_len (a := 0) (m := ns.length + 1) hup fun k hk => ⟨Nat.zero_le _, ?_⟩) (by omega)
        have := ((hst k).mp ((hks2 k).mp hk)).1
        omega
      · intro x h
        rcases List.mem_cons.mp h with rfl | h
        · exact m0
        · exact .tail _ (.tail _ (.tail _ (.tail _ (List.mem_append_right _ h))))
  case hd =>
    rintro N Y σ1 S lx G H' ⟨xs, rfl, rfl, rfl⟩ ⟨rfl, u, es, o4, o5, o6, rfl, hl, hes, hm⟩ _ k2 j2
    rw [List.length_map] at hes
    refine s_ret (c := ⟨sd0, S⟩) (n := 0) (P := aB (· = mtB pt pa)) (Ev.imp (ev_op (Ev.vN (ev_cb (ea_cons (Ev.toL (K := K) (ev_varM rfl (mem_mid0 (List.mem_append_right _ m0)))) ea_nil) cl_tlenL)) (Ev.toL (ev_varM rfl (mem_mid0 hm))) op_inLN) ?_) k2 j2 ?_
    · rintro v φ ⟨e, b, rfl, rfl⟩
      refine ⟨e, _, ?_, rfl⟩
      show _ = mtB pt pa
      rw [Bool.eq_iff_iff, decide_eq_true_iff, mtB_iff, hns, hps, ← M47.en_end, ← hes, List.length_map]
    · intro v φ H3 e3 hP k3 j3
      exact fin_F fin j0 hP k3 (mem_mid0 (List.mem_append_right _ m2)) j3
end
end K47

set_option Elab.async false
set_option linter.all false
set_option maxRecDepth 100000
set_option maxHeartbeats 4000000
namespace K47
open PySem PySem.Spec PyProof.Rows L2
section
variable {P : Program} {w : World} {K : PySem.W.Frag} {mg : Str → Option Value} {base : Heap}
/-! ### _law_pick -/
def okPick (xs : List V) : Prop := 1 ≤ xs.length ∧ xs.length ≤ 1000
abbrev psPick (K : PySem.W.Frag) (xs : List V) : List TA.Po := [TA.aL K (· = xs)]
abbrev poPick (xs : List V) : TA.Po := TA.aV (· ∈ xs)
def spPick (K : PySem.W.Frag) : Sp := TA.spS okPick (fun _ => 1) (psPick K) poPick
open TA in
theorem u_pick {a b : Addr} {tb : List (Addr × Str)} {S : List (Addr × HO)} {l : List (Hp → Prop)} (xs : List V) (h : okPick xs) : Cl ⟨⟨some (a, b), tb⟩, S⟩ l 1 [is (.ref a), aL K (· = xs)] (fun vs H Q => spPick K vs H Q C8.E0) (aV (· ∈ xs)) :=
  cl_spS (ok := okPick) (dd := fun _ => 1) (Ps := psPick K) (P := poPick) xs h
theorem atI_mem {xs : List V} {i : Int} {v : V} (h : atI xs i = some v) : v ∈ xs := by
  unfold atI at h
  cases e : ixN xs.length i with
  | none => rw [e] at h; cases h
  | some j => rw [e] at h; exact List.mem_of_getElem? h
theorem atI_some {α : Type} {xs : List α} {i : Int} (h0 : 0 ≤ i) (h1 : i < xs.length) : ∃ v, atI xs i = some v := by
  obtain ⟨k, rfl⟩ : ∃ k : Nat, i = k := ⟨i.toNat, by omega⟩
  rw [TA.atI_at]
  exact ⟨_, List.getElem?_eq_getElem (by omega)⟩
open TA in
theorem c__law_pick {f : Addr} {fd : FuncData} (T : Txt mg) (c__law_draw : C8.Cal P w K mg base 1 "_law_draw" spDraw []) (F : C8.Def K mg "_law_pick" st__law_pick f fd) (b : Binds K fd ["_law_stream", "_law_things"] []) : C8.Cal P w K mg base 2 "_law_pick" (spPick K) [] := by
  refine C8.cal0 F b .nil sc__law_pick (fun vs H Q E h => spS_len h fun _ => rfl) (fun cdv A outer s H vs Q E hr h => ?_)
  obtain ⟨xs, a, b, S0, n, ws, ⟨h1, h2⟩, j0, rfl, ⟨v, r, φ, rfl, ⟨p, xs', rfl, rfl, rfl⟩, bp, hn⟩, fin⟩ := h
  cases (show r = [] from hn)
  refine ⟨_, (pss_one (ps_ret (pe_ix (TA.ix_listK (K := K) rfl) (pv 1) (C8.pe_c c__law_draw hr (by decide) (by rfl) (pa_cons (pv 0) (pa_cons (pe_callB (TA.call_lenK (K := K) rfl) (by rfl) T.m_len (by decide +kernel) (pa_cons (pv 1) pa_nil)) pa_nil))) (fun _ _ => rfl)))), ?_⟩
  refine s_ret (c := ⟨sdS a b, S0⟩) (n := n) (P := aV (· ∈ xs')) (Ev.imp (ev_op (ev_varL (K := K) rfl m0) (ev_call (d2 := 1) (ea_cons (ev_var rfl) (ea_cons (Ev.isI (ev_cb (ea_cons (ev_varL (K := K) rfl m0) ea_nil) cl_tlenL)) ea_nil)) (u_draw xs'.length ⟨h1, by omega⟩)) (op_ixL ?_)) ?_) (Kn.start.push bp) j0 ?_
  · rintro xs i rfl ⟨h3, h4⟩
    exact atI_some h3 h4
  · rintro v φ ⟨e, xs, i, rfl, _, h⟩
    exact ⟨e, atI_mem h⟩
  · intro v φ H' e hP k3 j3
    exact fin_S fin j0 hP k3 m1 j3
/-! ### _law_same: two that stand for the same data -/
def spSame (K : PySem.W.Frag) : Sp := fun vs H Q _ => ∃ (v v' : V) (d : PyData), vs = [v, v'] ∧ Dp K H v d ∧ Dp K H v' d ∧ d.showable = true ∧ d.hasDict = false ∧ d.depth ≤ 60 ∧ d.shown.length ≤ sizeLine ∧ Q (.bl true) H
open TA in
theorem c__law_same {f : Addr} {fd : FuncData} (T : Txt mg) (F : C8.Def K mg "_law_same" st__law_same f fd) (b : Binds K fd ["_law_found", "_law_due"] []) : CalG P w K mg base 1 "_law_same" (spSame K) := by
  refine calG_by F b sc__law_same (fun vs H Q E h => ?_) (fun cdv A outer s H vs Q E hgd hr h => ?_)
  · obtain ⟨v, v', d, rfl, _⟩ := h
    rfl
  · obtain ⟨v, v', d, rfl, h1, h2, h3, h4, h5, h6, q⟩ := h
    refine ⟨_, (pss_one (ps_ret (pe_cmpR op_eq (pe_callB (TA.cr_repr hgd hr.units) (by rfl) T.m_repr (by decide +kernel) (pa_cons (pv 0) pa_nil)) (pe_callB (TA.cr_repr hgd hr.units) (by rfl) T.m_repr (by decide +kernel) (pa_cons (pv 1) pa_nil)) (nomark _)))), ?_⟩
    refine ⟨v, rfl, v, d, rfl, h1, h3, h4, h5, h6, v', rfl, v', d, rfl, h2, h3, h4, h5, h6, rfl, ?_⟩
    have e : (V.bl (d.shown == d.shown)) = V.bl true := by rw [beq_self_eq_true]
    show Q (V.bl _) H
    simpa using q
end
end K47

set_option Elab.async false
set_option linter.all false
set_option maxRecDepth 100000
set_option maxHeartbeats 4000000
namespace K47
open PySem PySem.Spec PyProof.Rows L2
/-! ### names, in plain words -/
theorem nmB_S {cs : List Nat} (h1 : 1 ≤ cs.length) (h2 : cs.length ≤ 8) (h : ∀ c ∈ cs, isLet c = true) : nmB (SX.S cs) = true := by
  unfold nmB
  have : cs.all isLet = true := List.all_eq_true.mpr h
  have e : (SX.S cs).cps.toList = cs := by simp
  rw [SX.S_len, e, this]
  simp [h1, h2]
theorem nmB_len {x : Str} (h : nmB x = true) : x.length ≤ 8 := by
  unfold nmB at h
  simp only [Bool.and_eq_true, decide_eq_true_eq] at h
  exact h.1.2
theorem nmB_stroke {x : Str} (h : nmB x = true) : 47 ∉ x.cps.toList := by
  unfold nmB at h
  simp only [Bool.and_eq_true] at h
  intro hm
  have := List.all_eq_true.mp h.2 47 hm
  exact absurd this (by decide +kernel)
theorem words_nm : ∀ v ∈ ([("read" : Str), "list", "setting", "tool", "end", "main", "none"]).map V.str, ∃ x, nmB x = true ∧ v = .str x := by
  intro v hv
  obtain ⟨x, hx, rfl⟩ := List.mem_map.mp hv
  refine ⟨x, ?_, rfl⟩
  have : ∀ y ∈ ([("read" : Str), "list", "setting", "tool", "end", "main", "none"]), nmB y = true := by decide +kernel
  exact this x hx
theorem letters_at {i : Int} {ch : Nat} (h : atI letters.cps.toList i = some ch) : isLet ch = true := by
  unfold isLet
  refine decide_eq_true ?_
  unfold atI at h
  cases e : ixN letters.cps.toList.length i with
  | none => rw [e] at h; cases h
  | some j => rw [e] at h; exact List.mem_of_getElem? h
theorem letters_len : letters.cps.toList.length = 26 := by decide +kernel
section
variable {P : Program} {w : World} {K : PySem.W.Frag} {mg : Str → Option Value} {base : Heap}
/-! ### _law_fresh -/
def okFresh (ss : List Str) : Prop := ss.length ≤ 1000
abbrev psFresh (K : PySem.W.Frag) (ss : List Str) : List TA.Po := [TA.aL K (· = ss.map V.str)]
abbrev poFresh (ss : List Str) : TA.Po := TA.aS fun x => nmB x = true
def spFresh (K : PySem.W.Frag) : Sp := TA.spS okFresh (fun _ => 11) (psFresh K) poFresh
open TA in
theorem u_fresh {a b : Addr} {tb : List (Addr × Str)} {S : List (Addr × HO)} {l : List (Hp → Prop)} (ss : List Str) (h : okFresh ss) : Cl ⟨⟨some (a, b), tb⟩, S⟩ l 11 [is (.ref a), aL K (· = ss.map V.str)] (fun vs H Q => spFresh K vs H Q C8.E0) (aS fun x => nmB x = true) :=
  cl_spS (ok := okFresh) (dd := fun _ => 11) (Ps := psFresh K) (P := poFresh) ss h
open TA in
theorem c__law_fresh {f : Addr} {fd : FuncData} (T : Txt mg) (c__law_draw : C8.Cal P w K mg base 1 "_law_draw" spDraw []) (c__law_pick : C8.Cal P w K mg base 2 "_law_pick" (spPick K) []) (F : C8.Def K mg "_law_fresh" st__law_fresh f fd) (b : Binds K fd ["_law_stream", "_law_taken"] []) :
    C8.Cal P w K mg base 3 "_law_fresh" (spFresh K) [] := by
  refine C8.cal0 F b .nil sc__law_fresh (fun vs H Q E h => spS_len h fun _ => rfl) (fun cdv A outer s H vs Q E hr h => ?_)
  obtain ⟨ss, a, b, S0, n, ws, hz, j0, rfl, ⟨v, r, φ, rfl, ⟨p, xs', rfl, rfl, rfl⟩, bp, hn⟩, fin⟩ := h
  cases (show r = [] from hn)
  have hz : ss.length ≤ 1000 := hz
  refine ⟨_, (pss_cons (ps_asg (pe_tup (pa_cons pe_str (pa_cons (pe_lst (pa_cons pe_str (pa_cons pe_str (pa_cons pe_str (pa_cons pe_str (pa_cons pe_str (pa_cons pe_str (pa_cons pe_str pa_nil)))))))) pa_nil))) (pg_tup rfl (pgs_cons (pg_name (i := 2) sc__law_fresh.nd rfl (Or.inr rfl)) (pgs_cons (pg_name (i := 3) sc__law_fresh.nd rfl (Or.inl rfl)) pgs_nil))))
      (pss_cons (ps_set (i := 5) sc__law_fresh.nd rfl (Or.inl rfl) (pe_join pe_str (pe_lc (own := [("_law_k", 4)]) (g := (gName 4)) (by rfl) sc__law_fresh.nd (pi_range1 (by rfl) T.m_range (pa_cons (pe_ix (TA.ix_listK (K := K) rfl) (pe_lst (pa_cons pe_int (pa_cons pe_int (pa_cons pe_int (pa_cons pe_int (pa_cons pe_int (pa_cons pe_int pa_nil))))))) (C8.pe_c c__law_draw hr (by decide) (by rfl) (pa_cons (pv 0) (pa_cons pe_int pa_nil))) (fun _ _ => rfl)) pa_nil)) (blkOk_by (own := [("_law_k", 4)]) (N := ["_law_stream", "_law_taken", "_law_letters", "_law_words", "_law_k", "_law_name", "_law_spare"]) (sc := C8.fnScope st__law_fresh) (by decide +kernel)) (fun _ _ _ _ _ => (pg_name (i := 4) sc__law_fresh.nd rfl (Or.inl rfl))) (fun _ _ _ _ _ => pts_nil) (fun _ _ _ _ _ => (pe_ix ix_str (pv 2) (C8.pe_c c__law_draw hr (by decide) (by rfl) (pa_cons (pv 0) (pa_cons pe_int pa_nil))) (fun _ _ => rfl))))))
      (pss_cons (ps_set (i := 5) sc__law_fresh.nd rfl (Or.inl rfl) (pe_ifExp (pt_cmpR op_eq (C8.pe_c c__law_draw hr (by decide) (by rfl) (pa_cons (pv 0) (pa_cons pe_int pa_nil))) pe_int (nomark _)) (C8.pe_c c__law_pick hr (by decide) (by rfl) (pa_cons (pv 0) (pa_cons (pv 3) pa_nil))) (pv 5)))
      (pss_cons (ps_for PassesOwn.never rfl (pi_range1 (by rfl) T.m_range (pa_cons (pe_op op_mul pe_int (pe_callTy call_int1 (by rfl) T.m_int (by decide +kernel) (pa_cons (pe_cmpR (TA.op_inK (K := K) rfl) (pv 5) (pv 1) (by rfl)) pa_nil))) pa_nil)) (pg_name (i := 4) sc__law_fresh.nd rfl (Or.inl rfl))
      (pss_cons (ps_set (i := 6) sc__law_fresh.nd rfl (Or.inl rfl) (pe_op op_add_str (pe_op op_add_str pe_str (pe_ix ix_str (pv 2) (pe_op op_fdiv (pv 4) pe_int) (fun _ _ => rfl))) (pe_ix ix_str (pv 2) (pe_op op_mod (pv 4) pe_int) (fun _ _ => rfl))))
      (pss_one (ps_if (pt_cmpR (TA.op_notInK (K := K) rfl) (pv 6) (pv 1) (by rfl))
      (pss_one (ps_ret (pv 6)))
      pss_nil))))
      (pss_one (ps_ret (pv 5))))))), ?_⟩
  refine q_pair (c := ⟨sdS a b, S0⟩) (n := n + 11) (P1 := is (.str letters)) (ea_cons ev_c (ea_cons (ev_lstM (xs := ([("read" : Str), "list", "setting", "tool", "end", "main", "none"]).map V.str) (ea_cons ev_c (ea_cons ev_c (ea_cons ev_c (ea_cons ev_c (ea_cons ev_c (ea_cons ev_c (ea_cons ev_c ea_nil))))))) (by decide)) ea_nil)) (Kn.start.push bp) j0 ?_
  rintro v v' φ ψ H1 ⟨rfl, rfl⟩ ⟨pw, xs', rfl, rfl, rfl⟩ k1 j1
  have hidx : ∀ xs i, xs = [V.int 1, .int 1, .int 1, .int 2, .int 3, .int 8] → (0 ≤ i ∧ i < ((6 : Nat) : Int)) → ∃ v, atI xs i = some v := fun xs i e h => by
    rw [e]
    exact atI_some h.1 h.2
  refine q_asg (c := ⟨sdS a b, S0⟩) (n := n + 2) (d := 9) (P := aS fun x => nmB x = true) (Ev.imp (ev_join (K := K) (z := "") (B := fun ss => ∃ cs : List Nat, ss = cs.map (fun c => (⟨#[c]⟩ : Str)) ∧ 1 ≤ cs.length ∧ cs.length ≤ 8 ∧ ∀ c ∈ cs, isLet c = true) ev_cS
    (Ev.toL (Ev.imp (ev_lcR (d := 1) (N0 := 8) (A := fun N => 1 ≤ N ∧ N ≤ 8) (fun v => ∃ ch, isLet ch = true ∧ v = .str ⟨#[ch]⟩)
      (ea_cons (Ev.imp (ev_op (Ev.toL (K := K) (ev_lstM (xs := [V.int 1, .int 1, .int 1, .int 2, .int 3, .int 8]) (ea_cons ev_c (ea_cons ev_c (ea_cons ev_c (ea_cons ev_c (ea_cons ev_c (ea_cons ev_c ea_nil)))))) (by decide))) (ev_call (d2 := 1) (ea_cons (ev_var rfl) (ea_cons ev_c ea_nil)) (u_draw 6 ⟨by decide, by decide⟩)) (op_ixL hidx)) ?g1) ea_nil) (fun N h => h.2) (by decide) (fun _ => rfl) ?g2) ?g3)) ?g4) ?g5) k1 (by simpa using j1) ?_
  case g1 =>
    rintro v φ ⟨e, xs, i, rfl, _, h⟩
    have hm := atI_mem h
    simp only [List.mem_cons, List.not_mem_nil, or_false] at hm
    refine ⟨e, ?_⟩
    rcases hm with rfl | rfl | rfl | rfl | rfl | rfl
    · exact ⟨_, ⟨1, by decide, rfl⟩, rfl⟩
    · exact ⟨_, ⟨1, by decide, rfl⟩, rfl⟩
    · exact ⟨_, ⟨1, by decide, rfl⟩, rfl⟩
    · exact ⟨_, ⟨2, by decide, rfl⟩, rfl⟩
    · exact ⟨_, ⟨3, by decide, rfl⟩, rfl⟩
    · exact ⟨_, ⟨8, by decide, rfl⟩, rfl⟩
  case g2 =>
    intro N i D ys hN hi
    refine Ev.imp (ev_op (ev_varS rfl) (ev_call (d2 := 1) (ea_cons (ev_var rfl) (ea_cons ev_c ea_nil)) (u_draw 26 ⟨by decide, by decide⟩)) (op_ixS (A := (· = letters)) ?_)) ?_
    · rintro z i rfl ⟨h1, h2⟩
      exact ⟨by decide +kernel, atI_some h1 (by rw [letters_len]; exact h2)⟩
    · rintro v φ ⟨e, x, ⟨z, i, ch, rfl, _, h, rfl⟩, rfl⟩
      exact ⟨e, ch, letters_at h, rfl⟩
  case g3 =>
    rintro v φ ⟨q, ys, e1, ⟨N, hN, hl, hy⟩, e2⟩
    obtain ⟨cs, h1, h2, h3⟩ := list_of_items (ys := ys) (f := fun c : Nat => V.str ⟨#[c]⟩) (C := fun c => isLet c = true) fun i y hi => hy y (List.mem_of_getElem? hi)
    exact ⟨q, ys, e1, ⟨_, ⟨cs, rfl, by omega, by omega, h1⟩, by rw [h3, List.map_map]; rfl⟩, e2⟩
  case g4 =>
    rintro ss' ⟨cs, rfl, _, h2, _⟩
    have : ((cs.map fun c => (⟨#[c]⟩ : Str)).map (·.length)).sum ≤ (cs.map fun c => (⟨#[c]⟩ : Str)).length * 1 := sum_le fun x hx => by
      obtain ⟨c, _, rfl⟩ := List.mem_map.mp hx
      exact Nat.le_refl _
    rw [List.length_map] at this ⊢
    have : ("" : Str).length = 0 := by decide +kernel
    rw [this]
    omega
  case g5 =>
    rintro v φ ⟨e, x, ⟨ss', ⟨cs, rfl, h1, h2, h3⟩, rfl⟩, rfl⟩
    exact ⟨e, _, by rw [join_signs]; exact nmB_S h1 h2 h3, rfl⟩
  rintro v φ H2 ⟨rfl, nm, hnm, rfl⟩ k2 j2
  refine q_asg (c := ⟨sdS a b, S0⟩) (n := n) (d := 2) (P := aS fun x => nmB x = true) (Ev.imp (ev_if (A := fun _ => True) (EvT.imp (et_of (ev_op (ev_call (d2 := 1) (ea_cons (ev_var rfl) (ea_cons ev_c ea_nil)) (u_draw 9 ⟨by decide, by decide⟩)) ev_cI op_eqI)) fun _ _ => trivial)
    (fun _ => ev_call (d2 := 1) (ea_cons (ev_var rfl) (ea_cons (Ev.toL (K := K) (ev_varM rfl m2)) ea_nil)) (u_pick _ ⟨by decide, by decide⟩)) (fun _ => Ev.up (ev_varS rfl) (Nat.zero_le _))) ?g6) k2 (by simpa using j2) ?_
  case g6 =>
    rintro v φ (⟨_, e, h⟩ | ⟨_, e, x, rfl, rfl⟩)
    · exact ⟨e, words_nm v h⟩
    · exact ⟨e, _, hnm, rfl⟩
  rintro v φ H3 ⟨rfl, nm2, hnm2, rfl⟩ k3 j3
  refine q_for (c := ⟨sdS a b, S0⟩) (n := n) (d0 := 0) (d := 0) (N0 := 676) (i_range1 (A := fun N => N ≤ 676) (N0 := 676) (ea_cons (Ev.imp (ev_op ev_cI (ev_cb (ea_cons (ev_op (Ev.aV (ev_var rfl)) (ev_varL (K := K) rfl m4) (op_inLS (x := nm2) (ss := ss))) ea_nil) cl_intB) (op_IC fun i j _ _ => ?g7)) ?g8) ea_nil) (fun N h => h) (by decide)) ?hN (fun _ _ _ _ _ => g_name) k3 (by simpa using j3)
    (fun N Y i σ S lx => lx = [] ∧ S = S0 ∧ ∃ o4 o6, σ = [some (.ref a), some (.ref p), some (.str letters), some (.ref pw), o4, some (.str nm2), o6]) ?h0 ?hs ?hd
  case g7 =>
    rename_i h1 h2
    rw [h1]
    exact .inl ⟨by decide, by decide⟩
  case g8 =>
    rintro v φ ⟨e, k, ⟨i, j, rfl, ⟨b', _, rfl⟩, rfl⟩, rfl⟩
    cases b' with
    | true => exact ⟨e, _, ⟨676, Nat.le_refl _, rfl⟩, rfl⟩
    | false => exact ⟨e, _, ⟨0, by decide, rfl⟩, rfl⟩
  case hN =>
    rintro N Y ⟨h, _⟩
    exact h
  case h0 =>
    rintro N Y _
    exact ⟨rfl, rfl, _, _, rfl⟩
  case hs =>
    rintro N Y i x φ σ1 σ2 S lx G H' ⟨hN, rfl⟩ hi ⟨rfl, rfl⟩ rfl ⟨rfl, rfl, o4, o6, rfl⟩ _ k4 j4
    have hi2 : i < 676 := by omega
    refine q_asg (c := ⟨sdS a b, S⟩) (n := n) (d := 0) (P := aS fun x => nmB x = true) (Ev.imp (ev_op (ev_op (ev_cS (z := "q")) (ev_op (ev_varS rfl) (ev_op (ev_varI rfl) ev_cI (op_tC ⟨by decide, by decide⟩)) (op_ixS (A := (· = letters)) ?f1)) (op_addS ?f2)) (ev_op (ev_varS rfl) (ev_op (ev_varI rfl) ev_cI (op_tmod (by decide))) (op_ixS (A := (· = letters)) ?f3)) (op_addS ?f4)) ?f5) k4 (by simpa using j4) ?_
    case f1 =>
      rintro z i' rfl rfl
      exact ⟨by decide +kernel, atI_some (by omega) (by rw [letters_len]; omega)⟩
    case f2 =>
      rintro x y rfl ⟨z, i', ch, _, _, _, rfl⟩
      have : ("q" : Str).length = 1 := by decide +kernel
      rw [this]
      exact (by decide : 1 + 1 ≤ 1000000)
    case f3 =>
      rintro z i' rfl rfl
      exact ⟨by decide +kernel, atI_some (by omega) (by rw [letters_len]; omega)⟩
    case f4 =>
      rintro x y ⟨x1, y1, rfl, ⟨z, i', ch, _, _, _, rfl⟩, rfl⟩ ⟨z2, i2, ch2, _, _, _, rfl⟩
      have e : (("q" : Str) ++ (⟨#[ch]⟩ : Str)) = SX.S ([113] ++ [ch]) := SX.S_cat [113] [ch]
      rw [e, SX.S_len]
      exact (by decide : 2 + 1 ≤ 1000000)
    case f5 =>
      rintro v φ ⟨e, x, ⟨x2, y2, ⟨x1, y1, rfl, ⟨z, i', ch, rfl, _, h1, rfl⟩, rfl⟩, ⟨z2, i2, ch2, rfl, _, h2, rfl⟩, rfl⟩, rfl⟩
      refine ⟨e, _, ?_, rfl⟩
      have e1 : (("q" : Str) ++ (⟨#[ch]⟩ : Str)) = SX.S ([113] ++ [ch]) := SX.S_cat [113] [ch]
      have e2 : SX.S ([113] ++ [ch]) ++ (⟨#[ch2]⟩ : Str) = SX.S (([113] ++ [ch]) ++ [ch2]) := SX.S_cat _ [ch2]
      rw [e1, e2]
      refine nmB_S (by simp) (by simp) ?_
      intro c hc
      simp only [List.cons_append, List.nil_append, List.mem_cons, List.not_mem_nil, or_false] at hc
      rcases hc with rfl | rfl | rfl
      · decide +kernel
      · exact letters_at h1
      · exact letters_at h2
    rintro v φ H5 ⟨rfl, sp, hsp, rfl⟩ k5 j5
    refine s_if (c := ⟨sdS a b, S⟩) (n := n) (et_of (ev_op (Ev.aV (ev_var rfl)) (ev_varL (K := K) rfl (.tail _ (.tail _ (.tail _ m4)))) (op_niLS (x := sp) (ss := ss)))) k5 (by simpa using j5) (fun hA H6 e6 k6 j6 => ?_) (fun hA H6 e6 k6 j6 => ?_)
    · refine s_ret (c := ⟨sdS a b, S⟩) (n := n) (P := aS fun x => nmB x = true) (Ev.imp (ev_varS rfl) ?_) k6 j6 ?_
      · rintro v φ ⟨e, x, rfl, rfl⟩
        exact ⟨e, _, hsp, rfl⟩
      · intro v φ H7 e7 hP k7 j7
        exact fin_S fin j0 hP k7 (.tail _ (.tail _ (.tail _ m5))) j7
    · refine ⟨S, [], ⟨rfl, rfl, _, _, rfl⟩, rfl, k6.sub fun _ h => .tail _ (.tail _ h), by simpa using j6⟩
  case hd =>
    rintro N Y σ1 S lx G H' _ ⟨rfl, rfl, o4, o6, rfl⟩ _ k4 j4
    refine s_ret (c := ⟨sdS a b, S⟩) (n := n) (P := aS fun x => nmB x = true) (Ev.imp (ev_varS rfl) ?_) k4 j4 ?_
    · rintro v φ ⟨e, x, rfl, rfl⟩
      exact ⟨e, _, hnm2, rfl⟩
    · intro v φ H5 e5 hP k5 j5
      exact fin_S fin j0 hP k5 m6 j5
end
end K47

set_option Elab.async false
set_option linter.all false
set_option maxRecDepth 100000
set_option maxHeartbeats 4000000
namespace K47
open PySem PySem.Spec PyProof.Rows L2
/-! ### paths and patterns, in plain words -/
def pathy (x : Str) : Prop := ∃ ns : List Str, ns ≠ [] ∧ ns.length ≤ 6 ∧ (∀ y ∈ ns, nmB y = true) ∧ x = Txt.join "/" ns
def patty (x : Str) : Prop := ∃ ps : List Str, ps ≠ [] ∧ ps.length ≤ 6 ∧ (∀ y ∈ ps, partB y = true) ∧ x = Txt.join "/" ps
theorem partB_cases {y : Str} (h : partB y = true) : y = "*" ∨ y = "**" ∨ nmB y = true := by
  unfold partB at h
  simp only [Bool.or_eq_true, decide_eq_true_eq] at h
  rcases h with (h | h) | h
  · exact .inl h
  · exact .inr (.inl h)
  · exact .inr (.inr h)
theorem nmB_part {y : Str} (h : nmB y = true) : partB y = true := by
  unfold partB
  rw [h, Bool.or_true]
theorem partB_len {y : Str} (h : partB y = true) : y.length ≤ 8 := by
  rcases partB_cases h with rfl | rfl | h
  · decide +kernel
  · decide +kernel
  · exact nmB_len h
theorem partB_stroke {y : Str} (h : partB y = true) : 47 ∉ y.cps.toList := by
  rcases partB_cases h with rfl | rfl | h
  · decide +kernel
  · decide +kernel
  · exact nmB_stroke h
theorem stroke_len : ("/" : Str).length = 1 := by decide +kernel
theorem join_fit {ss : List Str} (h1 : ss.length ≤ 6) (h : ∀ y ∈ ss, y.length ≤ 8) : (ss.map (·.length)).sum + ss.length * ("/" : Str).length ≤ 54 := by
  have := TA.sum_le h
  rw [stroke_len]
  omega
theorem patty_parts {x : Str} (h : patty x) : x.length ≤ 54 ∧ TA.parts x ≠ [] ∧ (TA.parts x).length ≤ 6 ∧ (∀ y ∈ TA.parts x, partB y = true) ∧ patB x = true := by
  obtain ⟨ps, h1, h2, h3, rfl⟩ := h
  have e := TA.parts_join h1 fun y hy => partB_stroke (h3 y hy)
  refine ⟨Nat.le_trans TA.join_len (join_fit h2 fun y hy => partB_len (h3 y hy)), by rw [e]; exact h1, by rw [e]; exact h2, by rw [e]; exact h3, ?_⟩
  unfold patB
  rw [e, List.all_eq_true]
  exact fun y hy => h3 y hy
theorem pathy_parts {x : Str} (h : pathy x) : x.length ≤ 54 ∧ (TA.parts x).length ≤ 6 ∧ pathB x = true := by
  obtain ⟨ps, h1, h2, h3, rfl⟩ := h
  have e := TA.parts_join h1 fun y hy => nmB_stroke (h3 y hy)
  refine ⟨Nat.le_trans TA.join_len (join_fit h2 fun y hy => nmB_len (h3 y hy)), by rw [e]; exact h2, ?_⟩
  unfold pathB
  rw [e, List.all_eq_true]
  exact fun y hy => h3 y hy
section
variable {P : Program} {w : World} {K : PySem.W.Frag} {mg : Str → Option Value} {base : Heap}
/-! ### _law_pool -/
def okPool (m : Nat) : Prop := 1 ≤ m ∧ m ≤ 5
abbrev psPool (m : Nat) : List TA.Po := [TA.is (.int m)]
abbrev poPool (m : Nat) : TA.Po := TA.aM fun xs => ∃ ss : List Str, ss.length = m ∧ (∀ y ∈ ss, nmB y = true) ∧ xs = ss.map V.str
def spPool : Sp := TA.spS okPool (fun _ => 55) psPool poPool
open TA in
theorem u_pool {a b : Addr} {tb : List (Addr × Str)} {S : List (Addr × HO)} {l : List (Hp → Prop)} (m : Nat) (h : okPool m) : Cl ⟨⟨some (a, b), tb⟩, S⟩ l 55 [is (.ref a), is (.int m)] (fun vs H Q => spPool vs H Q C8.E0) (poPool m) :=
  cl_spS (ok := okPool) (dd := fun _ => 55) (Ps := psPool) (P := poPool) m h
open TA in
theorem c__law_pool {f : Addr} {fd : FuncData} (T : Txt mg) (c__law_fresh : C8.Cal P w K mg base 3 "_law_fresh" (spFresh K) []) (F : C8.Def K mg "_law_pool" st__law_pool f fd) (b : Binds K fd ["_law_stream", "_law_many"] []) : C8.Cal P w K mg base 4 "_law_pool" spPool [] := by
  refine C8.cal0 F b .nil sc__law_pool (fun vs H Q E h => spS_len h fun _ => rfl) (fun cdv A outer s H vs Q E hr h => ?_)
  obtain ⟨m, a, b, S0, n, ws, ⟨h1, h2⟩, j0, rfl, ⟨v, r, φ, rfl, ⟨rfl, _⟩, _, hn⟩, fin⟩ := h
  cases (show r = [] from hn)
  refine ⟨_, (pss_cons (ps_set (i := 2) sc__law_pool.nd rfl (Or.inl rfl) (pe_lst pa_nil))
      (pss_cons (ps_for PassesOwn.never rfl (pi_range1 (by rfl) T.m_range (pa_cons (pv 1) pa_nil)) (pg_name (i := 3) sc__law_pool.nd rfl (Or.inl rfl))
      (pss_one (ps_expr (pe_bm PySem.F.plainAttrs_list PySem.F.slot_list_append PySem.F.type_list_append mt_append (pv 2) (pa_cons (C8.pe_c c__law_fresh hr (by decide) (by rfl) (pa_cons (pv 0) (pa_cons (pv 2) pa_nil))) pa_nil)))))
      (pss_one (ps_ret (pv 2))))), ?_⟩
  refine q_nil (c := ⟨sdS a b, S0⟩) (n := n + 55) Kn.start j0 ?_
  rintro p H1 k1 j1
  refine q_for (c := ⟨sdS a b, (p, .lst []) :: S0⟩) (n := n) (d0 := 0) (d := 11) (N0 := 5) (i_range1 (A := (· = m)) (N0 := 5) (ea_cons (Ev.imp (ev_varI rfl) ?g1) ea_nil) (fun N h => by rw [h]; exact h2) (by decide)) ?hN (fun _ _ _ _ _ => g_name) k1 (by simpa using j1)
    (fun N Y i σ S lx => lx = [] ∧ (∃ o3, σ = [some (.ref a), some (.int m), some (.ref p), o3]) ∧ ∃ ss : List Str, ss.length = i ∧ (∀ y ∈ ss, nmB y = true) ∧ S = (p, .lst (ss.map V.str)) :: S0) ?h0 ?hs ?hd
  case g1 =>
    rintro v φ ⟨e, k, rfl, rfl⟩
    exact ⟨e, _, ⟨m, rfl, rfl⟩, rfl⟩
  case hN =>
    rintro N Y ⟨rfl, _⟩
    exact h2
  case h0 =>
    rintro N Y _
    exact ⟨rfl, ⟨none, rfl⟩, [], rfl, (fun y h => by cases h), rfl⟩
  case hs =>
    rintro N Y i x φ σ1 σ2 S lx G H' ⟨rfl, rfl⟩ hi ⟨rfl, rfl⟩ rfl ⟨rfl, ⟨o3, rfl⟩, ss, hl, hss, rfl⟩ _ k2 j2
    refine s_app (st := sdS a b) (S := S0) (d := 11) (ev_var rfl) (ev_frz (ev_call (d2 := 11) (ea_cons (ev_var rfl) (ea_cons (Ev.toL (K := K) (ev_varM rfl m0)) ea_nil)) (u_fresh ss (by unfold okFresh; omega))) (fun v φ h => h.1)) (by rw [List.length_map]; omega) k2 j2 ?_
    rintro v φ H3 ⟨rfl, y, hy, rfl⟩ k3 j3
    refine ⟨_, [], ⟨rfl, ⟨_, rfl⟩, ss ++ [y], by rw [List.length_append, hl]; rfl, fun z hz => ?_, rfl⟩, rfl, k3.sub fun _ h => .tail _ (.tail _ h), ?_⟩
    · rcases List.mem_append.mp hz with hz | hz
      · exact hss z hz
      · rw [List.mem_singleton.mp hz]
        exact hy
    · rw [List.map_append]
      exact j3
  case hd =>
    rintro N Y σ1 S lx G H' ⟨rfl, rfl⟩ ⟨rfl, ⟨o3, rfl⟩, ss, hl, hss, rfl⟩ _ k2 j2
    refine s_ret (c := ⟨sdS a b, S0⟩) (n := n) (ev_varF rfl m0) (j2.froze k2) j2.pop ?_
    rintro v φ H3 e3 ⟨u, xs, rfl, rfl, rfl⟩ k3 j3
    exact fin_S fin j0 ⟨u, _, rfl, ⟨ss, hl, hss, rfl⟩, rfl⟩ k3 m2 j3
/-! ### _law_path, _law_pattern -/
def okPath (x : List Str × Nat) : Prop := 1 ≤ x.1.length ∧ x.1.length ≤ 100 ∧ (∀ y ∈ x.1, nmB y = true) ∧ 1 ≤ x.2 ∧ x.2 ≤ 6
abbrev psPath (K : PySem.W.Frag) (x : List Str × Nat) : List TA.Po := [TA.aL K (· = x.1.map V.str), TA.is (.int x.2)]
abbrev poPath (x : List Str × Nat) : TA.Po := TA.aS pathy
def spPath (K : PySem.W.Frag) : Sp := TA.spS okPath (fun _ => 7) (psPath K) poPath
open TA in
theorem u_path {a b : Addr} {tb : List (Addr × Str)} {S : List (Addr × HO)} {l : List (Hp → Prop)} (x : List Str × Nat) (h : okPath x) : Cl ⟨⟨some (a, b), tb⟩, S⟩ l 7 [is (.ref a), aL K (· = x.1.map V.str), is (.int x.2)] (fun vs H Q => spPath K vs H Q C8.E0) (aS pathy) :=
  cl_spS (ok := okPath) (dd := fun _ => 7) (Ps := psPath K) (P := poPath) x h
theorem str_mem {ss : List Str} {v : V} (h : v ∈ ss.map V.str) : ∃ y, y ∈ ss ∧ v = .str y := by
  obtain ⟨y, hy, rfl⟩ := List.mem_map.mp h
  exact ⟨y, hy, rfl⟩
open TA in
theorem c__law_path {f : Addr} {fd : FuncData} (T : Txt mg) (c__law_draw : C8.Cal P w K mg base 1 "_law_draw" spDraw []) (c__law_pick : C8.Cal P w K mg base 2 "_law_pick" (spPick K) []) (F : C8.Def K mg "_law_path" st__law_path f fd) (b : Binds K fd ["_law_stream", "_law_pool_here", "_law_most"] []) :
    C8.Cal P w K mg base 3 "_law_path" (spPath K) [] := by
  refine C8.cal0 F b .nil sc__law_path (fun vs H Q E h => spS_len h fun _ => rfl) (fun cdv A outer s H vs Q E hr h => ?_)
  obtain ⟨⟨ss, m⟩, a, b, S0, n, ws, ⟨h1, h2, h3, h4, h5⟩, j0, rfl, ⟨v, r, φ, rfl, ⟨p, xs', rfl, rfl, rfl⟩, bp, v', r', φ', rfl, ⟨rfl, _⟩, _, hn⟩, fin⟩ := h
  cases (show r' = [] from hn)
  simp only at h1 h2 h3 h4 h5 bp fin
  refine ⟨_, (pss_one (ps_ret (pe_join pe_str (pe_lc (own := [("_law_k", 3)]) (g := (gName 3)) (by rfl) sc__law_path.nd (pi_range1 (by rfl) T.m_range (pa_cons (pe_op op_add pe_int (C8.pe_c c__law_draw hr (by decide) (by rfl) (pa_cons (pv 0) (pa_cons (pv 2) pa_nil)))) pa_nil)) (blkOk_by (own := [("_law_k", 3)]) (N := ["_law_stream", "_law_pool_here", "_law_most", "_law_k"]) (sc := C8.fnScope st__law_path) (by decide +kernel)) (fun _ _ _ _ _ => (pg_name (i := 3) sc__law_path.nd rfl (Or.inl rfl))) (fun _ _ _ _ _ => pts_nil) (fun _ _ _ _ _ => (C8.pe_c c__law_pick hr (by decide) (by rfl) (pa_cons (pv 0) (pa_cons (pv 1) pa_nil)))))))), ?_⟩
  refine s_ret (c := ⟨sdS a b, S0⟩) (n := n) (d := 7) (P := aS pathy) (Ev.imp (ev_join (K := K) (z := "/") (B := fun ns => ns ≠ [] ∧ ns.length ≤ 6 ∧ ∀ y ∈ ns, nmB y = true) ev_cS
    (Ev.toL (Ev.imp (ev_lcR (d := 1) (N0 := 6) (A := fun N => 1 ≤ N ∧ N ≤ 6) (· ∈ ss.map V.str)
      (ea_cons (Ev.imp (ev_op ev_cI (ev_call (d2 := 1) (ea_cons (ev_var rfl) (ea_cons (ev_var rfl) ea_nil)) (u_draw m ⟨h4, by omega⟩)) (op_II (g := fun i j => i + j))) ?g1) ea_nil) (fun N h => h.2) (by decide) (fun _ => rfl) ?g2) ?g3)) ?g4) ?g5) (Kn.start.push bp) j0 ?_
  case g1 =>
    rintro v φ ⟨e, k, ⟨i, j, rfl, ⟨h6, h7⟩, rfl⟩, rfl⟩
    exact ⟨e, _, ⟨(1 + j).toNat, by omega, by omega⟩, rfl⟩
  case g2 =>
    intro N i D ys hN hi
    exact ev_call (d2 := 1) (ea_cons (ev_var rfl) (ea_cons (ev_varL (K := K) rfl m1) ea_nil)) (u_pick (ss.map V.str) ⟨by rw [List.length_map]; exact h1, by rw [List.length_map]; omega⟩)
  case g3 =>
    rintro v φ ⟨q, ys, e1, ⟨N, hN, hl, hy⟩, e2⟩
    obtain ⟨ns, c1, c2, c3⟩ := strs_of (C := fun y => nmB y = true) fun y hy' => by
      obtain ⟨z, hz, rfl⟩ := str_mem (hy y hy')
      exact ⟨z, h3 z hz, rfl⟩
    refine ⟨q, ys, e1, ⟨ns, ⟨fun e => ?_, by omega, c1⟩, c3⟩, e2⟩
    rw [e] at c2
    simp only [List.length_nil] at c2
    omega
  case g4 =>
    rintro ns ⟨c1, c2, c3⟩
    exact Nat.le_trans (join_fit c2 fun y hy => nmB_len (c3 y hy)) (by decide)
  case g5 =>
    rintro v φ ⟨e, x, ⟨ns, ⟨c1, c2, c3⟩, rfl⟩, rfl⟩
    exact ⟨e, _, ⟨ns, c1, c2, c3, rfl⟩, rfl⟩
  intro v φ H3 e3 hP k3 j3
  exact fin_S fin j0 hP k3 m1 j3
abbrev stars : List Str := ["*", "*", "**", "**"]
abbrev poPattern (x : List Str × Nat) : TA.Po := TA.aS patty
def spPattern (K : PySem.W.Frag) : Sp := TA.spS okPath (fun _ => 7) (fun x => [TA.aM (· = x.1.map V.str), TA.is (.int x.2)]) poPattern
open TA in
theorem u_pattern {a b : Addr} {tb : List (Addr × Str)} {S : List (Addr × HO)} {l : List (Hp → Prop)} (x : List Str × Nat) (h : okPath x) : Cl ⟨⟨some (a, b), tb⟩, S⟩ l 7 [is (.ref a), aM (· = x.1.map V.str), is (.int x.2)] (fun vs H Q => spPattern K vs H Q C8.E0) (aS patty) :=
  cl_spS (ok := okPath) (dd := fun _ => 7) (Ps := fun x => [TA.aM (· = x.1.map V.str), TA.is (.int x.2)]) (P := poPattern) x h
open TA in
theorem c__law_pattern {f : Addr} {fd : FuncData} (T : Txt mg) (c__law_draw : C8.Cal P w K mg base 1 "_law_draw" spDraw []) (c__law_pick : C8.Cal P w K mg base 2 "_law_pick" (spPick K) []) (F : C8.Def K mg "_law_pattern" st__law_pattern f fd) (b : Binds K fd ["_law_stream", "_law_pool_here", "_law_most"] []) :
    C8.Cal P w K mg base 3 "_law_pattern" (spPattern K) [] := by
  refine C8.cal0 F b .nil sc__law_pattern (fun vs H Q E h => spS_len h fun _ => rfl) (fun cdv A outer s H vs Q E hr h => ?_)
  obtain ⟨⟨ss, m⟩, a, b, S0, n, ws, ⟨h1, h2, h3, h4, h5⟩, j0, rfl, ⟨v, r, φ, rfl, ⟨p, xs', rfl, rfl, rfl⟩, bp, v', r', φ', rfl, ⟨rfl, _⟩, _, hn⟩, fin⟩ := h
  cases (show r' = [] from hn)
  simp only at h1 h2 h3 h4 h5 bp fin
  refine ⟨_, (pss_cons (ps_set (i := 3) sc__law_pattern.nd rfl (Or.inr rfl) (pe_op op_cat (pv 1) (pe_lst (pa_cons pe_str (pa_cons pe_str (pa_cons pe_str (pa_cons pe_str pa_nil)))))))
      (pss_one (ps_ret (pe_join pe_str (pe_lc (own := [("_law_k", 4)]) (g := (gName 4)) (by rfl) sc__law_pattern.nd (pi_range1 (by rfl) T.m_range (pa_cons (pe_op op_add pe_int (C8.pe_c c__law_draw hr (by decide) (by rfl) (pa_cons (pv 0) (pa_cons (pv 2) pa_nil)))) pa_nil)) (blkOk_by (own := [("_law_k", 4)]) (N := ["_law_stream", "_law_pool_here", "_law_most", "_law_some", "_law_k"]) (sc := C8.fnScope st__law_pattern) (by decide +kernel)) (fun _ _ _ _ _ => (pg_name (i := 4) sc__law_pattern.nd rfl (Or.inl rfl))) (fun _ _ _ _ _ => pts_nil) (fun _ _ _ _ _ => (C8.pe_c c__law_pick hr (by decide) (by rfl) (pa_cons (pv 0) (pa_cons (pv 3) pa_nil))))))))), ?_⟩
  refine q_asg (c := ⟨sdS a b, S0⟩) (n := n + 7) (d := 0) (P := aM (· = (ss ++ stars).map V.str)) (Ev.imp (ev_op (ev_varM rfl m0) (ev_lstM (xs := ([("*" : Str), "*", "**", "**"]).map V.str) (ea_cons ev_c (ea_cons ev_c (ea_cons ev_c (ea_cons ev_c ea_nil)))) (by decide)) (op_catM ?g0)) ?g1) (Kn.start.push bp) j0 ?_
  case g0 =>
    rintro xs ys rfl rfl
    rw [List.length_map, List.length_map]
    exact Nat.le_trans (Nat.add_le_add h2 (Nat.le_refl _)) (by decide)
  case g1 =>
    rintro v φ ⟨u, zs, e1, ⟨xs, ys, rfl, rfl, rfl⟩, e2⟩
    exact ⟨u, _, e1, by rw [List.map_append], e2⟩
  rintro v φ H1 ⟨u, xs, rfl, rfl, rfl⟩ k1 j1
  have hall : ∀ y ∈ ss ++ stars, partB y = true := fun y hy => by
    rcases List.mem_append.mp hy with hy | hy
    · exact nmB_part (h3 y hy)
    · have : ∀ z ∈ ([("*" : Str), "*", "**", "**"]), partB z = true := by decide +kernel
      exact this y hy
  have hlen : (ss ++ stars).length = ss.length + 4 := by rw [List.length_append]; rfl
  refine s_ret (c := ⟨sdS a b, S0⟩) (n := n) (d := 7) (P := aS patty) (Ev.imp (ev_join (K := K) (z := "/") (B := fun ns => ns ≠ [] ∧ ns.length ≤ 6 ∧ ∀ y ∈ ns, partB y = true) ev_cS
    (Ev.toL (Ev.imp (ev_lcR (d := 1) (N0 := 6) (A := fun N => 1 ≤ N ∧ N ≤ 6) (· ∈ (ss ++ stars).map V.str)
      (ea_cons (Ev.imp (ev_op ev_cI (ev_call (d2 := 1) (ea_cons (ev_var rfl) (ea_cons (ev_var rfl) ea_nil)) (u_draw m ⟨h4, by omega⟩)) (op_II (g := fun i j => i + j))) ?g1) ea_nil) (fun N h => h.2) (by decide) (fun _ => rfl) ?g2) ?g3)) ?g4) ?g5) k1 j1 ?_
  case g1 =>
    rintro v φ ⟨e, k, ⟨i, j, rfl, ⟨h6, h7⟩, rfl⟩, rfl⟩
    exact ⟨e, _, ⟨(1 + j).toNat, by omega, by omega⟩, rfl⟩
  case g2 =>
    intro N i D ys hN hi
    exact ev_call (d2 := 1) (ea_cons (ev_var rfl) (ea_cons (Ev.toL (K := K) (ev_varM rfl m1)) ea_nil)) (u_pick ((ss ++ stars).map V.str) ⟨by rw [List.length_map, hlen]; omega, by rw [List.length_map, hlen]; omega⟩)
  case g3 =>
    rintro v φ ⟨q, ys, e1, ⟨N, hN, hl, hy⟩, e2⟩
    obtain ⟨ns, c1, c2, c3⟩ := strs_of (C := fun y => partB y = true) fun y hy' => by
      obtain ⟨z, hz, rfl⟩ := str_mem (hy y hy')
      exact ⟨z, hall z hz, rfl⟩
    refine ⟨q, ys, e1, ⟨ns, ⟨fun e => ?_, by omega, c1⟩, c3⟩, e2⟩
    rw [e] at c2
    simp only [List.length_nil] at c2
    omega
  case g4 =>
    rintro ns ⟨c1, c2, c3⟩
    exact Nat.le_trans (join_fit c2 fun y hy => partB_len (c3 y hy)) (by decide)
  case g5 =>
    rintro v φ ⟨e, x, ⟨ns, ⟨c1, c2, c3⟩, rfl⟩, rfl⟩
    exact ⟨e, _, ⟨ns, c1, c2, c3, rfl⟩, rfl⟩
  intro v φ H3 e3 hP k3 j3
  exact fin_S fin j0 hP k3 m2 j3
end
end K47

set_option Elab.async false
set_option linter.all false
set_option maxRecDepth 100000
set_option maxHeartbeats 4000000
namespace K47
open PySem PySem.Spec PyProof.Rows L2
theorem isLet_ok {c : Nat} (h : isLet c = true) : c < 1114112 := by
  have : ∀ x ∈ letters.cps.toList, x < 1114112 := by decide +kernel
  exact this c (of_decide_eq_true h)
theorem nmB_ok {x : Str} (h : nmB x = true) : PyData.strOk x = true := by
  unfold nmB at h
  simp only [Bool.and_eq_true] at h
  unfold PyData.strOk
  rw [← Array.all_toList, List.all_eq_true]
  intro c hc
  exact decide_eq_true (isLet_ok (List.all_eq_true.mp h.2 c hc))
section
variable {P : Program} {w : World} {K : PySem.W.Frag} {mg : Str → Option Value} {base : Heap}
/-! ### _law_stood_for -/
def okSf (x : List Str × Str) : Prop := 1 ≤ x.1.length ∧ x.1.length ≤ 100 ∧ (∀ y ∈ x.1, nmB y = true) ∧ patty x.2
abbrev psSf (K : PySem.W.Frag) (x : List Str × Str) : List TA.Po := [TA.aL K (· = x.1.map V.str), TA.is (.str x.2)]
abbrev poSf (x : List Str × Str) : TA.Po := TA.aS pathy
def spSf (K : PySem.W.Frag) : Sp := TA.spS okSf (fun _ => 21) (psSf K) poSf
open TA in
theorem u_sf {a b : Addr} {tb : List (Addr × Str)} {S : List (Addr × HO)} {l : List (Hp → Prop)} (x : List Str × Str) (h : okSf x) : Cl ⟨⟨some (a, b), tb⟩, S⟩ l 21 [is (.ref a), aL K (· = x.1.map V.str), is (.str x.2)] (fun vs H Q => spSf K vs H Q C8.E0) (aS pathy) :=
  cl_spS (ok := okSf) (dd := fun _ => 21) (Ps := psSf K) (P := poSf) x h
/-- a list of names in the making -/
def nmL (ss : List Str) : Prop := ∀ y ∈ ss, nmB y = true
open TA in
theorem c__law_stood_for {f : Addr} {fd : FuncData} (T : Txt mg) (c__law_draw : C8.Cal P w K mg base 1 "_law_draw" spDraw []) (c__law_pick : C8.Cal P w K mg base 2 "_law_pick" (spPick K) []) (F : C8.Def K mg "_law_stood_for" st__law_stood_for f fd) (b : Binds K fd ["_law_stream", "_law_pool_here", "_law_pattern_here"] []) :
    C8.Cal P w K mg base 3 "_law_stood_for" (spSf K) [] := by
  refine C8.cal0 F b .nil sc__law_stood_for (fun vs H Q E h => spS_len h fun _ => rfl) (fun cdv A outer s H vs Q E hr h => ?_)
  obtain ⟨⟨pl, pt⟩, a, b, S0, n, ws, ⟨h1, h2, h3, h4⟩, j0, rfl, ⟨v, r, φ, rfl, ⟨p, xs', rfl, rfl, rfl⟩, bp, v', r', φ', rfl, ⟨rfl, _⟩, _, hn⟩, fin⟩ := h
  cases (show r' = [] from hn)
  simp only at h1 h2 h3 h4 bp fin
  obtain ⟨q1, q2, q3, q4, _⟩ := patty_parts h4
  have hpick : okPick (pl.map V.str) := ⟨by rw [List.length_map]; exact h1, by rw [List.length_map]; omega⟩
  refine ⟨_, (pss_cons (ps_set (i := 3) sc__law_stood_for.nd rfl (Or.inl rfl) (pe_lst pa_nil))
      (pss_cons (ps_for PassesOwn.never rfl (pi_list (pe_split (pv 2) pe_str)) (pg_name (i := 4) sc__law_stood_for.nd rfl (Or.inl rfl))
      (pss_cons (ps_set (i := 5) sc__law_stood_for.nd rfl (Or.inl rfl) (pe_dget2 (Nat.lt_of_le_of_lt (Nat.add_le_add_left (by decide) _) hr.units) (pe_disp (pps_cons pe_str pe_int (pps_cons pe_str (C8.pe_c c__law_draw hr (by decide) (by rfl) (pa_cons (pv 0) (pa_cons pe_int pa_nil))) pps_nil)) rfl rfl (by simp) (by decide)) (pv 4) pe_int ⟨rfl, rfl, rfl, rfl⟩))
      (pss_one (ps_expr (pe_bm PySem.F.plainAttrs_list PySem.F.slot_list_extend PySem.F.type_list_extend mt_extend (pv 3) (pa_cons (pe_ifExp (pt_cmpR (TA.op_inK (K := K) rfl) (pv 4) (pe_tup (pa_cons pe_str (pa_cons pe_str pa_nil))) (by rfl)) (pe_lc (own := [("_law_k", 6)]) (g := (gName 6)) (by rfl) sc__law_stood_for.nd (pi_range1 (by rfl) T.m_range (pa_cons (pv 5) pa_nil)) (blkOk_by (own := [("_law_k", 6)]) (N := ["_law_stream", "_law_pool_here", "_law_pattern_here", "_law_found", "_law_part", "_law_many", "_law_k"]) (sc := C8.fnScope st__law_stood_for) (by decide +kernel)) (fun _ _ _ _ _ => (pg_name (i := 6) sc__law_stood_for.nd rfl (Or.inl rfl))) (fun _ _ _ _ _ => pts_nil) (fun _ _ _ _ _ => (C8.pe_c c__law_pick hr (by decide) (by rfl) (pa_cons (pv 0) (pa_cons (pv 1) pa_nil))))) (pe_lst (pa_cons (pv 4) pa_nil))) pa_nil))))))
      (pss_cons (ps_if (PW.pt (pw_or (pt_cmpR (op_eqD hr.units) (pv 3) (pe_lst pa_nil) (nomark _)) (pw_or1 (pt_cmpR op_eq (C8.pe_c c__law_draw hr (by decide) (by rfl) (pa_cons (pv 0) (pa_cons pe_int pa_nil))) pe_int (nomark _)))))
      (pss_one (ps_expr (pe_bm PySem.F.plainAttrs_list PySem.F.slot_list_insert PySem.F.type_list_insert mt_insert (pv 3) (pa_cons (C8.pe_c c__law_draw hr (by decide) (by rfl) (pa_cons (pv 0) (pa_cons (pe_op op_add (pe_callB (TA.call_lenK (K := K) rfl) (by rfl) T.m_len (by decide +kernel) (pa_cons (pv 3) pa_nil)) pe_int) pa_nil))) (pa_cons (C8.pe_c c__law_pick hr (by decide) (by rfl) (pa_cons (pv 0) (pa_cons (pv 1) pa_nil))) pa_nil)))))
      pss_nil)
      (pss_one (ps_ret (pe_join pe_str (pe_slice sl_list (pv 3) po_none (po_some pe_int)))))))), ?_⟩
  refine q_nil (c := ⟨sdS a b, S0⟩) (n := n + 21) (Kn.start.push bp) j0 ?_
  rintro q H1 k1 j1
  refine q_for (c := ⟨sdS a b, (q, .lst []) :: S0⟩) (n := n + 3) (d0 := 0) (d := 3) (N0 := 6) (i_list (K := K) (A := (· = (TA.parts pt).map V.str)) (Ev.toL (ev_parts (x := pt) (ev_varS rfl) ev_cS (by omega)))) ?hN (fun _ _ _ _ _ => g_name) k1 (by simpa using j1)
    (fun N Y i σ S lx => lx = [] ∧ (∃ o4 o5 o6, σ = [some (.ref a), some (.ref p), some (.str pt), some (.ref q), o4, o5, o6]) ∧ ∃ ss : List Str, ss.length ≤ 2 * i ∧ nmL ss ∧ S = (q, .lst (ss.map V.str)) :: S0) ?h0 ?hs ?hd
  case hN =>
    rintro N Y ⟨xs, rfl, rfl, _⟩
    rw [List.length_map]
    exact q3
  case h0 =>
    rintro N Y _
    exact ⟨rfl, ⟨none, none, none, rfl⟩, [], Nat.le_refl _, (fun y h => by cases h), rfl⟩
  case hs =>
    rintro N Y i x φ σ1 σ2 S lx G H' ⟨xs, rfl, rfl, rfl⟩ hi ⟨hx, rfl⟩ rfl ⟨rfl, ⟨o4, o5, o6, rfl⟩, ss, hl, hss, rfl⟩ _ k2 j2
    obtain ⟨y, hy, rfl⟩ := strV_item hx
    have hyp := q4 y (List.mem_of_getElem? hy)
    rw [List.length_map] at hi
    refine q_asg (c := ⟨sdS a b, (q, .lst (ss.map V.str)) :: S0⟩) (n := n + 3 + (6 - (i + 1)) * 3 + 2) (d := 1) (P := aV fun v => ∃ m : Nat, m ≤ 2 ∧ v = .int m)
      (Ev.imp (ev_dget (k1 := "*") (k2 := "**") (fun _ => ev_c) (fun _ => ev_call (d2 := 1) (ea_cons (ev_var rfl) (ea_cons ev_c ea_nil)) (u_draw 3 ⟨by decide, by decide⟩)) (fun v φ h => h.1) (ev_var rfl) ev_c) ?g1) k2 (by simpa using j2) ?_
    case g1 =>
      rintro v φ ⟨e, h⟩
      refine ⟨e, ?_⟩
      split at h
      · obtain ⟨_, i, ⟨c1, c2⟩, rfl⟩ := h
        exact ⟨i.toNat, by omega, by rw [Int.toNat_of_nonneg c1]⟩
      · split at h
        · exact ⟨1, by decide, h⟩
        · exact ⟨0, by decide, h⟩
    rintro v φ H3 ⟨rfl, m, hm, rfl⟩ k3 j3
    refine s_ext (st := sdS a b) (S := S0) (n := n + 3 + (6 - (i + 1)) * 3) (d := 2) (A := fun ys => ∃ ns : List Str, ns.length ≤ 2 ∧ nmL ns ∧ ys = ns.map V.str) (ev_var rfl)
      (Ev.imp (ev_if (d1 := 0) (d2 := 2) (et_of (ev_op (Ev.aV (ev_var rfl)) (ev_tupT (K := K) (xs := ([("*" : Str), "**"]).map V.str) (ea_cons ev_c (ea_cons ev_c ea_nil)) (by decide)) (op_inTS (x := y) (ss := ["*", "**"]))))
        (fun _ => ev_lcR (d0 := 0) (d := 1) (N0 := 2) (A := (· = m)) (· ∈ pl.map V.str) (ea_cons (Ev.imp (ev_varI rfl) ?g2) ea_nil) (fun N e => by rw [e]; exact hm) (by decide) (fun _ => rfl) ?g3)
        (fun _ => Ev.up (ev_lstM (xs := [.str y]) (ea_cons (ev_var rfl) ea_nil) (by simp)) (Nat.zero_le _))) ?g4) ?g5 k3 (by simpa using j3) ?_
    case g2 =>
      rintro v φ ⟨e, k, rfl, rfl⟩
      exact ⟨e, _, ⟨m, rfl, rfl⟩, rfl⟩
    case g3 =>
      intro N i' D ys hN hi'
      exact ev_call (d2 := 1) (ea_cons (ev_var rfl) (ea_cons (ev_varL (K := K) rfl (.tail _ (.tail _ (.tail _ m1)))) ea_nil)) (u_pick (pl.map V.str) hpick)
    case g4 =>
      rintro v φ (⟨_, u, ys, e1, ⟨N, rfl, c1, c2⟩, e2⟩ | ⟨hA, u, ys, e1, rfl, e2⟩)
      · obtain ⟨ns, d1, d2, d3⟩ := strs_of (C := fun y => nmB y = true) fun y hy' => by
          obtain ⟨z, hz, rfl⟩ := str_mem (c2 y hy')
          exact ⟨z, h3 z hz, rfl⟩
        exact ⟨u, ys, e1, ⟨ns, by omega, d1, d3⟩, e2⟩
      · have hA := of_decide_eq_false hA.symm
        refine ⟨u, _, e1, ⟨[y], by simp, fun z hz => ?_, rfl⟩, e2⟩
        rw [List.mem_singleton.mp hz]
        rcases partB_cases hyp with h | h | h
        · exact absurd (by rw [h]; simp) hA
        · exact absurd (by rw [h]; simp) hA
        · exact h
    case g5 =>
      rintro ys ⟨ns, c1, _, rfl⟩
      rw [List.length_map, List.length_map]
      omega
    rintro ys H4 ⟨ns, c1, c2, rfl⟩ k4 j4
    refine ⟨_, [], ⟨rfl, ⟨_, _, _, rfl⟩, ss ++ ns, by rw [List.length_append]; omega, fun z hz => ?_, rfl⟩, rfl, k4.sub fun _ h => .tail _ (.tail _ h), ?_⟩
    · rcases List.mem_append.mp hz with hz | hz
      · exact hss z hz
      · exact c2 z hz
    · rw [List.map_append]
      exact j4
  case hd =>
    rintro N Y σ1 S lx G H' ⟨xs, rfl, rfl, rfl⟩ ⟨rfl, ⟨o4, o5, o6, rfl⟩, ss, hl, hss, rfl⟩ _ k2 j2
    rw [List.length_map] at hl
    have hl : ss.length ≤ 12 := by omega
    refine q_whenI (c := ⟨sdS a b, (q, .lst (ss.map V.str)) :: S0⟩) (n := n + 2) (d := 1) (A := fun b => b = false → ss ≠ [])
      (R := fun H' => ∃ ss' : List Str, ss' ≠ [] ∧ nmL ss' ∧ Kn (q :: (TA.Ctx.mk (sdS a b) S0).m) [Mo (TA.Ctx.mk (sdS a b) S0).m H] H' ∧ TA.Ctx.J ⟨sdS a b, (q, .lst (ss'.map V.str)) :: S0⟩ n H') ?t1 k2 (by simpa using j2) ?t2 ?t3 ?t4
    case t1 =>
      refine EvT.imp (et_or (d1 := 0) (d2 := 1) (et_isNil (K := K) rfl fun x hx => nmB_ok (hss x hx)) fun _ => et_of (ev_op (ev_call (d2 := 1) (ea_cons (ev_var rfl) (ea_cons ev_c ea_nil)) (u_draw 4 ⟨by decide, by decide⟩)) ev_cI op_eqI)) ?_
      rintro b' h rfl e
      rcases h with ⟨h, _⟩ | ⟨h, _⟩
      · cases h
      · rw [e] at h
        cases h
    case t3 =>
      intro _ H3 k3 j3 G' _ hnx
      refine s_ins (st := sdS a b) (S := S0) (n := n) (d1 := 1) (d2 := 1) (A := fun i => 0 ≤ i ∧ i < ((ss.length + 1 : Nat) : Int)) (A2 := (· ∈ pl.map V.str)) (ev_var rfl)
        (ev_call (d2 := 1) (ea_cons (ev_var rfl) (ea_cons (Ev.imp (ev_op (ev_cb (ea_cons (ev_var rfl) ea_nil) cl_lenO) ev_cI (op_tI (g := fun i j => i + j))) ?_) ea_nil)) (u_draw (ss.length + 1) ⟨by omega, by omega⟩))
        (ev_call (d2 := 1) (ea_cons (ev_var rfl) (ea_cons (ev_varL (K := K) rfl m1) ea_nil)) (u_pick (pl.map V.str) hpick)) (fun i h => ⟨h.1, by omega⟩) (by rw [List.length_map]; omega) k3 j3 ?_
      · rintro v φ ⟨e, k, rfl, rfl⟩
        exact ⟨by rw [List.length_map]; rfl, e⟩
      · rintro v m H4 hv k4 j4
        obtain ⟨z, hz, rfl⟩ := str_mem hv
        refine hnx _ ⟨ss.take m ++ [z] ++ ss.drop m, by simp, fun y hy => ?_, k4.sub fun x hx => ?_, ?_⟩
        · rcases List.mem_append.mp hy with hy | hy
          · rcases List.mem_append.mp hy with hy | hy
            · exact hss y (List.mem_of_mem_take hy)
            · rw [List.mem_singleton.mp hy]
              exact h3 z hz
          · exact hss y (List.mem_of_mem_drop hy)
        · rw [List.mem_singleton.mp hx]
          exact m2
        · rw [List.map_append, List.map_append, List.map_take, List.map_drop]
          exact j4
    case t4 =>
      intro hA H3 k3 j3
      refine ⟨ss, hA rfl, hss, k3.sub fun x hx => ?_, j3.le (by omega)⟩
      rw [List.mem_singleton.mp hx]
      exact m2
    case t2 =>
      rintro H3 ⟨ss', hne, hss', k3, j3⟩
      refine s_ret (c := ⟨sdS a b, S0⟩) (n := n) (d := 0) (P := aS pathy) (Ev.imp (ev_join (K := K) (z := "/") (B := fun ns => ns = ss'.take 6) ev_cS (Ev.toL (Ev.imp (ev_cutTo (K := K) (k := 6) (Ev.toL (ev_varF rfl m0))) ?u1)) ?u2) ?u3) (j3.froze k3) j3.pop ?_
      case u1 =>
        rintro v φ ⟨u, xs, e1, rfl, e2⟩
        exact ⟨u, _, e1, ⟨_, rfl, by rw [List.map_take]⟩, e2⟩
      case u2 =>
        rintro ns rfl
        exact Nat.le_trans (join_fit (by rw [List.length_take]; omega) fun y hy => nmB_len (hss' y (List.mem_of_mem_take hy))) (by decide)
      case u3 =>
        rintro v φ ⟨e, x, ⟨ns, rfl, rfl⟩, rfl⟩
        refine ⟨e, _, ⟨ss'.take 6, fun h => ?_, by rw [List.length_take]; omega, fun y hy => hss' y (List.mem_of_mem_take hy), rfl⟩, rfl⟩
        rw [List.take_eq_nil_iff] at h
        rcases h with h | h
        · cases h
        · exact hne h
      intro v φ H5 e5 hP k5 j5
      exact fin_S fin j0 hP k5 m1 j5
end
end K47

set_option Elab.async false
set_option linter.all false
set_option maxRecDepth 100000
set_option maxHeartbeats 4000000
namespace K47
open PySem PySem.Spec PyProof.Rows L2
/-! ### _law_tried -/
theorem takes_len {X : Cx} {W : WX} (t : Takes X W) : Takes X (fun cls d σ H => σ.length = X.N.length → W cls d σ H) := fun u s' ⟨a, B, sI, pins, σ, H, cls, d, e, I, nb, up, sky, na, os, ag, w⟩ =>
  t u s' ⟨a, B, sI, pins, σ, H, cls, d, e, I, nb, up, sky, na, os, ag, w I.len⟩
/-- what is told of an error that is caught -/
def caught (C : Addr) (fld word : Str) (Q : VK) (cls : Value) (d : Option Addr) (H' : Hp) : Prop := cls = .ref C ∧ ∃ (dd : Addr) (v : V), d = some dd ∧ H' dd = some (.xd [(fld, v)]) ∧ ∀ p, H' p = none → Q (.ref p) (upd H' p (.tup [.str word, v]))
def TTried (CP CA : Addr) : (XK → Hp → VK → Prop) → Hp → VK → Prop := fun tl H Q =>
  ∃ R : VK, tl (fun cls d H' => caught CP "thing" "pattern" Q cls d H' ∨ caught CA "path" "path" Q cls d H') H R ∧ ∀ v H1, R v H1 → ∀ p, H1 p = none → Q (.ref p) (upd H1 p (.tup [.str "told", v]))
/-- the two classes, told apart -/
structure Two (K : PySem.W.Frag) (CP CA : Addr) : Prop where
  pp : PySem.W.exmOne K (.ref CP) (.ref CP) = some true
  aa : PySem.W.exmOne K (.ref CA) (.ref CA) = some true
  ap : PySem.W.exmOne K (.ref CA) (.ref CP) = some false
section
variable {X : Cx} {CP CA g : Addr} {q : Str} {cdg : Value}
open TA in
theorem tried_gives (RP : Err1 X.prog X.w X.K X.mg X.base "BadPattern" CP "thing") (RA : Err1 X.prog X.w X.K X.mg X.base "BadPath" CA "path") (T2 : Two X.K CP CA) :
    LamX.GivesTo X ["_law_ask", "_law_found", "e"] "_law_tried" (C8.fnScope st__law_tried) g cdg (C8.fnBody st__law_tried) "_law_ask" q (TTried CP CA) := by
  intro f c' s H Q tl act hc h
  obtain ⟨R, htl, hR⟩ := h
  refine ⟨_, pss_cons (ps_try_asN (X := (cxOf C8.CX0 X.prog X.w X.K X.mg X.base ["_law_ask", "_law_found", "e"] "_law_tried" (C8.fnScope st__law_tried) g cdg X.A X.stack s H C8.E0).nox) (i := 2) (n := "e") (l := [(.ref CP, _), (.ref CA, _)])
      (tb := fun W D σ H => ∃ Ech : XK, (∀ cls d σ' H', Ech cls d H' → σ'.length = 3 → W cls d σ' H') ∧ σ = [some (.ref f), none, none] ∧ H c' = some (LamX.CodeO c' q) ∧ ∃ R : VK, tl Ech H R ∧ ∀ v H1, R v H1 → ∀ p, H1 p = none → D.nx [some (.ref f), some (.ref p), none] (upd H1 p (.tup [.str "told", v])))
      rfl rfl sc__law_tried.nd rfl rfl takes0 (fun W pn xe tk _ => ?_)
      (.cons (c := .ref CP) ⟨by rfl, by decide, .inl RP.gC⟩ (fun a oe cls d pn hz hf => pss_one (ps_set (i := 1) sc__law_tried.nd rfl (Or.inl rfl) (pe_tup (pa_cons pe_str (pa_cons (pe_xf RP.xf RP.fno hz hf (pv 2)) pa_nil)))))
        (.cons (c := .ref CA) ⟨by rfl, by decide, .inl RA.gC⟩ (fun a oe cls d pn hz hf => pss_one (ps_set (i := 1) sc__law_tried.nd rfl (Or.inl rfl) (pe_tup (pa_cons pe_str (pa_cons (pe_xf RA.xf RA.fno hz hf (pv 2)) pa_nil))))) .nil)))
      (pss_one (ps_ret (pv 1))), ?_⟩
  · refine ⟨fun pins s' σ H' D I h' => ?_⟩
    obtain ⟨Ech, hW, rfl, h2, R', h3, h4⟩ := h'
    have hp := fun p1 p2 => act (fun cls d σ H => σ.length = 3 → W cls d σ H) pn xe Ech p1 p2 (takes_len tk) (fun cls d σ' H' e hl => hW cls d σ' H' e hl)
    exact (pss_one (ps_set (i := 1) sc__law_tried.nd rfl (Or.inl rfl) (pe_tup (pa_cons pe_str (pa_cons (pe_weak (hp _ _)) pa_nil))))).run pins s' _ H' D I ⟨R', ⟨rfl, h2, h3⟩, fun v H1 hv => ⟨by show 2 ≤ sizeLine; rw [sizeLine_eq]; decide, fun p hp => h4 v H1 hv p hp⟩⟩
  · refine ⟨fun cls d H' => caught CP "thing" "pattern" Q cls d H' ∨ caught CA "path" "path" Q cls d H', fun cls d σ' H' hE hl => ?_, rfl, hc, R, htl, fun v H1 hv p hp => ⟨.ref p, rfl, hR v H1 hv p hp⟩⟩
    obtain ⟨x, y, z, rfl⟩ : ∃ x y z, σ' = [x, y, z] := by
      match σ', hl with
      | [x, y, z], _ => exact ⟨x, y, z, rfl⟩
    rcases hE with ⟨rfl, dd, v, rfl, hd, hq⟩ | ⟨rfl, dd, v, rfl, hd, hq⟩
    · exact ⟨true, T2.pp, fun _ a ha => ⟨.ref a, rfl, rfl, rfl, dd, _, v, rfl, hd, rfl, by show 2 ≤ sizeLine; rw [sizeLine_eq]; decide, fun p hp => ⟨.ref p, rfl, hq p hp⟩⟩, fun h => nomatch h⟩
    · refine ⟨false, T2.ap, (fun h => nomatch h), fun _ => ⟨true, T2.aa, fun _ a ha => ⟨.ref a, rfl, rfl, rfl, dd, _, v, rfl, hd, rfl, by show 2 ≤ sizeLine; rw [sizeLine_eq]; decide, fun p hp => ⟨.ref p, rfl, hq p hp⟩⟩, fun h => nomatch h⟩⟩
end
end K47

set_option Elab.async false
set_option linter.all false
set_option maxRecDepth 100000
set_option maxHeartbeats 4000000
namespace K47
open PySem PySem.Spec PyProof.Rows L2
/-! ### what is tried, what is told -/
noncomputable def told (x y : V) : List V := if txB patB x = false then [.str "pattern", x] else if txB pathB y = false then [.str "path", y] else [.str "told", .bl (mtV x y)]
section
variable {P : Program} {w : World} {K : PySem.W.Frag} {mg : Str → Option Value} {base : Heap} {CP CA : Addr}
open TA in
theorem Ctx_extN {c : TA.Ctx} {n : Nat} {H H1 : Hp} (j : c.J n H) (hS : ∀ q ∈ c.S, NT q.2) (e : LamX.ExtN H H1) (t : LamX.Tabs c.st.tb H1) : c.J n H1 :=
  ⟨fun ab q => (j.str ab q).at (fun _ h => e _ _ h nt_lst) fun _ h => e _ _ h nt_lst, fun q hq => e _ _ (j.own q hq) (hS q hq), j.nd, t⟩
open TA in
theorem argTx {m : List Addr} {H : Hp} {x : V} (b : Bx m (txK K x) H) : ∃ φ : Hp → Prop, (isTx x = false → φ = noTx K x) ∧ Bx m φ H := by
  by_cases hx : isTx x = true
  · exact ⟨T0, (fun z => by rw [hx] at z; cases z), kn0⟩
  · have hx : isTx x = false := by simpa using hx
    exact ⟨noTx K x, fun _ => rfl, b.imp fun H h => h hx⟩
open TA in
theorem ev_tried {c : TA.Ctx} {l : List (Hp → Prop)} {σ : L2.St} {x y : V} {i k : Nat} (hS : ∀ q ∈ c.S, NT q.2) (hx : σ[i]? = some (some x)) (hy : σ[k]? = some (some y)) (mx : txK K x ∈ l) (my : txK K y ∈ l) (ok : okMs x y) :
    Ev c l 0 (LamX.tLam c.st.tb (TTried CP CA) (fun E => tCall (spMatches K CP CA) [] E (tCons (tVar i) (tCons (tVar k) tNil)))) σ (aT K (· = told x y)) := fun n H kn j Q q => by
  refine ⟨j.tab, fun H1 eN tN => ?_⟩
  have mo1 : Mo c.m H H1 := fun a o _ t h => eN a o h t
  have j1 := Ctx_extN j hS eN tN
  have kn1 := kn.mo mo1
  obtain ⟨S0, s1, s2⟩ := j1.all
  have fin : ∀ {H2 : Hp} {xs : List V} (p : Addr), Mo [] H1 H2 → (∀ q ∈ S0, H2 q.1 = some q.2) → H2 p = none → xs = told x y → Q (.ref p) (upd H2 p (.tup xs)) := fun {H2 xs} p e o hp hxs => by
    have j2 := j1.back s1 s2.own o e
    exact q _ (kT K p xs) _ ((mo1.trans e.of).trans (Mo.new hp)) (j2.ext (Ko.new hp)) ⟨p, _, rfl, hxs, rfl⟩ ((Bx.at (j2.new hp) upd_same).imp fun _ h => SqT.of h)
  refine ⟨fun v H2 => v = .bl (mtV x y) ∧ txB patB x = true ∧ txB pathB y = true ∧ Mo [] H1 H2 ∧ ∀ q ∈ S0, H2 q.1 = some q.2, ?_, fun v H2 ⟨e1, e2, e3, e4, e5⟩ p hp => fin p e4 e5 hp ?_⟩
  · refine ⟨x, hx, y, hy, x, y, S0, ok, s2, ?_, ?_, ?_, ?_⟩
    · rw [m_none, s1]
      obtain ⟨φ, f1, f2⟩ := argTx (kn1.box mx)
      obtain ⟨ψ, g1, g2⟩ := argTx (kn1.box my)
      exact ⟨x, [y], φ, rfl, ⟨rfl, f1⟩, f2, y, [], ψ, rfl, ⟨rfl, g1⟩, g2, rfl⟩
    · intro hb H2 d e o nd hd
      refine .inl ⟨rfl, d, x, rfl, hd, fun p hp => fin p e o hp ?_⟩
      unfold told
      rw [if_pos hb]
    · intro hb hc H2 d e o nd hd
      refine .inr ⟨rfl, d, y, rfl, hd, fun p hp => fin p e o hp ?_⟩
      unfold told
      rw [if_neg (by rw [hb]; decide), if_pos hc]
    · intro hb hc H2 e o
      exact ⟨rfl, hb, hc, e, o⟩
  · unfold told
    rw [if_neg (by rw [e2]; decide), if_neg (by rw [e3]; decide), e1]
/-! ### more uses -/
open TA in
theorem u_poolG {a b : Addr} {tb : List (Addr × Str)} {S : List (Addr × HO)} {l : List (Hp → Prop)} : Cl ⟨⟨some (a, b), tb⟩, S⟩ l 55 [is (.ref a), anI fun i => i = 2 ∨ i = 3] (fun vs H Q => spPool vs H Q C8.E0) (aM fun xs => ∃ ss : List Str, 1 ≤ ss.length ∧ ss.length ≤ 5 ∧ (∀ y ∈ ss, nmB y = true) ∧ xs = ss.map V.str) := fun vs n H k j ar Q q => by
  obtain ⟨v, r, φ, rfl, h1, b1, v', r', φ', rfl, ⟨h2, i, hi, rfl⟩, b2, ar⟩ := ar
  obtain ⟨m, rfl⟩ : ∃ m : Nat, i = m := ⟨i.toNat, by omega⟩
  refine u_pool m ⟨by omega, by omega⟩ _ n H k j ⟨v, _, φ, rfl, h1, b1, _, r', φ', rfl, ⟨rfl, h2⟩, b2, ar⟩ Q ?_
  rintro v χ H' e j' ⟨p, xs, e1, ⟨ss, c1, c2, rfl⟩, e2⟩ b
  exact q v χ H' e j' ⟨p, _, e1, ⟨ss, by omega, by omega, c2, rfl⟩, e2⟩ b
open TA in
/-- a pick out of a list of which φ is known -/
theorem u_pickG {a b : Addr} {tb : List (Addr × Str)} {S : List (Addr × HO)} {l : List (Hp → Prop)} {Ps : List Po} (h1 : 1 ≤ Ps.length) (h2 : Ps.length ≤ 1000) :
    Cl ⟨⟨some (a, b), tb⟩, S⟩ l 1 [is (.ref a), fun v φ => ∃ p xs, v = .ref p ∧ φ = fun H => H p = some (.lst xs) ∧ TA.Args (TA.Ctx.mk ⟨some (a, b), tb⟩ S).m Ps xs H] (fun vs H Q => spPick K vs H Q C8.E0)
      (fun v φ => ∃ p xs, v ∈ xs ∧ φ = fun H => H p = some (.lst xs) ∧ TA.Args (TA.Ctx.mk ⟨some (a, b), tb⟩ S).m Ps xs H) := fun vs n H k j ar Q q => by
  obtain ⟨v, r, φ, rfl, h3, b1, v', r', φ', rfl, ⟨p, xs, rfl, rfl⟩, b2, ar⟩ := ar
  have hl := b2.now.2.length
  refine u_pick xs ⟨by omega, by omega⟩ _ n H k j ⟨v, _, φ, rfl, h3, b1, _, r', kL K p xs, rfl, ⟨p, xs, rfl, rfl, rfl⟩, b2.imp fun _ h => SqL.of h.1, ar⟩ Q ?_
  rintro v χ H' e j' ⟨_, hv⟩ b
  exact q v _ H' e j' ⟨p, xs, hv, rfl⟩ (b2.mo e)
def okD (d : PyData) : Prop := d.showable = true ∧ d.hasDict = false ∧ d.depth ≤ 60 ∧ d.shown.length ≤ sizeLine
open TA in
theorem u_same {c : TA.Ctx} {l : List (Hp → Prop)} {P1 P2 : Po} (h : ∀ v v' φ ψ H, Kn c.m l H → P1 v φ → P2 v' ψ → φ H → ψ H → ∃ d, Dp K H v d ∧ Dp K H v' d ∧ okD d) : Cl c l 0 [P1, P2] (fun vs H Q => spSame K vs H Q C8.E0) (aB (· = true)) := fun vs n H k j ar Q q => by
  obtain ⟨v, r, φ, rfl, h1, b1, v', r', φ', rfl, h2, b2, ar⟩ := ar
  cases (show r' = [] from ar)
  obtain ⟨d, d1, d2, c1, c2, c3, c4⟩ := h v v' φ φ' H k h1 h2 b1.now b2.now
  exact ⟨v, v', d, rfl, d1, d2, c1, c2, c3, c4, q _ T0 H Mo.refl j ⟨rfl, _, rfl, rfl⟩ kn0⟩
theorem Args_mem {m : List Addr} {H : Hp} {v : V} : ∀ {Ps : List TA.Po} {xs : List V}, TA.Args m Ps xs H → v ∈ xs → ∃ P ∈ Ps, ∃ φ, P v φ ∧ TA.Bx m φ H
  | [], xs, h, hv => by
    rw [show xs = [] from h] at hv
    cases hv
  | P :: Ps, xs, ⟨u, r, φ, e, hp, hb, hr⟩, hv => by
    rw [e] at hv
    rcases List.mem_cons.mp hv with rfl | hv
    · exact ⟨P, List.mem_cons_self .., φ, hp, hb⟩
    · obtain ⟨P', h1, h2⟩ := Args_mem hr hv
      exact ⟨P', List.mem_cons_of_mem _ h1, h2⟩
open TA in
/-- told otherwise, where what is known says so -/
theorem _root_.TA.Ev.imp2 {c : TA.Ctx} {l : List (Hp → Prop)} {d : Nat} {te : TE} {σ : L2.St} {P1 P2 : Po} (h : Ev c l d te σ P1) (g : ∀ v φ H, P1 v φ → Bx c.m φ H → ∃ ψ, P2 v ψ ∧ Bx c.m ψ H) : Ev c l d te σ P2 := fun n H k j Q q =>
  h n H k j Q fun v φ H' e j' p b => by
    obtain ⟨ψ, p2, b2⟩ := g v φ H' p b
    exact q v ψ H' e j' p2 b2
open TA in
/-- a new tuple of told values -/
theorem ev_tupM {c : TA.Ctx} {l : List (Hp → Prop)} {d : Nat} {σ : L2.St} {ta : L2.TA} {xs : List V} (h : EvA c l d ta σ (xs.map is)) (hl : xs.length ≤ 100000) : Ev c l d (tTup ta) σ (fun v φ => ∃ p, v = .ref p ∧ φ = fun H => H p = some (.tup xs)) := fun n H k j Q q =>
  ev_tup h (by rw [List.length_map]; exact hl) n H k j Q fun v φ H' e j' p b => by
    obtain ⟨a, ys, rfl, rfl⟩ := p
    obtain rfl := Args.told b.now.2
    exact q _ _ H' e j' ⟨a, rfl, rfl⟩ fun H2 e2 => (b H2 e2).1
open TA in
theorem q_app {l : List (Hp → Prop)} {d n : Nat} {σ : L2.St} {H : Hp} {ta te : TE} {tz : TS} {D : Ends} {P1 : Po} {st : Sd} {S : List (Addr × HO)} {p : Addr} {xs : List V} (ha : Ev ⟨st, (p, .lst xs) :: S⟩ l 0 ta σ (is (.ref p))) (h : Ev ⟨st, (p, .lst xs) :: S⟩ l d te σ P1) (hz : xs.length < 100000)
    (k : Kn (p :: (TA.Ctx.mk st S).m) l H) (j : TA.Ctx.J ⟨st, (p, .lst xs) :: S⟩ (n + d) H)
    (q : ∀ v φ H', P1 v φ → Kn (p :: (TA.Ctx.mk st S).m) (φ :: l) H' → TA.Ctx.J ⟨st, (p, .lst (xs ++ [v])) :: S⟩ n H' → tz D σ H') : tSeq (tDrop (tBM K "list" rAppend ta (tCons te tNil))) tz D σ H :=
  s_app (D := { D with nx := tz D }) ha h hz k j q
open TA in
/-- x = [e] -/
theorem q_own1 {c : TA.Ctx} {l : List (Hp → Prop)} {d n i : Nat} {σ : L2.St} {H : Hp} {te : TE} {tz : TS} {D : Ends} {P1 : Po} (h : Ev c l d te σ P1) (k : Kn c.m l H) (j : c.J (n + d) H)
    (q : ∀ v φ p H', P1 v φ → Kn (p :: c.m) (φ :: l) H' → TA.Ctx.J ⟨c.st, (p, .lst [v]) :: c.S⟩ n H' → tz D (σ.set i (some (.ref p))) H') : tSeq (tAsg (tLst (tCons te tNil)) (gName i)) tz D σ H :=
  h n H k j _ fun v φ H1 e1 j1 p1 b1 => ⟨by show 1 ≤ sizeLine; rw [sizeLine_eq]; decide, fun p hp => q v φ p _ p1 (((k.mo e1).push b1).grow hp) (j1.push hp)⟩
/-! ### what is no pattern, what is no path -/
def odds : List PyData := [.none, .int 5, .str "", .str "/", .str "a//b", .str "A", .str "a/", .str "***", .str "*a", .list [.str "*"], .str "ninesigns", .bool true]
def bads : List PyData := [.none, .str "", .str "*", .str "a//b", .str "/a", .str "A/b", .tuple [.str "a"], .int 7]
def isOdd (K : PySem.W.Frag) : TA.Po := fun v φ => ∃ od ∈ odds, txB patB v = false ∧ (∀ z, v = .str z → z.length ≤ 100) ∧ φ = fun H => Dp K H v od ∧ txK K v H
def isBad (K : PySem.W.Frag) : TA.Po := fun v φ => ∃ bd ∈ bads, txB pathB v = false ∧ (∀ z, v = .str z → z.length ≤ 100) ∧ φ = fun H => Dp K H v bd ∧ txK K v H
open TA in
/-- one of the told values -/
theorem isOdd_tx {m : List Addr} {H : Hp} {z : Str} (h : PyData.str z ∈ odds) (h1 : patB z = false) (h2 : z.length ≤ 100) : ∃ ψ, isOdd K (.str z) ψ ∧ Bx m ψ H :=
  ⟨_, ⟨.str z, h, h1, (fun y e => by cases e; exact h2), rfl⟩, fun _ _ => ⟨.str z, fun e => by cases e⟩⟩
open TA in
theorem isBad_tx {m : List Addr} {H : Hp} {z : Str} (h : PyData.str z ∈ bads) (h1 : pathB z = false) (h2 : z.length ≤ 100) : ∃ ψ, isBad K (.str z) ψ ∧ Bx m ψ H :=
  ⟨_, ⟨.str z, h, h1, (fun y e => by cases e; exact h2), rfl⟩, fun _ _ => ⟨.str z, fun e => by cases e⟩⟩
theorem noTx_by {H : Hp} {v : V} {t : String} (h : TyX K H v (.type t)) (hs : PySem.W.kitOne K (.type t) (.type "str") = some false) : txK K v H := fun _ => ⟨_, h, hs⟩
theorem okD_told : ∀ b : Bool, okD (.tuple [.str "told", .bool b]) := by
  intro b
  cases b
  · exact ⟨by decide +kernel, by decide +kernel, by decide +kernel, by decide +kernel⟩
  · exact ⟨by decide +kernel, by decide +kernel, by decide +kernel, by decide +kernel⟩
theorem okD_two : ∀ od ∈ odds, ∀ bd ∈ bads, okD (.list [.tuple [.str "pattern", od], .tuple [.str "path", bd]]) := by
  have : ∀ od ∈ odds, ∀ bd ∈ bads, (PyData.list [.tuple [.str "pattern", od], .tuple [.str "path", bd]]).showable = true ∧ (PyData.list [.tuple [.str "pattern", od], .tuple [.str "path", bd]]).hasDict = false ∧
      (PyData.list [.tuple [.str "pattern", od], .tuple [.str "path", bd]]).depth ≤ 60 ∧ (PyData.list [.tuple [.str "pattern", od], .tuple [.str "path", bd]]).shown.length ≤ sizeLine := by decide +kernel
  exact this
end
end K47

set_option Elab.async false
set_option linter.all false
set_option maxRecDepth 100000
set_option maxHeartbeats 4000000
namespace K47
open PySem PySem.Spec PyProof.Rows L2
section
variable {P : Program} {w : World} {K : PySem.W.Frag} {mg : Str → Option Value} {base : Heap} {CP CA : Addr}
/-! ### law -/
def spLaw (K : PySem.W.Frag) (Pt : Addr) : Sp := fun vs H Q _ => ∃ (a : Addr) (ns : List Int), vs = [.ref a] ∧ ns.length ≤ 63 ∧ H Pt = some (.tbl #[]) ∧ SqL K H a (ns.map V.int) ∧ ∀ H', Q (.bl true) H'
open TA in
theorem law_ok {f g c Pt : Addr} {fd fdg : FuncData} (T : Txt mg) (c_matches : CalX P w K mg base 5 "matches" (spMatches K CP CA)) (c__law_draw : C8.Cal P w K mg base 1 "_law_draw" spDraw []) (c__law_pick : C8.Cal P w K mg base 2 "_law_pick" (spPick K) [])
    (c__law_same : CalG P w K mg base 1 "_law_same" (spSame K)) (c__law_pool : C8.Cal P w K mg base 4 "_law_pool" spPool []) (c__law_path : C8.Cal P w K mg base 3 "_law_path" (spPath K) []) (c__law_pattern : C8.Cal P w K mg base 3 "_law_pattern" (spPattern K) [])
    (c__law_stood_for : C8.Cal P w K mg base 3 "_law_stood_for" (spSf K) []) (c__law_matches : C8.Cal P w K mg base 1 "_law_matches" spLm []) (R_BadPattern : Err1 P w K mg base "BadPattern" CP "thing") (R_BadPath : Err1 P w K mg base "BadPath" CA "path") (T2 : Two K CP CA)
    (G : C8.Def K mg "_law_tried" st__law_tried g fdg) (bG : Binds K fdg ["_law_ask"] []) (TB : LamX.TabB base mg c Pt)
    (lkF : ∃ oc od dV kV doc pm an ct osl, fd = PySem.W.fnOf "law" "law" (C8.fnArgs st_law) (C8.fnBody st_law) (C8.fnScope st_law) dV kV doc pm an (.ref c) ct ∧ K.lookup f = some ⟨oc, od, .func fd, osl⟩) (hcF : PySem.W.codeIn K (.ref c) "law" = true) :
    FnG P w K mg base 12 f fd ["_law_script"] (spLaw K Pt) := by
  obtain ⟨oc, od, dV, kV, doc, pm, an, ct, osl, rfl, lk⟩ := lkF
  obtain ⟨ocG, odG, dVG, kVG, docG, pmG, anG, cdG, ctG, oslG, rfl, lkG, hcG⟩ := G.fn.ex
  refine ⟨fun vs H Q E h => ?_, fun A outer s H args us vs Q E hgd hr e0 hb r h => ?_⟩
  · obtain ⟨a, ns, rfl, _⟩ := h
    rfl
  refine LamX.run_ofS lk hcF sc_law hr e0 hb r (by obtain ⟨a, ns, rfl, _⟩ := h; rfl) fun hr => ?_
  obtain ⟨sa, ns, rfl, hns, hPt, hsc, fin⟩ := h
  refine ⟨_, PSs.nox ((pss_cons (ps_set (i := 1) sc_law.nd rfl (Or.inl rfl) (pe_lst (pa_cons (pe_callTy call_list_of (by rfl) T.m_list (by decide +kernel) (pa_cons (pv 0) pa_nil)) (pa_cons pe_int (pa_cons pe_int (pa_cons pe_int pa_nil))))))
      (pss_cons (ps_for PassesOwn.never rfl (pi_range1 (by rfl) T.m_range (pa_cons pe_int pa_nil)) (pg_name (i := 2) sc_law.nd rfl (Or.inl rfl))
      (pss_cons (ps_set (i := 3) sc_law.nd rfl (Or.inl rfl) (C8.pe_c c__law_pool hr (by decide) (by rfl) (pa_cons (pv 1) (pa_cons (pe_op op_add pe_int (C8.pe_c c__law_draw hr (by decide) (by rfl) (pa_cons (pv 1) (pa_cons pe_int pa_nil)))) pa_nil))))
      (pss_cons (ps_set (i := 8) sc_law.nd rfl (Or.inr rfl) (C8.pe_c c__law_pattern hr (by decide) (by rfl) (pa_cons (pv 1) (pa_cons (pv 3) (pa_cons pe_int pa_nil)))))
      (pss_cons (ps_set (i := 7) sc_law.nd rfl (Or.inr rfl) (pe_ifExp (pt_cmpR op_eq (C8.pe_c c__law_draw hr (by decide) (by rfl) (pa_cons (pv 1) (pa_cons pe_int pa_nil))) pe_int (nomark _)) (C8.pe_c c__law_stood_for hr (by decide) (by rfl) (pa_cons (pv 1) (pa_cons (pv 3) (pa_cons (pv 8) pa_nil)))) (C8.pe_c c__law_path hr (by decide) (by rfl) (pa_cons (pv 1) (pa_cons (pv 3) (pa_cons pe_int pa_nil))))))
      (pss_cons (ps_if (pt_not (pt_val (TA.pe_g c__law_same hgd hr (by decide) (by rfl) (pa_cons (LamX.pe_lamcall (T := [(Pt, "law.<locals>.<lambda>")]) (TT := TTried CP CA) (Ng := ["_law_ask", "_law_found", "e"]) (k := 5) (by rfl) G.mgf G.kp lkG hcG bG sc__law_tried rfl (.inl rfl) (tried_gives R_BadPattern R_BadPath T2) TB rfl (List.mem_cons_self ..) (fun p hp _ => by rw [List.mem_singleton.mp hp]; rfl) (hr.mono (by decide)) (LamX.lamS_by (sc := C8.fnScope st_law) (by decide +kernel)) rfl (fun _ _ _ _ _ => rfl) (fun _ _ _ _ _ _ _ hr2 => (TA.pe_x c_matches hr2 (by decide) (by rfl) (passes_call (takes_of rfl rfl rfl rfl) (fun _ _ _ _ h => h)) (pa_cons (pv 8) (pa_cons (pv 7) pa_nil))))) (pa_cons (pe_tup (pa_cons pe_str (pa_cons (C8.pe_c c__law_matches hr (by decide) (by rfl) (pa_cons (pv 8) (pa_cons (pv 7) pa_nil))) pa_nil))) pa_nil)))))
      (pss_one (ps_ret pe_bl))
      pss_nil)
      (pss_cons (ps_set (i := 6) sc_law.nd rfl (Or.inr rfl) (C8.pe_c c__law_pick hr (by decide) (by rfl) (pa_cons (pv 1) (pa_cons (pe_lst (pa_cons pe_non (pa_cons pe_int (pa_cons pe_str (pa_cons pe_str (pa_cons pe_str (pa_cons pe_str (pa_cons pe_str (pa_cons pe_str (pa_cons pe_str (pa_cons (pe_lst (pa_cons pe_str pa_nil)) (pa_cons pe_str (pa_cons pe_bl pa_nil))))))))))))) pa_nil))))
      (pss_cons (ps_set (i := 5) sc_law.nd rfl (Or.inr rfl) (C8.pe_c c__law_pick hr (by decide) (by rfl) (pa_cons (pv 1) (pa_cons (pe_lst (pa_cons pe_non (pa_cons pe_str (pa_cons pe_str (pa_cons pe_str (pa_cons pe_str (pa_cons pe_str (pa_cons (pe_tup (pa_cons pe_str pa_nil)) (pa_cons pe_int pa_nil))))))))) pa_nil))))
      (pss_cons (ps_set (i := 4) sc_law.nd rfl (Or.inl rfl) (pe_lst (pa_cons (LamX.pe_lamcall (T := [(Pt, "law.<locals>.<lambda>")]) (TT := TTried CP CA) (Ng := ["_law_ask", "_law_found", "e"]) (k := 5) (by rfl) G.mgf G.kp lkG hcG bG sc__law_tried rfl (.inl rfl) (tried_gives R_BadPattern R_BadPath T2) TB rfl (List.mem_cons_self ..) (fun p hp _ => by rw [List.mem_singleton.mp hp]; rfl) (hr.mono (by decide)) (LamX.lamS_by (sc := C8.fnScope st_law) (by decide +kernel)) rfl (fun _ _ _ _ _ => rfl) (fun _ _ _ _ _ _ _ hr2 => (TA.pe_x c_matches hr2 (by decide) (by rfl) (passes_call (takes_of rfl rfl rfl rfl) (fun _ _ _ _ h => h)) (pa_cons (pv 6) (pa_cons (pv 5) pa_nil))))) pa_nil)))
      (pss_cons (ps_expr (pe_bm PySem.F.plainAttrs_list PySem.F.slot_list_append PySem.F.type_list_append mt_append (pv 4) (pa_cons (LamX.pe_lamcall (T := [(Pt, "law.<locals>.<lambda>")]) (TT := TTried CP CA) (Ng := ["_law_ask", "_law_found", "e"]) (k := 5) (by rfl) G.mgf G.kp lkG hcG bG sc__law_tried rfl (.inl rfl) (tried_gives R_BadPattern R_BadPath T2) TB rfl (List.mem_cons_self ..) (fun p hp _ => by rw [List.mem_singleton.mp hp]; rfl) (hr.mono (by decide)) (LamX.lamS_by (sc := C8.fnScope st_law) (by decide +kernel)) rfl (fun _ _ _ _ _ => rfl) (fun _ _ _ _ _ _ _ hr2 => (TA.pe_x c_matches hr2 (by decide) (by rfl) (passes_call (takes_of rfl rfl rfl rfl) (fun _ _ _ _ h => h)) (pa_cons (pv 8) (pa_cons (pv 5) pa_nil))))) pa_nil)))
      (pss_one (ps_if (pt_not (pt_val (TA.pe_g c__law_same hgd hr (by decide) (by rfl) (pa_cons (pv 4) (pa_cons (pe_lst (pa_cons (pe_tup (pa_cons pe_str (pa_cons (pv 6) pa_nil))) (pa_cons (pe_tup (pa_cons pe_str (pa_cons (pv 5) pa_nil))) pa_nil))) pa_nil)))))
      (pss_one (ps_ret pe_bl))
      pss_nil)))))))))))
      (pss_one (ps_ret pe_bl))))), ?_⟩
  refine ⟨.ref sa, rfl, sa, _, rfl, .inl hsc, fun b hb => ⟨by show 4 ≤ sizeLine; rw [sizeLine_eq]; decide, fun a ha => ?_⟩⟩
  have oa : upd (upd H b (.lst (ns.map V.int))) a (.lst [.ref b, .int 0, .int 0, .int 0]) a = some (.lst [.ref b, .int 0, .int 0, .int 0]) := upd_same
  have nab : b ≠ a := fun z => by
    rw [← z, upd_same] at ha
    cases ha
  have nPb : Pt ≠ b := ne_of_none hPt hb
  have nPa : Pt ≠ a := fun z => by
    rw [← z, upd_ne nPb, hPt] at ha
    cases ha
  have j1 : TA.Ctx.J ⟨⟨some (a, b), [(Pt, "law.<locals>.<lambda>")]⟩, []⟩ (0 + (0 + 10 * 87)) (upd (upd H b (.lst (ns.map V.int))) a (.lst [.ref b, .int 0, .int 0, .int 0])) := by
    refine ⟨fun ab e => ?_, (fun q hq => by cases hq), ?_, fun t ht => ?_⟩
    · obtain rfl := Option.some.inj (show some (a, b) = some ab from e)
      exact ⟨0, 0, 0, ns, upd_same, by rw [upd_ne nab, upd_same], by decide, by decide, by decide, by decide, by decide, by omega⟩
    · show ([a, b] ++ [Pt]).Nodup
      simp [nab.symm, nPa.symm, nPb.symm]
    · rw [List.mem_singleton.mp ht]
      refine ⟨#[], by rw [upd_ne nPa, upd_ne nPb]; exact hPt, trivial, fun pos cv h => ?_⟩
      cases h
  refine q_for (c := ⟨⟨some (a, b), [(Pt, "law.<locals>.<lambda>")]⟩, []⟩) (l := []) (n := 0) (d0 := 0) (d := 87) (N0 := 10) (i_range1 (A := (· = 10)) (N0 := 10) (ea_cons (Ev.imp ev_cI ?g1) ea_nil) (fun N h => by rw [h]; exact Nat.le_refl _) (by decide)) ?hN (fun _ _ _ _ _ => g_name) Kn.nil j1
    (fun N Y i σ S lx => lx = [] ∧ S = [] ∧ ∃ o2 o3 o4 o5 o6 o7 o8, σ = [some (.ref sa), some (.ref a), o2, o3, o4, o5, o6, o7, o8]) ?h0 ?hs ?hd
  case g1 =>
    rintro v φ ⟨e, k, rfl, rfl⟩
    exact ⟨e, _, ⟨10, rfl, rfl⟩, rfl⟩
  case hN =>
    rintro N Y ⟨rfl, _⟩
    exact Nat.le_refl _
  case h0 =>
    rintro N Y _
    exact ⟨rfl, rfl, _, _, _, _, _, _, _, rfl⟩
  case hd =>
    rintro N Y σ1 S lx G H' _ ⟨rfl, rfl, o2, o3, o4, o5, o6, o7, o8, rfl⟩ _ k2 j2
    exact fin H'
  case hs =>
    rintro N Y i x φ σ1 σ2 S lx G H' ⟨rfl, rfl⟩ hi ⟨rfl, rfl⟩ rfl ⟨rfl, rfl, o2, o3, o4, o5, o6, o7, o8, rfl⟩ _ k2 j2
    have nS : ∀ q ∈ ([] : List (Addr × HO)), NT q.2 := fun q hq => by cases hq
    -- the pool
    refine q_asg (c := ⟨⟨some (a, b), [(Pt, "law.<locals>.<lambda>")]⟩, []⟩) (n := 0 + (10 - (i + 1)) * 87 + 31) (d := 56) (ev_call (d2 := 55) (ea_cons (ev_var rfl) (ea_cons (Ev.imp (ev_op ev_cI (ev_call (d2 := 1) (ea_cons (ev_var rfl) (ea_cons ev_c ea_nil)) (u_draw 2 ⟨by decide, by decide⟩)) (op_II (g := fun i j => i + j))) ?p1) ea_nil)) u_poolG) k2 j2 ?_
    case p1 =>
      rintro v φ ⟨e, k, ⟨i, j, rfl, ⟨h1, h2⟩, rfl⟩, rfl⟩
      refine ⟨e, _, ?_, rfl⟩
      have h2 : j < 2 := h2
      omega
    rintro v φ H3 ⟨pp, xs, rfl, ⟨ss, s1, s2, s3, rfl⟩, rfl⟩ k3 j3
    have okA : okPath (ss, 6) := ⟨s1, Nat.le_trans s2 (by decide), s3, (by decide : 1 ≤ 6), (by decide : 6 ≤ 6)⟩
    have okB : okPath (ss, 5) := ⟨s1, Nat.le_trans s2 (by decide), s3, (by decide : 1 ≤ 5), (by decide : 5 ≤ 6)⟩
    -- the pattern
    refine q_asg (c := ⟨⟨some (a, b), [(Pt, "law.<locals>.<lambda>")]⟩, []⟩) (n := 0 + (10 - (i + 1)) * 87 + 24) (d := 7) (ev_call (d2 := 7) (ea_cons (ev_var rfl) (ea_cons (ev_varM rfl m0) (ea_cons ev_c ea_nil))) (u_pattern (ss, 6) okA)) k3 j3 ?_
    rintro v φ H4 ⟨rfl, pt, hpt, rfl⟩ k4 j4
    obtain ⟨pt1, pt2, pt3, pt4, pt5⟩ := patty_parts hpt
    -- the path
    refine q_asg (c := ⟨⟨some (a, b), [(Pt, "law.<locals>.<lambda>")]⟩, []⟩) (n := 0 + (10 - (i + 1)) * 87 + 2) (d := 22) (P := aS pathy) (Ev.imp (ev_if (d1 := 1) (d2 := 21) (A := fun _ => True) (EvT.imp (et_of (ev_op (ev_call (d2 := 1) (ea_cons (ev_var rfl) (ea_cons ev_c ea_nil)) (u_draw 2 ⟨by decide, by decide⟩)) ev_cI op_eqI)) fun _ _ => trivial)
      (fun _ => ev_call (d2 := 21) (ea_cons (ev_var rfl) (ea_cons (Ev.toL (K := K) (ev_varM rfl m1)) (ea_cons (ev_var rfl) ea_nil))) (u_sf (ss, pt) ⟨s1, Nat.le_trans s2 (by decide), s3, hpt⟩))
      (fun _ => Ev.up (ev_call (d2 := 7) (ea_cons (ev_var rfl) (ea_cons (Ev.toL (K := K) (ev_varM rfl m1)) (ea_cons ev_c ea_nil))) (u_path (ss, 5) okB)) (by decide))) ?p2) k4 j4 ?_
    case p2 =>
      rintro v φ (⟨_, h⟩ | ⟨_, h⟩)
      · exact h
      · exact h
    rintro v φ H5 ⟨rfl, pa, hpa, rfl⟩ k5 j5
    obtain ⟨pa1, pa2, pa3⟩ := pathy_parts hpa
    have k5' := (k5.push (φ := txK K (.str pt)) (fun _ _ h => by cases h)).push (φ := txK K (.str pa)) (fun _ _ h => by cases h)
    have tl1 : told (.str pt) (.str pa) = [.str "told", .bl (mtB pt pa)] := by
      unfold told
      rw [if_neg (by show ¬ patB pt = false; rw [pt5]; decide), if_neg (by show ¬ pathB pa = false; rw [pa3]; decide)]
      rfl
    -- what is told of it
    refine q_when (c := ⟨⟨some (a, b), [(Pt, "law.<locals>.<lambda>")]⟩, []⟩) (n := 0 + (10 - (i + 1)) * 87 + 2) (d := 0) (et_tnot (et_B (ev_call (d2 := 0) (ea_cons (ev_tried (K := K) (CP := CP) (CA := CA) (x := .str pt) (y := .str pa) nS rfl rfl m1 m0 ⟨(fun z e => by cases e; omega), fun z e => by cases e; omega⟩)
      (ea_cons (ev_tup (ea_cons ev_c (ea_cons (ev_call (d2 := 0) (ea_cons (ev_var rfl) (ea_cons (ev_var rfl) ea_nil)) (u_lm (pt, pa) ⟨by show pt.length ≤ 100; omega, by show pa.length ≤ 100; omega, pa2⟩)) ea_nil)) (by simp)) ea_nil)) (u_same ?p3)))) k5' j5 (fun h => by cases h) fun _ H6 e6 k6 j6 => ?_
    case p3 =>
      rintro v v' φ ψ H7 _ ⟨p, xs, rfl, rfl, rfl⟩ ⟨p', xs', rfl, rfl⟩ h1 ⟨h2, u1, r1, χ1, rfl, ⟨rfl, _⟩, _, u2, r2, χ2, rfl, ⟨_, b', rfl, rfl⟩, _, hn⟩
      cases (show r2 = [] from hn)
      have h1 : SqT K H7 p (told (.str pt) (.str pa)) := h1
      rw [tl1] at h1
      exact ⟨.tuple [.str "told", .bool (mtB pt pa)], .tup h1 (.cons (.str _) (.cons (.bl _) .nil)), .tup (SqT.of h2) (.cons (.str _) (.cons (.bl _) .nil)), okD_told _⟩
    -- what is no pattern
    refine q_asg (c := ⟨⟨some (a, b), [(Pt, "law.<locals>.<lambda>")]⟩, []⟩) (n := 0 + (10 - (i + 1)) * 87 + 1) (d := 1) (P := isOdd K) (Ev.imp2 (ev_call (d2 := 1) (ea_cons (ev_var rfl) (ea_cons (ev_lst (ea_cons ev_c (ea_cons ev_c (ea_cons ev_c (ea_cons ev_c (ea_cons ev_c (ea_cons ev_c (ea_cons ev_c (ea_cons ev_c (ea_cons ev_c (ea_cons (ev_lstM (xs := [.str "*"]) (ea_cons ev_c ea_nil) (by decide)) (ea_cons ev_c (ea_cons ev_c ea_nil)))))))))))) (by simp)) ea_nil)) (u_pickG (K := K) (by simp) (by simp))) ?p5) k6 j6 ?_
    case p5 =>
      rintro v φ H7 ⟨p, xs, hv, rfl⟩ bx
      obtain ⟨P', hP', χ, hp, hb⟩ := Args_mem bx.now.2 hv
      simp only [List.mem_cons, List.not_mem_nil, or_false] at hP'
      rcases hP' with rfl | rfl | rfl | rfl | rfl | rfl | rfl | rfl | rfl | rfl | rfl | rfl
      · obtain ⟨rfl, _⟩ := hp
        exact ⟨_, ⟨.none, by simp [odds], rfl, (fun z e => by cases e), rfl⟩, fun _ _ => ⟨.non, noTx_by (.base .non) (kit_ty (by decide +kernel))⟩⟩
      · obtain ⟨rfl, _⟩ := hp
        exact ⟨_, ⟨.int 5, by simp [odds], rfl, (fun z e => by cases e), rfl⟩, fun _ _ => ⟨.int 5, noTx_by (.base (.int 5)) (kit_ty (by decide +kernel))⟩⟩
      · obtain ⟨rfl, _⟩ := hp
        exact isOdd_tx (by simp [odds]) (by decide +kernel) (by decide +kernel)
      · obtain ⟨rfl, _⟩ := hp
        exact isOdd_tx (by simp [odds]) (by decide +kernel) (by decide +kernel)
      · obtain ⟨rfl, _⟩ := hp
        exact isOdd_tx (by simp [odds]) (by decide +kernel) (by decide +kernel)
      · obtain ⟨rfl, _⟩ := hp
        exact isOdd_tx (by simp [odds]) (by decide +kernel) (by decide +kernel)
      · obtain ⟨rfl, _⟩ := hp
        exact isOdd_tx (by simp [odds]) (by decide +kernel) (by decide +kernel)
      · obtain ⟨rfl, _⟩ := hp
        exact isOdd_tx (by simp [odds]) (by decide +kernel) (by decide +kernel)
      · obtain ⟨rfl, _⟩ := hp
        exact isOdd_tx (by simp [odds]) (by decide +kernel) (by decide +kernel)
      · obtain ⟨q, ys, rfl, rfl, rfl⟩ := hp
        exact ⟨_, ⟨.list [.str "*"], by simp [odds], rfl, (fun z e => by cases e), rfl⟩, fun H' e => ⟨.lst (SqL.of (hb H' e)) (.cons (.str _) .nil), noTx_by (.base (.lst (hb H' e))) (kit_ty (by decide +kernel))⟩⟩
      · obtain ⟨rfl, _⟩ := hp
        exact isOdd_tx (by simp [odds]) (by decide +kernel) (by decide +kernel)
      · obtain ⟨rfl, _⟩ := hp
        exact ⟨_, ⟨.bool true, by simp [odds], rfl, (fun z e => by cases e), rfl⟩, fun _ _ => ⟨.bl true, noTx_by (.base (.bl true)) (kit_ty (by decide +kernel))⟩⟩
    rintro od φ H8 hod k8 j8
    refine q_asg (c := ⟨⟨some (a, b), [(Pt, "law.<locals>.<lambda>")]⟩, []⟩) (n := 0 + (10 - (i + 1)) * 87) (d := 1) (P := isBad K) (Ev.imp2 (ev_call (d2 := 1) (ea_cons (ev_var rfl) (ea_cons (ev_lst (ea_cons ev_c (ea_cons ev_c (ea_cons ev_c (ea_cons ev_c (ea_cons ev_c (ea_cons ev_c (ea_cons (ev_tupM (xs := [.str "a"]) (ea_cons ev_c ea_nil) (by decide)) (ea_cons ev_c ea_nil)))))))) (by simp)) ea_nil)) (u_pickG (K := K) (by simp) (by simp))) ?p7) k8 j8 ?_
    case p7 =>
      rintro v φ H7 ⟨p, xs, hv, rfl⟩ bx
      obtain ⟨P', hP', χ, hp, hb⟩ := Args_mem bx.now.2 hv
      simp only [List.mem_cons, List.not_mem_nil, or_false] at hP'
      rcases hP' with rfl | rfl | rfl | rfl | rfl | rfl | rfl | rfl
      · obtain ⟨rfl, _⟩ := hp
        exact ⟨_, ⟨.none, by simp [bads], rfl, (fun z e => by cases e), rfl⟩, fun _ _ => ⟨.non, noTx_by (.base .non) (kit_ty (by decide +kernel))⟩⟩
      · obtain ⟨rfl, _⟩ := hp
        exact isBad_tx (by simp [bads]) (by decide +kernel) (by decide +kernel)
      · obtain ⟨rfl, _⟩ := hp
        exact isBad_tx (by simp [bads]) (by decide +kernel) (by decide +kernel)
      · obtain ⟨rfl, _⟩ := hp
        exact isBad_tx (by simp [bads]) (by decide +kernel) (by decide +kernel)
      · obtain ⟨rfl, _⟩ := hp
        exact isBad_tx (by simp [bads]) (by decide +kernel) (by decide +kernel)
      · obtain ⟨rfl, _⟩ := hp
        exact isBad_tx (by simp [bads]) (by decide +kernel) (by decide +kernel)
      · obtain ⟨q, rfl, rfl⟩ := hp
        exact ⟨_, ⟨.tuple [.str "a"], by simp [bads], rfl, (fun z e => by cases e), rfl⟩, fun H' e => ⟨.tup (SqT.of (hb H' e)) (.cons (.str _) .nil), noTx_by (.base (.tup (hb H' e))) (kit_ty (by decide +kernel))⟩⟩
      · obtain ⟨rfl, _⟩ := hp
        exact ⟨_, ⟨.int 7, by simp [bads], rfl, (fun z e => by cases e), rfl⟩, fun _ _ => ⟨.int 7, noTx_by (.base (.int 7)) (kit_ty (by decide +kernel))⟩⟩
    rintro bd ψ H9 hbd k9 j9
    obtain ⟨od', hod1, hod2, hod3, rfl⟩ := hod
    obtain ⟨bd', hbd1, hbd2, hbd3, rfl⟩ := hbd
    have k9' := (k9.push (φ := txK K od) ((k9.box m1).imp fun _ h => h.2)).push (φ := txK K bd) ((k9.box m0).imp fun _ h => h.2)
    have tl2 : told od bd = [.str "pattern", od] := by
      unfold told
      rw [if_pos hod2]
    have tl3 : told (.str pt) bd = [.str "path", bd] := by
      unfold told
      rw [if_neg (by show ¬ patB pt = false; rw [pt5]; decide), if_pos hbd2]
    refine q_own1 (c := ⟨⟨some (a, b), [(Pt, "law.<locals>.<lambda>")]⟩, []⟩) (n := 0 + (10 - (i + 1)) * 87) (d := 0) (ev_tried (K := K) (CP := CP) (CA := CA) (x := od) (y := bd) nS rfl rfl m1 m0 ⟨hod3, hbd3⟩) k9' j9 ?_
    rintro v φ fp H10 ⟨p1, xs1, rfl, rfl, rfl⟩ k10 j10
    refine q_app (st := ⟨some (a, b), [(Pt, "law.<locals>.<lambda>")]⟩) (S := []) (n := 0 + (10 - (i + 1)) * 87) (d := 0) (ev_var rfl) (ev_tried (K := K) (CP := CP) (CA := CA) (x := .str pt) (y := bd) (fun q hq => by rw [List.mem_singleton.mp hq]; exact nt_lst) rfl rfl m6 m1 ⟨(fun z e => by cases e; omega), hbd3⟩) (by simp) k10 j10 ?_
    rintro v φ H11 ⟨p2, xs2, rfl, rfl, rfl⟩ k11 j11
    have k12 := j11.froze k11
    have j12 := j11.pop
    refine s_if (c := ⟨⟨some (a, b), [(Pt, "law.<locals>.<lambda>")]⟩, []⟩) (n := 0 + (10 - (i + 1)) * 87) (d := 0) (et_tnot (et_B (ev_call (d2 := 0) (ea_cons (ev_varF rfl m0) (ea_cons (ev_lst (ea_cons (ev_tup (ea_cons ev_c (ea_cons (ev_var rfl) ea_nil)) (by simp)) (ea_cons (ev_tup (ea_cons ev_c (ea_cons (ev_var rfl) ea_nil)) (by simp)) ea_nil)) (by simp)) ea_nil)) (u_same ?p8)))) k12 j12 (fun h => by cases h) fun _ H13 e13 k13 j13 => ?_
    case p8 =>
      rintro v v' φ ψ H14 kn ⟨p, xs, rfl, rfl, rfl⟩ ⟨p', xs', rfl, rfl⟩ h1 ⟨h2, u1, r1, χ1, rfl, ⟨t1, ys1, rfl, rfl⟩, b1, u2, r2, χ2, rfl, ⟨t2, ys2, rfl, rfl⟩, b2, hn⟩
      cases (show r2 = [] from hn)
      obtain ⟨c1, a1, s1', x1, rfl, ⟨rfl, _⟩, _, a2, s2', x2, rfl, ⟨rfl, _⟩, _, hn1⟩ := b1.now
      cases (show s2' = [] from hn1)
      obtain ⟨c2, a3, s3', x3, rfl, ⟨rfl, _⟩, _, a4, s4', x4, rfl, ⟨rfl, _⟩, _, hn2⟩ := b2.now
      cases (show s4' = [] from hn2)
      have f2 : SqT K H14 p2 (told (.str pt) a4) := kn.get m1
      have f1 : SqT K H14 p1 (told a2 a4) := kn.get m2
      rw [tl3] at f2
      rw [tl2] at f1
      have dO : Dp K H14 a2 od' := (kn.get m6).1
      have dB : Dp K H14 a4 bd' := (kn.get m5).1
      refine ⟨.list [.tuple [.str "pattern", od'], .tuple [.str "path", bd']], .lst (SqL.of h1) (.cons (.tup f1 (.cons (.str _) (.cons dO .nil))) (.cons (.tup f2 (.cons (.str _) (.cons dB .nil))) .nil)), .lst (SqL.of h2) (.cons (.tup (SqT.of c1) (.cons (.str _) (.cons dO .nil))) (.cons (.tup (SqT.of c2) (.cons (.str _) (.cons dB .nil))) .nil)), okD_two od' hod1 bd' hbd1⟩
    refine ⟨[], [], ⟨rfl, rfl, _, _, _, _, _, _, _, rfl⟩, rfl, k13.sub fun x hx => ?_, j13⟩
    rw [List.mem_singleton.mp hx]
    exact .tail _ (.tail _ (.tail _ (.tail _ (.tail _ (.tail _ m7)))))
end
end K47

set_option Elab.async false
set_option linter.all false
set_option maxRecDepth 100000
set_option maxHeartbeats 8000000
namespace K47
open PySem PySem.Spec PyProof.Rows L2
abbrev st_BadPath : Stmt := (C8.clsBody (topS 2)).getD 0 (.Pass ⟨0, 0, 0, 0⟩)
abbrev s0_BadPath : Stmt := .Expr (.Call (.Attribute (.Call (.Name "super" ⟨7, 8, 7, 13⟩) [] [] ⟨7, 8, 7, 15⟩) "__init__" ⟨7, 8, 7, 24⟩) [.Constant (.str "what is no path") 0 ⟨7, 25, 7, 42⟩] [] ⟨7, 8, 7, 43⟩) ⟨7, 8, 7, 43⟩
abbrev s1_BadPath : Stmt := .Assign [.Attribute (.Name "self" ⟨8, 8, 8, 12⟩) "path" ⟨8, 8, 8, 17⟩] (.Name "path" ⟨8, 20, 8, 24⟩) ⟨8, 8, 8, 24⟩
abbrev st_BadPattern : Stmt := (C8.clsBody (topS 3)).getD 0 (.Pass ⟨0, 0, 0, 0⟩)
abbrev s0_BadPattern : Stmt := .Expr (.Call (.Attribute (.Call (.Name "super" ⟨12, 8, 12, 13⟩) [] [] ⟨12, 8, 12, 15⟩) "__init__" ⟨12, 8, 12, 24⟩) [.Constant (.str "what is no pattern") 0 ⟨12, 25, 12, 45⟩] [] ⟨12, 8, 12, 46⟩) ⟨12, 8, 12, 46⟩
abbrev s1_BadPattern : Stmt := .Assign [.Attribute (.Name "self" ⟨13, 8, 13, 12⟩) "thing" ⟨13, 8, 13, 18⟩] (.Name "thing" ⟨13, 21, 13, 26⟩) ⟨13, 8, 13, 26⟩
theorem all_mk {l : PySem.W.OpenLaw} {w : World} {K : PySem.W.Frag} {h : Heap} {mg : Str → Option Value} {fa : Addr} {P : Program} (hl : l.prog = P) (X : K.In h) (G : h.Ns mainGlobals mg) (hfa : mg "law" = some (.ref fa)) (own : LamX.OwnTab K fa h)
    {fis_name : Addr} {ocis_name kVis_name dcis_name pmis_name ctis_name : Value} {odis_name anis_name : Option Addr} {slis_name : Array (Option Value)} {cdis_name : Value} {fis_path : Addr} {ocis_path kVis_path dcis_path pmis_path ctis_path : Value} {odis_path anis_path : Option Addr} {slis_path : Array (Option Value)} {cdis_path : Value} {fis_pattern : Addr} {ocis_pattern kVis_pattern dcis_pattern pmis_pattern ctis_pattern : Value} {odis_pattern anis_pattern : Option Addr} {slis_pattern : Array (Option Value)} {cdis_pattern : Value} {fopened : Addr} {ocopened kVopened dcopened pmopened ctopened : Value} {odopened anopened : Option Addr} {slopened : Array (Option Value)} {cdopened : Value} {fmoved : Addr} {ocmoved kVmoved dcmoved pmmoved ctmoved : Value} {odmoved anmoved : Option Addr} {slmoved : Array (Option Value)} {cdmoved : Value} {fled : Addr} {ocled kVled dcled pmled ctled : Value} {odled anled : Option Addr} {slled : Array (Option Value)} {cdled : Value} {fmatched : Addr} {ocmatched kVmatched dcmatched pmmatched ctmatched : Value} {odmatched anmatched : Option Addr} {slmatched : Array (Option Value)} {cdmatched : Value} {fmatches : Addr} {ocmatches kVmatches dcmatches pmmatches ctmatches : Value} {odmatches anmatches : Option Addr} {slmatches : Array (Option Value)} {cdmatches : Value} {f_law_draw : Addr} {oc_law_draw kV_law_draw dc_law_draw pm_law_draw ct_law_draw : Value} {od_law_draw an_law_draw : Option Addr} {sl_law_draw : Array (Option Value)} {cd_law_draw : Value} {f_law_pick : Addr} {oc_law_pick kV_law_pick dc_law_pick pm_law_pick ct_law_pick : Value} {od_law_pick an_law_pick : Option Addr} {sl_law_pick : Array (Option Value)} {cd_law_pick : Value} {f_law_same : Addr} {oc_law_same kV_law_same dc_law_same pm_law_same ct_law_same : Value} {od_law_same an_law_same : Option Addr} {sl_law_same : Array (Option Value)} {cd_law_same : Value} {f_law_fresh : Addr} {oc_law_fresh kV_law_fresh dc_law_fresh pm_law_fresh ct_law_fresh : Value} {od_law_fresh an_law_fresh : Option Addr} {sl_law_fresh : Array (Option Value)} {cd_law_fresh : Value} {f_law_pool : Addr} {oc_law_pool kV_law_pool dc_law_pool pm_law_pool ct_law_pool : Value} {od_law_pool an_law_pool : Option Addr} {sl_law_pool : Array (Option Value)} {cd_law_pool : Value} {f_law_path : Addr} {oc_law_path kV_law_path dc_law_path pm_law_path ct_law_path : Value} {od_law_path an_law_path : Option Addr} {sl_law_path : Array (Option Value)} {cd_law_path : Value} {f_law_pattern : Addr} {oc_law_pattern kV_law_pattern dc_law_pattern pm_law_pattern ct_law_pattern : Value} {od_law_pattern an_law_pattern : Option Addr} {sl_law_pattern : Array (Option Value)} {cd_law_pattern : Value} {f_law_stood_for : Addr} {oc_law_stood_for kV_law_stood_for dc_law_stood_for pm_law_stood_for ct_law_stood_for : Value} {od_law_stood_for an_law_stood_for : Option Addr} {sl_law_stood_for : Array (Option Value)} {cd_law_stood_for : Value} {f_law_matches : Addr} {oc_law_matches kV_law_matches dc_law_matches pm_law_matches ct_law_matches : Value} {od_law_matches an_law_matches : Option Addr} {sl_law_matches : Array (Option Value)} {cd_law_matches : Value} {f_law_tried : Addr} {oc_law_tried kV_law_tried dc_law_tried pm_law_tried ct_law_tried : Value} {od_law_tried an_law_tried : Option Addr} {sl_law_tried : Array (Option Value)} {cd_law_tried : Value} {flaw : Addr} {oclaw kVlaw dclaw pmlaw ctlaw : Value} {odlaw anlaw : Option Addr} {sllaw : Array (Option Value)} {cc_law Pt : Addr} {uLETTERS : Value} {uLONGEST : Value} {CBadPath NBadPath CBBadPath fIBadPath cdaBadPath cclBadPath : Addr} {nmBadPath qBadPath fileBadPath : Str} {bsBadPath subBadPath : List Value} {snBadPath : List Str} {abBadPath : Bool} {colBadPath : Option Bool} {ddBadPath : Option Addr} {k0BadPath k1BadPath k2BadPath k3BadPath k5BadPath : Option Value} {oiBadPath kViBadPath dciBadPath pmiBadPath ctiBadPath cc1BadPath cl1BadPath : Value} {odiBadPath aniBadPath cc2BadPath cl2BadPath : Option Addr} {sliBadPath cc4BadPath cl4BadPath : Array (Option Value)} {cvsBadPath : Array Value} {tfBadPath : Tok} {CBadPattern NBadPattern CBBadPattern fIBadPattern cdaBadPattern cclBadPattern : Addr} {nmBadPattern qBadPattern fileBadPattern : Str} {bsBadPattern subBadPattern : List Value} {snBadPattern : List Str} {abBadPattern : Bool} {colBadPattern : Option Bool} {ddBadPattern : Option Addr} {k0BadPattern k1BadPattern k2BadPattern k3BadPattern k5BadPattern : Option Value} {oiBadPattern kViBadPattern dciBadPattern pmiBadPattern ctiBadPattern cc1BadPattern cl1BadPattern : Value} {odiBadPattern aniBadPattern cc2BadPattern cl2BadPattern : Option Addr} {sliBadPattern cc4BadPattern cl4BadPattern : Array (Option Value)} {cvsBadPattern : Array Value} {tfBadPattern : Tok} {lc1 : Value} {lc2 : Option Addr} {lvs : Array Value} {lc4 : Array (Option Value)}
    (ais_name : PySem.W.nsIn K mainGlobals "is_name" = some (some (.ref fis_name)))
    (lis_name : K.lookup fis_name = some ⟨ocis_name, odis_name, .func (PySem.W.fnOf "is_name" "is_name" (C8.fnArgs st_is_name) (C8.fnBody st_is_name) (C8.fnScope st_is_name) .none kVis_name dcis_name pmis_name anis_name cdis_name ctis_name), slis_name⟩)
    (cis_name : PySem.W.codeIn K cdis_name "is_name" = true)
    (kis_name : PySem.W.keepIn K (.ref fis_name) = true)
    (ais_path : PySem.W.nsIn K mainGlobals "is_path" = some (some (.ref fis_path)))
    (lis_path : K.lookup fis_path = some ⟨ocis_path, odis_path, .func (PySem.W.fnOf "is_path" "is_path" (C8.fnArgs st_is_path) (C8.fnBody st_is_path) (C8.fnScope st_is_path) .none kVis_path dcis_path pmis_path anis_path cdis_path ctis_path), slis_path⟩)
    (cis_path : PySem.W.codeIn K cdis_path "is_path" = true)
    (kis_path : PySem.W.keepIn K (.ref fis_path) = true)
    (ais_pattern : PySem.W.nsIn K mainGlobals "is_pattern" = some (some (.ref fis_pattern)))
    (lis_pattern : K.lookup fis_pattern = some ⟨ocis_pattern, odis_pattern, .func (PySem.W.fnOf "is_pattern" "is_pattern" (C8.fnArgs st_is_pattern) (C8.fnBody st_is_pattern) (C8.fnScope st_is_pattern) .none kVis_pattern dcis_pattern pmis_pattern anis_pattern cdis_pattern ctis_pattern), slis_pattern⟩)
    (cis_pattern : PySem.W.codeIn K cdis_pattern "is_pattern" = true)
    (kis_pattern : PySem.W.keepIn K (.ref fis_pattern) = true)
    (aopened : PySem.W.nsIn K mainGlobals "opened" = some (some (.ref fopened)))
    (lopened : K.lookup fopened = some ⟨ocopened, odopened, .func (PySem.W.fnOf "opened" "opened" (C8.fnArgs st_opened) (C8.fnBody st_opened) (C8.fnScope st_opened) .none kVopened dcopened pmopened anopened cdopened ctopened), slopened⟩)
    (copened : PySem.W.codeIn K cdopened "opened" = true)
    (kopened : PySem.W.keepIn K (.ref fopened) = true)
    (amoved : PySem.W.nsIn K mainGlobals "moved" = some (some (.ref fmoved)))
    (lmoved : K.lookup fmoved = some ⟨ocmoved, odmoved, .func (PySem.W.fnOf "moved" "moved" (C8.fnArgs st_moved) (C8.fnBody st_moved) (C8.fnScope st_moved) .none kVmoved dcmoved pmmoved anmoved cdmoved ctmoved), slmoved⟩)
    (cmoved : PySem.W.codeIn K cdmoved "moved" = true)
    (kmoved : PySem.W.keepIn K (.ref fmoved) = true)
    (aled : PySem.W.nsIn K mainGlobals "led" = some (some (.ref fled)))
    (lled : K.lookup fled = some ⟨ocled, odled, .func (PySem.W.fnOf "led" "led" (C8.fnArgs st_led) (C8.fnBody st_led) (C8.fnScope st_led) .none kVled dcled pmled anled cdled ctled), slled⟩)
    (cled : PySem.W.codeIn K cdled "led" = true)
    (kled : PySem.W.keepIn K (.ref fled) = true)
    (amatched : PySem.W.nsIn K mainGlobals "matched" = some (some (.ref fmatched)))
    (lmatched : K.lookup fmatched = some ⟨ocmatched, odmatched, .func (PySem.W.fnOf "matched" "matched" (C8.fnArgs st_matched) (C8.fnBody st_matched) (C8.fnScope st_matched) .none kVmatched dcmatched pmmatched anmatched cdmatched ctmatched), slmatched⟩)
    (cmatched : PySem.W.codeIn K cdmatched "matched" = true)
    (kmatched : PySem.W.keepIn K (.ref fmatched) = true)
    (amatches : PySem.W.nsIn K mainGlobals "matches" = some (some (.ref fmatches)))
    (lmatches : K.lookup fmatches = some ⟨ocmatches, odmatches, .func (PySem.W.fnOf "matches" "matches" (C8.fnArgs st_matches) (C8.fnBody st_matches) (C8.fnScope st_matches) .none kVmatches dcmatches pmmatches anmatches cdmatches ctmatches), slmatches⟩)
    (cmatches : PySem.W.codeIn K cdmatches "matches" = true)
    (kmatches : PySem.W.keepIn K (.ref fmatches) = true)
    (a_law_draw : PySem.W.nsIn K mainGlobals "_law_draw" = some (some (.ref f_law_draw)))
    (l_law_draw : K.lookup f_law_draw = some ⟨oc_law_draw, od_law_draw, .func (PySem.W.fnOf "_law_draw" "_law_draw" (C8.fnArgs st__law_draw) (C8.fnBody st__law_draw) (C8.fnScope st__law_draw) .none kV_law_draw dc_law_draw pm_law_draw an_law_draw cd_law_draw ct_law_draw), sl_law_draw⟩)
    (c_law_draw : PySem.W.codeIn K cd_law_draw "_law_draw" = true)
    (k_law_draw : PySem.W.keepIn K (.ref f_law_draw) = true)
    (a_law_pick : PySem.W.nsIn K mainGlobals "_law_pick" = some (some (.ref f_law_pick)))
    (l_law_pick : K.lookup f_law_pick = some ⟨oc_law_pick, od_law_pick, .func (PySem.W.fnOf "_law_pick" "_law_pick" (C8.fnArgs st__law_pick) (C8.fnBody st__law_pick) (C8.fnScope st__law_pick) .none kV_law_pick dc_law_pick pm_law_pick an_law_pick cd_law_pick ct_law_pick), sl_law_pick⟩)
    (c_law_pick : PySem.W.codeIn K cd_law_pick "_law_pick" = true)
    (k_law_pick : PySem.W.keepIn K (.ref f_law_pick) = true)
    (a_law_same : PySem.W.nsIn K mainGlobals "_law_same" = some (some (.ref f_law_same)))
    (l_law_same : K.lookup f_law_same = some ⟨oc_law_same, od_law_same, .func (PySem.W.fnOf "_law_same" "_law_same" (C8.fnArgs st__law_same) (C8.fnBody st__law_same) (C8.fnScope st__law_same) .none kV_law_same dc_law_same pm_law_same an_law_same cd_law_same ct_law_same), sl_law_same⟩)
    (c_law_same : PySem.W.codeIn K cd_law_same "_law_same" = true)
    (k_law_same : PySem.W.keepIn K (.ref f_law_same) = true)
    (a_law_fresh : PySem.W.nsIn K mainGlobals "_law_fresh" = some (some (.ref f_law_fresh)))
    (l_law_fresh : K.lookup f_law_fresh = some ⟨oc_law_fresh, od_law_fresh, .func (PySem.W.fnOf "_law_fresh" "_law_fresh" (C8.fnArgs st__law_fresh) (C8.fnBody st__law_fresh) (C8.fnScope st__law_fresh) .none kV_law_fresh dc_law_fresh pm_law_fresh an_law_fresh cd_law_fresh ct_law_fresh), sl_law_fresh⟩)
    (c_law_fresh : PySem.W.codeIn K cd_law_fresh "_law_fresh" = true)
    (k_law_fresh : PySem.W.keepIn K (.ref f_law_fresh) = true)
    (a_law_pool : PySem.W.nsIn K mainGlobals "_law_pool" = some (some (.ref f_law_pool)))
    (l_law_pool : K.lookup f_law_pool = some ⟨oc_law_pool, od_law_pool, .func (PySem.W.fnOf "_law_pool" "_law_pool" (C8.fnArgs st__law_pool) (C8.fnBody st__law_pool) (C8.fnScope st__law_pool) .none kV_law_pool dc_law_pool pm_law_pool an_law_pool cd_law_pool ct_law_pool), sl_law_pool⟩)
    (c_law_pool : PySem.W.codeIn K cd_law_pool "_law_pool" = true)
    (k_law_pool : PySem.W.keepIn K (.ref f_law_pool) = true)
    (a_law_path : PySem.W.nsIn K mainGlobals "_law_path" = some (some (.ref f_law_path)))
    (l_law_path : K.lookup f_law_path = some ⟨oc_law_path, od_law_path, .func (PySem.W.fnOf "_law_path" "_law_path" (C8.fnArgs st__law_path) (C8.fnBody st__law_path) (C8.fnScope st__law_path) .none kV_law_path dc_law_path pm_law_path an_law_path cd_law_path ct_law_path), sl_law_path⟩)
    (c_law_path : PySem.W.codeIn K cd_law_path "_law_path" = true)
    (k_law_path : PySem.W.keepIn K (.ref f_law_path) = true)
    (a_law_pattern : PySem.W.nsIn K mainGlobals "_law_pattern" = some (some (.ref f_law_pattern)))
    (l_law_pattern : K.lookup f_law_pattern = some ⟨oc_law_pattern, od_law_pattern, .func (PySem.W.fnOf "_law_pattern" "_law_pattern" (C8.fnArgs st__law_pattern) (C8.fnBody st__law_pattern) (C8.fnScope st__law_pattern) .none kV_law_pattern dc_law_pattern pm_law_pattern an_law_pattern cd_law_pattern ct_law_pattern), sl_law_pattern⟩)
    (c_law_pattern : PySem.W.codeIn K cd_law_pattern "_law_pattern" = true)
    (k_law_pattern : PySem.W.keepIn K (.ref f_law_pattern) = true)
    (a_law_stood_for : PySem.W.nsIn K mainGlobals "_law_stood_for" = some (some (.ref f_law_stood_for)))
    (l_law_stood_for : K.lookup f_law_stood_for = some ⟨oc_law_stood_for, od_law_stood_for, .func (PySem.W.fnOf "_law_stood_for" "_law_stood_for" (C8.fnArgs st__law_stood_for) (C8.fnBody st__law_stood_for) (C8.fnScope st__law_stood_for) .none kV_law_stood_for dc_law_stood_for pm_law_stood_for an_law_stood_for cd_law_stood_for ct_law_stood_for), sl_law_stood_for⟩)
    (c_law_stood_for : PySem.W.codeIn K cd_law_stood_for "_law_stood_for" = true)
    (k_law_stood_for : PySem.W.keepIn K (.ref f_law_stood_for) = true)
    (a_law_matches : PySem.W.nsIn K mainGlobals "_law_matches" = some (some (.ref f_law_matches)))
    (l_law_matches : K.lookup f_law_matches = some ⟨oc_law_matches, od_law_matches, .func (PySem.W.fnOf "_law_matches" "_law_matches" (C8.fnArgs st__law_matches) (C8.fnBody st__law_matches) (C8.fnScope st__law_matches) .none kV_law_matches dc_law_matches pm_law_matches an_law_matches cd_law_matches ct_law_matches), sl_law_matches⟩)
    (c_law_matches : PySem.W.codeIn K cd_law_matches "_law_matches" = true)
    (k_law_matches : PySem.W.keepIn K (.ref f_law_matches) = true)
    (a_law_tried : PySem.W.nsIn K mainGlobals "_law_tried" = some (some (.ref f_law_tried)))
    (l_law_tried : K.lookup f_law_tried = some ⟨oc_law_tried, od_law_tried, .func (PySem.W.fnOf "_law_tried" "_law_tried" (C8.fnArgs st__law_tried) (C8.fnBody st__law_tried) (C8.fnScope st__law_tried) .none kV_law_tried dc_law_tried pm_law_tried an_law_tried cd_law_tried ct_law_tried), sl_law_tried⟩)
    (c_law_tried : PySem.W.codeIn K cd_law_tried "_law_tried" = true)
    (k_law_tried : PySem.W.keepIn K (.ref f_law_tried) = true)
    (alaw : PySem.W.nsIn K mainGlobals "law" = some (some (.ref flaw)))
    (llaw : K.lookup flaw = some ⟨oclaw, odlaw, .func (PySem.W.fnOf "law" "law" (C8.fnArgs st_law) (C8.fnBody st_law) (C8.fnScope st_law) .none kVlaw dclaw pmlaw anlaw (.ref cc_law) ctlaw), sllaw⟩)
    (claw : PySem.W.codeIn K (.ref cc_law) "law" = true)
    (klaw : PySem.W.keepIn K (.ref flaw) = true)
    (misinstance : PySem.W.nsIn K mainGlobals "isinstance" = some none)
    (mstr : PySem.W.nsIn K mainGlobals "str" = some none)
    (mlen : PySem.W.nsIn K mainGlobals "len" = some none)
    (mall : PySem.W.nsIn K mainGlobals "all" = some none)
    (mlist : PySem.W.nsIn K mainGlobals "list" = some none)
    (mtuple : PySem.W.nsIn K mainGlobals "tuple" = some none)
    (msorted : PySem.W.nsIn K mainGlobals "sorted" = some none)
    (menumerate : PySem.W.nsIn K mainGlobals "enumerate" = some none)
    (mrange : PySem.W.nsIn K mainGlobals "range" = some none)
    (mint : PySem.W.nsIn K mainGlobals "int" = some none)
    (mset : PySem.W.nsIn K mainGlobals "set" = some none)
    (mrepr : PySem.W.nsIn K mainGlobals "repr" = some none)
    (msuper : PySem.W.nsIn K mainGlobals "super" = some none)
    (gLETTERS : PySem.W.nsIn K mainGlobals "LETTERS" = some (some uLETTERS))
    (rLETTERS : RelV (.str "abcdefghijklmnopqrstuvwxyz") uLETTERS)
    (gLONGEST : PySem.W.nsIn K mainGlobals "LONGEST" = some (some uLONGEST))
    (rLONGEST : RelV (.int 8) uLONGEST)
    (opq : PySem.W.nsIn K cStatics "thirdparty.any" = some none)
    (aCBadPath : PySem.W.nsIn K mainGlobals "BadPath" = some (some (.ref CBadPath)))
    (xLBadPath : K.lookup CBadPath = some (excClassObj nmBadPath qBadPath CBadPath NBadPath bsBadPath [.ref CBBadPath, .type "ValueError", .type "Exception", .type "BaseException", .type "object"] true snBadPath subBadPath abBadPath colBadPath ddBadPath k0BadPath k1BadPath k2BadPath k3BadPath k5BadPath "ValueError.__new__"))
    (saBadPath : PySem.W.findIn K (.ref CBadPath) "__setattr__" = some (some (.builtin "object.__setattr__")))
    (gaBadPath : PySem.W.findIn K (.ref CBadPath) "__getattribute__" = some (some (.builtin "BaseException.__getattribute__")))
    (ggBadPath : PySem.W.findIn K (.ref CBadPath) "__getattr__" = some none)
    (nbBadPath : PySem.W.findIn K (.ref CBadPath) "path" = some none)
    (aiBadPath : PySem.W.findIn K (.ref CBadPath) "__init__" = some (some (.ref fIBadPath)))
    (tiBadPath : PySem.W.typeIn K (.ref fIBadPath) = some (.type "function"))
    (liBadPath : K.lookup fIBadPath = some ⟨oiBadPath, odiBadPath, .func (PySem.W.ksFn "__init__" "BadPath.__init__" (C8.fnArgs st_BadPath) (C8.fnBody st_BadPath) (C8.fnScope st_BadPath) .none kViBadPath dciBadPath pmiBadPath aniBadPath (.ref cdaBadPath) ctiBadPath cclBadPath), sliBadPath⟩)
    (ciBadPath : PySem.W.codeIn K (.ref cdaBadPath) "BadPath.__init__" = true)
    (lcBadPath : K.lookup cdaBadPath = some ⟨cc1BadPath, cc2BadPath, .fields cvsBadPath, cc4BadPath⟩)
    (vfBadPath : (cvsBadPath)[2]? = some (.str fileBadPath tfBadPath))
    (ffBadPath : ((P.main.file : Str) == fileBadPath) = true)
    (lxBadPath : K.lookup cclBadPath = some ⟨cl1BadPath, cl2BadPath, .cell (some (.ref CBadPath)), cl4BadPath⟩)
    (suBadPath : PySem.W.ks_superIn K CBadPath CBadPath "__init__" = some (some (.builtin "ValueError.__init__")))
    (svBadPath : PySem.W.subIn K (.ref CBadPath) (.type "ValueError") = some true)
    (mrBadPath : PySem.W.mroIn K CBadPath (.ref CBadPath) = some true)
    (kCBadPath : PySem.W.keepIn K (.ref CBadPath) = true)
    (eCBadPath : PySem.W.subIn K (.ref CBadPath) (.type "BaseException") = some true)
    (tCBadPath : PySem.W.typeIn K (.ref CBadPath) = some (.type "type"))
    (hCBadPath : PySem.W.hasDictIn K CBadPath = true)
    (sCBadPath : PySem.W.subIn K (.ref CBadPath) (.ref CBadPath) = some true)
    (aCBadPattern : PySem.W.nsIn K mainGlobals "BadPattern" = some (some (.ref CBadPattern)))
    (xLBadPattern : K.lookup CBadPattern = some (excClassObj nmBadPattern qBadPattern CBadPattern NBadPattern bsBadPattern [.ref CBBadPattern, .type "ValueError", .type "Exception", .type "BaseException", .type "object"] true snBadPattern subBadPattern abBadPattern colBadPattern ddBadPattern k0BadPattern k1BadPattern k2BadPattern k3BadPattern k5BadPattern "ValueError.__new__"))
    (saBadPattern : PySem.W.findIn K (.ref CBadPattern) "__setattr__" = some (some (.builtin "object.__setattr__")))
    (gaBadPattern : PySem.W.findIn K (.ref CBadPattern) "__getattribute__" = some (some (.builtin "BaseException.__getattribute__")))
    (ggBadPattern : PySem.W.findIn K (.ref CBadPattern) "__getattr__" = some none)
    (nbBadPattern : PySem.W.findIn K (.ref CBadPattern) "thing" = some none)
    (aiBadPattern : PySem.W.findIn K (.ref CBadPattern) "__init__" = some (some (.ref fIBadPattern)))
    (tiBadPattern : PySem.W.typeIn K (.ref fIBadPattern) = some (.type "function"))
    (liBadPattern : K.lookup fIBadPattern = some ⟨oiBadPattern, odiBadPattern, .func (PySem.W.ksFn "__init__" "BadPattern.__init__" (C8.fnArgs st_BadPattern) (C8.fnBody st_BadPattern) (C8.fnScope st_BadPattern) .none kViBadPattern dciBadPattern pmiBadPattern aniBadPattern (.ref cdaBadPattern) ctiBadPattern cclBadPattern), sliBadPattern⟩)
    (ciBadPattern : PySem.W.codeIn K (.ref cdaBadPattern) "BadPattern.__init__" = true)
    (lcBadPattern : K.lookup cdaBadPattern = some ⟨cc1BadPattern, cc2BadPattern, .fields cvsBadPattern, cc4BadPattern⟩)
    (vfBadPattern : (cvsBadPattern)[2]? = some (.str fileBadPattern tfBadPattern))
    (ffBadPattern : ((P.main.file : Str) == fileBadPattern) = true)
    (lxBadPattern : K.lookup cclBadPattern = some ⟨cl1BadPattern, cl2BadPattern, .cell (some (.ref CBadPattern)), cl4BadPattern⟩)
    (suBadPattern : PySem.W.ks_superIn K CBadPattern CBadPattern "__init__" = some (some (.builtin "ValueError.__init__")))
    (svBadPattern : PySem.W.subIn K (.ref CBadPattern) (.type "ValueError") = some true)
    (mrBadPattern : PySem.W.mroIn K CBadPattern (.ref CBadPattern) = some true)
    (kCBadPattern : PySem.W.keepIn K (.ref CBadPattern) = true)
    (eCBadPattern : PySem.W.subIn K (.ref CBadPattern) (.type "BaseException") = some true)
    (tCBadPattern : PySem.W.typeIn K (.ref CBadPattern) = some (.type "type"))
    (hCBadPattern : PySem.W.hasDictIn K CBadPattern = true)
    (sCBadPattern : PySem.W.subIn K (.ref CBadPattern) (.ref CBadPattern) = some true)
    (ntop : (P.main.scope.names.lookup ("super" : Str)).isSome = false)
    (ap_BadPath_BadPattern : PySem.W.subIn K (.ref CBadPath) (.ref CBadPattern) = some false)
    (lL : K.lookup cc_law = some ⟨lc1, lc2, .fields lvs, lc4⟩)
    (vP : lvs[11]? = some (.ref Pt))
    (hP : PySem.W.codeHdIn K cc_law Pt = true)
    (nP : K.lookup Pt = none) :
    TA.LawG l w K 12 63 "_law_script" mg fa h := by
  subst hl
  have e := hfa.symm.trans (PySem.W.mg_of X G alaw)
  cases e
  have TBadPath : OexC K CBadPath := ⟨⟨_, _, _, _, _, _, _, _, _, _, _, _, _, _, _, xLBadPath, (show PySem.HandSPX.refsVE [.type "ValueError", .type "Exception", .type "BaseException", .type "object"] = true by decide +kernel)⟩, saBadPath, eCBadPath, tCBadPath, kCBadPath⟩
  have IBadPath : TA.IniF l.prog K CBadPath fIBadPath (PySem.W.ksFn "__init__" "BadPath.__init__" (C8.fnArgs st_BadPath) (C8.fnBody st_BadPath) (C8.fnScope st_BadPath) .none kViBadPath dciBadPath pmiBadPath aniBadPath (.ref cdaBadPath) ctiBadPath cclBadPath) ["self", "path"] s0_BadPath [s1_BadPath] "BadPath.__init__" (C8.fnScope st_BadPath) cdaBadPath cclBadPath :=
    { lk := ⟨_, _, _, _, _, _, _, _, _, _, _, _, _, rfl, liBadPath, rfl, rfl⟩, code := ⟨_, _, _, _, _, _, lcBadPath, vfBadPath, ffBadPath⟩, cd := ciBadPath, cell := ⟨_, _, _, lxBadPath⟩, opq := opq, sup := suBadPath, sub := svBadPath, mro := mrBadPath, kind := rfl, co := rfl, gen := rfl, nd := by decide +kernel, par := by decide +kernel, ks := rfl, kc := rfl, cells := by decide +kernel, fre := by decide +kernel, top := ntop }
  have TBadPattern : OexC K CBadPattern := ⟨⟨_, _, _, _, _, _, _, _, _, _, _, _, _, _, _, xLBadPattern, (show PySem.HandSPX.refsVE [.type "ValueError", .type "Exception", .type "BaseException", .type "object"] = true by decide +kernel)⟩, saBadPattern, eCBadPattern, tCBadPattern, kCBadPattern⟩
  have IBadPattern : TA.IniF l.prog K CBadPattern fIBadPattern (PySem.W.ksFn "__init__" "BadPattern.__init__" (C8.fnArgs st_BadPattern) (C8.fnBody st_BadPattern) (C8.fnScope st_BadPattern) .none kViBadPattern dciBadPattern pmiBadPattern aniBadPattern (.ref cdaBadPattern) ctiBadPattern cclBadPattern) ["self", "thing"] s0_BadPattern [s1_BadPattern] "BadPattern.__init__" (C8.fnScope st_BadPattern) cdaBadPattern cclBadPattern :=
    { lk := ⟨_, _, _, _, _, _, _, _, _, _, _, _, _, rfl, liBadPattern, rfl, rfl⟩, code := ⟨_, _, _, _, _, _, lcBadPattern, vfBadPattern, ffBadPattern⟩, cd := ciBadPattern, cell := ⟨_, _, _, lxBadPattern⟩, opq := opq, sup := suBadPattern, sub := svBadPattern, mro := mrBadPattern, kind := rfl, co := rfl, gen := rfl, nd := by decide +kernel, par := by decide +kernel, ks := rfl, kc := rfl, cells := by decide +kernel, fre := by decide +kernel, top := ntop }
  have T : Txt mg := ⟨PySem.W.mg_none_of X G misinstance, PySem.W.mg_none_of X G mstr, PySem.W.mg_none_of X G mlen, PySem.W.mg_none_of X G mall, PySem.W.mg_none_of X G mlist, PySem.W.mg_none_of X G mtuple, PySem.W.mg_none_of X G msorted, PySem.W.mg_none_of X G menumerate, PySem.W.mg_none_of X G mrange, PySem.W.mg_none_of X G mint, PySem.W.mg_none_of X G mset, PySem.W.mg_none_of X G mrepr, ⟨_, PySem.W.mg_of X G gLETTERS, rLETTERS⟩, ⟨_, PySem.W.mg_of X G gLONGEST, rLONGEST⟩⟩
  have Fis_name : C8.Def K mg "is_name" st_is_name fis_name _ := ⟨⟨_, _, _, _, _, _, _, _, _, _, rfl, lis_name, cis_name⟩, PySem.W.mg_of X G ais_name, kis_name⟩
  have bis_name : L2.Binds K _ ["thing"] [] := Fis_name.fn.binds rfl fun _ _ _ _ _ _ us hl => match us, hl with | [_], _ => rfl
  have Fis_path : C8.Def K mg "is_path" st_is_path fis_path _ := ⟨⟨_, _, _, _, _, _, _, _, _, _, rfl, lis_path, cis_path⟩, PySem.W.mg_of X G ais_path, kis_path⟩
  have bis_path : L2.Binds K _ ["thing"] [] := Fis_path.fn.binds rfl fun _ _ _ _ _ _ us hl => match us, hl with | [_], _ => rfl
  have Fis_pattern : C8.Def K mg "is_pattern" st_is_pattern fis_pattern _ := ⟨⟨_, _, _, _, _, _, _, _, _, _, rfl, lis_pattern, cis_pattern⟩, PySem.W.mg_of X G ais_pattern, kis_pattern⟩
  have bis_pattern : L2.Binds K _ ["thing"] [] := Fis_pattern.fn.binds rfl fun _ _ _ _ _ _ us hl => match us, hl with | [_], _ => rfl
  have Fopened : C8.Def K mg "opened" st_opened fopened _ := ⟨⟨_, _, _, _, _, _, _, _, _, _, rfl, lopened, copened⟩, PySem.W.mg_of X G aopened, kopened⟩
  have bopened : L2.Binds K _ ["parts", "spots"] [] := Fopened.fn.binds rfl fun _ _ _ _ _ _ us hl => match us, hl with | [_, _], _ => rfl
  have Fmoved : C8.Def K mg "moved" st_moved fmoved _ := ⟨⟨_, _, _, _, _, _, _, _, _, _, rfl, lmoved, cmoved⟩, PySem.W.mg_of X G amoved, kmoved⟩
  have bmoved : L2.Binds K _ ["parts", "spots", "name"] [] := Fmoved.fn.binds rfl fun _ _ _ _ _ _ us hl => match us, hl with | [_, _, _], _ => rfl
  have Fled : C8.Def K mg "led" st_led fled _ := ⟨⟨_, _, _, _, _, _, _, _, _, _, rfl, lled, cled⟩, PySem.W.mg_of X G aled, kled⟩
  have bled : L2.Binds K _ ["parts", "names"] [] := Fled.fn.binds rfl fun _ _ _ _ _ _ us hl => match us, hl with | [_, _], _ => rfl
  have Fmatched : C8.Def K mg "matched" st_matched fmatched _ := ⟨⟨_, _, _, _, _, _, _, _, _, _, rfl, lmatched, cmatched⟩, PySem.W.mg_of X G amatched, kmatched⟩
  have bmatched : L2.Binds K _ ["pattern", "path"] [] := Fmatched.fn.binds rfl fun _ _ _ _ _ _ us hl => match us, hl with | [_, _], _ => rfl
  have Fmatches : C8.Def K mg "matches" st_matches fmatches _ := ⟨⟨_, _, _, _, _, _, _, _, _, _, rfl, lmatches, cmatches⟩, PySem.W.mg_of X G amatches, kmatches⟩
  have bmatches : L2.Binds K _ ["pattern", "path"] [] := Fmatches.fn.binds rfl fun _ _ _ _ _ _ us hl => match us, hl with | [_, _], _ => rfl
  have F_law_draw : C8.Def K mg "_law_draw" st__law_draw f_law_draw _ := ⟨⟨_, _, _, _, _, _, _, _, _, _, rfl, l_law_draw, c_law_draw⟩, PySem.W.mg_of X G a_law_draw, k_law_draw⟩
  have b_law_draw : L2.Binds K _ ["_law_stream", "_law_many"] [] := F_law_draw.fn.binds rfl fun _ _ _ _ _ _ us hl => match us, hl with | [_, _], _ => rfl
  have F_law_pick : C8.Def K mg "_law_pick" st__law_pick f_law_pick _ := ⟨⟨_, _, _, _, _, _, _, _, _, _, rfl, l_law_pick, c_law_pick⟩, PySem.W.mg_of X G a_law_pick, k_law_pick⟩
  have b_law_pick : L2.Binds K _ ["_law_stream", "_law_things"] [] := F_law_pick.fn.binds rfl fun _ _ _ _ _ _ us hl => match us, hl with | [_, _], _ => rfl
  have F_law_same : C8.Def K mg "_law_same" st__law_same f_law_same _ := ⟨⟨_, _, _, _, _, _, _, _, _, _, rfl, l_law_same, c_law_same⟩, PySem.W.mg_of X G a_law_same, k_law_same⟩
  have b_law_same : L2.Binds K _ ["_law_found", "_law_due"] [] := F_law_same.fn.binds rfl fun _ _ _ _ _ _ us hl => match us, hl with | [_, _], _ => rfl
  have F_law_fresh : C8.Def K mg "_law_fresh" st__law_fresh f_law_fresh _ := ⟨⟨_, _, _, _, _, _, _, _, _, _, rfl, l_law_fresh, c_law_fresh⟩, PySem.W.mg_of X G a_law_fresh, k_law_fresh⟩
  have b_law_fresh : L2.Binds K _ ["_law_stream", "_law_taken"] [] := F_law_fresh.fn.binds rfl fun _ _ _ _ _ _ us hl => match us, hl with | [_, _], _ => rfl
  have F_law_pool : C8.Def K mg "_law_pool" st__law_pool f_law_pool _ := ⟨⟨_, _, _, _, _, _, _, _, _, _, rfl, l_law_pool, c_law_pool⟩, PySem.W.mg_of X G a_law_pool, k_law_pool⟩
  have b_law_pool : L2.Binds K _ ["_law_stream", "_law_many"] [] := F_law_pool.fn.binds rfl fun _ _ _ _ _ _ us hl => match us, hl with | [_, _], _ => rfl
  have F_law_path : C8.Def K mg "_law_path" st__law_path f_law_path _ := ⟨⟨_, _, _, _, _, _, _, _, _, _, rfl, l_law_path, c_law_path⟩, PySem.W.mg_of X G a_law_path, k_law_path⟩
  have b_law_path : L2.Binds K _ ["_law_stream", "_law_pool_here", "_law_most"] [] := F_law_path.fn.binds rfl fun _ _ _ _ _ _ us hl => match us, hl with | [_, _, _], _ => rfl
  have F_law_pattern : C8.Def K mg "_law_pattern" st__law_pattern f_law_pattern _ := ⟨⟨_, _, _, _, _, _, _, _, _, _, rfl, l_law_pattern, c_law_pattern⟩, PySem.W.mg_of X G a_law_pattern, k_law_pattern⟩
  have b_law_pattern : L2.Binds K _ ["_law_stream", "_law_pool_here", "_law_most"] [] := F_law_pattern.fn.binds rfl fun _ _ _ _ _ _ us hl => match us, hl with | [_, _, _], _ => rfl
  have F_law_stood_for : C8.Def K mg "_law_stood_for" st__law_stood_for f_law_stood_for _ := ⟨⟨_, _, _, _, _, _, _, _, _, _, rfl, l_law_stood_for, c_law_stood_for⟩, PySem.W.mg_of X G a_law_stood_for, k_law_stood_for⟩
  have b_law_stood_for : L2.Binds K _ ["_law_stream", "_law_pool_here", "_law_pattern_here"] [] := F_law_stood_for.fn.binds rfl fun _ _ _ _ _ _ us hl => match us, hl with | [_, _, _], _ => rfl
  have F_law_matches : C8.Def K mg "_law_matches" st__law_matches f_law_matches _ := ⟨⟨_, _, _, _, _, _, _, _, _, _, rfl, l_law_matches, c_law_matches⟩, PySem.W.mg_of X G a_law_matches, k_law_matches⟩
  have b_law_matches : L2.Binds K _ ["_law_pattern_here", "_law_path_here"] [] := F_law_matches.fn.binds rfl fun _ _ _ _ _ _ us hl => match us, hl with | [_, _], _ => rfl
  have F_law_tried : C8.Def K mg "_law_tried" st__law_tried f_law_tried _ := ⟨⟨_, _, _, _, _, _, _, _, _, _, rfl, l_law_tried, c_law_tried⟩, PySem.W.mg_of X G a_law_tried, k_law_tried⟩
  have b_law_tried : L2.Binds K _ ["_law_ask"] [] := F_law_tried.fn.binds rfl fun _ _ _ _ _ _ us hl => match us, hl with | [_], _ => rfl
  refine ⟨PySem.W.fnOf "law" "law" (C8.fnArgs st_law) (C8.fnBody st_law) (C8.fnScope st_law) .none kVlaw dclaw pmlaw anlaw (.ref cc_law) ctlaw, [(cc_law, Pt)], spLaw K Pt, fun p hp => ?_, fun p hp => ?_, fun p hp => ?_, fun s u => ?_, fun H a ns hl ht hs => ?_, fun base k1 k2 k3 => ?_⟩
  · rw [List.mem_singleton.mp hp]
    exact own cc_law Pt _ _ _ _ _ _ llaw rfl rfl lL vP
  · rw [List.mem_singleton.mp hp]
    exact nP
  · rw [List.mem_singleton.mp hp]
    exact PySem.W.codeHd_of_K X hP
  · exact .of_eq rfl
  · exact ⟨a, ns, rfl, hl, ht (cc_law, Pt) (List.mem_cons_self ..), hs, fun _ => rfl⟩
  have ms : mg "super" = none := PySem.W.mg_none_of X G msuper
  have RP : TA.Err1 l.prog w K mg base "BadPattern" CBadPattern "thing" :=
    { T := TBadPattern, ini := ⟨fIBadPattern, _, _, aiBadPattern, tiBadPattern, TA.fn_err1 IBadPattern TBadPattern ms nbBadPattern (by decide) (by decide) (by decide) (by decide) (fun L => ⟨_, rfl⟩), .all fun us hl => match us, hl with | [_, _], _ => rfl⟩, gC := PySem.W.mg_of X G aCBadPattern, xf := ⟨gaBadPattern, ggBadPattern, eCBadPattern, hCBadPattern⟩, fno := nbBadPattern }
  have RA : TA.Err1 l.prog w K mg base "BadPath" CBadPath "path" :=
    { T := TBadPath, ini := ⟨fIBadPath, _, _, aiBadPath, tiBadPath, TA.fn_err1 IBadPath TBadPath ms nbBadPath (by decide) (by decide) (by decide) (by decide) (fun L => ⟨_, rfl⟩), .all fun us hl => match us, hl with | [_, _], _ => rfl⟩, gC := PySem.W.mg_of X G aCBadPath, xf := ⟨gaBadPath, ggBadPath, eCBadPath, hCBadPath⟩, fno := nbBadPath }
  have T2 : Two K CBadPattern CBadPath := ⟨PySem.W.exm_ref eCBadPattern hCBadPattern tCBadPattern sCBadPattern, PySem.W.exm_ref eCBadPath hCBadPath tCBadPath sCBadPath, PySem.W.exm_ref eCBadPattern hCBadPattern tCBadPattern ap_BadPath_BadPattern⟩
  have g1 := c_is_name (P := l.prog) (w := w) (base := base) T Fis_name bis_name
  have g2 := c_is_path T g1 Fis_path bis_path
  have g3 := c_is_pattern T g1 Fis_pattern bis_pattern
  have g4 := c_opened (P := l.prog) (w := w) (base := base) T Fopened bopened
  have g5 := c_moved T g4 Fmoved bmoved
  have g6 := c_led T g4 g5 Fled bled
  have g7 := c_matched T g6 Fmatched bmatched
  have g8 := c_matches T g3 g2 g7 RP RA Fmatches bmatches
  have d1 := c__law_draw (P := l.prog) (w := w) (base := base) T F_law_draw b_law_draw
  have d2 := c__law_pick T d1 F_law_pick b_law_pick
  have d3 := c__law_same (P := l.prog) (w := w) (base := base) T F_law_same b_law_same
  have d4 := c__law_fresh T d1 d2 F_law_fresh b_law_fresh
  have d5 := c__law_pool T d4 F_law_pool b_law_pool
  have d6 := c__law_path T d1 d2 F_law_path b_law_path
  have d7 := c__law_pattern T d1 d2 F_law_pattern b_law_pattern
  have d8 := c__law_stood_for T d1 d2 F_law_stood_for b_law_stood_for
  have d9 := c__law_matches (P := l.prog) (w := w) (base := base) T F_law_matches b_law_matches
  exact law_ok T g8 d1 d2 d3 d5 d6 d7 d8 d9 RP RA T2 F_law_tried b_law_tried (k3 (cc_law, Pt) (List.mem_cons_self ..)) ⟨_, _, _, _, _, _, _, _, _, rfl, llaw⟩ claw
end K47
open PySem PySem.W PyProof.Rows
set_option maxRecDepth 100000 in
set_option maxHeartbeats 0 in
theorem PySem.Challenge.cw_trueagain_k47_patterns_matched_holds : PySem.Challenge.rw_trueagain_k47_patterns_matched.Holds := by
  w_on; o_law; k_head; (case hw => w_witness2)
  k_fill
  refine TA.walk_G (l := PySem.Challenge.rw_trueagain_k47_patterns_matched) (n := 63) (k := 12) (x := "_law_script") rfl (by decide) (by kernel_rfl) ⟨rfl, by decide, by decide⟩ (by kernel_rfl) (fun w h Y => PySem.W.km_in_of Y) ?F
  intro w mg fa h Y KX G hmg own
  refine' K47.all_mk (P := PySem.Challenge.pw_trueagain_k47_patterns_matched) rfl KX G hmg own ?ais_name ?lis_name ?cis_name ?kis_name ?ais_path ?lis_path ?cis_path ?kis_path ?ais_pattern ?lis_pattern ?cis_pattern ?kis_pattern ?aopened ?lopened ?copened ?kopened ?amoved ?lmoved ?cmoved ?kmoved ?aled ?lled ?cled ?kled ?amatched ?lmatched ?cmatched ?kmatched ?amatches ?lmatches ?cmatches ?kmatches ?a_law_draw ?l_law_draw ?c_law_draw ?k_law_draw ?a_law_pick ?l_law_pick ?c_law_pick ?k_law_pick ?a_law_same ?l_law_same ?c_law_same ?k_law_same ?a_law_fresh ?l_law_fresh ?c_law_fresh ?k_law_fresh ?a_law_pool ?l_law_pool ?c_law_pool ?k_law_pool ?a_law_path ?l_law_path ?c_law_path ?k_law_path ?a_law_pattern ?l_law_pattern ?c_law_pattern ?k_law_pattern ?a_law_stood_for ?l_law_stood_for ?c_law_stood_for ?k_law_stood_for ?a_law_matches ?l_law_matches ?c_law_matches ?k_law_matches ?a_law_tried ?l_law_tried ?c_law_tried ?k_law_tried ?alaw ?llaw ?claw ?klaw ?misinstance ?mstr ?mlen ?mall ?mlist ?mtuple ?msorted ?menumerate ?mrange ?mint ?mset ?mrepr ?msuper ?gLETTERS ?rLETTERS ?gLONGEST ?rLONGEST ?opq ?aCBadPath ?xLBadPath ?saBadPath ?gaBadPath ?ggBadPath ?nbBadPath ?aiBadPath ?tiBadPath ?liBadPath ?ciBadPath ?lcBadPath ?vfBadPath ?ffBadPath ?lxBadPath ?suBadPath ?svBadPath ?mrBadPath ?kCBadPath ?eCBadPath ?tCBadPath ?hCBadPath ?sCBadPath ?aCBadPattern ?xLBadPattern ?saBadPattern ?gaBadPattern ?ggBadPattern ?nbBadPattern ?aiBadPattern ?tiBadPattern ?liBadPattern ?ciBadPattern ?lcBadPattern ?vfBadPattern ?ffBadPattern ?lxBadPattern ?suBadPattern ?svBadPattern ?mrBadPattern ?kCBadPattern ?eCBadPattern ?tCBadPattern ?hCBadPattern ?sCBadPattern ?ntop ?ap_BadPath_BadPattern ?lL ?vP ?hP ?nP
  (case ais_name => k_is)
  (case lis_name => k_is)
  (case cis_name => k_is)
  (case kis_name => k_is)
  (case ais_path => k_is)
  (case lis_path => k_is)
  (case cis_path => k_is)
  (case kis_path => k_is)
  (case ais_pattern => k_is)
  (case lis_pattern => k_is)
  (case cis_pattern => k_is)
  (case kis_pattern => k_is)
  (case aopened => k_is)
  (case lopened => k_is)
  (case copened => k_is)
  (case kopened => k_is)
  (case amoved => k_is)
  (case lmoved => k_is)
  (case cmoved => k_is)
  (case kmoved => k_is)
  (case aled => k_is)
  (case lled => k_is)
  (case cled => k_is)
  (case kled => k_is)
  (case amatched => k_is)
  (case lmatched => k_is)
  (case cmatched => k_is)
  (case kmatched => k_is)
  (case amatches => k_is)
  (case lmatches => k_is)
  (case cmatches => k_is)
  (case kmatches => k_is)
  (case a_law_draw => k_is)
  (case l_law_draw => k_is)
  (case c_law_draw => k_is)
  (case k_law_draw => k_is)
  (case a_law_pick => k_is)
  (case l_law_pick => k_is)
  (case c_law_pick => k_is)
  (case k_law_pick => k_is)
  (case a_law_same => k_is)
  (case l_law_same => k_is)
  (case c_law_same => k_is)
  (case k_law_same => k_is)
  (case a_law_fresh => k_is)
  (case l_law_fresh => k_is)
  (case c_law_fresh => k_is)
  (case k_law_fresh => k_is)
  (case a_law_pool => k_is)
  (case l_law_pool => k_is)
  (case c_law_pool => k_is)
  (case k_law_pool => k_is)
  (case a_law_path => k_is)
  (case l_law_path => k_is)
  (case c_law_path => k_is)
  (case k_law_path => k_is)
  (case a_law_pattern => k_is)
  (case l_law_pattern => k_is)
  (case c_law_pattern => k_is)
  (case k_law_pattern => k_is)
  (case a_law_stood_for => k_is)
  (case l_law_stood_for => k_is)
  (case c_law_stood_for => k_is)
  (case k_law_stood_for => k_is)
  (case a_law_matches => k_is)
  (case l_law_matches => k_is)
  (case c_law_matches => k_is)
  (case k_law_matches => k_is)
  (case a_law_tried => k_is)
  (case l_law_tried => k_is)
  (case c_law_tried => k_is)
  (case k_law_tried => k_is)
  (case alaw => k_is)
  (case llaw => k_is)
  (case claw => k_is)
  (case klaw => k_is)
  (case misinstance => k_is)
  (case mstr => k_is)
  (case mlen => k_is)
  (case mall => k_is)
  (case mlist => k_is)
  (case mtuple => k_is)
  (case msorted => k_is)
  (case menumerate => k_is)
  (case mrange => k_is)
  (case mint => k_is)
  (case mset => k_is)
  (case mrepr => k_is)
  (case msuper => k_is)
  (case gLETTERS => k_is)
  (case rLETTERS => exact ⟨_, rfl⟩)
  (case gLONGEST => k_is)
  (case rLONGEST => exact ⟨_, rfl⟩)
  (case opq => k_is)
  (case aCBadPath => k_is)
  (case xLBadPath => k_is)
  (case saBadPath => k_is)
  (case gaBadPath => k_is)
  (case ggBadPath => k_is)
  (case nbBadPath => k_is)
  (case aiBadPath => k_is)
  (case tiBadPath => k_is)
  (case liBadPath => k_is)
  (case ciBadPath => k_is)
  (case lcBadPath => k_is)
  (case vfBadPath => exact rfl)
  (case ffBadPath => decide +kernel)
  (case lxBadPath => k_is)
  (case suBadPath => first | rfl | kernel_rfl)
  (case svBadPath => k_is)
  (case mrBadPath => k_is)
  (case kCBadPath => k_is)
  (case eCBadPath => k_is)
  (case tCBadPath => k_is)
  (case hCBadPath => k_is)
  (case sCBadPath => first | rfl | k_is)
  (case aCBadPattern => k_is)
  (case xLBadPattern => k_is)
  (case saBadPattern => k_is)
  (case gaBadPattern => k_is)
  (case ggBadPattern => k_is)
  (case nbBadPattern => k_is)
  (case aiBadPattern => k_is)
  (case tiBadPattern => k_is)
  (case liBadPattern => k_is)
  (case ciBadPattern => k_is)
  (case lcBadPattern => k_is)
  (case vfBadPattern => exact rfl)
  (case ffBadPattern => decide +kernel)
  (case lxBadPattern => k_is)
  (case suBadPattern => first | rfl | kernel_rfl)
  (case svBadPattern => k_is)
  (case mrBadPattern => k_is)
  (case kCBadPattern => k_is)
  (case eCBadPattern => k_is)
  (case tCBadPattern => k_is)
  (case hCBadPattern => k_is)
  (case sCBadPattern => first | rfl | k_is)
  (case ntop => decide +kernel)
  (case ap_BadPath_BadPattern => k_is)
  (case lL => k_is)
  (case vP => exact rfl)
  (case hP => first | rfl | kernel_rfl | decide +kernel)
  (case nP => first | k_is | rfl | kernel_rfl)
