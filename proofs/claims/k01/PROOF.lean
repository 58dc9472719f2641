import PyProof.Rows.All
import Wide.All
import OpenK.AllK
import Wide.FinOn
import HandS.ForMost
import HandS.IsInst
import HandS.Walk
import HandS.TupAny
import HandS.TupMul
import HandS.Style
import HandS.Deep
import HandS.Flow
import HandS.RaiseMore
import PyProof.Conv_int_bool
import PyProof.ReprRoads
import HandS.More
import PySem.Challenge.RW_choosemeet_k01_things_and_offers
set_option Elab.async false
set_option linter.all false
set_option autoImplicit false
set_option maxRecDepth 100000
set_option maxHeartbeats 4000000
/-! Dn0: promises of defs that are run where no guard stands (as repr wants it). -/
namespace Dn
open PySem L2 PyProof.Rows
/-- a def keeps its promise wherever there is room and no guard stands -/
structure FnG (P : Program) (w : World) (K : PySem.W.Frag) (mg : Str → Option Value) (base : Heap) (CX : CXT) (k : Nat) (f : Addr) (fd : FuncData) (ps : List Str) (sp : Sp) : Prop where
  len : ∀ xs H Q E, sp xs H Q E → xs.length = ps.length
  run : ∀ (A : Around) (outer : List PySem.Env) (s : Shared) (H : Hp) (args : Args) (us : List Value) (xs : List V) (Q : VK) (E : XK), A.guards = some [] → Room k A → Env0 P w K mg base A outer s H → BindsTo s fd args (ps.zip us) → Vals xs us → sp xs H Q E →
    codeAny (model P w) A (.call (.ref f) args) (CR CX outer P w H s Q E) s
theorem FnG.mono {P : Program} {w : World} {K : PySem.W.Frag} {mg : Str → Option Value} {base : Heap} {CX : CXT} {j k : Nat} {f : Addr} {fd : FuncData} {ps : List Str} {sp : Sp} (G : FnG P w K mg base CX j f fd ps sp) (h : j ≤ k) : FnG P w K mg base CX k f fd ps sp :=
  ⟨G.len, fun A outer s H args us xs Q E hg hr => G.run A outer s H args us xs Q E hg (hr.mono h)⟩
section
variable {CX : CXT} {P : Program} {w : World} {K : PySem.W.Frag} {mg : Str → Option Value} {base : Heap} {k : Nat} {f : Addr}
theorem fnG_of {nm qual : Str} {pars : Arguments} {body : List Stmt} {sc : Scope} {dV kV doc pm cdv ct oc : Value} {an od : Option Addr} {osl : Array (Option Value)} {N ps : List Str} {sp : Sp}
    (lk : K.lookup f = some ⟨oc, od, .func (PySem.W.fnOf nm qual pars body sc dV kV doc pm an cdv ct), osl⟩) (hcd : PySem.W.codeIn K cdv qual = true) (Z : FnScope N ps sc) (len : ∀ xs H Q E, sp xs H Q E → xs.length = ps.length)
    (hbody : ∀ (A : Around) (outer : List PySem.Env) (s : Shared) (H : Hp) (xs : List V) (Q : VK) (E : XK), A.guards = some [] → Room k (A.deeper (envOfC qual sc s.heap.objs.size f cdv)) → sp xs H Q E →
      ∃ t, PSs (cxOf CX P w K mg base N qual sc f cdv A outer s H E) body t ∧ t { nx := fun _ H' => Q .non H', rt := Q } (L2.start N xs) H) :
    FnG P w K mg base CX (k + 1) f (PySem.W.fnOf nm qual pars body sc dV kV doc pm an cdv ct) ps sp := by
  refine ⟨len, ?_⟩
  intro A outer s H args us xs Q E hgd hroom env0 hbind hvals hprom
  have hlen := len _ _ _ _ hprom
  have same : ∀ b o, base.get? b = some o → s.heap.get? b = some o := fun b o q => (env0.bs b o q).1
  have KX : K.In s.heap := env0.mod.kin.keeps same
  have lim : s.heap.NoLimit := env0.mod.nolimit.keeps same
  refine codeAny_call_function hroom.depth (KX _ _ lk) rfl Z.co Z.gen rfl (PySem.W.codeRec_of KX hcd) (hbind _ _ _ _ ?_)
  refine wpAny_newFunctionEnv_cells Z.kind ?_ ?_
  · rintro ⟨n, v⟩ hy
    rcases Z.par n (List.of_mem_zip hy).1 with q | q
    · left; exact q
    · right; exact ⟨q, PySem.W.cellsFrom_some _ _ _ (.inl q)⟩
  · intro env henv s1 inCall
    subst henv
    refine ⟨lim.keeps inCall.toInCall.keep, codeAny_func ?_⟩
    obtain ⟨t, hPS, hrd⟩ := hbody A outer s H xs Q E hgd (hroom.deeper _) hprom
    have J0 := inv_start (CX := CX) (E := E) (N := N) Z hroom.hd env0 hlen hvals inCall
    refine wpAny_mono (hPS.run [] s1 (L2.start N xs) H _ J0 hrd) ?_ (fun _ _ q => q)
    intro fl s' hsp
    have close : ∀ {σ2 : L2.St} {H2 : Hp} {v : V} {u : Value}, Inv (cxOf CX P w K mg base N qual sc f cdv A outer s H E) [] σ2 H2 s' → RelV v u → Q v H2 → CE outer P w H s Q u s' :=
      fun {_ H2 v _} J rv q => ⟨v, H2, J.os, J.bare, J.base, J.hok, rv, q⟩
    cases fl with
    | ret u => obtain ⟨v, σ2, H2, J, rv, q⟩ := hsp; exact close J rv q
    | next => obtain ⟨σ2, H2, J, q⟩ := hsp; exact close (v := V.non) (u := Value.none) J rfl q
    | brk => obtain ⟨_, _, _, q⟩ := hsp; exact q.elim
    | cont => obtain ⟨_, _, _, q⟩ := hsp; exact q.elim
theorem Fun_okG {x qual : Str} {st : Stmt} {fd : FuncData} {N ps : List Str} {sp : Sp} (F : Fun K x qual st f fd) (Z : FnScope N ps (defScope st)) (len : ∀ xs H Q E, sp xs H Q E → xs.length = ps.length)
    (hb : ∀ (cdv : Value) (A : Around) (outer : List PySem.Env) (s : Shared) (H : Hp) (xs : List V) (Q : VK) (E : XK), A.guards = some [] → Room k (A.deeper (envOfC qual (defScope st) s.heap.objs.size f cdv)) → sp xs H Q E →
      ∃ t, PSs (cxOf CX0 P w K mg base N qual (defScope st) f cdv A outer s H E).nox (defBody st) t ∧ t { nx := fun _ H' => Q .non H', rt := Q } (L2.start N xs) H) : FnG P w K mg base CX0 (k + 1) f fd ps sp := by
  obtain ⟨oc, od, kV, doc, pm, an, cdv, ct, osl, rfl, lk, hcd⟩ := F.ex
  refine fnG_of lk hcd Z len ?_
  intro A outer s H xs Q E hg hr hp
  obtain ⟨t, h1, h2⟩ := hb cdv A outer s H xs Q E hg hr hp
  exact ⟨t, h1.nox, h2⟩
end
section
variable {X : Cx} {CX : CXT} {k : Nat} {f : Addr} {fd : FuncData} {ps : List Str} {sp : Sp} {dvs : List V} {ds : List Value} {E : XK} {x : Str} {p pos : Pos} {e : Expr} {es : List Expr} {t : TA}
theorem run_fnG {pins : List (Addr × Obj)} {σ : L2.St} {H : Hp} {s : Shared} {Q : VK} {us : List Value} {xs : List V} (G : FnG X.prog X.w X.K X.mg X.base CX k f fd ps sp) (hg : X.A.guards = some []) (hr : Room k X.A) (hb : Binds X.K fd ps ds) (hd : Vals dvs ds) (hx : Passes CX X E)
    (I : Inv X pins σ H s) (r : Vals xs us) (h : sp (xs ++ dvs) H Q E) : wpAny (model X.prog X.w) X.A (call (.ref f) us) (EP X pins σ Q) X.xe s := by
  have both : Vals (xs ++ dvs) (us ++ ds) := r.append hd
  have hlen : (us ++ ds).length = ps.length := by
    rw [← both.length]
    exact G.len _ _ _ _ h
  refine wpAny_call (codeAny_mono (G.run X.A X.stack s H ⟨us, []⟩ _ _ Q E hg hr I.env0 (hb s us I.kIn hlen) both h) ?_)
  intro res s' hq
  cases res with
  | error er => exact hx pins σ H s er s' I hq
  | ok fl =>
    cases fl with
    | ret u => exact I.after hq
    | next => exact hq.elim
    | brk => exact hq.elim
    | cont => exact hq.elim
theorem pe_callG (G : FnG X.prog X.w X.K X.mg X.base CX k f fd ps sp) (hg : X.A.guards = some []) (hr : Room k X.A) (gl : Gl X x) (hm : X.mg x = some (.ref f)) (hk : PySem.W.keepIn X.K (.ref f) = true) (hb : Binds X.K fd ps ds) (hd : Vals dvs ds) (hx : Passes CX X E) (ha : PA X (e :: es) t)
    (h1 : (x == ("__debug__" : Str)) = false := by decide) (h2 : starEach (e :: es) X.env = (false, eval e X.env) :: starEach es X.env := by rfl) (h3 : (backTo pos (starEach es X.env)).any (·.1) = false := by rfl) : PE X (.Call (.Name x p) (e :: es) [] pos) (tCall sp dvs E t) := by
  constructor
  intro pins s σ H Q I h
  refine wpAny_Call_Name_kw (ld_glob I gl hm ?_ h1)
  refine PySem.W.callWith_K (h₀ := X.base) I.ok.mod.kin hk (thn (ha.run pos pins s σ H _ I h) ?_) h2 h3
  rintro us s1 ⟨xs, H1, J, r, q⟩
  exact ⟨J.kIn, run_fnG G hg hr hb hd hx J r q⟩
theorem pe_call0G (G : FnG X.prog X.w X.K X.mg X.base CX k f fd ps sp) (hg : X.A.guards = some []) (hr : Room k X.A) (gl : Gl X x) (hm : X.mg x = some (.ref f)) (hk : PySem.W.keepIn X.K (.ref f) = true) (hb : Binds X.K fd ps ds) (hd : Vals dvs ds) (hx : Passes CX X E)
    (h1 : (x == ("__debug__" : Str)) = false := by decide) : PE X (.Call (.Name x p) [] [] pos) (tCall sp dvs E tNil) := by
  constructor
  intro pins s σ H Q I h
  exact wpAny_Call_Name_kw (ld_glob I gl hm (PySem.W.callWith_K0 I.kIn hk (run_fnG (us := []) G hg hr hb hd hx I .nil h)) h1)
end
/-- the head, for a law whose def keeps its promise where no guard stands -/
theorem law_callG {P : Program} {w : World} {K : PySem.W.Frag} {mg mb : Str → Option Value} {CX : CXT} {k : Nat} {fa a : Addr} {fd : FuncData} {x : Str} {sp : Sp} {t : Shared} {vs : List Value} {ns : List Int} (KX : K.In t.heap) (hns : t.heap.Ns mainGlobals mg)
    (hbl : t.heap.Ns builtinsNs mb) (hbb : ∀ y : Str, y ≠ "__name__" → mb y = bootBuiltins y) (hlim : t.heap.NoLimit) (hgens : t.gens = #[]) (ha : t.heap.get? a = some { cls := .type "list", data := .seq vs.toArray }) (hi : IntsAre vs ns) (hl : ns.length ≤ sizeLine)
    (hr : Room k callerA) (G : ∀ base : Heap, K.In base → base.Ns mainGlobals mg → FnG P w K mg base CX k fa fd [x] sp) (hbind : ∀ (s : Shared) (u : Value), BindsTo s fd ⟨[u], []⟩ [(x, u)])
    (hsp : ∀ H : Hp, Only H → SqL K H a (ns.map V.int) → sp [.ref a] H (fun v _ => v = .bl true) fun _ _ _ => False) (hCX : ∀ H e s', CX [] H t (fun _ _ _ => False) e s' → False) :
    codeAny (model P w) callerA (.call (.ref fa) ⟨[.ref a], []⟩) (fun r s' => r = .ok (.ret (.bool true)) ∧ OldK t.heap s'.heap ∧ s'.os = t.os ∧ AllBare s'.gens) t := by
  have rv := vals_ints hi
  have hlv := hi.length
  have main : ∀ H : Hp, Only H → SqL K H a (ns.map V.int) → HOk P w H t.heap → (∀ b, H b ≠ none → b = a) → (H a ≠ none → K.lookup a = none) →
      codeAny (model P w) callerA (.call (.ref fa) ⟨[.ref a], []⟩) (fun r s' => r = .ok (.ret (.bool true)) ∧ OldK t.heap s'.heap ∧ s'.os = t.os ∧ AllBare s'.gens) t := by
    intro H hO hS hok only noK
    have clear : ∀ {b : Addr} {o : Obj} {es : Array DictEntry} {ep : Nat}, t.heap.get? b = some o → o.data = .dict es ep → H b = none := by
      intro b o es ep q1 q2
      rcases hb : H b with _ | u
      · rfl
      · have z := only b (by rw [hb]; simp)
        rw [z, ha] at q1
        cases q1
        cases (show Data.seq vs.toArray _ = Data.dict es ep from q2)
    have down : ∀ {b : Addr} {m : Str → Option Value}, t.heap.Ns b m → (hidT t.heap H).Ns b m := by
      rintro b m ⟨o, es, ep, q1, q2, q3⟩
      exact ⟨o, es, ep, hidT_get q1 (clear q1 q2), q2, q3⟩
    have KB : K.In (hidT t.heap H) := by
      intro b o q
      refine hidT_get (KX b o q) ?_
      rcases hb : H b with _ | u
      · rfl
      · have z := only b (by rw [hb]; simp)
        rw [z] at hb q
        rw [noK (by rw [hb]; simp)] at q
        cases q
    have MD : Mod K mg (hidT t.heap H) := ⟨KB, down hns, ⟨mb, down hbl, hbb⟩, by obtain ⟨mc, q1, q2⟩ := hlim; exact ⟨mc, down q1, q2⟩⟩
    have E0 : Env0 P w K mg (hidT t.heap H) callerA [] t H := ⟨rfl, MD, fun b o q => of_hidT q, Nat.le_of_eq (hidT_size _ _), trivial, fun b z => (List.not_mem_nil z).elim, hok, .of_eq hgens⟩
    refine codeAny_mono ((G _ KB (down hns)).run callerA [] t H ⟨[.ref a], []⟩ [.ref a] [.ref a] _ _ rfl hr E0 (hbind t (.ref a)) (.cons rfl .nil) (hsp H hO hS)) ?_
    intro res s' h
    cases res with
    | error e => exact (hCX H e s' h).elim
    | ok fl =>
      cases fl with
      | next => exact h.elim
      | brk => exact h.elim
      | cont => exact h.elim
      | ret u =>
        obtain ⟨v, H', os, bare, un, hok2, r2, q⟩ := h
        have q : v = .bl true := q
        subst q
        obtain rfl : u = Value.bool true := r2
        refine ⟨rfl, OldK.of_keep ?_, os, bare⟩
        intro b o hbo
        rcases hb : H b with _ | u
        · exact un.keep b o hbo hb (List.not_mem_nil) (List.not_mem_nil)
        · rcases hO b with z | ⟨ob, ys, z⟩
          · rw [hb] at z; cases z
          · have k1 := (hok b _ z).1
            have k2 := (hok2 b _ (un.frzs b ob _ z)).1
            rw [hbo] at k1
            cases k1
            exact k2
  rcases hk : K.lookup a with _ | o
  · have at_a : ∀ b, (if b = a then some (HO.frz { cls := .type "list", data := .seq vs.toArray } (.lst (ns.map V.int))) else none) ≠ none → b = a := by
      intro b z
      by_cases hb : b = a
      · exact hb
      · rw [if_neg hb] at z; exact absurd rfl z
    refine main (fun b => if b = a then some (.frz { cls := .type "list", data := .seq vs.toArray } (.lst (ns.map V.int))) else none) ?_ (.inl (.inr ⟨_, if_pos rfl⟩)) ?_ at_a (fun _ => hk)
    · intro b
      by_cases hb : b = a
      · right; exact ⟨_, _, if_pos hb⟩
      · left; exact if_neg hb
    · intro b u z
      have hb := at_a b (fun q => by have z2 : (none : Option HO) = some u := q.symm.trans z; cases z2)
      subst hb
      have z2 := (if_pos rfl).symm.trans z
      cases z2
      exact ⟨ha, by rw [List.length_map]; exact hl, vs, _, rv, ha⟩
  · have q := KX a o hk
    rw [ha] at q
    cases q
    refine main (fun _ => none) (fun _ => .inl rfl) (.inr ⟨_, vs.toArray, _, hk, rfl, rfl, rfl, ?_, ?_⟩) ?_ (fun b z => absurd rfl z) (fun z => absurd rfl z)
    · rw [List.size_toArray, hlv]; exact hl
    · simpa using rv
    · intro b u z
      cases (show (none : Option HO) = some u from z)
theorem walk_ofG {l : PySem.W.OpenLaw} {n k : Nat} {q : Program} {loose : List Str} {XP : (Str → Option Value) → Heap → Prop} {YP : World → Heap → Prop} {d : DefRec} {K : Params → PySem.W.Frag} {sp : PySem.W.Frag → Sp} {x : Str} (hn : l.most = some n) (hn2 : n ≤ sizeLine) (hdf : d.params.defaults = []) (hr : Room k callerA)
    (hY : ∀ (w : World) (h : Heap), YP w h → (K w.params).In h)
    (F : ∀ (w : World) (mg : Str → Option Value) (fa : Addr) (h : Heap), (K w.params).In h → h.Ns mainGlobals mg → mg d.name = some (.ref fa) →
      ∃ fd : FuncData, (∀ (s : Shared) (u : Value), BindsTo s fd ⟨[u], []⟩ [(x, u)]) ∧ ∀ base : Heap, (K w.params).In base → base.Ns mainGlobals mg → FnG l.prog w (K w.params) mg base CX0 k fa fd [x] (sp (K w.params)))
    (hsp : ∀ (K : PySem.W.Frag) (H : Hp) (a : Addr) (ns : List Int), ns.length ≤ n → Only H → SqL K H a (ns.map V.int) → sp K [.ref a] H (fun v _ => v = .bl true) fun _ _ _ => False) :
    PySem.W.WalkO q loose XP YP l.row.toRowW d [] (fun f vs => PySem.call f vs) := by
  refine Att.attach_call hn hdf ?_
  intro w s₀ t mg mb fa o pm cd doc a vs ns G Y ho hd hcd hmg hobj hints hlen hg
  obtain ⟨fd, hb, hF⟩ := F w mg fa _ (hY w _ Y) G.T.g hmg
  exact law_callG (hY w _ Y) G.T.g G.T.b G.T.builtins G.T.nolimit hg hobj hints (Nat.le_trans hlen hn2) hr hF hb (fun H hO hS => hsp _ H a ns hlen hO hS) (fun _ _ _ z => z)
end Dn

/-! Dn1: values as plain data (PyData); shared data lives in a part S of the heap that never changes, lists of one's own lie beside it. -/
namespace Dn
open PySem L2
abbrev Frag := PySem.W.Frag

/-! ### heaps that grow -/
def Ex (H H' : Hp) : Prop := ∀ a o, H a = some o → H' a = some o
theorem Ex.refl (H : Hp) : Ex H H := fun _ _ h => h
theorem Ex.trans {H H1 H2 : Hp} (a : Ex H H1) (b : Ex H1 H2) : Ex H H2 := fun x o h => b x o (a x o h)
theorem Ex.new {H : Hp} {p : Addr} {o : HO} (h : H p = none) : Ex H (upd H p o) := fun a u e => by
  rw [upd_ne (ne_of_none e h)]
  exact e
theorem Ex.mut {H H' : Hp} {p : Addr} {o : HO} (e : Ex H H') (h : H p = none) : Ex H (upd H' p o) := fun a u ha => by
  rw [upd_ne (ne_of_none ha h)]
  exact e a u ha
theorem Ex.both {H H' : Hp} {p : Addr} {o : HO} (e : Ex H H') : Ex (upd H p o) (upd H' p o) := fun a u ha => by
  by_cases h : a = p
  · subst h; rw [upd_same] at ha ⊢; exact ha
  · rw [upd_ne h] at ha ⊢; exact e a u ha
theorem Ex.free {H H' : Hp} {p : Addr} (e : Ex H H') (h : H' p = none) : H p = none := by
  cases h1 : H p with
  | none => rfl
  | some o => rw [e p o h1] at h; cases h
theorem Ex.rd {H H' : Hp} {a : Addr} {u : HO} (e : Ex H H') (h : Rd H a u) : Rd H' a u := by
  rcases h with h | ⟨o, h⟩
  · exact Or.inl (e a _ h)
  · exact Or.inr ⟨o, e a _ h⟩
theorem Ex.l {K : Frag} {H H' : Hp} {a : Addr} {xs : List V} (e : Ex H H') (h : SqL K H a xs) : SqL K H' a xs := by
  rcases h with h | h
  · exact Or.inl (e.rd h)
  · exact Or.inr h
theorem Ex.t {K : Frag} {H H' : Hp} {a : Addr} {xs : List V} (e : Ex H H') (h : SqT K H a xs) : SqT K H' a xs := by
  rcases h with h | h
  · exact Or.inl (e.rd h)
  · exact Or.inr h
theorem sql_of {K : Frag} {H : Hp} {a : Addr} {xs : List V} (h : H a = some (.lst xs)) : SqL K H a xs := Or.inl (Or.inl h)
theorem sqt_of {K : Frag} {H : Hp} {a : Addr} {xs : List V} (h : H a = some (.tup xs)) : SqT K H a xs := Or.inl (Or.inl h)

/-! ### a value that stands for data -/
def keyD : Key → PyData
  | .inl i => .int i
  | .inr x => .str x
mutual
inductive Rp (K : Frag) (S : Hp) : V → PyData → Prop
  | non : Rp K S .non .none
  | bl (b : Bool) : Rp K S (.bl b) (.bool b)
  | int (i : Int) : Rp K S (.int i) (.int i)
  | str (x : Str) : Rp K S (.str x) (.str x)
  | lst {a : Addr} {xs : List V} {ds : List PyData} : SqL K S a xs → RpAll K S xs ds → Rp K S (.ref a) (.list ds)
  | tup {a : Addr} {xs : List V} {ds : List PyData} : SqT K S a xs → RpAll K S xs ds → Rp K S (.ref a) (.tuple ds)
  | dct {a : Addr} {kvs : List (Key × V)} {ds : List (PyData × PyData)} : S a = some (.dK kvs) → RpKv K S kvs ds → Rp K S (.ref a) (.dict ds)
inductive RpAll (K : Frag) (S : Hp) : List V → List PyData → Prop
  | nil : RpAll K S [] []
  | cons {v : V} {vs : List V} {d : PyData} {ds : List PyData} : Rp K S v d → RpAll K S vs ds → RpAll K S (v :: vs) (d :: ds)
inductive RpKv (K : Frag) (S : Hp) : List (Key × V) → List (PyData × PyData) → Prop
  | nil : RpKv K S [] []
  | cons {k : Key} {v : V} {vs : List (Key × V)} {d : PyData} {ds : List (PyData × PyData)} : Rp K S v d → RpKv K S vs ds → RpKv K S ((k, v) :: vs) ((keyD k, d) :: ds)
end
mutual
theorem Rp.mono {K : Frag} {S S' : Hp} (e : Ex S S') : ∀ {v : V} {d : PyData}, Rp K S v d → Rp K S' v d
  | _, _, .non => .non
  | _, _, .bl b => .bl b
  | _, _, .int i => .int i
  | _, _, .str x => .str x
  | _, _, .lst h r => .lst (e.l h) (RpAll.mono e r)
  | _, _, .tup h r => .tup (e.t h) (RpAll.mono e r)
  | _, _, .dct h r => .dct (e _ _ h) (RpKv.mono e r)
theorem RpAll.mono {K : Frag} {S S' : Hp} (e : Ex S S') : ∀ {vs : List V} {ds : List PyData}, RpAll K S vs ds → RpAll K S' vs ds
  | _, _, .nil => .nil
  | _, _, .cons h r => .cons (Rp.mono e h) (RpAll.mono e r)
theorem RpKv.mono {K : Frag} {S S' : Hp} (e : Ex S S') : ∀ {vs : List (Key × V)} {ds : List (PyData × PyData)}, RpKv K S vs ds → RpKv K S' vs ds
  | _, _, .nil => .nil
  | _, _, .cons h r => .cons (Rp.mono e h) (RpKv.mono e r)
end
section
variable {K : Frag} {S : Hp}
theorem RpAll.length : ∀ {vs : List V} {ds : List PyData}, RpAll K S vs ds → vs.length = ds.length
  | _, _, .nil => rfl
  | _, _, .cons _ r => congrArg (· + 1) (RpAll.length r)
theorem RpAll.get : ∀ {vs : List V} {ds : List PyData} {i : Nat} {d : PyData}, RpAll K S vs ds → ds[i]? = some d → ∃ v, vs[i]? = some v ∧ Rp K S v d
  | _, _, _, _, .nil, e => by simp at e
  | _, _, 0, _, .cons h _, e => by simp at e; subst e; exact ⟨_, rfl, h⟩
  | _, _, i + 1, _, .cons _ r, e => by
    obtain ⟨v, h1, h2⟩ := RpAll.get (i := i) r (by simpa using e)
    exact ⟨v, by simpa using h1, h2⟩
theorem RpAll.getV : ∀ {vs : List V} {ds : List PyData} {i : Nat} {v : V}, RpAll K S vs ds → vs[i]? = some v → ∃ d, ds[i]? = some d ∧ Rp K S v d
  | _, _, _, _, .nil, e => by simp at e
  | _, _, 0, _, .cons h _, e => by simp at e; subst e; exact ⟨_, rfl, h⟩
  | _, _, i + 1, _, .cons _ r, e => by
    obtain ⟨v, h1, h2⟩ := RpAll.getV (i := i) r (by simpa using e)
    exact ⟨v, by simpa using h1, h2⟩
theorem RpAll.append : ∀ {vs ws : List V} {ds es : List PyData}, RpAll K S vs ds → RpAll K S ws es → RpAll K S (vs ++ ws) (ds ++ es)
  | _, _, _, _, .nil, s => s
  | _, _, _, _, .cons h r, s => .cons h (RpAll.append r s)
theorem RpAll.one {v : V} {d : PyData} (h : Rp K S v d) : RpAll K S [v] [d] := .cons h .nil
theorem RpAll.take : ∀ {vs : List V} {ds : List PyData} (n : Nat), RpAll K S vs ds → RpAll K S (vs.take n) (ds.take n)
  | _, _, 0, _ => .nil
  | _, _, _ + 1, .nil => .nil
  | _, _, n + 1, .cons h r => .cons h (RpAll.take n r)
theorem RpAll.drop : ∀ {vs : List V} {ds : List PyData} (n : Nat), RpAll K S vs ds → RpAll K S (vs.drop n) (ds.drop n)
  | _, _, 0, r => r
  | _, _, _ + 1, .nil => .nil
  | _, _, n + 1, .cons _ r => RpAll.drop n r
theorem RpAll.reverse {vs : List V} {ds : List PyData} (h : RpAll K S vs ds) : RpAll K S vs.reverse ds.reverse := by
  induction vs generalizing ds with
  | nil => cases h; exact .nil
  | cons v vs ih =>
    cases h with
    | cons h r => rw [List.reverse_cons, List.reverse_cons]; exact (ih r).append (.one h)
theorem RpAll.set {v : V} {d : PyData} (q : Rp K S v d) : ∀ {vs : List V} {ds : List PyData} (i : Nat), RpAll K S vs ds → RpAll K S (vs.set i v) (ds.set i d)
  | _, _, _, .nil => .nil
  | _, _, 0, .cons _ r => .cons q r
  | _, _, i + 1, .cons h r => .cons h (RpAll.set q i r)
end

/-! ### what a slot holds -/
inductive Sv where
  | un
  | d (x : PyData)
  | ol (xs : List PyData)
  | io (xs : List PyData)
abbrev Ev := List Sv
def Sv.own : Sv → Bool
  | .ol _ => true
  | .io _ => true
  | _ => false

structure Ctx where
  F : Hp
  NS : Addr → Prop
  pin : Nat → Option Addr

/-- a list of one's own at p -/
structure OwnAt (K : Frag) (C : Ctx) (S H : Hp) (p : Addr) (xs : List PyData) : Prop where
  f : C.F p = none
  s : S p = none
  h : ∃ vs, H p = some (.lst vs) ∧ RpAll K S vs xs
def SlotOk (K : Frag) (C : Ctx) (S H : Hp) (i : Nat) (o : Option (Option V)) : Sv → Prop
  | .un => True
  | .d x => ∃ v, o = some (some v) ∧ Rp K S v x
  | .ol xs => ∃ p, o = some (some (.ref p)) ∧ ¬ C.NS p ∧ OwnAt K C S H p xs
  | .io xs => ∃ p, o = some (some (.ref p)) ∧ C.pin i = some p ∧ OwnAt K C S H p xs
structure Ok (K : Frag) (C : Ctx) (S H : Hp) (σ : L2.St) (ρ : List Sv) : Prop where
  exF : Ex C.F H
  exS : Ex S H
  ns : ∀ a, C.NS a → S a = none ∧ H a ≠ none
  slot : ∀ (i : Nat) (x : Sv), ρ[i]? = some x → SlotOk K C S H i σ[i]? x
  dist : ∀ (i j : Nat) (x y : Sv) (p : Addr), ρ[i]? = some x → ρ[j]? = some y → x.own = true → y.own = true → σ[i]? = some (some (V.ref p)) → σ[j]? = some (some (V.ref p)) → i = j
  len : ρ.length = σ.length

/-- shared data is laid, nothing of H changes -/
structure Grow (S H S' H' : Hp) : Prop where
  h : Ex H H'
  s : Ex S S'
  sh : Ex S' H'
  n : ∀ a, S a = none → H a ≠ none → S' a = none
theorem ne_none_of {H H' : Hp} {a : Addr} (e : Ex H H') (h : H a ≠ none) : H' a ≠ none := fun z => h (e.free z)
theorem Grow.refl {S H : Hp} (e : Ex S H) : Grow S H S H := ⟨.refl _, .refl _, e, fun _ h _ => h⟩
theorem Grow.trans {S H S1 H1 S2 H2 : Hp} (a : Grow S H S1 H1) (b : Grow S1 H1 S2 H2) : Grow S H S2 H2 :=
  ⟨a.h.trans b.h, a.s.trans b.s, b.sh, fun x h1 h2 => b.n x (a.n x h1 h2) (ne_none_of a.h h2)⟩
theorem Grow.new {S H : Hp} {p : Addr} {o : HO} (e : Ex S H) (h : H p = none) : Grow S H (upd S p o) (upd H p o) :=
  ⟨.new h, .new (e.free h), e.both, fun a h1 h2 => by
    have : a ≠ p := fun z => h2 (z ▸ h)
    rw [upd_ne this]; exact h1⟩
/-- an object that is not shared is laid -/
theorem Grow.apart {S H : Hp} {p : Addr} {o : HO} (e : Ex S H) (h : H p = none) : Grow S H S (upd H p o) :=
  ⟨.new h, .refl _, e.trans (.new h), fun _ h1 _ => h1⟩

section
variable {K : Frag} {C : Ctx} {S H S' H' : Hp} {σ : L2.St} {ρ : List Sv}
theorem OwnAt.grow {p : Addr} {xs : List PyData} (o : OwnAt K C S H p xs) (g : Grow S H S' H') : OwnAt K C S' H' p xs := by
  obtain ⟨vs, h1, h2⟩ := o.h
  exact ⟨o.f, g.n p o.s (by rw [h1]; simp), vs, g.h _ _ h1, h2.mono g.s⟩
theorem SlotOk.grow {i : Nat} {o : Option (Option V)} {x : Sv} (h : SlotOk K C S H i o x) (g : Grow S H S' H') : SlotOk K C S' H' i o x := by
  cases x with
  | un => trivial
  | d x => obtain ⟨v, e, r⟩ := h; exact ⟨v, e, r.mono g.s⟩
  | ol xs => obtain ⟨p, e, n, r⟩ := h; exact ⟨p, e, n, r.grow g⟩
  | io xs => obtain ⟨p, e, n, r⟩ := h; exact ⟨p, e, n, r.grow g⟩
theorem Ok.grow (o : Ok K C S H σ ρ) (g : Grow S H S' H') : Ok K C S' H' σ ρ :=
  ⟨o.exF.trans g.h, g.sh, fun a h => ⟨g.n a (o.ns a h).1 (o.ns a h).2, ne_none_of g.h (o.ns a h).2⟩, fun i x e => (o.slot i x e).grow g, o.dist, o.len⟩
theorem Ok.new (o : Ok K C S H σ ρ) {p : Addr} {u : HO} (h : H p = none) : Ok K C (upd S p u) (upd H p u) σ ρ := o.grow (.new o.exS h)
theorem Ok.var (o : Ok K C S H σ ρ) {i : Nat} {x : PyData} (e : ρ[i]? = some (.d x)) : ∃ v, σ[i]? = some (some v) ∧ Rp K S v x := o.slot i _ e
/-- p stands in no slot of one's own -/
def NoSlot (σ : L2.St) (ρ : List Sv) (p : Addr) : Prop := ∀ (i : Nat) (x : Sv), ρ[i]? = some x → x.own = true → σ[i]? ≠ some (some (V.ref p))
theorem Ok.noslot (o : Ok K C S H σ ρ) {p : Addr} (h : H p = none) : NoSlot σ ρ p := fun i x e w z => by
  have q := o.slot i x e
  cases x with
  | un => cases w
  | d x => cases w
  | ol xs =>
    obtain ⟨p', e', _, r⟩ := q
    rw [e'] at z; cases z
    obtain ⟨vs, h1, _⟩ := r.h
    rw [h] at h1; cases h1
  | io xs =>
    obtain ⟨p', e', _, r⟩ := q
    rw [e'] at z; cases z
    obtain ⟨vs, h1, _⟩ := r.h
    rw [h] at h1; cases h1
theorem Ok.nons (o : Ok K C S H σ ρ) {p : Addr} (h : H p = none) : ¬ C.NS p := fun z => (o.ns p z).2 h
/-- a list of one's own becomes shared data -/
theorem Ok.freeze (o : Ok K C S H σ ρ) {p : Addr} {vs : List V} (hp : H p = some (.lst vs)) (hs : S p = none) (hn : ¬ C.NS p) (hq : NoSlot σ ρ p) : Ok K C (upd S p (.lst vs)) H σ ρ := by
  have ex : Ex S (upd S p (.lst vs)) := .new hs
  refine ⟨o.exF, fun a u h => ?_, fun a h => ?_, fun i x e => ?_, o.dist, o.len⟩
  · by_cases z : a = p
    · subst z; rw [upd_same] at h; cases h; exact hp
    · rw [upd_ne z] at h; exact o.exS a u h
  · have z : a ≠ p := fun z => hn (z ▸ h)
    rw [upd_ne z]; exact o.ns a h
  · have q := o.slot i x e
    have nq := hq i x e
    have own : ∀ p', σ[i]? = some (some (V.ref p')) → x.own = true → ∀ xs, OwnAt K C S H p' xs → OwnAt K C (upd S p (.lst vs)) H p' xs := fun p' e' w xs r => by
      have z : p' ≠ p := fun z => nq w (z ▸ e')
      obtain ⟨us, h1, h2⟩ := r.h
      exact ⟨r.f, by rw [upd_ne z]; exact r.s, us, h1, h2.mono ex⟩
    cases x with
    | un => trivial
    | d x => obtain ⟨v, e, r⟩ := q; exact ⟨v, e, r.mono ex⟩
    | ol xs => obtain ⟨p', e', n, r⟩ := q; exact ⟨p', e', n, own p' e' rfl xs r⟩
    | io xs => obtain ⟨p', e', n, r⟩ := q; exact ⟨p', e', n, own p' e' rfl xs r⟩
/-- the object of a slot of one's own changes -/
theorem Ok.mutate (o : Ok K C S H σ ρ) {i : Nat} {p : Addr} {x : Sv} {vs : List V} {xs : List PyData} (ei : ρ[i]? = some x) (w : x.own = true) (ep : σ[i]? = some (some (V.ref p))) (hr : RpAll K S vs xs) (y : Sv) (hy : (∃ zs, x = .ol zs ∧ y = .ol xs) ∨ (∃ zs, x = .io zs ∧ y = .io xs)) :
    Ok K C S (upd H p (.lst vs)) σ (ρ.set i y) := by
  have q := o.slot i x ei
  have oa : C.F p = none ∧ S p = none ∧ H p ≠ none := by
    rcases hy with ⟨zs, rfl, rfl⟩ | ⟨zs, rfl, rfl⟩
    · obtain ⟨p', e', _, r⟩ := q
      rw [ep] at e'; cases e'
      obtain ⟨us, h1, _⟩ := r.h
      exact ⟨r.f, r.s, by rw [h1]; simp⟩
    · obtain ⟨p', e', _, r⟩ := q
      rw [ep] at e'; cases e'
      obtain ⟨us, h1, _⟩ := r.h
      exact ⟨r.f, r.s, by rw [h1]; simp⟩
  have yo : y.own = true := by rcases hy with ⟨zs, rfl, rfl⟩ | ⟨zs, rfl, rfl⟩ <;> rfl
  have li : i < ρ.length := (List.getElem?_eq_some_iff.mp ei).1
  have back : ∀ (j : Nat) (z : Sv), (ρ.set i y)[j]? = some z → (j = i ∧ z = y) ∨ (j ≠ i ∧ ρ[j]? = some z) := fun j z e => by
    by_cases h : j = i
    · subst h; rw [List.getElem?_set_self li] at e; cases e; exact .inl ⟨rfl, rfl⟩
    · rw [List.getElem?_set_ne (Ne.symm h)] at e; exact .inr ⟨h, e⟩
  refine ⟨o.exF.mut oa.1, o.exS.mut oa.2.1, fun a h => ⟨(o.ns a h).1, ?_⟩, fun j z e => ?_, fun j k z u p' ej ek wz wu sj sk => ?_, by rw [List.length_set]; exact o.len⟩
  · by_cases z : a = p
    · subst z; rw [upd_same]; simp
    · rw [upd_ne z]; exact (o.ns a h).2
  · rcases back j z e with ⟨rfl, rfl⟩ | ⟨h, e⟩
    · rcases hy with ⟨zs, rfl, rfl⟩ | ⟨zs, rfl, rfl⟩
      · obtain ⟨p', e', n, r⟩ := q
        rw [ep] at e'; cases e'
        exact ⟨p, ep, n, oa.1, oa.2.1, vs, upd_same, hr⟩
      · obtain ⟨p', e', n, r⟩ := q
        rw [ep] at e'; cases e'
        exact ⟨p, ep, n, oa.1, oa.2.1, vs, upd_same, hr⟩
    · have qz := o.slot j z e
      have own : ∀ p', σ[j]? = some (some (V.ref p')) → z.own = true → ∀ ys, OwnAt K C S H p' ys → OwnAt K C S (upd H p (.lst vs)) p' ys := fun p' e' wz ys r => by
        have ne : p' ≠ p := fun h' => h (o.dist j i z x p e ei wz w (h' ▸ e') ep)
        obtain ⟨us, h1, h2⟩ := r.h
        exact ⟨r.f, r.s, us, by rw [upd_ne ne]; exact h1, h2⟩
      cases z with
      | un => trivial
      | d z => exact qz
      | ol ys => obtain ⟨p', e', n, r⟩ := qz; exact ⟨p', e', n, own p' e' rfl ys r⟩
      | io ys => obtain ⟨p', e', n, r⟩ := qz; exact ⟨p', e', n, own p' e' rfl ys r⟩
  · rcases back j z ej with ⟨h1, rfl⟩ | ⟨h1, ej'⟩ <;> rcases back k u ek with ⟨h2, rfl⟩ | ⟨h2, ek'⟩
    · rw [h1, h2]
    · rw [h1] at sj
      exact absurd (o.dist i k x u p' ei ek' w wu sj sk) (by intro h; exact h2 h.symm)
    · rw [h2] at sk
      exact absurd (o.dist j i z x p' ej' ei wz w sj sk) (by intro h; exact h1 h)
    · exact o.dist j k z u p' ej' ek' wz wu sj sk
/-- a name is stored -/
theorem Ok.store (o : Ok K C S H σ ρ) {i : Nat} {v : V} {y : Sv} (hi : i < σ.length) (hs : SlotOk K C S H i (some (some v)) y) (hd : y.own = true → ∀ p, v = .ref p → NoSlot σ ρ p) : Ok K C S H (σ.set i (some v)) (ρ.set i y) := by
  have li : i < ρ.length := by rw [o.len]; exact hi
  have back : ∀ (j : Nat) (z : Sv), (ρ.set i y)[j]? = some z → (j = i ∧ z = y) ∨ (j ≠ i ∧ ρ[j]? = some z) := fun j z e => by
    by_cases h : j = i
    · subst h; rw [List.getElem?_set_self li] at e; cases e; exact .inl ⟨rfl, rfl⟩
    · rw [List.getElem?_set_ne (Ne.symm h)] at e; exact .inr ⟨h, e⟩
  refine ⟨o.exF, o.exS, o.ns, fun j z e => ?_, fun j k z u p ej ek wz wu sj sk => ?_, by rw [List.length_set, List.length_set]; exact o.len⟩
  · rcases back j z e with ⟨rfl, rfl⟩ | ⟨h, e⟩
    · rw [List.getElem?_set_self hi]; exact hs
    · rw [List.getElem?_set_ne (Ne.symm h)]; exact o.slot j z e
  · rcases back j z ej with ⟨rfl, rfl⟩ | ⟨h1, ej'⟩
    · rw [List.getElem?_set_self hi] at sj
      cases sj
      rcases back k u ek with ⟨rfl, rfl⟩ | ⟨h2, ek'⟩
      · rfl
      · rw [List.getElem?_set_ne (Ne.symm h2)] at sk
        exact absurd sk (hd wz p rfl k u ek' wu)
    · rw [List.getElem?_set_ne (Ne.symm h1)] at sj
      rcases back k u ek with ⟨rfl, rfl⟩ | ⟨h2, ek'⟩
      · rw [List.getElem?_set_self hi] at sk
        cases sk
        exact absurd sj (hd wu p rfl j z ej' wz)
      · rw [List.getElem?_set_ne (Ne.symm h2)] at sk
        exact o.dist j k z u p ej' ek' wz wu sj sk
/-- a slot is forgotten -/
theorem Ok.forget (o : Ok K C S H σ ρ) (i : Nat) (u : Option V) : Ok K C S H (σ.set i u) (ρ.set i .un) := by
  have back : ∀ (j : Nat) (z : Sv), (ρ.set i Sv.un)[j]? = some z → z = .un ∨ (j ≠ i ∧ ρ[j]? = some z) := fun j z e => by
    by_cases h : j = i
    · subst h
      have := List.getElem?_set (l := ρ) (i := j) (j := j) (a := Sv.un)
      rw [this] at e
      simp at e
      exact .inl e.2.symm
    · rw [List.getElem?_set_ne (Ne.symm h)] at e; exact .inr ⟨h, e⟩
  refine ⟨o.exF, o.exS, o.ns, fun j z e => ?_, fun j k z u' p ej ek wz wu sj sk => ?_, by rw [List.length_set, List.length_set]; exact o.len⟩
  · rcases back j z e with rfl | ⟨h, e⟩
    · trivial
    · rw [List.getElem?_set_ne (Ne.symm h)]; exact o.slot j z e
  · rcases back j z ej with rfl | ⟨h1, ej'⟩
    · cases wz
    · rcases back k u' ek with rfl | ⟨h2, ek'⟩
      · cases wu
      · rw [List.getElem?_set_ne (Ne.symm h1)] at sj
        rw [List.getElem?_set_ne (Ne.symm h2)] at sk
        exact o.dist j k z u' p ej' ek' wz wu sj sk
end
end Dn

/-! Dn2: what a reading says at the level of data. -/
namespace Dn
open PySem L2
abbrev M := Ev → Option (PyData × Ev)
abbrev MB := Ev → Option (Bool × Ev)
abbrev ML := Ev → Option (List PyData × Ev)
section
variable (K : Frag)
/-- an expression gives data -/
def Sem (t : TE) (m : M) : Prop := ∀ C S H σ ρ, Ok K C S H σ ρ → ∀ d ρ', m ρ = some (d, ρ') → ∀ Q : VK, (∀ v S' H', Ex S S' → Ok K C S' H' σ ρ' → Rp K S' v d → Q v H') → t σ H Q
def SemT (t : TT) (m : MB) : Prop := ∀ C S H σ ρ, Ok K C S H σ ρ → ∀ b ρ', m ρ = some (b, ρ') → ∀ Q : Bool → Hp → Prop, (∀ S' H', Ex S S' → Ok K C S' H' σ ρ' → Q b H') → t σ H Q
def SemA (t : TA) (m : ML) : Prop := ∀ C S H σ ρ, Ok K C S H σ ρ → ∀ ds ρ', m ρ = some (ds, ρ') → ∀ Q : List V → Hp → Prop, (∀ vs S' H', Ex S S' → Ok K C S' H' σ ρ' → RpAll K S' vs ds → Q vs H') → t σ H Q
/-- an expression gives a new list -/
def SemF (t : TE) (m : ML) : Prop := ∀ C S H σ ρ, Ok K C S H σ ρ → ∀ xs ρ', m ρ = some (xs, ρ') → ∀ Q : VK,
  (∀ p S' H', Ex S S' → Ok K C S' H' σ ρ' → OwnAt K C S' H' p xs → ¬ C.NS p → NoSlot σ ρ' p → Q (.ref p) H') → t σ H Q
end
def LenIs (m : ML) (n : Nat) : Prop := ∀ ρ ds ρ', m ρ = some (ds, ρ') → ds.length = n
/-! ### the machine's words over data -/
def mVar (i : Nat) : M := fun ρ => match ρ[i]? with
  | some (.d x) => some (x, ρ)
  | _ => none
def mC (d : PyData) : M := fun ρ => some (d, ρ)
def mNil : ML := fun ρ => some ([], ρ)
def mCons (a : M) (r : ML) : ML := fun ρ => match a ρ with
  | some (x, ρ1) => match r ρ1 with
    | some (xs, ρ2) => some (x :: xs, ρ2)
    | none => none
  | none => none
def mTup (a : ML) : M := fun ρ => match a ρ with
  | some (xs, ρ1) => some (.tuple xs, ρ1)
  | none => none
def mFr (a : ML) : M := fun ρ => match a ρ with
  | some (xs, ρ1) => some (.list xs, ρ1)
  | none => none
def mOp (f : PyData → PyData → Option PyData) (a b : M) : M := fun ρ => match a ρ with
  | some (x, ρ1) => match b ρ1 with
    | some (y, ρ2) => match f x y with
      | some z => some (z, ρ2)
      | none => none
    | none => none
  | none => none
def mOpF (f : PyData → PyData → Option (List PyData)) (a b : M) : ML := fun ρ => match a ρ with
  | some (x, ρ1) => match b ρ1 with
    | some (y, ρ2) => match f x y with
      | some z => some (z, ρ2)
      | none => none
    | none => none
  | none => none
def mUn (f : PyData → Option PyData) (a : M) : M := fun ρ => match a ρ with
  | some (x, ρ1) => match f x with
    | some z => some (z, ρ1)
    | none => none
  | none => none
def mCall (f : List PyData → Option PyData) (a : ML) : M := fun ρ => match a ρ with
  | some (x, ρ1) => match f x with
    | some z => some (z, ρ1)
    | none => none
  | none => none
def mCallF (f : List PyData → Option (List PyData)) (a : ML) : ML := fun ρ => match a ρ with
  | some (x, ρ1) => match f x with
    | some z => some (z, ρ1)
    | none => none
  | none => none
def mTest (a : M) : MB := fun ρ => match a ρ with
  | some (.bool b, ρ1) => some (b, ρ1)
  | _ => none
def truD : PyData → Option Bool
  | .none => some false
  | .bool b => some b
  | .int i => some (i != 0)
  | .str x => if x.length ≤ sizeLine then some ((x.length : Int) != 0) else none
  | .list xs => some (!xs.isEmpty)
  | .tuple xs => some (!xs.isEmpty)
  | .dict xs => some (!xs.isEmpty)
def mTru (a : M) : MB := fun ρ => match a ρ with
  | some (x, ρ1) => match truD x with
    | some b => some (b, ρ1)
    | none => none
  | none => none
def bAnd (a b : MB) : MB := fun ρ => match a ρ with
  | some (true, ρ1) => b ρ1
  | some (false, ρ1) => some (false, ρ1)
  | none => none
def bOr (a b : MB) : MB := fun ρ => match a ρ with
  | some (true, ρ1) => some (true, ρ1)
  | some (false, ρ1) => b ρ1
  | none => none
def bNot (a : MB) : MB := fun ρ => match a ρ with
  | some (b, ρ1) => some (!b, ρ1)
  | none => none
def mAnd (a b : M) : M := fun ρ => match a ρ with
  | some (.bool true, ρ1) => b ρ1
  | some (.bool false, ρ1) => some (.bool false, ρ1)
  | _ => none
def mOr (a b : M) : M := fun ρ => match a ρ with
  | some (.bool true, ρ1) => some (.bool true, ρ1)
  | some (.bool false, ρ1) => b ρ1
  | _ => none
def mNot (a : M) : M := fun ρ => match a ρ with
  | some (.bool b, ρ1) => some (.bool (!b), ρ1)
  | _ => none
def mIf (c : MB) (a b : M) : M := fun ρ => match c ρ with
  | some (true, ρ1) => a ρ1
  | some (false, ρ1) => b ρ1
  | none => none

section
variable {K : Frag}
/-! ### the rules -/
theorem s_var {i : Nat} : Sem K (tVar i) (mVar i) := fun C S H σ ρ o d ρ' e Q q => by
  unfold mVar at e
  split at e
  · rename_i x h
    cases e
    obtain ⟨v, h1, h2⟩ := o.var h
    exact ⟨v, h1, q v S H (.refl _) o h2⟩
  · cases e
theorem s_c {v : V} {d : PyData} (h : ∀ S, Rp K S v d) : Sem K (tC v) (mC d) := fun C S H σ ρ o d' ρ' e Q q => by
  cases e
  exact q v S H (.refl _) o (h S)
theorem s_int {i : Int} : Sem K (tC (.int i)) (mC (.int i)) := s_c fun _ => .int i
theorem s_str {i : Str} : Sem K (tC (.str i)) (mC (.str i)) := s_c fun _ => .str i
theorem s_bl {i : Bool} : Sem K (tC (.bl i)) (mC (.bool i)) := s_c fun _ => .bl i
theorem s_non : Sem K (tC .non) (mC .none) := s_c fun _ => .non
theorem s_nil : SemA K tNil mNil := fun C S H σ ρ o ds ρ' e Q q => by
  cases e
  exact q [] S H (.refl _) o .nil
theorem s_cons {ta : TE} {tr : TA} {a : M} {r : ML} (ha : Sem K ta a) (hr : SemA K tr r) : SemA K (tCons ta tr) (mCons a r) := fun C S H σ ρ o ds ρ' e Q q => by
  unfold mCons at e
  split at e
  · rename_i x ρ1 h1
    split at e
    · rename_i xs ρ2 h2
      cases e
      refine ha C S H σ ρ o _ _ h1 _ fun v S1 H1 e1 o1 r1 => ?_
      exact hr C S1 H1 σ ρ1 o1 _ _ h2 _ fun vs S2 H2 e2 o2 r2 => q (v :: vs) S2 H2 (e1.trans e2) o2 (.cons (r1.mono e2) r2)
    · cases e
  · cases e
theorem len_nil : LenIs mNil 0 := fun ρ ds ρ' e => by cases e; rfl
theorem len_cons {a : M} {r : ML} {n : Nat} (h : LenIs r n) : LenIs (mCons a r) (n + 1) := fun ρ ds ρ' e => by
  unfold mCons at e
  split at e
  · split at e
    · rename_i h2
      cases e
      exact congrArg (· + 1) (h _ _ _ h2)
    · cases e
  · cases e
theorem s_tup {ta : TA} {a : ML} {n : Nat} (ha : SemA K ta a) (hl : LenIs a n) (hn : n ≤ sizeLine := by decide) : Sem K (tTup ta) (mTup a) := fun C S H σ ρ o d ρ' e Q q => by
  unfold mTup at e
  split at e
  · rename_i xs ρ1 h1
    cases e
    refine ha C S H σ ρ o _ _ h1 _ fun vs S1 H1 e1 o1 r1 => ⟨by rw [r1.length, hl _ _ _ h1]; exact hn, fun p hp => ?_⟩
    exact q _ _ _ (e1.trans (.new (o1.exS.free hp))) (o1.new hp) (.tup (sqt_of upd_same) (r1.mono (.new (o1.exS.free hp))))
  · cases e
/-- a new object that is not shared yet -/
theorem Ok.ownNew {C : Ctx} {S H : Hp} {σ : L2.St} {ρ : Ev} (o : Ok K C S H σ ρ) {p : Addr} {vs : List V} {xs : List PyData} (hp : H p = none) (r : RpAll K S vs xs) :
    Ok K C S (upd H p (.lst vs)) σ ρ ∧ OwnAt K C S (upd H p (.lst vs)) p xs ∧ ¬ C.NS p ∧ NoSlot σ ρ p :=
  ⟨o.grow (.apart o.exS hp), ⟨o.exF.free hp, o.exS.free hp, vs, upd_same, r⟩, o.nons hp, o.noslot hp⟩
theorem s_lst {ta : TA} {a : ML} {n : Nat} (ha : SemA K ta a) (hl : LenIs a n) (hn : n ≤ sizeLine := by decide) : SemF K (tLst ta) a := fun C S H σ ρ o xs ρ' e Q q => by
  refine ha C S H σ ρ o _ _ e _ fun vs S1 H1 e1 o1 r1 => ⟨by rw [r1.length, hl _ _ _ e]; exact hn, fun p hp => ?_⟩
  obtain ⟨o2, w2, n2, s2⟩ := o1.ownNew hp r1
  exact q p S1 _ e1 o2 w2 n2 s2
theorem s_fr {t : TE} {m : ML} (h : SemF K t m) : Sem K t (mFr m) := fun C S H σ ρ o d ρ' e Q q => by
  unfold mFr at e
  split at e
  · rename_i xs ρ1 h1
    cases e
    refine h C S H σ ρ o _ _ h1 _ fun p S1 H1 e1 o1 w n s => ?_
    obtain ⟨vs, h2, h3⟩ := w.h
    have ex : Ex S1 (upd S1 p (.lst vs)) := .new w.s
    exact q _ _ _ (e1.trans ex) (o1.freeze h2 w.s n s) (.lst (sql_of upd_same) (h3.mono ex))
  · cases e
/-! operators -/
/-- an operation on values, over data -/
def R2S (K : Frag) (r : R2) (f : PyData → PyData → Option PyData) : Prop := ∀ S H, Ex S H → ∀ x y dx dy dz, Rp K S x dx → Rp K S y dy → f dx dy = some dz → ∀ Q : VK, (∀ v S' H', Grow S H S' H' → Rp K S' v dz → Q v H') → r x y H Q
def R2F (K : Frag) (r : R2) (f : PyData → PyData → Option (List PyData)) : Prop := ∀ S H, Ex S H → ∀ x y dx dy dz, Rp K S x dx → Rp K S y dy → f dx dy = some dz → ∀ Q : VK, (∀ p vs, H p = none → RpAll K S vs dz → Q (.ref p) (upd H p (.lst vs))) → r x y H Q
def R1S (K : Frag) (r : V → Hp → VK → Prop) (f : PyData → Option PyData) : Prop := ∀ S H, Ex S H → ∀ x dx dz, Rp K S x dx → f dx = some dz → ∀ Q : VK, (∀ v S' H', Grow S H S' H' → Rp K S' v dz → Q v H') → r x H Q
def RAS (K : Frag) (r : List V → Hp → VK → Prop) (f : List PyData → Option PyData) : Prop := ∀ S H, Ex S H → ∀ xs ds dz, RpAll K S xs ds → f ds = some dz → ∀ Q : VK, (∀ v S' H', Grow S H S' H' → Rp K S' v dz → Q v H') → r xs H Q
def RAF (K : Frag) (r : List V → Hp → VK → Prop) (f : List PyData → Option (List PyData)) : Prop := ∀ S H, Ex S H → ∀ xs ds dz, RpAll K S xs ds → f ds = some dz → ∀ Q : VK, (∀ p vs, H p = none → RpAll K S vs dz → Q (.ref p) (upd H p (.lst vs))) → r xs H Q
theorem R2F.s {r : R2} {f : PyData → PyData → Option (List PyData)} (h : R2F K r f) : R2S K r (fun x y => (f x y).map .list) := fun S H e x y dx dy dz rx ry hf Q q => by
  have hf : (f dx dy).map PyData.list = some dz := hf
  cases hz : f dx dy with
  | none => rw [hz] at hf; cases hf
  | some zs =>
    rw [hz] at hf
    cases hf
    exact h S H e x y dx dy zs rx ry hz Q fun p vs hp rv => q _ _ _ (.new e hp) (.lst (sql_of upd_same) (rv.mono (.new (e.free hp))))
theorem s_op {ta tb : TE} {a b : M} {r : R2} {f : PyData → PyData → Option PyData} (ha : Sem K ta a) (hb : Sem K tb b) (hr : R2S K r f) : Sem K (tOp r ta tb) (mOp f a b) := fun C S H σ ρ o d ρ' e Q q => by
  unfold mOp at e
  split at e
  · rename_i x ρ1 h1
    split at e
    · rename_i y ρ2 h2
      split at e
      · rename_i z h3
        cases e
        refine ha C S H σ ρ o _ _ h1 _ fun v S1 H1 e1 o1 r1 => ?_
        refine hb C S1 H1 σ ρ1 o1 _ _ h2 _ fun u S2 H2 e2 o2 r2 => ?_
        exact hr S2 H2 o2.exS v u _ _ _ (r1.mono e2) r2 h3 Q fun w S3 H3 g r3 => q w S3 H3 ((e1.trans e2).trans g.s) (o2.grow g) r3
      · cases e
    · cases e
  · cases e
theorem s_opF {ta tb : TE} {a b : M} {r : R2} {f : PyData → PyData → Option (List PyData)} (ha : Sem K ta a) (hb : Sem K tb b) (hr : R2F K r f) : SemF K (tOp r ta tb) (mOpF f a b) := fun C S H σ ρ o d ρ' e Q q => by
  unfold mOpF at e
  split at e
  · rename_i x ρ1 h1
    split at e
    · rename_i y ρ2 h2
      split at e
      · rename_i z h3
        cases e
        refine ha C S H σ ρ o _ _ h1 _ fun v S1 H1 e1 o1 r1 => ?_
        refine hb C S1 H1 σ ρ1 o1 _ _ h2 _ fun u S2 H2 e2 o2 r2 => ?_
        refine hr S2 H2 o2.exS v u _ _ _ (r1.mono e2) r2 h3 Q fun p vs hp rv => ?_
        obtain ⟨o3, w3, n3, s3⟩ := o2.ownNew hp rv
        exact q p S2 _ (e1.trans e2) o3 w3 n3 s3
      · cases e
    · cases e
  · cases e
theorem s_un {ta : TE} {a : M} {r : V → Hp → VK → Prop} {f : PyData → Option PyData} (ha : Sem K ta a) (hr : R1S K r f) : Sem K (tUn r ta) (mUn f a) := fun C S H σ ρ o d ρ' e Q q => by
  unfold mUn at e
  split at e
  · rename_i x ρ1 h1
    split at e
    · rename_i z h3
      cases e
      refine ha C S H σ ρ o _ _ h1 _ fun v S1 H1 e1 o1 r1 => ?_
      exact hr S1 H1 o1.exS v _ _ r1 h3 Q fun w S3 H3 g r3 => q w S3 H3 (e1.trans g.s) (o1.grow g) r3
    · cases e
  · cases e
theorem s_cb {ta : TA} {a : ML} {r : List V → Hp → VK → Prop} {f : List PyData → Option PyData} (ha : SemA K ta a) (hr : RAS K r f) : Sem K (tCB r ta) (mCall f a) := fun C S H σ ρ o d ρ' e Q q => by
  unfold mCall at e
  split at e
  · rename_i x ρ1 h1
    split at e
    · rename_i z h3
      cases e
      refine ha C S H σ ρ o _ _ h1 _ fun v S1 H1 e1 o1 r1 => ?_
      exact hr S1 H1 o1.exS v _ _ r1 h3 Q fun w S3 H3 g r3 => q w S3 H3 (e1.trans g.s) (o1.grow g) r3
    · cases e
  · cases e
theorem s_cbF {ta : TA} {a : ML} {r : List V → Hp → VK → Prop} {f : List PyData → Option (List PyData)} (ha : SemA K ta a) (hr : RAF K r f) : SemF K (tCB r ta) (mCallF f a) := fun C S H σ ρ o d ρ' e Q q => by
  unfold mCallF at e
  split at e
  · rename_i x ρ1 h1
    split at e
    · rename_i z h3
      cases e
      refine ha C S H σ ρ o _ _ h1 _ fun v S1 H1 e1 o1 r1 => ?_
      refine hr S1 H1 o1.exS v _ _ r1 h3 Q fun p vs hp rv => ?_
      obtain ⟨o3, w3, n3, s3⟩ := o1.ownNew hp rv
      exact q p S1 _ e1 o3 w3 n3 s3
    · cases e
  · cases e
/-! tests -/
theorem t_test {te : TE} {a : M} (h : Sem K te a) : SemT K (tTest te) (mTest a) := fun C S H σ ρ o b ρ' e Q q => by
  unfold mTest at e
  split at e
  · rename_i k ρ1 h1
    cases e
    refine h C S H σ ρ o _ _ h1 _ fun v S1 H1 e1 o1 r1 => ?_
    cases r1
    exact ⟨_, rfl, q S1 H1 e1 o1⟩
  · cases e
theorem t_B {te : TE} {a : M} (h : Sem K te a) : SemT K (tB te) (mTest a) := t_test h
theorem tru_of {S H : Hp} (e : Ex S H) {v : V} {d : PyData} {b : Bool} (r : Rp K S v d) (h : truD d = some b) : TruV K v H b := by
  cases r with
  | non => cases h; exact rfl
  | bl k => cases h; exact rfl
  | int i => cases h; exact rfl
  | str x =>
    have h : (if x.length ≤ sizeLine then some ((x.length : Int) != 0) else none) = some b := h
    split at h
    · cases h; exact ⟨by assumption, rfl⟩
    · cases h
  | lst hq ra =>
    cases h
    refine .inl ⟨_, e.l hq, ?_⟩
    cases ra <;> rfl
  | tup hq ra =>
    cases h
    refine .inr (.inl ⟨_, e.t hq, ?_⟩)
    cases ra <;> rfl
  | dct hq ra =>
    cases h
    refine .inr (.inr ⟨_, e _ _ hq, ?_⟩)
    cases ra <;> rfl
theorem t_truth {te : TE} {a : M} (h : Sem K te a) : SemT K (fun σ H Q => te σ H fun x H' => ∃ k, TruV K x H' k ∧ Q k H') (mTru a) := fun C S H σ ρ o b ρ' e Q q => by
  unfold mTru at e
  split at e
  · rename_i k ρ1 h1
    split at e
    · rename_i b' h2
      cases e
      exact h C S H σ ρ o _ _ h1 _ fun v S1 H1 e1 o1 r1 => ⟨_, tru_of o1.exS r1 h2, q S1 H1 e1 o1⟩
    · cases e
  · cases e
theorem t_and {t u : TT} {a b : MB} (ha : SemT K t a) (hb : SemT K u b) : SemT K (tAnd t u) (bAnd a b) := fun C S H σ ρ o k ρ' e Q q => by
  unfold bAnd at e
  split at e
  · rename_i ρ1 h1
    exact ha C S H σ ρ o _ _ h1 _ fun S1 H1 e1 o1 => iteT (hb C S1 H1 σ ρ1 o1 _ _ e Q fun S2 H2 e2 o2 => q S2 H2 (e1.trans e2) o2)
  · rename_i ρ1 h1
    cases e
    exact ha C S H σ ρ o _ _ h1 _ fun S1 H1 e1 o1 => iteF (q S1 H1 e1 o1)
  · cases e
theorem t_or {t u : TT} {a b : MB} (ha : SemT K t a) (hb : SemT K u b) : SemT K (tOr t u) (bOr a b) := fun C S H σ ρ o k ρ' e Q q => by
  unfold bOr at e
  split at e
  · rename_i ρ1 h1
    cases e
    exact ha C S H σ ρ o _ _ h1 _ fun S1 H1 e1 o1 => iteT (q S1 H1 e1 o1)
  · rename_i ρ1 h1
    exact ha C S H σ ρ o _ _ h1 _ fun S1 H1 e1 o1 => iteF (hb C S1 H1 σ ρ1 o1 _ _ e Q fun S2 H2 e2 o2 => q S2 H2 (e1.trans e2) o2)
  · cases e
theorem t_not {t : TT} {a : MB} (ha : SemT K t a) : SemT K (tNot t) (bNot a) := fun C S H σ ρ o k ρ' e Q q => by
  unfold bNot at e
  split at e
  · rename_i b ρ1 h1
    cases e
    exact ha C S H σ ρ o _ _ h1 _ fun S1 H1 e1 o1 => q S1 H1 e1 o1
  · cases e
theorem s_and {t u : TE} {a b : M} (ha : Sem K t a) (hb : Sem K u b) : Sem K (tAndV t u) (mAnd a b) := fun C S H σ ρ o k ρ' e Q q => by
  unfold mAnd at e
  split at e
  · rename_i ρ1 h1
    refine ha C S H σ ρ o _ _ h1 _ fun v S1 H1 e1 o1 r1 => ?_
    cases r1
    exact ⟨_, rfl, iteT (hb C S1 H1 σ ρ1 o1 _ _ e Q fun v S2 H2 e2 o2 r2 => q v S2 H2 (e1.trans e2) o2 r2)⟩
  · rename_i ρ1 h1
    cases e
    refine ha C S H σ ρ o _ _ h1 _ fun v S1 H1 e1 o1 r1 => ?_
    cases r1
    exact ⟨_, rfl, iteF (q _ S1 H1 e1 o1 (.bl false))⟩
  · cases e
theorem s_or {t u : TE} {a b : M} (ha : Sem K t a) (hb : Sem K u b) : Sem K (tOrV t u) (mOr a b) := fun C S H σ ρ o k ρ' e Q q => by
  unfold mOr at e
  split at e
  · rename_i ρ1 h1
    cases e
    refine ha C S H σ ρ o _ _ h1 _ fun v S1 H1 e1 o1 r1 => ?_
    cases r1
    exact ⟨_, rfl, iteT (q _ S1 H1 e1 o1 (.bl true))⟩
  · rename_i ρ1 h1
    refine ha C S H σ ρ o _ _ h1 _ fun v S1 H1 e1 o1 r1 => ?_
    cases r1
    exact ⟨_, rfl, iteF (hb C S1 H1 σ ρ1 o1 _ _ e Q fun v S2 H2 e2 o2 r2 => q v S2 H2 (e1.trans e2) o2 r2)⟩
  · cases e
theorem s_not {t : TE} {a : M} (ha : Sem K t a) : Sem K (tNotV t) (mNot a) := fun C S H σ ρ o k ρ' e Q q => by
  unfold mNot at e
  split at e
  · rename_i b ρ1 h1
    cases e
    refine ha C S H σ ρ o _ _ h1 _ fun v S1 H1 e1 o1 r1 => ?_
    cases r1
    exact ⟨_, rfl, q _ S1 H1 e1 o1 (.bl _)⟩
  · cases e
theorem s_ifE {t : TT} {ta tb : TE} {c : MB} {a b : M} (hc : SemT K t c) (ha : Sem K ta a) (hb : Sem K tb b) : Sem K (tIf t ta tb) (mIf c a b) := fun C S H σ ρ o k ρ' e Q q => by
  unfold mIf at e
  split at e
  · rename_i ρ1 h1
    exact hc C S H σ ρ o _ _ h1 _ fun S1 H1 e1 o1 => iteT (ha C S1 H1 σ ρ1 o1 _ _ e Q fun v S2 H2 e2 o2 r2 => q v S2 H2 (e1.trans e2) o2 r2)
  · rename_i ρ1 h1
    exact hc C S H σ ρ o _ _ h1 _ fun S1 H1 e1 o1 => iteF (hb C S1 H1 σ ρ1 o1 _ _ e Q fun v S2 H2 e2 o2 r2 => q v S2 H2 (e1.trans e2) o2 r2)
  · cases e
end
end Dn

/-! Dn3: statements, loops, comprehensions, calls, defs. -/
namespace Dn
open PySem L2
inductive Rv where
  | d (x : PyData)
  | fl (xs : List PyData)
inductive Out where
  | nx (ρ : Ev)
  | rt (r : Rv) (ρ : Ev)
  | bk (ρ : Ev)
  | ct (ρ : Ev)
abbrev MS := Ev → Option Out
def RvIn (K : Frag) (C : Ctx) (S H : Hp) (v : V) : Rv → Prop
  | .d x => Rp K S v x
  | .fl xs => ∃ p, v = .ref p ∧ OwnAt K C S H p xs ∧ ¬ C.NS p
def EndOk (K : Frag) (C : Ctx) (S : Hp) (D : Ends) : Out → Prop
  | .nx ρ' => ∀ σ' S' H', Ex S S' → Ok K C S' H' σ' ρ' → D.nx σ' H'
  | .rt r ρ' => ∀ v σ' S' H', Ex S S' → Ok K C S' H' σ' ρ' → RvIn K C S' H' v r → D.rt v H'
  | .bk ρ' => ∀ σ' S' H', Ex S S' → Ok K C S' H' σ' ρ' → D.bk σ' H'
  | .ct ρ' => ∀ σ' S' H', Ex S S' → Ok K C S' H' σ' ρ' → D.ct σ' H'
def SemS (K : Frag) (t : TS) (m : MS) : Prop := ∀ C S H σ ρ, Ok K C S H σ ρ → ∀ o, m ρ = some o → ∀ D : Ends, EndOk K C S D o → t D σ H

theorem EndOk.mono {K : Frag} {C : Ctx} {S S' : Hp} {D : Ends} {o : Out} (h : EndOk K C S D o) (e : Ex S S') : EndOk K C S' D o := by
  cases o with
  | nx ρ => exact fun σ' S1 H1 e1 o1 => h σ' S1 H1 (e.trans e1) o1
  | rt r ρ => exact fun v σ' S1 H1 e1 o1 r1 => h v σ' S1 H1 (e.trans e1) o1 r1
  | bk ρ => exact fun σ' S1 H1 e1 o1 => h σ' S1 H1 (e.trans e1) o1
  | ct ρ => exact fun σ' S1 H1 e1 o1 => h σ' S1 H1 (e.trans e1) o1

/-! ### the words -/
def mNext : MS := fun ρ => some (.nx ρ)
def mSeq (a b : MS) : MS := fun ρ => match a ρ with
  | some (.nx ρ1) => b ρ1
  | r => r
def mRet (a : M) : MS := fun ρ => match a ρ with
  | some (x, ρ1) => some (.rt (.d x) ρ1)
  | none => none
def mRetF (a : ML) : MS := fun ρ => match a ρ with
  | some (x, ρ1) => some (.rt (.fl x) ρ1)
  | none => none
def mRetO (i : Nat) : MS := fun ρ => match ρ[i]? with
  | some (.ol x) => some (.rt (.fl x) ρ)
  | _ => none
def putD (i : Nat) (x : Sv) (ρ : Ev) : Option Ev := match ρ[i]? with
  | some (.io _) => none
  | some _ => some (ρ.set i x)
  | none => none
def mSet (i : Nat) (a : M) : MS := fun ρ => match a ρ with
  | some (x, ρ1) => match putD i (.d x) ρ1 with
    | some ρ2 => some (.nx ρ2)
    | none => none
  | none => none
def mSetF (i : Nat) (a : ML) : MS := fun ρ => match a ρ with
  | some (x, ρ1) => match putD i (.ol x) ρ1 with
    | some ρ2 => some (.nx ρ2)
    | none => none
  | none => none
def mDrop (a : M) : MS := fun ρ => match a ρ with
  | some (_, ρ1) => some (.nx ρ1)
  | none => none
def mIfS (c : MB) (a b : MS) : MS := fun ρ => match c ρ with
  | some (true, ρ1) => a ρ1
  | some (false, ρ1) => b ρ1
  | none => none
/-- a slot of one's own becomes data (it is not changed any more) -/
def mShare (i : Nat) : MS := fun ρ => match ρ[i]? with
  | some (.ol x) => some (.nx (ρ.set i (.d (.list x))))
  | _ => none

section
variable {K : Frag}
theorem s_next : SemS K tNext mNext := fun C S H σ ρ o out e D q => by
  cases e
  exact q σ S H (.refl _) o
theorem s_seq {t u : TS} {a b : MS} (ha : SemS K t a) (hb : SemS K u b) : SemS K (tSeq t u) (mSeq a b) := fun C S H σ ρ o out e D q => by
  have go : ∀ r, a ρ = some r → (∀ ρ1, r = .nx ρ1 → b ρ1 = some out) → ((∀ ρ1, r ≠ .nx ρ1) → r = out) → tSeq t u D σ H := fun r h1 h2 h3 => by
    refine ha C S H σ ρ o r h1 _ ?_
    cases r with
    | nx ρ1 => exact fun σ' S1 H1 e1 o1 => hb C S1 H1 σ' ρ1 o1 out (h2 ρ1 rfl) D (q.mono e1)
    | rt r ρ1 => cases h3 (fun _ z => nomatch z); exact q
    | bk ρ1 => cases h3 (fun _ z => nomatch z); exact q
    | ct ρ1 => cases h3 (fun _ z => nomatch z); exact q
  unfold mSeq at e
  split at e
  · rename_i ρ1 h1
    exact go _ h1 (fun ρ2 z => by cases z; exact e) (fun z => absurd rfl (z ρ1))
  · rename_i h1
    exact go out e (fun ρ2 z => (h1 ρ2 (e.trans (congrArg some z))).elim) (fun _ => rfl)
theorem s_ret {te : TE} {a : M} (h : Sem K te a) : SemS K (tRet te) (mRet a) := fun C S H σ ρ o out e D q => by
  unfold mRet at e
  split at e
  · rename_i x ρ1 h1
    cases e
    exact h C S H σ ρ o _ _ h1 _ fun v S1 H1 e1 o1 r1 => q v σ S1 H1 e1 o1 r1
  · cases e
theorem s_retN : SemS K tRetN (mRet (mC .none)) := fun C S H σ ρ o out e D q => by
  cases e
  exact q .non σ S H (.refl _) o .non
theorem s_retF {te : TE} {a : ML} (h : SemF K te a) : SemS K (tRet te) (mRetF a) := fun C S H σ ρ o out e D q => by
  unfold mRetF at e
  split at e
  · rename_i x ρ1 h1
    cases e
    exact h C S H σ ρ o _ _ h1 _ fun p S1 H1 e1 o1 w n _ => q _ σ S1 H1 e1 o1 ⟨p, rfl, w, n⟩
  · cases e
theorem s_retO {i : Nat} : SemS K (tRet (tVar i)) (mRetO i) := fun C S H σ ρ o out e D q => by
  unfold mRetO at e
  split at e
  · rename_i x h1
    cases e
    obtain ⟨p, e1, n, w⟩ := o.slot i _ h1
    exact ⟨_, e1, q _ σ S H (.refl _) o ⟨p, rfl, w, n⟩⟩
  · cases e
theorem putD_ok {C : Ctx} {S H : Hp} {σ : L2.St} {ρ ρ' : Ev} {i : Nat} {y : Sv} {v : V} (o : Ok K C S H σ ρ) (h : putD i y ρ = some ρ') (hs : SlotOk K C S H i (some (some v)) y) (hd : y.own = true → ∀ p, v = .ref p → NoSlot σ ρ p) :
    Ok K C S H (σ.set i (some v)) ρ' := by
  unfold putD at h
  split at h
  · cases h
  · rename_i z _ h1
    cases h
    exact o.store (by rw [← o.len]; exact (List.getElem?_eq_some_iff.mp h1).1) hs hd
  · cases h
theorem s_set {i : Nat} {te : TE} {a : M} (h : Sem K te a) : SemS K (tAsg te (gName i)) (mSet i a) := fun C S H σ ρ o out e D q => by
  unfold mSet at e
  split at e
  · rename_i x ρ1 h1
    split at e
    · rename_i ρ2 h2
      cases e
      exact h C S H σ ρ o _ _ h1 _ fun v S1 H1 e1 o1 r1 => q _ S1 H1 e1 (putD_ok o1 h2 ⟨v, rfl, r1⟩ (fun z => by cases z))
    · cases e
  · cases e
theorem s_setF {i : Nat} {te : TE} {a : ML} (h : SemF K te a) : SemS K (tAsg te (gName i)) (mSetF i a) := fun C S H σ ρ o out e D q => by
  unfold mSetF at e
  split at e
  · rename_i x ρ1 h1
    split at e
    · rename_i ρ2 h2
      cases e
      exact h C S H σ ρ o _ _ h1 _ fun p S1 H1 e1 o1 w n s => q _ S1 H1 e1 (putD_ok o1 h2 ⟨p, rfl, n, w⟩ (fun _ p' z => by cases z; exact s))
    · cases e
  · cases e
theorem s_drop {te : TE} {a : M} (h : Sem K te a) : SemS K (tDrop te) (mDrop a) := fun C S H σ ρ o out e D q => by
  unfold mDrop at e
  split at e
  · rename_i x ρ1 h1
    cases e
    exact h C S H σ ρ o _ _ h1 _ fun v S1 H1 e1 o1 r1 => q σ S1 H1 e1 o1
  · cases e
theorem s_if {c : TT} {t u : TS} {b : MB} {x y : MS} (hc : SemT K c b) (ht : SemS K t x) (hu : SemS K u y) : SemS K (tIfS c t u) (mIfS b x y) := fun C S H σ ρ o out e D q => by
  unfold mIfS at e
  split at e
  · rename_i ρ1 h1
    exact hc C S H σ ρ o _ _ h1 _ fun S1 H1 e1 o1 => iteT (ht C S1 H1 σ ρ1 o1 out e D (q.mono e1))
  · rename_i ρ1 h1
    exact hc C S H σ ρ o _ _ h1 _ fun S1 H1 e1 o1 => iteF (hu C S1 H1 σ ρ1 o1 out e D (q.mono e1))
  · cases e
/-- at any place: a slot of one's own becomes data -/
theorem s_share {i : Nat} {t : TS} {m : MS} (h : SemS K t m) : SemS K t (mSeq (mShare i) m) := fun C S H σ ρ o out e D q => by
  unfold mSeq mShare at e
  split at e
  · rename_i ρ1 h0
    split at h0
    · rename_i x h1
      cases h0
      obtain ⟨p, e1, n, w⟩ := o.slot i _ h1
      obtain ⟨vs, h2, h3⟩ := w.h
      have li : i < σ.length := by rw [← o.len]; exact (List.getElem?_eq_some_iff.mp h1).1
      have ho := o.forget i (some (V.ref p))
      have es : σ.set i (some (V.ref p)) = σ := by
        apply List.ext_getElem?
        intro j
        by_cases hj : i = j
        · subst hj; rw [List.getElem?_set_self li, e1]
        · rw [List.getElem?_set_ne hj]
      rw [es] at ho
      have ns : NoSlot σ (ρ.set i .un) p := fun j x ej wx sj => by
        by_cases hj : j = i
        · subst hj
          rw [List.getElem?_set_self (List.getElem?_eq_some_iff.mp h1).1] at ej
          cases ej
          cases wx
        · rw [List.getElem?_set_ne (Ne.symm hj)] at ej
          exact hj (o.dist j i x _ p ej h1 wx rfl sj e1)
      have of := ho.freeze h2 w.s n ns
      have ex : Ex S (upd S p (.lst vs)) := .new w.s
      have os := of.store (i := i) (v := V.ref p) (y := .d (.list x)) li ⟨_, rfl, .lst (sql_of upd_same) (h3.mono ex)⟩ (fun z => by cases z)
      rw [es, List.set_set] at os
      exact h C _ H σ _ os out e D (q.mono ex)
    · cases h0
  · rename_i h1
    split at e
    · rename_i x h2
      exact (h1 _ (by rw [h2])).elim
    · cases e

/-! ### targets -/
/-- a target that takes data; it changes the slots is -/
def SemG (K : Frag) (g : TG) (is : List Nat) (f : PyData → Ev → Option Ev) : Prop := ∀ C S H σ ρ, Ok K C S H σ ρ → ∀ v d ρ', Rp K S v d → f d ρ = some ρ' → ∀ Q : L2.St → Hp → Prop,
  (∀ σ', Ok K C S H σ' ρ' → (∀ j : Nat, j ∉ is → σ'[j]? = σ[j]?) → σ'.length = σ.length → Q σ' H) → g v σ H Q
def SemGs (K : Frag) (g : TGs) (is : List Nat) (f : List PyData → Ev → Option Ev) : Prop := ∀ C S H σ ρ, Ok K C S H σ ρ → ∀ vs ds ρ', RpAll K S vs ds → f ds ρ = some ρ' → ∀ Q : L2.St → Hp → Prop,
  (∀ σ', Ok K C S H σ' ρ' → (∀ j : Nat, j ∉ is → σ'[j]? = σ[j]?) → σ'.length = σ.length → Q σ' H) → g vs σ H Q
def gD (i : Nat) : PyData → Ev → Option Ev := fun d ρ => putD i (.d d) ρ
def gNilD : List PyData → Ev → Option Ev := fun ds ρ => match ds with
  | [] => some ρ
  | _ => none
def gConsD (f : PyData → Ev → Option Ev) (g : List PyData → Ev → Option Ev) : List PyData → Ev → Option Ev := fun ds ρ => match ds with
  | d :: r => match f d ρ with
    | some ρ1 => g r ρ1
    | none => none
  | [] => none
def gTupD (n : Nat) (g : List PyData → Ev → Option Ev) : PyData → Ev → Option Ev := fun d ρ => match d with
  | .tuple ds => if ds.length = n then g ds ρ else none
  | _ => none
theorem g_name {i : Nat} : SemG K (gName i) [i] (gD i) := fun C S H σ ρ o v d ρ' r h Q q => by
  refine q _ (putD_ok o h ⟨v, rfl, r⟩ (fun z => by cases z)) (fun j hj => ?_) (by rw [List.length_set])
  rw [List.getElem?_set_ne (fun z => hj (by simp [z]))]
theorem g_nil : SemGs K gNil [] gNilD := fun C S H σ ρ o vs ds ρ' r h Q q => by
  unfold gNilD at h
  split at h
  · cases h
    cases r
    exact ⟨rfl, q σ o (fun _ _ => rfl) rfl⟩
  · cases h
theorem g_cons {g : TG} {gs : TGs} {is js : List Nat} {f : PyData → Ev → Option Ev} {fs : List PyData → Ev → Option Ev} (h1 : SemG K g is f) (h2 : SemGs K gs js fs) : SemGs K (gCons g gs) (is ++ js) (gConsD f fs) := fun C S H σ ρ o vs ds ρ' r h Q q => by
  unfold gConsD at h
  split at h
  · rename_i d rest
    split at h
    · rename_i ρ1 hf
      cases r with
      | cons r rr =>
        refine ⟨_, _, rfl, h1 C S H σ ρ o _ _ _ r hf _ fun σ1 o1 k1 l1 => ?_⟩
        refine h2 C S H σ1 ρ1 o1 _ _ _ rr h Q fun σ2 o2 k2 l2 => q σ2 o2 (fun j hj => ?_) (l2.trans l1)
        rw [k2 j (fun z => hj (List.mem_append_right _ z)), k1 j (fun z => hj (List.mem_append_left _ z))]
    · cases h
  · cases h
theorem g_tup {n : Nat} {gs : TGs} {is : List Nat} {fs : List PyData → Ev → Option Ev} (h : SemGs K gs is fs) : SemG K (gTup K n gs) is (gTupD n fs) := fun C S H σ ρ o v d ρ' r hf Q q => by
  unfold gTupD at hf
  split at hf
  · rename_i ds
    split at hf
    · rename_i hl
      cases r with
      | tup hq ra => exact ⟨_, _, rfl, o.exS.t hq, ra.length.trans hl, h C S H σ ρ o _ _ _ ra hf Q q⟩
    · cases hf
  · cases hf
/-- x, y = e -/
def mAsgG (a : M) (f : PyData → Ev → Option Ev) : MS := fun ρ => match a ρ with
  | some (x, ρ1) => match f x ρ1 with
    | some ρ2 => some (.nx ρ2)
    | none => none
  | none => none
theorem s_asgG {te : TE} {a : M} {g : TG} {is : List Nat} {f : PyData → Ev → Option Ev} (h : Sem K te a) (hg : SemG K g is f) : SemS K (tAsg te g) (mAsgG a f) := fun C S H σ ρ o out e D q => by
  unfold mAsgG at e
  split at e
  · rename_i x ρ1 h1
    split at e
    · rename_i ρ2 h2
      cases e
      exact h C S H σ ρ o _ _ h1 _ fun v S1 H1 e1 o1 r1 => hg C S1 H1 σ ρ1 o1 _ _ _ r1 h2 _ fun σ' o2 _ _ => q σ' S1 H1 e1 o2
    · cases e
  · cases e

/-! ### what is walked -/
structure WalkD (K : Frag) (S : Hp) (J : It) (ds : List PyData) : Prop where
  goes : ∀ i H, i < ds.length → Ex S H → J.go i H
  stops : ∀ H, Ex S H → J.stop ds.length H
  yields : ∀ i S1 H x H', i < ds.length → Ex S S1 → Ex S1 H → J.yld i H x H' → ∃ S2, Grow S1 H S2 H' ∧ ∃ d, ds[i]? = some d ∧ Rp K S2 x d
def SemI (K : Frag) (wi : TI) (m : ML) : Prop := ∀ C S H σ ρ, Ok K C S H σ ρ → ∀ ds ρ', m ρ = some (ds, ρ') → ∀ R : It → Hp → Prop, (∀ J S' H', Ex S S' → Ok K C S' H' σ ρ' → WalkD K S' J ds → R J H') → wi σ H R
def forGo (f : PyData → Ev → Option Ev) (b : MS) : List PyData → Ev → Option Out
  | [], ρ => some (.nx ρ)
  | d :: ds, ρ => match f d ρ with
    | none => none
    | some ρ1 => match b ρ1 with
      | some (.nx ρ2) => forGo f b ds ρ2
      | some (.ct ρ2) => forGo f b ds ρ2
      | some (.bk ρ2) => some (.nx ρ2)
      | some (.rt r ρ2) => some (.rt r ρ2)
      | none => none
def mFor (it : ML) (f : PyData → Ev → Option Ev) (b : MS) : MS := fun ρ => match it ρ with
  | some (ds, ρ1) => forGo f b ds ρ1
  | none => none
theorem s_for {wi : TI} {g : TG} {tb : TS} {it : ML} {is : List Nat} {f : PyData → Ev → Option Ev} {b : MS} (hi : SemI K wi it) (hg : SemG K g is f) (hb : SemS K tb b) : SemS K (tFor wi g tb) (mFor it f b) := fun C S H σ ρ o out e D q => by
  unfold mFor at e
  split at e
  · rename_i ds ρ1 h1
    refine hi C S H σ ρ o _ _ h1 _ fun J S1 H1 e1 o1 w => ?_
    refine ⟨fun i m σ' H' => m = ds.length - i ∧ i ≤ ds.length ∧ ∃ S' ρ', Ex S1 S' ∧ Ok K C S' H' σ' ρ' ∧ forGo f b (ds.drop i) ρ' = some out, ⟨ds.length, by simp, Nat.zero_le _, S1, ρ1, .refl _, o1, e⟩, ?_⟩
    rintro i m σ' H' ⟨rfl, hle, S', ρ', ex, o', hgo⟩
    by_cases hlt : i < ds.length
    · refine .inr ⟨w.goes i H' hlt (ex.trans o'.exS), fun σ2 H2 => i + 1 ≤ ds.length ∧ ∃ S2 ρ2, Ex S1 S2 ∧ Ok K C S2 H2 σ2 ρ2 ∧ forGo f b (ds.drop (i + 1)) ρ2 = some out, fun σ2 H2 h2 => ⟨ds.length - (i + 1), by omega, rfl, h2.1, h2.2⟩, fun x H2 hy => ?_⟩
      obtain ⟨S2, gr, d, hd, rx⟩ := w.yields i S' H' x H2 hlt ex o'.exS hy
      have ed : ds.drop i = d :: ds.drop (i + 1) := by
        rw [List.drop_eq_getElem_cons hlt]
        rw [List.getElem?_eq_getElem hlt] at hd
        cases hd
        rfl
      rw [ed] at hgo
      unfold forGo at hgo
      split at hgo
      · cases hgo
      · rename_i ρ2 hf
        refine hg C S2 H2 σ' ρ' (o'.grow gr) _ _ _ rx hf _ fun σ2 o2 _ _ => ?_
        have ex2 := ex.trans gr.s
        split at hgo
        · rename_i ρ3 hb3
          exact hb C S2 H2 σ2 ρ2 o2 _ hb3 _ fun σ3 S3 H3 e3 o3 => ⟨hlt, S3, ρ3, ex2.trans e3, o3, hgo⟩
        · rename_i ρ3 hb3
          exact hb C S2 H2 σ2 ρ2 o2 _ hb3 _ fun σ3 S3 H3 e3 o3 => ⟨hlt, S3, ρ3, ex2.trans e3, o3, hgo⟩
        · rename_i ρ3 hb3
          cases hgo
          exact hb C S2 H2 σ2 ρ2 o2 _ hb3 _ fun σ3 S3 H3 e3 o3 => q σ3 S3 H3 ((e1.trans ex2).trans e3) o3
        · rename_i r ρ3 hb3
          cases hgo
          exact hb C S2 H2 σ2 ρ2 o2 _ hb3 _ fun v σ3 S3 H3 e3 o3 r3 => q v σ3 S3 H3 ((e1.trans ex2).trans e3) o3 r3
        · cases hgo
    · have ei : i = ds.length := by omega
      subst ei
      rw [List.drop_length] at hgo
      cases hgo
      exact .inl ⟨w.stops H' (ex.trans o'.exS), q σ' S' H' (e1.trans ex) o'⟩
  · cases e
end
end Dn

/-! Dn4: comprehensions, calls, defs. -/
namespace Dn
open PySem L2
def fits (n : Nat) : Bool := decide (n ≤ sizeLine)
/-! ### an object that is being made -/
def Ctx.with (C : Ctx) (D : Addr) (u : HO) : Ctx := { F := upd C.F D u, NS := fun a => C.NS a ∨ a = D, pin := C.pin }
section
variable {K : Frag} {C : Ctx} {S H : Hp} {σ : L2.St} {ρ : Ev}
theorem Ok.with (o : Ok K C S H σ ρ) {D : Addr} {u : HO} (h : H D = none) : Ok K (C.with D u) S (upd H D u) σ ρ := by
  have own : ∀ p xs, OwnAt K C S H p xs → p ≠ D ∧ OwnAt K (C.with D u) S (upd H D u) p xs := fun p xs w => by
    obtain ⟨vs, h1, h2⟩ := w.h
    have ne : p ≠ D := ne_of_none h1 h
    exact ⟨ne, by show upd C.F D u p = none; rw [upd_ne ne]; exact w.f, w.s, vs, by rw [upd_ne ne]; exact h1, h2⟩
  refine ⟨o.exF.both, o.exS.trans (.new h), fun a ha => ?_, fun i x e => ?_, o.dist, o.len⟩
  · rcases ha with ha | rfl
    · exact ⟨(o.ns a ha).1, ne_none_of (.new h) (o.ns a ha).2⟩
    · exact ⟨o.exS.free h, by rw [upd_same]; simp⟩
  · have q := o.slot i x e
    cases x with
    | un => trivial
    | d x => exact q
    | ol xs =>
      obtain ⟨p, e', n, w⟩ := q
      exact ⟨p, e', fun z => z.elim n (own p xs w).1, (own p xs w).2⟩
    | io xs =>
      obtain ⟨p, e', n, w⟩ := q
      exact ⟨p, e', n, (own p xs w).2⟩
theorem Ok.withD {D : Addr} {u : HO} (o : Ok K (C.with D u) S H σ ρ) : H D = some u ∧ S D = none ∧ NoSlot σ ρ D := by
  refine ⟨o.exF D u upd_same, (o.ns D (.inr rfl)).1, fun i x e w z => ?_⟩
  have q := o.slot i x e
  have f : (C.with D u).F D = some u := upd_same
  cases x with
  | un => cases w
  | d x => cases w
  | ol xs =>
    obtain ⟨p, e', n, w⟩ := q
    rw [z] at e'; cases e'
    rw [w.f] at f; cases f
  | io xs =>
    obtain ⟨p, e', n, w⟩ := q
    rw [z] at e'; cases e'
    rw [w.f] at f; cases f
theorem Ok.rewith {D : Addr} {u u' : HO} (o : Ok K (C.with D u) S H σ ρ) : Ok K (C.with D u') S (upd H D u') σ ρ := by
  obtain ⟨hD, sD, nD⟩ := o.withD
  have own : ∀ p xs, OwnAt K (C.with D u) S H p xs → OwnAt K (C.with D u') S (upd H D u') p xs := fun p xs w => by
    have ne : p ≠ D := fun z => by
      subst z
      have f : (C.with p u).F p = some u := upd_same
      rw [w.f] at f; cases f
    obtain ⟨vs, h1, h2⟩ := w.h
    have f : upd C.F D u p = none := w.f
    exact ⟨by show upd C.F D u' p = none; rw [upd_ne ne] at f ⊢; exact f, w.s, vs, by rw [upd_ne ne]; exact h1, h2⟩
  refine ⟨fun a x ha => ?_, o.exS.mut sD, fun a ha => ⟨(o.ns a ha).1, ?_⟩, fun i x e => ?_, o.dist, o.len⟩
  · have ha : upd C.F D u' a = some x := ha
    by_cases z : a = D
    · subst z; rw [upd_same] at ha ⊢; exact ha
    · rw [upd_ne z] at ha ⊢
      exact o.exF a x (by show upd C.F D u a = some x; rw [upd_ne z]; exact ha)
  · by_cases z : a = D
    · subst z; rw [upd_same]; simp
    · rw [upd_ne z]; exact (o.ns a ha).2
  · have q := o.slot i x e
    cases x with
    | un => trivial
    | d x => exact q
    | ol xs => obtain ⟨p, e', n, w⟩ := q; exact ⟨p, e', n, own p xs w⟩
    | io xs => obtain ⟨p, e', n, w⟩ := q; exact ⟨p, e', n, own p xs w⟩
theorem Ok.without {D : Addr} {u : HO} (o : Ok K (C.with D u) S H σ ρ) (hF : C.F D = none) : Ok K C S H σ ρ := by
  have own : ∀ p xs, OwnAt K (C.with D u) S H p xs → OwnAt K C S H p xs := fun p xs w => by
    have ne : p ≠ D := fun z => by
      subst z
      have f : (C.with p u).F p = some u := upd_same
      rw [w.f] at f; cases f
    have f : upd C.F D u p = none := w.f
    rw [upd_ne ne] at f
    exact ⟨f, w.s, w.h⟩
  refine ⟨fun a x ha => o.exF a x ?_, o.exS, fun a ha => o.ns a (.inl ha), fun i x e => ?_, o.dist, o.len⟩
  · show upd C.F D u a = some x
    rw [upd_ne (ne_of_none ha hF)]; exact ha
  · have q := o.slot i x e
    cases x with
    | un => trivial
    | d x => exact q
    | ol xs => obtain ⟨p, e', n, w⟩ := q; exact ⟨p, e', fun z => n (.inl z), own p xs w⟩
    | io xs => obtain ⟨p, e', n, w⟩ := q; exact ⟨p, e', n, own p xs w⟩
end
/-! ### comprehensions -/
def wipeE (ρ : Ev) : List Nat → Ev
  | [] => ρ
  | v :: vs => (wipeE ρ vs).set v .un
theorem Ok.wipe {K : Frag} {C : Ctx} {S H : Hp} {σ : L2.St} {ρ : Ev} (o : Ok K C S H σ ρ) : ∀ vs : List Nat, Ok K C S H (wipe σ vs) (wipeE ρ vs)
  | [] => o
  | v :: vs => (Ok.wipe o vs).forget v none
theorem wipeE_get (ρ : Ev) : ∀ (vs : List Nat) (j : Nat) (x : Sv), (wipeE ρ vs)[j]? = some x → (x = .un ∨ (j ∉ vs ∧ ρ[j]? = some x))
  | [], j, x, h => .inr ⟨by simp, h⟩
  | v :: vs, j, x, h => by
    have h : ((wipeE ρ vs).set v .un)[j]? = some x := h
    by_cases e : v = j
    · subst e
      rw [List.getElem?_set] at h
      simp at h
      exact .inl h.2.symm
    · rw [List.getElem?_set_ne e] at h
      rcases wipeE_get ρ vs j x h with h | ⟨h1, h2⟩
      · exact .inl h
      · exact .inr ⟨fun z => (List.mem_cons.mp z).elim (fun q => e q.symm) h1, h2⟩
theorem wipeE_len (ρ : Ev) : ∀ vs : List Nat, (wipeE ρ vs).length = ρ.length
  | [] => rfl
  | v :: vs => by show ((wipeE ρ vs).set v .un).length = _; rw [List.length_set, wipeE_len ρ vs]
theorem wipe_getO (σ : L2.St) : ∀ (vs : List Nat) (j : Nat), (wipe σ vs)[j]? = if j ∈ vs ∧ j < σ.length then some none else σ[j]?
  | [], j => by simp [wipe]
  | v :: vs, j => by
    show ((wipe σ vs).set v none)[j]? = _
    by_cases e : v = j
    · subst e
      rw [List.getElem?_set]
      by_cases hl : v < σ.length
      · simp [hl, wipe_length]
      · simp [hl, wipe_length]
    · rw [List.getElem?_set_ne e, wipe_getO σ vs j]
      have : ∀ {p : Prop}, (j = v ∨ p) ↔ p := fun {p} => ⟨fun z => z.elim (fun q => absurd q.symm e) id, .inr⟩
      simp only [List.mem_cons, this]
/-- slots outside vs are the same -/
theorem Ok.unwipe {K : Frag} {C : Ctx} {S H : Hp} {σ σ' : L2.St} {ρ : Ev} {vs : List Nat} (o : Ok K C S H σ' ρ) (hw : L2.wipe σ' vs = L2.wipe σ vs) : Ok K C S H σ (wipeE ρ vs) := by
  have hlen : σ'.length = σ.length := by have := congrArg List.length hw; rw [wipe_length, wipe_length] at this; exact this
  have same : ∀ j : Nat, j ∉ vs → σ[j]? = σ'[j]? := fun j hj => by
    have h1 := wipe_getO σ vs j
    have h2 := wipe_getO σ' vs j
    rw [if_neg (fun z => hj z.1)] at h1 h2
    rw [← h1, ← h2, hw]
  refine ⟨o.exF, o.exS, o.ns, fun i x e => ?_, fun i j x y p ei ej wx wy si sj => ?_, by rw [wipeE_len, o.len, hlen]⟩
  · rcases wipeE_get ρ vs i x e with rfl | ⟨h1, h2⟩
    · trivial
    · rw [same i h1]; exact o.slot i x h2
  · rcases wipeE_get ρ vs i x ei with rfl | ⟨h1, h2⟩
    · cases wx
    · rcases wipeE_get ρ vs j y ej with rfl | ⟨h3, h4⟩
      · cases wy
      · rw [same i h1] at si
        rw [same j h3] at sj
        exact o.dist i j x y p h2 h4 wx wy si sj
def lcGo (vs : List Nat) (f : PyData → Ev → Option Ev) (c : MB) (e : M) : List PyData → Ev → Option (List PyData × Ev)
  | [], ρ => some ([], ρ)
  | d :: ds, ρ => match f d (wipeE ρ vs) with
    | none => none
    | some ρ1 => match c ρ1 with
      | none => none
      | some (false, ρ2) => lcGo vs f c e ds ρ2
      | some (true, ρ2) => match e ρ2 with
        | none => none
        | some (x, ρ3) => match lcGo vs f c e ds ρ3 with
          | none => none
          | some (xs, ρ4) => some (x :: xs, ρ4)
def mLc (it : ML) (vs : List Nat) (f : PyData → Ev → Option Ev) (c : MB) (e : M) : ML := fun ρ => match it ρ with
  | some (ds, ρ1) => if fits ds.length then match lcGo vs f c e ds ρ1 with
      | some (xs, ρ2) => some (xs, wipeE ρ2 vs)
      | none => none
    else none
  | none => none
/-- no test -/
def bYes : MB := fun ρ => some (true, ρ)
section
variable {K : Frag}
theorem t_yes : SemT K tYes bYes := fun C S H σ ρ o b ρ' e Q q => by
  cases e
  exact q S H (.refl _) o
theorem wipe_same {σ σ' : L2.St} {is vs : List Nat} (hv : ∀ j ∈ is, j ∈ vs) (k : ∀ j : Nat, j ∉ is → σ'[j]? = (wipe σ vs)[j]?) (hl : σ'.length = (wipe σ vs).length) : wipe σ' vs = wipe σ vs := by
  rw [wipe_length] at hl
  apply List.ext_getElem?
  intro j
  rw [wipe_getO σ' vs j, hl]
  by_cases hj : j ∈ vs
  · by_cases hq : j < σ.length
    · rw [if_pos ⟨hj, hq⟩, wipe_getO, if_pos ⟨hj, hq⟩]
    · rw [if_neg (fun z => hq z.2), List.getElem?_eq_none (by omega), List.getElem?_eq_none (by rw [wipe_length]; omega)]
  · rw [if_neg (fun z => hj z.1), k j (fun z => hj (hv j z))]
theorem s_lc {wi : TI} {g : TG} {tt : TT} {te : TE} {vs is : List Nat} {it : ML} {f : PyData → Ev → Option Ev} {c : MB} {e : M} (hi : SemI K wi it) (hg : SemG K g is f) (ht : SemT K tt c) (he : Sem K te e) (hv : ∀ j ∈ is, j ∈ vs := by decide) : SemF K (tLc wi g tt te vs) (mLc it vs f c e) := fun C S H σ ρ o out ρ' em Q q => by
  unfold mLc at em
  split at em
  · rename_i ds ρ1 h1
    split at em
    · rename_i hfit
      have hfit : ds.length ≤ sizeLine := of_decide_eq_true hfit
      split at em
      · rename_i xs ρ2 h2
        cases em
        refine hi C S H σ ρ o _ _ h1 _ fun J S1 H1 e1 o1 w D hD => ?_
        have hFD : C.F D = none := o1.exF.free hD
        have hND : ¬ C.NS D := o1.nons hD
        -- the state ahead of turn i
        refine ⟨fun i m H' => m = ds.length - i ∧ i ≤ ds.length ∧ ∃ S' ρi σi acc done rest, wipe σi vs = wipe σ vs ∧ Ex S1 S' ∧ Ok K (C.with D (.lst acc)) S' H' σi ρi ∧ RpAll K S' acc done ∧ done.length ≤ i ∧ lcGo vs f c e (ds.drop i) ρi = some (rest, ρ2) ∧ out = done ++ rest,
          ⟨ds.length, by simp, Nat.zero_le _, S1, ρ1, σ, [], [], out, rfl, .refl _, o1.with hD, .nil, Nat.le_refl _, h2, rfl⟩, ?_⟩
        rintro i m H' ⟨rfl, hle, S', ρi, σi, acc, done, rest, hw, ex, o', ra, hdl, hgo, hxs⟩
        by_cases hlt : i < ds.length
        · refine .inr ⟨w.goes i H' hlt (ex.trans o'.exS), fun H2 => i + 1 ≤ ds.length ∧ ∃ S2 ρ3 σ3 acc2 done2 rest2, wipe σ3 vs = wipe σ vs ∧ Ex S1 S2 ∧ Ok K (C.with D (.lst acc2)) S2 H2 σ3 ρ3 ∧ RpAll K S2 acc2 done2 ∧ done2.length ≤ i + 1 ∧ lcGo vs f c e (ds.drop (i + 1)) ρ3 = some (rest2, ρ2) ∧ out = done2 ++ rest2,
            fun H2 h2 => ⟨ds.length - (i + 1), by omega, rfl, h2.1, h2.2⟩, fun x H2 hy => ?_⟩
          obtain ⟨S2, gr, d, hd, rx⟩ := w.yields i S' H' x H2 hlt ex o'.exS hy
          have ed : ds.drop i = d :: ds.drop (i + 1) := by
            rw [List.drop_eq_getElem_cons hlt]
            rw [List.getElem?_eq_getElem hlt] at hd
            cases hd
            rfl
          rw [ed] at hgo
          unfold lcGo at hgo
          split at hgo
          · cases hgo
          · rename_i ρ3 hf
            have o2 : Ok K (C.with D (.lst acc)) S2 H2 (wipe σ vs) (wipeE ρi vs) := by
              have z := (o'.grow gr).wipe vs
              rw [hw] at z
              exact z
            refine hg _ S2 H2 _ _ o2 _ _ _ rx hf _ fun σ3 o3 k3 l3 => ?_
            have w3 : wipe σ3 vs = wipe σ vs := wipe_same hv k3 l3
            refine ⟨w3, ?_⟩
            have ex2 := ex.trans gr.s
            split at hgo
            · cases hgo
            · rename_i ρ4 hc
              exact ht _ S2 H2 σ3 ρ3 o3 _ _ hc _ fun S4 H4 e4 o4 => iteF ⟨hlt, S4, ρ4, σ3, acc, done, rest, w3, ex2.trans e4, o4, ra.mono (gr.s.trans e4), Nat.le_succ_of_le hdl, hgo, hxs⟩
            · rename_i ρ4 hc
              split at hgo
              · cases hgo
              · rename_i y ρ5 hel
                split at hgo
                · cases hgo
                · rename_i ys ρ6 hrest
                  cases hgo
                  refine ht _ S2 H2 σ3 ρ3 o3 _ _ hc _ fun S4 H4 e4 o4 => iteT ?_
                  refine he _ S4 H4 σ3 ρ4 o4 _ _ hel _ fun v S5 H5 e5 o5 r5 => ?_
                  have lacc : acc.length = done.length := ra.length
                  refine ⟨acc, o5.withD.1, by omega, hlt, S5, ρ5, σ3, acc ++ [v], done ++ [y], ys, w3, (ex2.trans e4).trans e5, o5.rewith, (ra.mono ((gr.s.trans e4).trans e5)).append (.one r5), by rw [List.length_append]; simp; omega, hrest, by rw [hxs, List.append_assoc]; rfl⟩
        · have ei : i = ds.length := by omega
          subst ei
          rw [List.drop_length] at hgo
          have hgo : some (([] : List PyData), ρi) = some (rest, ρ2) := hgo
          cases hgo
          rw [List.append_nil] at hxs
          subst hxs
          obtain ⟨hD', sD', nD'⟩ := o'.withD
          have o3 := o'.without hFD
          have o4 := o3.unwipe hw
          refine .inl ⟨w.stops H' (ex.trans o'.exS), q D S' H' (e1.trans ex) o4 ⟨hFD, sD', acc, hD', ra⟩ hND fun j z ej wz => ?_⟩
          -- D stands in no slot
          intro sj
          have q' := o4.slot j z ej
          have hz : ∀ zs, OwnAt K C S' H' D zs → False := fun zs _ => by
            rcases wipeE_get _ vs j z ej with rfl | ⟨h3, h4⟩
            · cases wz
            · have same : σi[j]? = σ[j]? := by
                have h5 := wipe_getO σ vs j
                have h6 := wipe_getO σi vs j
                rw [if_neg (fun z => h3 z.1)] at h5 h6
                rw [← h5, ← h6, hw]
              exact nD' j z h4 wz (by rw [same]; exact sj)
          cases z with
          | un => cases wz
          | d z => cases wz
          | ol zs =>
            obtain ⟨p, e', n, w'⟩ := q'
            rw [sj] at e'; cases e'
            exact hz zs w'
          | io zs =>
            obtain ⟨p, e', n, w'⟩ := q'
            rw [sj] at e'; cases e'
            exact hz zs w'
      · cases em
    · cases em
  · cases em
end
end Dn

/-! Dn5: calls of defs, defs. -/
namespace Dn
open PySem L2
/-! ### the promise of a def over data; a list of the caller's own may be handed in and changed (io) -/
inductive ArgsOk (K : Frag) (S H : Hp) : List V → List Sv → List Addr → Prop
  | nil : ArgsOk K S H [] [] []
  | d {v : V} {x : PyData} {vs : List V} {as : List Sv} {ps : List Addr} : Rp K S v x → ArgsOk K S H vs as ps → ArgsOk K S H (v :: vs) (.d x :: as) ps
  | io {p : Addr} {us : List V} {xs : List PyData} {vs : List V} {as : List Sv} {ps : List Addr} : S p = none → H p = some (.lst us) → RpAll K S us xs → ArgsOk K S H vs as ps → ArgsOk K S H (.ref p :: vs) (.io xs :: as) (p :: ps)
inductive IoEnd (K : Frag) (S H : Hp) : List Addr → List (List PyData) → Prop
  | nil : IoEnd K S H [] []
  | cons {p : Addr} {us : List V} {xs : List PyData} {ps : List Addr} {xss : List (List PyData)} : H p = some (.lst us) → RpAll K S us xs → IoEnd K S H ps xss → IoEnd K S H (p :: ps) (xs :: xss)
def RvOk (K : Frag) (H S' H' : Hp) (v : V) : Rv → Prop
  | .d x => Rp K S' v x
  | .fl xs => ∃ p us, v = .ref p ∧ H p = none ∧ S' p = none ∧ H' p = some (.lst us) ∧ RpAll K S' us xs
abbrev Fm := List Sv → Option (Rv × List (List PyData))
def spG (K : Frag) (n : Nat) (F : Fm) : Sp := fun vs H Q _ => vs.length = n ∧ ∃ S as ps r out, Ex S H ∧ ArgsOk K S H vs as ps ∧ ps.Nodup ∧ F as = some (r, out) ∧
  ∀ v S' H', Ex S S' → Ex S' H' → (∀ a o, H a = some o → a ∉ ps → H' a = some o) → (∀ a, S a = none → H a ≠ none → S' a = none) → IoEnd K S' H' ps out → RvOk K H S' H' v r → Q v H'
theorem ArgsOk.length {K : Frag} {S H : Hp} : ∀ {vs : List V} {as : List Sv} {ps : List Addr}, ArgsOk K S H vs as ps → vs.length = as.length
  | _, _, _, .nil => rfl
  | _, _, _, .d _ r => congrArg (· + 1) (ArgsOk.length r)
  | _, _, _, .io _ _ _ r => congrArg (· + 1) (ArgsOk.length r)
/-- what the io lists are at the end -/
def ioOut : List Sv → Ev → Option (List (List PyData))
  | [], _ => some []
  | .io _ :: as, .io xs :: ρ => (ioOut as ρ).map (xs :: ·)
  | .d _ :: as, _ :: ρ => ioOut as ρ
  | _, _ => none
def fnD (pad : Nat) (b : MS) : Fm := fun as => match b (as ++ List.replicate pad .un) with
  | some (.rt r ρ) => (ioOut as ρ).map (r, ·)
  | some (.nx ρ) => (ioOut as ρ).map (.d .none, ·)
  | _ => none
def pinOf : List V → List Sv → Nat → Option Addr
  | .ref p :: _, .io _ :: _, 0 => some p
  | _ :: vs, _ :: as, i + 1 => pinOf vs as i
  | _, _, _ => none
def noF (H : Hp) (ps : List Addr) : Hp := fun a => if a ∈ ps then none else H a
section
variable {K : Frag} {S H : Hp}
theorem ArgsOk.mem : ∀ {vs : List V} {as : List Sv} {ps : List Addr}, ArgsOk K S H vs as ps → ∀ p ∈ ps, S p = none ∧ ∃ us, H p = some (.lst us)
  | _, _, _, .nil, p, h => by cases h
  | _, _, _, .d _ r, p, h => ArgsOk.mem r p h
  | _, _, _, .io h1 h2 _ r, p, h => by
    rcases List.mem_cons.mp h with rfl | h
    · exact ⟨h1, _, h2⟩
    · exact ArgsOk.mem r p h
theorem ArgsOk.slot : ∀ {vs : List V} {as : List Sv} {ps : List Addr}, ArgsOk K S H vs as ps → ∀ (i : Nat) (x : Sv), as[i]? = some x →
    (∃ v y, x = .d y ∧ vs[i]? = some v ∧ Rp K S v y) ∨ (∃ p us xs, x = .io xs ∧ vs[i]? = some (.ref p) ∧ p ∈ ps ∧ pinOf vs as i = some p ∧ S p = none ∧ H p = some (.lst us) ∧ RpAll K S us xs)
  | _, _, _, .nil, i, x, h => by simp at h
  | _, _, _, .d r _, 0, x, h => by simp at h; subst h; exact .inl ⟨_, _, rfl, rfl, r⟩
  | _, _, _, .d (v := v) _ r, i + 1, x, h => by
    rcases ArgsOk.slot r i x (by simpa using h) with ⟨v', y, h1, h2, h3⟩ | ⟨p, us, xs, h1, h2, h3, h4, h5, h6, h7⟩
    · exact .inl ⟨v', y, h1, by simpa using h2, h3⟩
    · refine .inr ⟨p, us, xs, h1, by simpa using h2, h3, ?_, h5, h6, h7⟩
      cases v <;> simpa [pinOf] using h4
  | _, _, _, .io h1 h2 h3 r, 0, x, h => by simp at h; subst h; exact .inr ⟨_, _, _, rfl, rfl, List.mem_cons_self, rfl, h1, h2, h3⟩
  | _, _, _, .io _ _ _ r, i + 1, x, h => by
    rcases ArgsOk.slot r i x (by simpa using h) with ⟨v', y, h1, h2, h3⟩ | ⟨p, us, xs, h1, h2, h3, h4, h5, h6, h7⟩
    · exact .inl ⟨v', y, h1, by simpa using h2, h3⟩
    · exact .inr ⟨p, us, xs, h1, by simpa using h2, List.mem_cons_of_mem _ h3, by simpa [pinOf] using h4, h5, h6, h7⟩
theorem ArgsOk.inj : ∀ {vs : List V} {as : List Sv} {ps : List Addr}, ArgsOk K S H vs as ps → ps.Nodup → ∀ (i j : Nat) (xs ys : List PyData) (p : Addr), as[i]? = some (.io xs) → as[j]? = some (.io ys) → vs[i]? = some (.ref p) → vs[j]? = some (.ref p) → i = j := by
  intro vs as ps h
  induction h with
  | nil => intro _ i j xs ys p h; simp at h
  | d r t ih =>
    intro nd i j xs ys p h1 h2 h3 h4
    cases i with
    | zero => simp at h1
    | succ i =>
      cases j with
      | zero => simp at h2
      | succ j => exact congrArg (· + 1) (ih nd i j xs ys p (by simpa using h1) (by simpa using h2) (by simpa using h3) (by simpa using h4))
  | io a b c t ih =>
    intro nd i j xs ys p h1 h2 h3 h4
    have nd := List.nodup_cons.mp nd
    cases i with
    | zero =>
      cases j with
      | zero => rfl
      | succ j =>
        simp at h3
        subst h3
        rcases t.slot j (.io ys) (by simpa using h2) with ⟨v', y, q1, _⟩ | ⟨p', us, zs, q1, q2, q3, _⟩
        · cases q1
        · have h4 : _ := h4
          simp at h4
          rw [q2] at h4
          cases h4
          exact absurd q3 nd.1
    | succ i =>
      cases j with
      | zero =>
        simp at h4
        subst h4
        rcases t.slot i (.io xs) (by simpa using h1) with ⟨v', y, q1, _⟩ | ⟨p', us, zs, q1, q2, q3, _⟩
        · cases q1
        · simp at h3
          rw [q2] at h3
          cases h3
          exact absurd q3 nd.1
      | succ j => exact congrArg (· + 1) (ih nd.2 i j xs ys p (by simpa using h1) (by simpa using h2) (by simpa using h3) (by simpa using h4))
/-- a def's first state -/
theorem ok_start {vs : List V} {as : List Sv} {ps : List Addr} {N : List Str} (e : Ex S H) (h : ArgsOk K S H vs as ps) (nd : ps.Nodup) :
    Ok K { F := noF H ps, NS := fun a => S a = none ∧ H a ≠ none, pin := pinOf vs as } S H (L2.start N vs) (as ++ List.replicate (N.length - vs.length) .un) := by
  have hl := h.length
  have cut : ∀ (i : Nat) (x : Sv), (as ++ List.replicate (N.length - vs.length) Sv.un)[i]? = some x → x = .un ∨ (i < as.length ∧ as[i]? = some x) := fun i x hx => by
    by_cases hi : i < as.length
    · rw [List.getElem?_append_left hi] at hx
      exact .inr ⟨hi, hx⟩
    · rw [List.getElem?_append_right (by omega)] at hx
      rw [List.getElem?_replicate] at hx
      split at hx
      · cases hx; exact .inl rfl
      · cases hx
  have st : ∀ i : Nat, i < as.length → (L2.start N vs)[i]? = vs[i]?.map some := fun i hi => by
    unfold L2.start
    rw [List.getElem?_append_left (by rw [List.length_map]; omega), List.getElem?_map]
  refine ⟨fun a o ha => ?_, e, fun a ha => ha, fun i x hx => ?_, fun i j x y p hi hj wx wy si sj => ?_, ?_⟩
  · have ha : (if a ∈ ps then none else H a) = some o := ha
    split at ha
    · cases ha
    · exact ha
  · rcases cut i x hx with rfl | ⟨hi, hx⟩
    · trivial
    · rw [st i hi]
      rcases h.slot i x hx with ⟨v, y, rfl, h2, h3⟩ | ⟨p, us, xs, rfl, h2, h3, h4, h5, h6, h7⟩
      · exact ⟨v, by rw [h2]; rfl, h3⟩
      · exact ⟨p, by rw [h2]; rfl, h4, ⟨if_pos h3, h5, us, h6, h7⟩⟩
  · rcases cut i x hi with rfl | ⟨li, hi⟩
    · cases wx
    · rcases cut j y hj with rfl | ⟨lj, hj⟩
      · cases wy
      · rw [st i li] at si
        rw [st j lj] at sj
        rcases h.slot i x hi with ⟨v, z, rfl, _⟩ | ⟨q, us, xs, rfl, h2, _⟩
        · cases wx
        · rcases h.slot j y hj with ⟨v, z, rfl, _⟩ | ⟨q', us', ys, rfl, h2', _⟩
          · cases wy
          · rw [h2] at si
            rw [h2'] at sj
            have e1 : q = p := by simpa using si
            have e2 : q' = p := by simpa using sj
            subst e1
            subst e2
            exact h.inj nd i j xs ys _ hi hj h2 h2'
  · unfold L2.start
    simp [hl]
theorem ioEnd_of {C : Ctx} {S' H' : Hp} : ∀ {vs : List V} {as : List Sv} {ps : List Addr} (off : Nat) (σ : L2.St) (ρ : Ev) (out : List (List PyData)), ArgsOk K S H vs as ps → (∀ (i : Nat) (x : Sv), ρ[i]? = some x → SlotOk K C S' H' (off + i) σ[off + i]? x) →
    (∀ i : Nat, i < as.length → C.pin (off + i) = pinOf vs as i) → ioOut as ρ = some out → IoEnd K S' H' ps out
  | _, _, _, off, σ, ρ, out, .nil, hs, hp, h => by
    have h : some [] = some out := h
    cases h
    exact .nil
  | _, _, _, off, σ, ρ, out, .d (v := v) (vs := vs) (as := as) r t, hs, hp, h => by
    cases ρ with
    | nil => simp [ioOut] at h
    | cons z ρ =>
      refine ioEnd_of (C := C) (off + 1) σ ρ out t (fun i x hx => ?_) (fun i hi => ?_) (by simpa [ioOut] using h)
      · have := hs (i + 1) x (by simpa using hx)
        rw [show off + 1 + i = off + (i + 1) by omega]
        exact this
      · have := hp (i + 1) (by simp; omega)
        rw [show off + 1 + i = off + (i + 1) by omega, this]
        cases v <;> rfl
  | _, _, _, off, σ, ρ, out, .io (p := p) (as := as) h1 h2 h3 t, hs, hp, h => by
    cases ρ with
    | nil => simp [ioOut] at h
    | cons z ρ =>
      cases z with
      | io xs =>
        have h : (ioOut as ρ).map (xs :: ·) = some out := h
        cases ho : ioOut as ρ with
        | none => rw [ho] at h; cases h
        | some o2 =>
          rw [ho] at h
          cases h
          have q := hs 0 (.io xs) rfl
          obtain ⟨p', e1, e2, w⟩ := q
          have e3 := hp 0 (by simp)
          rw [Nat.add_zero] at e2 e3
          rw [e3] at e2
          have e4 : p = p' := by simpa [pinOf] using e2
          subst e4
          obtain ⟨us, h5, h6⟩ := w.h
          refine .cons h5 h6 (ioEnd_of (C := C) (off + 1) σ ρ o2 t (fun i x hx => ?_) (fun i hi => ?_) ho)
          · have := hs (i + 1) x (by simpa using hx)
            rw [show off + 1 + i = off + (i + 1) by omega]
            exact this
          · have := hp (i + 1) (by simp; omega)
            rw [show off + 1 + i = off + (i + 1) by omega, this]
            rfl
      | un => simp [ioOut] at h
      | d x => simp [ioOut] at h
      | ol x => simp [ioOut] at h
end
/-- THE RULE for a def -/
theorem fn_ok {P : Program} {w : World} {K : Frag} {mg : Str → Option Value} {base : Heap} {x qual : Str} {st : Stmt} {f : Addr} {fd : FuncData} {N ps : List Str} {k : Nat} {b : MS} (F : Fun K x qual st f fd) (S : FnScope N ps (defScope st))
    (hb : ∀ (cdv : Value) (A : Around) (outer : List PySem.Env) (s : Shared) (H : Hp) (E : XK), A.guards = some [] → Room k (A.deeper (PyProof.Rows.envOfC qual (defScope st) s.heap.objs.size f cdv)) → ∃ t, PSs (cxOf CX0 P w K mg base N qual (defScope st) f cdv A outer s H E).nox (defBody st) t ∧ SemS K t b) :
    FnG P w K mg base CX0 (k + 1) f fd ps (spG K ps.length (fnD (N.length - ps.length) b)) := by
  refine Fun_okG F S (fun vs H Q E h => h.1) (fun cdv A outer s H vs Q E hg hr h => ?_)
  obtain ⟨t, ht, hs⟩ := hb cdv A outer s H E hg hr
  refine ⟨t, ht, ?_⟩
  obtain ⟨hl, S0, as, pp, r, out, ex, ha, nd, hF, q⟩ := h
  have o := ok_start (N := N) ex ha nd
  have hal := ha.length
  have fin : ∀ (r' : Rv) (ρ' : Ev) (out' : List (List PyData)) (v : V) (σ' : L2.St) (S' H' : Hp), ioOut as ρ' = some out' → (r', out') = (r, out) → Ex S0 S' → Ok K { F := noF H pp, NS := fun a => S0 a = none ∧ H a ≠ none, pin := pinOf vs as } S' H' σ' ρ' →
      RvIn K { F := noF H pp, NS := fun a => S0 a = none ∧ H a ≠ none, pin := pinOf vs as } S' H' v r' → Q v H' := fun r' ρ' out' v σ' S' H' hio he e' o' rv => by
    cases he
    refine q v S' H' e' o'.exS (fun a u h1 h2 => o'.exF a u (by show (if a ∈ pp then none else H a) = some u; rw [if_neg h2]; exact h1)) (fun a h1 h2 => (o'.ns a ⟨h1, h2⟩).1) (ioEnd_of 0 σ' ρ' out ha (fun i x hx => by rw [Nat.zero_add]; exact o'.slot i x hx) (fun i _ => by rw [Nat.zero_add]) hio) ?_
    cases r with
    | d y => exact rv
    | fl ys =>
      obtain ⟨p, e1, w1, n1⟩ := rv
      obtain ⟨us, h1, h2⟩ := w1.h
      refine ⟨p, us, e1, ?_, w1.s, h1, h2⟩
      have f1 : (if p ∈ pp then none else H p) = none := w1.f
      by_cases hp : p ∈ pp
      · obtain ⟨h3, us', h4⟩ := ha.mem p hp
        exact absurd ⟨h3, by rw [h4]; simp⟩ n1
      · rw [if_neg hp] at f1
        exact f1
  unfold fnD at hF
  rw [← hl] at hF
  split at hF
  · rename_i r1 ρ1 h1
    cases hio : ioOut as ρ1 with
    | none => rw [hio] at hF; cases hF
    | some o1 =>
      rw [hio] at hF
      exact hs _ S0 H _ _ o _ h1 _ fun v σ' S' H' e' o' rv => fin r1 ρ1 o1 v σ' S' H' hio (Option.some.inj hF) e' o' rv
  · rename_i ρ1 h1
    cases hio : ioOut as ρ1 with
    | none => rw [hio] at hF; cases hF
    | some o1 =>
      rw [hio] at hF
      exact hs _ S0 H _ _ o _ h1 _ fun σ' S' H' e' o' => fin (.d .none) ρ1 o1 .non σ' S' H' hio (Option.some.inj hF) e' o' .non
  · cases hF
/-- nothing can be asked of a def at level 0 -/
theorem fn_zero {P : Program} {w : World} {K : Frag} {mg : Str → Option Value} {base : Heap} {f : Addr} {fd : FuncData} {ps : List Str} {n k : Nat} : FnG P w K mg base CX0 k f fd ps (spG K n fun _ => none) := by
  have no : ∀ vs H Q E, ¬ spG K n (fun _ => none) vs H Q E := fun vs H Q E h => by
    obtain ⟨_, S, as, ps, r, out, _, _, _, h, _⟩ := h
    cases h
  exact ⟨fun vs H Q E h => absurd h (no vs H Q E), fun A outer s H args us vs Q E _ _ _ _ _ h => absurd h (no vs H Q E)⟩
end Dn

/-! Dn6: the call of a def, by its promise. -/
namespace Dn
open PySem L2
inductive Ag where
  | d (x : PyData)
  | v (i : Nat)
abbrev MA := Ev → Option (List Ag × Ev)
def aNil : MA := fun ρ => some ([], ρ)
def aD (a : M) (r : MA) : MA := fun ρ => match a ρ with
  | some (x, ρ1) => match r ρ1 with
    | some (xs, ρ2) => some (.d x :: xs, ρ2)
    | none => none
  | none => none
def ownB (ρ : Ev) (i : Nat) : Bool := match ρ[i]? with
  | some x => x.own
  | none => false
def aV (i : Nat) (r : MA) : MA := fun ρ => if ownB ρ i = true then match r ρ with
    | some (xs, ρ2) => some (.v i :: xs, ρ2)
    | none => none
  else none
inductive AgsOk (K : Frag) (S : Hp) (σ : L2.St) : List V → List Ag → Prop
  | nil : AgsOk K S σ [] []
  | d {v : V} {x : PyData} {vs : List V} {as : List Ag} : Rp K S v x → AgsOk K S σ vs as → AgsOk K S σ (v :: vs) (.d x :: as)
  | v {v : V} {i : Nat} {vs : List V} {as : List Ag} : σ[i]? = some (some v) → AgsOk K S σ vs as → AgsOk K S σ (v :: vs) (.v i :: as)
/-- the arguments; own slots by their places (a slot must hold something) -/
def SemAg (K : Frag) (t : TA) (m : MA) : Prop := ∀ C S H σ ρ, Ok K C S H σ ρ → ∀ as ρ', m ρ = some (as, ρ') → ∀ Q : List V → Hp → Prop, (∀ vs S' H', Ex S S' → Ok K C S' H' σ ρ' → AgsOk K S' σ vs as → Q vs H') → t σ H Q
def agSv (ρ : Ev) : List Ag → Option (List Sv)
  | [] => some []
  | .d x :: r => match agSv ρ r with
    | some s => some (.d x :: s)
    | none => none
  | .v i :: r => match ρ[i]? with
    | some (.ol xs) => match agSv ρ r with
      | some s => some (.io xs :: s)
      | none => none
    | some (.io xs) => match agSv ρ r with
      | some s => some (.io xs :: s)
      | none => none
    | _ => none
def agIx : List Ag → List Nat
  | [] => []
  | .d _ :: r => agIx r
  | .v i :: r => i :: agIx r
def putBack (ρ : Ev) : List Nat → List (List PyData) → Option Ev
  | [], [] => some ρ
  | i :: is, xs :: r => match ρ[i]? with
    | some (.ol _) => putBack (ρ.set i (.ol xs)) is r
    | some (.io _) => putBack (ρ.set i (.io xs)) is r
    | _ => none
  | _, _ => none
def mCallG (F : Fm) (a : MA) : Ev → Option (Rv × Ev) := fun ρ => match a ρ with
  | some (as, ρ1) => if (agIx as).Nodup then match agSv ρ1 as with
      | some sv => match F sv with
        | some (r, out) => match putBack ρ1 (agIx as) out with
          | some ρ2 => some (r, ρ2)
          | none => none
        | none => none
      | none => none
    else none
  | none => none
def mCallD (F : Fm) (a : MA) : M := fun ρ => match mCallG F a ρ with
  | some (.d x, ρ1) => some (x, ρ1)
  | some (.fl xs, ρ1) => some (.list xs, ρ1)
  | none => none
def mCallL (F : Fm) (a : MA) : ML := fun ρ => match mCallG F a ρ with
  | some (.fl xs, ρ1) => some (xs, ρ1)
  | _ => none
section
variable {K : Frag}
theorem ag_nil : SemAg K tNil aNil := fun C S H σ ρ o as ρ' e Q q => by
  cases e
  exact q [] S H (.refl _) o .nil
theorem AgsOk.mono {S S' : Hp} {σ : L2.St} (e : Ex S S') : ∀ {vs : List V} {as : List Ag}, AgsOk K S σ vs as → AgsOk K S' σ vs as
  | _, _, .nil => .nil
  | _, _, .d r t => .d (r.mono e) (AgsOk.mono e t)
  | _, _, .v h t => .v h (AgsOk.mono e t)
theorem ag_v {i : Nat} {t : TA} {r : MA} (h : SemAg K t r) : SemAg K (tCons (tVar i) t) (aV i r) := fun C S H σ ρ o as ρ' e Q q => by
  unfold aV at e
  split at e
  · rename_i hw
    split at e
    · rename_i xs ρ2 h1
      cases e
      unfold ownB at hw
      split at hw
      · rename_i x hx
        have hs := o.slot i x hx
        have : ∃ v, σ[i]? = some (some v) := by
          cases x with
          | un => cases hw
          | d x => cases hw
          | ol ys => obtain ⟨p, e, _⟩ := hs; exact ⟨_, e⟩
          | io ys => obtain ⟨p, e, _⟩ := hs; exact ⟨_, e⟩
        obtain ⟨v, ev⟩ := this
        exact ⟨v, ev, h C S H σ ρ o _ _ h1 _ fun vs S' H' e' o' r' => q (v :: vs) S' H' e' o' (.v ev r')⟩
      · cases hw
    · cases e
  · cases e
theorem ag_d {ta : TE} {t : TA} {a : M} {r : MA} (ha : Sem K ta a) (h : SemAg K t r) : SemAg K (tCons ta t) (aD a r) := fun C S H σ ρ o as ρ' e Q q => by
  unfold aD at e
  split at e
  · rename_i x ρ1 h1
    split at e
    · rename_i xs ρ2 h2
      cases e
      refine ha C S H σ ρ o _ _ h1 _ fun v S1 H1 e1 o1 r1 => ?_
      exact h C S1 H1 σ ρ1 o1 _ _ h2 _ fun vs S2 H2 e2 o2 r2 => q (v :: vs) S2 H2 (e1.trans e2) o2 (.d (r1.mono e2) r2)
    · cases e
  · cases e
theorem args_of {C : Ctx} {S H : Hp} {σ : L2.St} {ρ : Ev} (o : Ok K C S H σ ρ) : ∀ {vs : List V} {as : List Ag} {sv : List Sv}, AgsOk K S σ vs as → agSv ρ as = some sv → ∃ ps, ArgsOk K S H vs sv ps ∧ Paired (fun i p => σ[i]? = some (some (V.ref p)) ∧ ∃ x, ρ[i]? = some x ∧ x.own = true) (agIx as) ps
  | _, _, sv, .nil, e => by
    have e : some [] = some sv := e
    cases e
    exact ⟨[], .nil, .nil⟩
  | _, _, sv, .d (as := as) r t, e => by
    unfold agSv at e
    split at e
    · rename_i s h
      cases e
      obtain ⟨ps, h1, h2⟩ := args_of o t h
      exact ⟨ps, .d r h1, h2⟩
    · cases e
  | _, _, sv, .v (i := i) (as := as) ev t, e => by
    unfold agSv at e
    split at e
    · rename_i xs hx
      split at e
      · rename_i s h
        cases e
        obtain ⟨ps, h1, h2⟩ := args_of o t h
        obtain ⟨p, e1, n, w⟩ := o.slot i _ hx
        rw [ev] at e1
        cases e1
        obtain ⟨us, q1, q2⟩ := w.h
        exact ⟨p :: ps, .io w.s q1 q2 h1, .cons ⟨ev, _, hx, rfl⟩ h2⟩
      · cases e
    · rename_i xs hx
      split at e
      · rename_i s h
        cases e
        obtain ⟨ps, h1, h2⟩ := args_of o t h
        obtain ⟨p, e1, n, w⟩ := o.slot i _ hx
        rw [ev] at e1
        cases e1
        obtain ⟨us, q1, q2⟩ := w.h
        exact ⟨p :: ps, .io w.s q1 q2 h1, .cons ⟨ev, _, hx, rfl⟩ h2⟩
      · cases e
    · cases e
theorem paired_mem {α β : Type} {R : α → β → Prop} : ∀ {as : List α} {bs : List β}, Paired R as bs → ∀ b ∈ bs, ∃ a ∈ as, R a b
  | _, _, .nil, b, h => by cases h
  | _, _, .cons r t, b, h => by
    rcases List.mem_cons.mp h with rfl | h
    · exact ⟨_, List.mem_cons_self, r⟩
    · obtain ⟨a, h1, h2⟩ := paired_mem t b h
      exact ⟨a, List.mem_cons_of_mem _ h1, h2⟩
theorem ps_nodup {C : Ctx} {S H : Hp} {σ : L2.St} {ρ : Ev} (o : Ok K C S H σ ρ) : ∀ {is : List Nat} {ps : List Addr}, Paired (fun i p => σ[i]? = some (some (V.ref p)) ∧ ∃ x, ρ[i]? = some x ∧ x.own = true) is ps → is.Nodup → ps.Nodup
  | _, _, .nil, _ => List.nodup_nil
  | _, _, .cons (a := i) (b := p) r t, nd => by
    have nd := List.nodup_cons.mp nd
    refine List.nodup_cons.mpr ⟨fun hp => ?_, ps_nodup o t nd.2⟩
    obtain ⟨j, hj, h1, y, h2, h3⟩ := paired_mem t p hp
    obtain ⟨h4, x, h5, h6⟩ := r
    exact nd.1 ((o.dist i j x y p h5 h2 h6 h3 h4 h1) ▸ hj)
/-- the io lists' new contents are put back -/
theorem put_ok {C : Ctx} {S H' : Hp} {σ : L2.St} : ∀ {is : List Nat} {ps : List Addr} {out : List (List PyData)} {ρ ρ' : Ev} {Hc : Hp}, Ok K C S Hc σ ρ → Paired (fun (i : Nat) (p : Addr) => σ[i]? = some (some (V.ref p))) is ps → IoEnd K S H' ps out → putBack ρ is out = some ρ' → Ok K C S (fun a => if a ∈ ps then H' a else Hc a) σ ρ'
  | _, _, _, ρ, ρ', Hc, o, .nil, .nil, e => by
    have e : some ρ = some ρ' := e
    cases e
    have : (fun a => if a ∈ ([] : List Addr) then H' a else Hc a) = Hc := by funext a; simp
    rw [this]
    exact o
  | _, _, _, ρ, ρ', Hc, o, .cons (a := i) (b := p) (l₁ := is) (l₂ := ps) r t, .cons (us := us) (xs := xs) hp ru tl, e => by
    have eq : (fun a => if a ∈ p :: ps then H' a else Hc a) = fun a => if a ∈ ps then H' a else upd Hc p (.lst us) a := by
      funext a
      by_cases h : a ∈ ps
      · simp [h]
      · by_cases z : a = p
        · subst z
          simp [h, hp, upd_same]
        · simp [h, z, upd_ne z]
    rw [eq]
    unfold putBack at e
    split at e
    · rename_i ys hy
      exact put_ok (o.mutate hy rfl r ru (.ol xs) (.inl ⟨_, rfl, rfl⟩)) t tl e
    · rename_i ys hy
      exact put_ok (o.mutate hy rfl r ru (.io xs) (.inr ⟨_, rfl, rfl⟩)) t tl e
    · cases e
theorem paired_map {α β : Type} {R R' : α → β → Prop} (f : ∀ a b, R a b → R' a b) : ∀ {as : List α} {bs : List β}, Paired R as bs → Paired R' as bs
  | _, _, .nil => .nil
  | _, _, .cons r t => .cons (f _ _ r) (paired_map f t)
theorem call_core {n : Nat} {F : Fm} {t : TA} {a : MA} {E : XK} (h : SemAg K t a) (hn : ∀ ρ as ρ', a ρ = some (as, ρ') → as.length = n) {C : Ctx} {S H : Hp} {σ : L2.St} {ρ ρ' : Ev} {r : Rv} (o : Ok K C S H σ ρ) (e : mCallG F a ρ = some (r, ρ')) {Q : VK}
    (q : ∀ v S' H', Ex S S' → Ok K C S' H' σ ρ' → (∀ x, r = .d x → Rp K S' v x) → (∀ xs, r = .fl xs → ∃ p, v = .ref p ∧ OwnAt K C S' H' p xs ∧ ¬ C.NS p ∧ NoSlot σ ρ' p) → Q v H') : tCall (spG K n F) [] E t σ H Q := by
  unfold mCallG at e
  split at e
  · rename_i as ρ1 h1
    split at e
    · rename_i hnd
      split at e
      · rename_i sv h2
        split at e
        · rename_i r' out h3
          split at e
          · rename_i ρ2 h4
            cases e
            refine h C S H σ ρ o _ _ h1 _ fun vs S1 H1 e1 o1 ra => ?_
            · rw [List.append_nil]
              obtain ⟨ps, hA, hP⟩ := args_of o1 ra h2
              have hlen : vs.length = n := by
                have l1 : vs.length = as.length := by
                  clear h1 hnd h2 h4 hA hP
                  induction ra with
                  | nil => rfl
                  | d _ _ ih => exact congrArg (· + 1) ih
                  | v _ _ ih => exact congrArg (· + 1) ih
                rw [l1]; exact hn _ _ _ h1
              refine ⟨hlen, S1, sv, ps, r, out, o1.exS, hA, ps_nodup o1 hP hnd, h3, fun v S2 H2 e2 eS keep ns io rv => ?_⟩
              have gr : Grow S1 H1 S2 (fun b => if b ∈ ps then H1 b else H2 b) := by
                refine ⟨fun b u hb => ?_, e2, fun b u hb => ?_, ns⟩
                · show (if b ∈ ps then H1 b else H2 b) = some u
                  by_cases hm : b ∈ ps
                  · rw [if_pos hm]; exact hb
                  · rw [if_neg hm]; exact keep b u hb hm
                · show (if b ∈ ps then H1 b else H2 b) = some u
                  by_cases hm : b ∈ ps
                  · obtain ⟨z1, us, z2⟩ := hA.mem b hm
                    have := ns b z1 (by rw [z2]; simp)
                    rw [this] at hb; cases hb
                  · rw [if_neg hm]; exact eS b u hb
              have o2 := o1.grow gr
              have o3 := put_ok (H' := H2) o2 (paired_map (fun _ _ z => z.1) hP) io h4
              have eqH : (fun b => if b ∈ ps then H2 b else (if b ∈ ps then H1 b else H2 b)) = H2 := by
                funext b
                by_cases hm : b ∈ ps <;> simp [hm]
              rw [eqH] at o3
              refine q v S2 H2 (e1.trans e2) o3 (fun x ex => by subst ex; exact rv) (fun xs ex => ?_)
              subst ex
              obtain ⟨p, us, ev, p1, p2, p3, p4⟩ := rv
              refine ⟨p, ev, ⟨o1.exF.free p1, p2, us, p3, p4⟩, o1.nons p1, fun j z ej wz sj => ?_⟩
              -- p is new: it stands in no slot of ρ1, and ρ' has the same slots
              have n1 := o1.noslot p1
              have same : ∀ (is : List Nat) (os : List (List PyData)) (ρa ρb : Ev), putBack ρa is os = some ρb → ∀ (j : Nat) (z : Sv), ρb[j]? = some z → z.own = true → ∃ z', ρa[j]? = some z' ∧ z'.own = true := by
                intro is
                induction is with
                | nil =>
                  intro os ρa ρb hpb j z hj hz
                  cases os with
                  | nil =>
                    have hpb : some ρa = some ρb := hpb
                    cases hpb; exact ⟨z, hj, hz⟩
                  | cons _ _ => cases hpb
                | cons i is ih =>
                  intro os ρa ρb hpb j z hj hz
                  cases os with
                  | nil => cases hpb
                  | cons xs os =>
                    unfold putBack at hpb
                    split at hpb
                    · rename_i ys hy
                      obtain ⟨z', q1, q2⟩ := ih os _ ρb hpb j z hj hz
                      by_cases hij : i = j
                      · subst hij; exact ⟨_, hy, rfl⟩
                      · rw [List.getElem?_set_ne hij] at q1; exact ⟨z', q1, q2⟩
                    · rename_i ys hy
                      obtain ⟨z', q1, q2⟩ := ih os _ ρb hpb j z hj hz
                      by_cases hij : i = j
                      · subst hij; exact ⟨_, hy, rfl⟩
                      · rw [List.getElem?_set_ne hij] at q1; exact ⟨z', q1, q2⟩
                    · cases hpb
              obtain ⟨z', q1, q2⟩ := same _ _ _ _ h4 j z ej wz
              exact n1 j z' q1 q2 sj
          · cases e
        · cases e
      · cases e
    · cases e
  · cases e
def AgLen (a : MA) (n : Nat) : Prop := ∀ ρ as ρ', a ρ = some (as, ρ') → as.length = n
theorem al_nil : AgLen aNil 0 := fun ρ as ρ' e => by cases e; rfl
theorem al_d {a : M} {r : MA} {n : Nat} (h : AgLen r n) : AgLen (aD a r) (n + 1) := fun ρ as ρ' e => by
  unfold aD at e
  split at e
  · split at e
    · rename_i h2
      cases e
      exact congrArg (· + 1) (h _ _ _ h2)
    · cases e
  · cases e
theorem al_v {i : Nat} {r : MA} {n : Nat} (h : AgLen r n) : AgLen (aV i r) (n + 1) := fun ρ as ρ' e => by
  unfold aV at e
  split at e
  · split at e
    · rename_i h2
      cases e
      exact congrArg (· + 1) (h _ _ _ h2)
    · cases e
  · cases e
theorem s_call {n : Nat} {F : Fm} {t : TA} {a : MA} {E : XK} (h : SemAg K t a) (hn : AgLen a n) : Sem K (tCall (spG K n F) [] E t) (mCallD F a) := fun C S H σ ρ o d ρ' e Q q => by
  unfold mCallD at e
  split at e
  · rename_i x ρ1 h1
    cases e
    exact call_core h hn o h1 fun v S' H' e' o' r1 _ => q v S' H' e' o' (r1 _ rfl)
  · rename_i xs ρ1 h1
    cases e
    refine call_core h hn o h1 fun v S' H' e' o' _ r2 => ?_
    obtain ⟨p, rfl, w, n, s⟩ := r2 _ rfl
    obtain ⟨vs, h2, h3⟩ := w.h
    have ex : Ex S' (upd S' p (.lst vs)) := .new w.s
    exact q _ _ _ (e'.trans ex) (o'.freeze h2 w.s n s) (.lst (sql_of upd_same) (h3.mono ex))
  · cases e
theorem s_callF {n : Nat} {F : Fm} {t : TA} {a : MA} {E : XK} (h : SemAg K t a) (hn : AgLen a n) : SemF K (tCall (spG K n F) [] E t) (mCallL F a) := fun C S H σ ρ o d ρ' e Q q => by
  unfold mCallL at e
  split at e
  · rename_i xs ρ1 h1
    cases e
    refine call_core h hn o h1 fun v S' H' e' o' _ r2 => ?_
    obtain ⟨p, rfl, w, n, s⟩ := r2 _ rfl
    exact q p S' H' e' o' w n s
  · cases e
end
end Dn

/-! Dn7: operators and built-ins over data. -/
namespace Dn
open PySem L2
/-! ### two rules in one -/
def orR (r r' : R2) : R2 := fun x y H Q => r x y H Q ∨ r' x y H Q
theorem OpR.or {X : Cx} {f : Value → Value → PySem.Sem Value} {r r' : R2} (a : OpR X f r) (b : OpR X f r') : OpR X f (orR r r') := by
  intro pins s σ H x y v u Q I rx ry h
  rcases h with h | h
  · exact a pins s σ H x y v u Q I rx ry h
  · exact b pins s σ H x y v u Q I rx ry h
def orA (r r' : List V → Hp → VK → Prop) : List V → Hp → VK → Prop := fun xs H Q => r xs H Q ∨ r' xs H Q
theorem CallR.or {X : Cx} {f : Value} {r r' : List V → Hp → VK → Prop} (a : CallR X f r) (b : CallR X f r') : CallR X f (orA r r') := by
  intro pins s σ H xs us Q I rx h
  rcases h with h | h
  · exact a pins s σ H xs us Q I rx h
  · exact b pins s σ H xs us Q I rx h
theorem IxR.or {X : Cx} {r r' : R2} (a : IxR X r) (b : IxR X r') : IxR X (orR r r') := by
  intro value slice pins s σ H x y v u Q I rx ry h hs
  rcases h with h | h
  · exact a value slice pins s σ H x y v u Q I rx ry h hs
  · exact b value slice pins s σ H x y v u Q I rx ry h hs
section
variable {K : Frag}
theorem R2S.orL {r r' : R2} {f : PyData → PyData → Option PyData} (h : R2S K r f) : R2S K (Dn.orR r r') f := fun S H e x y dx dy dz rx ry hf Q q => .inl (h S H e x y dx dy dz rx ry hf Q q)
theorem R2S.orR {r r' : R2} {f : PyData → PyData → Option PyData} (h : R2S K r' f) : R2S K (Dn.orR r r') f := fun S H e x y dx dy dz rx ry hf Q q => .inr (h S H e x y dx dy dz rx ry hf Q q)
/-- the first where it tells, else the second -/
def alt2 (f g : PyData → PyData → Option PyData) : PyData → PyData → Option PyData := fun x y => match f x y with
  | some z => some z
  | none => g x y
theorem R2S.alt {r r' : R2} {f g : PyData → PyData → Option PyData} (h : R2S K r f) (h' : R2S K r' g) : R2S K (Dn.orR r r') (alt2 f g) := fun S H e x y dx dy dz rx ry hf Q q => by
  unfold alt2 at hf
  split at hf
  · rename_i z hz
    cases hf
    exact .inl (h S H e x y dx dy dz rx ry hz Q q)
  · exact .inr (h' S H e x y dx dy dz rx ry hf Q q)
theorem R2F.orR {r r' : R2} {f : PyData → PyData → Option (List PyData)} (h : R2F K r' f) : R2F K (Dn.orR r r') f := fun S H e x y dx dy dz rx ry hf Q q => .inr (h S H e x y dx dy dz rx ry hf Q q)
theorem R2F.orL {r r' : R2} {f : PyData → PyData → Option (List PyData)} (h : R2F K r f) : R2F K (Dn.orR r r') f := fun S H e x y dx dy dz rx ry hf Q q => .inl (h S H e x y dx dy dz rx ry hf Q q)
def altA (f g : List PyData → Option PyData) : List PyData → Option PyData := fun x => match f x with
  | some z => some z
  | none => g x
theorem RAS.alt {r r' : List V → Hp → VK → Prop} {f g : List PyData → Option PyData} (h : RAS K r f) (h' : RAS K r' g) : RAS K (orA r r') (altA f g) := fun S H e x dx dz rx hf Q q => by
  unfold altA at hf
  split at hf
  · rename_i z hz
    cases hf
    exact .inl (h S H e x dx dz rx hz Q q)
  · exact .inr (h' S H e x dx dz rx hf Q q)
/-! ### whole numbers -/
def ii (f : Int → Int → Option PyData) : PyData → PyData → Option PyData := fun x y => match x, y with
  | .int i, .int j => f i j
  | _, _ => none
theorem r_ii {C : Int → Int → Prop} {g : Int → Int → V} {f : Int → Int → Option PyData} (h : ∀ i j d, f i j = some d → C i j ∧ ∀ S, Rp K S (g i j) d) : R2S K (rI C g) (ii f) := fun S H e x y dx dy dz rx ry hf Q q => by
  unfold ii at hf
  split at hf
  · rename_i i j
    cases rx
    cases ry
    obtain ⟨h1, h2⟩ := h i j dz hf
    exact ⟨i, j, rfl, rfl, h1, q _ S H (.refl e) (h2 S)⟩
  · cases hf
theorem r_ii0 {g : Int → Int → V} {f : Int → Int → Option PyData} (h : ∀ i j d, f i j = some d → ∀ S, Rp K S (g i j) d) : R2S K (rI0 g) (ii f) := fun S H e x y dx dy dz rx ry hf Q q => by
  unfold ii at hf
  split at hf
  · rename_i i j
    cases rx
    cases ry
    exact ⟨i, j, rfl, rfl, q _ S H (.refl e) (h i j dz hf S)⟩
  · cases hf
def addI : PyData → PyData → Option PyData := ii fun i j => some (.int (i + j))
def subI : PyData → PyData → Option PyData := ii fun i j => some (.int (i - j))
def mulI : PyData → PyData → Option PyData := ii fun i j => if (-(2 ^ 64) < i ∧ i < 2 ^ 64) ∨ (-(2 ^ 64) < j ∧ j < 2 ^ 64) then some (.int (i * j)) else none
def modI : PyData → PyData → Option PyData := ii fun i j => if 0 < j then some (.int (i % j)) else none
def divI : PyData → PyData → Option PyData := ii fun i j => if 0 < j ∧ j < 1073741824 then some (.int (i / j)) else none
def powI : PyData → PyData → Option PyData := ii fun i j => if 0 ≤ j ∧ j ≤ 1000000 ∧ i.natAbs < 2 ^ 64 then some (.int (i ^ j.toNat)) else none
def ltI : PyData → PyData → Option PyData := ii fun i j => some (.bool (decide (i < j)))
def leI : PyData → PyData → Option PyData := ii fun i j => some (.bool (decide (i ≤ j)))
def gtI : PyData → PyData → Option PyData := ii fun i j => some (.bool (decide (j < i)))
def geI : PyData → PyData → Option PyData := ii fun i j => some (.bool (decide (j ≤ i)))
theorem r_add : R2S K (rI0 fun i j => .int (i + j)) addI := r_ii0 fun i j d h S => by cases h; exact .int _
theorem r_sub : R2S K (rI0 fun i j => .int (i - j)) subI := r_ii0 fun i j d h S => by cases h; exact .int _
theorem r_lt : R2S K (rI0 fun i j => .bl (decide (i < j))) ltI := r_ii0 fun i j d h S => by cases h; exact .bl _
theorem r_le : R2S K (rI0 fun i j => .bl (decide (i ≤ j))) leI := r_ii0 fun i j d h S => by cases h; exact .bl _
theorem r_gt : R2S K (rI0 fun i j => .bl (decide (j < i))) gtI := r_ii0 fun i j d h S => by cases h; exact .bl _
theorem r_ge : R2S K (rI0 fun i j => .bl (decide (j ≤ i))) geI := r_ii0 fun i j d h S => by cases h; exact .bl _
theorem r_mul : R2S K (rI CMul fun i j => .int (i * j)) mulI := r_ii fun i j d h => by
  split at h
  · rename_i hc
    cases h
    exact ⟨hc, fun S => .int _⟩
  · cases h
theorem r_mod : R2S K (rI (fun _ j => 0 < j) fun i j => .int (i % j)) modI := r_ii fun i j d h => by
  split at h
  · rename_i hc
    cases h
    exact ⟨hc, fun S => .int _⟩
  · cases h
theorem r_div : R2S K (rI CDiv fun i j => .int (i / j)) divI := r_ii fun i j d h => by
  split at h
  · rename_i hc
    cases h
    exact ⟨hc, fun S => .int _⟩
  · cases h
theorem r_pow : R2S K (rI CPow fun i j => .int (i ^ j.toNat)) powI := r_ii fun i j d h => by
  split at h
  · rename_i hc
    cases h
    exact ⟨hc, fun S => .int _⟩
  · cases h
/-! ### texts -/
def ss (f : Str → Str → Option PyData) : PyData → PyData → Option PyData := fun x y => match x, y with
  | .str i, .str j => f i j
  | _, _ => none
theorem r_ss {r : R2} {f : Str → Str → Option PyData} (h : ∀ i j d, f i j = some d → ∀ H (Q : VK), (∀ v, (∀ S, Rp K S v d) → Q v H) → r (.str i) (.str j) H Q) : R2S K r (ss f) := fun S H e x y dx dy dz rx ry hf Q q => by
  unfold ss at hf
  split at hf
  · rename_i i j
    cases rx
    cases ry
    exact h i j dz hf H Q fun v hv => q v S H (.refl e) (hv S)
  · cases hf
def addS : PyData → PyData → Option PyData := ss fun i j => if i.length + j.length ≤ sizeLine then some (.str (i ++ j)) else none
def ltS : PyData → PyData → Option PyData := ss fun i j => some (.bool (decide (i.cps.toList < j.cps.toList)))
def leS : PyData → PyData → Option PyData := ss fun i j => some (.bool (!decide (j.cps.toList < i.cps.toList)))
theorem r_addS : R2S K (fun x y H Q => ∃ i j, x = .str i ∧ y = .str j ∧ i.length + j.length ≤ sizeLine ∧ Q (.str (i ++ j)) H) addS := r_ss fun i j d h H Q q => by
  split at h
  · cases h
    exact ⟨i, j, rfl, rfl, by assumption, q _ fun S => .str _⟩
  · cases h
theorem r_ltS : R2S K (fun x y H Q => ∃ i j, x = .str i ∧ y = .str j ∧ Q (.bl (decide (i.cps.toList < j.cps.toList))) H) ltS := r_ss fun i j d h H Q q => by
  cases h
  exact ⟨i, j, rfl, rfl, q _ fun S => .bl _⟩
theorem r_leS : R2S K (fun x y H Q => ∃ i j, x = .str i ∧ y = .str j ∧ Q (.bl (!decide (j.cps.toList < i.cps.toList))) H) leS := r_ss fun i j d h H Q q => by
  cases h
  exact ⟨i, j, rfl, rfl, q _ fun S => .bl _⟩
/-- one sign in a text -/
def signIn : PyData → PyData → Option PyData := ss fun i j => match i.cps.toList with
  | [c] => some (.bool (decide (c ∈ j.cps.toList)))
  | _ => none
theorem str_one {i : Str} {c : Nat} (h : i.cps.toList = [c]) : i = ⟨#[c]⟩ := by
  obtain ⟨l⟩ := i
  have : l = #[c] := by
    apply Array.toList_inj.mp
    exact h
  rw [this]
theorem r_signIn : R2S K (fun x y H Q => ∃ (c : Nat) (z : Str), x = .str ⟨#[c]⟩ ∧ y = .str z ∧ Q (.bl (decide (c ∈ z.cps.toList))) H) signIn := r_ss fun i j d h H Q q => by
  split at h
  · rename_i c hc
    cases h
    exact ⟨c, j, by rw [str_one hc], rfl, q _ fun S => .bl _⟩
  · cases h
/-! ### tuples, lists -/
def catT : PyData → PyData → Option PyData := fun x y => match x, y with
  | .tuple a, .tuple b => if a.length + b.length ≤ sizeLine then some (.tuple (a ++ b)) else none
  | _, _ => none
theorem r_catT : R2S K (rCatA K) catT := fun S H e x y dx dy dz rx ry hf Q q => by
  unfold catT at hf
  split at hf
  · rename_i a b
    split at hf
    · rename_i hl
      cases hf
      cases rx with
      | tup h1 r1 =>
        cases ry with
        | tup h2 r2 =>
          rename_i p xs p' ys
          refine ⟨p, p', xs, ys, rfl, rfl, e.t h1, e.t h2, by rw [r1.length, r2.length]; exact hl, ?_⟩
          refine ⟨fun hx => ?_, fun hx hy => ?_, fun hx hy t ht => ?_⟩
          · subst hx; cases r1; exact q _ S H (.refl e) (.tup h2 r2)
          · subst hy; cases r2; rw [List.append_nil] at q; exact q _ S H (.refl e) (.tup h1 r1)
          · exact q _ _ _ (.new e ht) (.tup (sqt_of upd_same) ((r1.append r2).mono (.new (e.free ht))))
    · cases hf
  · cases hf
def rCatL (K : Frag) : R2 := fun x y H Q => ∃ a b xs ys, x = .ref a ∧ y = .ref b ∧ SqL K H a xs ∧ SqL K H b ys ∧ xs.length + ys.length ≤ sizeLine ∧ ∀ p, H p = none → Q (.ref p) (upd H p (.lst (xs ++ ys)))
theorem op_catL {X : Cx} : OpR X (binaryOp .Add) (rCatL X.K) := by
  intro pins s σ H x y v u Q I rx ry h
  obtain ⟨a, b, xs, ys, rfl, rfl, ha, hb, hz, q⟩ := h
  cases rx
  cases ry
  obtain ⟨its, r1, p1, _⟩ := I.list ha
  obtain ⟨jts, r2, p2, _⟩ := I.list hb
  have l1 := r1.length
  have l2 := r2.length
  obtain ⟨⟨c1, d1, e1, s1⟩, g1, k1, n1, w1⟩ := id p1.isList
  obtain ⟨⟨c2, d2, e2, s2⟩, g2, k2, n2, w2⟩ := id p2.isList
  simp only at k1 w1 k2 w2
  subst k1 w1 k2 w2
  have eq : its.toArray ++ jts.toArray = (its ++ jts).toArray := by simp
  refine concat_meets ⟨_, g1, rfl⟩ ⟨_, g2, rfl⟩ noFill_list_add seq_list_add PySem.F.slot_list_add PySem.F.entry_list_add (PySem.F.args_list_add_2 _ _) (PyProof.Rows.list_addW a b its.toArray jts.toArray n1 n2 d1 d2 s1 s2 (by rw [List.size_toArray, List.size_toArray]; omega)) ⟨g1, g2, ?_⟩
  rw [eq]
  exact ⟨.ref _, _, I.lnew (t' := s.toks) (r1.append r2) (by rw [List.length_append]; omega), rfl, q _ I.fresh⟩
def catL : PyData → PyData → Option (List PyData) := fun x y => match x, y with
  | .list a, .list b => if a.length + b.length ≤ sizeLine then some (a ++ b) else none
  | _, _ => none
theorem r_catL : R2F K (rCatL K) catL := fun S H e x y dx dy dz rx ry hf Q q => by
  unfold catL at hf
  split at hf
  · split at hf
    · rename_i hl
      cases hf
      cases rx with
      | lst h1 r1 =>
        cases ry with
        | lst h2 r2 => exact ⟨_, _, _, _, rfl, rfl, e.l h1, e.l h2, by rw [r1.length, r2.length]; exact hl, fun p hp => q p _ hp (r1.append r2)⟩
    · cases hf
  · cases hf
/-- a tuple times a written number -/
def repT : PyData → PyData → Option PyData := fun x y => match x, y with
  | .tuple a, .int k => if a ≠ [] ∧ 2 ≤ k ∧ k ≤ 1000 ∧ a.length ≤ 1000 then some (.tuple (List.replicate k.toNat a).flatten) else none
  | _, _ => none
theorem RpAll.rep {S : Hp} {vs : List V} {ds : List PyData} (h : RpAll K S vs ds) : ∀ n : Nat, RpAll K S (List.replicate n vs).flatten (List.replicate n ds).flatten
  | 0 => .nil
  | n + 1 => by
    rw [List.replicate_succ, List.replicate_succ, List.flatten_cons, List.flatten_cons]
    exact h.append (RpAll.rep h n)
theorem r_repT : R2S K (rRepT K) repT := fun S H e x y dx dy dz rx ry hf Q q => by
  unfold repT at hf
  split at hf
  · rename_i a k
    split at hf
    · rename_i hc
      cases hf
      cases ry
      cases rx with
      | tup h1 r1 =>
        refine ⟨_, k, _, rfl, rfl, e.t h1, fun z => hc.1 ?_, hc.2.1, hc.2.2.1, by rw [r1.length]; exact hc.2.2.2, fun p hp => q _ _ _ (.new e hp) (.tup (sqt_of upd_same) ((r1.rep k.toNat).mono (.new (e.free hp))))⟩
        subst z
        cases r1
        rfl
    · cases hf
  · cases hf
def repL : PyData → PyData → Option (List PyData) := fun x y => match x, y with
  | .list a, .int k => if -(2 ^ 63) ≤ k ∧ k < 2 ^ 63 ∧ a.length * k.toNat ≤ sizeLine then some (List.replicate k.toNat a).flatten else none
  | _, _ => none
/-! ### places -/
theorem atI_rp {S : Hp} {vs : List V} {ds : List PyData} (h : RpAll K S vs ds) {i : Int} {d : PyData} (e : atI ds i = some d) : ∃ v, atI vs i = some v ∧ Rp K S v d := by
  unfold atI at e ⊢
  rw [h.length]
  cases hj : ixN ds.length i with
  | none => rw [hj] at e; cases e
  | some j =>
    rw [hj] at e
    exact h.get e
def ixS (z : Str) (i : Int) : Option PyData := if z.length ≤ sizeLine then (atI z.cps.toList i).map fun c => .str ⟨#[c]⟩ else none
/-- x[i] of a tuple, a list, a text -/
def ixD : PyData → PyData → Option PyData := fun x y => match x, y with
  | .tuple a, .int i => atI a i
  | .list a, .int i => atI a i
  | .str z, .int i => ixS z i
  | _, _ => none
theorem r_ix : R2S K (orR (rIxT K) (orR (rIxL K) rIxS)) ixD := fun S H e x y dx dy dz rx ry hf Q q => by
  unfold ixD at hf
  split at hf
  · rename_i a i
    cases ry
    cases rx with
    | tup h1 r1 =>
      obtain ⟨v, h2, h3⟩ := atI_rp r1 hf
      exact .inl ⟨_, _, _, v, rfl, rfl, e.t h1, h2, q v S H (.refl e) h3⟩
  · rename_i a i
    cases ry
    cases rx with
    | lst h1 r1 =>
      obtain ⟨v, h2, h3⟩ := atI_rp r1 hf
      exact .inr (.inl ⟨_, _, _, v, rfl, rfl, e.l h1, h2, q v S H (.refl e) h3⟩)
  · rename_i z i
    cases ry
    cases rx
    unfold ixS at hf
    split at hf
    · rename_i hz
      cases hc : atI z.cps.toList i with
      | none => rw [hc] at hf; cases hf
      | some c =>
        rw [hc] at hf
        cases hf
        exact .inr (.inr ⟨z, i, c, rfl, rfl, hz, hc, q _ S H (.refl e) (.str _)⟩)
    · cases hf
  · cases hf
theorem ix_any {X : Cx} : IxR X (orR (rIxT X.K) (orR (rIxL X.K) rIxS)) := IxR.or ix_tup (IxR.or ix_list ix_str)
/-! ### slices -/
def SemO (K : Frag) (t : TO) (m : Ev → Option (Option Int × Ev)) : Prop := ∀ C S H σ ρ, Ok K C S H σ ρ → ∀ x ρ', m ρ = some (x, ρ') → ∀ Q : Option Int → Hp → Prop, (∀ S' H', Ex S S' → Ok K C S' H' σ ρ' → Q x H') → t σ H Q
def oNone : Ev → Option (Option Int × Ev) := fun ρ => some (none, ρ)
def oSome (a : M) : Ev → Option (Option Int × Ev) := fun ρ => match a ρ with
  | some (.int i, ρ1) => some (some i, ρ1)
  | _ => none
def slicD (n : Nat) (lo hi : Option Int) : Nat × Nat := (HT.sIx n 0 lo, HT.sIx n n hi)
def cutD (a : List PyData) (lo hi : Option Int) : List PyData := (a.drop (HT.sIx a.length 0 lo)).take (HT.sIx a.length a.length hi - HT.sIx a.length 0 lo)
theorem cut_rp {S : Hp} {vs : List V} {ds : List PyData} (h : RpAll K S vs ds) (lo hi : Option Int) : RpAll K S (cutV vs lo hi) (cutD ds lo hi) := by
  unfold cutV cutD
  rw [h.length]
  exact (h.drop _).take _
def R3S (K : Frag) (r : V → Option Int → Option Int → Hp → VK → Prop) (f : PyData → Option Int → Option Int → Option PyData) : Prop := ∀ S H, Ex S H → ∀ x lo hi dx dz, Rp K S x dx → f dx lo hi = some dz → ∀ Q : VK, (∀ v S' H', Grow S H S' H' → Rp K S' v dz → Q v H') → r x lo hi H Q
def R3F (K : Frag) (r : V → Option Int → Option Int → Hp → VK → Prop) (f : PyData → Option Int → Option Int → Option (List PyData)) : Prop := ∀ S H, Ex S H → ∀ x lo hi dx dz, Rp K S x dx → f dx lo hi = some dz → ∀ Q : VK, (∀ p vs, H p = none → RpAll K S vs dz → Q (.ref p) (upd H p (.lst vs))) → r x lo hi H Q
def or3 (r r' : V → Option Int → Option Int → Hp → VK → Prop) : V → Option Int → Option Int → Hp → VK → Prop := fun x lo hi H Q => r x lo hi H Q ∨ r' x lo hi H Q
theorem SlR.or {X : Cx} {r r' : V → Option Int → Option Int → Hp → VK → Prop} (a : SlR X r) (b : SlR X r') : SlR X (or3 r r') := by
  intro pins s σ H x v vl vu lo hi sl Q I rx hs pl pu h
  rcases h with h | h
  · exact a pins s σ H x v vl vu lo hi sl Q I rx hs pl pu h
  · exact b pins s σ H x v vl vu lo hi sl Q I rx hs pl pu h
theorem sl_any {X : Cx} : SlR X (or3 (rSlL X.K) (or3 (rSlA X.K) rSlS)) := SlR.or sl_list (SlR.or sl_tupA sl_str)
def sliceD : PyData → Option Int → Option Int → Option PyData := fun x lo hi => match x with
  | .tuple a => some (.tuple (cutD a lo hi))
  | .list a => some (.list (cutD a lo hi))
  | .str z => if z.length ≤ sizeLine then some (.str (cutS z lo hi)) else none
  | _ => none
def sliceL : PyData → Option Int → Option Int → Option (List PyData) := fun x lo hi => match x with
  | .list a => some (cutD a lo hi)
  | _ => none
theorem r_slF : R3F K (or3 (rSlL K) (or3 (rSlA K) rSlS)) sliceL := fun S H e x lo hi dx dz rx hf Q q => by
  unfold sliceL at hf
  split at hf
  · cases hf
    cases rx with
    | lst h1 r1 => exact .inl ⟨_, _, rfl, e.l h1, fun p hp => q p _ hp (cut_rp r1 lo hi)⟩
  · cases hf
theorem r_sl : R3S K (or3 (rSlL K) (or3 (rSlA K) rSlS)) sliceD := fun S H e x lo hi dx dz rx hf Q q => by
  unfold sliceD at hf
  split at hf
  · rename_i a
    cases hf
    cases rx with
    | tup h1 r1 =>
      rename_i p xs
      refine .inr (.inl ⟨p, xs, rfl, e.t h1, fun hw => ?_, fun _ t ht => q _ _ _ (.new e ht) (.tup (sqt_of upd_same) ((cut_rp r1 lo hi).mono (.new (e.free ht))))⟩)
      refine q _ S H (.refl e) ?_
      have : cutD a lo hi = a := by
        unfold cutD
        rw [r1.length] at hw
        rw [hw.1, hw.2]
        simp
      rw [this]
      exact .tup h1 r1
  · cases hf
    cases rx with
    | lst h1 r1 => exact .inl ⟨_, _, rfl, e.l h1, fun p hp => q _ _ _ (.new e hp) (.lst (sql_of upd_same) ((cut_rp r1 lo hi).mono (.new (e.free hp))))⟩
  · split at hf
    · cases hf
      cases rx
      exact .inr (.inr ⟨_, rfl, by assumption, q _ S H (.refl e) (.str _)⟩)
    · cases hf
  · cases hf
theorem o_none : SemO K tNoPart oNone := fun C S H σ ρ o x ρ' e Q q => by
  cases e
  exact q S H (.refl _) o
theorem o_some {te : TE} {a : M} (h : Sem K te a) : SemO K (tPart te) (oSome a) := fun C S H σ ρ o x ρ' e Q q => by
  unfold oSome at e
  split at e
  · rename_i i ρ1 h1
    cases e
    refine h C S H σ ρ o _ _ h1 _ fun v S1 H1 e1 o1 r1 => ?_
    cases r1
    exact ⟨i, rfl, q S1 H1 e1 o1⟩
  · cases e
def mSl (f : PyData → Option Int → Option Int → Option PyData) (a : M) (l h : Ev → Option (Option Int × Ev)) : M := fun ρ => match a ρ with
  | some (x, ρ1) => match l ρ1 with
    | some (lo, ρ2) => match h ρ2 with
      | some (hi, ρ3) => match f x lo hi with
        | some z => some (z, ρ3)
        | none => none
      | none => none
    | none => none
  | none => none
def mSlF (f : PyData → Option Int → Option Int → Option (List PyData)) (a : M) (l h : Ev → Option (Option Int × Ev)) : ML := fun ρ => match a ρ with
  | some (x, ρ1) => match l ρ1 with
    | some (lo, ρ2) => match h ρ2 with
      | some (hi, ρ3) => match f x lo hi with
        | some z => some (z, ρ3)
        | none => none
      | none => none
    | none => none
  | none => none
theorem s_sl {r : V → Option Int → Option Int → Hp → VK → Prop} {f : PyData → Option Int → Option Int → Option PyData} {te : TE} {tl th : TO} {a : M} {l h : Ev → Option (Option Int × Ev)} (ha : Sem K te a) (hl : SemO K tl l) (hh : SemO K th h) (hr : R3S K r f) : Sem K (tSl r te tl th) (mSl f a l h) := fun C S H σ ρ o d ρ' e Q q => by
  unfold mSl at e
  split at e
  · rename_i x ρ1 h1
    split at e
    · rename_i lo ρ2 h2
      split at e
      · rename_i hi ρ3 h3
        split at e
        · rename_i z h4
          cases e
          refine ha C S H σ ρ o _ _ h1 _ fun v S1 H1 e1 o1 r1 => ?_
          refine hl C S1 H1 σ ρ1 o1 _ _ h2 _ fun S2 H2 e2 o2 => ?_
          refine hh C S2 H2 σ ρ2 o2 _ _ h3 _ fun S3 H3 e3 o3 => ?_
          exact hr S3 H3 o3.exS v lo hi _ _ (r1.mono (e2.trans e3)) h4 Q fun w S4 H4 g r4 => q w S4 H4 (((e1.trans e2).trans e3).trans g.s) (o3.grow g) r4
        · cases e
      · cases e
    · cases e
  · cases e
theorem s_slF {r : V → Option Int → Option Int → Hp → VK → Prop} {f : PyData → Option Int → Option Int → Option (List PyData)} {te : TE} {tl th : TO} {a : M} {l h : Ev → Option (Option Int × Ev)} (ha : Sem K te a) (hl : SemO K tl l) (hh : SemO K th h) (hr : R3F K r f) : SemF K (tSl r te tl th) (mSlF f a l h) := fun C S H σ ρ o d ρ' e Q q => by
  unfold mSlF at e
  split at e
  · rename_i x ρ1 h1
    split at e
    · rename_i lo ρ2 h2
      split at e
      · rename_i hi ρ3 h3
        split at e
        · rename_i z h4
          cases e
          refine ha C S H σ ρ o _ _ h1 _ fun v S1 H1 e1 o1 r1 => ?_
          refine hl C S1 H1 σ ρ1 o1 _ _ h2 _ fun S2 H2 e2 o2 => ?_
          refine hh C S2 H2 σ ρ2 o2 _ _ h3 _ fun S3 H3 e3 o3 => ?_
          refine hr S3 H3 o3.exS v lo hi _ _ (r1.mono (e2.trans e3)) h4 Q fun p vs hp rv => ?_
          obtain ⟨o4, w4, n4, s4⟩ := o3.ownNew hp rv
          exact q p S3 _ ((e1.trans e2).trans e3) o4 w4 n4 s4
        · cases e
      · cases e
    · cases e
  · cases e
end
end Dn

/-! Dn8: == and in, isinstance, repr, len and others over data. -/
namespace Dn
open PySem L2
/-! ### == -/
theorem shaped_dp {K : Frag} {S H : Hp} (e : Ex S H) : ∀ (d : PyData) (v : V), d.canLay0 = true → Rp K S v d → Dp K H v d
  | .none, _, _, r => by cases r; exact .non
  | .bool b, _, _, r => by cases r; exact .bl b
  | .int i, _, _, r => by cases r; exact .int i
  | .str x, _, _, r => by cases r; exact .str x
  | .list ds, v, h, r => by
    cases r with
    | lst h1 r1 => exact .lst (e.l h1) (go ds _ (by simpa [PyData.canLay0] using h) r1)
  | .tuple ds, v, h, r => by
    cases r with
    | tup h1 r1 => exact .tup (e.t h1) (go ds _ (by simpa [PyData.canLay0] using h) r1)
  | .dict _, _, h, _ => by simp [PyData.canLay0] at h
where go : ∀ (ds : List PyData) (vs : List V), PyData.canLayAll0 ds = true → RpAll K S vs ds → DpAll K H vs ds
  | [], _, _, r => by cases r; exact .nil
  | d :: ds, _, h, r => by
    cases r with
    | cons r1 r2 =>
      simp only [PyData.canLayAll0, Bool.and_eq_true] at h
      exact .cons (shaped_dp e d _ h.1 r1) (go ds _ h.2 r2)
/-- == over data without the lengths of lists -/
def eqP : PyData → PyData → Option Bool := fun x y => match x, y with
  | .str a, .str b => some (decide (a = b))
  | .int i, .int j => some (decide (i = j))
  | .bool a, .bool b => some (decide (a = b))
  | .none, .none => some true
  | .str _, .none => some false
  | .none, .str _ => some false
  | .str _, .int _ => some false
  | .int _, .str _ => some false
  | .str _, .bool _ => some false
  | .bool _, .str _ => some false
  | .none, .int _ => some false
  | .int _, .none => some false
  | .none, .bool _ => some false
  | .bool _, .none => some false
  | x, y => if SeqAt.shaped x = true ∧ SeqAt.shaped y = true then some (PyData.eqv x y) else none
/-- == over data, where it is told -/
def eqB : PyData → PyData → Option Bool := fun x y => match x, y with
  | .list a, .list b => if a.length = b.length then (if a.length = 0 then some true else eqP (.list a) (.list b)) else some false
  | x, y => eqP x y
def eqD : PyData → PyData → Option PyData := fun x y => (eqB x y).map .bool
def neD : PyData → PyData → Option PyData := fun x y => (eqP x y).map fun b => .bool (!b)
section
variable {K : Frag}
theorem eqP_cases {S H : Hp} (e : Ex S H) {x y : V} {dx dy : PyData} {b : Bool} (rx : Rp K S x dx) (ry : Rp K S y dy) (h : eqP dx dy = some b) :
    (scal x y = true ∧ b = decide (x = y)) ∨ (Dp K H x dx ∧ Dp K H y dy ∧ SeqAt.shaped dx = true ∧ SeqAt.shaped dy = true ∧ b = PyData.eqv dx dy) := by
  have dec : ∀ {α : Type} {f : α → V} [DecidableEq α] (a b : α), (∀ a b, f a = f b → a = b) → decide (a = b) = decide (f a = f b) := fun a b inj => by
    by_cases h : a = b
    · subst h; simp
    · rw [decide_eq_false h, decide_eq_false (fun q => h (inj a b q))]
  unfold eqP at h
  split at h
  · cases rx; cases ry; cases h
    exact .inl ⟨rfl, dec (f := V.str) _ _ (fun _ _ q => by cases q; rfl)⟩
  · cases rx; cases ry; cases h
    exact .inl ⟨rfl, dec (f := V.int) _ _ (fun _ _ q => by cases q; rfl)⟩
  · cases rx; cases ry; cases h
    exact .inl ⟨rfl, dec (f := V.bl) _ _ (fun _ _ q => by cases q; rfl)⟩
  · cases rx; cases ry; cases h; exact .inl ⟨rfl, by simp⟩
  · cases rx; cases ry; cases h; exact .inl ⟨rfl, by simp⟩
  · cases rx; cases ry; cases h; exact .inl ⟨rfl, by simp⟩
  · cases rx; cases ry; cases h; exact .inl ⟨rfl, by simp⟩
  · cases rx; cases ry; cases h; exact .inl ⟨rfl, by simp⟩
  · cases rx; cases ry; cases h; exact .inl ⟨rfl, by simp⟩
  · cases rx; cases ry; cases h; exact .inl ⟨rfl, by simp⟩
  · cases rx; cases ry; cases h; exact .inl ⟨rfl, by simp⟩
  · cases rx; cases ry; cases h; exact .inl ⟨rfl, by simp⟩
  · cases rx; cases ry; cases h; exact .inl ⟨rfl, by simp⟩
  · cases rx; cases ry; cases h; exact .inl ⟨rfl, by simp⟩
  · split at h
    · rename_i hs
      cases h
      exact .inr ⟨shaped_dp e _ _ (SeqAt.canLay_of_shaped hs.1) rx, shaped_dp e _ _ (SeqAt.canLay_of_shaped hs.2) ry, hs.1, hs.2, rfl⟩
    · cases h
/-- two lists of unlike lengths, or empty -/
def rEqLen (K : Frag) : R2 := fun x y H Q => ∃ a b xs ys k, x = .ref a ∧ y = .ref b ∧ SqL K H a xs ∧ SqL K H b ys ∧ ((xs.length ≠ ys.length ∧ k = false) ∨ (xs.length = 0 ∧ ys.length = 0 ∧ k = true)) ∧ Q (.bl k) H
theorem op_eqLen {X : Cx} (hu : X.A.units + 64 < cLine) : OpR X (compareOp .Eq) (rEqLen X.K) := by
  intro pins s σ H x y v u Q I rx ry h
  obtain ⟨a, b, xs, ys, k, rfl, rfl, ha, hb, hk, q⟩ := h
  cases rx
  cases ry
  obtain ⟨its, r1, p1, _⟩ := I.list ha
  obtain ⟨jts, r2, p2, _⟩ := I.list hb
  have l1 := r1.length
  have l2 := r2.length
  rcases hk with ⟨hk, rfl⟩ | ⟨h1, h2, rfl⟩
  · exact SeqAt.RcAt.lists_lengths p1.isList p2.isList (by rw [List.size_toArray, List.size_toArray]; simp; omega) (by omega) X.prog X.w X.xe _ ⟨.bl false, H, I, rfl, q⟩
  · have e1 : its = [] := List.length_eq_zero_iff.mp (by omega)
    have e2 : jts = [] := List.length_eq_zero_iff.mp (by omega)
    subst e1 e2
    exact SeqAt.RcAt.lists (e := fun _ => true) p1.isList p2.isList rfl (by omega) (fun j h => absurd h (Nat.not_lt_zero _)) X.prog X.w X.xe _ ⟨.bl true, H, I, rfl, q⟩
abbrev rEqA (K : Frag) : R2 := orR rEq (orR (rEqD K) (rEqLen K))
/-- x is data, or a list of one's own -/
def LisO (K : Frag) (S H : Hp) (x : V) (dx : PyData) : Prop := Rp K S x dx ∨ ∃ p vs xs, x = .ref p ∧ dx = .list xs ∧ SqL K H p vs ∧ RpAll K S vs xs
theorem eq_told {S H : Hp} (e : Ex S H) {x y : V} {dx dy : PyData} {b : Bool} (rx : LisO K S H x dx) (ry : Rp K S y dy) (h : eqB dx dy = some b) {Q : VK} (q : Q (.bl b) H) : rEqA K x y H Q := by
  have sh : ∀ xs, dx = .list xs → SeqAt.shaped dx = true → Dp K H x dx := fun xs hd hs => by
    rcases rx with rx | ⟨p, vs, zs, rfl, rfl, h1, h2⟩
    · exact shaped_dp e _ _ (SeqAt.canLay_of_shaped hs) rx
    · exact .lst h1 (shaped_dp.go e zs vs (by have := SeqAt.canLay_of_shaped hs; simpa [PyData.canLay0] using this) h2)
  have inP : ∀ xs, dx = .list xs → eqP dx dy = some b → rEqA K x y H Q := fun xs hd hp => by
    subst hd
    have hp : (if SeqAt.shaped (.list xs) = true ∧ SeqAt.shaped dy = true then some (PyData.eqv (.list xs) dy) else none) = some b := by
      cases dy <;> exact hp
    split at hp
    · rename_i hs
      cases hp
      exact .inr (.inl ⟨_, _, sh xs rfl hs.1, shaped_dp e _ _ (SeqAt.canLay_of_shaped hs.2) ry, hs.1, hs.2, q⟩)
    · cases hp
  have lx : ∀ xs, dx = .list xs → ∃ p vs, x = .ref p ∧ SqL K H p vs ∧ vs.length = xs.length := fun xs hd => by
    rcases rx with rx | ⟨p, vs, zs, rfl, hq, h1, h2⟩
    · subst hd
      cases rx with
      | lst h1 r1 => exact ⟨_, _, rfl, e.l h1, r1.length⟩
    · rw [hd] at hq; cases hq; exact ⟨p, vs, rfl, h1, h2.length⟩
  unfold eqB at h
  split at h
  · rename_i a b'
    obtain ⟨p, vs, hx, h1, h2⟩ := lx a rfl
    split at h
    · rename_i hl
      split at h
      · rename_i h0
        cases h
        subst hx
        cases ry with
        | lst h3 r3 => exact .inr (.inr ⟨_, _, _, _, true, rfl, rfl, h1, e.l h3, .inr ⟨by omega, by rw [r3.length]; omega, rfl⟩, q⟩)
      · exact inP a rfl h
    · rename_i hl
      cases h
      subst hx
      cases ry with
      | lst h3 r3 => exact .inr (.inr ⟨_, _, _, _, false, rfl, rfl, h1, e.l h3, .inl ⟨by rw [h2, r3.length]; exact hl, rfl⟩, q⟩)
  · by_cases hd : ∃ xs, dx = .list xs
    · obtain ⟨xs, hd⟩ := hd
      exact inP xs hd h
    · rcases rx with rx | ⟨p, vs, zs, _, hq, _⟩
      · rcases eqP_cases e rx ry h with ⟨h1, h2⟩ | ⟨h1, h2, h3, h4, h5⟩
        · exact .inl ⟨h1, by rw [← h2]; exact q⟩
        · exact .inr (.inl ⟨_, _, h1, h2, h3, h4, by rw [← h5]; exact q⟩)
      · exact absurd ⟨zs, hq⟩ hd
theorem r_eq : R2S K (rEqA K) eqD := fun S H e x y dx dy dz rx ry hf Q q => by
  unfold eqD at hf
  cases hb : eqB dx dy with
  | none => rw [hb] at hf; cases hf
  | some b =>
    rw [hb] at hf
    cases hf
    exact eq_told e (.inl rx) ry hb (q _ S H (.refl e) (.bl b))
theorem r_ne : R2S K (orR rNe (rNeD K)) neD := fun S H e x y dx dy dz rx ry hf Q q => by
  unfold neD at hf
  cases hb : eqP dx dy with
  | none => rw [hb] at hf; cases hf
  | some b =>
    rw [hb] at hf
    cases hf
    rcases eqP_cases e rx ry hb with ⟨h1, h2⟩ | ⟨h1, h2, h3, h4, h5⟩
    · exact .inl ⟨h1, by rw [← h2]; exact q _ S H (.refl e) (.bl _)⟩
    · exact .inr ⟨dx, dy, h1, h2, h3, h4, by rw [← h5]; exact q _ S H (.refl e) (.bl _)⟩
theorem op_eqA {X : Cx} (hu : X.A.units + 64 < cLine) : OpR X (compareOp .Eq) (rEqA X.K) := OpR.or op_eq (OpR.or (op_eqD hu) (op_eqLen hu))
theorem op_neA {X : Cx} (hu : X.A.units + 64 < cLine) : OpR X (compareOp .NotEq) (orR rNe (rNeD X.K)) := OpR.or op_ne (op_neD hu)
/-! ### is, is not: None, truths -/
def isND : PyData → PyData → Option PyData := fun x y => match y with
  | .none => some (.bool (match x with | .none => true | _ => false))
  | .bool b => match x with
    | .bool a => some (.bool (decide (a = b)))
    | _ => none
  | _ => none
def rIsNB : R2 := orR (fun x y H Q => y = .non ∧ Q (.bl (decide (x = .non))) H) rIsB
theorem r_is : R2S K rIsNB isND := fun S H e x y dx dy dz rx ry hf Q q => by
  unfold isND at hf
  split at hf
  · cases ry
    cases hf
    refine .inl ⟨rfl, ?_⟩
    cases rx <;> exact q _ S H (.refl e) (.bl _)
  · rename_i b
    split at hf
    · rename_i a
      cases ry
      cases rx
      cases hf
      exact .inr ⟨a, b, rfl, rfl, q _ S H (.refl e) (.bl _)⟩
    · cases hf
  · cases hf
theorem op_isNB {X : Cx} : OpR X (compareOp .Is) rIsNB := OpR.or op_isN op_isBl
def isNotND : PyData → PyData → Option PyData := fun x y => match y with
  | .none => some (.bool (match x with | .none => false | _ => true))
  | .bool b => match x with
    | .bool a => some (.bool (!decide (a = b)))
    | _ => none
  | _ => none
def rNotNB : R2 := orR (fun x y H Q => y = .non ∧ Q (.bl (!decide (x = .non))) H) rNotB
theorem r_isNot : R2S K rNotNB isNotND := fun S H e x y dx dy dz rx ry hf Q q => by
  unfold isNotND at hf
  split at hf
  · cases ry
    cases hf
    refine .inl ⟨rfl, ?_⟩
    cases rx <;> exact q _ S H (.refl e) (.bl _)
  · rename_i b
    split at hf
    · rename_i a
      cases ry
      cases rx
      cases hf
      exact .inr ⟨a, b, rfl, rfl, q _ S H (.refl e) (.bl _)⟩
    · cases hf
  · cases hf
theorem op_isNotNB {X : Cx} : OpR X (compareOp .IsNot) rNotNB := OpR.or op_notN op_notBl
/-! ### x in a list, a tuple of flat things -/
def flatD : PyData → Bool
  | .none => true
  | .bool _ => true
  | .int _ => true
  | .str _ => true
  | _ => false
def eqF : PyData → PyData → Bool
  | .none, .none => true
  | .bool a, .bool b => a == b
  | .bool a, .int b => (if a then 1 else 0) == b
  | .int a, .bool b => a == (if b then 1 else 0)
  | .int a, .int b => a == b
  | .str a, .str b => a == b
  | _, _ => false
theorem flat_rp {S : Hp} {v : V} {d : PyData} (r : Rp K S v d) (h : flatD d = true) : flatV v = true := by
  cases r <;> first | rfl | exact absurd (show false = true from h) Bool.false_ne_true
theorem eqF_rp {S : Hp} {v u : V} {d c : PyData} (r : Rp K S v d) (q : Rp K S u c) (h : flatD d = true) (h' : flatD c = true) : eqV v u = eqF d c := by
  cases r <;> first | exact absurd (show false = true from h) Bool.false_ne_true | (cases q <;> first | rfl | exact absurd (show false = true from h') Bool.false_ne_true)
def inSeq (x : PyData) (ds : List PyData) : Option Bool := if flatD x = true ∧ ds.all flatD = true then some (ds.any fun y => eqF y x) else none
theorem inSeq_rp {S : Hp} {v : V} {x : PyData} {vs : List V} {ds : List PyData} {b : Bool} (r : Rp K S v x) (ra : RpAll K S vs ds) (h : inSeq x ds = some b) : flatV v = true ∧ vs.all flatV = true ∧ inV v vs = b := by
  unfold inSeq at h
  split at h
  · rename_i hc
    cases h
    refine ⟨flat_rp r hc.1, ?_, ?_⟩
    · have := hc.2
      clear hc
      induction ds generalizing vs with
      | nil => cases ra; rfl
      | cons d ds ih =>
        cases ra with
        | cons r1 r2 =>
          rw [List.all_cons, Bool.and_eq_true] at this ⊢
          exact ⟨flat_rp r1 this.1, ih r2 this.2⟩
    · unfold inV
      obtain ⟨hx, hd⟩ := hc
      induction ds generalizing vs with
      | nil => cases ra; rfl
      | cons d ds ih =>
        cases ra with
        | cons r1 r2 =>
          rw [List.all_cons, Bool.and_eq_true] at hd
          rw [List.any_cons, List.any_cons, eqF_rp r1 r hd.1 hx, ih r2 hd.2]
  · cases h
def inD : PyData → PyData → Option PyData := fun x y => match y with
  | .tuple ds => (inSeq x ds).map .bool
  | .list ds => (inSeq x ds).map .bool
  | .str z => signIn x (.str z)
  | _ => none
def notD : Option PyData → Option PyData
  | some (.bool b) => some (.bool (!b))
  | _ => none
def notInD : PyData → PyData → Option PyData := fun x y => match y with
  | .tuple ds => (inSeq x ds).map fun b => .bool (!b)
  | .list ds => (inSeq x ds).map fun b => .bool (!b)
  | _ => none
def rInA (K : Frag) : R2 := orR (rIn K false) (fun x y H Q => ∃ (c : Nat) (z : Str), x = .str ⟨#[c]⟩ ∧ y = .str z ∧ Q (.bl (decide (c ∈ z.cps.toList))) H)
theorem r_in : R2S K (rInA K) inD := fun S H e x y dx dy dz rx ry hf Q q => by
  unfold inD at hf
  split at hf
  · cases hb : inSeq dx _ with
    | none => rw [hb] at hf; cases hf
    | some b =>
      rw [hb] at hf
      cases hf
      cases ry with
      | tup h1 r1 =>
        obtain ⟨z1, z2, z3⟩ := inSeq_rp rx r1 hb
        refine .inl ⟨_, _, rfl, .inr (e.t h1), z1, z2, ?_⟩
        show Q (.bl (inV x _)) H
        rw [z3]
        exact q _ S H (.refl e) (.bl b)
  · cases hb : inSeq dx _ with
    | none => rw [hb] at hf; cases hf
    | some b =>
      rw [hb] at hf
      cases hf
      cases ry with
      | lst h1 r1 =>
        obtain ⟨z1, z2, z3⟩ := inSeq_rp rx r1 hb
        refine .inl ⟨_, _, rfl, .inl (e.l h1), z1, z2, ?_⟩
        show Q (.bl (inV x _)) H
        rw [z3]
        exact q _ S H (.refl e) (.bl b)
  · cases ry
    exact .inr (r_signIn (K := K) S H e x _ dx _ dz rx (.str _) hf Q q)
  · cases hf
theorem r_notIn : R2S K (rIn K true) notInD := fun S H e x y dx dy dz rx ry hf Q q => by
  unfold notInD at hf
  split at hf
  · cases hb : inSeq dx _ with
    | none => rw [hb] at hf; cases hf
    | some b =>
      rw [hb] at hf
      cases hf
      cases ry with
      | tup h1 r1 =>
        obtain ⟨z1, z2, z3⟩ := inSeq_rp rx r1 hb
        refine ⟨_, _, rfl, .inr (e.t h1), z1, z2, ?_⟩
        show Q (.bl (!inV x _)) H
        rw [z3]
        exact q _ S H (.refl e) (.bl _)
  · cases hb : inSeq dx _ with
    | none => rw [hb] at hf; cases hf
    | some b =>
      rw [hb] at hf
      cases hf
      cases ry with
      | lst h1 r1 =>
        obtain ⟨z1, z2, z3⟩ := inSeq_rp rx r1 hb
        refine ⟨_, _, rfl, .inl (e.l h1), z1, z2, ?_⟩
        show Q (.bl (!inV x _)) H
        rw [z3]
        exact q _ S H (.refl e) (.bl _)
  · cases hf
theorem op_inA {X : Cx} : OpR X (compareOp .In) (rInA X.K) := OpR.or op_in_seq op_in_sign
/-! ### a chain of two comparisons -/
def mChain (f g : PyData → PyData → Option PyData) (a b c : M) : M := fun ρ => match a ρ with
  | some (x, ρ1) => match b ρ1 with
    | some (y, ρ2) => match f x y with
      | some (.bool true) => match c ρ2 with
        | some (z, ρ3) => match g y z with
          | some w => some (w, ρ3)
          | none => none
        | none => none
      | some (.bool false) => some (.bool false, ρ2)
      | _ => none
    | none => none
  | none => none
theorem s_chain {r r' : R2} {f g : PyData → PyData → Option PyData} {ta tb tc : TE} {a b c : M} (ha : Sem K ta a) (hb : Sem K tb b) (hc : Sem K tc c) (hr : R2S K r f) (hr' : R2S K r' g) : Sem K (tChain r r' ta tb tc) (mChain f g a b c) := fun C S H σ ρ o d ρ' e Q q => by
  unfold mChain at e
  split at e
  · rename_i x ρ1 h1
    split at e
    · rename_i y ρ2 h2
      split at e
      · rename_i h3
        split at e
        · rename_i z ρ3 h4
          split at e
          · rename_i w h5
            cases e
            refine ha C S H σ ρ o _ _ h1 _ fun v S1 H1 e1 o1 r1 => ?_
            refine hb C S1 H1 σ ρ1 o1 _ _ h2 _ fun u S2 H2 e2 o2 r2 => ?_
            refine hr S2 H2 o2.exS v u _ _ _ (r1.mono e2) r2 h3 _ fun k S3 H3 g3 r3 => ?_
            cases r3
            refine ⟨true, rfl, iteT ?_⟩
            refine hc C S3 H3 σ ρ2 (o2.grow g3) _ _ h4 _ fun w' S4 H4 e4 o4 r4 => ?_
            exact hr' S4 H4 o4.exS u w' _ _ _ (r2.mono (g3.s.trans e4)) r4 h5 Q fun t S5 H5 g5 r5 => q t S5 H5 (((e1.trans e2).trans g3.s).trans (e4.trans g5.s)) (o4.grow g5) r5
          · cases e
        · cases e
      · rename_i h3
        cases e
        refine ha C S H σ ρ o _ _ h1 _ fun v S1 H1 e1 o1 r1 => ?_
        refine hb C S1 H1 σ ρ1 o1 _ _ h2 _ fun u S2 H2 e2 o2 r2 => ?_
        refine hr S2 H2 o2.exS v u _ _ _ (r1.mono e2) r2 h3 _ fun k S3 H3 g3 r3 => ?_
        cases r3
        exact ⟨false, rfl, iteF (q _ S3 H3 ((e1.trans e2).trans g3.s) (o2.grow g3) (.bl false))⟩
      · cases e
    · cases e
  · cases e
/-! ### built-ins -/
def lenD : List PyData → Option PyData := fun x => match x with
  | [.str z] => if z.length ≤ sizeLine then some (.int z.length) else none
  | [.list a] => some (.int a.length)
  | [.tuple a] => some (.int a.length)
  | _ => none
theorem r_len : RAS K (fun xs H Q => ∃ x n, xs = [x] ∧ LenV K x H n ∧ Q (.int n) H) lenD := fun S H e xs ds dz rx hf Q q => by
  unfold lenD at hf
  split at hf
  · split at hf
    · rename_i z hz
      cases hf
      cases rx with
      | cons r1 r2 =>
        cases r2
        cases r1
        exact ⟨_, _, rfl, ⟨hz, rfl⟩, q _ S H (.refl e) (.int _)⟩
    · cases hf
  · cases hf
    cases rx with
    | cons r1 r2 =>
      cases r2
      cases r1 with
      | lst h1 r1 => exact ⟨_, _, rfl, .inl ⟨_, e.l h1, rfl⟩, q _ S H (.refl e) (by rw [r1.length]; exact .int _)⟩
  · cases hf
    cases rx with
    | cons r1 r2 =>
      cases r2
      cases r1 with
      | tup h1 r1 => exact ⟨_, _, rfl, .inr ⟨_, e.t h1, rfl⟩, q _ S H (.refl e) (by rw [r1.length]; exact .int _)⟩
  · cases hf
def absD : List PyData → Option PyData := fun x => match x with
  | [.int i] => some (.int (if i < 0 then -i else i))
  | _ => none
theorem r_abs : RAS K (fun xs H Q => ∃ i, xs = [.int i] ∧ Q (.int (if i < 0 then -i else i)) H) absD := fun S H e xs ds dz rx hf Q q => by
  unfold absD at hf
  split at hf
  · cases hf
    cases rx with
    | cons r1 r2 =>
      cases r2
      cases r1
      exact ⟨_, rfl, q _ S H (.refl e) (.int _)⟩
  · cases hf
def max2D : List PyData → Option PyData := fun x => match x with
  | [.int i, .int j] => some (.int (if j > i then j else i))
  | _ => none
def min2D : List PyData → Option PyData := fun x => match x with
  | [.int i, .int j] => some (.int (if j < i then j else i))
  | _ => none
theorem r_max2 : RAS K (fun xs H Q => ∃ i j, xs = [.int i, .int j] ∧ Q (.int (if j > i then j else i)) H) max2D := fun S H e xs ds dz rx hf Q q => by
  unfold max2D at hf
  split at hf
  · cases hf
    cases rx with
    | cons r1 r2 =>
      cases r2 with
      | cons r2 r3 =>
        cases r3
        cases r1
        cases r2
        exact ⟨_, _, rfl, q _ S H (.refl e) (.int _)⟩
  · cases hf
theorem r_min2 : RAS K (fun xs H Q => ∃ i j, xs = [.int i, .int j] ∧ Q (.int (if j < i then j else i)) H) min2D := fun S H e xs ds dz rx hf Q q => by
  unfold min2D at hf
  split at hf
  · cases hf
    cases rx with
    | cons r1 r2 =>
      cases r2 with
      | cons r2 r3 =>
        cases r3
        cases r1
        cases r2
        exact ⟨_, _, rfl, q _ S H (.refl e) (.int _)⟩
  · cases hf
/-- all, any of a list of truths -/
def blsOf : List PyData → Option (List Bool)
  | [] => some []
  | .bool b :: r => match blsOf r with
    | some bs => some (b :: bs)
    | none => none
  | _ => none
theorem bls_rp {S : Hp} : ∀ {vs : List V} {ds : List PyData} {bs : List Bool}, RpAll K S vs ds → blsOf ds = some bs → vs = bs.map V.bl
  | _, _, bs, .nil, h => by
    have h : some [] = some bs := h
    cases h; rfl
  | _, _, bs, .cons r1 r2, h => by
    unfold blsOf at h
    split at h
    · cases h; rename_i q; cases q
    · rename_i b r q
      cases q
      split at h
      · rename_i bs' hb
        cases h
        cases r1
        rw [bls_rp r2 hb]
        rfl
      · cases h
    · cases h
def allD : List PyData → Option PyData := fun x => match x with
  | [.list a] => match blsOf a with
    | some bs => some (.bool (bs.all id))
    | none => none
  | _ => none
def anyD : List PyData → Option PyData := fun x => match x with
  | [.list a] => match blsOf a with
    | some bs => some (.bool (bs.any id))
    | none => none
  | _ => none
theorem r_all : RAS K (rAll K) allD := fun S H e xs ds dz rx hf Q q => by
  unfold allD at hf
  split at hf
  · split at hf
    · rename_i bs hb
      cases hf
      cases rx with
      | cons r1 r2 =>
        cases r2
        cases r1 with
        | lst h1 r1 => exact ⟨_, bs, rfl, by rw [← bls_rp r1 hb]; exact e.l h1, q _ S H (.refl e) (.bl _)⟩
    · cases hf
  · cases hf
theorem r_any : RAS K (rAny K) anyD := fun S H e xs ds dz rx hf Q q => by
  unfold anyD at hf
  split at hf
  · split at hf
    · rename_i bs hb
      cases hf
      cases rx with
      | cons r1 r2 =>
        cases r2
        cases r1 with
        | lst h1 r1 => exact ⟨_, bs, rfl, by rw [← bls_rp r1 hb]; exact e.l h1, q _ S H (.refl e) (.bl _)⟩
    · cases hf
  · cases hf
/-- int of a truth -/
def rIntB : List V → Hp → VK → Prop := fun xs H Q => ∃ b, xs = [.bl b] ∧ Q (.int (if b then 1 else 0)) H
theorem call_intB {X : Cx} : CallR X (.type "int") rIntB := by
  intro pins s σ H xs us Q I r h
  obtain ⟨b, rfl, q⟩ := h
  cases r with
  | cons r1 r2 =>
    cases r2
    cases r1
    exact PySem.call_int_bool ⟨.int _, H, I.tok _, ⟨_, rfl⟩, q⟩
def intBD : List PyData → Option PyData := fun x => match x with
  | [.bool b] => some (.int (if b then 1 else 0))
  | _ => none
theorem r_intB : RAS K rIntB intBD := fun S H e xs ds dz rx hf Q q => by
  unfold intBD at hf
  split at hf
  · cases hf
    cases rx with
    | cons r1 r2 =>
      cases r2
      cases r1
      exact ⟨_, rfl, q _ S H (.refl e) (.int _)⟩
  · cases hf
def tupleD : List PyData → Option PyData := fun x => match x with
  | [.list a] => some (.tuple a)
  | [.tuple a] => some (.tuple a)
  | _ => none
theorem r_tuple : RAS K (fun xs H Q => ∃ p ys, xs = [.ref p] ∧ ((SqL K H p ys ∧ ∀ l, H l = none → Q (.ref l) (upd H l (.tup ys))) ∨ (SqT K H p ys ∧ Q (.ref p) H))) tupleD := fun S H e xs ds dz rx hf Q q => by
  unfold tupleD at hf
  split at hf
  · cases hf
    cases rx with
    | cons r1 r2 =>
      cases r2
      cases r1 with
      | lst h1 r1 => exact ⟨_, _, rfl, .inl ⟨e.l h1, fun l hl => q _ _ _ (.new e hl) (.tup (sqt_of upd_same) (r1.mono (.new (e.free hl))))⟩⟩
  · cases hf
    cases rx with
    | cons r1 r2 =>
      cases r2
      cases r1 with
      | tup h1 r1 => exact ⟨_, _, rfl, .inr ⟨e.t h1, q _ S H (.refl e) (.tup h1 r1)⟩⟩
  · cases hf
def listL : List PyData → Option (List PyData) := fun x => match x with
  | [.list a] => some a
  | [.tuple a] => some a
  | _ => none
theorem r_list : RAF K (fun xs H Q => ∃ p ys, xs = [.ref p] ∧ (SqL K H p ys ∨ SqT K H p ys) ∧ ∀ l, H l = none → Q (.ref l) (upd H l (.lst ys))) listL := fun S H e xs ds dz rx hf Q q => by
  unfold listL at hf
  split at hf
  · cases hf
    cases rx with
    | cons r1 r2 =>
      cases r2
      cases r1 with
      | lst h1 r1 => exact ⟨_, _, rfl, .inl (e.l h1), fun l hl => q l _ hl r1⟩
  · cases hf
    cases rx with
    | cons r1 r2 =>
      cases r2
      cases r1 with
      | tup h1 r1 => exact ⟨_, _, rfl, .inr (e.t h1), fun l hl => q l _ hl r1⟩
  · cases hf
end
end Dn

/-! Dn9: isinstance, repr, lists of one's own, what is walked. -/
namespace Dn
open PySem L2
/-! ### isinstance -/
def tyD : PyData → String
  | .none => "NoneType"
  | .bool _ => "bool"
  | .int _ => "int"
  | .str _ => "str"
  | .list _ => "list"
  | .tuple _ => "tuple"
  | .dict _ => "dict"
def isInt : PyData → Bool
  | .int _ => true
  | .bool _ => true
  | _ => false
def isBool : PyData → Bool
  | .bool _ => true
  | _ => false
def isStr : PyData → Bool
  | .str _ => true
  | _ => false
def isTuple : PyData → Bool
  | .tuple _ => true
  | _ => false
def isList : PyData → Bool
  | .list _ => true
  | _ => false
def isDict : PyData → Bool
  | .dict _ => true
  | _ => false
section
variable {K : Frag}
theorem tyx_of {S H : Hp} (e : Ex S H) {v : V} {d : PyData} (r : Rp K S v d) : TyX K H v (.type (tyD d)) := by
  cases r with
  | non => exact .base .non
  | bl b => exact .base (.bl b)
  | int i => exact .base (.int i)
  | str x => exact .base (.str x)
  | lst h _ =>
    rcases e.l h with (h | ⟨o, h⟩) | ⟨o, its, n, hk, hc, _⟩
    · exact .base (.lst h)
    · exact .base (.frz h)
    · exact .kList hk hc
  | tup h _ =>
    rcases e.t h with (h | ⟨o, h⟩) | ⟨o, its, n, hk, hc, _⟩
    · exact .base (.tup h)
    · exact .fTuple h
    · exact .kTuple hk hc
  | dct h _ => exact .base (.dK (e _ _ h))
def mIsi (f : PyData → Bool) (a : M) : M := fun ρ => match a ρ with
  | some (x, ρ1) => some (.bool (f x), ρ1)
  | none => none
theorem s_isi {n : String} {f : PyData → Bool} {te : TE} {a : M} (h : Sem K te a) (hf : ∀ d, kitB (tyD d) n = some (f d)) : Sem K (tCB (rIsi K) (tCons te (tCons (tC (.ty n)) tNil))) (mIsi f a) := fun C S H σ ρ o d ρ' e Q q => by
  unfold mIsi at e
  split at e
  · rename_i x ρ1 h1
    cases e
    exact h C S H σ ρ o _ _ h1 _ fun v S1 H1 e1 o1 r1 => ⟨v, .ty n, .type (tyD x), .type n, f x, rfl, .ty n, tyx_of o1.exS r1, kit_ty (hf x), q _ S1 H1 e1 o1 (.bl _)⟩
  · cases e
theorem kb_int : ∀ d : PyData, kitB (tyD d) "int" = some (isInt d)
  | .none => by show kitB "NoneType" "int" = some false; decide +kernel
  | .bool _ => by show kitB "bool" "int" = some true; decide +kernel
  | .int _ => by show kitB "int" "int" = some true; decide +kernel
  | .str _ => by show kitB "str" "int" = some false; decide +kernel
  | .list _ => by show kitB "list" "int" = some false; decide +kernel
  | .tuple _ => by show kitB "tuple" "int" = some false; decide +kernel
  | .dict _ => by show kitB "dict" "int" = some false; decide +kernel
theorem kb_bool : ∀ d : PyData, kitB (tyD d) "bool" = some (isBool d)
  | .none => by show kitB "NoneType" "bool" = some false; decide +kernel
  | .bool _ => by show kitB "bool" "bool" = some true; decide +kernel
  | .int _ => by show kitB "int" "bool" = some false; decide +kernel
  | .str _ => by show kitB "str" "bool" = some false; decide +kernel
  | .list _ => by show kitB "list" "bool" = some false; decide +kernel
  | .tuple _ => by show kitB "tuple" "bool" = some false; decide +kernel
  | .dict _ => by show kitB "dict" "bool" = some false; decide +kernel
theorem kb_str : ∀ d : PyData, kitB (tyD d) "str" = some (isStr d)
  | .none => by show kitB "NoneType" "str" = some false; decide +kernel
  | .bool _ => by show kitB "bool" "str" = some false; decide +kernel
  | .int _ => by show kitB "int" "str" = some false; decide +kernel
  | .str _ => by show kitB "str" "str" = some true; decide +kernel
  | .list _ => by show kitB "list" "str" = some false; decide +kernel
  | .tuple _ => by show kitB "tuple" "str" = some false; decide +kernel
  | .dict _ => by show kitB "dict" "str" = some false; decide +kernel
theorem kb_tuple : ∀ d : PyData, kitB (tyD d) "tuple" = some (isTuple d)
  | .none => by show kitB "NoneType" "tuple" = some false; decide +kernel
  | .bool _ => by show kitB "bool" "tuple" = some false; decide +kernel
  | .int _ => by show kitB "int" "tuple" = some false; decide +kernel
  | .str _ => by show kitB "str" "tuple" = some false; decide +kernel
  | .list _ => by show kitB "list" "tuple" = some false; decide +kernel
  | .tuple _ => by show kitB "tuple" "tuple" = some true; decide +kernel
  | .dict _ => by show kitB "dict" "tuple" = some false; decide +kernel
theorem kb_list : ∀ d : PyData, kitB (tyD d) "list" = some (isList d)
  | .none => by show kitB "NoneType" "list" = some false; decide +kernel
  | .bool _ => by show kitB "bool" "list" = some false; decide +kernel
  | .int _ => by show kitB "int" "list" = some false; decide +kernel
  | .str _ => by show kitB "str" "list" = some false; decide +kernel
  | .list _ => by show kitB "list" "list" = some true; decide +kernel
  | .tuple _ => by show kitB "tuple" "list" = some false; decide +kernel
  | .dict _ => by show kitB "dict" "list" = some false; decide +kernel
theorem kb_dict : ∀ d : PyData, kitB (tyD d) "dict" = some (isDict d)
  | .none => by show kitB "NoneType" "dict" = some false; decide +kernel
  | .bool _ => by show kitB "bool" "dict" = some false; decide +kernel
  | .int _ => by show kitB "int" "dict" = some false; decide +kernel
  | .str _ => by show kitB "str" "dict" = some false; decide +kernel
  | .list _ => by show kitB "list" "dict" = some false; decide +kernel
  | .tuple _ => by show kitB "tuple" "dict" = some false; decide +kernel
  | .dict _ => by show kitB "dict" "dict" = some true; decide +kernel
theorem s_isInt {te : TE} {a : M} (h : Sem K te a) : Sem K (tCB (rIsi K) (tCons te (tCons (tC (.ty "int")) tNil))) (mIsi isInt a) := s_isi h kb_int
theorem s_isBool {te : TE} {a : M} (h : Sem K te a) : Sem K (tCB (rIsi K) (tCons te (tCons (tC (.ty "bool")) tNil))) (mIsi isBool a) := s_isi h kb_bool
theorem s_isStr {te : TE} {a : M} (h : Sem K te a) : Sem K (tCB (rIsi K) (tCons te (tCons (tC (.ty "str")) tNil))) (mIsi isStr a) := s_isi h kb_str
theorem s_isTuple {te : TE} {a : M} (h : Sem K te a) : Sem K (tCB (rIsi K) (tCons te (tCons (tC (.ty "tuple")) tNil))) (mIsi isTuple a) := s_isi h kb_tuple
theorem s_isList {te : TE} {a : M} (h : Sem K te a) : Sem K (tCB (rIsi K) (tCons te (tCons (tC (.ty "list")) tNil))) (mIsi isList a) := s_isi h kb_list
theorem s_isDict {te : TE} {a : M} (h : Sem K te a) : Sem K (tCB (rIsi K) (tCons te (tCons (tC (.ty "dict")) tNil))) (mIsi isDict a) := s_isi h kb_dict
end
/-! ### repr -/
mutual
/-- no list stands in it -/
def noL : PyData → Bool
  | .none => true
  | .bool _ => true
  | .int _ => true
  | .str _ => true
  | .list _ => false
  | .tuple xs => noLs xs
  | .dict kvs => noLk kvs
def noLs : List PyData → Bool
  | [] => true
  | x :: xs => noL x && noLs xs
def noLk : List (PyData × PyData) → Bool
  | [] => true
  | (_, v) :: r => noL v && noLk r
end
theorem kv_keys {K : Frag} {S : Hp} : ∀ {kvs : List (Key × V)} {ds : List (PyData × PyData)}, RpKv K S kvs ds → ds.map (·.1) = kvs.map fun p => keyD p.1
  | _, _, .nil => rfl
  | _, _, .cons _ r => by rw [List.map_cons, List.map_cons, kv_keys r]
theorem keys_read {h : Heap} : ∀ (ks : List Key) (us : List Value), Paired (fun k u => keyIs k u = true) ks us → ReadsAll h us (ks.map keyD) []
  | _, _, .nil => .nil
  | _, _, .cons (a := k) r t => by
    have q := keys_read (h := h) _ _ t
    cases k with
    | inl i =>
      obtain ⟨tk, rfl⟩ := Value.isInt_shape r
      exact ReadsAll.cons (as := []) (bs := []) (Reads.int i tk) q
    | inr x =>
      obtain ⟨tk, rfl⟩ := Value.isStrOf_shape r
      exact ReadsAll.cons (as := []) (bs := []) (Reads.str x tk) q
theorem pairs_split {prog : Program} {w : World} {κ : Type} [DecidableEq κ] {knd : KeyKind prog w κ} : ∀ {es : List DictEntry} {vs : List (κ × Value)}, Pairs knd es vs → Paired (fun k u => knd.is k u = true) (vs.map (·.1)) (es.map (·.key)) ∧ es.map (·.val) = vs.map (·.2)
  | _, _, .nil => ⟨.nil, rfl⟩
  | _, _, .cons h1 h2 t => by
    obtain ⟨q1, q2⟩ := pairs_split t
    exact ⟨.cons h1 q1, by rw [List.map_cons, List.map_cons, q2, h2]⟩
theorem kv_fst : ∀ {kvs : List (Key × V)} {us : List (Key × Value)}, KV kvs us → us.map (·.1) = kvs.map (·.1)
  | _, _, .nil => rfl
  | _, _, .cons r t => by
    rw [List.map_cons, List.map_cons, kv_fst t, r.1]
section
variable {X : Cx} {pins : List (Addr × Obj)} {σ : L2.St} {S H : Hp} {s : Shared}
mutual
theorem reads_of (I : Inv X pins σ H s) (e : Ex S H) : ∀ {v : V} {d : PyData} (u : Value), Rp X.K S v d → RelV v u → ∃ as, Reads s.heap u d as ∧ (noL d = true → sysModules ∉ as)
  | _, _, _, .non, r => by
    cases r
    exact ⟨[], .none, fun _ => by simp⟩
  | _, _, _, .bl b, r => by
    cases r
    exact ⟨[], .bool b, fun _ => by simp⟩
  | _, _, _, .int i, r => by
    obtain ⟨t, rfl⟩ := r
    exact ⟨[], .int i t, fun _ => by simp⟩
  | _, _, _, .str x, r => by
    obtain ⟨t, rfl⟩ := r
    exact ⟨[], .str x t, fun _ => by simp⟩
  | _, _, _, .lst hs ha, r => by
    cases r
    obtain ⟨its, rv, ⟨o, n, ho, hc, _, hd⟩, _⟩ := I.list (e.l hs)
    obtain ⟨as, hr, _⟩ := readsAll_of I e its ha rv
    exact ⟨_, Reads.list ho hc hd hr, fun z => by cases z⟩
  | _, _, _, .tup hs ha, r => by
    cases r
    obtain ⟨its, rv, ⟨o, ho, hc, n, hd⟩, _⟩ := I.tuple (e.t hs)
    obtain ⟨as, hr, hn⟩ := readsAll_of I e its ha rv
    exact ⟨_, Reads.tuple ho hc hd hr, fun z => hn (by simpa [noL] using z)⟩
  | _, _, _, .dct (a := a) (kvs := kvs) (ds := ds) hs ha, r => by
    cases r
    obtain ⟨_, hsys, vs, kv, o, es, ep, ho, hex, hd, _, hp, _⟩ := I.hok a _ (e _ _ hs)
    obtain ⟨bs, hr, hn⟩ := readsKv_of I e vs ha kv
    obtain ⟨p1, p2⟩ := pairs_split hp
    have rk : ReadsAll s.heap (es.toList.map (·.key)) (ds.map (·.1)) [] := by
      have z := keys_read (h := s.heap) _ _ p1
      rw [kv_fst kv, List.map_map] at z
      rw [kv_keys ha]
      exact z
    rw [← p2] at hr
    refine ⟨_, Reads.dict ho hex.1 hd rk hr, fun z hm => ?_⟩
    rcases List.mem_cons.mp (by simpa using hm) with hm | hm
    · rw [← hm] at hsys
      exact absurd hsys (by simp)
    · exact hn (by simpa [noL] using z) hm
theorem readsAll_of (I : Inv X pins σ H s) (e : Ex S H) : ∀ {vs : List V} {ds : List PyData} (us : List Value), RpAll X.K S vs ds → Vals vs us → ∃ as, ReadsAll s.heap us ds as ∧ (noLs ds = true → sysModules ∉ as)
  | _, _, _, .nil, r => by
    cases r
    exact ⟨[], .nil, fun _ => by simp⟩
  | _, _, _, .cons h1 h2, r => by
    cases r with
    | cons r1 r2 =>
      obtain ⟨as, q1, n1⟩ := reads_of I e _ h1 r1
      obtain ⟨bs, q2, n2⟩ := readsAll_of I e _ h2 r2
      refine ⟨_, .cons q1 q2, fun z hm => ?_⟩
      rw [noLs, Bool.and_eq_true] at z
      rcases List.mem_append.mp hm with hm | hm
      · exact n1 z.1 hm
      · exact n2 z.2 hm
theorem readsKv_of (I : Inv X pins σ H s) (e : Ex S H) : ∀ {kvs : List (Key × V)} {ds : List (PyData × PyData)} (us : List (Key × Value)), RpKv X.K S kvs ds → KV kvs us → ∃ as, ReadsAll s.heap (us.map (·.2)) (ds.map (·.2)) as ∧ (noLk ds = true → sysModules ∉ as)
  | _, _, _, .nil, r => by
    cases r
    exact ⟨[], .nil, fun _ => by simp⟩
  | _, _, _, .cons h1 h2, r => by
    cases r with
    | cons r1 r2 =>
      obtain ⟨as, q1, n1⟩ := reads_of I e _ h1 r1.2
      obtain ⟨bs, q2, n2⟩ := readsKv_of I e _ h2 r2
      refine ⟨_, .cons q1 q2, fun z hm => ?_⟩
      rw [noLk, Bool.and_eq_true] at z
      rcases List.mem_append.mp hm with hm | hm
      · exact n1 z.1 hm
      · exact n2 z.2 hm
end
end
end Dn

/-! Dn10: repr, lists of one's own, what is walked. -/
namespace Dn
open PySem L2
/-- the text of some data, where it is told -/
def reprOk (d : PyData) : Bool := d.showable && decide (d.depth ≤ 100) && decide (d.shown.length ≤ sizeLine) && (!d.hasDict || noL d)
def reprD : List PyData → Option PyData := fun x => match x with
  | [d] => if reprOk d = true then some (.str d.shown) else none
  | _ => none
def rRepr (K : Frag) : List V → Hp → VK → Prop := fun xs H Q => ∃ S x d, xs = [x] ∧ Ex S H ∧ Rp K S x d ∧ reprOk d = true ∧ Q (.str d.shown) H
theorem call_repr {X : Cx} {k : Nat} (hg : X.A.guards = some []) (hr : Room k X.A) : CallR X (.builtin "repr") (rRepr X.K) := by
  intro pins s σ H xs us Q I r h
  obtain ⟨S, x, d, rfl, e, rp, ok, q⟩ := h
  cases r with
  | cons r1 r2 =>
    cases r2
    obtain ⟨as, rd, hn⟩ := reads_of I e _ rp r1
    unfold reprOk at ok
    rw [Bool.and_eq_true, Bool.and_eq_true, Bool.and_eq_true] at ok
    obtain ⟨⟨⟨o1, o2⟩, o3⟩, o4⟩ := ok
    have o2 := of_decide_eq_true o2
    have o3 := of_decide_eq_true o3
    have un := hr.un
    have hsm : d.hasDict = true → sysModules ∉ as := fun z => hn (by rw [z] at o4; simpa using o4)
    cases rd with
    | none => exact PySem.P.repr_of_none ⟨.str _, H, I.tok _, ⟨_, rfl⟩, q⟩
    | bool b => exact PySem.P.repr_of_bool ⟨.str _, H, I.tok _, ⟨_, rfl⟩, q⟩
    | int i t => exact PySem.P.repr_of_int (by simpa [PyData.showable] using o1) ⟨.str _, H, I.tok _, ⟨_, rfl⟩, q⟩
    | str y t => exact PySem.P.repr_of_str ⟨.str _, H, I.tok _, ⟨_, rfl⟩, q⟩ o3
    | list h1 h2 h3 h4 => exact repr_of_reads' (.list h1 h2 h3 h4) o1 hsm hg (by omega) (fun _ _ z => z) (fun h' u tk hk => ⟨.str _, H, I.kept hk, ⟨_, rfl⟩, q⟩) o3
    | tuple h1 h2 h3 h4 => exact repr_of_reads' (.tuple h1 h2 h3 h4) o1 hsm hg (by omega) (fun _ _ z => z) (fun h' u tk hk => ⟨.str _, H, I.kept hk, ⟨_, rfl⟩, q⟩) o3
    | dict h1 h2 h3 h4 h5 => exact repr_of_reads' (.dict h1 h2 h3 h4 h5) o1 hsm hg (by omega) (fun _ _ z => z) (fun h' u tk hk => ⟨.str _, H, I.kept hk, ⟨_, rfl⟩, q⟩) o3
theorem r_repr {K : Frag} : RAS K (rRepr K) reprD := fun S H e xs ds dz rx hf Q q => by
  unfold reprD at hf
  split at hf
  · split at hf
    · cases hf
      cases rx with
      | cons r1 r2 =>
        cases r2
        exact ⟨S, _, _, rfl, e, r1, by assumption, q _ S H (.refl e) (.str _)⟩
    · cases hf
  · cases hf
/-! ### lists of one's own -/
def ownOf : Sv → Option (List PyData)
  | .ol xs => some xs
  | .io xs => some xs
  | _ => none
def ownSet : Sv → List PyData → Sv
  | .io _, xs => .io xs
  | _, xs => .ol xs
def getO (ρ : Ev) (i : Nat) : Option (List PyData) := match ρ[i]? with
  | some x => ownOf x
  | none => none
def setO (ρ : Ev) (i : Nat) (xs : List PyData) : Ev := match ρ[i]? with
  | some x => ρ.set i (ownSet x xs)
  | none => ρ
section
variable {K : Frag}
theorem Ok.getO {C : Ctx} {S H : Hp} {σ : L2.St} {ρ : Ev} (o : Ok K C S H σ ρ) {i : Nat} {xs : List PyData} (h : getO ρ i = some xs) : ∃ p vs, σ[i]? = some (some (V.ref p)) ∧ H p = some (.lst vs) ∧ RpAll K S vs xs := by
  unfold Dn.getO at h
  split at h
  · rename_i x hx
    have q := o.slot i x hx
    cases x with
    | un => cases h
    | d x => cases h
    | ol ys =>
      cases h
      obtain ⟨p, e, _, w⟩ := q
      obtain ⟨vs, h1, h2⟩ := w.h
      exact ⟨p, vs, e, h1, h2⟩
    | io ys =>
      cases h
      obtain ⟨p, e, _, w⟩ := q
      obtain ⟨vs, h1, h2⟩ := w.h
      exact ⟨p, vs, e, h1, h2⟩
  · cases h
theorem Ok.setO {C : Ctx} {S H : Hp} {σ : L2.St} {ρ : Ev} (o : Ok K C S H σ ρ) {i : Nat} {xs ys : List PyData} {p : Addr} {vs : List V} (h : Dn.getO ρ i = some xs) (hp : σ[i]? = some (some (V.ref p))) (hr : RpAll K S vs ys) : Ok K C S (upd H p (.lst vs)) σ (Dn.setO ρ i ys) := by
  unfold Dn.getO at h
  unfold Dn.setO
  split at h
  · rename_i x hx
    cases x with
    | un => cases h
    | d x => cases h
    | ol zs => exact o.mutate hx rfl hp hr (.ol ys) (.inl ⟨_, rfl, rfl⟩)
    | io zs => exact o.mutate hx rfl hp hr (.io ys) (.inr ⟨_, rfl, rfl⟩)
  · cases h
/-- a method on a list of one's own -/
def RM (K : Frag) (r : V → List V → Hp → VK → Prop) (f : List PyData → List PyData → Option (PyData × List PyData)) : Prop := ∀ S H p vs xs us ds z ys, H p = some (.lst vs) → RpAll K S vs xs → RpAll K S us ds → f xs ds = some (z, ys) → ∀ Q : VK, (∀ v vs', Rp K S v z → RpAll K S vs' ys → Q v (upd H p (.lst vs'))) → r (.ref p) us H Q
def mOwn (i : Nat) (f : List PyData → List PyData → Option (PyData × List PyData)) (a : ML) : M := fun ρ => match getO ρ i with
  | none => none
  | some _ => match a ρ with
    | some (ds, ρ1) => match getO ρ1 i with
      | some xs => match f xs ds with
        | some (z, ys) => some (z, setO ρ1 i ys)
        | none => none
      | none => none
    | none => none
theorem s_own {i : Nat} {r : V → List V → Hp → VK → Prop} {f : List PyData → List PyData → Option (PyData × List PyData)} {ta : TA} {a : ML} (ha : SemA K ta a) (hr : RM K r f) : Sem K (tBM K "list" r (tVar i) ta) (mOwn i f a) := fun C S H σ ρ o d ρ' e Q q => by
  unfold mOwn at e
  split at e
  · cases e
  · rename_i xs0 h0
    obtain ⟨p, vs0, hp, hv0, _⟩ := o.getO h0
    split at e
    · rename_i ds ρ1 h1
      split at e
      · rename_i xs h2
        split at e
        · rename_i z ys h3
          cases e
          refine ⟨_, hp, .inl ⟨rfl, _, sql_of hv0⟩, ?_⟩
          refine ha C S H σ ρ o _ _ h1 _ fun us S1 H1 e1 o1 r1 => ?_
          obtain ⟨p', vs, hp', hv, ra⟩ := o1.getO h2
          rw [hp] at hp'
          cases hp'
          exact hr S1 H1 p vs xs us ds _ _ hv ra r1 h3 Q fun v vs' rv ra' => q v S1 _ e1 (o1.setO h2 hp ra') rv
        · cases e
      · cases e
    · cases e
theorem s_own0 {i : Nat} {r : V → List V → Hp → VK → Prop} {f : List PyData → List PyData → Option (PyData × List PyData)} (hr : RM K r f) : Sem K (tBM0 K "list" r (tVar i)) (mOwn i f mNil) := fun C S H σ ρ o d ρ' e Q q => by
  unfold mOwn at e
  split at e
  · cases e
  · rename_i xs0 h0
    obtain ⟨p, vs0, hp, hv0, ra0⟩ := o.getO h0
    have e : (match f xs0 [] with | some (z, ys) => some (z, setO ρ i ys) | none => none) = some (d, ρ') := by
      have e' := e
      unfold mNil at e'
      simp only [h0] at e'
      exact e'
    split at e
    · rename_i z ys h3
      cases e
      refine ⟨_, hp, .inl ⟨rfl, _, sql_of hv0⟩, ?_⟩
      exact hr S H p vs0 xs0 [] [] _ _ hv0 ra0 .nil h3 Q fun v vs' rv ra' => q v S _ (.refl _) (o.setO h0 hp ra') rv
    · cases e
def appendO : List PyData → List PyData → Option (PyData × List PyData) := fun xs ds => match ds with
  | [y] => if xs.length < sizeLine then some (.none, xs ++ [y]) else none
  | _ => none
theorem m_append : RM K rAppend appendO := fun S H p vs xs us ds z ys hp ra ru hf Q q => by
  unfold appendO at hf
  split at hf
  · split at hf
    · rename_i y hl
      cases hf
      cases ru with
      | cons r1 r2 =>
        cases r2
        exact ⟨p, vs, _, rfl, rfl, hp, by rw [ra.length]; exact hl, q _ _ .non (ra.append (.one r1))⟩
    · cases hf
  · cases hf
def insertO : List PyData → List PyData → Option (PyData × List PyData) := fun xs ds => match ds with
  | [.int i, y] => if xs.length < sizeLine ∧ 0 ≤ i ∧ i < 2 ^ 63 then some (.none, xs.take i.toNat ++ [y] ++ xs.drop i.toNat) else none
  | _ => none
theorem m_insert : RM K (fun x vs H Q => ∃ (l : Addr) (xs : List V) (i : Int) (y : V), x = .ref l ∧ vs = [.int i, y] ∧ H l = some (.lst xs) ∧ xs.length < sizeLine ∧ 0 ≤ i ∧ i < 2 ^ 63 ∧ Q .non (upd H l (.lst (xs.take i.toNat ++ [y] ++ xs.drop i.toNat)))) insertO := fun S H p vs xs us ds z ys hp ra ru hf Q q => by
  unfold insertO at hf
  split at hf
  · split at hf
    · rename_i i y hl
      cases hf
      cases ru with
      | cons r1 r2 =>
        cases r2 with
        | cons r2 r3 =>
          cases r3
          cases r1
          exact ⟨p, vs, i, _, rfl, rfl, hp, by rw [ra.length]; exact hl.1, hl.2.1, hl.2.2, q _ _ .non (((ra.take _).append (.one r2)).append (ra.drop _))⟩
    · cases hf
  · cases hf
theorem RpAll.erase {S : Hp} : ∀ {vs : List V} {ds : List PyData} (i : Nat), RpAll K S vs ds → RpAll K S (vs.eraseIdx i) (ds.eraseIdx i)
  | _, _, _, .nil => .nil
  | _, _, 0, .cons _ r => r
  | _, _, i + 1, .cons h r => .cons h (RpAll.erase i r)
def popAtO : List PyData → List PyData → Option (PyData × List PyData) := fun xs ds => match ds with
  | [.int i] => if -(2 ^ 63) ≤ i ∧ i < 2 ^ 63 then match seqIndex? i xs.length with
      | some k => match xs[k]? with
        | some y => some (y, xs.eraseIdx k)
        | none => none
      | none => none
    else none
  | _ => none
theorem m_popAt : RM K rPopAt popAtO := fun S H p vs xs us ds z ys hp ra ru hf Q q => by
  unfold popAtO at hf
  split at hf
  · split at hf
    · rename_i i hl
      split at hf
      · rename_i k hk
        split at hf
        · rename_i y hy
          cases hf
          cases ru with
          | cons r1 r2 =>
            cases r2
            cases r1
            obtain ⟨v, hv, rv⟩ := ra.get hy
            exact ⟨p, vs, i, k, v, rfl, rfl, hp, hl.1, hl.2, by rw [ra.length]; exact hk, hv, q _ _ rv (ra.erase k)⟩
        · cases hf
      · cases hf
    · cases hf
  · cases hf
def clearO : List PyData → List PyData → Option (PyData × List PyData) := fun xs ds => match ds with
  | [] => some (.none, [])
  | _ => none
theorem m_clear : RM K rClear clearO := fun S H p vs xs us ds z ys hp ra ru hf Q q => by
  unfold clearO at hf
  split at hf
  · cases hf
    cases ru
    exact ⟨p, vs, rfl, rfl, hp, q _ _ .non .nil⟩
  · cases hf
def popO : List PyData → List PyData → Option (PyData × List PyData) := fun xs ds => match ds with
  | [] => match xs[xs.length - 1]? with
    | some y => some (y, xs.dropLast)
    | none => none
  | _ => none
theorem RpAll.dropLast {S : Hp} {vs : List V} {ds : List PyData} (h : RpAll K S vs ds) : RpAll K S vs.dropLast ds.dropLast := by
  rw [List.dropLast_eq_take, List.dropLast_eq_take, h.length]
  exact h.take _
theorem m_pop : RM K rPop popO := fun S H p vs xs us ds z ys hp ra ru hf Q q => by
  unfold popO at hf
  split at hf
  · split at hf
    · rename_i y hy
      cases hf
      cases ru
      obtain ⟨v, hv, rv⟩ := ra.get hy
      exact ⟨p, vs, v, rfl, rfl, hp, by rw [ra.length]; exact hv, q _ _ rv ra.dropLast⟩
    · cases hf
  · cases hf
/-- x.extend(e), e a new list -/
def mExt (i : Nat) (a : ML) : M := fun ρ => match getO ρ i with
  | none => none
  | some _ => match a ρ with
    | some (zs, ρ1) => match getO ρ1 i with
      | some xs => if xs.length + zs.length ≤ sizeLine then some (.none, setO ρ1 i (xs ++ zs)) else none
      | none => none
    | none => none
theorem s_ext {i : Nat} {te : TE} {a : ML} (ha : SemF K te a) : Sem K (tBM K "list" rExtend (tVar i) (tCons te tNil)) (mExt i a) := fun C S H σ ρ o d ρ' e Q q => by
  unfold mExt at e
  split at e
  · cases e
  · rename_i xs0 h0
    obtain ⟨p, vs0, hp, hv0, _⟩ := o.getO h0
    split at e
    · rename_i zs ρ1 h1
      split at e
      · rename_i xs h2
        split at e
        · rename_i hl
          cases e
          refine ⟨_, hp, .inl ⟨rfl, _, sql_of hv0⟩, ?_⟩
          refine ha C S H σ ρ o _ _ h1 _ fun b S1 H1 e1 o1 w n s => ?_
          obtain ⟨p', vs, hp', hv, ra⟩ := o1.getO h2
          rw [hp] at hp'
          cases hp'
          obtain ⟨us, h4, h5⟩ := w.h
          exact ⟨p, b, vs, us, rfl, rfl, hv, h4, by rw [ra.length, h5.length]; exact hl, q _ S1 _ e1 (o1.setO h2 hp (ra.append h5)) .non⟩
        · cases e
      · cases e
    · cases e
/-- x[k] = e of a list of one's own -/
def mSetIx (i : Nat) (a : M) (k : M) : MS := fun ρ => match a ρ with
  | some (y, ρ1) => match getO ρ1 i with
    | none => none
    | some _ => match k ρ1 with
      | some (.int j, ρ2) => match getO ρ2 i with
        | some xs => match ixN xs.length j with
          | some n => some (.nx (setO ρ2 i (xs.set n y)))
          | none => none
        | none => none
      | _ => none
  | none => none
theorem s_setIx {i : Nat} {te ti : TE} {a k : M} (ha : Sem K te a) (hk : Sem K ti k) : SemS K (tAsg te (gSub (tVar i) ti rSetL)) (mSetIx i a k) := fun C S H σ ρ o out e D q => by
  unfold mSetIx at e
  split at e
  · rename_i y ρ1 h1
    split at e
    · cases e
    · rename_i xs0 h0
      split at e
      · rename_i j ρ2 h2
        split at e
        · rename_i xs h3
          split at e
          · rename_i n h4
            cases e
            refine ha C S H σ ρ o _ _ h1 _ fun v S1 H1 e1 o1 r1 => ?_
            obtain ⟨p, vs0, hp, hv0, _⟩ := o1.getO h0
            refine ⟨_, hp, ?_⟩
            refine hk C S1 H1 σ ρ1 o1 _ _ h2 _ fun u S2 H2 e2 o2 r2 => ?_
            cases r2
            obtain ⟨p', vs, hp', hv, ra⟩ := o2.getO h3
            rw [hp] at hp'
            cases hp'
            exact ⟨p, vs, j, n, rfl, rfl, hv, by rw [ra.length]; exact h4, q σ S2 _ (e1.trans e2) (o2.setO h3 hp (ra.set (r1.mono e2) n))⟩
          · cases e
        · cases e
      · cases e
  · cases e
/-! ### reading a list of one's own -/
def mIxO (i : Nat) (k : M) : M := fun ρ => match getO ρ i with
  | none => none
  | some _ => match k ρ with
    | some (.int j, ρ1) => match getO ρ1 i with
      | some xs => match atI xs j with
        | some y => some (y, ρ1)
        | none => none
      | none => none
    | _ => none
theorem s_ixO {i : Nat} {ti : TE} {k : M} (hk : Sem K ti k) : Sem K (tOp (orR (rIxT K) (orR (rIxL K) rIxS)) (tVar i) ti) (mIxO i k) := fun C S H σ ρ o d ρ' e Q q => by
  unfold mIxO at e
  split at e
  · cases e
  · rename_i xs0 h0
    obtain ⟨p, vs0, hp, hv0, _⟩ := o.getO h0
    split at e
    · rename_i j ρ1 h1
      split at e
      · rename_i xs h2
        split at e
        · rename_i y h3
          cases e
          refine ⟨_, hp, ?_⟩
          refine hk C S H σ ρ o _ _ h1 _ fun u S1 H1 e1 o1 r1 => ?_
          cases r1
          obtain ⟨p', vs, hp', hv, ra⟩ := o1.getO h2
          rw [hp] at hp'
          cases hp'
          obtain ⟨v, h4, h5⟩ := atI_rp ra h3
          exact .inr (.inl ⟨p, vs, j, v, rfl, rfl, sql_of hv, h4, q v S1 H1 e1 o1 h5⟩)
        · cases e
      · cases e
    · cases e
/-- x + e -/
def mCatO (i : Nat) (b : M) : ML := fun ρ => match getO ρ i with
  | none => none
  | some _ => match b ρ with
    | some (.list ys, ρ1) => match getO ρ1 i with
      | some xs => if xs.length + ys.length ≤ sizeLine then some (xs ++ ys, ρ1) else none
      | none => none
    | _ => none
theorem s_catO {r : R2} {i : Nat} {tb : TE} {b : M} (hb : Sem K tb b) : SemF K (tOp (orR r (rCatL K)) (tVar i) tb) (mCatO i b) := fun C S H σ ρ o d ρ' e Q q => by
  unfold mCatO at e
  split at e
  · cases e
  · rename_i xs0 h0
    obtain ⟨p, vs0, hp, hv0, _⟩ := o.getO h0
    split at e
    · rename_i ys ρ1 h1
      split at e
      · rename_i xs h2
        split at e
        · rename_i hl
          cases e
          refine ⟨_, hp, ?_⟩
          refine hb C S H σ ρ o _ _ h1 _ fun u S1 H1 e1 o1 r1 => ?_
          obtain ⟨p', vs, hp', hv, ra⟩ := o1.getO h2
          rw [hp] at hp'
          cases hp'
          cases r1 with
          | lst h3 r3 =>
            refine .inr ⟨_, _, _, _, rfl, rfl, sql_of hv, o1.exS.l h3, by rw [ra.length, r3.length]; exact hl, fun t ht => ?_⟩
            obtain ⟨o4, w4, n4, s4⟩ := o1.ownNew ht (ra.append r3)
            exact q t S1 _ e1 o4 w4 n4 s4
        · cases e
      · cases e
    · cases e
/-- x[a:b] -/
def mSlO (i : Nat) (l h : Ev → Option (Option Int × Ev)) : ML := fun ρ => match getO ρ i with
  | none => none
  | some _ => match l ρ with
    | some (lo, ρ1) => match h ρ1 with
      | some (hi, ρ2) => match getO ρ2 i with
        | some xs => some (cutD xs lo hi, ρ2)
        | none => none
      | none => none
    | none => none
theorem s_slO {i : Nat} {tl th : TO} {l h : Ev → Option (Option Int × Ev)} (hl : SemO K tl l) (hh : SemO K th h) : SemF K (tSl (or3 (rSlL K) (or3 (rSlA K) rSlS)) (tVar i) tl th) (mSlO i l h) := fun C S H σ ρ o d ρ' e Q q => by
  unfold mSlO at e
  split at e
  · cases e
  · rename_i xs0 h0
    obtain ⟨p, vs0, hp, hv0, _⟩ := o.getO h0
    split at e
    · rename_i lo ρ1 h1
      split at e
      · rename_i hi ρ2 h2
        split at e
        · rename_i xs h3
          cases e
          refine ⟨_, hp, ?_⟩
          refine hl C S H σ ρ o _ _ h1 _ fun S1 H1 e1 o1 => ?_
          refine hh C S1 H1 σ ρ1 o1 _ _ h2 _ fun S2 H2 e2 o2 => ?_
          obtain ⟨p', vs, hp', hv, ra⟩ := o2.getO h3
          rw [hp] at hp'
          cases hp'
          refine .inl ⟨_, _, rfl, sql_of hv, fun t ht => ?_⟩
          obtain ⟨o4, w4, n4, s4⟩ := o2.ownNew ht (cut_rp ra lo hi)
          exact q t S2 _ (e1.trans e2) o4 w4 n4 s4
        · cases e
      · cases e
    · cases e
/-- tuple(x), len(x) -/
def mTupO (i : Nat) : M := fun ρ => match getO ρ i with
  | some xs => some (.tuple xs, ρ)
  | none => none
theorem s_tupO {i : Nat} : Sem K (tCB (fun xs H Q => ∃ p ys, xs = [.ref p] ∧ ((SqL K H p ys ∧ ∀ l, H l = none → Q (.ref l) (upd H l (.tup ys))) ∨ (SqT K H p ys ∧ Q (.ref p) H))) (tCons (tVar i) tNil)) (mTupO i) := fun C S H σ ρ o d ρ' e Q q => by
  unfold mTupO at e
  split at e
  · rename_i xs h0
    cases e
    obtain ⟨p, vs, hp, hv, ra⟩ := o.getO h0
    exact ⟨_, hp, p, vs, rfl, .inl ⟨sql_of hv, fun l hl => q _ _ _ (.new (o.exS.free hl)) (o.new hl) (.tup (sqt_of upd_same) (ra.mono (.new (o.exS.free hl))))⟩⟩
  · cases e
def mLenO (i : Nat) : M := fun ρ => match getO ρ i with
  | some xs => some (.int xs.length, ρ)
  | none => none
theorem s_lenO {i : Nat} : Sem K (tCB (fun xs H Q => ∃ x n, xs = [x] ∧ LenV K x H n ∧ Q (.int n) H) (tCons (tVar i) tNil)) (mLenO i) := fun C S H σ ρ o d ρ' e Q q => by
  unfold mLenO at e
  split at e
  · rename_i xs h0
    cases e
    obtain ⟨p, vs, hp, hv, ra⟩ := o.getO h0
    exact ⟨_, hp, _, _, rfl, .inl ⟨_, sql_of hv, rfl⟩, q _ S H (.refl _) o (by rw [ra.length]; exact .int _)⟩
  · cases e
/-- x == [] -/
def mNilO (i : Nat) : M := fun ρ => match getO ρ i with
  | some xs => if SeqAt.shaped (.list xs) = true then some (.bool xs.isEmpty, ρ) else none
  | none => none
end
/-! ### what is walked -/
def iAny (K : Frag) (te : TE) : TI := fun σ H R => te σ H fun x H1 => (∃ a, x = .ref a ∧ (∃ xs, SqL K H1 a xs) ∧ R (Itl K a) H1) ∨ (∃ a, x = .ref a ∧ (∃ xs, SqT K H1 a xs) ∧ R (Itt K a) H1) ∨ ∃ z, x = .str z ∧ R (Its z) H1
/-- what has been evaluated already -/
theorem pi_any {X : Cx} {tg l : Expr} {tl : TE} (hl : PE X l tl) : PI X tg l (iAny X.K tl) := by
  constructor
  intro pins s σ H R I h
  refine thn (hl.run pins s σ H _ I h) ?_
  rintro v s1 ⟨x, H1, J, rx, hq⟩
  rcases hq with ⟨a, rfl, ⟨xs, hs⟩, q⟩ | ⟨a, rfl, ⟨xs, hs⟩, q⟩ | ⟨z, rfl, q⟩
  · cases rx
    obtain ⟨its, _, pl, _⟩ := J.list hs
    exact wpAny_pyIter_list pl.isList (pi_one (tk := s1.toks) J _ (turn_list a _) ⟨_, Heap.get?_push_size _ rfl, rfl, rfl⟩ q)
  · cases rx
    obtain ⟨its, _, pl, _⟩ := J.tuple hs
    exact wpAny_pyIter_tuple (show s1.heap.IsTuple a its.toArray from pl) (pi_one (tk := s1.toks) J _ (turn_tuple a _) ⟨_, Heap.get?_push_size _ rfl, rfl, rfl⟩ q)
  · obtain ⟨t, rfl⟩ := rx
    cases hc : z.cps.all (· < 128)
    · exact wpAny_pyIter_wide hc (pi_one (tk := s1.toks) J _ (turn_str _ z t "str_iterator" (Or.inr rfl)) ⟨_, Heap.get?_push_size _ rfl, rfl, rfl⟩ q)
    · exact wpAny_pyIter_ascii hc (pi_one (tk := s1.toks) J _ (turn_str _ z t "str_ascii_iterator" (Or.inl rfl)) ⟨_, Heap.get?_push_size _ rfl, rfl, rfl⟩ q)
section
variable {K : Frag}
def signs (z : Str) : List PyData := z.cps.toList.map fun c => .str ⟨#[c]⟩
def itD : PyData → Option (List PyData)
  | .list a => some a
  | .tuple a => some a
  | .str z => some (signs z)
  | _ => none
def mIt (a : M) : ML := fun ρ => match a ρ with
  | some (x, ρ1) => match itD x with
    | some ds => some (ds, ρ1)
    | none => none
  | none => none
theorem walkD_l {S : Hp} {a : Addr} {vs : List V} {ds : List PyData} (h : SqL K S a vs) (r : RpAll K S vs ds) : WalkD K S (Itl K a) ds := by
  have w := walk_list (K := K) (a := a) (xs := vs)
  refine ⟨fun i H hi e => w.goes i H (by rw [r.length]; exact hi) (e.l h), fun H e => by rw [← r.length]; exact w.stops H (e.l h), fun i S1 H x H' hi e1 e2 y => ?_⟩
  obtain ⟨rfl, hx⟩ := w.yields i H x H' (by rw [r.length]; exact hi) ((e1.trans e2).l h) y
  obtain ⟨d, h1, h2⟩ := r.getV hx
  exact ⟨S1, .refl e2, d, h1, h2.mono e1⟩
theorem walkD_t {S : Hp} {a : Addr} {vs : List V} {ds : List PyData} (h : SqT K S a vs) (r : RpAll K S vs ds) : WalkD K S (Itt K a) ds := by
  have w := walk_tup (K := K) (a := a) (xs := vs)
  refine ⟨fun i H hi e => w.goes i H (by rw [r.length]; exact hi) (e.t h), fun H e => by rw [← r.length]; exact w.stops H (e.t h), fun i S1 H x H' hi e1 e2 y => ?_⟩
  obtain ⟨rfl, hx⟩ := w.yields i H x H' (by rw [r.length]; exact hi) ((e1.trans e2).t h) y
  obtain ⟨d, h1, h2⟩ := r.getV hx
  exact ⟨S1, .refl e2, d, h1, h2.mono e1⟩
theorem walkD_s {S : Hp} {z : Str} : WalkD K S (Its z) (signs z) := by
  have hl : (signs z).length = z.cps.size := by unfold signs; rw [List.length_map, Array.length_toList]
  refine ⟨fun i H hi _ => (walk_str (z := z)).goes i H (by omega) trivial, fun H _ => by rw [hl]; exact (walk_str (z := z)).stops H trivial, fun i S1 H x H' hi e1 e2 y => ?_⟩
  obtain ⟨rfl, c, h1, rfl⟩ := (walk_str (z := z)).yields i H x H' (by omega) trivial y
  refine ⟨S1, .refl e2, .str ⟨#[c]⟩, ?_, .str _⟩
  unfold signs
  rw [List.getElem?_map, Array.getElem?_toList, h1]
  rfl
theorem i_any {te : TE} {a : M} (h : Sem K te a) : SemI K (iAny K te) (mIt a) := fun C S H σ ρ o ds ρ' e R q => by
  unfold mIt at e
  split at e
  · rename_i x ρ1 h1
    split at e
    · rename_i ds' h2
      cases e
      refine h C S H σ ρ o _ _ h1 _ fun v S1 H1 e1 o1 r1 => ?_
      cases r1 with
      | lst hs ra =>
        cases h2
        exact .inl ⟨_, rfl, ⟨_, o1.exS.l hs⟩, q _ S1 H1 e1 o1 (walkD_l hs ra)⟩
      | tup hs ra =>
        cases h2
        exact .inr (.inl ⟨_, rfl, ⟨_, o1.exS.t hs⟩, q _ S1 H1 e1 o1 (walkD_t hs ra)⟩)
      | str z =>
        cases h2
        exact .inr (.inr ⟨z, rfl, q _ S1 H1 e1 o1 walkD_s⟩)
      | non => cases h2
      | bl b => cases h2
      | int b => cases h2
      | dct _ _ => cases h2
    · cases e
  · cases e
/-- range(n) -/
def rangeD (lo : Int) (n : Nat) : List PyData := (List.range n).map fun (i : Nat) => .int (lo + i)
def mRange1 (a : ML) : ML := fun ρ => match a ρ with
  | some ([.int n], ρ1) => if -(2 ^ 62) ≤ n ∧ n < 2 ^ 62 then some (rangeD 0 n.toNat, ρ1) else none
  | _ => none
theorem walkD_r {S : Hp} {lo : Int} {n : Nat} : WalkD K S (Itr lo n) (rangeD lo n) := by
  have hl : (rangeD lo n).length = n := by unfold rangeD; rw [List.length_map, List.length_range]
  refine ⟨fun i H hi _ => by rw [hl] at hi; exact hi, fun H _ => by rw [hl]; exact Nat.le_refl n, fun i S1 H x H' hi e1 e2 y => ?_⟩
  obtain ⟨rfl, rfl⟩ := y
  refine ⟨S1, .refl e2, .int (lo + i), ?_, .int _⟩
  rw [hl] at hi
  unfold rangeD
  rw [List.getElem?_map, List.getElem?_range hi]
  rfl
theorem i_range1 {ta : TA} {a : ML} (h : SemA K ta a) : SemI K (iRng1 ta) (mRange1 a) := fun C S H σ ρ o ds ρ' e R q => by
  unfold mRange1 at e
  split at e
  · rename_i n ρ1 h1
    split at e
    · rename_i hn
      cases e
      refine h C S H σ ρ o _ _ h1 _ fun vs S1 H1 e1 o1 r1 => ?_
      cases r1 with
      | cons r1 r2 =>
        cases r2
        cases r1
        exact ⟨n, rfl, hn.1, hn.2, q _ S1 H1 e1 o1 walkD_r⟩
    · cases e
  · cases e
end
end Dn

/-! Dn11: xs[a:b] = ys, xs[::-1], {}, == of a list of one's own. -/
namespace Dn
open PySem L2 PySem.Spec PyProof.Rows
section
variable {prog : Program} {w : World} {A : Around} {E : Value → Shared → Prop} {s : Shared}
/-- xs[lo:hi] = ys, any bounds -/
theorem setItem_cut {l b sl : Addr} {its new : Array Value} {n n2 : Nat} {vl vu : Value} {lo hi : Option Int} {Q : Unit → Shared → Prop} (e : s.heap.get? l = some { cls := .type "list", data := .seq its n }) (e2 : s.heap.get? b = some { cls := .type "list", data := .seq new n2 }) (ne : l ≠ b)
    (hs : s.heap.IsSliceOf sl vl vu .none) (pl : IsPart vl lo) (pu : IsPart vu hi) (hsz : its.size + new.size ≤ sizeLine)
    (h : Q () { s with heap := s.heap.update l (Obj.mapSeq fun xs => xs.extract 0 (HT.sIx its.size 0 lo) ++ new ++ xs.extract (max (HT.sIx its.size 0 lo) (HT.sIx its.size its.size hi)) xs.size) }) :
    wpAny (model prog w) A (setItem (.ref l) (.ref sl) (.ref b)) Q E s := by
  have isl : s.heap.IsList l its := PySem.IsL.isList e
  have isb : s.heap.IsList b new := PySem.IsL.isList e2
  obtain ⟨os, g1, g2, g3⟩ := id hs
  have tS : s.TypeIs (.ref sl) "slice" := ⟨os, g1, g2⟩
  have diff : Builtin.List.listSameRef (.ref l) (.ref b) = false := beq_eq_false_iff_ne.mpr ne
  have hb1 := (slice_bounds lo hi its.size).1
  have hb2 := (slice_bounds lo hi its.size).2.1
  have hb3 := (slice_bounds lo hi its.size).2.2
  have bnd : sliceBounds lo hi none its.size = (((HT.sIx its.size 0 lo : Nat) : Int), ((HT.sIx its.size its.size hi : Nat) : Int), 1) := by
    rw [← hb1, ← hb2, ← hb3]
  have big : ((fun xs : Array Value => xs.extract 0 (HT.sIx its.size 0 lo) ++ new ++ xs.extract (max (HT.sIx its.size 0 lo) (HT.sIx its.size its.size hi)) xs.size) its).size ≤ sizeLine + 1 := by
    simp only [Array.size_append, Array.size_extract]
    omega
  unfold setItem
  try with_reducible refine wpAny_holding ?_
  first | refine wpAny_bind (wpAny_pure ?_) | skip
  refine wpAny_bind (wpAny_sequenceKey isl.typeIs (by decide) ?_)
  refine wpAny_bind (wpAny_callSpecial?_slot (name := Str.ofString "__setitem__") isl.typeIs slot_list_setitem (wpAny_call_entry slot_list_setitem isl.typeIs entry_list_setitem ?_ (args_list_setitem _ _ _)))
  show wpAny _ _ (Builtin.List.listSubscript? (.ref sl) >>= _) _ _ s
  refine wpAny_bind ?_
  unfold Builtin.List.listSubscript?
  refine wpAny_bind (wpAny_specialOf tS slice_no_index ?_)
  simp only [Option.isNone_none, if_true]
  refine wpAny_pure ?_
  show wpAny _ _ (typeOf (.ref sl) >>= _) _ _ s
  refine wpAny_bind (wpAny_typeOf tS ?_)
  first
    | rw [if_neg (by decide)]
    | refine PySem.W.KFB.if_not (by decide) ?_
  rw [listSliceParts_eq]
  refine wpAny_bind (wpAny_bind (wpAny_field g1 g3 (x := .none) rfl (wpAny_bind (wpAny_listPart .none ?_))))
  rw [if_neg (show ¬ ((rawPart none == rawInt 0) = true) from Bool.false_ne_true)]
  refine wpAny_bind (wpAny_field g1 g3 (x := vl) rfl (wpAny_bind (wpAny_listPart pl ?_)))
  refine wpAny_bind (wpAny_field g1 g3 (x := vu) rfl (wpAny_bind (wpAny_listPart pu (wpAny_pure ?_))))
  first
    | simp only [diff, Bool.false_eq_true, if_false]
    | refine PySem.W.KFB.if_not diff ?_
  refine wpAny_bind (m := Builtin.List.listAllItems (.ref b) "must assign iterable to extended slice") ?_
  unfold Builtin.List.listAllItems
  refine wpAny_bind (wpAny_typeOf isb.typeIs ?_)
  first
    | refine PySem.W.KFB.if_so (by decide) ?_
    | rw [if_pos (by decide)]
    | simp only [beq_self_eq_true, Bool.true_or, if_true]
  unfold Builtin.List.listItems
  refine wpAny_bind (wpAny_seqItems e2 rfl (wpAny_pure ?_))
  refine wpAny_bind (wpAny_bind (wpAny_seqItems e rfl (wpAny_pure ?_)))
  refine wpAny_bind (wpAny_of_eq ((sliceIndices_raw lo hi none its.size (by simp)).trans (congrArg (pure : Int × Int × Int → PySem.Sem (Int × Int × Int)) bnd)) ?_)
  show wpAny _ _ (if ((1 : Int) == 1) = true then _ else _) _ _ s
  rw [if_pos (by decide)]
  refine wpAny_bind (wpAny_rule ?_)
  first
    | simp only [notLongL hsz, Bool.false_eq_true, if_false]
    | refine PySem.W.KFB.if_not (notLongL hsz) ?_
  first | refine wpAny_bind (wpAny_pure ?_) | skip
  have m1 : (max ((HT.sIx its.size 0 lo : Nat) : Int) ((HT.sIx its.size its.size hi : Nat) : Int)).toNat = max (HT.sIx its.size 0 lo) (HT.sIx its.size its.size hi) := by omega
  show wpAny _ _ (updateSeq l (fun xs => xs.extract 0 (((HT.sIx its.size 0 lo : Nat) : Int)).toNat ++ new ++ xs.extract (max ((HT.sIx its.size 0 lo : Nat) : Int) ((HT.sIx its.size its.size hi : Nat) : Int)).toNat xs.size) >>= _) _ _ s
  rw [m1, Int.toNat_natCast]
  refine wpAny_bind (wpAny_updateSeq (hz := Nat.le_trans (Nat.le_add_right _ _) hsz) (_hz' := big) e rfl ?_)
  refine wpAny_bind (wpAny_letGo ?_)
  first
    | exact wpAny_bind (wpAny_pure (wpAny_pure ⟨.none, rfl, wpAny_pure h⟩))
    | exact wpAny_pure ⟨.none, rfl, wpAny_pure h⟩
end
/-- the list behind xs[lo:hi] = ys -/
def spl {α : Type} (xs ys : List α) (lo hi : Option Int) : List α := xs.take (HT.sIx xs.length 0 lo) ++ ys ++ xs.drop (max (HT.sIx xs.length 0 lo) (HT.sIx xs.length xs.length hi))
/-- o[lo:hi] = v as a target -/
def gCut (to : TE) (tl th : TO) : TG := fun v σ H Q => to σ H fun o H1 => tl σ H1 fun l H2 => th σ H2 fun u H3 => ∃ p b xs ys, o = .ref p ∧ v = .ref b ∧ H3 p = some (.lst xs) ∧ H3 b = some (.lst ys) ∧ p ≠ b ∧ xs.length + ys.length ≤ sizeLine ∧ Q σ (upd H3 p (.lst (spl xs ys l u)))
theorem pg_cut {X : Cx} {o : Expr} {lo hi : Option Expr} {to : TE} {tl th : TO} {p2 pos : Pos} (ho : PE X o to) (hl : PO X lo tl) (hh : PO X hi th)
    (ha : ∀ v, assign (.Subscript o (.Slice lo hi none p2) pos) X.env v = (do
      let ov ← holding [v] (eval o X.env)
      let iv ← holding [v, ov] (eval (.Slice lo hi none p2) X.env)
      standAt pos
      holding [v, ov, iv] (setItem ov iv v)
      release [iv, v, ov] []) := by intro _; rfl) : PG X (.Subscript o (.Slice lo hi none p2) pos) (gCut to tl th) := by
  constructor
  intro pins s σ H v u Q I r h
  rw [ha]
  refine wpAny_bind (wpAny_holding (thn (ho.run pins s σ H _ I h) ?_))
  rintro ov s1 ⟨x, H1, I1, r1, q1⟩
  refine wpAny_bind (wpAny_holding (wpAny_Slice (thn (hl.run pins s1 σ H1 _ I1 q1) ?_)))
  rintro vl s2 ⟨l, H2, I2, pl, q2⟩
  refine thn (hh.run pins s2 σ H2 _ I2 q2) ?_
  rintro vu s3 ⟨y, H3, I3, pu, q3⟩
  rw [evalPart_none]
  refine wpAny_pure ?_
  have I4 := I3.kept (h' := s3.heap.push { cls := .type "slice", data := .fields #[vl, vu, .none] }) (t' := s3.toks) (fun b ob q => Heap.get?_push_of_some _ q)
  obtain ⟨p, b, xs, ys, rfl, rfl, hp, hb, ne, hz, q⟩ := q3
  cases r1
  cases r
  obtain ⟨_, its, n, rv, ll, e1⟩ := I4.lstM hp
  obtain ⟨_, jts, n2, rv2, ll2, e2⟩ := I4.lstM hb
  refine wpAny_bind (wpAny_standAt (wpAny_bind (wpAny_holding ?_)))
  refine setItem_cut (lo := l) (hi := y) e1 e2 ne (Heap.IsSliceOf.new ..) pl pu (by rw [List.size_toArray, List.size_toArray]; omega) ?_
  refine wpAny_release ⟨σ, _, ?_, q⟩
  refine I4.lset (its' := spl its jts l y) (t' := s3.toks) hp e1 ?_ ?_ ?_
  · unfold spl
    apply Array.toList_inj.mp
    simp only [List.size_toArray, Array.toList_append, Array.toList_extract, List.extract_eq_drop_take, List.drop_zero, Nat.sub_zero]
    congr 1
    exact List.take_of_length_le (by rw [List.length_drop]; omega)
  · unfold spl
    rw [ll]
    exact Vals.append (Vals.append (rv.take _) rv2) (rv.drop _)
  · unfold spl
    rw [List.length_append, List.length_append, List.length_take, List.length_drop]
    omega
section
variable {K : Frag}
def mSetCut (i : Nat) (a : ML) (l h : Ev → Option (Option Int × Ev)) : MS := fun ρ => match a ρ with
  | some (ys, ρ1) => match getO ρ1 i with
    | none => none
    | some _ => match l ρ1 with
      | some (lo, ρ2) => match h ρ2 with
        | some (hi, ρ3) => match getO ρ3 i with
          | some xs => if xs.length + ys.length ≤ sizeLine then some (.nx (setO ρ3 i (spl xs ys lo hi))) else none
          | none => none
        | none => none
      | none => none
  | none => none
/-- parts of a slice that change nothing of one's own -/
def PureO (l : Ev → Option (Option Int × Ev)) : Prop := ∀ ρ x ρ', l ρ = some (x, ρ') → ρ' = ρ
theorem spl_rp {S : Hp} {vs us : List V} {xs ys : List PyData} (h : RpAll K S vs xs) (h2 : RpAll K S us ys) (lo hi : Option Int) : RpAll K S (spl vs us lo hi) (spl xs ys lo hi) := by
  unfold spl
  rw [h.length]
  exact ((h.take _).append h2).append (h.drop _)
/-- x[lo:hi] = e, e a new list; the parts change nothing -/
theorem s_setCut {i : Nat} {te : TE} {tl th : TO} {a : ML} {l h : Ev → Option (Option Int × Ev)} (ha : SemF K te a) (hl : SemO K tl l) (hh : SemO K th h) : SemS K (tAsg te (gCut (tVar i) tl th)) (mSetCut i a l h) := fun C S H σ ρ o out e D q => by
  unfold mSetCut at e
  split at e
  · rename_i ys ρ1 h1
    split at e
    · cases e
    · rename_i xs0 h0
      split at e
      · rename_i lo ρ2 h2
        split at e
        · rename_i hi ρ3 h3
          split at e
          · rename_i xs h4
            split at e
            · rename_i hz
              cases e
              refine ha C S H σ ρ o _ _ h1 _ fun b S1 H1 e1 o1 w n s => ?_
              obtain ⟨us, h5, h6⟩ := w.h
              -- the new list is kept while the parts are reckoned
              have of := o1.freeze h5 w.s n s
              have ex : Ex S1 (upd S1 b (.lst us)) := .new w.s
              obtain ⟨p, vs0, hp, hv0, _⟩ := o1.getO h0
              refine ⟨_, hp, ?_⟩
              refine hl C _ H1 σ ρ1 of _ _ h2 _ fun S2 H2 e2 o2 => ?_
              refine hh C S2 H2 σ ρ2 o2 _ _ h3 _ fun S3 H3 e3 o3 => ?_
              obtain ⟨p', vs, hp', hv, ra⟩ := o3.getO h4
              rw [hp] at hp'
              cases hp'
              have hb : S3 b = some (.lst us) := e3 b _ (e2 b _ upd_same)
              have hb3 : H3 b = some (.lst us) := o3.exS b _ hb
              have ne : p ≠ b := fun z => by
                have q1 := o3.slot i
                unfold getO at h4
                split at h4
                · rename_i x hx
                  have q2 := q1 x hx
                  cases x with
                  | un => cases h4
                  | d x => cases h4
                  | ol zs =>
                    obtain ⟨p2, e4, _, w2⟩ := q2
                    rw [hp] at e4
                    cases e4
                    rw [← z, w2.s] at hb
                    cases hb
                  | io zs =>
                    obtain ⟨p2, e4, _, w2⟩ := q2
                    rw [hp] at e4
                    cases e4
                    rw [← z, w2.s] at hb
                    cases hb
                · cases h4
              refine ⟨p, b, vs, us, rfl, rfl, hv, hb3, ne, by rw [ra.length, h6.length]; exact hz, q σ S3 _ (((e1.trans ex).trans e2).trans e3) (o3.setO h4 hp (spl_rp ra (h6.mono ((ex.trans e2).trans e3)) lo hi))⟩
            · cases e
          · cases e
        · cases e
      · cases e
  · cases e
def mRev (a : M) : ML := fun ρ => match a ρ with
  | some (.list xs, ρ1) => some (xs.reverse, ρ1)
  | _ => none
theorem s_rev {te : TE} {a : M} (h : Sem K te a) : SemF K (tRevL K te) (mRev a) := fun C S H σ ρ o d ρ' e Q q => by
  unfold mRev at e
  split at e
  · rename_i xs ρ1 h1
    cases e
    refine h C S H σ ρ o _ _ h1 _ fun v S1 H1 e1 o1 r1 => ?_
    cases r1 with
    | lst hs ra =>
      refine ⟨_, _, rfl, o1.exS.l hs, fun p hp => ?_⟩
      obtain ⟨o2, w2, n2, s2⟩ := o1.ownNew hp ra.reverse
      exact q p S1 _ e1 o2 w2 n2 s2
  · cases e
theorem s_dnew : Sem K tDNewK (mC (.dict [])) := fun C S H σ ρ o d ρ' e Q q => by
  cases e
  exact fun p hp => q _ _ _ (.new (o.exS.free hp)) (o.new hp) (.dct upd_same .nil)
/-- x == e, x a list of one's own -/
def mEqO (i : Nat) (b : M) : M := fun ρ => match getO ρ i with
  | none => none
  | some _ => match b ρ with
    | some (y, ρ1) => match getO ρ1 i with
      | some xs => match eqB (.list xs) y with
        | some k => some (.bool k, ρ1)
        | none => none
      | none => none
    | none => none
theorem s_eqO {i : Nat} {tb : TE} {b : M} (hb : Sem K tb b) : Sem K (tOp (rEqA K) (tVar i) tb) (mEqO i b) := fun C S H σ ρ o d ρ' e Q q => by
  unfold mEqO at e
  split at e
  · cases e
  · rename_i xs0 h0
    obtain ⟨p, vs0, hp, hv0, _⟩ := o.getO h0
    split at e
    · rename_i y ρ1 h1
      split at e
      · rename_i xs h2
        split at e
        · rename_i k hk
          cases e
          refine ⟨_, hp, ?_⟩
          refine hb C S H σ ρ o _ _ h1 _ fun u S1 H1 e1 o1 r1 => ?_
          obtain ⟨p', vs, hp', hv, ra⟩ := o1.getO h2
          rw [hp] at hp'
          cases hp'
          exact eq_told o1.exS (.inr ⟨p, vs, xs, rfl, rfl, sql_of hv, ra⟩) r1 hk (q _ S1 H1 e1 o1 (.bl k))
        · cases e
      · cases e
    · cases e
end
end Dn

/-! Dn12: the words that the printer uses. -/
namespace Dn
open PySem L2
section
variable {X : Cx} {K : Frag}
abbrev rAddU (K : Frag) : R2 := orR (orR (rI0 fun i j => .int (i + j)) (orR (fun x y H Q => ∃ i j, x = .str i ∧ y = .str j ∧ i.length + j.length ≤ sizeLine ∧ Q (.str (i ++ j)) H) (rCatA K))) (rCatL K)
theorem op_addU : OpR X (binaryOp .Add) (rAddU X.K) := OpR.or (OpR.or op_add (OpR.or op_add_str op_catA)) op_catL
def addD : PyData → PyData → Option PyData := alt2 (alt2 addI (alt2 addS catT)) fun x y => (catL x y).map .list
theorem r_addU : R2S K (rAddU K) addD := (r_add.alt (r_addS.alt r_catT)).alt r_catL.s
theorem r_addF : R2F K (rAddU K) catL := r_catL.orR
abbrev rMulU (K : Frag) : R2 := orR (rI CMul fun i j => .int (i * j)) (rRepT K)
theorem op_mulU : OpR X (binaryOp .Mult) (rMulU X.K) := OpR.or op_mul op_repT
def mulD : PyData → PyData → Option PyData := alt2 mulI repT
theorem r_mulU : R2S K (rMulU K) mulD := r_mul.alt r_repT
abbrev rLtU : R2 := orR (rI0 fun i j => .bl (decide (i < j))) (fun x y H Q => ∃ i j, x = .str i ∧ y = .str j ∧ Q (.bl (decide (i.cps.toList < j.cps.toList))) H)
theorem op_ltU : OpR X (compareOp .Lt) rLtU := OpR.or op_lt op_lt_str
def ltD : PyData → PyData → Option PyData := alt2 ltI ltS
theorem r_ltU : R2S K rLtU ltD := r_lt.alt r_ltS
abbrev rLeU : R2 := orR (rI0 fun i j => .bl (decide (i ≤ j))) (fun x y H Q => ∃ i j, x = .str i ∧ y = .str j ∧ Q (.bl (!decide (j.cps.toList < i.cps.toList))) H)
theorem op_leU : OpR X (compareOp .LtE) rLeU := OpR.or op_le op_le_str
def leD : PyData → PyData → Option PyData := alt2 leI leS
theorem r_leU : R2S K rLeU leD := r_le.alt r_leS
def negD : PyData → Option PyData
  | .int i => some (.int (-i))
  | _ => none
theorem r_neg : R1S K (rU fun i => .int (-i)) negD := fun S H e x dx dz rx hf Q q => by
  unfold negD at hf
  split at hf
  · cases hf
    cases rx
    exact ⟨_, rfl, q _ S H (.refl e) (.int _)⟩
  · cases hf
/-- a module's constant -/
theorem pe_globE {x : Str} {v : V} {pos : Pos} (hg : Gl X x) (h : ∃ u, X.mg x = some u ∧ RelV v u) (hd : (x == ("__debug__" : Str)) = false := by decide) : PE X (.Name x pos) (tC v) := by
  obtain ⟨u, h1, h2⟩ := h
  exact pe_glob hg h1 h2 hd
theorem bt_len : bootBuiltins "len" = some (.builtin "len") := by decide +kernel
theorem bt_isinstance : bootBuiltins "isinstance" = some (.builtin "isinstance") := by decide +kernel
theorem bt_abs : bootBuiltins "abs" = some (.builtin "abs") := by decide +kernel
theorem bt_max : bootBuiltins "max" = some (.builtin "max") := by decide +kernel
theorem bt_min : bootBuiltins "min" = some (.builtin "min") := by decide +kernel
theorem bt_all : bootBuiltins "all" = some (.builtin "all") := by decide +kernel
theorem bt_any : bootBuiltins "any" = some (.builtin "any") := by decide +kernel
theorem bt_repr : bootBuiltins "repr" = some (.builtin "repr") := by decide +kernel
theorem bt_int : bootBuiltins "int" = some (.type "int") := by decide +kernel
theorem bt_bool : bootBuiltins "bool" = some (.type "bool") := by decide +kernel
theorem bt_str : bootBuiltins "str" = some (.type "str") := by decide +kernel
theorem bt_tuple : bootBuiltins "tuple" = some (.type "tuple") := by decide +kernel
theorem bt_list : bootBuiltins "list" = some (.type "list") := by decide +kernel
theorem bt_dict : bootBuiltins "dict" = some (.type "dict") := by decide +kernel
/-- a built-in class as a value -/
theorem pe_ty {x : Str} {n : String} {pos : Pos} (hg : Gl X x) (hm : X.mg x = none) (hv : bootBuiltins x = some (.type n)) (hn : x ≠ "__name__" := by decide) (hd : (x == ("__debug__" : Str)) = false := by decide) : PE X (.Name x pos) (tC (.ty n)) := pe_bltn hg hm hv rfl hn hd
end
end Dn

namespace L_k01
open PySem L2 Dn
def top (i : Nat) : Stmt := PySem.Challenge.pw_choosemeet_k01_things_and_offers.main.body.getD i (.Pass ⟨0, 0, 0, 0⟩)
abbrev s_is_whole : Stmt := top 5
abbrev s_is_from_nought : Stmt := top 6
abbrev s_is_name : Stmt := top 7
abbrev s_is_word : Stmt := top 8
abbrev s_is_numbered : Stmt := top 9
abbrev s_is_thing : Stmt := top 10
abbrev s_are_things : Stmt := top 11
abbrev s_is_offer : Stmt := top 12
abbrev s__law_pool : Stmt := top 14
abbrev s__law_take : Stmt := top 15
abbrev s__law_whole : Stmt := top 16
abbrev s__law_is_name : Stmt := top 17
abbrev s__law_has : Stmt := top 18
abbrev s__law_numbered : Stmt := top 19
abbrev s__law_are : Stmt := top 20
abbrev s__law_is_thing : Stmt := top 21
abbrev s__law_is_offer : Stmt := top 22
abbrev s__law_number : Stmt := top 23
abbrev s__law_drawn_thing : Stmt := top 24
abbrev s__law_drawn_things : Stmt := top 25
abbrev s__law_drawn_offer : Stmt := top 26
abbrev s__law_odd : Stmt := top 27
abbrev s__law_bent : Stmt := top 28
abbrev s__law_deep_right : Stmt := top 29
abbrev s_law : Stmt := top 30
abbrev N_is_whole : List Str := ["thing"]
abbrev P_is_whole : List Str := ["thing"]
abbrev N_is_from_nought : List Str := ["thing"]
abbrev P_is_from_nought : List Str := ["thing"]
abbrev N_is_name : List Str := ["thing", "sign"]
abbrev P_is_name : List Str := ["thing"]
abbrev N_is_word : List Str := ["thing", "word", "many"]
abbrev P_is_word : List Str := ["thing", "word", "many"]
abbrev N_is_numbered : List Str := ["thing", "word"]
abbrev P_is_numbered : List Str := ["thing", "word"]
abbrev N_is_thing : List Str := ["thing"]
abbrev P_is_thing : List Str := ["thing"]
abbrev N_are_things : List Str := ["thing", "one"]
abbrev P_are_things : List Str := ["thing"]
abbrev N_is_offer : List Str := ["thing", "some", "one"]
abbrev P_is_offer : List Str := ["thing"]
abbrev N__law_pool : List Str := ["_law_script", "_law_k", "_law_cell", "_law_size", "_law_seed"]
abbrev P__law_pool : List Str := ["_law_script", "_law_k"]
abbrev N__law_take : List Str := ["_law_pool_here", "_law_many", "_law_found"]
abbrev P__law_take : List Str := ["_law_pool_here", "_law_many"]
abbrev N__law_whole : List Str := ["_law_item"]
abbrev P__law_whole : List Str := ["_law_item"]
abbrev N__law_is_name : List Str := ["_law_item", "_law_sign"]
abbrev P__law_is_name : List Str := ["_law_item"]
abbrev N__law_has : List Str := ["_law_item", "_law_word", "_law_size"]
abbrev P__law_has : List Str := ["_law_item", "_law_word", "_law_size"]
abbrev N__law_numbered : List Str := ["_law_item", "_law_word"]
abbrev P__law_numbered : List Str := ["_law_item", "_law_word"]
abbrev N__law_are : List Str := ["_law_item", "_law_size", "_law_one"]
abbrev P__law_are : List Str := ["_law_item", "_law_size"]
abbrev N__law_is_thing : List Str := ["_law_item"]
abbrev P__law_is_thing : List Str := ["_law_item"]
abbrev N__law_is_offer : List Str := ["_law_item", "_law_one"]
abbrev P__law_is_offer : List Str := ["_law_item"]
abbrev N__law_number : List Str := ["_law_pool_here"]
abbrev P__law_number : List Str := ["_law_pool_here"]
abbrev N__law_drawn_thing : List Str := ["_law_pool_here", "_law_deep", "_law_way", "_law_number_here"]
abbrev P__law_drawn_thing : List Str := ["_law_pool_here", "_law_deep"]
abbrev N__law_drawn_things : List Str := ["_law_pool_here", "_law_deep", "_law_turn"]
abbrev P__law_drawn_things : List Str := ["_law_pool_here", "_law_deep"]
abbrev N__law_drawn_offer : List Str := ["_law_pool_here", "_law_deep", "_law_way", "_law_number_here", "_law_some", "_law_name", "_law_turn"]
abbrev P__law_drawn_offer : List Str := ["_law_pool_here", "_law_deep"]
abbrev N__law_odd : List Str := ["_law_pool_here", "_law_some"]
abbrev P__law_odd : List Str := ["_law_pool_here"]
abbrev N__law_bent : List Str := ["_law_pool_here", "_law_item", "_law_deep", "_law_some", "_law_at", "_law_way"]
abbrev P__law_bent : List Str := ["_law_pool_here", "_law_item", "_law_deep"]
abbrev N__law_deep_right : List Str := ["_law_item", "_law_turn"]
abbrev P__law_deep_right : List Str := []
abbrev N_law : List Str := ["_law_script", "_law_k", "_law_pool_here", "_law_items", "_law_turn", "_law_item", "_law_kept"]
abbrev P_law : List Str := ["_law_script"]
/-! ### what each def is worth, over data -/
def b_is_whole : MS :=
  (mRet (mAnd (mIsi isInt (mVar 0)) (mNot (mIsi isBool (mVar 0)))))
abbrev m_is_whole : Fm := fnD 0 (b_is_whole)
def b_is_from_nought (F_is_whole : Fm) : MS :=
  (mRet (mAnd (mCallD F_is_whole (aD (mVar 0) aNil)) (mOp geI (mVar 0) (mC (.int 0)))))
abbrev m_is_from_nought (F_is_whole : Fm) : Fm := fnD 0 (b_is_from_nought F_is_whole)
def b_is_name : MS :=
  (mSeq (mIfS (bOr (bNot (mTest (mIsi isStr (mVar 0)))) (bOr (bNot (mTest (mChain leD leD (mC (.int 1)) (mCall lenD (mCons (mVar 0) mNil)) (mC (.int 8))))) (mTest (mOp eqD (mVar 0) (mC (.str "nothing")))))) (mRet (mC (.bool false))) mNext)
  (mRet (mCall allD (mCons (mFr (mLc (mIt (mVar 0)) [1] (gD 1) bYes (mOp inD (mVar 1) (mC (.str "abcdefghijklmnopqrstuvwxyz"))))) mNil))))
abbrev m_is_name : Fm := fnD 1 (b_is_name)
def b_is_word : MS :=
  (mRet (mAnd (mIsi isTuple (mVar 0)) (mAnd (mOp eqD (mCall lenD (mCons (mVar 0) mNil)) (mVar 2)) (mAnd (mIsi isStr (mOp ixD (mVar 0) (mC (.int 0)))) (mOp eqD (mOp ixD (mVar 0) (mC (.int 0))) (mVar 1))))))
abbrev m_is_word : Fm := fnD 0 (b_is_word)
def b_is_numbered (F_is_word : Fm) (F_is_from_nought : Fm) : MS :=
  (mRet (mAnd (mCallD F_is_word (aD (mVar 0) (aD (mVar 1) (aD (mC (.int 2)) aNil)))) (mCallD F_is_from_nought (aD (mOp ixD (mVar 0) (mC (.int 1))) aNil))))
abbrev m_is_numbered (F_is_word : Fm) (F_is_from_nought : Fm) : Fm := fnD 0 (b_is_numbered F_is_word F_is_from_nought)
def b_is_thing (F_is_whole : Fm) (F_is_word : Fm) (F_is_numbered : Fm) (F_is_offer : Fm) : MS :=
  (mSeq (mIfS (bOr (mTest (mCallD F_is_whole (aD (mVar 0) aNil))) (bOr (mTest (mCallD F_is_word (aD (mVar 0) (aD (mC (.str "nothing")) (aD (mC (.int 1)) aNil))))) (mTest (mCallD F_is_numbered (aD (mVar 0) (aD (mC (.str "channel")) aNil)))))) (mRet (mC (.bool true))) mNext)
  (mRet (mOr (mCallD F_is_numbered (aD (mVar 0) (aD (mC (.str "thread")) aNil))) (mCallD F_is_offer (aD (mVar 0) aNil)))))
abbrev m_is_thing (F_is_whole : Fm) (F_is_word : Fm) (F_is_numbered : Fm) (F_is_offer : Fm) : Fm := fnD 0 (b_is_thing F_is_whole F_is_word F_is_numbered F_is_offer)
def b_are_things (F_is_thing : Fm) : MS :=
  (mRet (mAnd (mIsi isTuple (mVar 0)) (mAnd (mOp leD (mCall lenD (mCons (mVar 0) mNil)) (mC (.int 4))) (mCall allD (mCons (mFr (mLc (mIt (mVar 0)) [1] (gD 1) bYes (mCallD F_is_thing (aD (mVar 1) aNil)))) mNil)))))
abbrev m_are_things (F_is_thing : Fm) : Fm := fnD 1 (b_are_things F_is_thing)
def b_is_offer (F_is_word : Fm) (F_is_numbered : Fm) (F_is_thing : Fm) (F_is_offer : Fm) (F_is_name : Fm) (F_are_things : Fm) : MS :=
  (mSeq (mIfS (bOr (mTest (mCallD F_is_word (aD (mVar 0) (aD (mC (.str "never")) (aD (mC (.int 1)) aNil))))) (bOr (mTest (mCallD F_is_numbered (aD (mVar 0) (aD (mC (.str "till")) aNil)))) (mTest (mCallD F_is_numbered (aD (mVar 0) (aD (mC (.str "hear")) aNil)))))) (mRet (mC (.bool true))) mNext)
  (mSeq (mIfS (mTest (mCallD F_is_word (aD (mVar 0) (aD (mC (.str "send")) (aD (mC (.int 3)) aNil))))) (mRet (mAnd (mCallD F_is_numbered (aD (mOp ixD (mVar 0) (mC (.int 1))) (aD (mC (.str "channel")) aNil))) (mCallD F_is_thing (aD (mOp ixD (mVar 0) (mC (.int 2))) aNil)))) mNext)
  (mSeq (mIfS (mTest (mCallD F_is_word (aD (mVar 0) (aD (mC (.str "take")) (aD (mC (.int 2)) aNil))))) (mRet (mCallD F_is_numbered (aD (mOp ixD (mVar 0) (mC (.int 1))) (aD (mC (.str "channel")) aNil)))) mNext)
  (mSeq (mIfS (mTest (mCallD F_is_word (aD (mVar 0) (aD (mC (.str "over")) (aD (mC (.int 2)) aNil))))) (mRet (mCallD F_is_numbered (aD (mOp ixD (mVar 0) (mC (.int 1))) (aD (mC (.str "thread")) aNil)))) mNext)
  (mSeq (mIfS (mTest (mCallD F_is_word (aD (mVar 0) (aD (mC (.str "always")) (aD (mC (.int 2)) aNil))))) (mRet (mCallD F_is_thing (aD (mOp ixD (mVar 0) (mC (.int 1))) aNil))) mNext)
  (mSeq (mIfS (mTest (mCallD F_is_word (aD (mVar 0) (aD (mC (.str "choose")) (aD (mC (.int 2)) aNil))))) (mSeq (mSet 1 (mOp ixD (mVar 0) (mC (.int 1))))
  (mRet (mAnd (mIsi isTuple (mVar 1)) (mAnd (mOp leD (mCall lenD (mCons (mVar 1) mNil)) (mC (.int 6))) (mCall allD (mCons (mFr (mLc (mIt (mVar 1)) [2] (gD 2) bYes (mCallD F_is_offer (aD (mVar 2) aNil)))) mNil)))))) mNext)
  (mSeq (mIfS (mTest (mCallD F_is_word (aD (mVar 0) (aD (mC (.str "wrap")) (aD (mC (.int 4)) aNil))))) (mRet (mAnd (mCallD F_is_offer (aD (mOp ixD (mVar 0) (mC (.int 1))) aNil)) (mAnd (mCallD F_is_name (aD (mOp ixD (mVar 0) (mC (.int 2))) aNil)) (mCallD F_are_things (aD (mOp ixD (mVar 0) (mC (.int 3))) aNil))))) mNext)
  (mSeq (mIfS (bOr (mTest (mCallD F_is_word (aD (mVar 0) (aD (mC (.str "guard")) (aD (mC (.int 3)) aNil))))) (mTest (mCallD F_is_word (aD (mVar 0) (aD (mC (.str "notice")) (aD (mC (.int 3)) aNil)))))) (mRet (mAnd (mCallD F_is_name (aD (mOp ixD (mVar 0) (mC (.int 1))) aNil)) (mCallD F_are_things (aD (mOp ixD (mVar 0) (mC (.int 2))) aNil)))) mNext)
  (mRet (mC (.bool false)))))))))))
abbrev m_is_offer (F_is_word : Fm) (F_is_numbered : Fm) (F_is_thing : Fm) (F_is_offer : Fm) (F_is_name : Fm) (F_are_things : Fm) : Fm := fnD 2 (b_is_offer F_is_word F_is_numbered F_is_thing F_is_offer F_is_name F_are_things)
def b__law_pool : MS :=
  (mSeq (mSet 2 (mC (.int 0)))
  (mSeq (mIfS (mTest (mOp ltD (mVar 1) (mCall lenD (mCons (mVar 0) mNil)))) (mSet 2 (mOp ixD (mVar 0) (mVar 1))) mNext)
  (mSeq (mSet 3 (mCall absD (mCons (mVar 2) mNil)))
  (mSeq (mSet 4 (mOp modI (mOp powI (mOp addD (mOp addD (mOp addD (mOp modI (mVar 2) (mC (.int 2147483629))) (mOp mulD (mOp mulD (mC (.int 104729)) (mVar 1)) (mVar 1))) (mOp mulD (mC (.int 7919)) (mVar 1))) (mC (.int 11))) (mC (.int 3))) (mC (.int 2147483647))))
  (mRetF (mCons (mOp mulD (mVar 3) (mCall intBD (mCons (mOp geI (mVar 3) (mOp powI (mC (.int 10)) (mC (.int 18)))) mNil))) (mCons (mVar 4) mNil)))))))
abbrev m__law_pool : Fm := fnD 3 (b__law_pool)
def b__law_take : MS :=
  (mSeq (mIfS (mTest (mOp gtI (mIxO 0 (mC (.int 0))) (mC (.int 0)))) (mSeq (mSet 2 (mOp modI (mIxO 0 (mC (.int 0))) (mVar 1)))
  (mSeq (mSetIx 0 (mOp divI (mIxO 0 (mC (.int 0))) (mVar 1)) (mC (.int 0)))
  (mRet (mVar 2)))) mNext)
  (mSeq (mSetIx 0 (mOp modI (mOp addD (mOp mulD (mIxO 0 (mC (.int 1))) (mC (.int 48271))) (mC (.int 11))) (mC (.int 2147483647))) (mC (.int 1)))
  (mRet (mOp modI (mOp divI (mOp modI (mOp mulD (mIxO 0 (mC (.int 1))) (mIxO 0 (mC (.int 1)))) (mC (.int 2147483629))) (mC (.int 64))) (mVar 1)))))
abbrev m__law_take : Fm := fnD 1 (b__law_take)
def b__law_whole : MS :=
  (mRet (mAnd (mIsi isInt (mVar 0)) (mNot (mIsi isBool (mVar 0)))))
abbrev m__law_whole : Fm := fnD 0 (b__law_whole)
def b__law_is_name : MS :=
  (mSeq (mIfS (bOr (bNot (mTest (mIsi isStr (mVar 0)))) (bOr (bNot (mTest (mChain leD leD (mC (.int 1)) (mCall lenD (mCons (mVar 0) mNil)) (mC (.int 8))))) (mTest (mOp eqD (mVar 0) (mC (.str "nothing")))))) (mRet (mC (.bool false))) mNext)
  (mRet (mOp eqD (mFr (mLc (mIt (mVar 0)) [1] (gD 1) (bNot (mTest (mChain leD leD (mC (.str "a")) (mVar 1) (mC (.str "z"))))) (mVar 1))) (mFr mNil))))
abbrev m__law_is_name : Fm := fnD 1 (b__law_is_name)
def b__law_has : MS :=
  (mRet (mAnd (mIsi isTuple (mVar 0)) (mAnd (mOp eqD (mCall lenD (mCons (mVar 0) mNil)) (mVar 2)) (mAnd (mIsi isStr (mOp ixD (mVar 0) (mC (.int 0)))) (mOp eqD (mOp ixD (mVar 0) (mC (.int 0))) (mVar 1))))))
abbrev m__law_has : Fm := fnD 0 (b__law_has)
def b__law_numbered (F__law_has : Fm) (F__law_whole : Fm) : MS :=
  (mRet (mAnd (mCallD F__law_has (aD (mVar 0) (aD (mVar 1) (aD (mC (.int 2)) aNil)))) (mAnd (mCallD F__law_whole (aD (mOp ixD (mVar 0) (mC (.int 1))) aNil)) (mOp geI (mOp ixD (mVar 0) (mC (.int 1))) (mC (.int 0))))))
abbrev m__law_numbered (F__law_has : Fm) (F__law_whole : Fm) : Fm := fnD 0 (b__law_numbered F__law_has F__law_whole)
def b__law_are (F__law_is_thing : Fm) : MS :=
  (mRet (mAnd (mIsi isTuple (mVar 0)) (mAnd (mOp leD (mCall lenD (mCons (mVar 0) mNil)) (mVar 1)) (mOp eqD (mFr (mLc (mIt (mVar 0)) [2] (gD 2) (bNot (mTest (mCallD F__law_is_thing (aD (mVar 2) aNil)))) (mVar 2))) (mFr mNil)))))
abbrev m__law_are (F__law_is_thing : Fm) : Fm := fnD 1 (b__law_are F__law_is_thing)
def b__law_is_thing (F__law_whole : Fm) (F__law_has : Fm) (F__law_numbered : Fm) (F__law_is_offer : Fm) : MS :=
  (mSeq (mIfS (bOr (mTest (mCallD F__law_whole (aD (mVar 0) aNil))) (mTest (mCallD F__law_has (aD (mVar 0) (aD (mC (.str "nothing")) (aD (mC (.int 1)) aNil)))))) (mRet (mC (.bool true))) mNext)
  (mRet (mOr (mCallD F__law_numbered (aD (mVar 0) (aD (mC (.str "channel")) aNil))) (mOr (mCallD F__law_numbered (aD (mVar 0) (aD (mC (.str "thread")) aNil))) (mCallD F__law_is_offer (aD (mVar 0) aNil))))))
abbrev m__law_is_thing (F__law_whole : Fm) (F__law_has : Fm) (F__law_numbered : Fm) (F__law_is_offer : Fm) : Fm := fnD 0 (b__law_is_thing F__law_whole F__law_has F__law_numbered F__law_is_offer)
def b__law_is_offer (F__law_has : Fm) (F__law_numbered : Fm) (F__law_is_thing : Fm) (F__law_is_offer : Fm) (F__law_is_name : Fm) (F__law_are : Fm) : MS :=
  (mSeq (mIfS (bOr (mTest (mCallD F__law_has (aD (mVar 0) (aD (mC (.str "never")) (aD (mC (.int 1)) aNil))))) (bOr (mTest (mCallD F__law_numbered (aD (mVar 0) (aD (mC (.str "till")) aNil)))) (mTest (mCallD F__law_numbered (aD (mVar 0) (aD (mC (.str "hear")) aNil)))))) (mRet (mC (.bool true))) mNext)
  (mSeq (mIfS (mTest (mCallD F__law_has (aD (mVar 0) (aD (mC (.str "send")) (aD (mC (.int 3)) aNil))))) (mRet (mAnd (mCallD F__law_numbered (aD (mOp ixD (mVar 0) (mC (.int 1))) (aD (mC (.str "channel")) aNil))) (mCallD F__law_is_thing (aD (mOp ixD (mVar 0) (mC (.int 2))) aNil)))) mNext)
  (mSeq (mIfS (bOr (mTest (mCallD F__law_has (aD (mVar 0) (aD (mC (.str "take")) (aD (mC (.int 2)) aNil))))) (mTest (mCallD F__law_has (aD (mVar 0) (aD (mC (.str "over")) (aD (mC (.int 2)) aNil)))))) (mRet (mCallD F__law_numbered (aD (mOp ixD (mVar 0) (mC (.int 1))) (aD (mOp ixD (mFr (mCons (mC (.str "channel")) (mCons (mC (.str "thread")) mNil))) (mCall intBD (mCons (mOp eqD (mOp ixD (mVar 0) (mC (.int 0))) (mC (.str "over"))) mNil))) aNil)))) mNext)
  (mSeq (mIfS (mTest (mCallD F__law_has (aD (mVar 0) (aD (mC (.str "always")) (aD (mC (.int 2)) aNil))))) (mRet (mCallD F__law_is_thing (aD (mOp ixD (mVar 0) (mC (.int 1))) aNil))) mNext)
  (mSeq (mIfS (mTest (mCallD F__law_has (aD (mVar 0) (aD (mC (.str "choose")) (aD (mC (.int 2)) aNil))))) (mSeq (mIfS (bOr (bNot (mTest (mIsi isTuple (mOp ixD (mVar 0) (mC (.int 1)))))) (mTest (mOp gtI (mCall lenD (mCons (mOp ixD (mVar 0) (mC (.int 1))) mNil)) (mC (.int 6))))) (mRet (mC (.bool false))) mNext)
  (mRet (mOp eqD (mFr (mLc (mIt (mOp ixD (mVar 0) (mC (.int 1)))) [1] (gD 1) (bNot (mTest (mCallD F__law_is_offer (aD (mVar 1) aNil)))) (mVar 1))) (mFr mNil)))) mNext)
  (mSeq (mIfS (mTest (mCallD F__law_has (aD (mVar 0) (aD (mC (.str "wrap")) (aD (mC (.int 4)) aNil))))) (mRet (mAnd (mCallD F__law_is_offer (aD (mOp ixD (mVar 0) (mC (.int 1))) aNil)) (mAnd (mCallD F__law_is_name (aD (mOp ixD (mVar 0) (mC (.int 2))) aNil)) (mCallD F__law_are (aD (mOp ixD (mVar 0) (mC (.int 3))) (aD (mC (.int 4)) aNil)))))) mNext)
  (mSeq (mIfS (bOr (mTest (mCallD F__law_has (aD (mVar 0) (aD (mC (.str "guard")) (aD (mC (.int 3)) aNil))))) (mTest (mCallD F__law_has (aD (mVar 0) (aD (mC (.str "notice")) (aD (mC (.int 3)) aNil)))))) (mRet (mAnd (mCallD F__law_is_name (aD (mOp ixD (mVar 0) (mC (.int 1))) aNil)) (mCallD F__law_are (aD (mOp ixD (mVar 0) (mC (.int 2))) (aD (mC (.int 4)) aNil))))) mNext)
  (mRet (mC (.bool false))))))))))
abbrev m__law_is_offer (F__law_has : Fm) (F__law_numbered : Fm) (F__law_is_thing : Fm) (F__law_is_offer : Fm) (F__law_is_name : Fm) (F__law_are : Fm) : Fm := fnD 1 (b__law_is_offer F__law_has F__law_numbered F__law_is_thing F__law_is_offer F__law_is_name F__law_are)
def b__law_number (F__law_take : Fm) : MS :=
  (mRet (mOp ixD (mFr (mCons (mC (.int 0)) (mCons (mC (.int 1)) (mCons (mC (.int 9)) (mCons (mC (.int 10)) (mCons (mC (.int 12)) (mCons (mOp powI (mC (.int 10)) (mC (.int 30))) (mCons (mOp addD (mOp powI (mC (.int 10)) (mC (.int 59))) (mCallD F__law_take (aV 0 (aD (mC (.int 9)) aNil)))) mNil)))))))) (mCallD F__law_take (aV 0 (aD (mC (.int 7)) aNil)))))
abbrev m__law_number (F__law_take : Fm) : Fm := fnD 0 (b__law_number F__law_take)
def b__law_drawn_thing (F__law_take : Fm) (F__law_number : Fm) (F__law_drawn_offer : Fm) : MS :=
  (mSeq (mSet 2 (mCallD F__law_take (aV 0 (aD (mC (.int 9)) aNil))))
  (mSeq (mSet 3 (mCallD F__law_number (aV 0 aNil)))
  (mSeq (mIfS (mTest (mOp ltD (mVar 2) (mC (.int 3)))) (mRet (mOp ixD (mFr (mCons (mVar 3) (mCons (mOp subI (mC (.int 0)) (mVar 3)) (mCons (mC (.int 5)) mNil)))) (mVar 2))) mNext)
  (mSeq (mIfS (mTest (mOp ltD (mVar 2) (mC (.int 6)))) (mRet (mOp ixD (mFr (mCons (mTup (mCons (mC (.str "nothing")) mNil)) (mCons (mTup (mCons (mC (.str "channel")) (mCons (mVar 3) mNil))) (mCons (mTup (mCons (mC (.str "thread")) (mCons (mVar 3) mNil))) mNil)))) (mOp subI (mVar 2) (mC (.int 3))))) mNext)
  (mRet (mCallD F__law_drawn_offer (aV 0 (aD (mVar 1) aNil))))))))
abbrev m__law_drawn_thing (F__law_take : Fm) (F__law_number : Fm) (F__law_drawn_offer : Fm) : Fm := fnD 2 (b__law_drawn_thing F__law_take F__law_number F__law_drawn_offer)
def b__law_drawn_things (F__law_drawn_thing : Fm) (F__law_take : Fm) : MS :=
  (mRet (mCall tupleD (mCons (mFr (mLc (mRange1 (mCons (mCallD F__law_take (aV 0 (aD (mC (.int 5)) aNil))) mNil)) [2] (gD 2) bYes (mCallD F__law_drawn_thing (aV 0 (aD (mVar 1) aNil))))) mNil)))
abbrev m__law_drawn_things (F__law_drawn_thing : Fm) (F__law_take : Fm) : Fm := fnD 1 (b__law_drawn_things F__law_drawn_thing F__law_take)
def b__law_drawn_offer (F__law_take : Fm) (F__law_number : Fm) (F__law_drawn_things : Fm) (F__law_drawn_thing : Fm) (F__law_drawn_offer : Fm) : MS :=
  (mSeq (mSet 2 (mCallD F__law_take (aV 0 (aD (mC (.int 12)) aNil))))
  (mSeq (mSet 3 (mCallD F__law_number (aV 0 aNil)))
  (mSeq (mIfS (bOr (mTest (mOp ltD (mVar 1) (mC (.int 1)))) (mTest (mOp ltD (mVar 2) (mC (.int 5))))) (mSeq (mSet 4 (mFr (mCons (mTup (mCons (mC (.str "never")) mNil)) (mCons (mTup (mCons (mC (.str "till")) (mCons (mVar 3) mNil))) (mCons (mTup (mCons (mC (.str "hear")) (mCons (mVar 3) mNil))) (mCons (mTup (mCons (mC (.str "take")) (mCons (mTup (mCons (mC (.str "channel")) (mCons (mVar 3) mNil))) mNil))) mNil))))))
  (mRet (mOp ixD (mFr (mOpF catL (mVar 4) (mFr (mCons (mTup (mCons (mC (.str "over")) (mCons (mTup (mCons (mC (.str "thread")) (mCons (mVar 3) mNil))) mNil))) mNil)))) (mOp modI (mVar 2) (mC (.int 5)))))) mNext)
  (mSeq (mIfS (mTest (mOp eqD (mVar 2) (mC (.int 5)))) (mRet (mTup (mCons (mC (.str "send")) (mCons (mTup (mCons (mC (.str "channel")) (mCons (mVar 3) mNil))) (mCons (mCallD F__law_drawn_thing (aV 0 (aD (mOp subI (mVar 1) (mC (.int 1))) aNil))) mNil))))) mNext)
  (mSeq (mIfS (mTest (mOp eqD (mVar 2) (mC (.int 6)))) (mRet (mTup (mCons (mC (.str "always")) (mCons (mCallD F__law_drawn_thing (aV 0 (aD (mOp subI (mVar 1) (mC (.int 1))) aNil))) mNil)))) mNext)
  (mSeq (mIfS (mTest (mOp ltD (mVar 2) (mC (.int 9)))) (mRet (mTup (mCons (mC (.str "choose")) (mCons (mCall tupleD (mCons (mFr (mLc (mRange1 (mCons (mCallD F__law_take (aV 0 (aD (mC (.int 7)) aNil))) mNil)) [6] (gD 6) bYes (mCallD F__law_drawn_offer (aV 0 (aD (mOp subI (mVar 1) (mC (.int 1))) aNil))))) mNil)) mNil)))) mNext)
  (mSeq (mSet 5 (mOp ixD (mFr (mCons (mC (.str "a")) (mCons (mC (.str "wraps")) (mCons (mC (.str "zzzzzzzz")) (mCons (mC (.str "send")) mNil))))) (mCallD F__law_take (aV 0 (aD (mC (.int 4)) aNil)))))
  (mSeq (mSet 4 (mCallD F__law_drawn_things (aV 0 (aD (mOp subI (mVar 1) (mC (.int 1))) aNil))))
  (mSeq (mIfS (mTest (mOp eqD (mVar 2) (mC (.int 9)))) (mRet (mTup (mCons (mC (.str "wrap")) (mCons (mCallD F__law_drawn_offer (aV 0 (aD (mOp subI (mVar 1) (mC (.int 1))) aNil))) (mCons (mVar 5) (mCons (mVar 4) mNil)))))) mNext)
  (mRet (mTup (mCons (mOp ixD (mFr (mCons (mC (.str "guard")) (mCons (mC (.str "notice")) mNil))) (mOp subI (mVar 2) (mC (.int 10)))) (mCons (mVar 5) (mCons (mVar 4) mNil))))))))))))))
abbrev m__law_drawn_offer (F__law_take : Fm) (F__law_number : Fm) (F__law_drawn_things : Fm) (F__law_drawn_thing : Fm) (F__law_drawn_offer : Fm) : Fm := fnD 5 (b__law_drawn_offer F__law_take F__law_number F__law_drawn_things F__law_drawn_thing F__law_drawn_offer)
def b__law_odd (F__law_take : Fm) : MS :=
  (mSeq (mSet 1 (mFr (mCons (mC .none) (mCons (mUn negD (mC (.int 1))) (mCons (mC (.bool true)) (mCons (mC (.str "")) (mCons (mC (.str "send")) (mCons (mC (.str "nothing")) (mCons (mTup (mCons (mC (.str "nothing")) mNil)) (mCons (mTup (mCons (mC (.str "nothing")) (mCons (mC (.int 0)) mNil))) (mCons (mTup (mCons (mC (.str "channel")) mNil)) (mCons (mTup (mCons (mC (.str "channel")) (mCons (mC (.bool true)) mNil))) (mCons (mFr mNil) mNil)))))))))))))
  (mSeq (mSet 1 (mFr (mOpF catL (mVar 1) (mFr (mCons (mTup (mCons (mC (.str "channel")) (mCons (mUn negD (mC (.int 1))) mNil))) (mCons (mTup (mCons (mC (.str "thread")) (mCons (mC (.int 0)) mNil))) (mCons (mTup (mCons (mC (.str "never")) mNil)) (mCons (mTup (mCons (mC (.str "choose")) (mCons (mTup mNil) mNil))) (mCons (mTup (mCons (mC (.str "choose")) (mCons (mOp mulD (mTup (mCons (mTup (mCons (mC (.str "never")) mNil)) mNil)) (mC (.int 7))) mNil))) (mCons (mC (.dict [])) mNil))))))))))
  (mSeq (mSet 1 (mFr (mOpF catL (mVar 1) (mFr (mCons (mTup (mCons (mC (.str "till")) (mCons (mC (.int 0)) mNil))) (mCons (mTup (mCons (mC (.str "till")) (mCons (mUn negD (mC (.int 1))) mNil))) (mCons (mTup (mCons (mC (.str "send")) (mCons (mC (.int 0)) (mCons (mC (.int 1)) mNil)))) (mCons (mTup (mCons (mC (.str "take")) (mCons (mTup (mCons (mC (.str "thread")) (mCons (mC (.int 0)) mNil))) mNil))) (mCons (mTup (mCons (mC (.str "over")) (mCons (mTup (mCons (mC (.str "channel")) (mCons (mC (.int 0)) mNil))) mNil))) (mCons (mC (.int 7)) mNil))))))))))
  (mSeq (mSet 1 (mFr (mOpF catL (mVar 1) (mFr (mCons (mTup (mCons (mC (.str "wrap")) (mCons (mTup (mCons (mC (.str "never")) mNil)) (mCons (mC (.str "nothing")) (mCons (mTup mNil) mNil))))) (mCons (mTup (mCons (mC (.str "guard")) (mCons (mC (.str "abcdefghi")) (mCons (mTup mNil) mNil)))) (mCons (mTup (mCons (mC (.str "notice")) (mCons (mC (.str "Plan")) (mCons (mTup mNil) mNil)))) (mCons (mTup (mCons (mFr mNil) (mCons (mC (.int 0)) mNil))) mNil))))))))
  (mSeq (mSet 1 (mFr (mOpF catL (mVar 1) (mFr (mCons (mTup (mCons (mC (.str "wrap")) (mCons (mTup (mCons (mC (.str "never")) mNil)) (mCons (mC (.str "a")) (mCons (mOp mulD (mTup (mCons (mC (.int 1)) mNil)) (mC (.int 5))) mNil))))) (mCons (mTup (mCons (mC (.str "wrap")) (mCons (mC (.int 1)) (mCons (mC (.str "a")) (mCons (mTup mNil) mNil))))) (mCons (mFr (mCons (mC (.str "take")) (mCons (mTup (mCons (mC (.str "channel")) (mCons (mC (.int 0)) mNil))) mNil))) (mCons (mTup mNil) (mCons (mTup (mCons (mC (.dict [])) (mCons (mC (.int 1)) mNil))) mNil)))))))))
  (mRet (mOp ixD (mFr (mOpF catL (mVar 1) (mFr (mCons (mTup (mCons (mC (.str "always")) (mCons (mC .none) mNil))) (mCons (mTup (mCons (mC (.str "choose")) (mCons (mFr (mCons (mTup (mCons (mC (.str "never")) mNil)) mNil)) mNil))) (mCons (mTup (mCons (mC (.str "hear")) (mCons (mC (.str "0")) mNil))) (mCons (mC (.str "a")) mNil))))))) (mCallD F__law_take (aV 0 (aD (mC (.int 36)) aNil))))))))))
abbrev m__law_odd (F__law_take : Fm) : Fm := fnD 1 (b__law_odd F__law_take)
def b__law_bent (F__law_take : Fm) (F__law_odd : Fm) (F__law_bent : Fm) : MS :=
  (mSeq (mIfS (bOr (bNot (mTest (mIsi isTuple (mVar 1)))) (bOr (mTest (mOp eqD (mVar 2) (mC (.int 0)))) (mTest (mOp eqD (mCallD F__law_take (aV 0 (aD (mC (.int 5)) aNil))) (mC (.int 0)))))) (mRet (mCallD F__law_odd (aV 0 aNil))) mNext)
  (mSeq (mSetF 3 (mCallF listL (mCons (mVar 1) mNil)))
  (mSeq (mSet 4 (mCallD F__law_take (aV 0 (aD (mCall max2D (mCons (mC (.int 1)) (mCons (mLenO 3) mNil))) aNil))))
  (mSeq (mSet 5 (mCallD F__law_take (aV 0 (aD (mC (.int 9)) aNil))))
  (mSeq (mIfS (bOr (mTest (mOp eqD (mVar 5) (mC (.int 0)))) (mTest (mEqO 3 (mFr mNil)))) (mDrop (mOwn 3 insertO (mCons (mVar 4) (mCons (mCallD F__law_odd (aV 0 aNil)) mNil)))) (mIfS (mTest (mOp eqD (mVar 5) (mC (.int 1)))) (mDrop (mOwn 3 popAtO (mCons (mVar 4) mNil))) (mIfS (mTest (mOp eqD (mVar 5) (mC (.int 2)))) (mDrop (mOwn 3 insertO (mCons (mVar 4) (mCons (mIxO 3 (mVar 4)) mNil)))) (mIfS (mTest (mOp eqD (mVar 5) (mC (.int 3)))) (mSetCut 3 (mRev (mFr (mSlO 3 (oSome (mVar 4)) (oSome (mOp addD (mVar 4) (mC (.int 2))))))) (oSome (mVar 4)) (oSome (mOp addD (mVar 4) (mC (.int 2))))) (mIfS (mTest (mOp eqD (mVar 5) (mC (.int 4)))) (mRet (mFr (mCallF listL (mCons (mVar 1) mNil)))) (mSetIx 3 (mCallD F__law_bent (aV 0 (aD (mIxO 3 (mVar 4)) (aD (mOp subI (mVar 2) (mC (.int 1))) aNil)))) (mVar 4)))))))
  (mRet (mTupO 3)))))))
abbrev m__law_bent (F__law_take : Fm) (F__law_odd : Fm) (F__law_bent : Fm) : Fm := fnD 3 (b__law_bent F__law_take F__law_odd F__law_bent)
def b__law_deep_right (F_is_offer : Fm) (F_is_thing : Fm) : MS :=
  (mSeq (mSet 0 (mTup (mCons (mC (.str "always")) (mCons (mTup (mCons (mC (.str "send")) (mCons (mTup (mCons (mC (.str "channel")) (mCons (mC (.int 3)) mNil))) (mCons (mUn negD (mC (.int 5))) mNil)))) mNil))))
  (mSeq (mFor (mRange1 (mCons (mC (.int 16)) mNil)) (gD 1) (mSet 0 (mTup (mCons (mC (.str "wrap")) (mCons (mVar 0) (mCons (mC (.str "a")) (mCons (mTup (mCons (mVar 1) (mCons (mTup (mCons (mC (.str "nothing")) mNil)) mNil))) mNil)))))))
  (mRet (mAnd (mOp isND (mCallD F_is_offer (aD (mVar 0) aNil)) (mC (.bool true))) (mAnd (mOp isND (mCallD F_is_thing (aD (mVar 0) aNil)) (mC (.bool true))) (mOp isND (mCallD F_is_offer (aD (mTup (mCons (mC (.str "wrap")) (mCons (mVar 0) (mCons (mC (.str "A")) (mCons (mTup mNil) mNil))))) aNil)) (mC (.bool false))))))))
abbrev m__law_deep_right (F_is_offer : Fm) (F_is_thing : Fm) : Fm := fnD 2 (b__law_deep_right F_is_offer F_is_thing)
def b_law (F__law_deep_right : Fm) (F__law_pool : Fm) (F__law_drawn_thing : Fm) (F__law_drawn_offer : Fm) (F__law_bent : Fm) (F__law_odd : Fm) (F__law_is_thing : Fm) (F__law_is_offer : Fm) (F_is_thing : Fm) (F_is_offer : Fm) : MS :=
  (mSeq (mIfS (bNot (mTest (mCallD F__law_deep_right aNil))) (mRet (mC (.bool false))) mNext)
  (mSeq (mFor (mRange1 (mCons (mCall max2D (mCons (mC (.int 1)) (mCons (mCall min2D (mCons (mCall lenD (mCons (mVar 0) mNil)) (mCons (mC (.int 20)) mNil))) mNil))) mNil)) (gD 1) (mSeq (mSetF 2 (mCallL F__law_pool (aD (mVar 0) (aD (mVar 1) aNil))))
  (mSeq (mSetF 3 (mCons (mCallD F__law_drawn_thing (aV 2 (aD (mC (.int 4)) aNil))) (mCons (mCallD F__law_drawn_offer (aV 2 (aD (mC (.int 4)) aNil))) mNil)))
  (mSeq (mFor (mRange1 (mCons (mC (.int 4)) mNil)) (gD 4) (mDrop (mOwn 3 appendO (mCons (mCallD F__law_bent (aV 2 (aD (mIxO 3 (mOp modI (mVar 4) (mC (.int 2)))) (aD (mC (.int 7)) aNil)))) mNil))))
  (mSeq (mFor (mIt (mFr (mCatO 3 (mFr (mCons (mCallD F__law_odd (aV 2 aNil)) (mCons (mC .none) (mCons (mFr mNil) (mCons (mC (.str "never")) (mCons (mC (.bool true)) (mCons (mC (.int 3)) mNil)))))))))) (gD 5) (mSeq (mSet 6 (mCall reprD (mCons (mVar 5) mNil)))
  (mSeq (mIfS (bOr (mTest (mOp neD (mCall reprD (mCons (mCallD F_is_thing (aD (mVar 5) aNil)) mNil)) (mCall reprD (mCons (mCallD F__law_is_thing (aD (mVar 5) aNil)) mNil)))) (mTest (mOp neD (mCall reprD (mCons (mCallD F_is_offer (aD (mVar 5) aNil)) mNil)) (mCall reprD (mCons (mCallD F__law_is_offer (aD (mVar 5) aNil)) mNil))))) (mRet (mC (.bool false))) mNext)
  (mIfS (mTest (mOp neD (mCall reprD (mCons (mVar 5) mNil)) (mVar 6))) (mRet (mC (.bool false))) mNext))))
  (mIfS (bOr (bNot (mTest (mCallD F__law_is_thing (aD (mIxO 3 (mC (.int 0))) aNil)))) (bNot (mTest (mCallD F__law_is_offer (aD (mIxO 3 (mC (.int 1))) aNil))))) (mRet (mC (.bool false))) mNext))))))
  (mRet (mC (.bool true)))))
abbrev m_law (F__law_deep_right : Fm) (F__law_pool : Fm) (F__law_drawn_thing : Fm) (F__law_drawn_offer : Fm) (F__law_bent : Fm) (F__law_odd : Fm) (F__law_is_thing : Fm) (F__law_is_offer : Fm) (F_is_thing : Fm) (F_is_offer : Fm) : Fm := fnD 6 (b_law F__law_deep_right F__law_pool F__law_drawn_thing F__law_drawn_offer F__law_bent F__law_odd F__law_is_thing F__law_is_offer F_is_thing F_is_offer)
/-! ### the text behind the top -/
structure Adr where
  is_whole : Addr
  is_from_nought : Addr
  is_name : Addr
  is_word : Addr
  is_numbered : Addr
  is_thing : Addr
  are_things : Addr
  is_offer : Addr
  _law_pool : Addr
  _law_take : Addr
  _law_whole : Addr
  _law_is_name : Addr
  _law_has : Addr
  _law_numbered : Addr
  _law_are : Addr
  _law_is_thing : Addr
  _law_is_offer : Addr
  _law_number : Addr
  _law_drawn_thing : Addr
  _law_drawn_things : Addr
  _law_drawn_offer : Addr
  _law_odd : Addr
  _law_bent : Addr
  _law_deep_right : Addr
  law : Addr
structure Fds where
  is_whole : FuncData
  is_from_nought : FuncData
  is_name : FuncData
  is_word : FuncData
  is_numbered : FuncData
  is_thing : FuncData
  are_things : FuncData
  is_offer : FuncData
  _law_pool : FuncData
  _law_take : FuncData
  _law_whole : FuncData
  _law_is_name : FuncData
  _law_has : FuncData
  _law_numbered : FuncData
  _law_are : FuncData
  _law_is_thing : FuncData
  _law_is_offer : FuncData
  _law_number : FuncData
  _law_drawn_thing : FuncData
  _law_drawn_things : FuncData
  _law_drawn_offer : FuncData
  _law_odd : FuncData
  _law_bent : FuncData
  _law_deep_right : FuncData
  law : FuncData
structure Txt (K : Frag) (mg : Str → Option Value) (a : Adr) (fd : Fds) : Prop where
  F_is_whole : Fun K "is_whole" "is_whole" s_is_whole a.is_whole fd.is_whole
  b_is_whole : Binds K fd.is_whole P_is_whole []
  g_is_whole : mg "is_whole" = some (.ref a.is_whole)
  F_is_from_nought : Fun K "is_from_nought" "is_from_nought" s_is_from_nought a.is_from_nought fd.is_from_nought
  b_is_from_nought : Binds K fd.is_from_nought P_is_from_nought []
  g_is_from_nought : mg "is_from_nought" = some (.ref a.is_from_nought)
  F_is_name : Fun K "is_name" "is_name" s_is_name a.is_name fd.is_name
  b_is_name : Binds K fd.is_name P_is_name []
  g_is_name : mg "is_name" = some (.ref a.is_name)
  F_is_word : Fun K "is_word" "is_word" s_is_word a.is_word fd.is_word
  b_is_word : Binds K fd.is_word P_is_word []
  g_is_word : mg "is_word" = some (.ref a.is_word)
  F_is_numbered : Fun K "is_numbered" "is_numbered" s_is_numbered a.is_numbered fd.is_numbered
  b_is_numbered : Binds K fd.is_numbered P_is_numbered []
  g_is_numbered : mg "is_numbered" = some (.ref a.is_numbered)
  F_is_thing : Fun K "is_thing" "is_thing" s_is_thing a.is_thing fd.is_thing
  b_is_thing : Binds K fd.is_thing P_is_thing []
  g_is_thing : mg "is_thing" = some (.ref a.is_thing)
  F_are_things : Fun K "are_things" "are_things" s_are_things a.are_things fd.are_things
  b_are_things : Binds K fd.are_things P_are_things []
  g_are_things : mg "are_things" = some (.ref a.are_things)
  F_is_offer : Fun K "is_offer" "is_offer" s_is_offer a.is_offer fd.is_offer
  b_is_offer : Binds K fd.is_offer P_is_offer []
  g_is_offer : mg "is_offer" = some (.ref a.is_offer)
  F__law_pool : Fun K "_law_pool" "_law_pool" s__law_pool a._law_pool fd._law_pool
  b__law_pool : Binds K fd._law_pool P__law_pool []
  g__law_pool : mg "_law_pool" = some (.ref a._law_pool)
  F__law_take : Fun K "_law_take" "_law_take" s__law_take a._law_take fd._law_take
  b__law_take : Binds K fd._law_take P__law_take []
  g__law_take : mg "_law_take" = some (.ref a._law_take)
  F__law_whole : Fun K "_law_whole" "_law_whole" s__law_whole a._law_whole fd._law_whole
  b__law_whole : Binds K fd._law_whole P__law_whole []
  g__law_whole : mg "_law_whole" = some (.ref a._law_whole)
  F__law_is_name : Fun K "_law_is_name" "_law_is_name" s__law_is_name a._law_is_name fd._law_is_name
  b__law_is_name : Binds K fd._law_is_name P__law_is_name []
  g__law_is_name : mg "_law_is_name" = some (.ref a._law_is_name)
  F__law_has : Fun K "_law_has" "_law_has" s__law_has a._law_has fd._law_has
  b__law_has : Binds K fd._law_has P__law_has []
  g__law_has : mg "_law_has" = some (.ref a._law_has)
  F__law_numbered : Fun K "_law_numbered" "_law_numbered" s__law_numbered a._law_numbered fd._law_numbered
  b__law_numbered : Binds K fd._law_numbered P__law_numbered []
  g__law_numbered : mg "_law_numbered" = some (.ref a._law_numbered)
  F__law_are : Fun K "_law_are" "_law_are" s__law_are a._law_are fd._law_are
  b__law_are : Binds K fd._law_are P__law_are []
  g__law_are : mg "_law_are" = some (.ref a._law_are)
  F__law_is_thing : Fun K "_law_is_thing" "_law_is_thing" s__law_is_thing a._law_is_thing fd._law_is_thing
  b__law_is_thing : Binds K fd._law_is_thing P__law_is_thing []
  g__law_is_thing : mg "_law_is_thing" = some (.ref a._law_is_thing)
  F__law_is_offer : Fun K "_law_is_offer" "_law_is_offer" s__law_is_offer a._law_is_offer fd._law_is_offer
  b__law_is_offer : Binds K fd._law_is_offer P__law_is_offer []
  g__law_is_offer : mg "_law_is_offer" = some (.ref a._law_is_offer)
  F__law_number : Fun K "_law_number" "_law_number" s__law_number a._law_number fd._law_number
  b__law_number : Binds K fd._law_number P__law_number []
  g__law_number : mg "_law_number" = some (.ref a._law_number)
  F__law_drawn_thing : Fun K "_law_drawn_thing" "_law_drawn_thing" s__law_drawn_thing a._law_drawn_thing fd._law_drawn_thing
  b__law_drawn_thing : Binds K fd._law_drawn_thing P__law_drawn_thing []
  g__law_drawn_thing : mg "_law_drawn_thing" = some (.ref a._law_drawn_thing)
  F__law_drawn_things : Fun K "_law_drawn_things" "_law_drawn_things" s__law_drawn_things a._law_drawn_things fd._law_drawn_things
  b__law_drawn_things : Binds K fd._law_drawn_things P__law_drawn_things []
  g__law_drawn_things : mg "_law_drawn_things" = some (.ref a._law_drawn_things)
  F__law_drawn_offer : Fun K "_law_drawn_offer" "_law_drawn_offer" s__law_drawn_offer a._law_drawn_offer fd._law_drawn_offer
  b__law_drawn_offer : Binds K fd._law_drawn_offer P__law_drawn_offer []
  g__law_drawn_offer : mg "_law_drawn_offer" = some (.ref a._law_drawn_offer)
  F__law_odd : Fun K "_law_odd" "_law_odd" s__law_odd a._law_odd fd._law_odd
  b__law_odd : Binds K fd._law_odd P__law_odd []
  g__law_odd : mg "_law_odd" = some (.ref a._law_odd)
  F__law_bent : Fun K "_law_bent" "_law_bent" s__law_bent a._law_bent fd._law_bent
  b__law_bent : Binds K fd._law_bent P__law_bent []
  g__law_bent : mg "_law_bent" = some (.ref a._law_bent)
  F__law_deep_right : Fun K "_law_deep_right" "_law_deep_right" s__law_deep_right a._law_deep_right fd._law_deep_right
  b__law_deep_right : Binds K fd._law_deep_right P__law_deep_right []
  g__law_deep_right : mg "_law_deep_right" = some (.ref a._law_deep_right)
  F_law : Fun K "law" "law" s_law a.law fd.law
  b_law : Binds K fd.law P_law []
  g_law : mg "law" = some (.ref a.law)
  n_abs : mg "abs" = none
  n_all : mg "all" = none
  n_bool : mg "bool" = none
  n_int : mg "int" = none
  n_isinstance : mg "isinstance" = none
  n_len : mg "len" = none
  n_list : mg "list" = none
  n_max : mg "max" = none
  n_min : mg "min" = none
  n_range : mg "range" = none
  n_repr : mg "repr" = none
  n_str : mg "str" = none
  n_tuple : mg "tuple" = none
  c_LETTERS : ∃ u, mg "LETTERS" = some u ∧ RelV (.str "abcdefghijklmnopqrstuvwxyz") u
  c_MOST_SIGNS : ∃ u, mg "MOST_SIGNS" = some u ∧ RelV (.int 8) u
  c_MOST_OFFERS : ∃ u, mg "MOST_OFFERS" = some u ∧ RelV (.int 6) u
  c_MOST_THINGS : ∃ u, mg "MOST_THINGS" = some u ∧ RelV (.int 4) u
  B_law : ∀ (s : Shared) (u : Value), BindsTo s fd.law ⟨[u], []⟩ [("_law_script", u)]
theorem txt_mk {K : Frag} {h : Heap} {mg : Str → Option Value} (X : K.In h) (G : h.Ns mainGlobals mg)
    {f1 f2 f3 f4 f5 f6 f7 f8 f9 f10 f11 f12 f13 f14 f15 f16 f17 f18 f19 f20 f21 f22 f23 f24 f25 : Addr} {od1 od2 od3 od4 od5 od6 od7 od8 od9 od10 od11 od12 od13 od14 od15 od16 od17 od18 od19 od20 od21 od22 od23 od24 od25 an1 an2 an3 an4 an5 an6 an7 an8 an9 an10 an11 an12 an13 an14 an15 an16 an17 an18 an19 an20 an21 an22 an23 an24 an25 : Option Addr} {sl1 sl2 sl3 sl4 sl5 sl6 sl7 sl8 sl9 sl10 sl11 sl12 sl13 sl14 sl15 sl16 sl17 sl18 sl19 sl20 sl21 sl22 sl23 sl24 sl25 : Array (Option Value)} {oc1 oc2 oc3 oc4 oc5 oc6 oc7 oc8 oc9 oc10 oc11 oc12 oc13 oc14 oc15 oc16 oc17 oc18 oc19 oc20 oc21 oc22 oc23 oc24 oc25 kV1 kV2 kV3 kV4 kV5 kV6 kV7 kV8 kV9 kV10 kV11 kV12 kV13 kV14 kV15 kV16 kV17 kV18 kV19 kV20 kV21 kV22 kV23 kV24 kV25 dc1 dc2 dc3 dc4 dc5 dc6 dc7 dc8 dc9 dc10 dc11 dc12 dc13 dc14 dc15 dc16 dc17 dc18 dc19 dc20 dc21 dc22 dc23 dc24 dc25 pm1 pm2 pm3 pm4 pm5 pm6 pm7 pm8 pm9 pm10 pm11 pm12 pm13 pm14 pm15 pm16 pm17 pm18 pm19 pm20 pm21 pm22 pm23 pm24 pm25 cd1 cd2 cd3 cd4 cd5 cd6 cd7 cd8 cd9 cd10 cd11 cd12 cd13 cd14 cd15 cd16 cd17 cd18 cd19 cd20 cd21 cd22 cd23 cd24 cd25 ct1 ct2 ct3 ct4 ct5 ct6 ct7 ct8 ct9 ct10 ct11 ct12 ct13 ct14 ct15 ct16 ct17 ct18 ct19 ct20 ct21 ct22 ct23 ct24 ct25 : Value}
    (a1 : PySem.W.nsIn K mainGlobals "is_whole" = some (some (.ref f1))) (l1 : K.lookup f1 = some ⟨oc1, od1, .func (PySem.W.fnOf "is_whole" "is_whole" (defArgs s_is_whole) (defBody s_is_whole) (defScope s_is_whole) .none kV1 dc1 pm1 an1 cd1 ct1), sl1⟩) (c1 : PySem.W.codeIn K cd1 "is_whole" = true) (k1 : PySem.W.keepIn K (.ref f1) = true)
    (a2 : PySem.W.nsIn K mainGlobals "is_from_nought" = some (some (.ref f2))) (l2 : K.lookup f2 = some ⟨oc2, od2, .func (PySem.W.fnOf "is_from_nought" "is_from_nought" (defArgs s_is_from_nought) (defBody s_is_from_nought) (defScope s_is_from_nought) .none kV2 dc2 pm2 an2 cd2 ct2), sl2⟩) (c2 : PySem.W.codeIn K cd2 "is_from_nought" = true) (k2 : PySem.W.keepIn K (.ref f2) = true)
    (a3 : PySem.W.nsIn K mainGlobals "is_name" = some (some (.ref f3))) (l3 : K.lookup f3 = some ⟨oc3, od3, .func (PySem.W.fnOf "is_name" "is_name" (defArgs s_is_name) (defBody s_is_name) (defScope s_is_name) .none kV3 dc3 pm3 an3 cd3 ct3), sl3⟩) (c3 : PySem.W.codeIn K cd3 "is_name" = true) (k3 : PySem.W.keepIn K (.ref f3) = true)
    (a4 : PySem.W.nsIn K mainGlobals "is_word" = some (some (.ref f4))) (l4 : K.lookup f4 = some ⟨oc4, od4, .func (PySem.W.fnOf "is_word" "is_word" (defArgs s_is_word) (defBody s_is_word) (defScope s_is_word) .none kV4 dc4 pm4 an4 cd4 ct4), sl4⟩) (c4 : PySem.W.codeIn K cd4 "is_word" = true) (k4 : PySem.W.keepIn K (.ref f4) = true)
    (a5 : PySem.W.nsIn K mainGlobals "is_numbered" = some (some (.ref f5))) (l5 : K.lookup f5 = some ⟨oc5, od5, .func (PySem.W.fnOf "is_numbered" "is_numbered" (defArgs s_is_numbered) (defBody s_is_numbered) (defScope s_is_numbered) .none kV5 dc5 pm5 an5 cd5 ct5), sl5⟩) (c5 : PySem.W.codeIn K cd5 "is_numbered" = true) (k5 : PySem.W.keepIn K (.ref f5) = true)
    (a6 : PySem.W.nsIn K mainGlobals "is_thing" = some (some (.ref f6))) (l6 : K.lookup f6 = some ⟨oc6, od6, .func (PySem.W.fnOf "is_thing" "is_thing" (defArgs s_is_thing) (defBody s_is_thing) (defScope s_is_thing) .none kV6 dc6 pm6 an6 cd6 ct6), sl6⟩) (c6 : PySem.W.codeIn K cd6 "is_thing" = true) (k6 : PySem.W.keepIn K (.ref f6) = true)
    (a7 : PySem.W.nsIn K mainGlobals "are_things" = some (some (.ref f7))) (l7 : K.lookup f7 = some ⟨oc7, od7, .func (PySem.W.fnOf "are_things" "are_things" (defArgs s_are_things) (defBody s_are_things) (defScope s_are_things) .none kV7 dc7 pm7 an7 cd7 ct7), sl7⟩) (c7 : PySem.W.codeIn K cd7 "are_things" = true) (k7 : PySem.W.keepIn K (.ref f7) = true)
    (a8 : PySem.W.nsIn K mainGlobals "is_offer" = some (some (.ref f8))) (l8 : K.lookup f8 = some ⟨oc8, od8, .func (PySem.W.fnOf "is_offer" "is_offer" (defArgs s_is_offer) (defBody s_is_offer) (defScope s_is_offer) .none kV8 dc8 pm8 an8 cd8 ct8), sl8⟩) (c8 : PySem.W.codeIn K cd8 "is_offer" = true) (k8 : PySem.W.keepIn K (.ref f8) = true)
    (a9 : PySem.W.nsIn K mainGlobals "_law_pool" = some (some (.ref f9))) (l9 : K.lookup f9 = some ⟨oc9, od9, .func (PySem.W.fnOf "_law_pool" "_law_pool" (defArgs s__law_pool) (defBody s__law_pool) (defScope s__law_pool) .none kV9 dc9 pm9 an9 cd9 ct9), sl9⟩) (c9 : PySem.W.codeIn K cd9 "_law_pool" = true) (k9 : PySem.W.keepIn K (.ref f9) = true)
    (a10 : PySem.W.nsIn K mainGlobals "_law_take" = some (some (.ref f10))) (l10 : K.lookup f10 = some ⟨oc10, od10, .func (PySem.W.fnOf "_law_take" "_law_take" (defArgs s__law_take) (defBody s__law_take) (defScope s__law_take) .none kV10 dc10 pm10 an10 cd10 ct10), sl10⟩) (c10 : PySem.W.codeIn K cd10 "_law_take" = true) (k10 : PySem.W.keepIn K (.ref f10) = true)
    (a11 : PySem.W.nsIn K mainGlobals "_law_whole" = some (some (.ref f11))) (l11 : K.lookup f11 = some ⟨oc11, od11, .func (PySem.W.fnOf "_law_whole" "_law_whole" (defArgs s__law_whole) (defBody s__law_whole) (defScope s__law_whole) .none kV11 dc11 pm11 an11 cd11 ct11), sl11⟩) (c11 : PySem.W.codeIn K cd11 "_law_whole" = true) (k11 : PySem.W.keepIn K (.ref f11) = true)
    (a12 : PySem.W.nsIn K mainGlobals "_law_is_name" = some (some (.ref f12))) (l12 : K.lookup f12 = some ⟨oc12, od12, .func (PySem.W.fnOf "_law_is_name" "_law_is_name" (defArgs s__law_is_name) (defBody s__law_is_name) (defScope s__law_is_name) .none kV12 dc12 pm12 an12 cd12 ct12), sl12⟩) (c12 : PySem.W.codeIn K cd12 "_law_is_name" = true) (k12 : PySem.W.keepIn K (.ref f12) = true)
    (a13 : PySem.W.nsIn K mainGlobals "_law_has" = some (some (.ref f13))) (l13 : K.lookup f13 = some ⟨oc13, od13, .func (PySem.W.fnOf "_law_has" "_law_has" (defArgs s__law_has) (defBody s__law_has) (defScope s__law_has) .none kV13 dc13 pm13 an13 cd13 ct13), sl13⟩) (c13 : PySem.W.codeIn K cd13 "_law_has" = true) (k13 : PySem.W.keepIn K (.ref f13) = true)
    (a14 : PySem.W.nsIn K mainGlobals "_law_numbered" = some (some (.ref f14))) (l14 : K.lookup f14 = some ⟨oc14, od14, .func (PySem.W.fnOf "_law_numbered" "_law_numbered" (defArgs s__law_numbered) (defBody s__law_numbered) (defScope s__law_numbered) .none kV14 dc14 pm14 an14 cd14 ct14), sl14⟩) (c14 : PySem.W.codeIn K cd14 "_law_numbered" = true) (k14 : PySem.W.keepIn K (.ref f14) = true)
    (a15 : PySem.W.nsIn K mainGlobals "_law_are" = some (some (.ref f15))) (l15 : K.lookup f15 = some ⟨oc15, od15, .func (PySem.W.fnOf "_law_are" "_law_are" (defArgs s__law_are) (defBody s__law_are) (defScope s__law_are) .none kV15 dc15 pm15 an15 cd15 ct15), sl15⟩) (c15 : PySem.W.codeIn K cd15 "_law_are" = true) (k15 : PySem.W.keepIn K (.ref f15) = true)
    (a16 : PySem.W.nsIn K mainGlobals "_law_is_thing" = some (some (.ref f16))) (l16 : K.lookup f16 = some ⟨oc16, od16, .func (PySem.W.fnOf "_law_is_thing" "_law_is_thing" (defArgs s__law_is_thing) (defBody s__law_is_thing) (defScope s__law_is_thing) .none kV16 dc16 pm16 an16 cd16 ct16), sl16⟩) (c16 : PySem.W.codeIn K cd16 "_law_is_thing" = true) (k16 : PySem.W.keepIn K (.ref f16) = true)
    (a17 : PySem.W.nsIn K mainGlobals "_law_is_offer" = some (some (.ref f17))) (l17 : K.lookup f17 = some ⟨oc17, od17, .func (PySem.W.fnOf "_law_is_offer" "_law_is_offer" (defArgs s__law_is_offer) (defBody s__law_is_offer) (defScope s__law_is_offer) .none kV17 dc17 pm17 an17 cd17 ct17), sl17⟩) (c17 : PySem.W.codeIn K cd17 "_law_is_offer" = true) (k17 : PySem.W.keepIn K (.ref f17) = true)
    (a18 : PySem.W.nsIn K mainGlobals "_law_number" = some (some (.ref f18))) (l18 : K.lookup f18 = some ⟨oc18, od18, .func (PySem.W.fnOf "_law_number" "_law_number" (defArgs s__law_number) (defBody s__law_number) (defScope s__law_number) .none kV18 dc18 pm18 an18 cd18 ct18), sl18⟩) (c18 : PySem.W.codeIn K cd18 "_law_number" = true) (k18 : PySem.W.keepIn K (.ref f18) = true)
    (a19 : PySem.W.nsIn K mainGlobals "_law_drawn_thing" = some (some (.ref f19))) (l19 : K.lookup f19 = some ⟨oc19, od19, .func (PySem.W.fnOf "_law_drawn_thing" "_law_drawn_thing" (defArgs s__law_drawn_thing) (defBody s__law_drawn_thing) (defScope s__law_drawn_thing) .none kV19 dc19 pm19 an19 cd19 ct19), sl19⟩) (c19 : PySem.W.codeIn K cd19 "_law_drawn_thing" = true) (k19 : PySem.W.keepIn K (.ref f19) = true)
    (a20 : PySem.W.nsIn K mainGlobals "_law_drawn_things" = some (some (.ref f20))) (l20 : K.lookup f20 = some ⟨oc20, od20, .func (PySem.W.fnOf "_law_drawn_things" "_law_drawn_things" (defArgs s__law_drawn_things) (defBody s__law_drawn_things) (defScope s__law_drawn_things) .none kV20 dc20 pm20 an20 cd20 ct20), sl20⟩) (c20 : PySem.W.codeIn K cd20 "_law_drawn_things" = true) (k20 : PySem.W.keepIn K (.ref f20) = true)
    (a21 : PySem.W.nsIn K mainGlobals "_law_drawn_offer" = some (some (.ref f21))) (l21 : K.lookup f21 = some ⟨oc21, od21, .func (PySem.W.fnOf "_law_drawn_offer" "_law_drawn_offer" (defArgs s__law_drawn_offer) (defBody s__law_drawn_offer) (defScope s__law_drawn_offer) .none kV21 dc21 pm21 an21 cd21 ct21), sl21⟩) (c21 : PySem.W.codeIn K cd21 "_law_drawn_offer" = true) (k21 : PySem.W.keepIn K (.ref f21) = true)
    (a22 : PySem.W.nsIn K mainGlobals "_law_odd" = some (some (.ref f22))) (l22 : K.lookup f22 = some ⟨oc22, od22, .func (PySem.W.fnOf "_law_odd" "_law_odd" (defArgs s__law_odd) (defBody s__law_odd) (defScope s__law_odd) .none kV22 dc22 pm22 an22 cd22 ct22), sl22⟩) (c22 : PySem.W.codeIn K cd22 "_law_odd" = true) (k22 : PySem.W.keepIn K (.ref f22) = true)
    (a23 : PySem.W.nsIn K mainGlobals "_law_bent" = some (some (.ref f23))) (l23 : K.lookup f23 = some ⟨oc23, od23, .func (PySem.W.fnOf "_law_bent" "_law_bent" (defArgs s__law_bent) (defBody s__law_bent) (defScope s__law_bent) .none kV23 dc23 pm23 an23 cd23 ct23), sl23⟩) (c23 : PySem.W.codeIn K cd23 "_law_bent" = true) (k23 : PySem.W.keepIn K (.ref f23) = true)
    (a24 : PySem.W.nsIn K mainGlobals "_law_deep_right" = some (some (.ref f24))) (l24 : K.lookup f24 = some ⟨oc24, od24, .func (PySem.W.fnOf "_law_deep_right" "_law_deep_right" (defArgs s__law_deep_right) (defBody s__law_deep_right) (defScope s__law_deep_right) .none kV24 dc24 pm24 an24 cd24 ct24), sl24⟩) (c24 : PySem.W.codeIn K cd24 "_law_deep_right" = true) (k24 : PySem.W.keepIn K (.ref f24) = true)
    (a25 : PySem.W.nsIn K mainGlobals "law" = some (some (.ref f25))) (l25 : K.lookup f25 = some ⟨oc25, od25, .func (PySem.W.fnOf "law" "law" (defArgs s_law) (defBody s_law) (defScope s_law) .none kV25 dc25 pm25 an25 cd25 ct25), sl25⟩) (c25 : PySem.W.codeIn K cd25 "law" = true) (k25 : PySem.W.keepIn K (.ref f25) = true)
    (z1 : PySem.W.nsIn K mainGlobals "abs" = some none)
    (z2 : PySem.W.nsIn K mainGlobals "all" = some none)
    (z3 : PySem.W.nsIn K mainGlobals "bool" = some none)
    (z4 : PySem.W.nsIn K mainGlobals "int" = some none)
    (z5 : PySem.W.nsIn K mainGlobals "isinstance" = some none)
    (z6 : PySem.W.nsIn K mainGlobals "len" = some none)
    (z7 : PySem.W.nsIn K mainGlobals "list" = some none)
    (z8 : PySem.W.nsIn K mainGlobals "max" = some none)
    (z9 : PySem.W.nsIn K mainGlobals "min" = some none)
    (z10 : PySem.W.nsIn K mainGlobals "range" = some none)
    (z11 : PySem.W.nsIn K mainGlobals "repr" = some none)
    (z12 : PySem.W.nsIn K mainGlobals "str" = some none)
    (z13 : PySem.W.nsIn K mainGlobals "tuple" = some none)
    {t1 : Tok} (v1 : PySem.W.nsIn K mainGlobals "LETTERS" = some (some (.str "abcdefghijklmnopqrstuvwxyz" t1))) {t2 : Tok} (v2 : PySem.W.nsIn K mainGlobals "MOST_SIGNS" = some (some (.int 8 t2))) {t3 : Tok} (v3 : PySem.W.nsIn K mainGlobals "MOST_OFFERS" = some (some (.int 6 t3))) {t4 : Tok} (v4 : PySem.W.nsIn K mainGlobals "MOST_THINGS" = some (some (.int 4 t4))) :
    Txt K mg ⟨f1, f2, f3, f4, f5, f6, f7, f8, f9, f10, f11, f12, f13, f14, f15, f16, f17, f18, f19, f20, f21, f22, f23, f24, f25⟩ ⟨PySem.W.fnOf "is_whole" "is_whole" (defArgs s_is_whole) (defBody s_is_whole) (defScope s_is_whole) .none kV1 dc1 pm1 an1 cd1 ct1, PySem.W.fnOf "is_from_nought" "is_from_nought" (defArgs s_is_from_nought) (defBody s_is_from_nought) (defScope s_is_from_nought) .none kV2 dc2 pm2 an2 cd2 ct2, PySem.W.fnOf "is_name" "is_name" (defArgs s_is_name) (defBody s_is_name) (defScope s_is_name) .none kV3 dc3 pm3 an3 cd3 ct3, PySem.W.fnOf "is_word" "is_word" (defArgs s_is_word) (defBody s_is_word) (defScope s_is_word) .none kV4 dc4 pm4 an4 cd4 ct4, PySem.W.fnOf "is_numbered" "is_numbered" (defArgs s_is_numbered) (defBody s_is_numbered) (defScope s_is_numbered) .none kV5 dc5 pm5 an5 cd5 ct5, PySem.W.fnOf "is_thing" "is_thing" (defArgs s_is_thing) (defBody s_is_thing) (defScope s_is_thing) .none kV6 dc6 pm6 an6 cd6 ct6, PySem.W.fnOf "are_things" "are_things" (defArgs s_are_things) (defBody s_are_things) (defScope s_are_things) .none kV7 dc7 pm7 an7 cd7 ct7, PySem.W.fnOf "is_offer" "is_offer" (defArgs s_is_offer) (defBody s_is_offer) (defScope s_is_offer) .none kV8 dc8 pm8 an8 cd8 ct8, PySem.W.fnOf "_law_pool" "_law_pool" (defArgs s__law_pool) (defBody s__law_pool) (defScope s__law_pool) .none kV9 dc9 pm9 an9 cd9 ct9, PySem.W.fnOf "_law_take" "_law_take" (defArgs s__law_take) (defBody s__law_take) (defScope s__law_take) .none kV10 dc10 pm10 an10 cd10 ct10, PySem.W.fnOf "_law_whole" "_law_whole" (defArgs s__law_whole) (defBody s__law_whole) (defScope s__law_whole) .none kV11 dc11 pm11 an11 cd11 ct11, PySem.W.fnOf "_law_is_name" "_law_is_name" (defArgs s__law_is_name) (defBody s__law_is_name) (defScope s__law_is_name) .none kV12 dc12 pm12 an12 cd12 ct12, PySem.W.fnOf "_law_has" "_law_has" (defArgs s__law_has) (defBody s__law_has) (defScope s__law_has) .none kV13 dc13 pm13 an13 cd13 ct13, PySem.W.fnOf "_law_numbered" "_law_numbered" (defArgs s__law_numbered) (defBody s__law_numbered) (defScope s__law_numbered) .none kV14 dc14 pm14 an14 cd14 ct14, PySem.W.fnOf "_law_are" "_law_are" (defArgs s__law_are) (defBody s__law_are) (defScope s__law_are) .none kV15 dc15 pm15 an15 cd15 ct15, PySem.W.fnOf "_law_is_thing" "_law_is_thing" (defArgs s__law_is_thing) (defBody s__law_is_thing) (defScope s__law_is_thing) .none kV16 dc16 pm16 an16 cd16 ct16, PySem.W.fnOf "_law_is_offer" "_law_is_offer" (defArgs s__law_is_offer) (defBody s__law_is_offer) (defScope s__law_is_offer) .none kV17 dc17 pm17 an17 cd17 ct17, PySem.W.fnOf "_law_number" "_law_number" (defArgs s__law_number) (defBody s__law_number) (defScope s__law_number) .none kV18 dc18 pm18 an18 cd18 ct18, PySem.W.fnOf "_law_drawn_thing" "_law_drawn_thing" (defArgs s__law_drawn_thing) (defBody s__law_drawn_thing) (defScope s__law_drawn_thing) .none kV19 dc19 pm19 an19 cd19 ct19, PySem.W.fnOf "_law_drawn_things" "_law_drawn_things" (defArgs s__law_drawn_things) (defBody s__law_drawn_things) (defScope s__law_drawn_things) .none kV20 dc20 pm20 an20 cd20 ct20, PySem.W.fnOf "_law_drawn_offer" "_law_drawn_offer" (defArgs s__law_drawn_offer) (defBody s__law_drawn_offer) (defScope s__law_drawn_offer) .none kV21 dc21 pm21 an21 cd21 ct21, PySem.W.fnOf "_law_odd" "_law_odd" (defArgs s__law_odd) (defBody s__law_odd) (defScope s__law_odd) .none kV22 dc22 pm22 an22 cd22 ct22, PySem.W.fnOf "_law_bent" "_law_bent" (defArgs s__law_bent) (defBody s__law_bent) (defScope s__law_bent) .none kV23 dc23 pm23 an23 cd23 ct23, PySem.W.fnOf "_law_deep_right" "_law_deep_right" (defArgs s__law_deep_right) (defBody s__law_deep_right) (defScope s__law_deep_right) .none kV24 dc24 pm24 an24 cd24 ct24, PySem.W.fnOf "law" "law" (defArgs s_law) (defBody s_law) (defScope s_law) .none kV25 dc25 pm25 an25 cd25 ct25⟩ where
  F_is_whole := fun_mk l1 c1 k1
  b_is_whole := (fun_mk (st := s_is_whole) l1 c1 k1).binds (ps := P_is_whole) fun _ _ _ _ _ _ us hl => match us, hl with | [_], _ => rfl
  g_is_whole := PySem.W.mg_of X G a1
  F_is_from_nought := fun_mk l2 c2 k2
  b_is_from_nought := (fun_mk (st := s_is_from_nought) l2 c2 k2).binds (ps := P_is_from_nought) fun _ _ _ _ _ _ us hl => match us, hl with | [_], _ => rfl
  g_is_from_nought := PySem.W.mg_of X G a2
  F_is_name := fun_mk l3 c3 k3
  b_is_name := (fun_mk (st := s_is_name) l3 c3 k3).binds (ps := P_is_name) fun _ _ _ _ _ _ us hl => match us, hl with | [_], _ => rfl
  g_is_name := PySem.W.mg_of X G a3
  F_is_word := fun_mk l4 c4 k4
  b_is_word := (fun_mk (st := s_is_word) l4 c4 k4).binds (ps := P_is_word) fun _ _ _ _ _ _ us hl => match us, hl with | [_, _, _], _ => rfl
  g_is_word := PySem.W.mg_of X G a4
  F_is_numbered := fun_mk l5 c5 k5
  b_is_numbered := (fun_mk (st := s_is_numbered) l5 c5 k5).binds (ps := P_is_numbered) fun _ _ _ _ _ _ us hl => match us, hl with | [_, _], _ => rfl
  g_is_numbered := PySem.W.mg_of X G a5
  F_is_thing := fun_mk l6 c6 k6
  b_is_thing := (fun_mk (st := s_is_thing) l6 c6 k6).binds (ps := P_is_thing) fun _ _ _ _ _ _ us hl => match us, hl with | [_], _ => rfl
  g_is_thing := PySem.W.mg_of X G a6
  F_are_things := fun_mk l7 c7 k7
  b_are_things := (fun_mk (st := s_are_things) l7 c7 k7).binds (ps := P_are_things) fun _ _ _ _ _ _ us hl => match us, hl with | [_], _ => rfl
  g_are_things := PySem.W.mg_of X G a7
  F_is_offer := fun_mk l8 c8 k8
  b_is_offer := (fun_mk (st := s_is_offer) l8 c8 k8).binds (ps := P_is_offer) fun _ _ _ _ _ _ us hl => match us, hl with | [_], _ => rfl
  g_is_offer := PySem.W.mg_of X G a8
  F__law_pool := fun_mk l9 c9 k9
  b__law_pool := (fun_mk (st := s__law_pool) l9 c9 k9).binds (ps := P__law_pool) fun _ _ _ _ _ _ us hl => match us, hl with | [_, _], _ => rfl
  g__law_pool := PySem.W.mg_of X G a9
  F__law_take := fun_mk l10 c10 k10
  b__law_take := (fun_mk (st := s__law_take) l10 c10 k10).binds (ps := P__law_take) fun _ _ _ _ _ _ us hl => match us, hl with | [_, _], _ => rfl
  g__law_take := PySem.W.mg_of X G a10
  F__law_whole := fun_mk l11 c11 k11
  b__law_whole := (fun_mk (st := s__law_whole) l11 c11 k11).binds (ps := P__law_whole) fun _ _ _ _ _ _ us hl => match us, hl with | [_], _ => rfl
  g__law_whole := PySem.W.mg_of X G a11
  F__law_is_name := fun_mk l12 c12 k12
  b__law_is_name := (fun_mk (st := s__law_is_name) l12 c12 k12).binds (ps := P__law_is_name) fun _ _ _ _ _ _ us hl => match us, hl with | [_], _ => rfl
  g__law_is_name := PySem.W.mg_of X G a12
  F__law_has := fun_mk l13 c13 k13
  b__law_has := (fun_mk (st := s__law_has) l13 c13 k13).binds (ps := P__law_has) fun _ _ _ _ _ _ us hl => match us, hl with | [_, _, _], _ => rfl
  g__law_has := PySem.W.mg_of X G a13
  F__law_numbered := fun_mk l14 c14 k14
  b__law_numbered := (fun_mk (st := s__law_numbered) l14 c14 k14).binds (ps := P__law_numbered) fun _ _ _ _ _ _ us hl => match us, hl with | [_, _], _ => rfl
  g__law_numbered := PySem.W.mg_of X G a14
  F__law_are := fun_mk l15 c15 k15
  b__law_are := (fun_mk (st := s__law_are) l15 c15 k15).binds (ps := P__law_are) fun _ _ _ _ _ _ us hl => match us, hl with | [_, _], _ => rfl
  g__law_are := PySem.W.mg_of X G a15
  F__law_is_thing := fun_mk l16 c16 k16
  b__law_is_thing := (fun_mk (st := s__law_is_thing) l16 c16 k16).binds (ps := P__law_is_thing) fun _ _ _ _ _ _ us hl => match us, hl with | [_], _ => rfl
  g__law_is_thing := PySem.W.mg_of X G a16
  F__law_is_offer := fun_mk l17 c17 k17
  b__law_is_offer := (fun_mk (st := s__law_is_offer) l17 c17 k17).binds (ps := P__law_is_offer) fun _ _ _ _ _ _ us hl => match us, hl with | [_], _ => rfl
  g__law_is_offer := PySem.W.mg_of X G a17
  F__law_number := fun_mk l18 c18 k18
  b__law_number := (fun_mk (st := s__law_number) l18 c18 k18).binds (ps := P__law_number) fun _ _ _ _ _ _ us hl => match us, hl with | [_], _ => rfl
  g__law_number := PySem.W.mg_of X G a18
  F__law_drawn_thing := fun_mk l19 c19 k19
  b__law_drawn_thing := (fun_mk (st := s__law_drawn_thing) l19 c19 k19).binds (ps := P__law_drawn_thing) fun _ _ _ _ _ _ us hl => match us, hl with | [_, _], _ => rfl
  g__law_drawn_thing := PySem.W.mg_of X G a19
  F__law_drawn_things := fun_mk l20 c20 k20
  b__law_drawn_things := (fun_mk (st := s__law_drawn_things) l20 c20 k20).binds (ps := P__law_drawn_things) fun _ _ _ _ _ _ us hl => match us, hl with | [_, _], _ => rfl
  g__law_drawn_things := PySem.W.mg_of X G a20
  F__law_drawn_offer := fun_mk l21 c21 k21
  b__law_drawn_offer := (fun_mk (st := s__law_drawn_offer) l21 c21 k21).binds (ps := P__law_drawn_offer) fun _ _ _ _ _ _ us hl => match us, hl with | [_, _], _ => rfl
  g__law_drawn_offer := PySem.W.mg_of X G a21
  F__law_odd := fun_mk l22 c22 k22
  b__law_odd := (fun_mk (st := s__law_odd) l22 c22 k22).binds (ps := P__law_odd) fun _ _ _ _ _ _ us hl => match us, hl with | [_], _ => rfl
  g__law_odd := PySem.W.mg_of X G a22
  F__law_bent := fun_mk l23 c23 k23
  b__law_bent := (fun_mk (st := s__law_bent) l23 c23 k23).binds (ps := P__law_bent) fun _ _ _ _ _ _ us hl => match us, hl with | [_, _, _], _ => rfl
  g__law_bent := PySem.W.mg_of X G a23
  F__law_deep_right := fun_mk l24 c24 k24
  b__law_deep_right := (fun_mk (st := s__law_deep_right) l24 c24 k24).binds (ps := P__law_deep_right) fun _ _ _ _ _ _ us hl => match us, hl with | [], _ => rfl
  g__law_deep_right := PySem.W.mg_of X G a24
  F_law := fun_mk l25 c25 k25
  b_law := (fun_mk (st := s_law) l25 c25 k25).binds (ps := P_law) fun _ _ _ _ _ _ us hl => match us, hl with | [_], _ => rfl
  g_law := PySem.W.mg_of X G a25
  n_abs := PySem.W.mg_none_of X G z1
  n_all := PySem.W.mg_none_of X G z2
  n_bool := PySem.W.mg_none_of X G z3
  n_int := PySem.W.mg_none_of X G z4
  n_isinstance := PySem.W.mg_none_of X G z5
  n_len := PySem.W.mg_none_of X G z6
  n_list := PySem.W.mg_none_of X G z7
  n_max := PySem.W.mg_none_of X G z8
  n_min := PySem.W.mg_none_of X G z9
  n_range := PySem.W.mg_none_of X G z10
  n_repr := PySem.W.mg_none_of X G z11
  n_str := PySem.W.mg_none_of X G z12
  n_tuple := PySem.W.mg_none_of X G z13
  c_LETTERS := ⟨_, PySem.W.mg_of X G v1, _, rfl⟩
  c_MOST_SIGNS := ⟨_, PySem.W.mg_of X G v2, _, rfl⟩
  c_MOST_OFFERS := ⟨_, PySem.W.mg_of X G v3, _, rfl⟩
  c_MOST_THINGS := ⟨_, PySem.W.mg_of X G v4, _, rfl⟩
  B_law := fun s v => .of_eq rfl
section
variable {P : Program} {w : World} {K : Frag} {mg : Str → Option Value} {base : Heap} {a : Adr} {fd : Fds} {k : Nat}
theorem sc_is_whole : FnScope N_is_whole P_is_whole (defScope s_is_whole) := ⟨rfl, rfl, rfl, by decide +kernel, rfl, by decide +kernel, by decide +kernel⟩
theorem sc_is_from_nought : FnScope N_is_from_nought P_is_from_nought (defScope s_is_from_nought) := ⟨rfl, rfl, rfl, by decide +kernel, rfl, by decide +kernel, by decide +kernel⟩
theorem sc_is_name : FnScope N_is_name P_is_name (defScope s_is_name) := ⟨rfl, rfl, rfl, by decide +kernel, rfl, by decide +kernel, by decide +kernel⟩
theorem sc_is_word : FnScope N_is_word P_is_word (defScope s_is_word) := ⟨rfl, rfl, rfl, by decide +kernel, rfl, by decide +kernel, by decide +kernel⟩
theorem sc_is_numbered : FnScope N_is_numbered P_is_numbered (defScope s_is_numbered) := ⟨rfl, rfl, rfl, by decide +kernel, rfl, by decide +kernel, by decide +kernel⟩
theorem sc_is_thing : FnScope N_is_thing P_is_thing (defScope s_is_thing) := ⟨rfl, rfl, rfl, by decide +kernel, rfl, by decide +kernel, by decide +kernel⟩
theorem sc_are_things : FnScope N_are_things P_are_things (defScope s_are_things) := ⟨rfl, rfl, rfl, by decide +kernel, rfl, by decide +kernel, by decide +kernel⟩
theorem sc_is_offer : FnScope N_is_offer P_is_offer (defScope s_is_offer) := ⟨rfl, rfl, rfl, by decide +kernel, rfl, by decide +kernel, by decide +kernel⟩
theorem sc__law_pool : FnScope N__law_pool P__law_pool (defScope s__law_pool) := ⟨rfl, rfl, rfl, by decide +kernel, rfl, by decide +kernel, by decide +kernel⟩
theorem sc__law_take : FnScope N__law_take P__law_take (defScope s__law_take) := ⟨rfl, rfl, rfl, by decide +kernel, rfl, by decide +kernel, by decide +kernel⟩
theorem sc__law_whole : FnScope N__law_whole P__law_whole (defScope s__law_whole) := ⟨rfl, rfl, rfl, by decide +kernel, rfl, by decide +kernel, by decide +kernel⟩
theorem sc__law_is_name : FnScope N__law_is_name P__law_is_name (defScope s__law_is_name) := ⟨rfl, rfl, rfl, by decide +kernel, rfl, by decide +kernel, by decide +kernel⟩
theorem sc__law_has : FnScope N__law_has P__law_has (defScope s__law_has) := ⟨rfl, rfl, rfl, by decide +kernel, rfl, by decide +kernel, by decide +kernel⟩
theorem sc__law_numbered : FnScope N__law_numbered P__law_numbered (defScope s__law_numbered) := ⟨rfl, rfl, rfl, by decide +kernel, rfl, by decide +kernel, by decide +kernel⟩
theorem sc__law_are : FnScope N__law_are P__law_are (defScope s__law_are) := ⟨rfl, rfl, rfl, by decide +kernel, rfl, by decide +kernel, by decide +kernel⟩
theorem sc__law_is_thing : FnScope N__law_is_thing P__law_is_thing (defScope s__law_is_thing) := ⟨rfl, rfl, rfl, by decide +kernel, rfl, by decide +kernel, by decide +kernel⟩
theorem sc__law_is_offer : FnScope N__law_is_offer P__law_is_offer (defScope s__law_is_offer) := ⟨rfl, rfl, rfl, by decide +kernel, rfl, by decide +kernel, by decide +kernel⟩
theorem sc__law_number : FnScope N__law_number P__law_number (defScope s__law_number) := ⟨rfl, rfl, rfl, by decide +kernel, rfl, by decide +kernel, by decide +kernel⟩
theorem sc__law_drawn_thing : FnScope N__law_drawn_thing P__law_drawn_thing (defScope s__law_drawn_thing) := ⟨rfl, rfl, rfl, by decide +kernel, rfl, by decide +kernel, by decide +kernel⟩
theorem sc__law_drawn_things : FnScope N__law_drawn_things P__law_drawn_things (defScope s__law_drawn_things) := ⟨rfl, rfl, rfl, by decide +kernel, rfl, by decide +kernel, by decide +kernel⟩
theorem sc__law_drawn_offer : FnScope N__law_drawn_offer P__law_drawn_offer (defScope s__law_drawn_offer) := ⟨rfl, rfl, rfl, by decide +kernel, rfl, by decide +kernel, by decide +kernel⟩
theorem sc__law_odd : FnScope N__law_odd P__law_odd (defScope s__law_odd) := ⟨rfl, rfl, rfl, by decide +kernel, rfl, by decide +kernel, by decide +kernel⟩
theorem sc__law_bent : FnScope N__law_bent P__law_bent (defScope s__law_bent) := ⟨rfl, rfl, rfl, by decide +kernel, rfl, by decide +kernel, by decide +kernel⟩
theorem sc__law_deep_right : FnScope N__law_deep_right P__law_deep_right (defScope s__law_deep_right) := ⟨rfl, rfl, rfl, by decide +kernel, rfl, by decide +kernel, by decide +kernel⟩
theorem sc_law : FnScope N_law P_law (defScope s_law) := ⟨rfl, rfl, rfl, by decide +kernel, rfl, by decide +kernel, by decide +kernel⟩
theorem ok_is_whole (T : Txt K mg a fd) : FnG P w K mg base CX0 (k + 1) a.is_whole fd.is_whole P_is_whole (spG K 1 (m_is_whole)) :=
  fn_ok T.F_is_whole sc_is_whole (fun cdv A outer s H E hg hr => ⟨_,
      (pss_one (ps_ret (pe_and (pe_callB call_isi (by rfl) T.n_isinstance bt_isinstance (pa_cons (pv 0) (pa_cons (pe_ty (by rfl) T.n_int bt_int) pa_nil))) (pe_one (pe_not (pe_callB call_isi (by rfl) T.n_isinstance bt_isinstance (pa_cons (pv 0) (pa_cons (pe_ty (by rfl) T.n_bool bt_bool) pa_nil)))))))),
      (s_ret (s_and (s_isInt s_var) (s_not (s_isBool s_var))))⟩)
theorem ok_is_from_nought (T : Txt K mg a fd) {F_is_whole : Fm} (G_is_whole : FnG P w K mg base CX0 k a.is_whole fd.is_whole P_is_whole (spG K 1 F_is_whole)) : FnG P w K mg base CX0 (k + 1) a.is_from_nought fd.is_from_nought P_is_from_nought (spG K 1 (m_is_from_nought F_is_whole)) :=
  fn_ok T.F_is_from_nought sc_is_from_nought (fun cdv A outer s H E hg hr => ⟨_,
      (pss_one (ps_ret (pe_and (pe_callG G_is_whole hg hr rfl T.g_is_whole T.F_is_whole.kp T.b_is_whole .nil pass0 (pa_cons (pv 0) pa_nil)) (pe_one (pe_cmpR op_ge (pv 0) pe_int (nomark _)))))),
      (s_ret (s_and (s_call (ag_d s_var ag_nil) (al_d al_nil)) (s_op s_var s_int r_ge)))⟩)
theorem ok_is_name (T : Txt K mg a fd) : FnG P w K mg base CX0 (k + 1) a.is_name fd.is_name P_is_name (spG K 1 (m_is_name)) :=
  fn_ok T.F_is_name sc_is_name (fun cdv A outer s H E hg hr => ⟨_,
      (pss_cons (ps_if (PW.pt (pw_or (pt_not (pt_val (pe_callB call_isi (by rfl) T.n_isinstance bt_isinstance (pa_cons (pv 0) (pa_cons (pe_ty (by rfl) T.n_str bt_str) pa_nil))))) (pw_or (pt_not (pt_chain op_leU op_leU pe_int (pe_callB call_len (by rfl) T.n_len bt_len (pa_cons (pv 0) pa_nil)) (pe_globE rfl T.c_MOST_SIGNS))) (pw_or1 (pt_cmpR (op_eqA hr.units) (pv 0) pe_str (nomark _)))))) (pss_one (ps_ret pe_bl)) pss_nil)
      (pss_one (ps_ret (pe_callB (cr_all rfl) (by rfl) T.n_all bt_all (pa_cons (pe_lc (own := [("sign", 1)]) rfl sc_is_name.nd (pi_any (pv 0)) (blkOk_by (own := [("sign", 1)]) (N := N_is_name) (sc := defScope s_is_name) (by decide +kernel)) (fun _ _ _ _ _ => (pg_name (i := 1) sc_is_name.nd rfl (Or.inl rfl))) (fun _ _ _ _ _ => pts_nil) (fun _ _ _ _ _ => (pe_cmpR op_inA (pv 1) (pe_globE rfl T.c_LETTERS) rfl))) pa_nil))))),
      (s_seq (s_if (t_or (t_not (t_B (s_isStr s_var))) (t_or (t_not (t_test (s_chain s_int (s_cb (s_cons s_var s_nil) r_len) s_int r_leU r_leU))) (t_test (s_op s_var s_str r_eq)))) (s_ret s_bl) s_next)
      (s_ret (s_cb (s_cons (s_fr (s_lc (vs := [1]) (i_any s_var) g_name t_yes (s_op s_var s_str r_in))) s_nil) r_all)))⟩)
theorem ok_is_word (T : Txt K mg a fd) : FnG P w K mg base CX0 (k + 1) a.is_word fd.is_word P_is_word (spG K 3 (m_is_word)) :=
  fn_ok T.F_is_word sc_is_word (fun cdv A outer s H E hg hr => ⟨_,
      (pss_one (ps_ret (pe_and (pe_callB call_isi (by rfl) T.n_isinstance bt_isinstance (pa_cons (pv 0) (pa_cons (pe_ty (by rfl) T.n_tuple bt_tuple) pa_nil))) (pe_and (pe_cmpR (op_eqA hr.units) (pe_callB call_len (by rfl) T.n_len bt_len (pa_cons (pv 0) pa_nil)) (pv 2) (nomark _)) (pe_and (pe_callB call_isi (by rfl) T.n_isinstance bt_isinstance (pa_cons (pe_ix ix_any (pv 0) pe_int (fun _ _ => rfl)) (pa_cons (pe_ty (by rfl) T.n_str bt_str) pa_nil))) (pe_one (pe_cmpR (op_eqA hr.units) (pe_ix ix_any (pv 0) pe_int (fun _ _ => rfl)) (pv 1) (nomark _)))))))),
      (s_ret (s_and (s_isTuple s_var) (s_and (s_op (s_cb (s_cons s_var s_nil) r_len) s_var r_eq) (s_and (s_isStr (s_op s_var s_int r_ix)) (s_op (s_op s_var s_int r_ix) s_var r_eq)))))⟩)
theorem ok_is_numbered (T : Txt K mg a fd) {F_is_word : Fm} (G_is_word : FnG P w K mg base CX0 k a.is_word fd.is_word P_is_word (spG K 3 F_is_word)) {F_is_from_nought : Fm} (G_is_from_nought : FnG P w K mg base CX0 k a.is_from_nought fd.is_from_nought P_is_from_nought (spG K 1 F_is_from_nought)) : FnG P w K mg base CX0 (k + 1) a.is_numbered fd.is_numbered P_is_numbered (spG K 2 (m_is_numbered F_is_word F_is_from_nought)) :=
  fn_ok T.F_is_numbered sc_is_numbered (fun cdv A outer s H E hg hr => ⟨_,
      (pss_one (ps_ret (pe_and (pe_callG G_is_word hg hr rfl T.g_is_word T.F_is_word.kp T.b_is_word .nil pass0 (pa_cons (pv 0) (pa_cons (pv 1) (pa_cons pe_int pa_nil)))) (pe_one (pe_callG G_is_from_nought hg hr rfl T.g_is_from_nought T.F_is_from_nought.kp T.b_is_from_nought .nil pass0 (pa_cons (pe_ix ix_any (pv 0) pe_int (fun _ _ => rfl)) pa_nil)))))),
      (s_ret (s_and (s_call (ag_d s_var (ag_d s_var (ag_d s_int ag_nil))) (al_d (al_d (al_d al_nil)))) (s_call (ag_d (s_op s_var s_int r_ix) ag_nil) (al_d al_nil))))⟩)
theorem ok_is_thing (T : Txt K mg a fd) {F_is_whole : Fm} (G_is_whole : FnG P w K mg base CX0 k a.is_whole fd.is_whole P_is_whole (spG K 1 F_is_whole)) {F_is_word : Fm} (G_is_word : FnG P w K mg base CX0 k a.is_word fd.is_word P_is_word (spG K 3 F_is_word)) {F_is_numbered : Fm} (G_is_numbered : FnG P w K mg base CX0 k a.is_numbered fd.is_numbered P_is_numbered (spG K 2 F_is_numbered)) {F_is_offer : Fm} (G_is_offer : FnG P w K mg base CX0 k a.is_offer fd.is_offer P_is_offer (spG K 1 F_is_offer)) : FnG P w K mg base CX0 (k + 1) a.is_thing fd.is_thing P_is_thing (spG K 1 (m_is_thing F_is_whole F_is_word F_is_numbered F_is_offer)) :=
  fn_ok T.F_is_thing sc_is_thing (fun cdv A outer s H E hg hr => ⟨_,
      (pss_cons (ps_if (PW.pt (pw_or (pt_val (pe_callG G_is_whole hg hr rfl T.g_is_whole T.F_is_whole.kp T.b_is_whole .nil pass0 (pa_cons (pv 0) pa_nil))) (pw_or (pt_val (pe_callG G_is_word hg hr rfl T.g_is_word T.F_is_word.kp T.b_is_word .nil pass0 (pa_cons (pv 0) (pa_cons pe_str (pa_cons pe_int pa_nil))))) (pw_or1 (pt_val (pe_callG G_is_numbered hg hr rfl T.g_is_numbered T.F_is_numbered.kp T.b_is_numbered .nil pass0 (pa_cons (pv 0) (pa_cons pe_str pa_nil)))))))) (pss_one (ps_ret pe_bl)) pss_nil)
      (pss_one (ps_ret (pe_or (pe_callG G_is_numbered hg hr rfl T.g_is_numbered T.F_is_numbered.kp T.b_is_numbered .nil pass0 (pa_cons (pv 0) (pa_cons pe_str pa_nil))) (pe_one (pe_callG G_is_offer hg hr rfl T.g_is_offer T.F_is_offer.kp T.b_is_offer .nil pass0 (pa_cons (pv 0) pa_nil))))))),
      (s_seq (s_if (t_or (t_B (s_call (ag_d s_var ag_nil) (al_d al_nil))) (t_or (t_B (s_call (ag_d s_var (ag_d s_str (ag_d s_int ag_nil))) (al_d (al_d (al_d al_nil))))) (t_B (s_call (ag_d s_var (ag_d s_str ag_nil)) (al_d (al_d al_nil)))))) (s_ret s_bl) s_next)
      (s_ret (s_or (s_call (ag_d s_var (ag_d s_str ag_nil)) (al_d (al_d al_nil))) (s_call (ag_d s_var ag_nil) (al_d al_nil)))))⟩)
theorem ok_are_things (T : Txt K mg a fd) {F_is_thing : Fm} (G_is_thing : FnG P w K mg base CX0 k a.is_thing fd.is_thing P_is_thing (spG K 1 F_is_thing)) : FnG P w K mg base CX0 (k + 1) a.are_things fd.are_things P_are_things (spG K 1 (m_are_things F_is_thing)) :=
  fn_ok T.F_are_things sc_are_things (fun cdv A outer s H E hg hr => ⟨_,
      (pss_one (ps_ret (pe_and (pe_callB call_isi (by rfl) T.n_isinstance bt_isinstance (pa_cons (pv 0) (pa_cons (pe_ty (by rfl) T.n_tuple bt_tuple) pa_nil))) (pe_and (pe_cmpR op_leU (pe_callB call_len (by rfl) T.n_len bt_len (pa_cons (pv 0) pa_nil)) (pe_globE rfl T.c_MOST_THINGS) (nomark _)) (pe_one (pe_callB (cr_all rfl) (by rfl) T.n_all bt_all (pa_cons (pe_lc (own := [("one", 1)]) rfl sc_are_things.nd (pi_any (pv 0)) (blkOk_by (own := [("one", 1)]) (N := N_are_things) (sc := defScope s_are_things) (by decide +kernel)) (fun _ _ _ _ _ => (pg_name (i := 1) sc_are_things.nd rfl (Or.inl rfl))) (fun _ _ _ _ _ => pts_nil) (fun _ _ _ _ _ => (pe_callG G_is_thing hg hr rfl T.g_is_thing T.F_is_thing.kp T.b_is_thing .nil pass0 (pa_cons (pv 1) pa_nil)))) pa_nil))))))),
      (s_ret (s_and (s_isTuple s_var) (s_and (s_op (s_cb (s_cons s_var s_nil) r_len) s_int r_leU) (s_cb (s_cons (s_fr (s_lc (vs := [1]) (i_any s_var) g_name t_yes (s_call (ag_d s_var ag_nil) (al_d al_nil)))) s_nil) r_all))))⟩)
theorem ok_is_offer (T : Txt K mg a fd) {F_is_word : Fm} (G_is_word : FnG P w K mg base CX0 k a.is_word fd.is_word P_is_word (spG K 3 F_is_word)) {F_is_numbered : Fm} (G_is_numbered : FnG P w K mg base CX0 k a.is_numbered fd.is_numbered P_is_numbered (spG K 2 F_is_numbered)) {F_is_thing : Fm} (G_is_thing : FnG P w K mg base CX0 k a.is_thing fd.is_thing P_is_thing (spG K 1 F_is_thing)) {F_is_offer : Fm} (G_is_offer : FnG P w K mg base CX0 k a.is_offer fd.is_offer P_is_offer (spG K 1 F_is_offer)) {F_is_name : Fm} (G_is_name : FnG P w K mg base CX0 k a.is_name fd.is_name P_is_name (spG K 1 F_is_name)) {F_are_things : Fm} (G_are_things : FnG P w K mg base CX0 k a.are_things fd.are_things P_are_things (spG K 1 F_are_things)) : FnG P w K mg base CX0 (k + 1) a.is_offer fd.is_offer P_is_offer (spG K 1 (m_is_offer F_is_word F_is_numbered F_is_thing F_is_offer F_is_name F_are_things)) :=
  fn_ok T.F_is_offer sc_is_offer (fun cdv A outer s H E hg hr => ⟨_,
      (pss_cons (ps_if (PW.pt (pw_or (pt_val (pe_callG G_is_word hg hr rfl T.g_is_word T.F_is_word.kp T.b_is_word .nil pass0 (pa_cons (pv 0) (pa_cons pe_str (pa_cons pe_int pa_nil))))) (pw_or (pt_val (pe_callG G_is_numbered hg hr rfl T.g_is_numbered T.F_is_numbered.kp T.b_is_numbered .nil pass0 (pa_cons (pv 0) (pa_cons pe_str pa_nil)))) (pw_or1 (pt_val (pe_callG G_is_numbered hg hr rfl T.g_is_numbered T.F_is_numbered.kp T.b_is_numbered .nil pass0 (pa_cons (pv 0) (pa_cons pe_str pa_nil)))))))) (pss_one (ps_ret pe_bl)) pss_nil)
      (pss_cons (ps_if (pt_val (pe_callG G_is_word hg hr rfl T.g_is_word T.F_is_word.kp T.b_is_word .nil pass0 (pa_cons (pv 0) (pa_cons pe_str (pa_cons pe_int pa_nil))))) (pss_one (ps_ret (pe_and (pe_callG G_is_numbered hg hr rfl T.g_is_numbered T.F_is_numbered.kp T.b_is_numbered .nil pass0 (pa_cons (pe_ix ix_any (pv 0) pe_int (fun _ _ => rfl)) (pa_cons pe_str pa_nil))) (pe_one (pe_callG G_is_thing hg hr rfl T.g_is_thing T.F_is_thing.kp T.b_is_thing .nil pass0 (pa_cons (pe_ix ix_any (pv 0) pe_int (fun _ _ => rfl)) pa_nil)))))) pss_nil)
      (pss_cons (ps_if (pt_val (pe_callG G_is_word hg hr rfl T.g_is_word T.F_is_word.kp T.b_is_word .nil pass0 (pa_cons (pv 0) (pa_cons pe_str (pa_cons pe_int pa_nil))))) (pss_one (ps_ret (pe_callG G_is_numbered hg hr rfl T.g_is_numbered T.F_is_numbered.kp T.b_is_numbered .nil pass0 (pa_cons (pe_ix ix_any (pv 0) pe_int (fun _ _ => rfl)) (pa_cons pe_str pa_nil))))) pss_nil)
      (pss_cons (ps_if (pt_val (pe_callG G_is_word hg hr rfl T.g_is_word T.F_is_word.kp T.b_is_word .nil pass0 (pa_cons (pv 0) (pa_cons pe_str (pa_cons pe_int pa_nil))))) (pss_one (ps_ret (pe_callG G_is_numbered hg hr rfl T.g_is_numbered T.F_is_numbered.kp T.b_is_numbered .nil pass0 (pa_cons (pe_ix ix_any (pv 0) pe_int (fun _ _ => rfl)) (pa_cons pe_str pa_nil))))) pss_nil)
      (pss_cons (ps_if (pt_val (pe_callG G_is_word hg hr rfl T.g_is_word T.F_is_word.kp T.b_is_word .nil pass0 (pa_cons (pv 0) (pa_cons pe_str (pa_cons pe_int pa_nil))))) (pss_one (ps_ret (pe_callG G_is_thing hg hr rfl T.g_is_thing T.F_is_thing.kp T.b_is_thing .nil pass0 (pa_cons (pe_ix ix_any (pv 0) pe_int (fun _ _ => rfl)) pa_nil)))) pss_nil)
      (pss_cons (ps_if (pt_val (pe_callG G_is_word hg hr rfl T.g_is_word T.F_is_word.kp T.b_is_word .nil pass0 (pa_cons (pv 0) (pa_cons pe_str (pa_cons pe_int pa_nil))))) (pss_cons (ps_set (i := 1) sc_is_offer.nd rfl (Or.inl rfl) (pe_ix ix_any (pv 0) pe_int (fun _ _ => rfl)))
      (pss_one (ps_ret (pe_and (pe_callB call_isi (by rfl) T.n_isinstance bt_isinstance (pa_cons (pv 1) (pa_cons (pe_ty (by rfl) T.n_tuple bt_tuple) pa_nil))) (pe_and (pe_cmpR op_leU (pe_callB call_len (by rfl) T.n_len bt_len (pa_cons (pv 1) pa_nil)) (pe_globE rfl T.c_MOST_OFFERS) (nomark _)) (pe_one (pe_callB (cr_all rfl) (by rfl) T.n_all bt_all (pa_cons (pe_lc (own := [("one", 2)]) rfl sc_is_offer.nd (pi_any (pv 1)) (blkOk_by (own := [("one", 2)]) (N := N_is_offer) (sc := defScope s_is_offer) (by decide +kernel)) (fun _ _ _ _ _ => (pg_name (i := 2) sc_is_offer.nd rfl (Or.inl rfl))) (fun _ _ _ _ _ => pts_nil) (fun _ _ _ _ _ => (pe_callG G_is_offer hg hr rfl T.g_is_offer T.F_is_offer.kp T.b_is_offer .nil pass0 (pa_cons (pv 2) pa_nil)))) pa_nil)))))))) pss_nil)
      (pss_cons (ps_if (pt_val (pe_callG G_is_word hg hr rfl T.g_is_word T.F_is_word.kp T.b_is_word .nil pass0 (pa_cons (pv 0) (pa_cons pe_str (pa_cons pe_int pa_nil))))) (pss_one (ps_ret (pe_and (pe_callG G_is_offer hg hr rfl T.g_is_offer T.F_is_offer.kp T.b_is_offer .nil pass0 (pa_cons (pe_ix ix_any (pv 0) pe_int (fun _ _ => rfl)) pa_nil)) (pe_and (pe_callG G_is_name hg hr rfl T.g_is_name T.F_is_name.kp T.b_is_name .nil pass0 (pa_cons (pe_ix ix_any (pv 0) pe_int (fun _ _ => rfl)) pa_nil)) (pe_one (pe_callG G_are_things hg hr rfl T.g_are_things T.F_are_things.kp T.b_are_things .nil pass0 (pa_cons (pe_ix ix_any (pv 0) pe_int (fun _ _ => rfl)) pa_nil))))))) pss_nil)
      (pss_cons (ps_if (PW.pt (pw_or (pt_val (pe_callG G_is_word hg hr rfl T.g_is_word T.F_is_word.kp T.b_is_word .nil pass0 (pa_cons (pv 0) (pa_cons pe_str (pa_cons pe_int pa_nil))))) (pw_or1 (pt_val (pe_callG G_is_word hg hr rfl T.g_is_word T.F_is_word.kp T.b_is_word .nil pass0 (pa_cons (pv 0) (pa_cons pe_str (pa_cons pe_int pa_nil)))))))) (pss_one (ps_ret (pe_and (pe_callG G_is_name hg hr rfl T.g_is_name T.F_is_name.kp T.b_is_name .nil pass0 (pa_cons (pe_ix ix_any (pv 0) pe_int (fun _ _ => rfl)) pa_nil)) (pe_one (pe_callG G_are_things hg hr rfl T.g_are_things T.F_are_things.kp T.b_are_things .nil pass0 (pa_cons (pe_ix ix_any (pv 0) pe_int (fun _ _ => rfl)) pa_nil)))))) pss_nil)
      (pss_one (ps_ret pe_bl)))))))))),
      (s_seq (s_if (t_or (t_B (s_call (ag_d s_var (ag_d s_str (ag_d s_int ag_nil))) (al_d (al_d (al_d al_nil))))) (t_or (t_B (s_call (ag_d s_var (ag_d s_str ag_nil)) (al_d (al_d al_nil)))) (t_B (s_call (ag_d s_var (ag_d s_str ag_nil)) (al_d (al_d al_nil)))))) (s_ret s_bl) s_next)
      (s_seq (s_if (t_B (s_call (ag_d s_var (ag_d s_str (ag_d s_int ag_nil))) (al_d (al_d (al_d al_nil))))) (s_ret (s_and (s_call (ag_d (s_op s_var s_int r_ix) (ag_d s_str ag_nil)) (al_d (al_d al_nil))) (s_call (ag_d (s_op s_var s_int r_ix) ag_nil) (al_d al_nil)))) s_next)
      (s_seq (s_if (t_B (s_call (ag_d s_var (ag_d s_str (ag_d s_int ag_nil))) (al_d (al_d (al_d al_nil))))) (s_ret (s_call (ag_d (s_op s_var s_int r_ix) (ag_d s_str ag_nil)) (al_d (al_d al_nil)))) s_next)
      (s_seq (s_if (t_B (s_call (ag_d s_var (ag_d s_str (ag_d s_int ag_nil))) (al_d (al_d (al_d al_nil))))) (s_ret (s_call (ag_d (s_op s_var s_int r_ix) (ag_d s_str ag_nil)) (al_d (al_d al_nil)))) s_next)
      (s_seq (s_if (t_B (s_call (ag_d s_var (ag_d s_str (ag_d s_int ag_nil))) (al_d (al_d (al_d al_nil))))) (s_ret (s_call (ag_d (s_op s_var s_int r_ix) ag_nil) (al_d al_nil))) s_next)
      (s_seq (s_if (t_B (s_call (ag_d s_var (ag_d s_str (ag_d s_int ag_nil))) (al_d (al_d (al_d al_nil))))) (s_seq (s_set (s_op s_var s_int r_ix))
      (s_ret (s_and (s_isTuple s_var) (s_and (s_op (s_cb (s_cons s_var s_nil) r_len) s_int r_leU) (s_cb (s_cons (s_fr (s_lc (vs := [2]) (i_any s_var) g_name t_yes (s_call (ag_d s_var ag_nil) (al_d al_nil)))) s_nil) r_all))))) s_next)
      (s_seq (s_if (t_B (s_call (ag_d s_var (ag_d s_str (ag_d s_int ag_nil))) (al_d (al_d (al_d al_nil))))) (s_ret (s_and (s_call (ag_d (s_op s_var s_int r_ix) ag_nil) (al_d al_nil)) (s_and (s_call (ag_d (s_op s_var s_int r_ix) ag_nil) (al_d al_nil)) (s_call (ag_d (s_op s_var s_int r_ix) ag_nil) (al_d al_nil))))) s_next)
      (s_seq (s_if (t_or (t_B (s_call (ag_d s_var (ag_d s_str (ag_d s_int ag_nil))) (al_d (al_d (al_d al_nil))))) (t_B (s_call (ag_d s_var (ag_d s_str (ag_d s_int ag_nil))) (al_d (al_d (al_d al_nil)))))) (s_ret (s_and (s_call (ag_d (s_op s_var s_int r_ix) ag_nil) (al_d al_nil)) (s_call (ag_d (s_op s_var s_int r_ix) ag_nil) (al_d al_nil)))) s_next)
      (s_ret s_bl)))))))))⟩)
theorem ok__law_pool (T : Txt K mg a fd) : FnG P w K mg base CX0 (k + 1) a._law_pool fd._law_pool P__law_pool (spG K 2 (m__law_pool)) :=
  fn_ok T.F__law_pool sc__law_pool (fun cdv A outer s H E hg hr => ⟨_,
      (pss_cons (ps_set (i := 2) sc__law_pool.nd rfl (Or.inl rfl) pe_int)
      (pss_cons (ps_if (pt_cmpR op_ltU (pv 1) (pe_callB call_len (by rfl) T.n_len bt_len (pa_cons (pv 0) pa_nil)) (nomark _)) (pss_one (ps_set (i := 2) sc__law_pool.nd rfl (Or.inl rfl) (pe_ix ix_any (pv 0) (pv 1) (fun _ _ => rfl)))) pss_nil)
      (pss_cons (ps_set (i := 3) sc__law_pool.nd rfl (Or.inl rfl) (pe_callB call_abs (by rfl) T.n_abs bt_abs (pa_cons (pv 2) pa_nil)))
      (pss_cons (ps_set (i := 4) sc__law_pool.nd rfl (Or.inl rfl) (pe_op op_mod (pe_op op_pow (pe_op op_addU (pe_op op_addU (pe_op op_addU (pe_op op_mod (pv 2) pe_int) (pe_op op_mulU (pe_op op_mulU pe_int (pv 1)) (pv 1))) (pe_op op_mulU pe_int (pv 1))) pe_int) pe_int) pe_int))
      (pss_one (ps_ret (pe_lst (pa_cons (pe_op op_mulU (pv 3) (pe_callTy call_intB (by rfl) T.n_int bt_int (pa_cons (pe_cmpR op_ge (pv 3) (pe_op op_pow pe_int pe_int) (nomark _)) pa_nil))) (pa_cons (pv 4) pa_nil))))))))),
      (s_seq (s_set s_int)
      (s_seq (s_if (t_test (s_op s_var (s_cb (s_cons s_var s_nil) r_len) r_ltU)) (s_set (s_op s_var s_var r_ix)) s_next)
      (s_seq (s_set (s_cb (s_cons s_var s_nil) r_abs))
      (s_seq (s_set (s_op (s_op (s_op (s_op (s_op (s_op s_var s_int r_mod) (s_op (s_op s_int s_var r_mulU) s_var r_mulU) r_addU) (s_op s_int s_var r_mulU) r_addU) s_int r_addU) s_int r_pow) s_int r_mod))
      (s_retF (s_lst (s_cons (s_op s_var (s_cb (s_cons (s_op s_var (s_op s_int s_int r_pow) r_ge) s_nil) r_intB) r_mulU) (s_cons s_var s_nil)) (len_cons (len_cons len_nil))))))))⟩)
theorem ok__law_take (T : Txt K mg a fd) : FnG P w K mg base CX0 (k + 1) a._law_take fd._law_take P__law_take (spG K 2 (m__law_take)) :=
  fn_ok T.F__law_take sc__law_take (fun cdv A outer s H E hg hr => ⟨_,
      (pss_cons (ps_if (pt_cmpR op_gt (pe_ix ix_any (pv 0) pe_int (fun _ _ => rfl)) pe_int (nomark _)) (pss_cons (ps_set (i := 2) sc__law_take.nd rfl (Or.inl rfl) (pe_op op_mod (pe_ix ix_any (pv 0) pe_int (fun _ _ => rfl)) (pv 1)))
      (pss_cons (ps_asg (pe_op op_fdiv (pe_ix ix_any (pv 0) pe_int (fun _ _ => rfl)) (pv 1)) (pg_sub (pv 0) pe_int set_list))
      (pss_one (ps_ret (pv 2))))) pss_nil)
      (pss_cons (ps_asg (pe_op op_mod (pe_op op_addU (pe_op op_mulU (pe_ix ix_any (pv 0) pe_int (fun _ _ => rfl)) pe_int) pe_int) pe_int) (pg_sub (pv 0) pe_int set_list))
      (pss_one (ps_ret (pe_op op_mod (pe_op op_fdiv (pe_op op_mod (pe_op op_mulU (pe_ix ix_any (pv 0) pe_int (fun _ _ => rfl)) (pe_ix ix_any (pv 0) pe_int (fun _ _ => rfl))) pe_int) pe_int) (pv 1)))))),
      (s_seq (s_if (t_test (s_op (s_ixO s_int) s_int r_gt)) (s_seq (s_set (s_op (s_ixO s_int) s_var r_mod))
      (s_seq (s_setIx (s_op (s_ixO s_int) s_var r_div) s_int)
      (s_ret s_var))) s_next)
      (s_seq (s_setIx (s_op (s_op (s_op (s_ixO s_int) s_int r_mulU) s_int r_addU) s_int r_mod) s_int)
      (s_ret (s_op (s_op (s_op (s_op (s_ixO s_int) (s_ixO s_int) r_mulU) s_int r_mod) s_int r_div) s_var r_mod))))⟩)
theorem ok__law_whole (T : Txt K mg a fd) : FnG P w K mg base CX0 (k + 1) a._law_whole fd._law_whole P__law_whole (spG K 1 (m__law_whole)) :=
  fn_ok T.F__law_whole sc__law_whole (fun cdv A outer s H E hg hr => ⟨_,
      (pss_one (ps_ret (pe_and (pe_callB call_isi (by rfl) T.n_isinstance bt_isinstance (pa_cons (pv 0) (pa_cons (pe_ty (by rfl) T.n_int bt_int) pa_nil))) (pe_one (pe_not (pe_callB call_isi (by rfl) T.n_isinstance bt_isinstance (pa_cons (pv 0) (pa_cons (pe_ty (by rfl) T.n_bool bt_bool) pa_nil)))))))),
      (s_ret (s_and (s_isInt s_var) (s_not (s_isBool s_var))))⟩)
theorem ok__law_is_name (T : Txt K mg a fd) : FnG P w K mg base CX0 (k + 1) a._law_is_name fd._law_is_name P__law_is_name (spG K 1 (m__law_is_name)) :=
  fn_ok T.F__law_is_name sc__law_is_name (fun cdv A outer s H E hg hr => ⟨_,
      (pss_cons (ps_if (PW.pt (pw_or (pt_not (pt_val (pe_callB call_isi (by rfl) T.n_isinstance bt_isinstance (pa_cons (pv 0) (pa_cons (pe_ty (by rfl) T.n_str bt_str) pa_nil))))) (pw_or (pt_not (pt_chain op_leU op_leU pe_int (pe_callB call_len (by rfl) T.n_len bt_len (pa_cons (pv 0) pa_nil)) pe_int)) (pw_or1 (pt_cmpR (op_eqA hr.units) (pv 0) pe_str (nomark _)))))) (pss_one (ps_ret pe_bl)) pss_nil)
      (pss_one (ps_ret (pe_cmpR (op_eqA hr.units) (pe_lc (own := [("_law_sign", 1)]) rfl sc__law_is_name.nd (pi_any (pv 0)) (blkOk_by (own := [("_law_sign", 1)]) (N := N__law_is_name) (sc := defScope s__law_is_name) (by decide +kernel)) (fun _ _ _ _ _ => (pg_name (i := 1) sc__law_is_name.nd rfl (Or.inl rfl))) (fun _ _ _ _ _ => (pts_one (pt_not (pt_chain op_leU op_leU pe_str (pv 1) pe_str)))) (fun _ _ _ _ _ => (pv 1))) (pe_lst pa_nil) (nomark _))))),
      (s_seq (s_if (t_or (t_not (t_B (s_isStr s_var))) (t_or (t_not (t_test (s_chain s_int (s_cb (s_cons s_var s_nil) r_len) s_int r_leU r_leU))) (t_test (s_op s_var s_str r_eq)))) (s_ret s_bl) s_next)
      (s_ret (s_op (s_fr (s_lc (vs := [1]) (i_any s_var) g_name (t_not (t_test (s_chain s_str s_var s_str r_leU r_leU))) s_var)) (s_fr (s_lst s_nil len_nil)) r_eq)))⟩)
theorem ok__law_has (T : Txt K mg a fd) : FnG P w K mg base CX0 (k + 1) a._law_has fd._law_has P__law_has (spG K 3 (m__law_has)) :=
  fn_ok T.F__law_has sc__law_has (fun cdv A outer s H E hg hr => ⟨_,
      (pss_one (ps_ret (pe_and (pe_callB call_isi (by rfl) T.n_isinstance bt_isinstance (pa_cons (pv 0) (pa_cons (pe_ty (by rfl) T.n_tuple bt_tuple) pa_nil))) (pe_and (pe_cmpR (op_eqA hr.units) (pe_callB call_len (by rfl) T.n_len bt_len (pa_cons (pv 0) pa_nil)) (pv 2) (nomark _)) (pe_and (pe_callB call_isi (by rfl) T.n_isinstance bt_isinstance (pa_cons (pe_ix ix_any (pv 0) pe_int (fun _ _ => rfl)) (pa_cons (pe_ty (by rfl) T.n_str bt_str) pa_nil))) (pe_one (pe_cmpR (op_eqA hr.units) (pe_ix ix_any (pv 0) pe_int (fun _ _ => rfl)) (pv 1) (nomark _)))))))),
      (s_ret (s_and (s_isTuple s_var) (s_and (s_op (s_cb (s_cons s_var s_nil) r_len) s_var r_eq) (s_and (s_isStr (s_op s_var s_int r_ix)) (s_op (s_op s_var s_int r_ix) s_var r_eq)))))⟩)
theorem ok__law_numbered (T : Txt K mg a fd) {F__law_has : Fm} (G__law_has : FnG P w K mg base CX0 k a._law_has fd._law_has P__law_has (spG K 3 F__law_has)) {F__law_whole : Fm} (G__law_whole : FnG P w K mg base CX0 k a._law_whole fd._law_whole P__law_whole (spG K 1 F__law_whole)) : FnG P w K mg base CX0 (k + 1) a._law_numbered fd._law_numbered P__law_numbered (spG K 2 (m__law_numbered F__law_has F__law_whole)) :=
  fn_ok T.F__law_numbered sc__law_numbered (fun cdv A outer s H E hg hr => ⟨_,
      (pss_one (ps_ret (pe_and (pe_callG G__law_has hg hr rfl T.g__law_has T.F__law_has.kp T.b__law_has .nil pass0 (pa_cons (pv 0) (pa_cons (pv 1) (pa_cons pe_int pa_nil)))) (pe_and (pe_callG G__law_whole hg hr rfl T.g__law_whole T.F__law_whole.kp T.b__law_whole .nil pass0 (pa_cons (pe_ix ix_any (pv 0) pe_int (fun _ _ => rfl)) pa_nil)) (pe_one (pe_cmpR op_ge (pe_ix ix_any (pv 0) pe_int (fun _ _ => rfl)) pe_int (nomark _))))))),
      (s_ret (s_and (s_call (ag_d s_var (ag_d s_var (ag_d s_int ag_nil))) (al_d (al_d (al_d al_nil)))) (s_and (s_call (ag_d (s_op s_var s_int r_ix) ag_nil) (al_d al_nil)) (s_op (s_op s_var s_int r_ix) s_int r_ge))))⟩)
theorem ok__law_are (T : Txt K mg a fd) {F__law_is_thing : Fm} (G__law_is_thing : FnG P w K mg base CX0 k a._law_is_thing fd._law_is_thing P__law_is_thing (spG K 1 F__law_is_thing)) : FnG P w K mg base CX0 (k + 1) a._law_are fd._law_are P__law_are (spG K 2 (m__law_are F__law_is_thing)) :=
  fn_ok T.F__law_are sc__law_are (fun cdv A outer s H E hg hr => ⟨_,
      (pss_one (ps_ret (pe_and (pe_callB call_isi (by rfl) T.n_isinstance bt_isinstance (pa_cons (pv 0) (pa_cons (pe_ty (by rfl) T.n_tuple bt_tuple) pa_nil))) (pe_and (pe_cmpR op_leU (pe_callB call_len (by rfl) T.n_len bt_len (pa_cons (pv 0) pa_nil)) (pv 1) (nomark _)) (pe_one (pe_cmpR (op_eqA hr.units) (pe_lc (own := [("_law_one", 2)]) rfl sc__law_are.nd (pi_any (pv 0)) (blkOk_by (own := [("_law_one", 2)]) (N := N__law_are) (sc := defScope s__law_are) (by decide +kernel)) (fun _ _ _ _ _ => (pg_name (i := 2) sc__law_are.nd rfl (Or.inl rfl))) (fun _ _ _ _ _ => (pts_one (pt_not (pt_val (pe_callG G__law_is_thing hg hr rfl T.g__law_is_thing T.F__law_is_thing.kp T.b__law_is_thing .nil pass0 (pa_cons (pv 2) pa_nil)))))) (fun _ _ _ _ _ => (pv 2))) (pe_lst pa_nil) (nomark _))))))),
      (s_ret (s_and (s_isTuple s_var) (s_and (s_op (s_cb (s_cons s_var s_nil) r_len) s_var r_leU) (s_op (s_fr (s_lc (vs := [2]) (i_any s_var) g_name (t_not (t_B (s_call (ag_d s_var ag_nil) (al_d al_nil)))) s_var)) (s_fr (s_lst s_nil len_nil)) r_eq))))⟩)
theorem ok__law_is_thing (T : Txt K mg a fd) {F__law_whole : Fm} (G__law_whole : FnG P w K mg base CX0 k a._law_whole fd._law_whole P__law_whole (spG K 1 F__law_whole)) {F__law_has : Fm} (G__law_has : FnG P w K mg base CX0 k a._law_has fd._law_has P__law_has (spG K 3 F__law_has)) {F__law_numbered : Fm} (G__law_numbered : FnG P w K mg base CX0 k a._law_numbered fd._law_numbered P__law_numbered (spG K 2 F__law_numbered)) {F__law_is_offer : Fm} (G__law_is_offer : FnG P w K mg base CX0 k a._law_is_offer fd._law_is_offer P__law_is_offer (spG K 1 F__law_is_offer)) : FnG P w K mg base CX0 (k + 1) a._law_is_thing fd._law_is_thing P__law_is_thing (spG K 1 (m__law_is_thing F__law_whole F__law_has F__law_numbered F__law_is_offer)) :=
  fn_ok T.F__law_is_thing sc__law_is_thing (fun cdv A outer s H E hg hr => ⟨_,
      (pss_cons (ps_if (PW.pt (pw_or (pt_val (pe_callG G__law_whole hg hr rfl T.g__law_whole T.F__law_whole.kp T.b__law_whole .nil pass0 (pa_cons (pv 0) pa_nil))) (pw_or1 (pt_val (pe_callG G__law_has hg hr rfl T.g__law_has T.F__law_has.kp T.b__law_has .nil pass0 (pa_cons (pv 0) (pa_cons pe_str (pa_cons pe_int pa_nil)))))))) (pss_one (ps_ret pe_bl)) pss_nil)
      (pss_one (ps_ret (pe_or (pe_callG G__law_numbered hg hr rfl T.g__law_numbered T.F__law_numbered.kp T.b__law_numbered .nil pass0 (pa_cons (pv 0) (pa_cons pe_str pa_nil))) (pe_or (pe_callG G__law_numbered hg hr rfl T.g__law_numbered T.F__law_numbered.kp T.b__law_numbered .nil pass0 (pa_cons (pv 0) (pa_cons pe_str pa_nil))) (pe_one (pe_callG G__law_is_offer hg hr rfl T.g__law_is_offer T.F__law_is_offer.kp T.b__law_is_offer .nil pass0 (pa_cons (pv 0) pa_nil)))))))),
      (s_seq (s_if (t_or (t_B (s_call (ag_d s_var ag_nil) (al_d al_nil))) (t_B (s_call (ag_d s_var (ag_d s_str (ag_d s_int ag_nil))) (al_d (al_d (al_d al_nil)))))) (s_ret s_bl) s_next)
      (s_ret (s_or (s_call (ag_d s_var (ag_d s_str ag_nil)) (al_d (al_d al_nil))) (s_or (s_call (ag_d s_var (ag_d s_str ag_nil)) (al_d (al_d al_nil))) (s_call (ag_d s_var ag_nil) (al_d al_nil))))))⟩)
theorem ok__law_is_offer (T : Txt K mg a fd) {F__law_has : Fm} (G__law_has : FnG P w K mg base CX0 k a._law_has fd._law_has P__law_has (spG K 3 F__law_has)) {F__law_numbered : Fm} (G__law_numbered : FnG P w K mg base CX0 k a._law_numbered fd._law_numbered P__law_numbered (spG K 2 F__law_numbered)) {F__law_is_thing : Fm} (G__law_is_thing : FnG P w K mg base CX0 k a._law_is_thing fd._law_is_thing P__law_is_thing (spG K 1 F__law_is_thing)) {F__law_is_offer : Fm} (G__law_is_offer : FnG P w K mg base CX0 k a._law_is_offer fd._law_is_offer P__law_is_offer (spG K 1 F__law_is_offer)) {F__law_is_name : Fm} (G__law_is_name : FnG P w K mg base CX0 k a._law_is_name fd._law_is_name P__law_is_name (spG K 1 F__law_is_name)) {F__law_are : Fm} (G__law_are : FnG P w K mg base CX0 k a._law_are fd._law_are P__law_are (spG K 2 F__law_are)) : FnG P w K mg base CX0 (k + 1) a._law_is_offer fd._law_is_offer P__law_is_offer (spG K 1 (m__law_is_offer F__law_has F__law_numbered F__law_is_thing F__law_is_offer F__law_is_name F__law_are)) :=
  fn_ok T.F__law_is_offer sc__law_is_offer (fun cdv A outer s H E hg hr => ⟨_,
      (pss_cons (ps_if (PW.pt (pw_or (pt_val (pe_callG G__law_has hg hr rfl T.g__law_has T.F__law_has.kp T.b__law_has .nil pass0 (pa_cons (pv 0) (pa_cons pe_str (pa_cons pe_int pa_nil))))) (pw_or (pt_val (pe_callG G__law_numbered hg hr rfl T.g__law_numbered T.F__law_numbered.kp T.b__law_numbered .nil pass0 (pa_cons (pv 0) (pa_cons pe_str pa_nil)))) (pw_or1 (pt_val (pe_callG G__law_numbered hg hr rfl T.g__law_numbered T.F__law_numbered.kp T.b__law_numbered .nil pass0 (pa_cons (pv 0) (pa_cons pe_str pa_nil)))))))) (pss_one (ps_ret pe_bl)) pss_nil)
      (pss_cons (ps_if (pt_val (pe_callG G__law_has hg hr rfl T.g__law_has T.F__law_has.kp T.b__law_has .nil pass0 (pa_cons (pv 0) (pa_cons pe_str (pa_cons pe_int pa_nil))))) (pss_one (ps_ret (pe_and (pe_callG G__law_numbered hg hr rfl T.g__law_numbered T.F__law_numbered.kp T.b__law_numbered .nil pass0 (pa_cons (pe_ix ix_any (pv 0) pe_int (fun _ _ => rfl)) (pa_cons pe_str pa_nil))) (pe_one (pe_callG G__law_is_thing hg hr rfl T.g__law_is_thing T.F__law_is_thing.kp T.b__law_is_thing .nil pass0 (pa_cons (pe_ix ix_any (pv 0) pe_int (fun _ _ => rfl)) pa_nil)))))) pss_nil)
      (pss_cons (ps_if (PW.pt (pw_or (pt_val (pe_callG G__law_has hg hr rfl T.g__law_has T.F__law_has.kp T.b__law_has .nil pass0 (pa_cons (pv 0) (pa_cons pe_str (pa_cons pe_int pa_nil))))) (pw_or1 (pt_val (pe_callG G__law_has hg hr rfl T.g__law_has T.F__law_has.kp T.b__law_has .nil pass0 (pa_cons (pv 0) (pa_cons pe_str (pa_cons pe_int pa_nil)))))))) (pss_one (ps_ret (pe_callG G__law_numbered hg hr rfl T.g__law_numbered T.F__law_numbered.kp T.b__law_numbered .nil pass0 (pa_cons (pe_ix ix_any (pv 0) pe_int (fun _ _ => rfl)) (pa_cons (pe_ix ix_any (pe_lst (pa_cons pe_str (pa_cons pe_str pa_nil))) (pe_callTy call_intB (by rfl) T.n_int bt_int (pa_cons (pe_cmpR (op_eqA hr.units) (pe_ix ix_any (pv 0) pe_int (fun _ _ => rfl)) pe_str (nomark _)) pa_nil)) (fun _ _ => rfl)) pa_nil))))) pss_nil)
      (pss_cons (ps_if (pt_val (pe_callG G__law_has hg hr rfl T.g__law_has T.F__law_has.kp T.b__law_has .nil pass0 (pa_cons (pv 0) (pa_cons pe_str (pa_cons pe_int pa_nil))))) (pss_one (ps_ret (pe_callG G__law_is_thing hg hr rfl T.g__law_is_thing T.F__law_is_thing.kp T.b__law_is_thing .nil pass0 (pa_cons (pe_ix ix_any (pv 0) pe_int (fun _ _ => rfl)) pa_nil)))) pss_nil)
      (pss_cons (ps_if (pt_val (pe_callG G__law_has hg hr rfl T.g__law_has T.F__law_has.kp T.b__law_has .nil pass0 (pa_cons (pv 0) (pa_cons pe_str (pa_cons pe_int pa_nil))))) (pss_cons (ps_if (PW.pt (pw_or (pt_not (pt_val (pe_callB call_isi (by rfl) T.n_isinstance bt_isinstance (pa_cons (pe_ix ix_any (pv 0) pe_int (fun _ _ => rfl)) (pa_cons (pe_ty (by rfl) T.n_tuple bt_tuple) pa_nil))))) (pw_or1 (pt_cmpR op_gt (pe_callB call_len (by rfl) T.n_len bt_len (pa_cons (pe_ix ix_any (pv 0) pe_int (fun _ _ => rfl)) pa_nil)) pe_int (nomark _))))) (pss_one (ps_ret pe_bl)) pss_nil)
      (pss_one (ps_ret (pe_cmpR (op_eqA hr.units) (pe_lc (own := [("_law_one", 1)]) rfl sc__law_is_offer.nd (pi_any (pe_ix ix_any (pv 0) pe_int (fun _ _ => rfl))) (blkOk_by (own := [("_law_one", 1)]) (N := N__law_is_offer) (sc := defScope s__law_is_offer) (by decide +kernel)) (fun _ _ _ _ _ => (pg_name (i := 1) sc__law_is_offer.nd rfl (Or.inl rfl))) (fun _ _ _ _ _ => (pts_one (pt_not (pt_val (pe_callG G__law_is_offer hg hr rfl T.g__law_is_offer T.F__law_is_offer.kp T.b__law_is_offer .nil pass0 (pa_cons (pv 1) pa_nil)))))) (fun _ _ _ _ _ => (pv 1))) (pe_lst pa_nil) (nomark _))))) pss_nil)
      (pss_cons (ps_if (pt_val (pe_callG G__law_has hg hr rfl T.g__law_has T.F__law_has.kp T.b__law_has .nil pass0 (pa_cons (pv 0) (pa_cons pe_str (pa_cons pe_int pa_nil))))) (pss_one (ps_ret (pe_and (pe_callG G__law_is_offer hg hr rfl T.g__law_is_offer T.F__law_is_offer.kp T.b__law_is_offer .nil pass0 (pa_cons (pe_ix ix_any (pv 0) pe_int (fun _ _ => rfl)) pa_nil)) (pe_and (pe_callG G__law_is_name hg hr rfl T.g__law_is_name T.F__law_is_name.kp T.b__law_is_name .nil pass0 (pa_cons (pe_ix ix_any (pv 0) pe_int (fun _ _ => rfl)) pa_nil)) (pe_one (pe_callG G__law_are hg hr rfl T.g__law_are T.F__law_are.kp T.b__law_are .nil pass0 (pa_cons (pe_ix ix_any (pv 0) pe_int (fun _ _ => rfl)) (pa_cons pe_int pa_nil)))))))) pss_nil)
      (pss_cons (ps_if (PW.pt (pw_or (pt_val (pe_callG G__law_has hg hr rfl T.g__law_has T.F__law_has.kp T.b__law_has .nil pass0 (pa_cons (pv 0) (pa_cons pe_str (pa_cons pe_int pa_nil))))) (pw_or1 (pt_val (pe_callG G__law_has hg hr rfl T.g__law_has T.F__law_has.kp T.b__law_has .nil pass0 (pa_cons (pv 0) (pa_cons pe_str (pa_cons pe_int pa_nil)))))))) (pss_one (ps_ret (pe_and (pe_callG G__law_is_name hg hr rfl T.g__law_is_name T.F__law_is_name.kp T.b__law_is_name .nil pass0 (pa_cons (pe_ix ix_any (pv 0) pe_int (fun _ _ => rfl)) pa_nil)) (pe_one (pe_callG G__law_are hg hr rfl T.g__law_are T.F__law_are.kp T.b__law_are .nil pass0 (pa_cons (pe_ix ix_any (pv 0) pe_int (fun _ _ => rfl)) (pa_cons pe_int pa_nil))))))) pss_nil)
      (pss_one (ps_ret pe_bl))))))))),
      (s_seq (s_if (t_or (t_B (s_call (ag_d s_var (ag_d s_str (ag_d s_int ag_nil))) (al_d (al_d (al_d al_nil))))) (t_or (t_B (s_call (ag_d s_var (ag_d s_str ag_nil)) (al_d (al_d al_nil)))) (t_B (s_call (ag_d s_var (ag_d s_str ag_nil)) (al_d (al_d al_nil)))))) (s_ret s_bl) s_next)
      (s_seq (s_if (t_B (s_call (ag_d s_var (ag_d s_str (ag_d s_int ag_nil))) (al_d (al_d (al_d al_nil))))) (s_ret (s_and (s_call (ag_d (s_op s_var s_int r_ix) (ag_d s_str ag_nil)) (al_d (al_d al_nil))) (s_call (ag_d (s_op s_var s_int r_ix) ag_nil) (al_d al_nil)))) s_next)
      (s_seq (s_if (t_or (t_B (s_call (ag_d s_var (ag_d s_str (ag_d s_int ag_nil))) (al_d (al_d (al_d al_nil))))) (t_B (s_call (ag_d s_var (ag_d s_str (ag_d s_int ag_nil))) (al_d (al_d (al_d al_nil)))))) (s_ret (s_call (ag_d (s_op s_var s_int r_ix) (ag_d (s_op (s_fr (s_lst (s_cons s_str (s_cons s_str s_nil)) (len_cons (len_cons len_nil)))) (s_cb (s_cons (s_op (s_op s_var s_int r_ix) s_str r_eq) s_nil) r_intB) r_ix) ag_nil)) (al_d (al_d al_nil)))) s_next)
      (s_seq (s_if (t_B (s_call (ag_d s_var (ag_d s_str (ag_d s_int ag_nil))) (al_d (al_d (al_d al_nil))))) (s_ret (s_call (ag_d (s_op s_var s_int r_ix) ag_nil) (al_d al_nil))) s_next)
      (s_seq (s_if (t_B (s_call (ag_d s_var (ag_d s_str (ag_d s_int ag_nil))) (al_d (al_d (al_d al_nil))))) (s_seq (s_if (t_or (t_not (t_B (s_isTuple (s_op s_var s_int r_ix)))) (t_test (s_op (s_cb (s_cons (s_op s_var s_int r_ix) s_nil) r_len) s_int r_gt))) (s_ret s_bl) s_next)
      (s_ret (s_op (s_fr (s_lc (vs := [1]) (i_any (s_op s_var s_int r_ix)) g_name (t_not (t_B (s_call (ag_d s_var ag_nil) (al_d al_nil)))) s_var)) (s_fr (s_lst s_nil len_nil)) r_eq))) s_next)
      (s_seq (s_if (t_B (s_call (ag_d s_var (ag_d s_str (ag_d s_int ag_nil))) (al_d (al_d (al_d al_nil))))) (s_ret (s_and (s_call (ag_d (s_op s_var s_int r_ix) ag_nil) (al_d al_nil)) (s_and (s_call (ag_d (s_op s_var s_int r_ix) ag_nil) (al_d al_nil)) (s_call (ag_d (s_op s_var s_int r_ix) (ag_d s_int ag_nil)) (al_d (al_d al_nil)))))) s_next)
      (s_seq (s_if (t_or (t_B (s_call (ag_d s_var (ag_d s_str (ag_d s_int ag_nil))) (al_d (al_d (al_d al_nil))))) (t_B (s_call (ag_d s_var (ag_d s_str (ag_d s_int ag_nil))) (al_d (al_d (al_d al_nil)))))) (s_ret (s_and (s_call (ag_d (s_op s_var s_int r_ix) ag_nil) (al_d al_nil)) (s_call (ag_d (s_op s_var s_int r_ix) (ag_d s_int ag_nil)) (al_d (al_d al_nil))))) s_next)
      (s_ret s_bl))))))))⟩)
theorem ok__law_number (T : Txt K mg a fd) {F__law_take : Fm} (G__law_take : FnG P w K mg base CX0 k a._law_take fd._law_take P__law_take (spG K 2 F__law_take)) : FnG P w K mg base CX0 (k + 1) a._law_number fd._law_number P__law_number (spG K 1 (m__law_number F__law_take)) :=
  fn_ok T.F__law_number sc__law_number (fun cdv A outer s H E hg hr => ⟨_,
      (pss_one (ps_ret (pe_ix ix_any (pe_lst (pa_cons pe_int (pa_cons pe_int (pa_cons pe_int (pa_cons pe_int (pa_cons pe_int (pa_cons (pe_op op_pow pe_int pe_int) (pa_cons (pe_op op_addU (pe_op op_pow pe_int pe_int) (pe_callG G__law_take hg hr rfl T.g__law_take T.F__law_take.kp T.b__law_take .nil pass0 (pa_cons (pv 0) (pa_cons pe_int pa_nil)))) pa_nil)))))))) (pe_callG G__law_take hg hr rfl T.g__law_take T.F__law_take.kp T.b__law_take .nil pass0 (pa_cons (pv 0) (pa_cons pe_int pa_nil))) (fun _ _ => rfl)))),
      (s_ret (s_op (s_fr (s_lst (s_cons s_int (s_cons s_int (s_cons s_int (s_cons s_int (s_cons s_int (s_cons (s_op s_int s_int r_pow) (s_cons (s_op (s_op s_int s_int r_pow) (s_call (ag_v (ag_d s_int ag_nil)) (al_v (al_d al_nil))) r_addU) s_nil))))))) (len_cons (len_cons (len_cons (len_cons (len_cons (len_cons (len_cons len_nil))))))))) (s_call (ag_v (ag_d s_int ag_nil)) (al_v (al_d al_nil))) r_ix))⟩)
theorem ok__law_drawn_thing (T : Txt K mg a fd) {F__law_take : Fm} (G__law_take : FnG P w K mg base CX0 k a._law_take fd._law_take P__law_take (spG K 2 F__law_take)) {F__law_number : Fm} (G__law_number : FnG P w K mg base CX0 k a._law_number fd._law_number P__law_number (spG K 1 F__law_number)) {F__law_drawn_offer : Fm} (G__law_drawn_offer : FnG P w K mg base CX0 k a._law_drawn_offer fd._law_drawn_offer P__law_drawn_offer (spG K 2 F__law_drawn_offer)) : FnG P w K mg base CX0 (k + 1) a._law_drawn_thing fd._law_drawn_thing P__law_drawn_thing (spG K 2 (m__law_drawn_thing F__law_take F__law_number F__law_drawn_offer)) :=
  fn_ok T.F__law_drawn_thing sc__law_drawn_thing (fun cdv A outer s H E hg hr => ⟨_,
      (pss_cons (ps_set (i := 2) sc__law_drawn_thing.nd rfl (Or.inl rfl) (pe_callG G__law_take hg hr rfl T.g__law_take T.F__law_take.kp T.b__law_take .nil pass0 (pa_cons (pv 0) (pa_cons pe_int pa_nil))))
      (pss_cons (ps_set (i := 3) sc__law_drawn_thing.nd rfl (Or.inl rfl) (pe_callG G__law_number hg hr rfl T.g__law_number T.F__law_number.kp T.b__law_number .nil pass0 (pa_cons (pv 0) pa_nil)))
      (pss_cons (ps_if (pt_cmpR op_ltU (pv 2) pe_int (nomark _)) (pss_one (ps_ret (pe_ix ix_any (pe_lst (pa_cons (pv 3) (pa_cons (pe_op op_sub pe_int (pv 3)) (pa_cons pe_int pa_nil)))) (pv 2) (fun _ _ => rfl)))) pss_nil)
      (pss_cons (ps_if (pt_cmpR op_ltU (pv 2) pe_int (nomark _)) (pss_one (ps_ret (pe_ix ix_any (pe_lst (pa_cons (pe_tup (pa_cons pe_str pa_nil)) (pa_cons (pe_tup (pa_cons pe_str (pa_cons (pv 3) pa_nil))) (pa_cons (pe_tup (pa_cons pe_str (pa_cons (pv 3) pa_nil))) pa_nil)))) (pe_op op_sub (pv 2) pe_int) (fun _ _ => rfl)))) pss_nil)
      (pss_one (ps_ret (pe_callG G__law_drawn_offer hg hr rfl T.g__law_drawn_offer T.F__law_drawn_offer.kp T.b__law_drawn_offer .nil pass0 (pa_cons (pv 0) (pa_cons (pv 1) pa_nil))))))))),
      (s_seq (s_set (s_call (ag_v (ag_d s_int ag_nil)) (al_v (al_d al_nil))))
      (s_seq (s_set (s_call (ag_v ag_nil) (al_v al_nil)))
      (s_seq (s_if (t_test (s_op s_var s_int r_ltU)) (s_ret (s_op (s_fr (s_lst (s_cons s_var (s_cons (s_op s_int s_var r_sub) (s_cons s_int s_nil))) (len_cons (len_cons (len_cons len_nil))))) s_var r_ix)) s_next)
      (s_seq (s_if (t_test (s_op s_var s_int r_ltU)) (s_ret (s_op (s_fr (s_lst (s_cons (s_tup (s_cons s_str s_nil) (len_cons len_nil)) (s_cons (s_tup (s_cons s_str (s_cons s_var s_nil)) (len_cons (len_cons len_nil))) (s_cons (s_tup (s_cons s_str (s_cons s_var s_nil)) (len_cons (len_cons len_nil))) s_nil))) (len_cons (len_cons (len_cons len_nil))))) (s_op s_var s_int r_sub) r_ix)) s_next)
      (s_ret (s_call (ag_v (ag_d s_var ag_nil)) (al_v (al_d al_nil))))))))⟩)
theorem ok__law_drawn_things (T : Txt K mg a fd) {F__law_drawn_thing : Fm} (G__law_drawn_thing : FnG P w K mg base CX0 k a._law_drawn_thing fd._law_drawn_thing P__law_drawn_thing (spG K 2 F__law_drawn_thing)) {F__law_take : Fm} (G__law_take : FnG P w K mg base CX0 k a._law_take fd._law_take P__law_take (spG K 2 F__law_take)) : FnG P w K mg base CX0 (k + 1) a._law_drawn_things fd._law_drawn_things P__law_drawn_things (spG K 2 (m__law_drawn_things F__law_drawn_thing F__law_take)) :=
  fn_ok T.F__law_drawn_things sc__law_drawn_things (fun cdv A outer s H E hg hr => ⟨_,
      (pss_one (ps_ret (pe_callTy call_tuple_of (by rfl) T.n_tuple bt_tuple (pa_cons (pe_lc (own := [("_law_turn", 2)]) rfl sc__law_drawn_things.nd (pi_range1 (by rfl) T.n_range (pa_cons (pe_callG G__law_take hg hr rfl T.g__law_take T.F__law_take.kp T.b__law_take .nil pass0 (pa_cons (pv 0) (pa_cons pe_int pa_nil))) pa_nil)) (blkOk_by (own := [("_law_turn", 2)]) (N := N__law_drawn_things) (sc := defScope s__law_drawn_things) (by decide +kernel)) (fun _ _ _ _ _ => (pg_name (i := 2) sc__law_drawn_things.nd rfl (Or.inl rfl))) (fun _ _ _ _ _ => pts_nil) (fun _ _ _ _ _ => (pe_callG G__law_drawn_thing hg hr rfl T.g__law_drawn_thing T.F__law_drawn_thing.kp T.b__law_drawn_thing .nil pass0 (pa_cons (pv 0) (pa_cons (pv 1) pa_nil))))) pa_nil)))),
      (s_ret (s_cb (s_cons (s_fr (s_lc (vs := [2]) (i_range1 (s_cons (s_call (ag_v (ag_d s_int ag_nil)) (al_v (al_d al_nil))) s_nil)) g_name t_yes (s_call (ag_v (ag_d s_var ag_nil)) (al_v (al_d al_nil))))) s_nil) r_tuple))⟩)
theorem ok__law_drawn_offer (T : Txt K mg a fd) {F__law_take : Fm} (G__law_take : FnG P w K mg base CX0 k a._law_take fd._law_take P__law_take (spG K 2 F__law_take)) {F__law_number : Fm} (G__law_number : FnG P w K mg base CX0 k a._law_number fd._law_number P__law_number (spG K 1 F__law_number)) {F__law_drawn_things : Fm} (G__law_drawn_things : FnG P w K mg base CX0 k a._law_drawn_things fd._law_drawn_things P__law_drawn_things (spG K 2 F__law_drawn_things)) {F__law_drawn_thing : Fm} (G__law_drawn_thing : FnG P w K mg base CX0 k a._law_drawn_thing fd._law_drawn_thing P__law_drawn_thing (spG K 2 F__law_drawn_thing)) {F__law_drawn_offer : Fm} (G__law_drawn_offer : FnG P w K mg base CX0 k a._law_drawn_offer fd._law_drawn_offer P__law_drawn_offer (spG K 2 F__law_drawn_offer)) : FnG P w K mg base CX0 (k + 1) a._law_drawn_offer fd._law_drawn_offer P__law_drawn_offer (spG K 2 (m__law_drawn_offer F__law_take F__law_number F__law_drawn_things F__law_drawn_thing F__law_drawn_offer)) :=
  fn_ok T.F__law_drawn_offer sc__law_drawn_offer (fun cdv A outer s H E hg hr => ⟨_,
      (pss_cons (ps_set (i := 2) sc__law_drawn_offer.nd rfl (Or.inl rfl) (pe_callG G__law_take hg hr rfl T.g__law_take T.F__law_take.kp T.b__law_take .nil pass0 (pa_cons (pv 0) (pa_cons pe_int pa_nil))))
      (pss_cons (ps_set (i := 3) sc__law_drawn_offer.nd rfl (Or.inl rfl) (pe_callG G__law_number hg hr rfl T.g__law_number T.F__law_number.kp T.b__law_number .nil pass0 (pa_cons (pv 0) pa_nil)))
      (pss_cons (ps_if (PW.pt (pw_or (pt_cmpR op_ltU (pv 1) pe_int (nomark _)) (pw_or1 (pt_cmpR op_ltU (pv 2) pe_int (nomark _))))) (pss_cons (ps_set (i := 4) sc__law_drawn_offer.nd rfl (Or.inl rfl) (pe_lst (pa_cons (pe_tup (pa_cons pe_str pa_nil)) (pa_cons (pe_tup (pa_cons pe_str (pa_cons (pv 3) pa_nil))) (pa_cons (pe_tup (pa_cons pe_str (pa_cons (pv 3) pa_nil))) (pa_cons (pe_tup (pa_cons pe_str (pa_cons (pe_tup (pa_cons pe_str (pa_cons (pv 3) pa_nil))) pa_nil))) pa_nil))))))
      (pss_one (ps_ret (pe_ix ix_any (pe_op op_addU (pv 4) (pe_lst (pa_cons (pe_tup (pa_cons pe_str (pa_cons (pe_tup (pa_cons pe_str (pa_cons (pv 3) pa_nil))) pa_nil))) pa_nil))) (pe_op op_mod (pv 2) pe_int) (fun _ _ => rfl))))) pss_nil)
      (pss_cons (ps_if (pt_cmpR (op_eqA hr.units) (pv 2) pe_int (nomark _)) (pss_one (ps_ret (pe_tup (pa_cons pe_str (pa_cons (pe_tup (pa_cons pe_str (pa_cons (pv 3) pa_nil))) (pa_cons (pe_callG G__law_drawn_thing hg hr rfl T.g__law_drawn_thing T.F__law_drawn_thing.kp T.b__law_drawn_thing .nil pass0 (pa_cons (pv 0) (pa_cons (pe_op op_sub (pv 1) pe_int) pa_nil))) pa_nil)))))) pss_nil)
      (pss_cons (ps_if (pt_cmpR (op_eqA hr.units) (pv 2) pe_int (nomark _)) (pss_one (ps_ret (pe_tup (pa_cons pe_str (pa_cons (pe_callG G__law_drawn_thing hg hr rfl T.g__law_drawn_thing T.F__law_drawn_thing.kp T.b__law_drawn_thing .nil pass0 (pa_cons (pv 0) (pa_cons (pe_op op_sub (pv 1) pe_int) pa_nil))) pa_nil))))) pss_nil)
      (pss_cons (ps_if (pt_cmpR op_ltU (pv 2) pe_int (nomark _)) (pss_one (ps_ret (pe_tup (pa_cons pe_str (pa_cons (pe_callTy call_tuple_of (by rfl) T.n_tuple bt_tuple (pa_cons (pe_lc (own := [("_law_turn", 6)]) rfl sc__law_drawn_offer.nd (pi_range1 (by rfl) T.n_range (pa_cons (pe_callG G__law_take hg hr rfl T.g__law_take T.F__law_take.kp T.b__law_take .nil pass0 (pa_cons (pv 0) (pa_cons pe_int pa_nil))) pa_nil)) (blkOk_by (own := [("_law_turn", 6)]) (N := N__law_drawn_offer) (sc := defScope s__law_drawn_offer) (by decide +kernel)) (fun _ _ _ _ _ => (pg_name (i := 6) sc__law_drawn_offer.nd rfl (Or.inl rfl))) (fun _ _ _ _ _ => pts_nil) (fun _ _ _ _ _ => (pe_callG G__law_drawn_offer hg hr rfl T.g__law_drawn_offer T.F__law_drawn_offer.kp T.b__law_drawn_offer .nil pass0 (pa_cons (pv 0) (pa_cons (pe_op op_sub (pv 1) pe_int) pa_nil))))) pa_nil)) pa_nil))))) pss_nil)
      (pss_cons (ps_set (i := 5) sc__law_drawn_offer.nd rfl (Or.inl rfl) (pe_ix ix_any (pe_lst (pa_cons pe_str (pa_cons pe_str (pa_cons pe_str (pa_cons pe_str pa_nil))))) (pe_callG G__law_take hg hr rfl T.g__law_take T.F__law_take.kp T.b__law_take .nil pass0 (pa_cons (pv 0) (pa_cons pe_int pa_nil))) (fun _ _ => rfl)))
      (pss_cons (ps_set (i := 4) sc__law_drawn_offer.nd rfl (Or.inl rfl) (pe_callG G__law_drawn_things hg hr rfl T.g__law_drawn_things T.F__law_drawn_things.kp T.b__law_drawn_things .nil pass0 (pa_cons (pv 0) (pa_cons (pe_op op_sub (pv 1) pe_int) pa_nil))))
      (pss_cons (ps_if (pt_cmpR (op_eqA hr.units) (pv 2) pe_int (nomark _)) (pss_one (ps_ret (pe_tup (pa_cons pe_str (pa_cons (pe_callG G__law_drawn_offer hg hr rfl T.g__law_drawn_offer T.F__law_drawn_offer.kp T.b__law_drawn_offer .nil pass0 (pa_cons (pv 0) (pa_cons (pe_op op_sub (pv 1) pe_int) pa_nil))) (pa_cons (pv 5) (pa_cons (pv 4) pa_nil))))))) pss_nil)
      (pss_one (ps_ret (pe_tup (pa_cons (pe_ix ix_any (pe_lst (pa_cons pe_str (pa_cons pe_str pa_nil))) (pe_op op_sub (pv 2) pe_int) (fun _ _ => rfl)) (pa_cons (pv 5) (pa_cons (pv 4) pa_nil))))))))))))))),
      (s_seq (s_set (s_call (ag_v (ag_d s_int ag_nil)) (al_v (al_d al_nil))))
      (s_seq (s_set (s_call (ag_v ag_nil) (al_v al_nil)))
      (s_seq (s_if (t_or (t_test (s_op s_var s_int r_ltU)) (t_test (s_op s_var s_int r_ltU))) (s_seq (s_set (s_fr (s_lst (s_cons (s_tup (s_cons s_str s_nil) (len_cons len_nil)) (s_cons (s_tup (s_cons s_str (s_cons s_var s_nil)) (len_cons (len_cons len_nil))) (s_cons (s_tup (s_cons s_str (s_cons s_var s_nil)) (len_cons (len_cons len_nil))) (s_cons (s_tup (s_cons s_str (s_cons (s_tup (s_cons s_str (s_cons s_var s_nil)) (len_cons (len_cons len_nil))) s_nil)) (len_cons (len_cons len_nil))) s_nil)))) (len_cons (len_cons (len_cons (len_cons len_nil)))))))
      (s_ret (s_op (s_fr (s_opF s_var (s_fr (s_lst (s_cons (s_tup (s_cons s_str (s_cons (s_tup (s_cons s_str (s_cons s_var s_nil)) (len_cons (len_cons len_nil))) s_nil)) (len_cons (len_cons len_nil))) s_nil) (len_cons len_nil))) r_addF)) (s_op s_var s_int r_mod) r_ix))) s_next)
      (s_seq (s_if (t_test (s_op s_var s_int r_eq)) (s_ret (s_tup (s_cons s_str (s_cons (s_tup (s_cons s_str (s_cons s_var s_nil)) (len_cons (len_cons len_nil))) (s_cons (s_call (ag_v (ag_d (s_op s_var s_int r_sub) ag_nil)) (al_v (al_d al_nil))) s_nil))) (len_cons (len_cons (len_cons len_nil))))) s_next)
      (s_seq (s_if (t_test (s_op s_var s_int r_eq)) (s_ret (s_tup (s_cons s_str (s_cons (s_call (ag_v (ag_d (s_op s_var s_int r_sub) ag_nil)) (al_v (al_d al_nil))) s_nil)) (len_cons (len_cons len_nil)))) s_next)
      (s_seq (s_if (t_test (s_op s_var s_int r_ltU)) (s_ret (s_tup (s_cons s_str (s_cons (s_cb (s_cons (s_fr (s_lc (vs := [6]) (i_range1 (s_cons (s_call (ag_v (ag_d s_int ag_nil)) (al_v (al_d al_nil))) s_nil)) g_name t_yes (s_call (ag_v (ag_d (s_op s_var s_int r_sub) ag_nil)) (al_v (al_d al_nil))))) s_nil) r_tuple) s_nil)) (len_cons (len_cons len_nil)))) s_next)
      (s_seq (s_set (s_op (s_fr (s_lst (s_cons s_str (s_cons s_str (s_cons s_str (s_cons s_str s_nil)))) (len_cons (len_cons (len_cons (len_cons len_nil)))))) (s_call (ag_v (ag_d s_int ag_nil)) (al_v (al_d al_nil))) r_ix))
      (s_seq (s_set (s_call (ag_v (ag_d (s_op s_var s_int r_sub) ag_nil)) (al_v (al_d al_nil))))
      (s_seq (s_if (t_test (s_op s_var s_int r_eq)) (s_ret (s_tup (s_cons s_str (s_cons (s_call (ag_v (ag_d (s_op s_var s_int r_sub) ag_nil)) (al_v (al_d al_nil))) (s_cons s_var (s_cons s_var s_nil)))) (len_cons (len_cons (len_cons (len_cons len_nil)))))) s_next)
      (s_ret (s_tup (s_cons (s_op (s_fr (s_lst (s_cons s_str (s_cons s_str s_nil)) (len_cons (len_cons len_nil)))) (s_op s_var s_int r_sub) r_ix) (s_cons s_var (s_cons s_var s_nil))) (len_cons (len_cons (len_cons len_nil))))))))))))))⟩)
theorem ok__law_odd (T : Txt K mg a fd) {F__law_take : Fm} (G__law_take : FnG P w K mg base CX0 k a._law_take fd._law_take P__law_take (spG K 2 F__law_take)) : FnG P w K mg base CX0 (k + 1) a._law_odd fd._law_odd P__law_odd (spG K 1 (m__law_odd F__law_take)) :=
  fn_ok T.F__law_odd sc__law_odd (fun cdv A outer s H E hg hr => ⟨_,
      (pss_cons (ps_set (i := 1) sc__law_odd.nd rfl (Or.inl rfl) (pe_lst (pa_cons pe_non (pa_cons (pe_un un_neg pe_int) (pa_cons pe_bl (pa_cons pe_str (pa_cons pe_str (pa_cons pe_str (pa_cons (pe_tup (pa_cons pe_str pa_nil)) (pa_cons (pe_tup (pa_cons pe_str (pa_cons pe_int pa_nil))) (pa_cons (pe_tup (pa_cons pe_str pa_nil)) (pa_cons (pe_tup (pa_cons pe_str (pa_cons pe_bl pa_nil))) (pa_cons (pe_lst pa_nil) pa_nil)))))))))))))
      (pss_cons (ps_set (i := 1) sc__law_odd.nd rfl (Or.inl rfl) (pe_op op_addU (pv 1) (pe_lst (pa_cons (pe_tup (pa_cons pe_str (pa_cons (pe_un un_neg pe_int) pa_nil))) (pa_cons (pe_tup (pa_cons pe_str (pa_cons pe_int pa_nil))) (pa_cons (pe_tup (pa_cons pe_str pa_nil)) (pa_cons (pe_tup (pa_cons pe_str (pa_cons (pe_tup pa_nil) pa_nil))) (pa_cons (pe_tup (pa_cons pe_str (pa_cons (pe_op op_mulU (pe_tup (pa_cons (pe_tup (pa_cons pe_str pa_nil)) pa_nil)) pe_int) pa_nil))) (pa_cons pe_dnewK pa_nil)))))))))
      (pss_cons (ps_set (i := 1) sc__law_odd.nd rfl (Or.inl rfl) (pe_op op_addU (pv 1) (pe_lst (pa_cons (pe_tup (pa_cons pe_str (pa_cons pe_int pa_nil))) (pa_cons (pe_tup (pa_cons pe_str (pa_cons (pe_un un_neg pe_int) pa_nil))) (pa_cons (pe_tup (pa_cons pe_str (pa_cons pe_int (pa_cons pe_int pa_nil)))) (pa_cons (pe_tup (pa_cons pe_str (pa_cons (pe_tup (pa_cons pe_str (pa_cons pe_int pa_nil))) pa_nil))) (pa_cons (pe_tup (pa_cons pe_str (pa_cons (pe_tup (pa_cons pe_str (pa_cons pe_int pa_nil))) pa_nil))) (pa_cons pe_int pa_nil)))))))))
      (pss_cons (ps_set (i := 1) sc__law_odd.nd rfl (Or.inl rfl) (pe_op op_addU (pv 1) (pe_lst (pa_cons (pe_tup (pa_cons pe_str (pa_cons (pe_tup (pa_cons pe_str pa_nil)) (pa_cons pe_str (pa_cons (pe_tup pa_nil) pa_nil))))) (pa_cons (pe_tup (pa_cons pe_str (pa_cons pe_str (pa_cons (pe_tup pa_nil) pa_nil)))) (pa_cons (pe_tup (pa_cons pe_str (pa_cons pe_str (pa_cons (pe_tup pa_nil) pa_nil)))) (pa_cons (pe_tup (pa_cons (pe_lst pa_nil) (pa_cons pe_int pa_nil))) pa_nil)))))))
      (pss_cons (ps_set (i := 1) sc__law_odd.nd rfl (Or.inl rfl) (pe_op op_addU (pv 1) (pe_lst (pa_cons (pe_tup (pa_cons pe_str (pa_cons (pe_tup (pa_cons pe_str pa_nil)) (pa_cons pe_str (pa_cons (pe_op op_mulU (pe_tup (pa_cons pe_int pa_nil)) pe_int) pa_nil))))) (pa_cons (pe_tup (pa_cons pe_str (pa_cons pe_int (pa_cons pe_str (pa_cons (pe_tup pa_nil) pa_nil))))) (pa_cons (pe_lst (pa_cons pe_str (pa_cons (pe_tup (pa_cons pe_str (pa_cons pe_int pa_nil))) pa_nil))) (pa_cons (pe_tup pa_nil) (pa_cons (pe_tup (pa_cons pe_dnewK (pa_cons pe_int pa_nil))) pa_nil))))))))
      (pss_one (ps_ret (pe_ix ix_any (pe_op op_addU (pv 1) (pe_lst (pa_cons (pe_tup (pa_cons pe_str (pa_cons pe_non pa_nil))) (pa_cons (pe_tup (pa_cons pe_str (pa_cons (pe_lst (pa_cons (pe_tup (pa_cons pe_str pa_nil)) pa_nil)) pa_nil))) (pa_cons (pe_tup (pa_cons pe_str (pa_cons pe_str pa_nil))) (pa_cons pe_str pa_nil)))))) (pe_callG G__law_take hg hr rfl T.g__law_take T.F__law_take.kp T.b__law_take .nil pass0 (pa_cons (pv 0) (pa_cons pe_int pa_nil))) (fun _ _ => rfl))))))))),
      (s_seq (s_set (s_fr (s_lst (s_cons s_non (s_cons (s_un s_int r_neg) (s_cons s_bl (s_cons s_str (s_cons s_str (s_cons s_str (s_cons (s_tup (s_cons s_str s_nil) (len_cons len_nil)) (s_cons (s_tup (s_cons s_str (s_cons s_int s_nil)) (len_cons (len_cons len_nil))) (s_cons (s_tup (s_cons s_str s_nil) (len_cons len_nil)) (s_cons (s_tup (s_cons s_str (s_cons s_bl s_nil)) (len_cons (len_cons len_nil))) (s_cons (s_fr (s_lst s_nil len_nil)) s_nil))))))))))) (len_cons (len_cons (len_cons (len_cons (len_cons (len_cons (len_cons (len_cons (len_cons (len_cons (len_cons len_nil))))))))))))))
      (s_seq (s_set (s_fr (s_opF s_var (s_fr (s_lst (s_cons (s_tup (s_cons s_str (s_cons (s_un s_int r_neg) s_nil)) (len_cons (len_cons len_nil))) (s_cons (s_tup (s_cons s_str (s_cons s_int s_nil)) (len_cons (len_cons len_nil))) (s_cons (s_tup (s_cons s_str s_nil) (len_cons len_nil)) (s_cons (s_tup (s_cons s_str (s_cons (s_tup s_nil len_nil) s_nil)) (len_cons (len_cons len_nil))) (s_cons (s_tup (s_cons s_str (s_cons (s_op (s_tup (s_cons (s_tup (s_cons s_str s_nil) (len_cons len_nil)) s_nil) (len_cons len_nil)) s_int r_mulU) s_nil)) (len_cons (len_cons len_nil))) (s_cons s_dnew s_nil)))))) (len_cons (len_cons (len_cons (len_cons (len_cons (len_cons len_nil)))))))) r_addF)))
      (s_seq (s_set (s_fr (s_opF s_var (s_fr (s_lst (s_cons (s_tup (s_cons s_str (s_cons s_int s_nil)) (len_cons (len_cons len_nil))) (s_cons (s_tup (s_cons s_str (s_cons (s_un s_int r_neg) s_nil)) (len_cons (len_cons len_nil))) (s_cons (s_tup (s_cons s_str (s_cons s_int (s_cons s_int s_nil))) (len_cons (len_cons (len_cons len_nil)))) (s_cons (s_tup (s_cons s_str (s_cons (s_tup (s_cons s_str (s_cons s_int s_nil)) (len_cons (len_cons len_nil))) s_nil)) (len_cons (len_cons len_nil))) (s_cons (s_tup (s_cons s_str (s_cons (s_tup (s_cons s_str (s_cons s_int s_nil)) (len_cons (len_cons len_nil))) s_nil)) (len_cons (len_cons len_nil))) (s_cons s_int s_nil)))))) (len_cons (len_cons (len_cons (len_cons (len_cons (len_cons len_nil)))))))) r_addF)))
      (s_seq (s_set (s_fr (s_opF s_var (s_fr (s_lst (s_cons (s_tup (s_cons s_str (s_cons (s_tup (s_cons s_str s_nil) (len_cons len_nil)) (s_cons s_str (s_cons (s_tup s_nil len_nil) s_nil)))) (len_cons (len_cons (len_cons (len_cons len_nil))))) (s_cons (s_tup (s_cons s_str (s_cons s_str (s_cons (s_tup s_nil len_nil) s_nil))) (len_cons (len_cons (len_cons len_nil)))) (s_cons (s_tup (s_cons s_str (s_cons s_str (s_cons (s_tup s_nil len_nil) s_nil))) (len_cons (len_cons (len_cons len_nil)))) (s_cons (s_tup (s_cons (s_fr (s_lst s_nil len_nil)) (s_cons s_int s_nil)) (len_cons (len_cons len_nil))) s_nil)))) (len_cons (len_cons (len_cons (len_cons len_nil)))))) r_addF)))
      (s_seq (s_set (s_fr (s_opF s_var (s_fr (s_lst (s_cons (s_tup (s_cons s_str (s_cons (s_tup (s_cons s_str s_nil) (len_cons len_nil)) (s_cons s_str (s_cons (s_op (s_tup (s_cons s_int s_nil) (len_cons len_nil)) s_int r_mulU) s_nil)))) (len_cons (len_cons (len_cons (len_cons len_nil))))) (s_cons (s_tup (s_cons s_str (s_cons s_int (s_cons s_str (s_cons (s_tup s_nil len_nil) s_nil)))) (len_cons (len_cons (len_cons (len_cons len_nil))))) (s_cons (s_fr (s_lst (s_cons s_str (s_cons (s_tup (s_cons s_str (s_cons s_int s_nil)) (len_cons (len_cons len_nil))) s_nil)) (len_cons (len_cons len_nil)))) (s_cons (s_tup s_nil len_nil) (s_cons (s_tup (s_cons s_dnew (s_cons s_int s_nil)) (len_cons (len_cons len_nil))) s_nil))))) (len_cons (len_cons (len_cons (len_cons (len_cons len_nil))))))) r_addF)))
      (s_ret (s_op (s_fr (s_opF s_var (s_fr (s_lst (s_cons (s_tup (s_cons s_str (s_cons s_non s_nil)) (len_cons (len_cons len_nil))) (s_cons (s_tup (s_cons s_str (s_cons (s_fr (s_lst (s_cons (s_tup (s_cons s_str s_nil) (len_cons len_nil)) s_nil) (len_cons len_nil))) s_nil)) (len_cons (len_cons len_nil))) (s_cons (s_tup (s_cons s_str (s_cons s_str s_nil)) (len_cons (len_cons len_nil))) (s_cons s_str s_nil)))) (len_cons (len_cons (len_cons (len_cons len_nil)))))) r_addF)) (s_call (ag_v (ag_d s_int ag_nil)) (al_v (al_d al_nil))) r_ix)))))))⟩)
theorem ok__law_bent (T : Txt K mg a fd) {F__law_take : Fm} (G__law_take : FnG P w K mg base CX0 k a._law_take fd._law_take P__law_take (spG K 2 F__law_take)) {F__law_odd : Fm} (G__law_odd : FnG P w K mg base CX0 k a._law_odd fd._law_odd P__law_odd (spG K 1 F__law_odd)) {F__law_bent : Fm} (G__law_bent : FnG P w K mg base CX0 k a._law_bent fd._law_bent P__law_bent (spG K 3 F__law_bent)) : FnG P w K mg base CX0 (k + 1) a._law_bent fd._law_bent P__law_bent (spG K 3 (m__law_bent F__law_take F__law_odd F__law_bent)) :=
  fn_ok T.F__law_bent sc__law_bent (fun cdv A outer s H E hg hr => ⟨_,
      (pss_cons (ps_if (PW.pt (pw_or (pt_not (pt_val (pe_callB call_isi (by rfl) T.n_isinstance bt_isinstance (pa_cons (pv 1) (pa_cons (pe_ty (by rfl) T.n_tuple bt_tuple) pa_nil))))) (pw_or (pt_cmpR (op_eqA hr.units) (pv 2) pe_int (nomark _)) (pw_or1 (pt_cmpR (op_eqA hr.units) (pe_callG G__law_take hg hr rfl T.g__law_take T.F__law_take.kp T.b__law_take .nil pass0 (pa_cons (pv 0) (pa_cons pe_int pa_nil))) pe_int (nomark _)))))) (pss_one (ps_ret (pe_callG G__law_odd hg hr rfl T.g__law_odd T.F__law_odd.kp T.b__law_odd .nil pass0 (pa_cons (pv 0) pa_nil)))) pss_nil)
      (pss_cons (ps_set (i := 3) sc__law_bent.nd rfl (Or.inl rfl) (pe_callTy call_list_of (by rfl) T.n_list bt_list (pa_cons (pv 1) pa_nil)))
      (pss_cons (ps_set (i := 4) sc__law_bent.nd rfl (Or.inl rfl) (pe_callG G__law_take hg hr rfl T.g__law_take T.F__law_take.kp T.b__law_take .nil pass0 (pa_cons (pv 0) (pa_cons (pe_callB (call_max2 rfl) (by rfl) T.n_max bt_max (pa_cons pe_int (pa_cons (pe_callB call_len (by rfl) T.n_len bt_len (pa_cons (pv 3) pa_nil)) pa_nil))) pa_nil))))
      (pss_cons (ps_set (i := 5) sc__law_bent.nd rfl (Or.inl rfl) (pe_callG G__law_take hg hr rfl T.g__law_take T.F__law_take.kp T.b__law_take .nil pass0 (pa_cons (pv 0) (pa_cons pe_int pa_nil))))
      (pss_cons (ps_if (PW.pt (pw_or (pt_cmpR (op_eqA hr.units) (pv 5) pe_int (nomark _)) (pw_or1 (pt_cmpR (op_eqA hr.units) (pv 3) (pe_lst pa_nil) (nomark _))))) (pss_one (ps_expr (pe_bm PySem.F.plainAttrs_list PySem.F.slot_list_insert PySem.F.type_list_insert mt_insert (pv 3) (pa_cons (pv 4) (pa_cons (pe_callG G__law_odd hg hr rfl T.g__law_odd T.F__law_odd.kp T.b__law_odd .nil pass0 (pa_cons (pv 0) pa_nil)) pa_nil))))) (pss_one (ps_if (pt_cmpR (op_eqA hr.units) (pv 5) pe_int (nomark _)) (pss_one (ps_expr (pe_bm PySem.F.plainAttrs_list PySem.F.slot_list_pop PySem.F.type_list_pop mt_popAt (pv 3) (pa_cons (pv 4) pa_nil)))) (pss_one (ps_if (pt_cmpR (op_eqA hr.units) (pv 5) pe_int (nomark _)) (pss_one (ps_expr (pe_bm PySem.F.plainAttrs_list PySem.F.slot_list_insert PySem.F.type_list_insert mt_insert (pv 3) (pa_cons (pv 4) (pa_cons (pe_ix ix_any (pv 3) (pv 4) (fun _ _ => rfl)) pa_nil))))) (pss_one (ps_if (pt_cmpR (op_eqA hr.units) (pv 5) pe_int (nomark _)) (pss_one (ps_asg (pe_revL (pe_slice sl_any (pv 3) (po_some (pv 4)) (po_some (pe_op op_addU (pv 4) pe_int)))) (pg_cut (pv 3) (po_some (pv 4)) (po_some (pe_op op_addU (pv 4) pe_int))))) (pss_one (ps_if (pt_cmpR (op_eqA hr.units) (pv 5) pe_int (nomark _)) (pss_one (ps_ret (pe_callTy call_list_of (by rfl) T.n_list bt_list (pa_cons (pv 1) pa_nil)))) (pss_one (ps_asg (pe_callG G__law_bent hg hr rfl T.g__law_bent T.F__law_bent.kp T.b__law_bent .nil pass0 (pa_cons (pv 0) (pa_cons (pe_ix ix_any (pv 3) (pv 4) (fun _ _ => rfl)) (pa_cons (pe_op op_sub (pv 2) pe_int) pa_nil)))) (pg_sub (pv 3) (pv 4) set_list))))))))))))
      (pss_one (ps_ret (pe_callTy call_tuple_of (by rfl) T.n_tuple bt_tuple (pa_cons (pv 3) pa_nil))))))))),
      (s_seq (s_if (t_or (t_not (t_B (s_isTuple s_var))) (t_or (t_test (s_op s_var s_int r_eq)) (t_test (s_op (s_call (ag_v (ag_d s_int ag_nil)) (al_v (al_d al_nil))) s_int r_eq)))) (s_ret (s_call (ag_v ag_nil) (al_v al_nil))) s_next)
      (s_seq (s_setF (s_cbF (s_cons s_var s_nil) r_list))
      (s_seq (s_set (s_call (ag_v (ag_d (s_cb (s_cons s_int (s_cons s_lenO s_nil)) r_max2) ag_nil)) (al_v (al_d al_nil))))
      (s_seq (s_set (s_call (ag_v (ag_d s_int ag_nil)) (al_v (al_d al_nil))))
      (s_seq (s_if (t_or (t_test (s_op s_var s_int r_eq)) (t_test (s_eqO (s_fr (s_lst s_nil len_nil))))) (s_drop (s_own (s_cons s_var (s_cons (s_call (ag_v ag_nil) (al_v al_nil)) s_nil)) m_insert)) (s_if (t_test (s_op s_var s_int r_eq)) (s_drop (s_own (s_cons s_var s_nil) m_popAt)) (s_if (t_test (s_op s_var s_int r_eq)) (s_drop (s_own (s_cons s_var (s_cons (s_ixO s_var) s_nil)) m_insert)) (s_if (t_test (s_op s_var s_int r_eq)) (s_setCut (s_rev (s_fr (s_slO (o_some s_var) (o_some (s_op s_var s_int r_addU))))) (o_some s_var) (o_some (s_op s_var s_int r_addU))) (s_if (t_test (s_op s_var s_int r_eq)) (s_ret (s_fr (s_cbF (s_cons s_var s_nil) r_list))) (s_setIx (s_call (ag_v (ag_d (s_ixO s_var) (ag_d (s_op s_var s_int r_sub) ag_nil))) (al_v (al_d (al_d al_nil)))) s_var))))))
      (s_ret s_tupO))))))⟩)
theorem ok__law_deep_right (T : Txt K mg a fd) {F_is_offer : Fm} (G_is_offer : FnG P w K mg base CX0 k a.is_offer fd.is_offer P_is_offer (spG K 1 F_is_offer)) {F_is_thing : Fm} (G_is_thing : FnG P w K mg base CX0 k a.is_thing fd.is_thing P_is_thing (spG K 1 F_is_thing)) : FnG P w K mg base CX0 (k + 1) a._law_deep_right fd._law_deep_right P__law_deep_right (spG K 0 (m__law_deep_right F_is_offer F_is_thing)) :=
  fn_ok T.F__law_deep_right sc__law_deep_right (fun cdv A outer s H E hg hr => ⟨_,
      (pss_cons (ps_set (i := 0) sc__law_deep_right.nd rfl (Or.inl rfl) (pe_tup (pa_cons pe_str (pa_cons (pe_tup (pa_cons pe_str (pa_cons (pe_tup (pa_cons pe_str (pa_cons pe_int pa_nil))) (pa_cons (pe_un un_neg pe_int) pa_nil)))) pa_nil))))
      (pss_cons (ps_for PassesOwn.never rfl (pi_range1 (by rfl) T.n_range (pa_cons pe_int pa_nil)) (pg_name (i := 1) sc__law_deep_right.nd rfl (Or.inl rfl)) (pss_one (ps_set (i := 0) sc__law_deep_right.nd rfl (Or.inl rfl) (pe_tup (pa_cons pe_str (pa_cons (pv 0) (pa_cons pe_str (pa_cons (pe_tup (pa_cons (pv 1) (pa_cons (pe_tup (pa_cons pe_str pa_nil)) pa_nil))) pa_nil))))))))
      (pss_one (ps_ret (pe_and (pe_cmpR op_isNB (pe_callG G_is_offer hg hr rfl T.g_is_offer T.F_is_offer.kp T.b_is_offer .nil pass0 (pa_cons (pv 0) pa_nil)) pe_bl (nomark _)) (pe_and (pe_cmpR op_isNB (pe_callG G_is_thing hg hr rfl T.g_is_thing T.F_is_thing.kp T.b_is_thing .nil pass0 (pa_cons (pv 0) pa_nil)) pe_bl (nomark _)) (pe_one (pe_cmpR op_isNB (pe_callG G_is_offer hg hr rfl T.g_is_offer T.F_is_offer.kp T.b_is_offer .nil pass0 (pa_cons (pe_tup (pa_cons pe_str (pa_cons (pv 0) (pa_cons pe_str (pa_cons (pe_tup pa_nil) pa_nil))))) pa_nil)) pe_bl (nomark _))))))))),
      (s_seq (s_set (s_tup (s_cons s_str (s_cons (s_tup (s_cons s_str (s_cons (s_tup (s_cons s_str (s_cons s_int s_nil)) (len_cons (len_cons len_nil))) (s_cons (s_un s_int r_neg) s_nil))) (len_cons (len_cons (len_cons len_nil)))) s_nil)) (len_cons (len_cons len_nil))))
      (s_seq (s_for (i_range1 (s_cons s_int s_nil)) g_name (s_set (s_tup (s_cons s_str (s_cons s_var (s_cons s_str (s_cons (s_tup (s_cons s_var (s_cons (s_tup (s_cons s_str s_nil) (len_cons len_nil)) s_nil)) (len_cons (len_cons len_nil))) s_nil)))) (len_cons (len_cons (len_cons (len_cons len_nil)))))))
      (s_ret (s_and (s_op (s_call (ag_d s_var ag_nil) (al_d al_nil)) s_bl r_is) (s_and (s_op (s_call (ag_d s_var ag_nil) (al_d al_nil)) s_bl r_is) (s_op (s_call (ag_d (s_tup (s_cons s_str (s_cons s_var (s_cons s_str (s_cons (s_tup s_nil len_nil) s_nil)))) (len_cons (len_cons (len_cons (len_cons len_nil))))) ag_nil) (al_d al_nil)) s_bl r_is))))))⟩)
theorem ok_law (T : Txt K mg a fd) {F__law_deep_right : Fm} (G__law_deep_right : FnG P w K mg base CX0 k a._law_deep_right fd._law_deep_right P__law_deep_right (spG K 0 F__law_deep_right)) {F__law_pool : Fm} (G__law_pool : FnG P w K mg base CX0 k a._law_pool fd._law_pool P__law_pool (spG K 2 F__law_pool)) {F__law_drawn_thing : Fm} (G__law_drawn_thing : FnG P w K mg base CX0 k a._law_drawn_thing fd._law_drawn_thing P__law_drawn_thing (spG K 2 F__law_drawn_thing)) {F__law_drawn_offer : Fm} (G__law_drawn_offer : FnG P w K mg base CX0 k a._law_drawn_offer fd._law_drawn_offer P__law_drawn_offer (spG K 2 F__law_drawn_offer)) {F__law_bent : Fm} (G__law_bent : FnG P w K mg base CX0 k a._law_bent fd._law_bent P__law_bent (spG K 3 F__law_bent)) {F__law_odd : Fm} (G__law_odd : FnG P w K mg base CX0 k a._law_odd fd._law_odd P__law_odd (spG K 1 F__law_odd)) {F__law_is_thing : Fm} (G__law_is_thing : FnG P w K mg base CX0 k a._law_is_thing fd._law_is_thing P__law_is_thing (spG K 1 F__law_is_thing)) {F__law_is_offer : Fm} (G__law_is_offer : FnG P w K mg base CX0 k a._law_is_offer fd._law_is_offer P__law_is_offer (spG K 1 F__law_is_offer)) {F_is_thing : Fm} (G_is_thing : FnG P w K mg base CX0 k a.is_thing fd.is_thing P_is_thing (spG K 1 F_is_thing)) {F_is_offer : Fm} (G_is_offer : FnG P w K mg base CX0 k a.is_offer fd.is_offer P_is_offer (spG K 1 F_is_offer)) : FnG P w K mg base CX0 (k + 1) a.law fd.law P_law (spG K 1 (m_law F__law_deep_right F__law_pool F__law_drawn_thing F__law_drawn_offer F__law_bent F__law_odd F__law_is_thing F__law_is_offer F_is_thing F_is_offer)) :=
  fn_ok T.F_law sc_law (fun cdv A outer s H E hg hr => ⟨_,
      (pss_cons (ps_if (pt_not (pt_val (pe_call0G G__law_deep_right hg hr rfl T.g__law_deep_right T.F__law_deep_right.kp T.b__law_deep_right .nil pass0))) (pss_one (ps_ret pe_bl)) pss_nil)
      (pss_cons (ps_for PassesOwn.never rfl (pi_range1 (by rfl) T.n_range (pa_cons (pe_callB (call_max2 rfl) (by rfl) T.n_max bt_max (pa_cons pe_int (pa_cons (pe_callB (call_min2 rfl) (by rfl) T.n_min bt_min (pa_cons (pe_callB call_len (by rfl) T.n_len bt_len (pa_cons (pv 0) pa_nil)) (pa_cons pe_int pa_nil))) pa_nil))) pa_nil)) (pg_name (i := 1) sc_law.nd rfl (Or.inl rfl)) (pss_cons (ps_set (i := 2) sc_law.nd rfl (Or.inl rfl) (pe_callG G__law_pool hg hr rfl T.g__law_pool T.F__law_pool.kp T.b__law_pool .nil pass0 (pa_cons (pv 0) (pa_cons (pv 1) pa_nil))))
      (pss_cons (ps_set (i := 3) sc_law.nd rfl (Or.inl rfl) (pe_lst (pa_cons (pe_callG G__law_drawn_thing hg hr rfl T.g__law_drawn_thing T.F__law_drawn_thing.kp T.b__law_drawn_thing .nil pass0 (pa_cons (pv 2) (pa_cons pe_int pa_nil))) (pa_cons (pe_callG G__law_drawn_offer hg hr rfl T.g__law_drawn_offer T.F__law_drawn_offer.kp T.b__law_drawn_offer .nil pass0 (pa_cons (pv 2) (pa_cons pe_int pa_nil))) pa_nil))))
      (pss_cons (ps_for PassesOwn.never rfl (pi_range1 (by rfl) T.n_range (pa_cons pe_int pa_nil)) (pg_name (i := 4) sc_law.nd rfl (Or.inl rfl)) (pss_one (ps_expr (pe_bm PySem.F.plainAttrs_list PySem.F.slot_list_append PySem.F.type_list_append mt_append (pv 3) (pa_cons (pe_callG G__law_bent hg hr rfl T.g__law_bent T.F__law_bent.kp T.b__law_bent .nil pass0 (pa_cons (pv 2) (pa_cons (pe_ix ix_any (pv 3) (pe_op op_mod (pv 4) pe_int) (fun _ _ => rfl)) (pa_cons pe_int pa_nil)))) pa_nil)))))
      (pss_cons (ps_for PassesOwn.never rfl (pi_any (pe_op op_addU (pv 3) (pe_lst (pa_cons (pe_callG G__law_odd hg hr rfl T.g__law_odd T.F__law_odd.kp T.b__law_odd .nil pass0 (pa_cons (pv 2) pa_nil)) (pa_cons pe_non (pa_cons (pe_lst pa_nil) (pa_cons pe_str (pa_cons pe_bl (pa_cons pe_int pa_nil))))))))) (pg_name (i := 5) sc_law.nd rfl (Or.inl rfl)) (pss_cons (ps_set (i := 6) sc_law.nd rfl (Or.inl rfl) (pe_callB (call_repr hg hr) (by rfl) T.n_repr bt_repr (pa_cons (pv 5) pa_nil)))
      (pss_cons (ps_if (PW.pt (pw_or (pt_cmpR (op_neA hr.units) (pe_callB (call_repr hg hr) (by rfl) T.n_repr bt_repr (pa_cons (pe_callG G_is_thing hg hr rfl T.g_is_thing T.F_is_thing.kp T.b_is_thing .nil pass0 (pa_cons (pv 5) pa_nil)) pa_nil)) (pe_callB (call_repr hg hr) (by rfl) T.n_repr bt_repr (pa_cons (pe_callG G__law_is_thing hg hr rfl T.g__law_is_thing T.F__law_is_thing.kp T.b__law_is_thing .nil pass0 (pa_cons (pv 5) pa_nil)) pa_nil)) (nomark _)) (pw_or1 (pt_cmpR (op_neA hr.units) (pe_callB (call_repr hg hr) (by rfl) T.n_repr bt_repr (pa_cons (pe_callG G_is_offer hg hr rfl T.g_is_offer T.F_is_offer.kp T.b_is_offer .nil pass0 (pa_cons (pv 5) pa_nil)) pa_nil)) (pe_callB (call_repr hg hr) (by rfl) T.n_repr bt_repr (pa_cons (pe_callG G__law_is_offer hg hr rfl T.g__law_is_offer T.F__law_is_offer.kp T.b__law_is_offer .nil pass0 (pa_cons (pv 5) pa_nil)) pa_nil)) (nomark _))))) (pss_one (ps_ret pe_bl)) pss_nil)
      (pss_one (ps_if (pt_cmpR (op_neA hr.units) (pe_callB (call_repr hg hr) (by rfl) T.n_repr bt_repr (pa_cons (pv 5) pa_nil)) (pv 6) (nomark _)) (pss_one (ps_ret pe_bl)) pss_nil)))))
      (pss_one (ps_if (PW.pt (pw_or (pt_not (pt_val (pe_callG G__law_is_thing hg hr rfl T.g__law_is_thing T.F__law_is_thing.kp T.b__law_is_thing .nil pass0 (pa_cons (pe_ix ix_any (pv 3) pe_int (fun _ _ => rfl)) pa_nil)))) (pw_or1 (pt_not (pt_val (pe_callG G__law_is_offer hg hr rfl T.g__law_is_offer T.F__law_is_offer.kp T.b__law_is_offer .nil pass0 (pa_cons (pe_ix ix_any (pv 3) pe_int (fun _ _ => rfl)) pa_nil))))))) (pss_one (ps_ret pe_bl)) pss_nil)))))))
      (pss_one (ps_ret pe_bl)))),
      (s_seq (s_if (t_not (t_B (s_call ag_nil al_nil))) (s_ret s_bl) s_next)
      (s_seq (s_for (i_range1 (s_cons (s_cb (s_cons s_int (s_cons (s_cb (s_cons (s_cb (s_cons s_var s_nil) r_len) (s_cons s_int s_nil)) r_min2) s_nil)) r_max2) s_nil)) g_name (s_seq (s_setF (s_callF (ag_d s_var (ag_d s_var ag_nil)) (al_d (al_d al_nil))))
      (s_seq (s_setF (s_lst (s_cons (s_call (ag_v (ag_d s_int ag_nil)) (al_v (al_d al_nil))) (s_cons (s_call (ag_v (ag_d s_int ag_nil)) (al_v (al_d al_nil))) s_nil)) (len_cons (len_cons len_nil))))
      (s_seq (s_for (i_range1 (s_cons s_int s_nil)) g_name (s_drop (s_own (s_cons (s_call (ag_v (ag_d (s_ixO (s_op s_var s_int r_mod)) (ag_d s_int ag_nil))) (al_v (al_d (al_d al_nil)))) s_nil) m_append)))
      (s_seq (s_for (i_any (s_fr (s_catO (s_fr (s_lst (s_cons (s_call (ag_v ag_nil) (al_v al_nil)) (s_cons s_non (s_cons (s_fr (s_lst s_nil len_nil)) (s_cons s_str (s_cons s_bl (s_cons s_int s_nil)))))) (len_cons (len_cons (len_cons (len_cons (len_cons (len_cons len_nil))))))))))) g_name (s_seq (s_set (s_cb (s_cons s_var s_nil) r_repr))
      (s_seq (s_if (t_or (t_test (s_op (s_cb (s_cons (s_call (ag_d s_var ag_nil) (al_d al_nil)) s_nil) r_repr) (s_cb (s_cons (s_call (ag_d s_var ag_nil) (al_d al_nil)) s_nil) r_repr) r_ne)) (t_test (s_op (s_cb (s_cons (s_call (ag_d s_var ag_nil) (al_d al_nil)) s_nil) r_repr) (s_cb (s_cons (s_call (ag_d s_var ag_nil) (al_d al_nil)) s_nil) r_repr) r_ne))) (s_ret s_bl) s_next)
      (s_if (t_test (s_op (s_cb (s_cons s_var s_nil) r_repr) s_var r_ne)) (s_ret s_bl) s_next))))
      (s_if (t_or (t_not (t_B (s_call (ag_d (s_ixO s_int) ag_nil) (al_d al_nil)))) (t_not (t_B (s_call (ag_d (s_ixO s_int) ag_nil) (al_d al_nil))))) (s_ret s_bl) s_next))))))
      (s_ret s_bl)))⟩)
end
end L_k01

/-! Dw: meanings over data, shown step by step (they tell something, and what they tell). -/
namespace Dn
open PySem L2
def wE (m : M) (ρ : Ev) (Q : PyData → Ev → Prop) : Prop := ∃ d ρ', m ρ = some (d, ρ') ∧ Q d ρ'
def wB (m : MB) (ρ : Ev) (Q : Bool → Ev → Prop) : Prop := ∃ d ρ', m ρ = some (d, ρ') ∧ Q d ρ'
def wL (m : ML) (ρ : Ev) (Q : List PyData → Ev → Prop) : Prop := ∃ d ρ', m ρ = some (d, ρ') ∧ Q d ρ'
def wO (m : Ev → Option (Option Int × Ev)) (ρ : Ev) (Q : Option Int → Ev → Prop) : Prop := ∃ d ρ', m ρ = some (d, ρ') ∧ Q d ρ'
def wA (m : MA) (ρ : Ev) (Q : List Ag → Ev → Prop) : Prop := ∃ d ρ', m ρ = some (d, ρ') ∧ Q d ρ'
def wG (m : Ev → Option (Rv × Ev)) (ρ : Ev) (Q : Rv → Ev → Prop) : Prop := ∃ d ρ', m ρ = some (d, ρ') ∧ Q d ρ'
def wS (m : MS) (ρ : Ev) (Q : Out → Prop) : Prop := ∃ o, m ρ = some o ∧ Q o
section
variable {a b c : M} {ρ : Ev} {Q : PyData → Ev → Prop} {QL : List PyData → Ev → Prop} {QB : Bool → Ev → Prop} {QS : Out → Prop} {QA : List Ag → Ev → Prop} {QO : Option Int → Ev → Prop} {l r : ML} {t u : MB} {x y : MS}
theorem wE.mono {m : M} {Q Q' : PyData → Ev → Prop} (h : wE m ρ Q) (k : ∀ d ρ', Q d ρ' → Q' d ρ') : wE m ρ Q' := let ⟨d, ρ', e, q⟩ := h; ⟨d, ρ', e, k _ _ q⟩
theorem w_var {i : Nat} {x : PyData} (h : ρ[i]? = some (.d x)) (q : Q x ρ) : wE (mVar i) ρ Q := ⟨x, ρ, by unfold mVar; rw [h], q⟩
theorem w_c {d : PyData} (q : Q d ρ) : wE (mC d) ρ Q := ⟨d, ρ, rfl, q⟩
theorem w_nil (q : QL [] ρ) : wL mNil ρ QL := ⟨[], ρ, rfl, q⟩
theorem w_cons (h : wE a ρ fun x ρ1 => wL r ρ1 fun xs ρ2 => QL (x :: xs) ρ2) : wL (mCons a r) ρ QL := by
  obtain ⟨x, ρ1, e1, xs, ρ2, e2, q⟩ := h
  exact ⟨_, _, by unfold mCons; rw [e1]; simp only [e2], q⟩
theorem w_tup (h : wL l ρ fun xs ρ1 => Q (.tuple xs) ρ1) : wE (mTup l) ρ Q := by
  obtain ⟨x, ρ1, e1, q⟩ := h
  exact ⟨_, _, by unfold mTup; rw [e1], q⟩
theorem w_fr (h : wL l ρ fun xs ρ1 => Q (.list xs) ρ1) : wE (mFr l) ρ Q := by
  obtain ⟨x, ρ1, e1, q⟩ := h
  exact ⟨_, _, by unfold mFr; rw [e1], q⟩
theorem w_op {f : PyData → PyData → Option PyData} (h : wE a ρ fun x ρ1 => wE b ρ1 fun y ρ2 => ∃ z, f x y = some z ∧ Q z ρ2) : wE (mOp f a b) ρ Q := by
  obtain ⟨x, ρ1, e1, y, ρ2, e2, z, e3, q⟩ := h
  exact ⟨_, _, by unfold mOp; rw [e1]; simp only [e2, e3], q⟩
theorem w_opF {f : PyData → PyData → Option (List PyData)} (h : wE a ρ fun x ρ1 => wE b ρ1 fun y ρ2 => ∃ z, f x y = some z ∧ QL z ρ2) : wL (mOpF f a b) ρ QL := by
  obtain ⟨x, ρ1, e1, y, ρ2, e2, z, e3, q⟩ := h
  exact ⟨_, _, by unfold mOpF; rw [e1]; simp only [e2, e3], q⟩
theorem w_un {f : PyData → Option PyData} (h : wE a ρ fun x ρ1 => ∃ z, f x = some z ∧ Q z ρ1) : wE (mUn f a) ρ Q := by
  obtain ⟨x, ρ1, e1, z, e3, q⟩ := h
  exact ⟨_, _, by unfold mUn; rw [e1]; simp only [e3], q⟩
theorem w_call {f : List PyData → Option PyData} (h : wL l ρ fun x ρ1 => ∃ z, f x = some z ∧ Q z ρ1) : wE (mCall f l) ρ Q := by
  obtain ⟨x, ρ1, e1, z, e3, q⟩ := h
  exact ⟨_, _, by unfold mCall; rw [e1]; simp only [e3], q⟩
theorem w_callF {f : List PyData → Option (List PyData)} (h : wL l ρ fun x ρ1 => ∃ z, f x = some z ∧ QL z ρ1) : wL (mCallF f l) ρ QL := by
  obtain ⟨x, ρ1, e1, z, e3, q⟩ := h
  exact ⟨_, _, by unfold mCallF; rw [e1]; simp only [e3], q⟩
theorem w_isi {f : PyData → Bool} (h : wE a ρ fun x ρ1 => Q (.bool (f x)) ρ1) : wE (mIsi f a) ρ Q := by
  obtain ⟨x, ρ1, e1, q⟩ := h
  exact ⟨_, _, by unfold mIsi; rw [e1], q⟩
theorem w_test (h : wE a ρ fun x ρ1 => ∃ p, x = .bool p ∧ QB p ρ1) : wB (mTest a) ρ QB := by
  obtain ⟨x, ρ1, e1, p, rfl, q⟩ := h
  exact ⟨_, _, by unfold mTest; rw [e1], q⟩
theorem w_tru (h : wE a ρ fun x ρ1 => ∃ p, truD x = some p ∧ QB p ρ1) : wB (mTru a) ρ QB := by
  obtain ⟨x, ρ1, e1, p, e2, q⟩ := h
  exact ⟨_, _, by unfold mTru; rw [e1]; simp only [e2], q⟩
theorem w_bAnd (h : wB t ρ fun p ρ1 => (p = true → wB u ρ1 QB) ∧ (p = false → QB false ρ1)) : wB (bAnd t u) ρ QB := by
  obtain ⟨p, ρ1, e1, q1, q2⟩ := h
  cases p with
  | true => obtain ⟨d, ρ2, e2, q⟩ := q1 rfl; exact ⟨d, ρ2, by unfold bAnd; rw [e1]; exact e2, q⟩
  | false => exact ⟨false, ρ1, by unfold bAnd; rw [e1], q2 rfl⟩
theorem w_bOr (h : wB t ρ fun p ρ1 => (p = false → wB u ρ1 QB) ∧ (p = true → QB true ρ1)) : wB (bOr t u) ρ QB := by
  obtain ⟨p, ρ1, e1, q1, q2⟩ := h
  cases p with
  | false => obtain ⟨d, ρ2, e2, q⟩ := q1 rfl; exact ⟨d, ρ2, by unfold bOr; rw [e1]; exact e2, q⟩
  | true => exact ⟨true, ρ1, by unfold bOr; rw [e1], q2 rfl⟩
theorem w_bNot (h : wB t ρ fun p ρ1 => QB (!p) ρ1) : wB (bNot t) ρ QB := by
  obtain ⟨p, ρ1, e1, q⟩ := h
  exact ⟨_, _, by unfold bNot; rw [e1], q⟩
theorem w_and (h : wE a ρ fun x ρ1 => ∃ p, x = .bool p ∧ (p = true → wE b ρ1 Q) ∧ (p = false → Q (.bool false) ρ1)) : wE (mAnd a b) ρ Q := by
  obtain ⟨x, ρ1, e1, p, rfl, q1, q2⟩ := h
  cases p with
  | true => obtain ⟨d, ρ2, e2, q⟩ := q1 rfl; exact ⟨d, ρ2, by unfold mAnd; rw [e1]; exact e2, q⟩
  | false => exact ⟨_, ρ1, by unfold mAnd; rw [e1], q2 rfl⟩
theorem w_or (h : wE a ρ fun x ρ1 => ∃ p, x = .bool p ∧ (p = false → wE b ρ1 Q) ∧ (p = true → Q (.bool true) ρ1)) : wE (mOr a b) ρ Q := by
  obtain ⟨x, ρ1, e1, p, rfl, q1, q2⟩ := h
  cases p with
  | false => obtain ⟨d, ρ2, e2, q⟩ := q1 rfl; exact ⟨d, ρ2, by unfold mOr; rw [e1]; exact e2, q⟩
  | true => exact ⟨_, ρ1, by unfold mOr; rw [e1], q2 rfl⟩
theorem w_not (h : wE a ρ fun x ρ1 => ∃ p, x = .bool p ∧ Q (.bool (!p)) ρ1) : wE (mNot a) ρ Q := by
  obtain ⟨x, ρ1, e1, p, rfl, q⟩ := h
  exact ⟨_, _, by unfold mNot; rw [e1], q⟩
theorem w_if (h : wB t ρ fun p ρ1 => (p = true → wE a ρ1 Q) ∧ (p = false → wE b ρ1 Q)) : wE (mIf t a b) ρ Q := by
  obtain ⟨p, ρ1, e1, q1, q2⟩ := h
  cases p with
  | true => obtain ⟨d, ρ2, e2, q⟩ := q1 rfl; exact ⟨d, ρ2, by unfold mIf; rw [e1]; exact e2, q⟩
  | false => obtain ⟨d, ρ2, e2, q⟩ := q2 rfl; exact ⟨d, ρ2, by unfold mIf; rw [e1]; exact e2, q⟩
theorem w_chain {f g : PyData → PyData → Option PyData} (h : wE a ρ fun x ρ1 => wE b ρ1 fun y ρ2 => ∃ p, f x y = some (.bool p) ∧ (p = true → wE c ρ2 fun z ρ3 => ∃ w, g y z = some w ∧ Q w ρ3) ∧ (p = false → Q (.bool false) ρ2)) : wE (mChain f g a b c) ρ Q := by
  obtain ⟨x, ρ1, e1, y, ρ2, e2, p, e3, q1, q2⟩ := h
  cases p with
  | true =>
    obtain ⟨z, ρ3, e4, w, e5, q⟩ := q1 rfl
    exact ⟨w, ρ3, by unfold mChain; rw [e1]; simp only [e2, e3, e4, e5], q⟩
  | false => exact ⟨_, ρ2, by unfold mChain; rw [e1]; simp only [e2, e3], q2 rfl⟩
/-! statements -/
theorem w_next (q : QS (.nx ρ)) : wS mNext ρ QS := ⟨_, rfl, q⟩
theorem w_seq (h : wS x ρ fun o => match o with | .nx ρ1 => wS y ρ1 QS | o => QS o) : wS (mSeq x y) ρ QS := by
  obtain ⟨o, e, q⟩ := h
  cases o with
  | nx ρ1 => obtain ⟨o', e', q'⟩ := q; exact ⟨o', by unfold mSeq; rw [e]; exact e', q'⟩
  | rt r ρ1 => exact ⟨_, by unfold mSeq; rw [e], q⟩
  | bk ρ1 => exact ⟨_, by unfold mSeq; rw [e], q⟩
  | ct ρ1 => exact ⟨_, by unfold mSeq; rw [e], q⟩
theorem w_ret (h : wE a ρ fun x ρ1 => QS (.rt (.d x) ρ1)) : wS (mRet a) ρ QS := by
  obtain ⟨x, ρ1, e1, q⟩ := h
  exact ⟨_, by unfold mRet; rw [e1], q⟩
theorem w_retF (h : wL l ρ fun x ρ1 => QS (.rt (.fl x) ρ1)) : wS (mRetF l) ρ QS := by
  obtain ⟨x, ρ1, e1, q⟩ := h
  exact ⟨_, by unfold mRetF; rw [e1], q⟩
theorem w_set {i : Nat} (h : wE a ρ fun x ρ1 => ∃ ρ2, putD i (.d x) ρ1 = some ρ2 ∧ QS (.nx ρ2)) : wS (mSet i a) ρ QS := by
  obtain ⟨x, ρ1, e1, ρ2, e2, q⟩ := h
  exact ⟨_, by unfold mSet; rw [e1]; simp only [e2], q⟩
theorem w_setF {i : Nat} (h : wL l ρ fun x ρ1 => ∃ ρ2, putD i (.ol x) ρ1 = some ρ2 ∧ QS (.nx ρ2)) : wS (mSetF i l) ρ QS := by
  obtain ⟨x, ρ1, e1, ρ2, e2, q⟩ := h
  exact ⟨_, by unfold mSetF; rw [e1]; simp only [e2], q⟩
theorem w_drop (h : wE a ρ fun _ ρ1 => QS (.nx ρ1)) : wS (mDrop a) ρ QS := by
  obtain ⟨x, ρ1, e1, q⟩ := h
  exact ⟨_, by unfold mDrop; rw [e1], q⟩
theorem w_ifS (h : wB t ρ fun p ρ1 => (p = true → wS x ρ1 QS) ∧ (p = false → wS y ρ1 QS)) : wS (mIfS t x y) ρ QS := by
  obtain ⟨p, ρ1, e1, q1, q2⟩ := h
  cases p with
  | true => obtain ⟨o, e2, q⟩ := q1 rfl; exact ⟨o, by unfold mIfS; rw [e1]; exact e2, q⟩
  | false => obtain ⟨o, e2, q⟩ := q2 rfl; exact ⟨o, by unfold mIfS; rw [e1]; exact e2, q⟩
theorem w_setIx {i : Nat} (h : wE a ρ fun y ρ1 => (∃ zs, getO ρ1 i = some zs) ∧ wE b ρ1 fun k ρ2 => ∃ j xs n, k = .int j ∧ getO ρ2 i = some xs ∧ ixN xs.length j = some n ∧ QS (.nx (setO ρ2 i (xs.set n y)))) : wS (mSetIx i a b) ρ QS := by
  obtain ⟨y, ρ1, e1, ⟨zs, e2⟩, k, ρ2, e3, j, xs, n, rfl, e4, e5, q⟩ := h
  exact ⟨_, by unfold mSetIx; rw [e1]; simp only [e2, e3, e4, e5], q⟩
/-! own lists -/
theorem w_ixO {i : Nat} {xs0 : List PyData} (h0 : getO ρ i = some xs0) (h : wE b ρ fun k ρ1 => ∃ j xs y, k = .int j ∧ getO ρ1 i = some xs ∧ atI xs j = some y ∧ Q y ρ1) : wE (mIxO i b) ρ Q := by
  obtain ⟨k, ρ1, e1, j, xs, y, rfl, e2, e3, q⟩ := h
  exact ⟨_, _, by unfold mIxO; rw [h0]; simp only [e1, e2, e3], q⟩
theorem w_own {i : Nat} {f : List PyData → List PyData → Option (PyData × List PyData)} {xs0 : List PyData} (h0 : getO ρ i = some xs0) (h : wL l ρ fun ds ρ1 => ∃ xs z ys, getO ρ1 i = some xs ∧ f xs ds = some (z, ys) ∧ Q z (setO ρ1 i ys)) : wE (mOwn i f l) ρ Q := by
  obtain ⟨ds, ρ1, e1, xs, z, ys, e2, e3, q⟩ := h
  exact ⟨_, _, by unfold mOwn; rw [h0]; simp only [e1, e2, e3], q⟩
theorem w_catO {i : Nat} {xs0 : List PyData} (h0 : getO ρ i = some xs0) (h : wE b ρ fun k ρ1 => ∃ ys xs, k = .list ys ∧ getO ρ1 i = some xs ∧ xs.length + ys.length ≤ sizeLine ∧ QL (xs ++ ys) ρ1) : wL (mCatO i b) ρ QL := by
  obtain ⟨k, ρ1, e1, ys, xs, rfl, e2, e3, q⟩ := h
  exact ⟨_, _, by unfold mCatO; rw [h0]; simp only [e1, e2, if_pos e3], q⟩
theorem w_tupO {i : Nat} {xs : List PyData} (h0 : getO ρ i = some xs) (q : Q (.tuple xs) ρ) : wE (mTupO i) ρ Q := ⟨_, _, by unfold mTupO; rw [h0], q⟩
theorem w_lenO {i : Nat} {xs : List PyData} (h0 : getO ρ i = some xs) (q : Q (.int xs.length) ρ) : wE (mLenO i) ρ Q := ⟨_, _, by unfold mLenO; rw [h0], q⟩
theorem w_oNone (q : QO none ρ) : wO oNone ρ QO := ⟨_, _, rfl, q⟩
theorem w_oSome (h : wE a ρ fun x ρ1 => ∃ i, x = .int i ∧ QO (some i) ρ1) : wO (oSome a) ρ QO := by
  obtain ⟨x, ρ1, e1, i, rfl, q⟩ := h
  exact ⟨_, _, by unfold oSome; rw [e1], q⟩
theorem w_slO {i : Nat} {lo hi : Ev → Option (Option Int × Ev)} {xs0 : List PyData} (h0 : getO ρ i = some xs0) (h : wO lo ρ fun p ρ1 => wO hi ρ1 fun q ρ2 => ∃ xs, getO ρ2 i = some xs ∧ QL (cutD xs p q) ρ2) : wL (mSlO i lo hi) ρ QL := by
  obtain ⟨p, ρ1, e1, q, ρ2, e2, xs, e3, k⟩ := h
  exact ⟨_, _, by unfold mSlO; rw [h0]; simp only [e1, e2, e3], k⟩
theorem w_rev (h : wE a ρ fun x ρ1 => ∃ xs, x = .list xs ∧ QL xs.reverse ρ1) : wL (mRev a) ρ QL := by
  obtain ⟨x, ρ1, e1, xs, rfl, q⟩ := h
  exact ⟨_, _, by unfold mRev; rw [e1], q⟩
theorem w_setCut {i : Nat} {lo hi : Ev → Option (Option Int × Ev)} (h : wL l ρ fun ys ρ1 => (∃ zs, getO ρ1 i = some zs) ∧ wO lo ρ1 fun p ρ2 => wO hi ρ2 fun q ρ3 => ∃ xs, getO ρ3 i = some xs ∧ xs.length + ys.length ≤ sizeLine ∧ QS (.nx (setO ρ3 i (spl xs ys p q)))) : wS (mSetCut i l lo hi) ρ QS := by
  obtain ⟨ys, ρ1, e1, ⟨zs, e2⟩, p, ρ2, e3, q, ρ3, e4, xs, e5, e6, k⟩ := h
  exact ⟨_, by unfold mSetCut; rw [e1]; simp only [e2, e3, e4, e5, if_pos e6], k⟩
theorem w_eqO {i : Nat} {xs0 : List PyData} (h0 : getO ρ i = some xs0) (h : wE b ρ fun y ρ1 => ∃ xs k, getO ρ1 i = some xs ∧ eqB (.list xs) y = some k ∧ Q (.bool k) ρ1) : wE (mEqO i b) ρ Q := by
  obtain ⟨y, ρ1, e1, xs, k, e2, e3, q⟩ := h
  exact ⟨_, _, by unfold mEqO; rw [h0]; simp only [e1, e2, e3], q⟩
/-! calls -/
theorem w_aNil (q : QA [] ρ) : wA aNil ρ QA := ⟨_, _, rfl, q⟩
theorem w_aD {r : MA} (h : wE a ρ fun x ρ1 => wA r ρ1 fun xs ρ2 => QA (.d x :: xs) ρ2) : wA (aD a r) ρ QA := by
  obtain ⟨x, ρ1, e1, xs, ρ2, e2, q⟩ := h
  exact ⟨_, _, by unfold aD; rw [e1]; simp only [e2], q⟩
theorem w_aV {i : Nat} {r : MA} (h0 : ownB ρ i = true) (h : wA r ρ fun xs ρ2 => QA (.v i :: xs) ρ2) : wA (aV i r) ρ QA := by
  obtain ⟨xs, ρ1, e1, q⟩ := h
  exact ⟨_, _, by unfold aV; rw [if_pos h0, e1], q⟩
theorem w_callG {F : Fm} {m : MA} {QG : Rv → Ev → Prop} (h : wA m ρ fun as ρ1 => (agIx as).Nodup ∧ ∃ sv r out ρ2, agSv ρ1 as = some sv ∧ F sv = some (r, out) ∧ putBack ρ1 (agIx as) out = some ρ2 ∧ QG r ρ2) : wG (mCallG F m) ρ QG := by
  obtain ⟨as, ρ1, e1, nd, sv, r, out, ρ2, e2, e3, e4, q⟩ := h
  exact ⟨_, _, by unfold mCallG; rw [e1]; simp only [if_pos nd, e2, e3, e4], q⟩
theorem w_callD {F : Fm} {m : MA} (h : wG (mCallG F m) ρ fun r ρ1 => match r with | .d x => Q x ρ1 | .fl xs => Q (.list xs) ρ1) : wE (mCallD F m) ρ Q := by
  obtain ⟨r, ρ1, e, q⟩ := h
  cases r with
  | d x => exact ⟨_, _, by unfold mCallD; rw [e], q⟩
  | fl xs => exact ⟨_, _, by unfold mCallD; rw [e], q⟩
theorem w_callL {F : Fm} {m : MA} (h : wG (mCallG F m) ρ fun r ρ1 => ∃ xs, r = .fl xs ∧ QL xs ρ1) : wL (mCallL F m) ρ QL := by
  obtain ⟨r, ρ1, e, xs, rfl, q⟩ := h
  exact ⟨_, _, by unfold mCallL; rw [e], q⟩
/-- the call of a def whose arguments are data -/
theorem w_pure {F : Fm} {m : MA} (h : wA m ρ fun as ρ1 => ∃ (xs : List PyData) (z : PyData), as = xs.map Ag.d ∧ F (xs.map Sv.d) = some (.d z, []) ∧ Q z ρ1) : wE (mCallD F m) ρ Q := by
  refine w_callD (w_callG ?_)
  obtain ⟨as, ρ1, e1, xs, z, rfl, e2, q⟩ := h
  have hix : agIx (xs.map Ag.d) = [] := by
    clear e1 e2
    induction xs with
    | nil => rfl
    | cons x xs ih => exact ih
  have hsv : agSv ρ1 (xs.map Ag.d) = some (xs.map Sv.d) := by
    clear e1 e2 hix
    induction xs with
    | nil => rfl
    | cons x xs ih => show (match agSv ρ1 (xs.map Ag.d) with | some s => some (Sv.d x :: s) | none => none) = _; rw [ih]; rfl
  exact ⟨_, ρ1, e1, by rw [hix]; exact List.nodup_nil, _, _, [], ρ1, hsv, e2, by rw [hix]; rfl, q⟩
/-! loops -/
theorem w_it {Q : List PyData → Ev → Prop} (h : wE a ρ fun x ρ1 => ∃ ds, itD x = some ds ∧ Q ds ρ1) : wL (mIt a) ρ Q := by
  obtain ⟨x, ρ1, e1, ds, e2, q⟩ := h
  exact ⟨_, _, by unfold mIt; rw [e1]; simp only [e2], q⟩
theorem w_range1 (h : wL l ρ fun xs ρ1 => ∃ n, xs = [.int n] ∧ -(2 ^ 62) ≤ n ∧ n < 2 ^ 62 ∧ QL (rangeD 0 n.toNat) ρ1) : wL (mRange1 l) ρ QL := by
  obtain ⟨x, ρ1, e1, n, rfl, h1, h2, q⟩ := h
  exact ⟨_, _, by unfold mRange1; rw [e1]; simp only [if_pos (And.intro h1 h2)], q⟩
/-- a for whose turns go on, by an invariant -/
theorem w_for {f : PyData → Ev → Option Ev} (I : List PyData → Ev → Prop) (h : wL l ρ fun ds ρ1 => I ds ρ1) (hn : ∀ ρ, I [] ρ → QS (.nx ρ)) (hs : ∀ d ds ρ, I (d :: ds) ρ → ∃ ρ1, f d ρ = some ρ1 ∧ wS x ρ1 fun o => match o with | .nx ρ2 => I ds ρ2 | .ct ρ2 => I ds ρ2 | .bk ρ2 => QS (.nx ρ2) | .rt r ρ2 => QS (.rt r ρ2)) : wS (mFor l f x) ρ QS := by
  obtain ⟨ds, ρ1, e1, i⟩ := h
  have go : ∀ ds ρ, I ds ρ → ∃ o, forGo f x ds ρ = some o ∧ QS o := by
    intro ds
    induction ds with
    | nil => intro ρ i; exact ⟨_, rfl, hn ρ i⟩
    | cons d ds ih =>
      intro ρ i
      obtain ⟨ρ1, h1, o, h2, q⟩ := hs d ds ρ i
      cases o with
      | nx ρ2 => obtain ⟨o', h3, q'⟩ := ih ρ2 q; exact ⟨o', by unfold forGo; simp only [h1, h2]; exact h3, q'⟩
      | ct ρ2 => obtain ⟨o', h3, q'⟩ := ih ρ2 q; exact ⟨o', by unfold forGo; simp only [h1, h2]; exact h3, q'⟩
      | bk ρ2 => exact ⟨_, by unfold forGo; simp only [h1, h2], q⟩
      | rt r ρ2 => exact ⟨_, by unfold forGo; simp only [h1, h2], q⟩
  obtain ⟨o, h2, q⟩ := go ds ρ1 i
  exact ⟨o, by unfold mFor; rw [e1]; exact h2, q⟩
/-- a comprehension, by an invariant over what is left and what is made -/
theorem w_lc {vs : List Nat} {f : PyData → Ev → Option Ev} {QL : List PyData → Ev → Prop} (I : List PyData → List PyData → Ev → Prop) (h : wL l ρ fun ds ρ1 => ds.length ≤ sizeLine ∧ I ds [] ρ1) (hn : ∀ xs ρ, I [] xs ρ → QL xs (wipeE ρ vs))
    (hs : ∀ d ds xs ρ, I (d :: ds) xs ρ → ∃ ρ1, f d (wipeE ρ vs) = some ρ1 ∧ wB t ρ1 fun p ρ2 => (p = true → wE a ρ2 fun x ρ3 => I ds (xs ++ [x]) ρ3) ∧ (p = false → I ds xs ρ2)) : wL (mLc l vs f t a) ρ QL := by
  obtain ⟨ds, ρ1, e1, hl, i⟩ := h
  have go : ∀ ds acc ρ, I ds acc ρ → ∃ xs ρ', lcGo vs f t a ds ρ = some (xs, ρ') ∧ I [] (acc ++ xs) ρ' := by
    intro ds
    induction ds with
    | nil => intro acc ρ i; exact ⟨[], ρ, rfl, by rw [List.append_nil]; exact i⟩
    | cons d ds ih =>
      intro acc ρ i
      obtain ⟨ρ1, h1, p, ρ2, h2, q1, q2⟩ := hs d ds acc ρ i
      cases p with
      | true =>
        obtain ⟨x, ρ3, h3, i3⟩ := q1 rfl
        obtain ⟨xs, ρ4, h4, i4⟩ := ih _ ρ3 i3
        exact ⟨x :: xs, ρ4, by unfold lcGo; simp only [h1, h2, h3, h4], by rw [List.append_assoc] at i4; exact i4⟩
      | false =>
        obtain ⟨xs, ρ4, h4, i4⟩ := ih _ ρ2 (q2 rfl)
        exact ⟨xs, ρ4, by unfold lcGo; simp only [h1, h2]; exact h4, i4⟩
  obtain ⟨xs, ρ', h2, i2⟩ := go ds [] ρ1 i
  exact ⟨xs, wipeE ρ' vs, by unfold mLc; rw [e1]; simp only [fits, decide_eq_true hl, if_true, h2], hn _ _ i2⟩
/-- a def's meaning -/
theorem w_fn {pad : Nat} {as : List Sv} {r : Rv} {out : List (List PyData)} (h : wS x (as ++ List.replicate pad .un) fun o => match o with | .rt r' ρ' => r' = r ∧ ioOut as ρ' = some out | .nx ρ' => r = .d .none ∧ ioOut as ρ' = some out | _ => False) : fnD pad x as = some (r, out) := by
  obtain ⟨o, e, q⟩ := h
  unfold fnD
  rw [e]
  cases o with
  | rt r' ρ' => obtain ⟨rfl, q⟩ := q; simp only [q]; rfl
  | nx ρ' => obtain ⟨rfl, q⟩ := q; simp only [q]; rfl
  | bk ρ' => exact q.elim
  | ct ρ' => exact q.elim
theorem w_fnE {pad : Nat} {as : List Sv} {P : Rv → List (List PyData) → Prop} (h : wS x (as ++ List.replicate pad .un) fun o => match o with | .rt r ρ' => ∃ out, ioOut as ρ' = some out ∧ P r out | .nx ρ' => ∃ out, ioOut as ρ' = some out ∧ P (.d .none) out | _ => False) : ∃ r out, fnD pad x as = some (r, out) ∧ P r out := by
  obtain ⟨o, e, q⟩ := h
  cases o with
  | rt r' ρ' => obtain ⟨out, q1, q2⟩ := q; exact ⟨r', out, by unfold fnD; rw [e]; simp only [q1]; rfl, q2⟩
  | nx ρ' => obtain ⟨out, q1, q2⟩ := q; exact ⟨_, out, by unfold fnD; rw [e]; simp only [q1]; rfl, q2⟩
  | bk ρ' => exact q.elim
  | ct ρ' => exact q.elim
/-- a comprehension that changes nothing: what is kept, and of each what -/
theorem lc_pure {v : Nat} {it : ML} {t : MB} {e : M} {ds : List PyData} {p : PyData → Bool} {g : PyData → PyData} (hv : ρ[v]? = some .un) (hit : it ρ = some (ds, ρ)) (hl : ds.length ≤ sizeLine) (ht : ∀ d ∈ ds, t (ρ.set v (.d d)) = some (p d, ρ.set v (.d d))) (he : ∀ d ∈ ds, p d = true → e (ρ.set v (.d d)) = some (g d, ρ.set v (.d d))) :
    mLc it [v] (gD v) t e ρ = some ((ds.filter p).map g, ρ) := by
  have lv : v < ρ.length := (List.getElem?_eq_some_iff.mp hv).1
  have same : ρ.set v .un = ρ := by
    apply List.ext_getElem?
    intro j
    by_cases hj : v = j
    · subst hj; rw [List.getElem?_set_self lv, hv]
    · rw [List.getElem?_set_ne hj]
  have go : ∀ (es : List PyData), (∀ d ∈ es, d ∈ ds) → ∀ ρi : Ev, wipeE ρi [v] = ρ → ∃ ρ', lcGo [v] (gD v) t e es ρi = some ((es.filter p).map g, ρ') ∧ wipeE ρ' [v] = ρ := by
    intro es
    induction es with
    | nil => intro _ ρi h; exact ⟨ρi, rfl, h⟩
    | cons d es ih =>
      intro hm ρi h
      have hd := hm d List.mem_cons_self
      have ih := ih fun d' h' => hm d' (List.mem_cons_of_mem _ h')
      have hg : gD v d ρ = some (ρ.set v (.d d)) := by unfold gD putD; rw [hv]
      have hw : wipeE (ρ.set v (.d d)) [v] = ρ := by show (ρ.set v (.d d)).set v .un = ρ; rw [List.set_set, same]
      cases hp : p d with
      | true =>
        obtain ⟨ρ', h1, h2⟩ := ih _ hw
        refine ⟨ρ', ?_, h2⟩
        unfold lcGo
        rw [h]
        simp only [hg, ht d hd, hp, he d hd hp, h1, List.filter_cons_of_pos hp, List.map_cons]
      | false =>
        obtain ⟨ρ', h1, h2⟩ := ih _ hw
        refine ⟨ρ', ?_, h2⟩
        unfold lcGo
        rw [h]
        simp only [hg, ht d hd, hp, h1, List.filter_cons_of_neg (show ¬ p d = true by rw [hp]; exact Bool.false_ne_true)]
  obtain ⟨ρ', h1, h2⟩ := go ds (fun _ h => h) ρ (by show ρ.set v .un = ρ; exact same)
  unfold mLc
  rw [hit]
  simp only [fits, decide_eq_true hl, if_true, h1, h2]
theorem lc_map {v : Nat} {it : ML} {e : M} {ds : List PyData} {g : PyData → PyData} (hv : ρ[v]? = some .un) (hit : it ρ = some (ds, ρ)) (hl : ds.length ≤ sizeLine) (he : ∀ d ∈ ds, e (ρ.set v (.d d)) = some (g d, ρ.set v (.d d))) : mLc it [v] (gD v) bYes e ρ = some (ds.map g, ρ) := by
  have h := lc_pure (t := bYes) (p := fun _ => true) (g := g) hv hit hl (fun _ _ => rfl) (fun d hd _ => he d hd)
  rw [h, List.filter_eq_self.mpr (fun _ _ => rfl)]
theorem bls_map {α : Type} (f : α → Bool) (l : List α) : blsOf (l.map fun x => .bool (f x)) = some (l.map f) := by
  induction l with
  | nil => rfl
  | cons a l ih =>
    show (match blsOf (l.map fun x => .bool (f x)) with | some bs => some (f a :: bs) | none => none) = _
    rw [ih]
    rfl
/-- a meaning that changes nothing, known -/
theorem w_is {m : M} {d : PyData} (h : m ρ = some (d, ρ)) (q : Q d ρ) : wE m ρ Q := ⟨d, ρ, h, q⟩
theorem w_isL {m : ML} {d : List PyData} (h : m ρ = some (d, ρ)) (q : QL d ρ) : wL m ρ QL := ⟨d, ρ, h, q⟩
/-- a call upon data whose meaning is known -/
theorem w_known {F : Fm} {m : MA} {xs : List PyData} {z : PyData} {ρ1 : Ev} (hF : F (xs.map Sv.d) = some (.d z, [])) (hm : m ρ = some (xs.map Ag.d, ρ1)) (q : Q z ρ1) : wE (mCallD F m) ρ Q := w_pure ⟨_, ρ1, hm, xs, z, rfl, hF, q⟩
theorem call_known {F : Fm} {m : MA} {xs : List PyData} {z : PyData} {ρ1 : Ev} (hF : F (xs.map Sv.d) = some (.d z, [])) (hm : m ρ = some (xs.map Ag.d, ρ1)) : mCallD F m ρ = some (z, ρ1) := by
  obtain ⟨d, ρ', e, q1, q2⟩ := w_known (Q := fun d ρ' => d = z ∧ ρ' = ρ1) hF hm ⟨rfl, rfl⟩
  rw [e, q1, q2]
/-! ### what changes nothing, by its value -/
def vE (m : M) (ρ : Ev) (d : PyData) : Prop := m ρ = some (d, ρ)
def vB (m : MB) (ρ : Ev) (d : Bool) : Prop := m ρ = some (d, ρ)
def vL (m : ML) (ρ : Ev) (d : List PyData) : Prop := m ρ = some (d, ρ)
def vA (m : MA) (ρ : Ev) (d : List PyData) : Prop := m ρ = some (d.map Ag.d, ρ)
theorem v_var {i : Nat} {x : PyData} (h : ρ[i]? = some (.d x)) : vE (mVar i) ρ x := by unfold vE mVar; rw [h]
theorem v_c {d : PyData} : vE (mC d) ρ d := rfl
theorem v_nil : vL mNil ρ [] := rfl
theorem v_cons {x : PyData} {xs : List PyData} (h1 : vE a ρ x) (h2 : vL r ρ xs) : vL (mCons a r) ρ (x :: xs) := by unfold vL mCons; rw [h1]; simp only [show r ρ = some (xs, ρ) from h2]
theorem v_tup {xs : List PyData} (h : vL l ρ xs) : vE (mTup l) ρ (.tuple xs) := by unfold vE mTup; rw [h]
theorem v_fr {xs : List PyData} (h : vL l ρ xs) : vE (mFr l) ρ (.list xs) := by unfold vE mFr; rw [h]
theorem v_op {f : PyData → PyData → Option PyData} {x y z : PyData} (h1 : vE a ρ x) (h2 : vE b ρ y) (h3 : f x y = some z) : vE (mOp f a b) ρ z := by unfold vE mOp; rw [h1]; simp only [show b ρ = some (y, ρ) from h2, h3]
theorem v_opF {f : PyData → PyData → Option (List PyData)} {x y : PyData} {z : List PyData} (h1 : vE a ρ x) (h2 : vE b ρ y) (h3 : f x y = some z) : vL (mOpF f a b) ρ z := by unfold vL mOpF; rw [h1]; simp only [show b ρ = some (y, ρ) from h2, h3]
theorem v_un {f : PyData → Option PyData} {x z : PyData} (h1 : vE a ρ x) (h3 : f x = some z) : vE (mUn f a) ρ z := by unfold vE mUn; rw [h1]; simp only [h3]
theorem v_call {f : List PyData → Option PyData} {xs : List PyData} {z : PyData} (h1 : vL l ρ xs) (h3 : f xs = some z) : vE (mCall f l) ρ z := by unfold vE mCall; rw [h1]; simp only [h3]
theorem v_isi {f : PyData → Bool} {x : PyData} (h1 : vE a ρ x) : vE (mIsi f a) ρ (.bool (f x)) := by unfold vE mIsi; rw [h1]
theorem v_and {p q : Bool} (h1 : vE a ρ (.bool p)) (h2 : p = true → vE b ρ (.bool q)) : vE (mAnd a b) ρ (.bool (p && q)) := by
  unfold vE mAnd
  rw [h1]
  cases p with
  | true => exact h2 rfl
  | false => rfl
theorem v_or {p q : Bool} (h1 : vE a ρ (.bool p)) (h2 : p = false → vE b ρ (.bool q)) : vE (mOr a b) ρ (.bool (p || q)) := by
  unfold vE mOr
  rw [h1]
  cases p with
  | false => exact h2 rfl
  | true => rfl
theorem v_not {p : Bool} (h1 : vE a ρ (.bool p)) : vE (mNot a) ρ (.bool (!p)) := by unfold vE mNot; rw [h1]
theorem v_chain {f g : PyData → PyData → Option PyData} {x y z : PyData} {p q : Bool} (h1 : vE a ρ x) (h2 : vE b ρ y) (h3 : f x y = some (.bool p)) (h4 : vE c ρ z) (h5 : p = true → g y z = some (.bool q)) : vE (mChain f g a b c) ρ (.bool (p && q)) := by
  unfold vE mChain
  rw [h1]
  simp only [show b ρ = some (y, ρ) from h2, h3]
  cases p with
  | true => simp only [show c ρ = some (z, ρ) from h4, h5 rfl]; rfl
  | false => rfl
theorem v_test {p : Bool} (h1 : vE a ρ (.bool p)) : vB (mTest a) ρ p := by unfold vB mTest; rw [h1]
theorem v_tru {x : PyData} {p : Bool} (h1 : vE a ρ x) (h2 : truD x = some p) : vB (mTru a) ρ p := by unfold vB mTru; rw [h1]; simp only [h2]
theorem v_bAnd {p q : Bool} (h1 : vB t ρ p) (h2 : p = true → vB u ρ q) : vB (bAnd t u) ρ (p && q) := by
  unfold vB bAnd
  rw [h1]
  cases p with
  | true => exact h2 rfl
  | false => rfl
theorem v_bOr {p q : Bool} (h1 : vB t ρ p) (h2 : p = false → vB u ρ q) : vB (bOr t u) ρ (p || q) := by
  unfold vB bOr
  rw [h1]
  cases p with
  | false => exact h2 rfl
  | true => rfl
theorem v_bNot {p : Bool} (h1 : vB t ρ p) : vB (bNot t) ρ (!p) := by unfold vB bNot; rw [h1]
theorem v_aNil : vA aNil ρ [] := rfl
theorem v_aD {m : MA} {x : PyData} {xs : List PyData} (h1 : vE a ρ x) (h2 : vA m ρ xs) : vA (aD a m) ρ (x :: xs) := by unfold vA aD; rw [h1]; simp only [show m ρ = some (xs.map Ag.d, ρ) from h2]; rfl
theorem v_callD {F : Fm} {m : MA} {xs : List PyData} {z : PyData} (h1 : vA m ρ xs) (hF : F (xs.map Sv.d) = some (.d z, [])) : vE (mCallD F m) ρ z := call_known hF h1
theorem v_it {x : PyData} {ds : List PyData} (h1 : vE a ρ x) (h2 : itD x = some ds) : vL (mIt a) ρ ds := by unfold vL mIt; rw [h1]; simp only [h2]
theorem w_retV {d : PyData} (h : vE a ρ d) (q : QS (.rt (.d d) ρ)) : wS (mRet a) ρ QS := w_ret ⟨d, ρ, h, q⟩
theorem w_setV {i : Nat} {d : PyData} {ρ2 : Ev} (h : vE a ρ d) (hp : putD i (.d d) ρ = some ρ2) (q : QS (.nx ρ2)) : wS (mSet i a) ρ QS := w_set ⟨d, ρ, h, ρ2, hp, q⟩
theorem w_ifV {p : Bool} (h : vB t ρ p) (h1 : p = true → wS x ρ QS) (h2 : p = false → wS y ρ QS) : wS (mIfS t x y) ρ QS := w_ifS ⟨p, ρ, h, h1, h2⟩
/-- if t: return e, then the rest -/
theorem w_ifRet {p : Bool} {d : PyData} (h : vB t ρ p) (h1 : p = true → vE a ρ d ∧ QS (.rt (.d d) ρ)) (h2 : p = false → wS y ρ QS) : wS (mSeq (mIfS t (mRet a) mNext) y) ρ QS :=
  w_seq (w_ifV h (fun e => w_retV (h1 e).1 (h1 e).2) (fun e => w_next (h2 e)))
theorem v_lc {v : Nat} {it : ML} {e : M} {t : MB} {ds : List PyData} {p : PyData → Bool} {g : PyData → PyData} (hv : ρ[v]? = some .un) (hit : vL it ρ ds) (hl : ds.length ≤ sizeLine) (ht : ∀ d ∈ ds, vB t (ρ.set v (.d d)) (p d)) (he : ∀ d ∈ ds, p d = true → vE e (ρ.set v (.d d)) (g d)) : vL (mLc it [v] (gD v) t e) ρ ((ds.filter p).map g) := lc_pure hv hit hl ht he
theorem v_lcMap {v : Nat} {it : ML} {e : M} {ds : List PyData} {g : PyData → PyData} (hv : ρ[v]? = some .un) (hit : vL it ρ ds) (hl : ds.length ≤ sizeLine) (he : ∀ d ∈ ds, vE e (ρ.set v (.d d)) (g d)) : vL (mLc it [v] (gD v) bYes e) ρ (ds.map g) := lc_map hv hit hl he
theorem all_map {α : Type} (f : α → Bool) (l : List α) : allD [.list (l.map fun x => .bool (f x))] = some (.bool (l.all f)) := by
  show (match blsOf (l.map fun x => .bool (f x)) with | some bs => some (PyData.bool (bs.all id)) | none => none) = _
  rw [bls_map]
  show some (PyData.bool ((l.map f).all id)) = _
  rw [List.all_map]
  rfl
/-- xs == [] -/
theorem eq_nil (xs : List PyData) : eqD (.list xs) (.list []) = some (.bool xs.isEmpty) := by
  cases xs <;> rfl
theorem filter_nil {α : Type} (p : α → Bool) (l : List α) : (l.filter fun x => !p x).isEmpty = l.all p := by
  induction l with
  | nil => rfl
  | cons a l ih =>
    cases h : p a with
    | true => rw [List.filter_cons_of_neg (by simp [h]), ih, List.all_cons, h, Bool.true_and]
    | false => rw [List.filter_cons_of_pos (by simp [h]), List.all_cons, h]; rfl
/-! ### calls that are handed a list of one's own, first -/
theorem own_facts {i : Nat} {xs : List PyData} (h : getO ρ i = some xs) : ownB ρ i = true ∧ (∀ (r : List Ag) (s : List Sv), agSv ρ r = some s → agSv ρ (.v i :: r) = some (.io xs :: s)) ∧ ∀ ys, putBack ρ [i] [ys] = some (setO ρ i ys) := by
  unfold getO at h
  split at h
  · rename_i x hx
    cases x with
    | un => cases h
    | d x => cases h
    | ol zs =>
      cases h
      refine ⟨by unfold ownB; rw [hx]; rfl, fun r s hr => by rw [agSv]; simp only [hx, hr], fun ys => by unfold putBack setO; simp only [hx]; rfl⟩
    | io zs =>
      cases h
      refine ⟨by unfold ownB; rw [hx]; rfl, fun r s hr => by rw [agSv]; simp only [hx, hr], fun ys => by unfold putBack setO; simp only [hx]; rfl⟩
  · cases h
theorem ag_data (ds : List PyData) : agSv ρ (ds.map Ag.d) = some (ds.map Sv.d) ∧ agIx (ds.map Ag.d) = [] := by
  induction ds with
  | nil => exact ⟨rfl, rfl⟩
  | cons x xs ih =>
    refine ⟨?_, ih.2⟩
    show (match agSv ρ (xs.map Ag.d) with | some s => some (Sv.d x :: s) | none => none) = _
    rw [ih.1]
    rfl
theorem w_io1 {F : Fm} {i : Nat} {m : MA} {xs ys ds : List PyData} {r : Rv} {QG : Rv → Ev → Prop} (hg : getO ρ i = some xs) (hm : vA m ρ ds) (hF : F (.io xs :: ds.map Sv.d) = some (r, [ys])) (q : QG r (setO ρ i ys)) : wG (mCallG F (aV i m)) ρ QG := by
  obtain ⟨h1, h2, h3⟩ := own_facts hg
  obtain ⟨h4, h5⟩ := ag_data (ρ := ρ) ds
  refine w_callG (w_aV h1 ⟨_, ρ, hm, ?_⟩)
  have e : agIx (.v i :: ds.map Ag.d) = [i] := by show i :: agIx (ds.map Ag.d) = [i]; rw [h5]
  show (agIx (.v i :: ds.map Ag.d)).Nodup ∧ _
  rw [e]
  exact ⟨by simp, _, r, [ys], setO ρ i ys, h2 _ _ h4, hF, h3 ys, q⟩
theorem w_io {F : Fm} {i : Nat} {m : MA} {xs ys ds : List PyData} {z : PyData} (hg : getO ρ i = some xs) (hm : vA m ρ ds) (hF : F (.io xs :: ds.map Sv.d) = some (.d z, [ys])) (q : Q z (setO ρ i ys)) : wE (mCallD F (aV i m)) ρ Q := w_callD (w_io1 hg hm hF q)
theorem v_ixO {i : Nat} {xs : List PyData} {j : Int} {y : PyData} (h0 : getO ρ i = some xs) (hb : vE b ρ (.int j)) (h : atI xs j = some y) : vE (mIxO i b) ρ y := by
  unfold vE mIxO
  rw [h0]
  simp only [show b ρ = some (.int j, ρ) from hb, h0, h]
theorem v_lenO {i : Nat} {xs : List PyData} (h0 : getO ρ i = some xs) : vE (mLenO i) ρ (.int xs.length) := by
  unfold vE mLenO
  rw [h0]
theorem w_v {d : PyData} (h : vE a ρ d) (q : Q d ρ) : wE a ρ Q := ⟨d, ρ, h, q⟩
theorem w_vL {d : List PyData} (h : vL l ρ d) (q : QL d ρ) : wL l ρ QL := ⟨d, ρ, h, q⟩
theorem w_vB {d : Bool} (h : vB t ρ d) (q : QB d ρ) : wB t ρ QB := ⟨d, ρ, h, q⟩
theorem rp_ints {K : Frag} {S : Hp} : ∀ ns : List Int, RpAll K S (ns.map V.int) (ns.map PyData.int)
  | [] => .nil
  | n :: ns => .cons (.int n) (rp_ints ns)
/-- the law's promise: a list of ints is handed in, True comes out -/
theorem sp_law {K : Frag} {F : Fm} {H : Hp} {l : Addr} {ns : List Int} (hF : F [.d (.list (ns.map .int))] = some (.d (.bool true), [])) (hS : SqL K H l (ns.map V.int)) : spG K 1 F [.ref l] H (fun v _ => v = .bl true) fun _ _ _ => False := by
  refine ⟨rfl, H, _, [], _, _, Ex.refl H, .d (.lst hS (rp_ints ns)) .nil, List.nodup_nil, hF, ?_⟩
  intro v S' H' _ _ _ _ _ rv
  cases rv
  rfl
theorem ix_mem {xs : List PyData} {i : Int} (h0 : 0 ≤ i) (h1 : i < xs.length) : ∃ z, atI xs i = some z ∧ z ∈ xs := by
  have hl : i.toNat < xs.length := by omega
  refine ⟨xs[i.toNat], ?_, List.getElem_mem hl⟩
  unfold atI ixN
  rw [if_pos h0, if_pos (by omega)]
  exact List.getElem?_eq_getElem hl
end
end Dn

namespace L_k01
open PySem L2 Dn
local macro_rules | `(tactic| walk_at "s") => `(tactic| first
  | refine w_seq ?_ | refine w_ifS ?_ | refine w_ret ?_ | refine w_retF ?_ | refine w_set ?_ | refine w_setF ?_ | refine w_drop ?_ | refine w_next ?_
  | refine w_test ?_ | refine w_bAnd ?_ | refine w_bOr ?_ | refine w_bNot ?_
  | refine w_var rfl ?_ | refine w_c ?_ | refine w_nil ?_ | refine w_cons ?_ | refine w_tup ?_ | refine w_fr ?_ | refine w_op ?_ | refine w_opF ?_ | refine w_un ?_ | refine w_call ?_ | refine w_callF ?_ | refine w_isi ?_
  | refine w_and ?_ | refine w_or ?_ | refine w_not ?_ | refine w_if ?_ | refine w_chain ?_
  | refine w_aNil ?_ | refine w_aD ?_ | refine w_ixO rfl ?_ | refine w_setIx ?_ | refine w_it ?_ | refine w_range1 ?_)
local macro_rules | `(tactic| walk_at "ss") => `(tactic| repeat (first | walk_at "s" | (refine ⟨_, rfl, ?_⟩)))
/-! ### words -/
def isW (x : PyData) (w : Str) (m : Int) : Bool := match x with
  | .tuple (.str a :: r) => decide (((r.length + 1 : Nat) : Int) = m) && decide (a = w)
  | _ => false
def arg (x : PyData) (k : Nat) : PyData := match x with
  | .tuple xs => xs.getD k .none
  | _ => .none
theorem ix0 (a : PyData) (r : List PyData) : ixD (.tuple (a :: r)) (.int 0) = some a := by
  show atI (a :: r) 0 = _
  unfold atI ixN
  rw [if_pos (by decide), if_pos (by simp only [List.length_cons]; omega)]
  rfl
theorem w_eq (x : PyData) (w : Str) (m : Int) (hm : 1 ≤ m) : m_is_word [.d x, .d (.str w), .d (.int m)] = some (.d (.bool (isW x w m)), []) := by
  cases x with
  | tuple xs =>
    refine w_fn (w_ret (w_and (w_isi (w_var rfl ⟨_, rfl, fun _ => ?_, fun h => by cases h⟩))))
    refine w_and (w_op (w_call (w_cons (w_var rfl (w_nil ⟨_, rfl, w_var rfl ⟨_, rfl, _, rfl, fun h => ?_, fun h => ?_⟩⟩)))))
    · have h := of_decide_eq_true h
      cases xs with
      | nil => exact absurd h (by show ¬ (0 : Int) = m; omega)
      | cons a r =>
        refine w_and (w_isi (w_op (w_var rfl (w_c ⟨_, ix0 a r, _, rfl, fun h2 => ?_, fun h2 => ?_⟩))))
        · cases a with
          | str s =>
            refine w_op (w_op (w_var rfl (w_c ⟨_, ix0 _ r, w_var rfl ⟨_, rfl, ?_⟩⟩)))
            have e : isW (.tuple (.str s :: r)) w m = decide (s = w) := by
              show (decide (((r.length + 1 : Nat) : Int) = m) && decide (s = w)) = _
              rw [decide_eq_true (show ((r.length + 1 : Nat) : Int) = m from h), Bool.true_and]
            rw [e]
            exact ⟨rfl, rfl⟩
          | _ => cases h2
        · cases a with
          | str s => cases h2
          | _ => exact ⟨rfl, rfl⟩
    · have h := of_decide_eq_false h
      have e : isW (.tuple xs) w m = false := by
        unfold isW
        split
        · rename_i a r q
          cases q
          rw [decide_eq_false (show ¬ ((r.length + 1 : Nat) : Int) = m from h), Bool.false_and]
        · rfl
      rw [e]
      exact ⟨rfl, rfl⟩
  | _ => rfl
theorem lw_eq (x : PyData) (w : Str) (m : Int) (hm : 1 ≤ m) : m__law_has [.d x, .d (.str w), .d (.int m)] = some (.d (.bool (isW x w m)), []) := w_eq x w m hm
theorem isW_shape {x : PyData} {w : Str} {m : Int} (h : isW x w m = true) : ∃ r, x = .tuple (.str w :: r) ∧ ((r.length + 1 : Nat) : Int) = m := by
  unfold isW at h
  split at h
  · rename_i a r
    rw [Bool.and_eq_true] at h
    have h1 := of_decide_eq_true h.1
    have h2 := of_decide_eq_true h.2
    subst h2
    exact ⟨r, rfl, h1⟩
  · cases h
theorem ix_arg {x : PyData} {w : Str} {m : Int} (h : isW x w m = true) {k : Nat} (hk : (k : Int) < m) : ixD x (.int k) = some (arg x k) := by
  obtain ⟨r, rfl, hm⟩ := isW_shape h
  have hl : k < (PyData.str w :: r).length := by simp only [List.length_cons]; omega
  show atI _ (k : Int) = _
  unfold atI ixN
  rw [if_pos (by omega), if_pos (by omega)]
  show (PyData.str w :: r)[k]? = some ((PyData.str w :: r).getD k .none)
  rw [List.getElem?_eq_getElem hl, List.getD_eq_getElem?_getD, List.getElem?_eq_getElem hl]
  rfl
/-! ### whole numbers -/
def whole : PyData → Bool
  | .int _ => true
  | _ => false
def nought : PyData → Bool
  | .int i => decide (0 ≤ i)
  | _ => false
theorem whole_eq (x : PyData) : m_is_whole [.d x] = some (.d (.bool (whole x)), []) := by cases x <;> rfl
theorem lwhole_eq (x : PyData) : m__law_whole [.d x] = some (.d (.bool (whole x)), []) := by cases x <;> rfl
theorem nought_eq (x : PyData) : m_is_from_nought m_is_whole [.d x] = some (.d (.bool (nought x)), []) := by cases x <;> rfl
def isN (x : PyData) (w : Str) : Bool := isW x w 2 && nought (arg x 1)
theorem num_eq (x : PyData) (w : Str) : m_is_numbered m_is_word (m_is_from_nought m_is_whole) [.d x, .d (.str w)] = some (.d (.bool (isN x w)), []) := by
  refine w_fn ?_
  unfold b_is_numbered isN
  refine w_ret (w_and ?_)
  refine w_known (xs := [x, .str w, .int 2]) (w_eq x w 2 (by decide)) rfl ?_
  refine ⟨_, rfl, fun h => ?_, fun h => ?_⟩
  · refine w_pure (w_aD (w_op (w_var rfl (w_c ⟨_, ix_arg (k := 1) h (by decide), w_aNil ⟨[arg x 1], _, rfl, nought_eq _, ?_⟩⟩))))
    rw [h]
    exact ⟨rfl, rfl⟩
  · rw [h]
    exact ⟨rfl, rfl⟩
theorem lnum_eq (x : PyData) (w : Str) : m__law_numbered m__law_has m__law_whole [.d x, .d (.str w)] = some (.d (.bool (isN x w)), []) := by
  refine w_fn ?_
  unfold b__law_numbered isN
  refine w_ret (w_and ?_)
  refine w_known (xs := [x, .str w, .int 2]) (lw_eq x w 2 (by decide)) rfl ?_
  refine ⟨_, rfl, fun h => ?_, fun h => ?_⟩
  · refine w_and (w_pure (w_aD (w_op (w_var rfl (w_c ⟨_, ix_arg (k := 1) h (by decide), w_aNil ⟨[arg x 1], _, rfl, lwhole_eq _, ?_⟩⟩)))))
    rw [h]
    refine ⟨_, rfl, fun h2 => ?_, fun h2 => ?_⟩
    · refine w_op (w_op (w_var rfl (w_c ⟨_, ix_arg (k := 1) h (by decide), w_c ?_⟩)))
      cases ha : arg x 1 with
      | int i => exact ⟨_, rfl, rfl, rfl⟩
      | _ => rw [ha] at h2; cases h2
    · cases ha : arg x 1 with
      | int i => rw [ha] at h2; cases h2
      | _ => exact ⟨rfl, rfl⟩
  · rw [h]
    exact ⟨rfl, rfl⟩
/-! ### names -/
def low (c : Nat) : Bool := decide (97 ≤ c ∧ c ≤ 122)
def isName : PyData → Bool
  | .str z => decide (1 ≤ z.length ∧ z.length ≤ 8) && !decide (z = ("nothing" : Str)) && z.cps.toList.all low
  | _ => false
def LET : Str := "abcdefghijklmnopqrstuvwxyz"
theorem let_mem (c : Nat) : decide (c ∈ LET.cps.toList) = low c := by
  have e : LET.cps.toList = (List.range 26).map (97 + ·) := by decide +kernel
  unfold low
  rw [e]
  apply decide_eq_decide.mpr
  rw [List.mem_map]
  constructor
  · rintro ⟨a, h1, rfl⟩
    have := List.mem_range.mp h1
    omega
  · intro h
    exact ⟨c - 97, List.mem_range.mpr (by omega), by omega⟩
theorem one_lt (a b : Nat) : decide ([a] < [b]) = decide (a < b) := by
  apply decide_eq_decide.mpr
  constructor
  · intro h
    cases h with
    | rel h => exact h
    | cons h => cases h
  · intro h
    exact List.Lex.rel h
theorem name_eq (x : PyData) (hx : ∀ z, x = .str z → z.length ≤ sizeLine) : m_is_name [.d x] = some (.d (.bool (isName x)), []) := by
  cases x with
  | str z =>
    have hz := hx z rfl
    have hz2 : lenD [.str z] = some (.int z.length) := if_pos hz
    refine w_fn (w_ifRet (v_bOr (v_bNot (v_test (v_isi (v_var rfl)))) fun _ => v_bOr (v_bNot (v_test (v_chain v_c (v_call (v_cons (v_var rfl) v_nil) hz2) rfl v_c (fun _ => rfl)))) fun _ => v_test (v_op (v_var rfl) v_c rfl)) (fun h => ⟨v_c, ?_⟩) (fun h => ?_))
    · refine ⟨?_, rfl⟩
      congr 2
      show false = (decide (1 ≤ z.length ∧ z.length ≤ 8) && !decide (z = ("nothing" : Str)) && z.cps.toList.all low)
      by_cases h1 : 1 ≤ z.length ∧ z.length ≤ 8
      · have a1 : decide ((1 : Int) ≤ (z.length : Int)) = true := decide_eq_true (by omega)
        have a2 : decide ((z.length : Int) ≤ 8) = true := decide_eq_true (by omega)
        rw [a1, a2] at h
        have h : decide (z = ("nothing" : Str)) = true := h
        rw [h]
        simp
      · rw [decide_eq_false h1]
        rfl
    · have hl : (signs z).length ≤ sizeLine := by unfold signs; rw [List.length_map, Array.length_toList]; exact hz
      refine w_retV (d := .bool (z.cps.toList.all low)) (v_call (v_cons (v_fr (v_lcMap (g := fun d => .bool (match d with | .str y => y.cps.toList.all low | _ => false)) rfl (v_it (v_var rfl) (rfl : itD (.str z) = some (signs z))) hl ?_)) v_nil) ?_) ?_
      · intro d hd
        obtain ⟨c, hc, rfl⟩ := List.mem_map.mp hd
        refine v_op (v_var rfl) v_c ?_
        have e : inD (.str ⟨#[c]⟩) (.str LET) = some (.bool (low c)) := by
          show some (PyData.bool (decide (c ∈ LET.cps.toList))) = _
          rw [let_mem]
        have e2 : ((#[c] : Array Nat).toList.all low) = low c := by simp
        show inD (.str ⟨#[c]⟩) (.str LET) = some (.bool ((#[c] : Array Nat).toList.all low))
        rw [e, e2]
      · have e : (signs z).map (fun d => PyData.bool (match d with | .str y => y.cps.toList.all low | _ => false)) = z.cps.toList.map fun c => .bool (low c) := by
          unfold signs
          rw [List.map_map]
          apply List.map_congr_left
          intro c _
          show PyData.bool ((#[c] : Array Nat).toList.all low) = _
          simp
        rw [e, all_map]
      · refine ⟨?_, rfl⟩
        congr 2
        rw [Bool.or_eq_false_iff, Bool.or_eq_false_iff] at h
        have h2 : (!(decide ((1 : Int) ≤ (z.length : Int)) && decide ((z.length : Int) ≤ 8))) = false := h.2.1
        have h3 : decide (z = ("nothing" : Str)) = false := h.2.2
        show z.cps.toList.all low = (decide (1 ≤ z.length ∧ z.length ≤ 8) && !decide (z = ("nothing" : Str)) && z.cps.toList.all low)
        have h2 : decide ((1 : Int) ≤ (z.length : Int)) = true ∧ decide ((z.length : Int) ≤ 8) = true := by simpa using h2
        have b1 := of_decide_eq_true h2.1
        have b2 := of_decide_eq_true h2.2
        rw [h3, decide_eq_true (show 1 ≤ z.length ∧ z.length ≤ 8 by omega)]
        rfl
  | _ => rfl
theorem lname_eq (x : PyData) (hx : ∀ z, x = .str z → z.length ≤ sizeLine) : m__law_is_name [.d x] = some (.d (.bool (isName x)), []) := by
  cases x with
  | str z =>
    have hz := hx z rfl
    have hz2 : lenD [.str z] = some (.int z.length) := if_pos hz
    refine w_fn (w_ifRet (v_bOr (v_bNot (v_test (v_isi (v_var rfl)))) fun _ => v_bOr (v_bNot (v_test (v_chain v_c (v_call (v_cons (v_var rfl) v_nil) hz2) rfl v_c (fun _ => rfl)))) fun _ => v_test (v_op (v_var rfl) v_c rfl)) (fun h => ⟨v_c, ?_⟩) (fun h => ?_))
    · refine ⟨?_, rfl⟩
      congr 2
      show false = (decide (1 ≤ z.length ∧ z.length ≤ 8) && !decide (z = ("nothing" : Str)) && z.cps.toList.all low)
      by_cases h1 : 1 ≤ z.length ∧ z.length ≤ 8
      · have a1 : decide ((1 : Int) ≤ (z.length : Int)) = true := decide_eq_true (by omega)
        have a2 : decide ((z.length : Int) ≤ 8) = true := decide_eq_true (by omega)
        rw [a1, a2] at h
        have h : decide (z = ("nothing" : Str)) = true := h
        rw [h]
        simp
      · rw [decide_eq_false h1]
        rfl
    · have hl : (signs z).length ≤ sizeLine := by unfold signs; rw [List.length_map, Array.length_toList]; exact hz
      rw [Bool.or_eq_false_iff, Bool.or_eq_false_iff] at h
      have h2 : (!(decide ((1 : Int) ≤ (z.length : Int)) && decide ((z.length : Int) ≤ 8))) = false := h.2.1
      have h3 : decide (z = ("nothing" : Str)) = false := h.2.2
      have h2 : decide ((1 : Int) ≤ (z.length : Int)) = true ∧ decide ((z.length : Int) ≤ 8) = true := by simpa using h2
      have b1 := of_decide_eq_true h2.1
      have b2 := of_decide_eq_true h2.2
      have e0 : isName (.str z) = z.cps.toList.all low := by
        show (decide (1 ≤ z.length ∧ z.length ≤ 8) && !decide (z = ("nothing" : Str)) && z.cps.toList.all low) = _
        rw [h3, decide_eq_true (show 1 ≤ z.length ∧ z.length ≤ 8 by omega)]
        rfl
      have eF : ((signs z).filter fun d => !(match d with | .str y => y.cps.toList.all low | _ => false)) = (z.cps.toList.filter fun c => !low c).map fun c => .str ⟨#[c]⟩ := by
        unfold signs
        rw [List.filter_map]
        congr 1
        apply List.filter_congr
        intro c _
        show (!((#[c] : Array Nat).toList.all low)) = _
        simp
      refine w_retV (d := .bool (isName (.str z))) (v_op (v_fr (v_lc (p := fun d => !(match d with | .str y => y.cps.toList.all low | _ => false)) (g := fun d => d) rfl (v_it (v_var rfl) (rfl : itD (.str z) = some (signs z))) hl ?_ (fun d hd _ => v_var rfl))) (v_fr v_nil) ?_) ⟨rfl, rfl⟩
      · intro d hd
        obtain ⟨c, hc, rfl⟩ := List.mem_map.mp hd
        refine v_bNot (v_test ?_)
        have e2 : ((#[c] : Array Nat).toList.all low) = (decide (97 ≤ c) && decide (c ≤ 122)) := by
          simp [low]
        show vE _ _ (.bool ((#[c] : Array Nat).toList.all low))
        rw [e2]
        refine v_chain v_c (v_var rfl) ?_ v_c (fun _ => ?_)
        · show some (PyData.bool (!decide (([c] : List Nat) < [97]))) = _
          rw [one_lt]
          congr 2
          by_cases q : 97 ≤ c
          · rw [decide_eq_true q, decide_eq_false (by omega)]; rfl
          · rw [decide_eq_false q, decide_eq_true (by omega)]; rfl
        · show some (PyData.bool (!decide (([122] : List Nat) < [c]))) = _
          rw [one_lt]
          congr 2
          by_cases q : c ≤ 122
          · rw [decide_eq_true q, decide_eq_false (by omega)]; rfl
          · rw [decide_eq_false q, decide_eq_true (by omega)]; rfl
      · rw [eF, List.map_id', e0, eq_nil, List.isEmpty_map, filter_nil]
  | _ => rfl
/-! ### things and offers -/
/-- texts and tuples that are not too long -/
inductive Fine : PyData → Prop
  | non : Fine .none
  | bl (b : Bool) : Fine (.bool b)
  | int (i : Int) : Fine (.int i)
  | str {z : Str} : z.length ≤ sizeLine → Fine (.str z)
  | tup {xs : List PyData} : xs.length ≤ sizeLine → (∀ x ∈ xs, Fine x) → Fine (.tuple xs)
  | lst (xs : List PyData) : Fine (.list xs)
  | dct (kvs : List (PyData × PyData)) : Fine (.dict kvs)
theorem Fine.name {x : PyData} (h : Fine x) : ∀ z, x = .str z → z.length ≤ sizeLine := fun z e => by
  subst e
  cases h with
  | str h => exact h
theorem depth_mem : ∀ {xs : List PyData} {x : PyData}, x ∈ xs → x.depth ≤ PyData.depthAll xs
  | y :: ys, x, h => by
    rw [PyData.depthAll]
    rcases List.mem_cons.mp h with rfl | h
    · omega
    · have := depth_mem h
      omega
structure Sub (y x : PyData) : Prop where
  fine : Fine y
  dep : y.depth < x.depth
theorem Sub.mem {xs : List PyData} {y : PyData} (h : Fine (.tuple xs)) (hy : y ∈ xs) : Sub y (.tuple xs) := by
  cases h with
  | tup _ h2 =>
    refine ⟨h2 y hy, ?_⟩
    have := depth_mem hy
    simp only [PyData.depth]
    omega
theorem Sub.arg {x : PyData} {w : Str} {m : Int} (hx : Fine x) (h : isW x w m = true) {k : Nat} (hk : (k : Int) < m) : Sub (arg x k) x := by
  obtain ⟨r, rfl, hm⟩ := isW_shape h
  refine Sub.mem hx ?_
  have hl : k < (PyData.str w :: r).length := by simp only [List.length_cons]; omega
  show (PyData.str w :: r).getD k .none ∈ _
  rw [List.getD_eq_getElem?_getD, List.getElem?_eq_getElem hl]
  exact List.getElem_mem hl
theorem Sub.trans {z y x : PyData} (a : Sub z y) (b : Sub y x) : Sub z x := ⟨a.fine, Nat.lt_trans a.dep b.dep⟩
def seqB (m : Nat) (P : PyData → Bool) : PyData → Bool
  | .tuple xs => decide (xs.length ≤ m) && xs.all P
  | _ => false
def offB (T O A : PyData → Bool) (x : PyData) : Bool :=
  if (isW x "never" 1 || (isN x "till" || isN x "hear")) = true then true else
  if isW x "send" 3 = true then (isN (arg x 1) "channel" && T (arg x 2)) else
  if isW x "take" 2 = true then isN (arg x 1) "channel" else
  if isW x "over" 2 = true then isN (arg x 1) "thread" else
  if isW x "always" 2 = true then T (arg x 1) else
  if isW x "choose" 2 = true then seqB 6 O (arg x 1) else
  if isW x "wrap" 4 = true then (O (arg x 1) && (isName (arg x 2) && A (arg x 3))) else
  if (isW x "guard" 3 || isW x "notice" 3) = true then (isName (arg x 1) && A (arg x 2)) else false
def thB (O : PyData → Bool) (x : PyData) : Bool := (whole x || (isW x "nothing" 1 || isN x "channel")) || (isN x "thread" || O x)
abbrev NUM : Fm := m_is_numbered m_is_word (m_is_from_nought m_is_whole)
abbrev LNUM : Fm := m__law_numbered m__law_has m__law_whole
/-- what a def tells of some things -/
def Tells (F : Fm) (f : PyData → Bool) (D : PyData → Prop) : Prop := ∀ y, D y → F [.d y] = some (.d (.bool (f y)), [])
theorem v_w {x : PyData} {w : Str} {m : Int} {ρ : Ev} {a : M} (hm : 1 ≤ m) (h : vE a ρ x) : vB (mTest (mCallD m_is_word (aD a (aD (mC (.str w)) (aD (mC (.int m)) aNil))))) ρ (isW x w m) := v_test (v_callD (v_aD h (v_aD v_c (v_aD v_c v_aNil))) (w_eq x w m hm))
theorem v_lw {x : PyData} {w : Str} {m : Int} {ρ : Ev} {a : M} (hm : 1 ≤ m) (h : vE a ρ x) : vB (mTest (mCallD m__law_has (aD a (aD (mC (.str w)) (aD (mC (.int m)) aNil))))) ρ (isW x w m) := v_test (v_callD (v_aD h (v_aD v_c (v_aD v_c v_aNil))) (lw_eq x w m hm))
theorem v_n {x : PyData} {w : Str} {ρ : Ev} {a : M} (h : vE a ρ x) : vE (mCallD NUM (aD a (aD (mC (.str w)) aNil))) ρ (.bool (isN x w)) := v_callD (v_aD h (v_aD v_c v_aNil)) (num_eq x w)
theorem v_ln {x : PyData} {w : Str} {ρ : Ev} {a : M} (h : vE a ρ x) : vE (mCallD LNUM (aD a (aD (mC (.str w)) aNil))) ρ (.bool (isN x w)) := v_callD (v_aD h (v_aD v_c v_aNil)) (lnum_eq x w)
theorem v_1 {F : Fm} {f : PyData → Bool} {D : PyData → Prop} (hF : Tells F f D) {x : PyData} {ρ : Ev} {a : M} (h : vE a ρ x) (hx : D x) : vE (mCallD F (aD a aNil)) ρ (.bool (f x)) := v_callD (v_aD h v_aNil) (hF x hx)
theorem v_ix {x : PyData} {w : Str} {m : Int} {ρ : Ev} {a : M} (h : vE a ρ x) (hw : isW x w m = true) {k : Nat} (hk : (k : Int) < m) : vE (mOp ixD a (mC (.int k))) ρ (arg x k) := v_op h v_c (ix_arg hw hk)
/-- isinstance(x, tuple) and len(x) <= m and all([F(one) for one in x]) -/
theorem v_seq {F : Fm} {f : PyData → Bool} {D : PyData → Prop} (hF : Tells F f D) {y : PyData} (hy : ∀ z, Sub z y → D z) (hf : Fine y) {ρ : Ev} {i v : Nat} {m : Nat} (hi : ρ[i]? = some (.d y)) (hv : ρ[v]? = some .un) (hiv : v ≠ i) (h1 : ∀ d : PyData, (ρ.set v (.d d))[v]? = some (.d d)) :
    vE (mAnd (mIsi isTuple (mVar i)) (mAnd (mOp leD (mCall lenD (mCons (mVar i) mNil)) (mC (.int m))) (mCall allD (mCons (mFr (mLc (mIt (mVar i)) [v] (gD v) bYes (mCallD F (aD (mVar v) aNil)))) mNil)))) ρ (.bool (seqB m f y)) := by
  cases y with
  | tuple xs =>
    have e : seqB m f (.tuple xs) = (true && (decide ((xs.length : Int) ≤ (m : Int)) && xs.all f)) := by
      show (decide (xs.length ≤ m) && xs.all f) = _
      rw [Bool.true_and]
      congr 1
      apply decide_eq_decide.mpr
      omega
    rw [e]
    refine v_and (v_isi (v_var hi)) fun _ => v_and (v_op (v_call (v_cons (v_var hi) v_nil) rfl) v_c rfl) fun _ => ?_
    refine v_call (v_cons (v_fr (v_lcMap (g := fun d => .bool (f d)) hv (v_it (v_var hi) rfl) ?_ ?_)) v_nil) (all_map f xs)
    · cases hf with
      | tup h _ => exact h
    · intro d hd
      exact v_1 hF (v_var (h1 d)) (hy d (Sub.mem hf hd))
  | _ =>
    show vE _ ρ (.bool (false && false))
    exact v_and (v_isi (v_var hi)) (fun h => by cases h)
theorem poff {T O A : Fm} {t o ar : PyData → Bool} {x : PyData} (hx : Fine x) (hT : Tells T t fun y => Sub y x) (hO : Tells O o fun y => Sub y x) (hA : Tells A ar fun y => Sub y x) : m_is_offer m_is_word NUM T O m_is_name A [.d x] = some (.d (.bool (offB t o ar x)), []) := by
  refine w_fn ?_
  unfold b_is_offer
  have v0 : ∀ {ρ : Ev} (_ : ρ[0]? = some (.d x)), vE (mVar 0) ρ x := fun h => v_var h
  refine w_ifRet (v_bOr (v_w (by decide) (v_var rfl)) fun _ => v_bOr (v_test (v_n (v_var rfl))) fun _ => v_test (v_n (v_var rfl))) (fun h => ⟨v_c, by simp [offB, ioOut, h]⟩) (fun h1 => ?_)
  refine w_ifRet (v_w (by decide) (v_var rfl)) (fun h => ⟨v_and (v_n (v_ix (v_var rfl) h (k := 1) (by decide))) fun _ => v_1 hT (v_ix (v_var rfl) h (k := 2) (by decide)) (Sub.arg hx h (by decide)), by simp [offB, ioOut, h1, h]⟩) (fun h2 => ?_)
  refine w_ifRet (v_w (by decide) (v_var rfl)) (fun h => ⟨v_n (v_ix (v_var rfl) h (k := 1) (by decide)), by simp [offB, ioOut, h1, h2, h]⟩) (fun h3 => ?_)
  refine w_ifRet (v_w (by decide) (v_var rfl)) (fun h => ⟨v_n (v_ix (v_var rfl) h (k := 1) (by decide)), by simp [offB, ioOut, h1, h2, h3, h]⟩) (fun h4 => ?_)
  refine w_ifRet (v_w (by decide) (v_var rfl)) (fun h => ⟨v_1 hT (v_ix (v_var rfl) h (k := 1) (by decide)) (Sub.arg hx h (by decide)), by simp [offB, ioOut, h1, h2, h3, h4, h]⟩) (fun h5 => ?_)
  refine w_seq (w_ifV (v_w (by decide) (v_var rfl)) (fun h => ?_) (fun h6 => w_next ?_))
  · have sa := Sub.arg hx h (k := 1) (by decide)
    refine w_seq (w_setV (v_ix (v_var rfl) h (k := 1) (by decide)) rfl ?_)
    refine w_retV (v_seq (m := 6) hO (fun z hz => hz.trans sa) sa.fine rfl rfl (by decide) (fun d => rfl)) ?_
    simp [offB, ioOut, h1, h2, h3, h4, h5, h]
  · refine w_ifRet (v_w (by decide) (v_var rfl)) (fun h => ⟨v_and (v_1 hO (v_ix (v_var rfl) h (k := 1) (by decide)) (Sub.arg hx h (by decide))) fun _ => v_and (v_1 (D := Fine) (fun y hy => name_eq y hy.name) (v_ix (v_var rfl) h (k := 2) (by decide)) (Sub.arg hx h (by decide)).fine) fun _ => v_1 hA (v_ix (v_var rfl) h (k := 3) (by decide)) (Sub.arg hx h (by decide)), by simp [offB, ioOut, h1, h2, h3, h4, h5, h6, h]⟩) (fun h7 => ?_)
    refine w_ifRet (v_bOr (v_w (by decide) (v_var rfl)) fun _ => v_w (by decide) (v_var rfl)) (d := .bool (isName (arg x 1) && ar (arg x 2))) (fun h => ?_) (fun h8 => w_retV v_c (by simp [offB, ioOut, h1, h2, h3, h4, h5, h6, h7, h8]))
    have h' : isW x "guard" 3 = true ∨ isW x "notice" 3 = true := by simpa using h
    refine ⟨v_and (v_1 (D := Fine) (fun y hy => name_eq y hy.name) (show vE (mOp ixD (mVar 0) (mC (.int 1))) _ (arg x 1) from ?_) ?_) fun _ => v_1 hA (show vE (mOp ixD (mVar 0) (mC (.int 2))) _ (arg x 2) from ?_) ?_, by simp [offB, ioOut, h1, h2, h3, h4, h5, h6, h7, h]⟩
    · rcases h' with h' | h' <;> exact v_ix (v_var rfl) h' (k := 1) (by decide)
    · rcases h' with h' | h' <;> exact (Sub.arg hx h' (k := 1) (by decide)).fine
    · rcases h' with h' | h' <;> exact v_ix (v_var rfl) h' (k := 2) (by decide)
    · rcases h' with h' | h' <;> exact Sub.arg hx h' (k := 2) (by decide)
/-- isinstance(x, tuple) and len(x) <= m and [one for one in x if not F(one)] == [] -/
theorem v_lseq {F : Fm} {f : PyData → Bool} {D : PyData → Prop} (hF : Tells F f D) {y : PyData} (hy : ∀ z, Sub z y → D z) (hf : Fine y) {ρ : Ev} {a k : M} {v : Nat} {m : Nat} (ha : vE a ρ y) (hk : vE k ρ (.int m)) (hv : ρ[v]? = some .un) (h1 : ∀ d : PyData, (ρ.set v (.d d))[v]? = some (.d d)) :
    vE (mAnd (mIsi isTuple a) (mAnd (mOp leD (mCall lenD (mCons a mNil)) k) (mOp eqD (mFr (mLc (mIt a) [v] (gD v) (bNot (mTest (mCallD F (aD (mVar v) aNil)))) (mVar v))) (mFr mNil)))) ρ (.bool (seqB m f y)) := by
  cases y with
  | tuple xs =>
    have e : seqB m f (.tuple xs) = (true && (decide ((xs.length : Int) ≤ (m : Int)) && xs.all f)) := by
      show (decide (xs.length ≤ m) && xs.all f) = _
      rw [Bool.true_and]
      congr 1
      apply decide_eq_decide.mpr
      omega
    rw [e]
    refine v_and (v_isi ha) fun _ => v_and (v_op (v_call (v_cons ha v_nil) rfl) hk rfl) fun _ => ?_
    refine v_op (v_fr (v_lc (p := fun d => !f d) (g := fun d => d) hv (v_it ha rfl) ?_ ?_ ?_)) (v_fr v_nil) (by rw [List.map_id', eq_nil, filter_nil])
    · cases hf with
      | tup h _ => exact h
    · intro d hd
      exact v_bNot (v_test (v_1 hF (v_var (h1 d)) (hy d (Sub.mem hf hd))))
    · intro d hd _
      exact v_var (h1 d)
  | _ =>
    show vE _ ρ (.bool (false && false))
    exact v_and (v_isi ha) (fun h => by cases h)
theorem pthing {O : Fm} {o : PyData → Bool} {x : PyData} (hO : Tells O o fun y => y = x) : m_is_thing m_is_whole m_is_word NUM O [.d x] = some (.d (.bool (thB o x)), []) := by
  refine w_fn ?_
  unfold b_is_thing
  refine w_ifRet (v_bOr (v_test (v_1 (D := fun _ => True) (fun y _ => whole_eq y) (v_var rfl) trivial)) fun _ => v_bOr (v_w (by decide) (v_var rfl)) fun _ => v_test (v_n (v_var rfl))) (fun h => ⟨v_c, by simp [thB, ioOut, h]⟩) (fun h1 => ?_)
  exact w_retV (v_or (v_n (v_var rfl)) fun _ => v_1 hO (v_var rfl) rfl) (by simp [thB, ioOut, h1])
theorem lthing {O : Fm} {o : PyData → Bool} {x : PyData} (hO : Tells O o fun y => y = x) : m__law_is_thing m__law_whole m__law_has LNUM O [.d x] = some (.d (.bool (thB o x)), []) := by
  refine w_fn ?_
  unfold b__law_is_thing
  refine w_ifRet (v_bOr (v_test (v_1 (D := fun _ => True) (fun y _ => lwhole_eq y) (v_var rfl) trivial)) fun _ => v_lw (by decide) (v_var rfl)) (fun h => ⟨v_c, ?_⟩) (fun h1 => ?_)
  · refine ⟨?_, rfl⟩
    congr 2
    unfold thB
    rw [← Bool.or_assoc (whole x), h]
    rfl
  · refine w_retV (v_or (v_ln (v_var rfl)) fun _ => v_or (v_ln (v_var rfl)) fun _ => v_1 hO (v_var rfl) rfl) ⟨?_, rfl⟩
    congr 2
    unfold thB
    rw [← Bool.or_assoc (whole x), h1, Bool.false_or]
theorem pare {T : Fm} {t : PyData → Bool} {x : PyData} (hx : Fine x) (hT : Tells T t fun y => Sub y x) : m_are_things T [.d x] = some (.d (.bool (seqB 4 t x)), []) := by
  refine w_fn ?_
  unfold b_are_things
  exact w_retV (v_seq (m := 4) hT (fun z hz => hz) hx rfl rfl (by decide) (fun d => rfl)) ⟨rfl, rfl⟩
theorem lare {T : Fm} {t : PyData → Bool} {x : PyData} (hx : Fine x) (hT : Tells T t fun y => Sub y x) : m__law_are T [.d x, .d (.int 4)] = some (.d (.bool (seqB 4 t x)), []) := by
  refine w_fn ?_
  unfold b__law_are
  exact w_retV (v_lseq (m := 4) hT (fun z hz => hz) hx (v_var rfl) (v_var rfl) rfl (fun d => rfl)) ⟨rfl, rfl⟩
theorem loff {T O A : Fm} {t o ar : PyData → Bool} {x : PyData} (hx : Fine x) (hT : Tells T t fun y => Sub y x) (hO : Tells O o fun y => Sub y x) (hA : ∀ y, Sub y x → A [.d y, .d (.int 4)] = some (.d (.bool (ar y)), [])) : m__law_is_offer m__law_has LNUM T O m__law_is_name A [.d x] = some (.d (.bool (offB t o ar x)), []) := by
  refine w_fn ?_
  unfold b__law_is_offer
  refine w_ifRet (v_bOr (v_lw (by decide) (v_var rfl)) fun _ => v_bOr (v_test (v_ln (v_var rfl))) fun _ => v_test (v_ln (v_var rfl))) (fun h => ⟨v_c, by simp [offB, ioOut, h]⟩) (fun h1 => ?_)
  refine w_ifRet (v_lw (by decide) (v_var rfl)) (fun h => ⟨v_and (v_ln (v_ix (v_var rfl) h (k := 1) (by decide))) fun _ => v_1 hT (v_ix (v_var rfl) h (k := 2) (by decide)) (Sub.arg hx h (by decide)), by simp [offB, ioOut, h1, h]⟩) (fun h2 => ?_)
  have nm : ∀ y, Fine y → m__law_is_name [.d y] = some (.d (.bool (isName y)), []) := fun y hy => lname_eq y hy.name
  refine w_ifRet (v_bOr (v_lw (by decide) (v_var rfl)) fun _ => v_lw (by decide) (v_var rfl)) (d := .bool (if isW x "take" 2 = true then isN (arg x 1) "channel" else isN (arg x 1) "thread")) (fun h => ?_) (fun h34 => ?_)
  · cases h3 : isW x "take" 2 with
    | true =>
      obtain ⟨r, rfl, hr⟩ := isW_shape h3
      refine ⟨v_callD (xs := [arg (.tuple (.str "take" :: r)) 1, .str "channel"]) (v_aD (v_ix (v_var rfl) h3 (k := 1) (by decide)) (v_aD (v_op (v_fr (v_cons v_c (v_cons v_c v_nil))) (v_call (v_cons (v_op (v_op (v_var rfl) v_c (ix0 _ r)) v_c rfl) v_nil) rfl) rfl) v_aNil)) (lnum_eq _ _), ?_⟩
      simp [offB, ioOut, h1, h2, h3]
    | false =>
      rw [h3] at h
      have h4 : isW x "over" 2 = true := h
      obtain ⟨r, rfl, hr⟩ := isW_shape h4
      refine ⟨v_callD (xs := [arg (.tuple (.str "over" :: r)) 1, .str "thread"]) (v_aD (v_ix (v_var rfl) h4 (k := 1) (by decide)) (v_aD (v_op (v_fr (v_cons v_c (v_cons v_c v_nil))) (v_call (v_cons (v_op (v_op (v_var rfl) v_c (ix0 _ r)) v_c rfl) v_nil) rfl) rfl) v_aNil)) (lnum_eq _ _), ?_⟩
      simp [offB, ioOut, h1, h2, h3, h4]
  have h3 : isW x "take" 2 = false := (Bool.or_eq_false_iff.mp h34).1
  have h4 : isW x "over" 2 = false := (Bool.or_eq_false_iff.mp h34).2
  refine w_ifRet (v_lw (by decide) (v_var rfl)) (fun h => ⟨v_1 hT (v_ix (v_var rfl) h (k := 1) (by decide)) (Sub.arg hx h (by decide)), by simp [offB, ioOut, h1, h2, h3, h4, h]⟩) (fun h5 => ?_)
  refine w_seq (w_ifV (v_lw (by decide) (v_var rfl)) (fun h => ?_) (fun h6 => w_next ?_))
  · have sa := Sub.arg hx h (k := 1) (by decide)
    have vx : ∀ ρ : Ev, ρ[0]? = some (.d x) → vE (mOp ixD (mVar 0) (mC (.int 1))) ρ (arg x 1) := fun ρ hρ => v_ix (v_var hρ) h (k := 1) (by decide)
    have eo : offB t o ar x = seqB 6 o (arg x 1) := by simp [offB, h1, h2, h3, h4, h5, h]
    rw [eo]
    cases hy : arg x 1 with
    | tuple xs =>
      have el : lenD [arg x 1] = some (.int xs.length) := by rw [hy]; rfl
      refine w_ifRet (v_bOr (v_bNot (v_test (v_isi (vx _ rfl)))) fun _ => v_test (v_op (v_call (v_cons (vx _ rfl) v_nil) el) v_c rfl)) (fun q => ⟨v_c, ?_⟩) (fun q => ?_)
      · have q : decide ((6 : Int) < (xs.length : Int)) = true := by rw [hy] at q; simpa [isTuple] using q
        have q := of_decide_eq_true q
        refine ⟨?_, rfl⟩
        congr 2
        show false = (decide (xs.length ≤ 6) && xs.all o)
        rw [decide_eq_false (by omega)]
        rfl
      · have q : decide ((6 : Int) < (xs.length : Int)) = false := (Bool.or_eq_false_iff.mp q).2
        have q := of_decide_eq_false q
        rw [hy] at sa
        refine w_retV (v_op (v_fr (v_lc (p := fun d => !o d) (g := fun d => d) rfl (v_it (vx _ rfl) (by rw [hy]; rfl)) ?_ ?_ ?_)) (v_fr v_nil) (by rw [List.map_id', eq_nil, filter_nil])) ⟨?_, rfl⟩
        · cases sa.fine with
          | tup h _ => exact h
        · intro d hd
          exact v_bNot (v_test (v_1 hO (v_var rfl) ((Sub.mem sa.fine hd).trans sa)))
        · intro d hd _
          exact v_var rfl
        · congr 2
          show xs.all o = (decide (xs.length ≤ 6) && xs.all o)
          rw [decide_eq_true (by omega)]
          rfl
    | _ =>
      refine w_ifRet (p := !isTuple (arg x 1) || false) (v_bOr (v_bNot (v_test (v_isi (vx _ rfl)))) fun q => by rw [hy] at q; cases q) (fun q => ⟨v_c, rfl, rfl⟩) (fun q => by rw [hy] at q; cases q)
  · refine w_ifRet (v_lw (by decide) (v_var rfl)) (fun h => ⟨v_and (v_1 hO (v_ix (v_var rfl) h (k := 1) (by decide)) (Sub.arg hx h (by decide))) fun _ => v_and (v_1 (D := Fine) nm (v_ix (v_var rfl) h (k := 2) (by decide)) (Sub.arg hx h (by decide)).fine) fun _ => v_callD (v_aD (v_ix (v_var rfl) h (k := 3) (by decide)) (v_aD v_c v_aNil)) (hA _ (Sub.arg hx h (by decide))), by simp [offB, ioOut, h1, h2, h3, h4, h5, h6, h]⟩) (fun h7 => ?_)
    refine w_ifRet (v_bOr (v_lw (by decide) (v_var rfl)) fun _ => v_lw (by decide) (v_var rfl)) (d := .bool (isName (arg x 1) && ar (arg x 2))) (fun h => ?_) (fun h8 => w_retV v_c (by simp [offB, ioOut, h1, h2, h3, h4, h5, h6, h7, h8]))
    have h' : isW x "guard" 3 = true ∨ isW x "notice" 3 = true := by simpa using h
    refine ⟨v_and (v_1 (D := Fine) nm (show vE (mOp ixD (mVar 0) (mC (.int 1))) _ (arg x 1) from ?_) ?_) fun _ => v_callD (v_aD (show vE (mOp ixD (mVar 0) (mC (.int 2))) _ (arg x 2) from ?_) (v_aD v_c v_aNil)) (hA _ ?_), by simp [offB, ioOut, h1, h2, h3, h4, h5, h6, h7, h]⟩
    · rcases h' with h' | h' <;> exact v_ix (v_var rfl) h' (k := 1) (by decide)
    · rcases h' with h' | h' <;> exact (Sub.arg hx h' (k := 1) (by decide)).fine
    · rcases h' with h' | h' <;> exact v_ix (v_var rfl) h' (k := 2) (by decide)
    · rcases h' with h' | h' <;> exact Sub.arg hx h' (k := 2) (by decide)
/-! ### the levels of the recursion -/
def lv : Nat → (PyData → Bool) × (PyData → Bool) × (PyData → Bool)
  | 0 => (fun _ => false, fun _ => false, fun _ => false)
  | n + 1 => (thB (lv n).2.2, seqB 4 (lv n).1, offB (lv n).1 (lv n).2.2 (lv n).2.1)
def pg : Nat → Fm × Fm × Fm
  | 0 => (fun _ => none, fun _ => none, fun _ => none)
  | n + 1 => (m_is_thing m_is_whole m_is_word NUM (pg n).2.2, m_are_things (pg n).1, m_is_offer m_is_word NUM (pg n).1 (pg n).2.2 m_is_name (pg n).2.1)
def lg : Nat → Fm × Fm × Fm
  | 0 => (fun _ => none, fun _ => none, fun _ => none)
  | n + 1 => (m__law_is_thing m__law_whole m__law_has LNUM (lg n).2.2, m__law_are (lg n).1, m__law_is_offer m__law_has LNUM (lg n).1 (lg n).2.2 m__law_is_name (lg n).2.1)
theorem pg_ok : ∀ n : Nat, Tells (pg n).1 (lv n).1 (fun y => Fine y ∧ 3 * y.depth + 2 ≤ n) ∧ Tells (pg n).2.1 (lv n).2.1 (fun y => Fine y ∧ 3 * y.depth + 1 ≤ n) ∧ Tells (pg n).2.2 (lv n).2.2 (fun y => Fine y ∧ 3 * y.depth + 1 ≤ n)
  | 0 => ⟨fun y h => by omega, fun y h => by omega, fun y h => by omega⟩
  | n + 1 => by
    obtain ⟨i1, i2, i3⟩ := pg_ok n
    refine ⟨fun y h => pthing fun z hz => ?_, fun y h => pare h.1 fun z hz => i1 z ⟨hz.fine, ?_⟩, fun y h => poff h.1 (fun z hz => i1 z ⟨hz.fine, ?_⟩) (fun z hz => i3 z ⟨hz.fine, ?_⟩) (fun z hz => i2 z ⟨hz.fine, ?_⟩)⟩
    · subst hz; exact i3 z ⟨h.1, by omega⟩
    all_goals (have := hz.dep; omega)
theorem lg_ok : ∀ n : Nat, Tells (lg n).1 (lv n).1 (fun y => Fine y ∧ 3 * y.depth + 2 ≤ n) ∧ (∀ y, Fine y ∧ 3 * y.depth + 1 ≤ n → (lg n).2.1 [.d y, .d (.int 4)] = some (.d (.bool ((lv n).2.1 y)), [])) ∧ Tells (lg n).2.2 (lv n).2.2 (fun y => Fine y ∧ 3 * y.depth + 1 ≤ n)
  | 0 => ⟨fun y h => by omega, fun y h => by omega, fun y h => by omega⟩
  | n + 1 => by
    obtain ⟨i1, i2, i3⟩ := lg_ok n
    refine ⟨fun y h => lthing fun z hz => ?_, fun y h => lare h.1 fun z hz => i1 z ⟨hz.fine, ?_⟩, fun y h => loff h.1 (fun z hz => i1 z ⟨hz.fine, ?_⟩) (fun z hz => i3 z ⟨hz.fine, ?_⟩) (fun z hz => i2 z ⟨hz.fine, ?_⟩)⟩
    · subst hz; exact i3 z ⟨h.1, by omega⟩
    all_goals (have := hz.dep; omega)
end L_k01

namespace L_k01
open PySem L2 Dn
/-! ### drawing -/
structure Pool (a b : Int) : Prop where
  a0 : 0 ≤ a
  b0 : 0 ≤ b
  b1 : b < 2147483647
theorem modI_pos {i j : Int} (h : 0 < j) : modI (.int i) (.int j) = some (.int (i % j)) := if_pos h
theorem divI_pos {i j : Int} (h : 0 < j) (h2 : j < 1073741824) : divI (.int i) (.int j) = some (.int (i / j)) := if_pos ⟨h, h2⟩
theorem mulD_l {i j : Int} (h : -(2 ^ 64) < i) (h2 : i < 2 ^ 64) : mulD (.int i) (.int j) = some (.int (i * j)) := by
  have e : mulI (.int i) (.int j) = some (.int (i * j)) := if_pos (.inl ⟨h, h2⟩)
  show (match mulI (.int i) (.int j) with | some z => some z | none => repT (.int i) (.int j)) = _
  rw [e]
theorem take_ok {a b m : Int} (hp : Pool a b) (h0 : 0 < m) (h1 : m < 1000000000) : ∃ r a' b', m__law_take [.io [.int a, .int b], .d (.int m)] = some (.d (.int r), [[.int a', .int b']]) ∧ 0 ≤ r ∧ r < m ∧ Pool a' b' := by
  by_cases ha : 0 < a
  · refine ⟨a % m, a / m, b, w_fn ?_, Int.emod_nonneg _ (by omega), Int.emod_lt_of_pos _ h0, Int.ediv_nonneg hp.a0 (by omega), hp.b0, hp.b1⟩
    unfold b__law_take
    refine w_seq (w_ifV (v_test (v_op (v_ixO rfl v_c rfl) v_c rfl)) (fun _ => ?_) (fun h => absurd ha (of_decide_eq_false h)))
    refine w_seq (w_setV (v_op (v_ixO rfl v_c rfl) (v_var rfl) (modI_pos h0)) rfl ?_)
    refine w_seq (w_setIx (w_v (v_op (v_ixO rfl v_c rfl) (v_var rfl) (divI_pos h0 (by omega))) ⟨⟨_, rfl⟩, w_c ⟨0, _, 0, rfl, rfl, rfl, ?_⟩⟩))
    exact w_retV (v_var rfl) ⟨rfl, rfl⟩
  · have q0 := Int.emod_nonneg (b * 48271 + 11) (b := 2147483647) (by decide)
    have q1 := Int.emod_lt_of_pos (b * 48271 + 11) (b := 2147483647) (by decide)
    have hb0 := hp.b0
    have hb1 := hp.b1
    refine ⟨(((b * 48271 + 11) % 2147483647) * ((b * 48271 + 11) % 2147483647)) % 2147483629 / 64 % m, a, (b * 48271 + 11) % 2147483647, w_fn ?_, Int.emod_nonneg _ (by omega), Int.emod_lt_of_pos _ h0, hp.a0, q0, q1⟩
    unfold b__law_take
    refine w_seq (w_ifV (v_test (v_op (v_ixO rfl v_c rfl) v_c rfl)) (fun h => absurd (of_decide_eq_true h) ha) (fun _ => w_next ?_))
    refine w_seq (w_setIx (w_v (v_op (v_op (v_op (v_ixO rfl v_c rfl) v_c (mulD_l (by omega) (by omega))) v_c rfl) v_c (modI_pos (by decide))) ⟨⟨_, rfl⟩, w_c ⟨1, _, 1, rfl, rfl, rfl, ?_⟩⟩))
    exact w_retV (v_op (v_op (v_op (v_op (v_ixO rfl v_c rfl) (v_ixO rfl v_c rfl) (mulD_l (by omega) (by omega))) v_c (modI_pos (by decide))) v_c (divI_pos (by decide) (by decide))) (v_var rfl) (modI_pos h0)) ⟨rfl, rfl⟩
/-- a draw: any number below m may come -/
theorem w_take {i : Nat} {e : M} {ρ : Ev} {a b m : Int} {Q : PyData → Ev → Prop} (hg : getO ρ i = some [.int a, .int b]) (hp : Pool a b) (he : vE e ρ (.int m)) (h0 : 0 < m) (h1 : m < 1000000000) (q : ∀ r a' b', 0 ≤ r → r < m → Pool a' b' → Q (.int r) (setO ρ i [.int a', .int b'])) : wE (mCallD m__law_take (aV i (aD e aNil))) ρ Q := by
  obtain ⟨r, a', b', h, r0, r1, hp'⟩ := take_ok hp h0 h1
  exact w_io hg (v_aD he v_aNil) h (q r a' b' r0 r1 hp')
theorem mulD_r {i j : Int} (h : -(2 ^ 64) < j) (h2 : j < 2 ^ 64) : mulD (.int i) (.int j) = some (.int (i * j)) := by
  have e : mulI (.int i) (.int j) = some (.int (i * j)) := if_pos (.inr ⟨h, h2⟩)
  show (match mulI (.int i) (.int j) with | some z => some z | none => repT (.int i) (.int j)) = _
  rw [e]
theorem powI_ok {i j : Int} (h : 0 ≤ j) (h2 : j ≤ 1000000) (h3 : i.natAbs < 2 ^ 64) : powI (.int i) (.int j) = some (.int (i ^ j.toNat)) := if_pos ⟨h, h2, h3⟩
theorem atI_int {ns : List Int} {k : Nat} (h : k < ns.length) : atI (ns.map PyData.int) ((k : Nat) : Int) = some (.int ns[k]) := by
  unfold atI ixN
  rw [if_pos (by omega), if_pos (by rw [List.length_map]; omega)]
  show (ns.map PyData.int)[k]? = _
  rw [List.getElem?_map, List.getElem?_eq_getElem h]
  rfl
theorem pool_ok {ns : List Int} {k : Nat} (hk : k < 100) : ∃ a b, m__law_pool [.d (.list (ns.map .int)), .d (.int k)] = some (.fl [.int a, .int b], []) ∧ Pool a b := by
  obtain ⟨c, hc⟩ : ∃ c : Int, ∀ (y : MS) (QS : Out → Prop), wS y [.d (.list (ns.map .int)), .d (.int k), .d (.int c), .un, .un] QS →
      wS (mSeq (mSet 2 (mC (.int 0))) (mSeq (mIfS (mTest (mOp ltD (mVar 1) (mCall lenD (mCons (mVar 0) mNil)))) (mSet 2 (mOp ixD (mVar 0) (mVar 1))) mNext) y)) [.d (.list (ns.map .int)), .d (.int k), .un, .un, .un] QS := by
    by_cases h : k < ns.length
    · refine ⟨ns[k], fun y QS q => w_seq (w_setV v_c rfl (w_seq (w_ifV (v_test (v_op (v_var rfl) (v_call (v_cons (v_var rfl) v_nil) rfl) rfl)) (fun _ => w_setV (v_op (v_var rfl) (v_var rfl) (atI_int h)) rfl q) (fun z => ?_))))⟩
      have z := of_decide_eq_false (show decide ((k : Int) < (((ns.map PyData.int).length : Nat) : Int)) = false from z)
      rw [List.length_map] at z
      omega
    · refine ⟨0, fun y QS q => w_seq (w_setV v_c rfl (w_seq (w_ifV (v_test (v_op (v_var rfl) (v_call (v_cons (v_var rfl) v_nil) rfl) rfl)) (fun z => ?_) (fun _ => w_next q))))⟩
      have z := of_decide_eq_true (show decide ((k : Int) < (((ns.map PyData.int).length : Nat) : Int)) = true from z)
      rw [List.length_map] at z
      omega
  have k2 : (104729 * (k : Int)) * (k : Int) = ((104729 * k * k : Nat) : Int) := by simp
  have k3 : 104729 * k * k ≤ 104729 * 100 * 100 := Nat.mul_le_mul (Nat.mul_le_mul_left _ (by omega)) (by omega)
  have m0 := Int.emod_nonneg c (b := 2147483629) (by decide)
  have m1 := Int.emod_lt_of_pos c (b := 2147483629) (by decide)
  refine ⟨(if c < 0 then -c else c) * (if decide ((10 : Int) ^ (18 : Int).toNat ≤ (if c < 0 then -c else c)) then 1 else 0), (c % 2147483629 + 104729 * (k : Int) * (k : Int) + 7919 * (k : Int) + 11) ^ (3 : Int).toNat % 2147483647, w_fn ?_, ?_, ?_, ?_⟩
  · unfold b__law_pool
    refine hc _ _ ?_
    refine w_seq (w_setV (v_call (v_cons (v_var rfl) v_nil) rfl) rfl ?_)
    refine w_seq (w_setV (v_op (v_op (v_op (v_op (v_op (v_op (v_var rfl) v_c (modI_pos (by decide))) (v_op (v_op v_c (v_var rfl) (mulD_l (by decide) (by decide))) (v_var rfl) (mulD_l (by omega) (by omega))) rfl) (v_op v_c (v_var rfl) (mulD_l (by decide) (by decide))) rfl) v_c rfl) v_c (powI_ok (by decide) (by decide) (by rw [k2]; omega))) v_c (modI_pos (by decide))) rfl ?_)
    refine w_retF (w_vL (v_cons (v_op (v_var rfl) (v_call (v_cons (v_op (v_var rfl) (v_op v_c v_c (powI_ok (by decide) (by decide) (by decide))) rfl) v_nil) rfl) (mulD_r ?_ ?_)) (v_cons (v_var rfl) v_nil)) ⟨rfl, rfl⟩)
    · generalize decide ((10 : Int) ^ (18 : Int).toNat ≤ (if c < 0 then -c else c)) = t
      cases t <;> decide
    · generalize decide ((10 : Int) ^ (18 : Int).toNat ≤ (if c < 0 then -c else c)) = t
      cases t <;> decide
  · generalize decide ((10 : Int) ^ (18 : Int).toNat ≤ (if c < 0 then -c else c)) = t
    refine Int.mul_nonneg ?_ ?_
    · split <;> omega
    · cases t <;> decide
  · exact Int.emod_nonneg _ (by decide)
  · exact Int.emod_lt_of_pos _ (by decide)
/-! ### what is drawn -/
mutual
/-- numbers, texts and all else are small -/
def okB : PyData → Bool
  | .none => true
  | .bool _ => true
  | .int i => decide (i.natAbs < 10 ^ 61)
  | .str z => decide (z.length ≤ 100) && z.cps.toList.all fun c => decide (c < 128)
  | .list xs => okBs xs
  | .tuple xs => decide (xs.length ≤ 1000000) && okBs xs
  | .dict kvs => kvs.isEmpty
def okBs : List PyData → Bool
  | [] => true
  | x :: xs => okB x && okBs xs
end
theorem okBs_iff : ∀ {xs : List PyData}, okBs xs = true ↔ ∀ x ∈ xs, okB x = true
  | [] => by simp [okBs]
  | x :: xs => by
    rw [okBs, Bool.and_eq_true, okBs_iff]
    simp
theorem int_len {i : Int} (h : i.natAbs < 10 ^ 61) : (PyData.shown (.int i)).length ≤ 70 := by
  have e := int_text_length_le10 (k := 61) (by decide) h
  show (Str.ofString (toString i)).length ≤ 70
  rw [PySem.ofString_length]
  omega
mutual
theorem ok_short : ∀ d : PyData, okB d = true → d.showable = true ∧ d.leavesShort 70 = true
  | .none, _ => ⟨rfl, rfl⟩
  | .bool _, _ => ⟨rfl, rfl⟩
  | .int i, h => by
    have h := of_decide_eq_true (show decide (i.natAbs < 10 ^ 61) = true from h)
    refine ⟨?_, decide_eq_true (int_len h)⟩
    show decide (i.natAbs.log2 < 1920) = true
    apply decide_eq_true
    by_cases h0 : i.natAbs = 0
    · rw [h0]; decide
    · exact Nat.lt_trans ((Nat.log2_lt h0).mpr (Nat.lt_of_lt_of_le h (show 10 ^ 61 ≤ 2 ^ 203 by decide))) (by decide)
  | .str z, h => by
    rw [okB, Bool.and_eq_true] at h
    refine ⟨rfl, ?_⟩
    show (z.cps.toList.all fun c => decide (c < 16 ^ 8)) = true
    rw [List.all_eq_true] at h ⊢
    intro c hc
    have := of_decide_eq_true (h.2 c hc)
    exact decide_eq_true (by omega)
  | .list xs, h => by
    rw [okB] at h
    have := ok_shorts xs h
    exact ⟨by rw [PyData.showable]; exact this.1, by rw [PyData.leavesShort]; exact this.2⟩
  | .tuple xs, h => by
    rw [okB, Bool.and_eq_true] at h
    have := ok_shorts xs h.2
    exact ⟨by rw [PyData.showable]; exact this.1, by rw [PyData.leavesShort]; exact this.2⟩
  | .dict kvs, h => by
    cases kvs with
    | nil => exact ⟨rfl, rfl⟩
    | cons a b => cases h
theorem ok_shorts : ∀ ds : List PyData, okBs ds = true → PyData.showableAll ds = true ∧ PyData.leavesShortAll 70 ds = true
  | [], _ => ⟨rfl, rfl⟩
  | d :: ds, h => by
    rw [okBs, Bool.and_eq_true] at h
    have h1 := ok_short d h.1
    have h2 := ok_shorts ds h.2
    exact ⟨by rw [PyData.showableAll, h1.1, h2.1]; rfl, by rw [PyData.leavesShortAll, h1.2, h2.2]; rfl⟩
end
mutual
theorem ok_fine : ∀ d : PyData, okB d = true → Fine d
  | .none, _ => .non
  | .bool b, _ => .bl b
  | .int i, _ => .int i
  | .str z, h => by
    rw [okB, Bool.and_eq_true] at h
    exact .str (Nat.le_trans (of_decide_eq_true h.1) (by decide))
  | .list xs, _ => .lst xs
  | .tuple xs, h => by
    rw [okB, Bool.and_eq_true] at h
    exact .tup (Nat.le_trans (of_decide_eq_true h.1) (by decide)) (ok_fines xs h.2)
  | .dict kvs, _ => .dct kvs
theorem ok_fines : ∀ ds : List PyData, okBs ds = true → ∀ x ∈ ds, Fine x
  | [], _, x, h => by cases h
  | d :: ds, h, x, hx => by
    rw [okBs, Bool.and_eq_true] at h
    rcases List.mem_cons.mp hx with hx | hx
    · rw [hx]; exact ok_fine d h.1
    · exact ok_fines ds h.2 x hx
end
end L_k01

namespace L_k01
open PySem L2 Dn
/-! ### draws -/
def Draws (F : Fm) (ds : List PyData) (P : PyData → Prop) : Prop := ∀ a b, Pool a b → ∃ d a' b', F (.io [.int a, .int b] :: ds.map Sv.d) = some (.d d, [[.int a', .int b']]) ∧ Pool a' b' ∧ P d
theorem io_data (ds : List PyData) (ρ : Ev) (h : ds.length ≤ ρ.length) : ioOut (ds.map Sv.d) ρ = some [] := by
  induction ds generalizing ρ with
  | nil => rfl
  | cons d ds ih =>
    cases ρ with
    | nil => simp at h
    | cons x ρ => exact ih ρ (by simpa using h)
theorem draws_fn {pad : Nat} {x : MS} {ds : List PyData} {P : PyData → Prop} (h : ∀ a b, Pool a b → wS x (.io [.int a, .int b] :: (ds.map Sv.d ++ List.replicate pad .un)) fun o => match o with | .rt (.d d) (.io [.int a', .int b'] :: ρ') => (Pool a' b' ∧ ds.length ≤ ρ'.length) ∧ P d | _ => False) : Draws (fnD pad x) ds P := by
  intro a b hp
  have h := h a b hp
  obtain ⟨o, e, q⟩ := h
  split at q
  · rename_i d a' b' ρ'
    refine ⟨d, a', b', ?_, q.1.1, q.2⟩
    unfold fnD
    rw [show (.io [.int a, .int b] :: ds.map Sv.d ++ List.replicate pad .un : Ev) = .io [.int a, .int b] :: (ds.map Sv.d ++ List.replicate pad .un) from rfl, e]
    show ((ioOut (ds.map Sv.d) ρ').map (_ :: ·)).map _ = _
    rw [io_data _ _ q.1.2]
    rfl
  · exact q.elim
theorem w_draw {F : Fm} {P : PyData → Prop} {i : Nat} {m : MA} {ρ : Ev} {a b : Int} {ds : List PyData} {Q : PyData → Ev → Prop} (hF : Draws F ds P) (hg : getO ρ i = some [.int a, .int b]) (hp : Pool a b) (hm : vA m ρ ds) (q : ∀ d a' b', Pool a' b' → P d → Q d (setO ρ i [.int a', .int b'])) : wE (mCallD F (aV i m)) ρ Q := by
  obtain ⟨d, a', b', h, hp', hd⟩ := hF a b hp
  exact w_io hg hm h (q d a' b' hp' hd)
def Numb (d : PyData) : Prop := ∃ n : Int, d = .int n ∧ 0 ≤ n ∧ n < 10 ^ 60
theorem number_ok : Draws (m__law_number m__law_take) [] Numb := by
  refine draws_fn fun a b hp => ?_
  unfold b__law_number
  refine w_ret (w_op (w_fr ?_))
  iterate 5 refine w_cons (w_c ?_)
  refine w_cons (w_v (v_op v_c v_c (powI_ok (by decide) (by decide) (by decide))) ?_)
  refine w_cons (w_op (w_v (v_op v_c v_c (powI_ok (by decide) (by decide) (by decide))) ?_))
  refine w_take rfl hp v_c (by decide) (by decide) fun r a1 b1 r0 r1 hp1 => ⟨_, rfl, w_nil ?_⟩
  refine w_take rfl hp1 v_c (by decide) (by decide) fun s a2 b2 s0 s1 hp2 => ?_
  obtain ⟨z, hz, mz⟩ := ix_mem (xs := [.int 0, .int 1, .int 9, .int 10, .int 12, .int (10 ^ (30 : Int).toNat), .int (10 ^ (59 : Int).toNat + r)]) s0 s1
  refine ⟨z, hz, ⟨hp2, Nat.le_of_ble_eq_true rfl⟩, ?_⟩
  have e1 : (10 : Int) ^ (30 : Int).toNat = 1000000000000000000000000000000 := by decide
  have e2 : (10 : Int) ^ (59 : Int).toNat = 100000000000000000000000000000000000000000000000000000000000 := by decide
  have e3 : (10 : Int) ^ 60 = 1000000000000000000000000000000000000000000000000000000000000 := by decide
  rw [e1, e2] at mz
  simp only [List.mem_cons, List.mem_nil_iff, or_false] at mz
  rcases mz with rfl | rfl | rfl | rfl | rfl | rfl | rfl
  all_goals exact ⟨_, rfl, by omega, by omega⟩
/-! ### size -/
structure Dr (h b : Nat) (d : PyData) : Prop where
  ok : okB d = true
  nl : noL d = true
  nd : d.hasDict = false
  dep : d.depth ≤ h
  blk : d.bulk ≤ b
structure DrL (h b : Nat) (d : List PyData) : Prop where
  ok : okBs d = true
  nl : noLs d = true
  nd : PyData.hasDictAll d = false
  dep : PyData.depthAll d ≤ h
  blk : PyData.bulkAll d ≤ b
theorem Dr.mono {h b h' b' : Nat} {d : PyData} (x : Dr h b d) (h1 : h ≤ h') (h2 : b ≤ b') : Dr h' b' d := ⟨x.ok, x.nl, x.nd, Nat.le_trans x.dep h1, Nat.le_trans x.blk h2⟩
theorem DrL.nil {h b : Nat} : DrL h b [] := ⟨rfl, rfl, rfl, Nat.zero_le _, Nat.zero_le _⟩
theorem DrL.cons {h b c : Nat} {d : PyData} {ds : List PyData} (x : Dr h b d) (y : DrL h c ds) : DrL h (b + 1 + c) (d :: ds) := by
  refine ⟨by rw [okBs, x.ok, y.ok]; rfl, by rw [noLs, x.nl, y.nl]; rfl, by rw [PyData.hasDictAll, x.nd, y.nd]; rfl, ?_, ?_⟩
  · rw [PyData.depthAll]; have := x.dep; have := y.dep; omega
  · rw [PyData.bulkAll]; have := x.blk; have := y.blk; omega
theorem DrL.of {h b : Nat} : ∀ {ds : List PyData}, (∀ x ∈ ds, Dr h b x) → DrL h (ds.length * (b + 1)) ds
  | [], _ => .nil
  | d :: ds, hd => by
    have y := DrL.cons (hd d List.mem_cons_self) (DrL.of fun x hx => hd x (List.mem_cons_of_mem _ hx))
    rw [List.length_cons, Nat.add_mul, Nat.one_mul, Nat.add_comm]
    exact y
theorem DrL.mono {h b h' b' : Nat} {d : List PyData} (x : DrL h b d) (h1 : h ≤ h') (h2 : b ≤ b') : DrL h' b' d := ⟨x.ok, x.nl, x.nd, Nat.le_trans x.dep h1, Nat.le_trans x.blk h2⟩
theorem Dr.tup {h b : Nat} {ds : List PyData} (x : DrL h b ds) (hl : ds.length ≤ 1000000) : Dr (h + 1) b (.tuple ds) :=
  ⟨by rw [okB, x.ok, decide_eq_true hl]; rfl, by rw [noL]; exact x.nl, by rw [PyData.hasDict]; exact x.nd, by rw [PyData.depth]; have := x.dep; omega, by rw [PyData.bulk]; exact x.blk⟩
theorem Dr.int {h b : Nat} {i : Int} (hi : i.natAbs < 10 ^ 61) : Dr h b (.int i) := ⟨decide_eq_true hi, rfl, rfl, Nat.zero_le _, Nat.zero_le _⟩
theorem Dr.str {h : Nat} {z : Str} (hz : (decide (z.length ≤ 8) && z.cps.toList.all fun c => decide (c < 128)) = true) : Dr h 8 (.str z) := by
  rw [Bool.and_eq_true] at hz
  have h1 := of_decide_eq_true hz.1
  refine ⟨by rw [okB, hz.2, decide_eq_true (show z.length ≤ 100 by omega)]; rfl, rfl, rfl, Nat.zero_le _, ?_⟩
  rw [PyData.bulk]
  exact h1
def B : Nat → Nat
  | 0 => 40
  | k + 1 => 7 * B k + 40
theorem B_ge (k : Nat) : 40 ≤ B k := by cases k <;> simp only [B] <;> omega
def Off (k : Nat) (d : PyData) : Prop := Dr (2 * k + 2) (B k) d ∧ ∀ n, 3 * k + 1 ≤ n → (lv n).2.2 d = true
def Th (k : Nat) (d : PyData) : Prop := Dr (2 * k + 2) (B k) d ∧ ∀ n, 3 * k + 2 ≤ n → (lv n).1 d = true
def Ths (k : Nat) (d : PyData) : Prop := Dr (2 * k + 3) (4 * (B k + 1)) d ∧ ∀ n, 3 * k + 3 ≤ n → (lv n).2.1 d = true
theorem lv_th {m k : Nat} {d : PyData} (h : ∀ n, thB (lv n).2.2 d = true) : ∀ n, m + 1 ≤ n → (lv n).1 d = true := by
  intro n hn
  obtain ⟨j, rfl⟩ : ∃ j, n = j + 1 := ⟨n - 1, by omega⟩
  exact h j
theorem nb_abs {n : Int} (h0 : 0 ≤ n) (h1 : n < 10 ^ 60) : n.natAbs < 10 ^ 61 := by
  have e3 : (10 : Int) ^ 60 = 1000000000000000000000000000000000000000000000000000000000000 := by decide
  have e4 : (10 : Nat) ^ 61 = 10000000000000000000000000000000000000000000000000000000000000 := by decide
  rw [e3] at h1
  rw [e4]
  omega
theorem nb_pair {z : Str} {n : Int} (hz : (decide (z.length ≤ 8) && z.cps.toList.all fun c => decide (c < 128)) = true) (hn : n.natAbs < 10 ^ 61) : Dr 1 10 (.tuple [.str z, .int n]) :=
  Dr.tup (DrL.cons (b := 8) (c := 1) (Dr.str hz) (DrL.cons (b := 0) (c := 0) (Dr.int hn) .nil)) (Nat.le_of_ble_eq_true rfl)
theorem thing_ok {O : Fm} {k : Nat} (hO : Draws O [.int k] (Off k)) : Draws (m__law_drawn_thing m__law_take (m__law_number m__law_take) O) [.int k] (Th k) := by
  refine draws_fn fun a b hp => ?_
  unfold b__law_drawn_thing
  refine w_seq (w_set (w_take rfl hp v_c (by decide) (by decide) fun r a1 b1 r0 r1 hp1 => ⟨_, rfl, ?_⟩))
  refine w_seq (w_set (w_draw number_ok rfl hp1 v_aNil fun d a2 b2 hp2 hd => ⟨_, rfl, ?_⟩))
  obtain ⟨n, rfl, n0, n1⟩ := hd
  have na := nb_abs n0 n1
  have hB := B_ge k
  refine w_seq (w_ifV (v_test (v_op (v_var rfl) v_c rfl)) (fun h => ?_) (fun h => w_next ?_))
  · have h := of_decide_eq_true h
    obtain ⟨z, hz, mz⟩ := ix_mem (xs := [.int n, .int (0 - n), .int 5]) r0 h
    refine w_retV (v_op (v_fr (v_cons (v_var rfl) (v_cons (v_op v_c (v_var rfl) rfl) (v_cons v_c v_nil)))) (v_var rfl) hz) ⟨⟨hp2, Nat.le_of_ble_eq_true rfl⟩, ?_⟩
    simp only [List.mem_cons, List.mem_nil_iff, or_false] at mz
    rcases mz with rfl | rfl | rfl
    all_goals exact ⟨Dr.int (by omega), lv_th (k := k) fun n => rfl⟩
  refine w_seq (w_ifV (v_test (v_op (v_var rfl) v_c rfl)) (fun h2 => ?_) (fun h2 => w_next ?_))
  · have h := of_decide_eq_false h
    have h2 := of_decide_eq_true h2
    obtain ⟨z, hz, mz⟩ := ix_mem (xs := [.tuple [.str "nothing"], .tuple [.str "channel", .int n], .tuple [.str "thread", .int n]]) (i := r - 3) (by omega) (by simp only [List.length_cons, List.length_nil]; omega)
    refine w_retV (v_op (v_fr (v_cons (v_tup (v_cons v_c v_nil)) (v_cons (v_tup (v_cons v_c (v_cons (v_var rfl) v_nil))) (v_cons (v_tup (v_cons v_c (v_cons (v_var rfl) v_nil))) v_nil)))) (v_op (v_var rfl) v_c rfl) hz) ⟨⟨hp2, Nat.le_of_ble_eq_true rfl⟩, ?_⟩
    simp only [List.mem_cons, List.mem_nil_iff, or_false] at mz
    rcases mz with rfl | rfl | rfl
    · exact ⟨(Dr.tup (DrL.cons (b := 8) (c := 0) (Dr.str (by decide +kernel)) .nil) (by decide)).mono (h := 1) (by omega) (by omega), lv_th (k := k) fun n => rfl⟩
    · refine ⟨(nb_pair (by decide +kernel) na).mono (by omega) (by omega), lv_th (k := k) fun m => ?_⟩
      show ((_ || (_ || decide (0 ≤ n))) || _) = true
      rw [decide_eq_true n0]
      simp
    · refine ⟨(nb_pair (by decide +kernel) na).mono (by omega) (by omega), lv_th (k := k) fun m => ?_⟩
      show (_ || (decide (0 ≤ n) || _)) = true
      rw [decide_eq_true n0]
      simp
  refine w_ret (w_draw hO rfl hp2 (v_aD (v_var rfl) v_aNil) fun d a3 b3 hp3 hd => ⟨⟨hp3, Nat.le_of_ble_eq_true rfl⟩, hd.1, fun m hm => ?_⟩)
  obtain ⟨j, rfl⟩ : ∃ j, m = j + 1 := ⟨m - 1, by omega⟩
  show (_ || (_ || (lv j).2.2 d)) = true
  rw [hd.2 j (by omega)]
  simp
theorem range_len (i : Int) (n : Nat) : (rangeD i n).length = n := by
  unfold rangeD
  rw [List.length_map, List.length_range]
/-- [F(pool, ..) for turn in range(take(pool, M))] -/
theorem w_drawLc {F : Fm} {P : PyData → Prop} {v : Nat} {m : MA} {ρ0 : Ev} {a b : Int} {ds : List PyData} {M : Nat} {Q : List PyData → Ev → Prop} (hF : Draws F ds P) (hp : Pool a b) (hv : ρ0[v]? = some .un) (h0 : 0 < M) (h1 : M < 1000) (hm : ∀ a b x, vA m (.io [.int a, .int b] :: ρ0.set v x) ds)
    (q : ∀ xs a' b', Pool a' b' → xs.length < M → (∀ x ∈ xs, P x) → Q xs (.io [.int a', .int b'] :: ρ0)) : wL (mLc (mRange1 (mCons (mCallD m__law_take (aV 0 (aD (mC (.int (M : Nat))) aNil))) mNil)) [v + 1] (gD (v + 1)) bYes (mCallD F (aV 0 m))) (.io [.int a, .int b] :: ρ0) Q := by
  have lv' : v < ρ0.length := (List.getElem?_eq_some_iff.mp hv).1
  have same : ρ0.set v .un = ρ0 := by
    apply List.ext_getElem?
    intro j
    by_cases hj : v = j
    · subst hj; rw [List.getElem?_set_self lv', hv]
    · rw [List.getElem?_set_ne hj]
  have hw : ∀ (a b : Int) (x : Sv), wipeE (.io [.int a, .int b] :: ρ0.set v x) [v + 1] = .io [.int a, .int b] :: ρ0 := fun a b x => by
    show (.io [.int a, .int b] :: (ρ0.set v x).set v .un : Ev) = _
    rw [List.set_set, same]
  refine w_lc (fun rem xs ρ => ∃ a b x, Pool a b ∧ ρ = .io [.int a, .int b] :: ρ0.set v x ∧ rem.length + xs.length < M ∧ ∀ x ∈ xs, P x) ?_ ?_ ?_
  · refine w_range1 (w_cons (w_take rfl hp v_c (by omega) (by omega) fun r a1 b1 r0 r1 hp1 => w_nil ⟨r, rfl, by omega, by omega, ?_, a1, b1, .un, hp1, ?_, ?_, ?_⟩))
    · rw [range_len]; show r.toNat ≤ 2 ^ 24; omega
    · show (.io [.int a1, .int b1] :: ρ0 : Ev) = _
      rw [same]
    · rw [range_len]; simp only [List.length_nil]; omega
    · intro x hx; cases hx
  · rintro xs ρ ⟨a, b, x, hp, rfl, hl, hx⟩
    rw [hw]
    exact q xs a b hp (by simpa using hl) hx
  · rintro d rem xs ρ ⟨a, b, x, hp, rfl, hl, hx⟩
    rw [hw]
    have hg : gD (v + 1) d (.io [.int a, .int b] :: ρ0) = some (.io [.int a, .int b] :: ρ0.set v (.d d)) := by
      unfold gD putD
      rw [List.getElem?_cons_succ, hv]
      rfl
    refine ⟨_, hg, true, _, rfl, fun _ => ?_, fun h => by cases h⟩
    refine w_draw hF rfl hp (hm a b _) fun z a' b' hp' hz => ⟨a', b', .d d, hp', rfl, ?_, ?_⟩
    · simp only [List.length_cons, List.length_append, List.length_nil] at hl ⊢; omega
    · intro x hx'
      rcases List.mem_append.mp hx' with hx' | hx'
      · exact hx x hx'
      · rw [List.mem_singleton.mp hx']; exact hz
theorem things_ok {T : Fm} {k : Nat} (hT : Draws T [.int k] (Th k)) : Draws (m__law_drawn_things T m__law_take) [.int k] (Ths k) := by
  refine draws_fn fun a b hp => ?_
  unfold b__law_drawn_things
  refine w_ret (w_call (w_cons (w_fr (w_drawLc (v := 1) (M := 5) hT hp rfl (by decide) (by decide) (fun a b x => v_aD (v_var rfl) v_aNil) fun xs a1 b1 hp1 hl hx => w_nil ⟨_, rfl, ⟨hp1, Nat.le_of_ble_eq_true rfl⟩, ?_, fun n hn => ?_⟩))))
  · refine (Dr.tup (DrL.of fun x h => (hx x h).1) (by omega)).mono (by omega) ?_
    exact Nat.mul_le_mul_right _ (by omega)
  · obtain ⟨j, rfl⟩ : ∃ j, n = j + 1 := ⟨n - 1, by omega⟩
    show (decide (xs.length ≤ 4) && xs.all (lv j).1) = true
    rw [decide_eq_true (by omega), Bool.true_and, List.all_eq_true]
    exact fun x h => (hx x h).2 j (by omega)
theorem lv_off {m : Nat} {d : PyData} (h : ∀ n, m ≤ n → offB (lv n).1 (lv n).2.2 (lv n).2.1 d = true) : ∀ n, m + 1 ≤ n → (lv n).2.2 d = true := by
  intro n hn
  obtain ⟨j, rfl⟩ : ∃ j, n = j + 1 := ⟨n - 1, by omega⟩
  exact h j (by omega)
theorem isName_c {z : Str} (h : isName (.str z) = true) : isName (.str z) = true := h
theorem off_ok {S T O : Fm} {k : Nat} (hS : ∀ j, k = j + 1 → Draws S [.int j] (Ths j)) (hT : ∀ j, k = j + 1 → Draws T [.int j] (Th j)) (hO : ∀ j, k = j + 1 → Draws O [.int j] (Off j)) : Draws (m__law_drawn_offer m__law_take (m__law_number m__law_take) S T O) [.int k] (Off k) := by
  refine draws_fn fun a b hp => ?_
  unfold b__law_drawn_offer
  refine w_seq (w_set (w_take rfl hp v_c (by decide) (by decide) fun r a1 b1 r0 r1 hp1 => ⟨_, rfl, ?_⟩))
  refine w_seq (w_set (w_draw number_ok rfl hp1 v_aNil fun d a2 b2 hp2 hd => ⟨_, rfl, ?_⟩))
  obtain ⟨n, rfl, n0, n1⟩ := hd
  have na := nb_abs n0 n1
  have hB := B_ge k
  refine w_seq (w_ifV (v_bOr (v_test (v_op (v_var rfl) v_c rfl)) fun _ => v_test (v_op (v_var rfl) v_c rfl)) (fun h => ?_) (fun h => w_next ?_))
  · have m0 := Int.emod_nonneg r (b := 5) (by decide)
    have m1 := Int.emod_lt_of_pos r (b := 5) (by decide)
    obtain ⟨z, hz, mz⟩ := ix_mem (xs := [.tuple [.str "never"], .tuple [.str "till", .int n], .tuple [.str "hear", .int n], .tuple [.str "take", .tuple [.str "channel", .int n]], .tuple [.str "over", .tuple [.str "thread", .int n]]]) (i := r % 5) m0 m1
    refine w_seq (w_setV (v_fr (v_cons (v_tup (v_cons v_c v_nil)) (v_cons (v_tup (v_cons v_c (v_cons (v_var rfl) v_nil))) (v_cons (v_tup (v_cons v_c (v_cons (v_var rfl) v_nil))) (v_cons (v_tup (v_cons v_c (v_cons (v_tup (v_cons v_c (v_cons (v_var rfl) v_nil))) v_nil))) v_nil))))) rfl ?_)
    refine w_retV (v_op (v_fr (v_opF (v_var rfl) (v_fr (v_cons (v_tup (v_cons v_c (v_cons (v_tup (v_cons v_c (v_cons (v_var rfl) v_nil))) v_nil))) v_nil)) rfl)) (v_op (v_var rfl) v_c (modI_pos (by decide))) hz) ⟨⟨hp2, Nat.le_of_ble_eq_true rfl⟩, ?_⟩
    simp only [List.mem_cons, List.mem_nil_iff, or_false] at mz
    rcases mz with rfl | rfl | rfl | rfl | rfl
    · exact ⟨(Dr.tup (DrL.cons (b := 8) (c := 0) (Dr.str (by decide +kernel)) .nil) (by decide)).mono (h := 1) (by omega) (by omega), lv_off fun n _ => rfl⟩
    · refine ⟨(nb_pair (by decide +kernel) na).mono (by omega) (by omega), lv_off fun m _ => ?_⟩
      show (if (_ || (decide (0 ≤ n) || _)) = true then true else _) = true
      rw [decide_eq_true n0]
      simp
    · refine ⟨(nb_pair (by decide +kernel) na).mono (by omega) (by omega), lv_off fun m _ => ?_⟩
      show (if (_ || (_ || decide (0 ≤ n))) = true then true else _) = true
      rw [decide_eq_true n0]
      simp
    · refine ⟨(Dr.tup (DrL.cons (b := 8) (c := 11) (Dr.str (by decide +kernel)) (DrL.cons (b := 10) (c := 0) (nb_pair (by decide +kernel) na) .nil)) (Nat.le_of_ble_eq_true rfl)).mono (by omega) (by omega), lv_off fun m _ => ?_⟩
      show decide (0 ≤ n) = true
      exact decide_eq_true n0
    · refine ⟨(Dr.tup (DrL.cons (b := 8) (c := 11) (Dr.str (by decide +kernel)) (DrL.cons (b := 10) (c := 0) (nb_pair (by decide +kernel) na) .nil)) (Nat.le_of_ble_eq_true rfl)).mono (by omega) (by omega), lv_off fun m _ => ?_⟩
      show decide (0 ≤ n) = true
      exact decide_eq_true n0
  rw [Bool.or_eq_false_iff] at h
  have hk := of_decide_eq_false h.1
  have hr := of_decide_eq_false h.2
  obtain ⟨j, rfl⟩ : ∃ j, k = j + 1 := ⟨k - 1, by omega⟩
  have hS := hS j rfl
  have hT := hT j rfl
  have hO := hO j rfl
  have hBj := B_ge j
  have e1 : subI (.int ((j + 1 : Nat) : Int)) (.int 1) = some (.int (j : Int)) := by
    show some (PyData.int (((j + 1 : Nat) : Int) - 1)) = _
    congr 2
    omega
  have eB : B (j + 1) = 7 * B j + 40 := rfl
  refine w_seq (w_ifV (v_test (v_op (v_var rfl) v_c rfl)) (fun h5 => ?_) (fun h5 => w_next ?_))
  · refine w_ret (w_tup (w_cons (w_c (w_cons (w_v (v_tup (v_cons v_c (v_cons (v_var rfl) v_nil))) (w_cons ?_))))))
    refine w_draw hT rfl hp2 (v_aD (v_op (v_var rfl) v_c e1) v_aNil) fun d a3 b3 hp3 hd => w_nil ⟨⟨hp3, Nat.le_of_ble_eq_true rfl⟩, ?_, lv_off fun m hm => ?_⟩
    · refine (Dr.tup (DrL.cons (b := 8) (Dr.str (by decide +kernel)) (DrL.cons (b := 10) ((nb_pair (by decide +kernel) na).mono (h' := 2 * j + 2) (by omega) (Nat.le_refl _)) (DrL.cons (b := B j) (c := 0) hd.1 .nil))) (Nat.le_of_ble_eq_true rfl)).mono (by omega) (by omega)
    · show (decide (0 ≤ n) && (lv m).1 d) = true
      rw [decide_eq_true n0, hd.2 m (by omega)]
      rfl
  refine w_seq (w_ifV (v_test (v_op (v_var rfl) v_c rfl)) (fun h6 => ?_) (fun h6 => w_next ?_))
  · refine w_ret (w_tup (w_cons (w_c (w_cons ?_))))
    refine w_draw hT rfl hp2 (v_aD (v_op (v_var rfl) v_c e1) v_aNil) fun d a3 b3 hp3 hd => w_nil ⟨⟨hp3, Nat.le_of_ble_eq_true rfl⟩, ?_, lv_off fun m hm => ?_⟩
    · refine (Dr.tup (DrL.cons (b := 8) (Dr.str (by decide +kernel)) (DrL.cons (b := B j) (c := 0) hd.1 .nil)) (Nat.le_of_ble_eq_true rfl)).mono (by omega) (by omega)
    · show (lv m).1 d = true
      exact hd.2 m (by omega)
  refine w_seq (w_ifV (v_test (v_op (v_var rfl) v_c rfl)) (fun h7 => ?_) (fun h7 => w_next ?_))
  · refine w_ret (w_tup (w_cons (w_c (w_cons (w_call (w_cons (w_fr (w_drawLc (v := 5) (M := 7) hO hp2 rfl (by decide) (by decide) (fun a b x => v_aD (v_op (v_var rfl) v_c e1) v_aNil) fun xs a3 b3 hp3 hl hx => w_nil ⟨_, rfl, w_nil ⟨⟨hp3, Nat.le_of_ble_eq_true rfl⟩, ?_, lv_off fun m hm => ?_⟩⟩))))))))
    · have h3 := (Dr.tup (DrL.of fun x h => (hx x h).1) (by omega)).mono (h' := 2 * j + 3) (b' := 6 * (B j + 1)) (by omega) (Nat.mul_le_mul_right _ (by omega))
      refine (Dr.tup (DrL.cons (b := 8) (Dr.str (by decide +kernel)) (DrL.cons (c := 0) h3 .nil)) (Nat.le_of_ble_eq_true rfl)).mono (by omega) (by omega)
    · show (decide (xs.length ≤ 6) && xs.all (lv m).2.2) = true
      rw [decide_eq_true (by omega), Bool.true_and, List.all_eq_true]
      exact fun x h => (hx x h).2 m (by omega)
  have h5 := of_decide_eq_false h5
  have h6 := of_decide_eq_false h6
  have h7 := of_decide_eq_false h7
  refine w_seq (w_set (w_op (w_v (v_fr (v_cons v_c (v_cons v_c (v_cons v_c (v_cons v_c v_nil))))) ?_)))
  refine w_take rfl hp2 v_c (by decide) (by decide) fun s a3 b3 s0 s1 hp3 => ?_
  obtain ⟨z, hz, mz⟩ := ix_mem (xs := [.str "a", .str "wraps", .str "zzzzzzzz", .str "send"]) (i := s) s0 s1
  refine ⟨z, hz, _, rfl, ?_⟩
  have hz : isName z = true ∧ ∀ h, Dr h 8 z := by
    simp only [List.mem_cons, List.mem_nil_iff, or_false] at mz
    rcases mz with rfl | rfl | rfl | rfl
    all_goals exact ⟨by decide +kernel, fun h => Dr.str (by decide +kernel)⟩
  refine w_seq (w_set (w_draw hS rfl hp3 (v_aD (v_op (v_var rfl) v_c e1) v_aNil) fun d a4 b4 hp4 hd => ⟨_, rfl, ?_⟩))
  refine w_seq (w_ifV (v_test (v_op (v_var rfl) v_c rfl)) (fun h9 => ?_) (fun h9 => w_next ?_))
  · refine w_ret (w_tup (w_cons (w_c (w_cons ?_))))
    refine w_draw hO rfl hp4 (v_aD (v_op (v_var rfl) v_c e1) v_aNil) fun o a5 b5 hp5 ho => w_cons (w_var rfl (w_cons (w_var rfl (w_nil ⟨⟨hp5, Nat.le_of_ble_eq_true rfl⟩, ?_, lv_off fun m hm => ?_⟩))))
    · refine (Dr.tup (DrL.cons (b := 8) (Dr.str (by decide +kernel)) (DrL.cons (b := B j) (ho.1.mono (by omega) (Nat.le_refl _)) (DrL.cons (b := 8) (hz.2 _) (DrL.cons (c := 0) hd.1 .nil)))) (Nat.le_of_ble_eq_true rfl)).mono (by omega) (by omega)
    · show ((lv m).2.2 o && (isName z && (lv m).2.1 d)) = true
      rw [ho.2 m (by omega), hz.1, hd.2 m (by omega)]
      rfl
  have h9 := of_decide_eq_false h9
  have hh : r = 10 ∨ r = 11 := by
    have a5 : ¬ r = 5 := h5
    have a6 : ¬ r = 6 := h6
    have a9 : ¬ r = 9 := h9
    omega
  have hg : ∃ w : Str, ixD (.list [.str "guard", .str "notice"]) (.int (r - 10)) = some (.str w) ∧ (w = "guard" ∨ w = "notice") := by
    rcases hh with rfl | rfl
    · exact ⟨_, rfl, .inl rfl⟩
    · exact ⟨_, rfl, .inr rfl⟩
  obtain ⟨w, hw, ww⟩ := hg
  refine w_retV (v_tup (v_cons (v_op (v_fr (v_cons v_c (v_cons v_c v_nil))) (v_op (v_var rfl) v_c rfl) hw) (v_cons (v_var rfl) (v_cons (v_var rfl) v_nil)))) ⟨⟨hp4, Nat.le_of_ble_eq_true rfl⟩, ?_, lv_off fun m hm => ?_⟩
  · have hw8 : ∀ h, Dr h 8 (.str w) := fun h => by rcases ww with rfl | rfl <;> exact Dr.str (by decide +kernel)
    refine (Dr.tup (DrL.cons (b := 8) (hw8 _) (DrL.cons (b := 8) (hz.2 _) (DrL.cons (c := 0) hd.1 .nil))) (Nat.le_of_ble_eq_true rfl)).mono (by omega) (by omega)
  · have : offB (lv m).1 (lv m).2.2 (lv m).2.1 (.tuple [.str w, z, d]) = (isName z && (lv m).2.1 d) := by rcases ww with rfl | rfl <;> rfl
    rw [this, hz.1, hd.2 m (by omega)]
    rfl
/-- the three that draw, by the levels left -/
def dg : Nat → Fm × Fm × Fm
  | 0 => (fun _ => none, fun _ => none, fun _ => none)
  | n + 1 => (m__law_drawn_thing m__law_take (m__law_number m__law_take) (dg n).2.2, m__law_drawn_things (dg n).1 m__law_take, m__law_drawn_offer m__law_take (m__law_number m__law_take) (dg n).2.1 (dg n).1 (dg n).2.2)
theorem dg_ok : ∀ n k : Nat, (3 * k + 2 ≤ n → Draws (dg n).1 [.int k] (Th k)) ∧ (3 * k + 3 ≤ n → Draws (dg n).2.1 [.int k] (Ths k)) ∧ (3 * k + 1 ≤ n → Draws (dg n).2.2 [.int k] (Off k))
  | 0, k => ⟨fun h => by omega, fun h => by omega, fun h => by omega⟩
  | n + 1, k => ⟨fun h => thing_ok ((dg_ok n k).2.2 (by omega)), fun h => things_ok ((dg_ok n k).1 (by omega)), fun h => off_ok (fun j e => (dg_ok n j).2.1 (by omega)) (fun j e => (dg_ok n j).1 (by omega)) (fun j e => (dg_ok n j).2.2 (by omega))⟩
end L_k01

namespace L_k01
open PySem L2 Dn
/-! ### odd items, and bent ones -/
structure Bt (h b : Nat) (d : PyData) : Prop where
  ok : okB d = true
  ex : (!d.hasDict || noL d) = true
  dep : d.depth ≤ h
  blk : d.bulk ≤ b
theorem Bt.mono {h b h' b' : Nat} {d : PyData} (x : Bt h b d) (h1 : h ≤ h') (h2 : b ≤ b') : Bt h' b' d := ⟨x.ok, x.ex, Nat.le_trans x.dep h1, Nat.le_trans x.blk h2⟩
theorem Dr.bt {h b : Nat} {d : PyData} (x : Dr h b d) : Bt h b d := ⟨x.ok, by rw [x.nd]; rfl, x.dep, x.blk⟩
def ODD : List PyData := [.none, .int (-1), .bool true, .str "", .str "send", .str "nothing", .tuple [.str "nothing"], .tuple [.str "nothing", .int 0], .tuple [.str "channel"], .tuple [.str "channel", .bool true], .list [], .tuple [.str "channel", .int (-1)], .tuple [.str "thread", .int 0], .tuple [.str "never"], .tuple [.str "choose", .tuple []], .tuple [.str "choose", .tuple [.tuple [.str "never"], .tuple [.str "never"], .tuple [.str "never"], .tuple [.str "never"], .tuple [.str "never"], .tuple [.str "never"], .tuple [.str "never"]]], .dict [], .tuple [.str "till", .int 0], .tuple [.str "till", .int (-1)], .tuple [.str "send", .int 0, .int 1], .tuple [.str "take", .tuple [.str "thread", .int 0]], .tuple [.str "over", .tuple [.str "channel", .int 0]], .int 7, .tuple [.str "wrap", .tuple [.str "never"], .str "nothing", .tuple []], .tuple [.str "guard", .str "abcdefghi", .tuple []], .tuple [.str "notice", .str "Plan", .tuple []], .tuple [.list [], .int 0], .tuple [.str "wrap", .tuple [.str "never"], .str "a", .tuple [.int 1, .int 1, .int 1, .int 1, .int 1]], .tuple [.str "wrap", .int 1, .str "a", .tuple []], .list [.str "take", .tuple [.str "channel", .int 0]], .tuple [], .tuple [.dict [], .int 1], .tuple [.str "always", .none], .tuple [.str "choose", .list [.tuple [.str "never"]]], .tuple [.str "hear", .str "0"], .str "a"]
def btB (d : PyData) : Bool := okB d && (!d.hasDict || noL d) && decide (d.depth ≤ 3) && decide (d.bulk ≤ 100)
theorem odd_bt : ODD.all btB = true := by decide +kernel
theorem bt_of {d : PyData} (h : btB d = true) : Bt 3 100 d := by
  unfold btB at h
  simp only [Bool.and_eq_true] at h
  exact ⟨h.1.1.1, h.1.1.2, of_decide_eq_true h.1.2, of_decide_eq_true h.2⟩
abbrev ODDF : Fm := m__law_odd m__law_take
theorem odd_ok : Draws ODDF [] (Bt 3 100) := by
  refine draws_fn fun a b hp => ?_
  unfold b__law_odd
  refine w_seq ⟨.nx [.io [.int a, .int b], .d (.list (ODD.take 11))], rfl, ?_⟩
  refine w_seq ⟨.nx [.io [.int a, .int b], .d (.list (ODD.take 17))], rfl, ?_⟩
  refine w_seq ⟨.nx [.io [.int a, .int b], .d (.list (ODD.take 23))], rfl, ?_⟩
  refine w_seq ⟨.nx [.io [.int a, .int b], .d (.list (ODD.take 27))], rfl, ?_⟩
  refine w_seq ⟨.nx [.io [.int a, .int b], .d (.list (ODD.take 32))], rfl, ?_⟩
  refine w_ret (w_op (w_v (show vE _ _ (.list ODD) from rfl) ?_))
  refine w_take rfl hp v_c (by decide) (by decide) fun r a1 b1 r0 r1 hp1 => ?_
  obtain ⟨z, hz, mz⟩ := ix_mem (xs := ODD) (i := r) r0 r1
  exact ⟨z, hz, ⟨hp1, Nat.zero_le _⟩, bt_of (List.all_eq_true.mp odd_bt z mz)⟩
section
variable {h b c : Nat} {d : PyData} {xs ys zs : List PyData}
theorem okBs_app : okBs (xs ++ ys) = (okBs xs && okBs ys) := by
  induction xs with
  | nil => rfl
  | cons x xs ih => rw [List.cons_append, okBs, okBs, ih, Bool.and_assoc]
theorem noLs_app : noLs (xs ++ ys) = (noLs xs && noLs ys) := by
  induction xs with
  | nil => rfl
  | cons x xs ih => rw [List.cons_append, noLs, noLs, ih, Bool.and_assoc]
theorem dict_app : PyData.hasDictAll (xs ++ ys) = (PyData.hasDictAll xs || PyData.hasDictAll ys) := by
  induction xs with
  | nil => rfl
  | cons x xs ih => rw [List.cons_append, PyData.hasDictAll, PyData.hasDictAll, ih, Bool.or_assoc]
theorem depth_app : PyData.depthAll (xs ++ ys) = max (PyData.depthAll xs) (PyData.depthAll ys) := by
  induction xs with
  | nil => rw [List.nil_append, PyData.depthAll]; omega
  | cons x xs ih => rw [List.cons_append, PyData.depthAll, PyData.depthAll, ih]; omega
theorem bulk_app : PyData.bulkAll (xs ++ ys) = PyData.bulkAll xs + PyData.bulkAll ys := by
  induction xs with
  | nil => rw [List.nil_append, PyData.bulkAll]; omega
  | cons x xs ih => rw [List.cons_append, PyData.bulkAll, PyData.bulkAll, ih]; omega
theorem len_bulk : ∀ xs : List PyData, xs.length ≤ PyData.bulkAll xs
  | [] => Nat.zero_le _
  | x :: xs => by
    have := len_bulk xs
    rw [PyData.bulkAll, List.length_cons]
    omega
theorem DrL.app (x : DrL h b xs) (y : DrL h c ys) : DrL h (b + c) (xs ++ ys) :=
  ⟨by rw [okBs_app, x.ok, y.ok]; rfl, by rw [noLs_app, x.nl, y.nl]; rfl, by rw [dict_app, x.nd, y.nd]; rfl, by rw [depth_app]; have := x.dep; have := y.dep; omega, by rw [bulk_app]; have := x.blk; have := y.blk; omega⟩
theorem DrL.split (x : DrL h b (xs ++ ys)) : ∃ b1 b2, b1 + b2 ≤ b ∧ DrL h b1 xs ∧ DrL h b2 ys := by
  have h1 := x.ok
  have h2 := x.nl
  have h3 := x.nd
  have h4 := x.dep
  have h5 := x.blk
  rw [okBs_app, Bool.and_eq_true] at h1
  rw [noLs_app, Bool.and_eq_true] at h2
  rw [dict_app, Bool.or_eq_false_iff] at h3
  rw [depth_app] at h4
  rw [bulk_app] at h5
  exact ⟨_, _, h5, ⟨h1.1, h2.1, h3.1, by omega, Nat.le_refl _⟩, ⟨h1.2, h2.2, h3.2, by omega, Nat.le_refl _⟩⟩
theorem DrL.one (x : DrL h b (d :: xs)) : ∃ b1 b2, b1 + 1 + b2 ≤ b ∧ Dr h b1 d ∧ DrL h b2 xs := by
  have h1 := x.ok
  have h2 := x.nl
  have h3 := x.nd
  have h4 := x.dep
  have h5 := x.blk
  rw [okBs, Bool.and_eq_true] at h1
  rw [noLs, Bool.and_eq_true] at h2
  rw [PyData.hasDictAll, Bool.or_eq_false_iff] at h3
  rw [PyData.depthAll] at h4
  rw [PyData.bulkAll] at h5
  exact ⟨_, _, h5, ⟨h1.1, h2.1, h3.1, by omega, Nat.le_refl _⟩, ⟨h1.2, h2.2, h3.2, by omega, Nat.le_refl _⟩⟩
theorem DrL.rev : ∀ {xs : List PyData} {b : Nat}, DrL h b xs → DrL h b xs.reverse
  | [], _, x => x
  | y :: ys, b, x => by
    obtain ⟨b1, b2, hb, h1, h2⟩ := x.one
    rw [List.reverse_cons]
    exact (h2.rev.app (DrL.cons h1 .nil (c := 0))).mono (Nat.le_refl _) (by omega)
/-- one bent item among good ones -/
theorem Bt.mid {h' : Nat} {b1 b2 b3 : Nat} (hy : DrL h b1 ys) (hd : Bt h' b2 d) (hz : DrL h b3 zs) (hh : h ≤ h') (hl : b1 + b2 + 1 + b3 ≤ 1000000) : Bt (h' + 1) (b1 + b2 + 1 + b3) (.tuple (ys ++ d :: zs)) := by
  have e : PyData.bulkAll (ys ++ d :: zs) ≤ b1 + b2 + 1 + b3 := by
    rw [bulk_app, PyData.bulkAll]
    have := hy.blk; have := hd.blk; have := hz.blk
    omega
  refine ⟨?_, ?_, ?_, ?_⟩
  · rw [okB, okBs_app, okBs, hy.ok, hd.ok, hz.ok, decide_eq_true (Nat.le_trans (len_bulk _) (Nat.le_trans e hl))]
    rfl
  · rw [PyData.hasDict, noL, dict_app, noLs_app, PyData.hasDictAll, noLs, hy.nd, hy.nl, hz.nd, hz.nl, Bool.or_false, Bool.and_true, Bool.false_or, Bool.true_and]
    exact hd.ex
  · rw [PyData.depth, depth_app, PyData.depthAll]
    have := hy.dep; have := hd.dep; have := hz.dep
    omega
  · rw [PyData.bulk]
    exact e
end
theorem at_split {xs : List PyData} {i : Int} (h0 : 0 ≤ i) (h1 : i < xs.length) : ∃ ys x zs, xs = ys ++ x :: zs ∧ ys.length = i.toNat ∧ atI xs i = some x := by
  have hl : i.toNat < xs.length := by omega
  refine ⟨xs.take i.toNat, xs[i.toNat], xs.drop (i.toNat + 1), ?_, ?_, ?_⟩
  · rw [← List.drop_eq_getElem_cons hl, List.take_append_drop]
  · rw [List.length_take]; omega
  · unfold atI ixN
    rw [if_pos h0, if_pos (by omega)]
    exact List.getElem?_eq_getElem hl
theorem seq_ix {i : Int} {n : Nat} (h0 : 0 ≤ i) (h1 : i < n) : seqIndex? i n = some i.toNat := by
  unfold seqIndex?
  have : ¬ i < 0 := by omega
  simp [this, h0, h1]
theorem eq_nilB (xs : List PyData) : eqB (.list xs) (.list []) = some xs.isEmpty := by
  cases xs <;> rfl
theorem bent_ok {W : Fm} {h b : Nat} {d : PyData} {k : Nat} (hb : b ≤ 200000) (hd : Dr h b d) (hW : ∀ j h' b' x, k = j + 1 → b' ≤ b → Dr h' b' x → h' + 1 ≤ h → Draws W [x, .int j] (Bt (h' + 4) (2 * b' + 101))) : Draws (m__law_bent m__law_take ODDF W) [d, .int k] (Bt (h + 4) (2 * b + 101)) := by
  refine draws_fn fun a0 b0 hp => ?_
  unfold b__law_bent
  cases d with
  | tuple xs =>
    have hx : ∃ h', h = h' + 1 ∧ DrL h' b xs := by
      have h1 := hd.dep
      rw [PyData.depth] at h1
      have h2 := hd.ok
      rw [okB, Bool.and_eq_true] at h2
      have h3 := hd.nl
      rw [noL] at h3
      have h4 := hd.nd
      rw [PyData.hasDict] at h4
      have h5 := hd.blk
      rw [PyData.bulk] at h5
      exact ⟨h - 1, by omega, h2.2, h3, h4, by omega, h5⟩
    obtain ⟨h', rfl, hx⟩ := hx
    have hlen : xs.length ≤ b := Nat.le_trans (len_bulk xs) hx.blk
    refine w_seq (w_ifS (w_bOr (w_vB (v_bNot (v_test (v_isi (v_var rfl)))) ⟨fun _ => ?_, fun z => by cases z⟩)))
    refine w_bOr (w_vB (v_test (v_op (v_var rfl) v_c rfl)) ⟨fun k0 => ?_, fun _ => ⟨fun _ => w_ret (w_draw odd_ok rfl hp v_aNil fun z a2 b2 hp2 hz => ⟨⟨hp2, Nat.le_of_ble_eq_true rfl⟩, hz.mono (by omega) (by omega)⟩), fun z => by cases z⟩⟩)
    have k0 := of_decide_eq_false k0
    refine w_test (w_op (w_take rfl hp v_c (by decide) (by decide) fun r a1 b1 r0 r1 hp1 => w_c ⟨_, rfl, _, rfl, fun _ => w_ret (w_draw odd_ok rfl hp1 v_aNil fun z a2 b2 hp2 hz => ⟨⟨hp2, Nat.le_of_ble_eq_true rfl⟩, hz.mono (by omega) (by omega)⟩), fun _ => w_next ?_⟩))
    obtain ⟨j, rfl⟩ : ∃ j, k = j + 1 := ⟨k - 1, by have : ¬ ((k : Nat) : Int) = 0 := k0; omega⟩
    refine w_seq (w_setF (w_callF (w_cons (w_var rfl (w_nil ⟨xs, rfl, _, rfl, ?_⟩)))))
    have hmx : ∃ m : Int, max2D [.int 1, .int xs.length] = some (.int m) ∧ 0 < m ∧ m < 1000000000 ∧ (xs ≠ [] → m = xs.length) := by
      refine ⟨_, rfl, ?_, ?_, ?_⟩
      · split <;> omega
      · split <;> omega
      · intro hne
        have := List.length_pos_iff.mpr hne
        split <;> omega
    obtain ⟨m, hm, m0, m1, m2⟩ := hmx
    refine w_seq (w_set (w_take rfl hp1 (v_call (v_cons v_c (v_cons (v_lenO rfl) v_nil)) hm) m0 m1 fun i a2 b2 i0 i1 hp2 => ⟨_, rfl, ?_⟩))
    refine w_seq (w_set (w_take rfl hp2 v_c (by decide) (by decide) fun y a3 b3 y0 y1 hp3 => ⟨_, rfl, ?_⟩))
    have hins : ∀ z, Bt 3 100 z → Bt (h' + 1 + 4) (2 * b + 101) (.tuple (xs.take i.toNat ++ [z] ++ xs.drop i.toNat)) := fun z hz => by
      obtain ⟨c1, c2, hc, f1, f2⟩ := (show DrL h' b (xs.take i.toNat ++ xs.drop i.toNat) by rw [List.take_append_drop]; exact hx).split
      rw [List.append_assoc]
      exact (Bt.mid f1 (hz.mono (h' := h' + 4) (by omega) (Nat.le_refl _)) f2 (by omega) (by omega)).mono (by omega) (by omega)
    refine w_seq (w_ifS (w_bOr (w_vB (v_test (v_op (v_var rfl) v_c rfl)) ⟨fun w0 => w_test (w_eqO rfl (w_v (v_fr v_nil) ⟨xs, xs.isEmpty, rfl, eq_nilB xs, xs.isEmpty, rfl, ?_, ?_⟩)), fun w0 => ⟨fun _ => ?_, fun z => by cases z⟩⟩)))
    · exact fun _ => w_drop (w_own rfl (w_cons (w_var rfl (w_cons (w_draw odd_ok rfl hp3 v_aNil fun z a4 b4 hp4 hz => w_nil ⟨xs, .none, _, rfl, if_pos ⟨Nat.lt_of_le_of_lt hlen (Nat.lt_of_le_of_lt hb (by decide)), i0, by omega⟩, w_ret (w_tupO rfl ⟨⟨hp4, Nat.le_of_ble_eq_true rfl⟩, hins z hz⟩)⟩)))))
    · intro hne
      have hne : xs ≠ [] := by rintro rfl; cases hne
      have hm := m2 hne
      obtain ⟨ys, x, zs, e, hy, hxa⟩ := at_split (xs := xs) i0 (by omega)
      have hi : i.toNat < xs.length := by omega
      obtain ⟨b1, b2, hb12, d1, d2⟩ := (e ▸ hx).split
      obtain ⟨b3, b4, hb34, d3, d4⟩ := d2.one
      refine w_ifS (w_vB (v_test (v_op (v_var rfl) v_c rfl)) ⟨fun w1 => ?_, fun w1 => ?_⟩)
      · refine w_drop (w_own rfl (w_cons (w_var rfl (w_nil ⟨xs, x, xs.eraseIdx i.toNat, rfl, ?_, w_ret (w_tupO rfl ⟨⟨hp3, Nat.le_of_ble_eq_true rfl⟩, ?_⟩)⟩))))
        · show (if -(2 ^ 63) ≤ i ∧ i < 2 ^ 63 then _ else none) = _
          rw [if_pos ⟨by omega, by omega⟩, seq_ix i0 (by omega)]
          have : xs[i.toNat]? = some x := by rw [e, ← hy, List.getElem?_append_right (Nat.le_refl _), Nat.sub_self]; rfl
          simp only [this]
        · have : xs.eraseIdx i.toNat = ys ++ zs := by
            rw [e, ← hy, List.eraseIdx_append_of_length_le (Nat.le_refl _), Nat.sub_self]
            rfl
          rw [this]
          have q := d1.app d4
          exact ((Dr.tup q (Nat.le_trans (len_bulk _) (Nat.le_trans q.blk (by omega)))).bt).mono (by omega) (by omega)
      refine w_ifS (w_vB (v_test (v_op (v_var rfl) v_c rfl)) ⟨fun w2 => ?_, fun w2 => ?_⟩)
      · refine w_drop (w_own rfl (w_cons (w_var rfl (w_cons (w_v (v_ixO rfl (v_var rfl) hxa) (w_nil ⟨xs, .none, _, rfl, if_pos ⟨Nat.lt_of_le_of_lt hlen (Nat.lt_of_le_of_lt hb (by decide)), i0, by omega⟩, w_ret (w_tupO rfl ⟨⟨hp3, Nat.le_of_ble_eq_true rfl⟩, ?_⟩)⟩))))))
        obtain ⟨c1, c2, hc, f1, f2⟩ := (show DrL h' b (xs.take i.toNat ++ xs.drop i.toNat) by rw [List.take_append_drop]; exact hx).split
        rw [List.append_assoc]
        exact (Bt.mid f1 (d3.bt.mono (h' := h' + 4) (by omega) (Nat.le_refl _)) f2 (by omega) (by omega)).mono (by omega) (by omega)
      refine w_ifS (w_vB (v_test (v_op (v_var rfl) v_c rfl)) ⟨fun w3 => ?_, fun w3 => ?_⟩)
      · refine w_setCut (w_rev (w_fr (w_slO rfl (w_oSome (w_var rfl ⟨_, rfl, w_oSome (w_v (v_op (v_var rfl) v_c rfl) ⟨_, rfl, xs, rfl, _, rfl, ⟨_, rfl⟩, ?_⟩)⟩)))))
        refine w_oSome (w_var rfl ⟨_, rfl, w_oSome (w_v (v_op (v_var rfl) v_c rfl) ⟨_, rfl, xs, rfl, ?_, w_ret (w_tupO rfl ⟨⟨hp3, Nat.le_of_ble_eq_true rfl⟩, ?_⟩)⟩)⟩)
        · have : (cutD xs (some i) (some (i + 2))).length ≤ xs.length := by
            unfold cutD
            rw [List.length_take, List.length_drop]
            omega
          rw [List.length_reverse]
          show _ ≤ 2 ^ 24
          omega
        · unfold spl cutD
          generalize HT.sIx xs.length 0 (some i) = lo
          generalize HT.sIx xs.length xs.length (some (i + 2)) = hi
          have es : xs = xs.take lo ++ ((xs.drop lo).take (hi - lo) ++ xs.drop (max lo hi)) := by
            have e1 : xs.drop (max lo hi) = (xs.drop lo).drop (hi - lo) := by
              rw [List.drop_drop]
              congr 1
              omega
            rw [e1, List.take_append_drop, List.take_append_drop]
          obtain ⟨c1, c2, hc, f1, f2⟩ := (show DrL h' b (xs.take lo ++ ((xs.drop lo).take (hi - lo) ++ xs.drop (max lo hi))) from es ▸ hx).split
          obtain ⟨c3, c4, hc', f3, f4⟩ := f2.split
          have q := (f1.app f3.rev).app f4
          exact ((Dr.tup q (Nat.le_trans (len_bulk _) (Nat.le_trans q.blk (by omega)))).bt).mono (by omega) (by omega)
      refine w_ifS (w_vB (v_test (v_op (v_var rfl) v_c rfl)) ⟨fun w4 => ?_, fun w4 => ?_⟩)
      · refine w_ret (w_fr (w_callF (w_cons (w_var rfl (w_nil ⟨xs, rfl, ⟨⟨hp3, Nat.le_of_ble_eq_true rfl⟩, ?_⟩⟩)))))
        refine ⟨?_, ?_, ?_, ?_⟩
        · rw [okB]; exact hx.ok
        · rw [PyData.hasDict, hx.nd]; rfl
        · rw [PyData.depth]; have := hx.dep; omega
        · rw [PyData.bulk]; have := hx.blk; omega
      have e1 : subI (.int ((j + 1 : Nat) : Int)) (.int 1) = some (.int (j : Int)) := by
        show some (PyData.int (((j + 1 : Nat) : Int) - 1)) = _
        congr 2
        omega
      refine w_setIx (w_draw (hW j h' b3 x rfl (by omega) d3 (by omega)) rfl hp3 (v_aD (v_ixO rfl (v_var rfl) hxa) (v_aD (v_op (v_var rfl) v_c e1) v_aNil)) fun z a4 b4' hp4 hz => ⟨⟨_, rfl⟩, w_var rfl ⟨_, xs, i.toNat, rfl, rfl, ?_, w_ret (w_tupO rfl ⟨⟨hp4, Nat.le_of_ble_eq_true rfl⟩, ?_⟩)⟩⟩)
      · unfold ixN
        rw [if_pos i0, if_pos (by omega)]
      · have : xs.set i.toNat z = ys ++ z :: zs := by
          rw [e, ← hy, List.set_append_right _ _ (Nat.le_refl _), Nat.sub_self]
          rfl
        rw [this]
        exact (Bt.mid d1 hz d4 (by omega) (by omega)).mono (by omega) (by omega)
    · exact w_drop (w_own rfl (w_cons (w_var rfl (w_cons (w_draw odd_ok rfl hp3 v_aNil fun z a4 b4 hp4 hz => w_nil ⟨xs, .none, _, rfl, if_pos ⟨Nat.lt_of_le_of_lt hlen (Nat.lt_of_le_of_lt hb (by decide)), i0, by omega⟩, w_ret (w_tupO rfl ⟨⟨hp4, Nat.le_of_ble_eq_true rfl⟩, hins z hz⟩)⟩)))))
  | _ => 
    refine w_seq (w_ifS (w_bOr (w_vB (v_bNot (v_test (v_isi (v_var rfl)))) ⟨fun z => (by cases z), fun _ => ⟨fun _ => ?_, fun z => by cases z⟩⟩)))
    exact w_ret (w_draw odd_ok rfl hp v_aNil fun z a2 b2 hp2 hz => ⟨⟨hp2, Nat.le_of_ble_eq_true rfl⟩, hz.mono (by omega) (by omega)⟩)
/-- the one that bends, by the levels left -/
def bg : Nat → Fm
  | 0 => fun _ => none
  | n + 1 => m__law_bent m__law_take ODDF (bg n)
theorem bg_ok : ∀ (n k h b : Nat) (d : PyData), k + 1 ≤ n → b ≤ 200000 → Dr h b d → Draws (bg n) [d, .int k] (Bt (h + 4) (2 * b + 101))
  | 0, k, h, b, d, hn, _, _ => by omega
  | n + 1, k, h, b, d, hn, hb, hd => bent_ok hb hd fun j h' b' x e hb' hx _ => bg_ok n j h' b' x (by omega) (by omega) hx
end L_k01

namespace L_k01
open PySem L2 Dn
/-! ### the law -/
theorem at0 {t : PyData} {L : List PyData} : atI (t :: L) 0 = some t := by
  unfold atI ixN
  rw [if_pos (by decide), if_pos (by simp only [List.length_cons]; omega)]
  rfl
theorem at1 {t o : PyData} {L : List PyData} : atI (t :: o :: L) 1 = some o := by
  unfold atI ixN
  rw [if_pos (by decide), if_pos (by simp only [List.length_cons]; omega)]
  rfl
def deepG : Nat → PyData
  | 0 => .tuple [.str "always", .tuple [.str "send", .tuple [.str "channel", .int 3], .int (-5)]]
  | n + 1 => .tuple [.str "wrap", deepG n, .str "a", .tuple [.int n, .tuple [.str "nothing"]]]
def DEEP : PyData := deepG 16
def DEEPA : PyData := .tuple [.str "wrap", DEEP, .str "A", .tuple []]
abbrev PT : Fm := (pg 100).1
abbrev PO : Fm := (pg 100).2.2
abbrev LT : Fm := (lg 100).1
abbrev LO : Fm := (lg 100).2.2
def smallB (d : PyData) : Bool := okB d && decide (3 * d.depth + 2 ≤ 100)
theorem small_of {d : PyData} (h : smallB d = true) : Fine d ∧ 3 * d.depth + 2 ≤ 100 := by
  unfold smallB at h
  rw [Bool.and_eq_true] at h
  exact ⟨ok_fine d h.1, of_decide_eq_true h.2⟩
theorem PT_ok {d : PyData} (h : Fine d ∧ 3 * d.depth + 2 ≤ 100) : PT [.d d] = some (.d (.bool ((lv 100).1 d)), []) := (pg_ok 100).1 d h
theorem PO_ok {d : PyData} (h : Fine d ∧ 3 * d.depth + 2 ≤ 100) : PO [.d d] = some (.d (.bool ((lv 100).2.2 d)), []) := (pg_ok 100).2.2 d ⟨h.1, by omega⟩
theorem LT_ok {d : PyData} (h : Fine d ∧ 3 * d.depth + 2 ≤ 100) : LT [.d d] = some (.d (.bool ((lv 100).1 d)), []) := (lg_ok 100).1 d h
theorem LO_ok {d : PyData} (h : Fine d ∧ 3 * d.depth + 2 ≤ 100) : LO [.d d] = some (.d (.bool ((lv 100).2.2 d)), []) := (lg_ok 100).2.2 d ⟨h.1, by omega⟩
theorem deep_facts : (smallB DEEP && smallB DEEPA && (lv 100).2.2 DEEP && (lv 100).1 DEEP && !(lv 100).2.2 DEEPA) = true := by decide +kernel
abbrev DEEPF : Fm := m__law_deep_right PO PT
theorem deep_ok : DEEPF [] = some (.d (.bool true), []) := by
  have f := deep_facts
  simp only [Bool.and_eq_true] at f
  obtain ⟨⟨⟨⟨f1, f2⟩, f3⟩, f4⟩, f5⟩ := f
  have f5 : (lv 100).2.2 DEEPA = false := by simpa using f5
  refine w_fn ?_
  unfold b__law_deep_right
  refine w_seq ⟨.nx [.d (deepG 0), .un], rfl, ?_⟩
  refine w_seq ⟨.nx [.d DEEP, .d (.int 15)], rfl, ?_⟩
  refine w_retV (v_and (p := true) (q := true) (v_op (v_callD (v_aD (v_var rfl) v_aNil) (PO_ok (small_of f1))) v_c ?_) fun _ => v_and (p := true) (q := true) (v_op (v_callD (v_aD (v_var rfl) v_aNil) (PT_ok (small_of f1))) v_c ?_) fun _ => v_op (v_callD (v_aD (show vE _ _ DEEPA from v_tup (v_cons v_c (v_cons (v_var rfl) (v_cons v_c (v_cons (v_tup v_nil) v_nil))))) v_aNil) (PO_ok (small_of f2))) v_c ?_) ⟨rfl, rfl⟩
  · rw [f3]; rfl
  · rw [f4]; rfl
  · rw [f5]; rfl
def free : Sv → Prop
  | .io _ => False
  | _ => True
theorem put_free {i : Nat} {x y : Sv} {ρ : Ev} (h : ρ[i]? = some x) (hf : free x) : putD i y ρ = some (ρ.set i y) := by
  unfold putD
  rw [h]
  cases x with
  | io _ => exact hf.elim
  | _ => rfl
theorem repr_bt {h b : Nat} {d : PyData} (x : Bt h b d) (hh : h ≤ 100) (hb : b ≤ 230000) : reprOk d = true := by
  obtain ⟨s1, s2⟩ := ok_short d x.ok
  have s3 := PyData.shown_le_bulk 70 (by decide) d s2
  have s4 := x.dep
  have s5 := x.blk
  unfold reprOk
  rw [s1, x.ex, decide_eq_true (show d.depth ≤ 100 by omega), decide_eq_true (show d.shown.length ≤ sizeLine by show _ ≤ 2 ^ 24; omega)]
  rfl
theorem reprD_bt {h b : Nat} {d : PyData} (x : Bt h b d) (hh : h ≤ 100) (hb : b ≤ 230000) : reprD [d] = some (.str d.shown) := if_pos (repr_bt x hh hb)
theorem reprD_bl (p : Bool) : reprD [.bool p] = some (.str (PyData.shown (.bool p))) := by cases p <;> rfl
theorem ne_self (z : Str) : neD (.str z) (.str z) = some (.bool false) := by
  show some (PyData.bool (!decide (z = z))) = _
  rw [decide_eq_true rfl]
  rfl
theorem w_pureG {F : Fm} {m : MA} {ρ : Ev} {ds : List PyData} {r : Rv} {QG : Rv → Ev → Prop} (hm : vA m ρ ds) (hF : F (ds.map Sv.d) = some (r, [])) (q : QG r ρ) : wG (mCallG F m) ρ QG := by
  obtain ⟨h4, h5⟩ := ag_data (ρ := ρ) ds
  refine w_callG ⟨_, ρ, hm, ?_⟩
  show (agIx (ds.map Ag.d)).Nodup ∧ _
  rw [h5]
  exact ⟨List.nodup_nil, _, r, [], ρ, h4, hF, rfl, q⟩
def Item (d : PyData) : Prop := Bt 30 230000 d
theorem Item.fine {d : PyData} (h : Item d) : Fine d ∧ 3 * d.depth + 2 ≤ 100 := ⟨ok_fine d h.ok, by have := h.dep; omega⟩
theorem fixed_items : ([.none, .list [], .str "never", .bool true, .int 3] : List PyData).all btB = true := by decide +kernel
abbrev LAWF : Fm := m_law DEEPF m__law_pool (dg 20).1 (dg 20).2.2 (bg 8) ODDF LT LO PT PO
theorem law_ok (ns : List Int) (hn : ns.length ≤ 1000) : LAWF [.d (.list (ns.map .int))] = some (.d (.bool true), []) := by
  refine w_fn ?_
  unfold b_law
  refine w_seq (w_ifV (v_bNot (v_test (v_callD v_aNil deep_ok))) (fun h => by cases h) (fun _ => w_next ?_))
  generalize hs : PyData.list (ns.map .int) = sc
  have hmax : ∃ m : Nat, max2D [.int 1, .int (if (20 : Int) < ns.length then 20 else (ns.length : Int))] = some (.int m) ∧ m ≤ 20 := by
    refine ⟨(if (if (20 : Int) < ns.length then 20 else (ns.length : Int)) > 1 then (if (20 : Int) < ns.length then 20 else (ns.length : Int)) else 1).toNat, ?_, ?_⟩
    · show some (PyData.int _) = _
      congr 2
      split <;> split <;> omega
    · split <;> split <;> omega
  obtain ⟨m, hm, hm2⟩ := hmax
  have hlen : lenD [sc] = some (.int ns.length) := by
    rw [← hs]
    show some (PyData.int (((ns.map PyData.int).length : Nat) : Int)) = _
    rw [List.length_map]
  refine w_seq (w_for (fun rem ρ => ∃ s1 s2 s3 s4 s5 s6, (free s1 ∧ free s2 ∧ free s3 ∧ free s4 ∧ free s5 ∧ free s6) ∧ ρ = [.d sc, s1, s2, s3, s4, s5, s6] ∧ ∀ d ∈ rem, ∃ k : Nat, d = .int k ∧ k < 100) ?_ ?_ ?_)
  · refine w_range1 (w_vL (v_cons (v_call (v_cons v_c (v_cons (v_call (v_cons (v_call (v_cons (v_var rfl) v_nil) hlen) (v_cons v_c v_nil)) rfl) v_nil)) hm) v_nil) ⟨m, rfl, by omega, by omega, .un, .un, .un, .un, .un, .un, ⟨trivial, trivial, trivial, trivial, trivial, trivial⟩, rfl, ?_⟩)
    intro d hd
    obtain ⟨k, hk, rfl⟩ := List.mem_map.mp hd
    have := List.mem_range.mp hk
    exact ⟨k, by rw [Int.zero_add], by omega⟩
  · rintro ρ ⟨s1, s2, s3, s4, s5, s6, hf, rfl, -⟩
    exact w_retV v_c ⟨rfl, rfl⟩
  · rintro d rem ρ ⟨s1, s2, s3, s4, s5, s6, ⟨q1, q2, q3, q4, q5, q6⟩, rfl, hr⟩
    obtain ⟨k, rfl, hk⟩ := hr d List.mem_cons_self
    have hr := fun d h => hr d (List.mem_cons_of_mem _ h)
    refine ⟨[.d sc, .d (.int k), s2, s3, s4, s5, s6], put_free rfl q1, ?_⟩
    obtain ⟨a, b, hpool, hp⟩ := pool_ok (ns := ns) hk
    refine w_seq (w_setF (w_callL (w_pureG (v_aD (v_var rfl) (v_aD (v_var rfl) v_aNil)) (hs ▸ hpool) ⟨_, rfl, [.d sc, .d (.int k), .ol [.int a, .int b], s3, s4, s5, s6], put_free rfl q2, ?_⟩)))
    refine w_seq (w_setF (w_cons (w_draw ((dg_ok 20 4).1 (by decide)) rfl hp (v_aD v_c v_aNil) fun t a1 b1 hp1 ht => w_cons (w_draw ((dg_ok 20 4).2.2 (by decide)) rfl hp1 (v_aD v_c v_aNil) fun o a2 b2 hp2 ho => w_nil ⟨[.d sc, .d (.int k), .ol [.int a2, .int b2], .ol [t, o], s4, s5, s6], put_free rfl q3, ?_⟩))))
    have hto : ∀ x, x = t ∨ x = o → Dr 10 112040 x := fun x hx => by
      rcases hx with rfl | rfl
      · exact ht.1.mono (by decide) (by decide)
      · exact ho.1.mono (by decide) (by decide)
    refine w_seq (w_for (fun rem ρ => ∃ a b s4 L, Pool a b ∧ free s4 ∧ ρ = [.d sc, .d (.int k), .ol [.int a, .int b], .ol (t :: o :: L), s4, s5, s6] ∧ (∀ x ∈ L, Item x) ∧ L.length + rem.length ≤ 4 ∧ ∀ d ∈ rem, ∃ i : Nat, d = .int i) ?_ ?_ ?_)
    · refine w_range1 (w_vL (v_cons v_c v_nil) ⟨4, rfl, by decide, by decide, a2, b2, s4, [], hp2, q4, rfl, fun x hx => (by cases hx), by decide, ?_⟩)
      intro d hd
      obtain ⟨i, hi, rfl⟩ := List.mem_map.mp hd
      exact ⟨i, by rw [Int.zero_add]⟩
    · rintro ρ ⟨a, b, s4, L, hp, q4, rfl, hL, hl, -⟩
      refine w_seq (w_for (fun rem ρ => ∃ a b s5 s6, free s5 ∧ free s6 ∧ ρ = [.d sc, .d (.int k), .ol [.int a, .int b], .ol (t :: o :: L), s4, s5, s6] ∧ ∀ x ∈ rem, Item x) ?_ ?_ ?_)
      · refine w_it (w_fr (w_catO rfl (w_fr (w_cons (w_draw odd_ok rfl hp v_aNil fun z a3 b3 hp3 hz => ?_)))))
        refine w_vL (v_cons v_c (v_cons (v_fr v_nil) (v_cons v_c (v_cons v_c (v_cons v_c v_nil))))) ⟨_, _, rfl, rfl, ?_, _, rfl, a3, b3, s5, s6, q5, q6, rfl, ?_⟩
        · show _ ≤ 2 ^ 24
          simp only [List.length_cons, List.length_nil] at hl ⊢
          omega
        · intro x hx
          rcases List.mem_append.mp hx with hx | hx
          · rcases List.mem_cons.mp hx with rfl | hx
            · exact (hto x (.inl rfl)).bt.mono (by decide) (by decide)
            rcases List.mem_cons.mp hx with rfl | hx
            · exact (hto x (.inr rfl)).bt.mono (by decide) (by decide)
            exact hL x hx
          · rcases List.mem_cons.mp hx with rfl | hx
            · exact hz.mono (by decide) (by decide)
            · exact (bt_of (List.all_eq_true.mp fixed_items x hx)).mono (by decide) (by decide)
      · rintro ρ ⟨a, b, s5, s6, q5, q6, rfl, -⟩
        have ft := Item.fine ((hto t (.inl rfl)).bt.mono (by decide) (by decide))
        have fo := Item.fine ((hto o (.inr rfl)).bt.mono (by decide) (by decide))
        refine w_ifV (p := !(lv 100).1 t || !(lv 100).2.2 o) (v_bOr (v_bNot (v_test (v_callD (v_aD (v_ixO rfl v_c at0) v_aNil) (LT_ok ft)))) fun _ => v_bNot (v_test (v_callD (v_aD (v_ixO rfl v_c at1) v_aNil) (LO_ok fo)))) (fun h => ?_) (fun _ => w_next ⟨.d (.int k), .ol [.int a, .int b], .ol (t :: o :: L), s4, s5, s6, ⟨trivial, trivial, trivial, q4, q5, q6⟩, rfl, hr⟩)
        rw [ht.2 100 (by decide), ho.2 100 (by decide)] at h
        cases h
      · rintro x rem ρ ⟨a, b, s5, s6, q5, q6, rfl, hx⟩
        have hi := hx x List.mem_cons_self
        have hx := fun x h => hx x (List.mem_cons_of_mem _ h)
        refine ⟨[.d sc, .d (.int k), .ol [.int a, .int b], .ol (t :: o :: L), s4, .d x, s6], put_free rfl q5, ?_⟩
        have hrp := reprD_bt hi (by decide) (by decide)
        refine w_seq (w_setV (v_call (v_cons (v_var rfl) v_nil) hrp) (put_free rfl q6) ?_)
        refine w_seq (w_ifV (v_bOr (v_test (v_op (v_call (v_cons (v_callD (v_aD (v_var rfl) v_aNil) (PT_ok hi.fine)) v_nil) (reprD_bl _)) (v_call (v_cons (v_callD (v_aD (v_var rfl) v_aNil) (LT_ok hi.fine)) v_nil) (reprD_bl _)) (ne_self _))) fun _ => v_test (v_op (v_call (v_cons (v_callD (v_aD (v_var rfl) v_aNil) (PO_ok hi.fine)) v_nil) (reprD_bl _)) (v_call (v_cons (v_callD (v_aD (v_var rfl) v_aNil) (LO_ok hi.fine)) v_nil) (reprD_bl _)) (ne_self _))) (fun h => by cases h) (fun _ => w_next ?_))
        refine w_ifV (v_test (v_op (v_call (v_cons (v_var rfl) v_nil) hrp) (v_var rfl) (ne_self _))) (fun h => by cases h) (fun _ => w_next ⟨a, b, .d x, .d (.str x.shown), trivial, trivial, rfl, hx⟩)
    · rintro d rem ρ ⟨a, b, s4, L, hp, q4, rfl, hL, hl, hd⟩
      obtain ⟨i, rfl⟩ := hd d List.mem_cons_self
      have hd := fun d h => hd d (List.mem_cons_of_mem _ h)
      refine ⟨[.d sc, .d (.int k), .ol [.int a, .int b], .ol (t :: o :: L), .d (.int i), s5, s6], put_free rfl q4, ?_⟩
      have hat : ∃ x, atI (t :: o :: L) ((i : Int) % 2) = some x ∧ (x = t ∨ x = o) := by
        have : (i : Int) % 2 = 0 ∨ (i : Int) % 2 = 1 := by omega
        rcases this with e | e
        · refine ⟨t, ?_, .inl rfl⟩
          rw [e]
          exact at0
        · refine ⟨o, ?_, .inr rfl⟩
          rw [e]
          exact at1
      obtain ⟨x, hx1, hx2⟩ := hat
      have hb := bg_ok 8 7 10 112040 x (by decide) (by decide) (hto x hx2)
      refine w_drop (w_own rfl (w_cons (w_draw hb rfl hp (v_aD (v_ixO rfl (v_op (v_var rfl) v_c (modI_pos (by decide))) hx1) (v_aD v_c v_aNil)) fun z a' b' hp' hz => w_nil ⟨_, _, _, rfl, if_pos ?_, a', b', .d (.int i), L ++ [z], hp', trivial, rfl, ?_, ?_, hd⟩)))
      · show _ < 2 ^ 24
        simp only [List.length_cons] at hl ⊢
        omega
      · intro y hy
        rcases List.mem_append.mp hy with hy | hy
        · exact hL y hy
        · rw [List.mem_singleton.mp hy]
          exact hz.mono (by decide) (by decide)
      · simp only [List.length_append, List.length_cons, List.length_nil] at hl ⊢
        omega
end L_k01

namespace L_k01
open PySem L2 Dn
/-! ### the levels joined -/
section
variable {P : Program} {w : World} {K : Frag} {mg : Str → Option Value} {base : Heap} {a : Adr} {fd : Fds}
theorem g_num (T : Txt K mg a fd) : FnG P w K mg base CX0 3 a.is_numbered fd.is_numbered P_is_numbered (spG K 2 NUM) := ok_is_numbered T (ok_is_word (k := 1) T) (ok_is_from_nought T (ok_is_whole (k := 0) T))
theorem g_lnum (T : Txt K mg a fd) : FnG P w K mg base CX0 3 a._law_numbered fd._law_numbered P__law_numbered (spG K 2 LNUM) := ok__law_numbered T (ok__law_has (k := 1) T) (ok__law_whole (k := 1) T)
theorem pgG (T : Txt K mg a fd) : ∀ n : Nat, FnG P w K mg base CX0 (n + 3) a.is_thing fd.is_thing P_is_thing (spG K 1 (pg n).1) ∧ FnG P w K mg base CX0 (n + 3) a.are_things fd.are_things P_are_things (spG K 1 (pg n).2.1) ∧ FnG P w K mg base CX0 (n + 3) a.is_offer fd.is_offer P_is_offer (spG K 1 (pg n).2.2)
  | 0 => ⟨fn_zero, fn_zero, fn_zero⟩
  | n + 1 => by
    obtain ⟨i1, i2, i3⟩ := pgG T n
    have nu := (g_num (P := P) (w := w) (base := base) T).mono (show 3 ≤ n + 3 by omega)
    exact ⟨ok_is_thing T (ok_is_whole (k := n + 2) T) (ok_is_word (k := n + 2) T) nu i3, ok_are_things T i1, ok_is_offer T (ok_is_word (k := n + 2) T) nu i1 i3 (ok_is_name (k := n + 2) T) i2⟩
theorem lgG (T : Txt K mg a fd) : ∀ n : Nat, FnG P w K mg base CX0 (n + 3) a._law_is_thing fd._law_is_thing P__law_is_thing (spG K 1 (lg n).1) ∧ FnG P w K mg base CX0 (n + 3) a._law_are fd._law_are P__law_are (spG K 2 (lg n).2.1) ∧ FnG P w K mg base CX0 (n + 3) a._law_is_offer fd._law_is_offer P__law_is_offer (spG K 1 (lg n).2.2)
  | 0 => ⟨fn_zero, fn_zero, fn_zero⟩
  | n + 1 => by
    obtain ⟨i1, i2, i3⟩ := lgG T n
    have nu := (g_lnum (P := P) (w := w) (base := base) T).mono (show 3 ≤ n + 3 by omega)
    exact ⟨ok__law_is_thing T (ok__law_whole (k := n + 2) T) (ok__law_has (k := n + 2) T) nu i3, ok__law_are T i1, ok__law_is_offer T (ok__law_has (k := n + 2) T) nu i1 i3 (ok__law_is_name (k := n + 2) T) i2⟩
theorem dgG (T : Txt K mg a fd) : ∀ n : Nat, FnG P w K mg base CX0 (n + 3) a._law_drawn_thing fd._law_drawn_thing P__law_drawn_thing (spG K 2 (dg n).1) ∧ FnG P w K mg base CX0 (n + 3) a._law_drawn_things fd._law_drawn_things P__law_drawn_things (spG K 2 (dg n).2.1) ∧ FnG P w K mg base CX0 (n + 3) a._law_drawn_offer fd._law_drawn_offer P__law_drawn_offer (spG K 2 (dg n).2.2)
  | 0 => ⟨fn_zero, fn_zero, fn_zero⟩
  | n + 1 => by
    obtain ⟨i1, i2, i3⟩ := dgG T n
    have tk := ok__law_take (P := P) (w := w) (base := base) (k := n + 2) T
    have nu := ok__law_number T (ok__law_take (P := P) (w := w) (base := base) (k := n + 1) T)
    exact ⟨ok__law_drawn_thing T tk nu i3, ok__law_drawn_things T i1 tk, ok__law_drawn_offer T tk nu i2 i1 i3⟩
theorem bgG (T : Txt K mg a fd) : ∀ n : Nat, FnG P w K mg base CX0 (n + 3) a._law_bent fd._law_bent P__law_bent (spG K 3 (bg n))
  | 0 => fn_zero
  | n + 1 => ok__law_bent T (ok__law_take (k := n + 2) T) (ok__law_odd T (ok__law_take (k := n + 1) T)) (bgG T n)
theorem lawG (T : Txt K mg a fd) : FnG P w K mg base CX0 105 a.law fd.law P_law (spG K 1 LAWF) := by
  have p := pgG (P := P) (w := w) (base := base) T 100
  have l := lgG (P := P) (w := w) (base := base) T 100
  have d := dgG (P := P) (w := w) (base := base) T 20
  refine ok_law (k := 104) T (ok__law_deep_right (k := 103) T p.2.2 p.1) (ok__law_pool (k := 103) T) (d.1.mono (by decide)) (d.2.2.mono (by decide)) ((bgG T 8).mono (by decide)) (ok__law_odd (k := 103) T (ok__law_take (k := 102) T)) (l.1.mono (by decide)) (l.2.2.mono (by decide)) (p.1.mono (by decide)) (p.2.2.mono (by decide))
end
theorem fin {l : PySem.W.OpenLaw} {w : World} {K : Frag} {h : Heap} {mg : Str → Option Value} {fa : Addr} {a : Adr} {fd : Fds} (X : K.In h) (G : h.Ns mainGlobals mg) (hfa : mg "law" = some (.ref fa)) (T : Txt K mg a fd) :
    ∃ fd : FuncData, (∀ (s : Shared) (v : Value), BindsTo s fd ⟨[v], []⟩ [("_law_script", v)]) ∧ ∀ base : Heap, K.In base → base.Ns mainGlobals mg → FnG l.prog w K mg base CX0 105 fa fd ["_law_script"] (spG K 1 LAWF) := by
  have e := hfa.symm.trans T.g_law
  cases e
  exact ⟨fd.law, T.B_law, fun base _ _ => lawG T⟩
theorem walk {l : PySem.W.OpenLaw} {q : Program} {loose : List Str} {XP : (Str → Option Value) → Heap → Prop} {YP : World → Heap → Prop} {d : DefRec} {K : Params → Frag} (hn : l.most = some 63) (hdf : d.params.defaults = [])
    (hY : ∀ (w : World) (h : Heap), YP w h → (K w.params).In h)
    (F : ∀ (w : World) (mg : Str → Option Value) (fa : Addr) (h : Heap), (K w.params).In h → h.Ns mainGlobals mg → mg d.name = some (.ref fa) →
      ∃ fd : FuncData, (∀ (s : Shared) (u : Value), BindsTo s fd ⟨[u], []⟩ [("_law_script", u)]) ∧ ∀ base : Heap, (K w.params).In base → base.Ns mainGlobals mg → FnG l.prog w (K w.params) mg base CX0 105 fa fd ["_law_script"] (spG (K w.params) 1 LAWF)) :
    PySem.W.WalkO q loose XP YP l.row.toRowW d [] (fun f vs => PySem.call f vs) :=
  walk_ofG (n := 63) (k := 105) (x := "_law_script") (sp := fun K => spG K 1 LAWF) hn (by decide) hdf ⟨rfl, by decide, by decide⟩ hY F (fun K H a ns hl _ hS => sp_law (law_ok ns (by omega)) hS)
end L_k01

open PySem PySem.W PyProof.Rows
set_option maxRecDepth 100000 in
set_option maxHeartbeats 0 in
theorem PySem.Challenge.cw_choosemeet_k01_things_and_offers_holds : PySem.Challenge.rw_choosemeet_k01_things_and_offers.Holds := by
  w_on; o_law; k_head; (case hw => w_witness2)
  k_fill
  refine L_k01.walk (l := PySem.Challenge.rw_choosemeet_k01_things_and_offers) rfl rfl (fun w h Y => PySem.W.kIn_of Y) ?F
  case F =>
    intro w mg fa h KX G hmg
    refine' L_k01.fin KX G hmg (L_k01.txt_mk KX G ?a1 ?l1 ?c1 ?k1 ?a2 ?l2 ?c2 ?k2 ?a3 ?l3 ?c3 ?k3 ?a4 ?l4 ?c4 ?k4 ?a5 ?l5 ?c5 ?k5 ?a6 ?l6 ?c6 ?k6 ?a7 ?l7 ?c7 ?k7 ?a8 ?l8 ?c8 ?k8 ?a9 ?l9 ?c9 ?k9 ?a10 ?l10 ?c10 ?k10 ?a11 ?l11 ?c11 ?k11 ?a12 ?l12 ?c12 ?k12 ?a13 ?l13 ?c13 ?k13 ?a14 ?l14 ?c14 ?k14 ?a15 ?l15 ?c15 ?k15 ?a16 ?l16 ?c16 ?k16 ?a17 ?l17 ?c17 ?k17 ?a18 ?l18 ?c18 ?k18 ?a19 ?l19 ?c19 ?k19 ?a20 ?l20 ?c20 ?k20 ?a21 ?l21 ?c21 ?k21 ?a22 ?l22 ?c22 ?k22 ?a23 ?l23 ?c23 ?k23 ?a24 ?l24 ?c24 ?k24 ?a25 ?l25 ?c25 ?k25 ?z1 ?z2 ?z3 ?z4 ?z5 ?z6 ?z7 ?z8 ?z9 ?z10 ?z11 ?z12 ?z13 ?v1 ?v2 ?v3 ?v4)
    (case a1 => k_is)
    (case l1 => k_is)
    (case c1 => k_is)
    (case k1 => k_is)
    (case a2 => k_is)
    (case l2 => k_is)
    (case c2 => k_is)
    (case k2 => k_is)
    (case a3 => k_is)
    (case l3 => k_is)
    (case c3 => k_is)
    (case k3 => k_is)
    (case a4 => k_is)
    (case l4 => k_is)
    (case c4 => k_is)
    (case k4 => k_is)
    (case a5 => k_is)
    (case l5 => k_is)
    (case c5 => k_is)
    (case k5 => k_is)
    (case a6 => k_is)
    (case l6 => k_is)
    (case c6 => k_is)
    (case k6 => k_is)
    (case a7 => k_is)
    (case l7 => k_is)
    (case c7 => k_is)
    (case k7 => k_is)
    (case a8 => k_is)
    (case l8 => k_is)
    (case c8 => k_is)
    (case k8 => k_is)
    (case a9 => k_is)
    (case l9 => k_is)
    (case c9 => k_is)
    (case k9 => k_is)
    (case a10 => k_is)
    (case l10 => k_is)
    (case c10 => k_is)
    (case k10 => k_is)
    (case a11 => k_is)
    (case l11 => k_is)
    (case c11 => k_is)
    (case k11 => k_is)
    (case a12 => k_is)
    (case l12 => k_is)
    (case c12 => k_is)
    (case k12 => k_is)
    (case a13 => k_is)
    (case l13 => k_is)
    (case c13 => k_is)
    (case k13 => k_is)
    (case a14 => k_is)
    (case l14 => k_is)
    (case c14 => k_is)
    (case k14 => k_is)
    (case a15 => k_is)
    (case l15 => k_is)
    (case c15 => k_is)
    (case k15 => k_is)
    (case a16 => k_is)
    (case l16 => k_is)
    (case c16 => k_is)
    (case k16 => k_is)
    (case a17 => k_is)
    (case l17 => k_is)
    (case c17 => k_is)
    (case k17 => k_is)
    (case a18 => k_is)
    (case l18 => k_is)
    (case c18 => k_is)
    (case k18 => k_is)
    (case a19 => k_is)
    (case l19 => k_is)
    (case c19 => k_is)
    (case k19 => k_is)
    (case a20 => k_is)
    (case l20 => k_is)
    (case c20 => k_is)
    (case k20 => k_is)
    (case a21 => k_is)
    (case l21 => k_is)
    (case c21 => k_is)
    (case k21 => k_is)
    (case a22 => k_is)
    (case l22 => k_is)
    (case c22 => k_is)
    (case k22 => k_is)
    (case a23 => k_is)
    (case l23 => k_is)
    (case c23 => k_is)
    (case k23 => k_is)
    (case a24 => k_is)
    (case l24 => k_is)
    (case c24 => k_is)
    (case k24 => k_is)
    (case a25 => k_is)
    (case l25 => k_is)
    (case c25 => k_is)
    (case k25 => k_is)
    (case z1 => k_is)
    (case z2 => k_is)
    (case z3 => k_is)
    (case z4 => k_is)
    (case z5 => k_is)
    (case z6 => k_is)
    (case z7 => k_is)
    (case z8 => k_is)
    (case z9 => k_is)
    (case z10 => k_is)
    (case z11 => k_is)
    (case z12 => k_is)
    (case z13 => k_is)
    (case v1 => k_is)
    (case v2 => k_is)
    (case v3 => k_is)
    (case v4 => k_is)
#print axioms PySem.Challenge.cw_choosemeet_k01_things_and_offers_holds
