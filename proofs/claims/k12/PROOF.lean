import PyProof.Rows.All
import Wide.All
import OpenK.AllK
import Wide.FinOn
import HandS.ForMost
import KE.RegKTryMore
import KE.RegKIsAll
import PyProof.ReprRoads
import HandS.EndBits
import PyProof.ReprBulk
import PyProof.StrLaws
import HandS.Wide
import HandS.IsInst
import HandS.TupAny
import HandS.Walk
import HandS.Small
import HandS.ForExc
import HandS.ExcInit
import HandS.ExcField
import HandS.ClsMeth
import HandS.Codes
import KE.KExcIs
import HandS.SortInts
import PyProof.P3Eq
import HandS.TupLe
import HandS.Defaults
import HandS.Iter
import KE.GoesEnum
import HandS.TryOnly
import HandS.Conv
import HandS.Sort
import PyProof.RangeFor
import PySem.Challenge.RW_onestaff_k12_no_word_under_way
set_option Elab.async false
set_option linter.all false
set_option maxRecDepth 100000
set_option maxHeartbeats 4000000

namespace U
open PySem L2 PySem.Spec PyProof.Rows

/-! a def's promise where no repr is under way around it -/
section
variable (P : Program) (w : World) (K : PySem.W.Frag) (mg : Str → Option Value) (base : Heap)
structure FnG (cx : CXT) (k : Nat) (f : Addr) (fd : FuncData) (ps : List Str) (sp : Sp) : Prop where
  len : ∀ vs H Q E, sp vs H Q E → vs.length = ps.length
  run : ∀ (A : Around) (o : List Env) (s : Shared) (H : Hp) (ar : Args) (us : List Value) (vs : List V) (Q : VK) (E : XK),
    A.guards = some [] → Room k A → Env0 P w K mg base A o s H → BindsTo s fd ar (ps.zip us) → Vals vs us → sp vs H Q E →
    codeAny (model P w) A (.call (.ref f) ar) (CR cx o P w H s Q E) s
end
section
variable {P : Program} {w : World} {K : PySem.W.Frag} {mg : Str → Option Value} {base : Heap} {cx : CXT} {k : Nat} {f : Addr} {fd : FuncData} {ps : List Str} {sp : Sp}
theorem FnG.of (F : FnOk P w K mg base cx k f fd ps sp) : FnG P w K mg base cx k f fd ps sp :=
  ⟨F.len, fun A o s H ar us vs Q E _ => F.run A o s H ar us vs Q E⟩
theorem FnG.mono {j : Nat} (F : FnG P w K mg base cx j f fd ps sp) (h : j ≤ k) : FnG P w K mg base cx k f fd ps sp :=
  ⟨F.len, fun A o s H ar us vs Q E g r => F.run A o s H ar us vs Q E g (r.mono h)⟩

theorem fnG_of {nm ql : Str} {pr : Arguments} {bd : List Stmt} {sc : Scope} {dV kV dc pm cd ct oc : Value} {an od : Option Addr} {os : Array (Option Value)} {N : List Str}
    (lk : K.lookup f = some ⟨oc, od, .func (PySem.W.fnOf nm ql pr bd sc dV kV dc pm an cd ct), os⟩) (hc : PySem.W.codeIn K cd ql = true) (S : FnScope N ps sc)
    (len : ∀ vs H Q E, sp vs H Q E → vs.length = ps.length)
    (hb : ∀ (A : Around) (o : List Env) (s : Shared) (H : Hp) (vs : List V) (Q : VK) (E : XK), A.guards = some [] → Room k (A.deeper (envOfC ql sc s.heap.objs.size f cd)) → sp vs H Q E →
      ∃ t, PSs (cxOf cx P w K mg base N ql sc f cd A o s H E) bd t ∧ t { nx := fun _ H' => Q .non H', rt := Q } (start N vs) H) :
    FnG P w K mg base cx (k + 1) f (PySem.W.fnOf nm ql pr bd sc dV kV dc pm an cd ct) ps sp where
  len := len
  run := by
    intro A o s H ar us vs Q E hg hr e0 bi vv q
    have hl := len vs H Q E q
    have kp : ∀ b ob, base.get? b = some ob → s.heap.get? b = some ob := fun b ob e => (e0.bs b ob e).1
    have KX : K.In s.heap := e0.mod.kin.keeps kp
    have nl : s.heap.NoLimit := e0.mod.nolimit.keeps kp
    refine codeAny_call_function hr.depth (KX f _ lk) rfl S.co S.gen rfl (PySem.W.codeRec_of KX hc) (bi _ _ _ _ ?_)
    refine wpAny_newFunctionEnv_cells S.kind (fun y hy => ?_) fun ev he s1 x => ?_
    · obtain ⟨n, v⟩ := y
      rcases S.par n (List.of_mem_zip hy).1 with e | e
      · exact Or.inl e
      · exact Or.inr ⟨e, PySem.W.cellsFrom_some _ _ _ (Or.inl e)⟩
    · subst he
      obtain ⟨t, ht, z⟩ := hb A o s H vs Q E hg (hr.deeper _) q
      have J0 : Inv (cxOf cx P w K mg base N ql sc f cd A o s H E) [] (start N vs) H s1 := inv_start S hr.hd e0 hl vv x
      refine ⟨nl.keeps x.toInCall.keep, codeAny_func (wpAny_mono (ht.run [] s1 (start N vs) H _ J0 z) (fun fl s2 h2 => ?_) fun _ _ h2 => h2)⟩
      cases fl with
      | brk => obtain ⟨_, _, _, z⟩ := h2; exact z.elim
      | cont => obtain ⟨_, _, _, z⟩ := h2; exact z.elim
      | next =>
        obtain ⟨σ2, H2, J, z⟩ := h2
        exact ⟨V.non, H2, J.os, J.bare, J.base, J.hok, rfl, z⟩
      | ret u =>
        obtain ⟨v, σ2, H2, J, rv, z⟩ := h2
        exact ⟨v, H2, J.os, J.bare, J.base, J.hok, rv, z⟩
theorem okG {nm ql : Str} {st : Stmt} {N : List Str} (F : Fun K nm ql st f fd) (S : FnScope N ps (defScope st)) (len : ∀ vs H Q E, sp vs H Q E → vs.length = ps.length)
    (hb : ∀ (cd : Value) (A : Around) (o : List Env) (s : Shared) (H : Hp) (vs : List V) (Q : VK) (E : XK), A.guards = some [] → Room k (A.deeper (envOfC ql (defScope st) s.heap.objs.size f cd)) → sp vs H Q E →
      ∃ t, PSs (cxOf cx P w K mg base N ql (defScope st) f cd A o s H E) (defBody st) t ∧ t { nx := fun _ H' => Q .non H', rt := Q } (start N vs) H) :
    FnG P w K mg base cx (k + 1) f fd ps sp := by
  obtain ⟨_, _, _, _, _, _, cd, _, _, rfl, lk, hc⟩ := F.ex
  exact fnG_of lk hc S len fun A o s H vs Q E g r q => hb cd A o s H vs Q E g r q
theorem okG0 {nm ql : Str} {st : Stmt} {N : List Str} (F : Fun K nm ql st f fd) (S : FnScope N ps (defScope st)) (len : ∀ vs H Q E, sp vs H Q E → vs.length = ps.length)
    (hb : ∀ (cd : Value) (A : Around) (o : List Env) (s : Shared) (H : Hp) (vs : List V) (Q : VK) (E : XK), A.guards = some [] → Room k (A.deeper (envOfC ql (defScope st) s.heap.objs.size f cd)) → sp vs H Q E →
      ∃ t, PSs (cxOf CX0 P w K mg base N ql (defScope st) f cd A o s H E).nox (defBody st) t ∧ t { nx := fun _ H' => Q .non H', rt := Q } (start N vs) H) :
    FnG P w K mg base CX0 (k + 1) f fd ps sp :=
  okG F S len fun cd A o s H vs Q E g r q => by
    obtain ⟨t, h, z⟩ := hb cd A o s H vs Q E g r q
    exact ⟨t, h.nox, z⟩
end

section
variable {X : Cx} {cx : CXT} {k : Nat} {f : Addr} {fd : FuncData} {ps : List Str} {sp : Sp} {E : XK} {x : Str} {p pos : Pos} {e : Expr} {es : List Expr} {t : TA}
theorem run_fnG {pins : List (Addr × Obj)} {σ : L2.St} {H : Hp} {s : Shared} {Q : VK} {us : List Value} {vs : List V} (F : FnG X.prog X.w X.K X.mg X.base cx k f fd ps sp) (hg : X.A.guards = some []) (hr : Room k X.A) (hb : Binds X.K fd ps [])
    (hx : Passes cx X E) (I : Inv X pins σ H s) (r : Vals vs us) (h : sp vs H Q E) : wpAny (model X.prog X.w) X.A (call (.ref f) us) (EP X pins σ Q) X.xe s := by
  have e1 : us ++ [] = us := List.append_nil us
  have hl : (us ++ []).length = ps.length := by rw [e1, ← r.length]; exact F.len _ _ _ _ h
  have b1 := hb s us I.kIn hl
  rw [e1] at b1
  refine wpAny_call (codeAny_mono (F.run X.A X.stack s H ⟨us, []⟩ us vs Q E hg hr I.env0 b1 r h) fun rr s' hq => ?_)
  match rr, hq with
  | .error er, hq => exact hx pins σ H s er s' I hq
  | .ok (.ret u), hq => exact I.after hq
  | .ok .next, hq => exact False.elim hq
  | .ok .brk, hq => exact False.elim hq
  | .ok .cont, hq => exact False.elim hq
def tGo (sp : Sp) (E : XK) (t : TA) : TE := fun σ H Q => t σ H fun vs H1 => sp vs H1 Q E
/-- f(e, ..) -/
theorem pe_go (F : FnG X.prog X.w X.K X.mg X.base cx k f fd ps sp) (hg : X.A.guards = some []) (hr : Room k X.A) (gl : Gl X x) (hm : X.mg x = some (.ref f)) (hk : PySem.W.keepIn X.K (.ref f) = true) (hb : Binds X.K fd ps []) (hx : Passes cx X E)
    (ha : PA X (e :: es) t) (h1 : (x == ("__debug__" : Str)) = false := by decide) (h2 : starEach (e :: es) X.env = (false, eval e X.env) :: starEach es X.env := by rfl) (h3 : (backTo pos (starEach es X.env)).any (·.1) = false := by rfl) :
    PE X (.Call (.Name x p) (e :: es) [] pos) (tGo sp E t) := by
  refine ⟨fun pi s σ H Q I h => wpAny_Call_Name_kw (ld_glob I gl hm ?_ h1)⟩
  refine PySem.W.callWith_K (h₀ := X.base) I.ok.mod.kin hk (thn (ha.run pos pi s σ H _ I h) ?_) h2 h3
  rintro us s1 ⟨vs, H1, I1, r, q⟩
  exact ⟨I1.kIn, run_fnG F hg hr hb hx I1 r q⟩
theorem pe_go0 (F : FnG X.prog X.w X.K X.mg X.base cx k f fd ps sp) (hg : X.A.guards = some []) (hr : Room k X.A) (gl : Gl X x) (hm : X.mg x = some (.ref f)) (hk : PySem.W.keepIn X.K (.ref f) = true) (hb : Binds X.K fd ps []) (hx : Passes cx X E)
    (h1 : (x == ("__debug__" : Str)) = false := by decide) : PE X (.Call (.Name x p) [] [] pos) (tGo sp E tNil) := by
  refine ⟨fun pi s σ H Q I h => wpAny_Call_Name_kw (ld_glob I gl hm ?_ h1)⟩
  exact PySem.W.callWith_K0 I.kIn hk (run_fnG (us := []) F hg hr hb hx I .nil h)
end

/-! the law's own call -/
section
variable {P : Program} {w : World} {K : PySem.W.Frag} {mg mb : Str → Option Value} {cx : CXT} {k : Nat} {fa a : Addr} {fd : FuncData} {x : Str} {sp : Sp} {s1 : Shared} {vs : List Value} {ns : List Int}
/-- the heap at the entry: the script alone is tracked, as it stands -/
def Hin (K : PySem.W.Frag) (a : Addr) (o : Obj) (ns : List Int) : Hp := fun b => if b = a ∧ K.lookup a = none then some (.frz o (.lst (ns.map V.int))) else none
theorem law_callG (KX : K.In s1.heap) (hns : s1.heap.Ns mainGlobals mg) (hb : s1.heap.Ns builtinsNs mb) (hbb : ∀ x : Str, x ≠ "__name__" → mb x = bootBuiltins x) (hlim : s1.heap.NoLimit) (hsy : ∃ mm, s1.heap.Ns sysModules mm) (hg : s1.gens = #[])
    (ha : s1.heap.get? a = some { cls := .type "list", data := .seq vs.toArray }) (hi : IntsAre vs ns) (hl : ns.length ≤ sizeLine) (hr : Room k callerA)
    (F : ∀ base : Heap, K.In base → base.Ns mainGlobals mg → (∃ mm, base.Ns sysModules mm) → FnG P w K mg base cx k fa fd [x] sp)
    (hbind : ∀ (s : Shared) (u : Value), BindsTo s fd ⟨[u], []⟩ [(x, u)])
    (hsp : ∀ H : Hp, SqL K H a (ns.map V.int) → sp [.ref a] H (fun v _ => v = .bl true) fun _ _ _ => False)
    (hcx : ∀ H e s', cx [] H s1 (fun _ _ _ => False) e s' → False) :
    codeAny (model P w) callerA (.call (.ref fa) ⟨[.ref a], []⟩) (fun r s' => r = .ok (.ret (.bool true)) ∧ OldK s1.heap s'.heap ∧ s'.os = s1.os ∧ AllBare s'.gens) s1 := by
  generalize ho : ({ cls := .type "list", data := .seq vs.toArray } : Obj) = o at ha
  have rv := vals_ints hi
  have hlen := hi.length
  have hH : ∀ b u, Hin K a o ns b = some u → b = a ∧ K.lookup a = none ∧ u = .frz o (.lst (ns.map V.int)) := fun b u e => by
    unfold Hin at e
    by_cases c : b = a ∧ K.lookup a = none
    · rw [if_pos c] at e; exact ⟨c.1, c.2, (Option.some.inj e).symm⟩
    · rw [if_neg c] at e; cases e
  have hok : HOk P w (Hin K a o ns) s1.heap := fun b u e => by
    obtain ⟨rfl, _, rfl⟩ := hH b u e
    exact ⟨ha, by rw [List.length_map]; exact hl, vs, _, rv, by rw [ha, ← ho]⟩
  have hS : SqL K (Hin K a o ns) a (ns.map V.int) := by
    cases hk : K.lookup a with
    | none => exact Or.inl (Or.inr ⟨o, if_pos ⟨rfl, hk⟩⟩)
    | some o2 =>
      have e := KX a o2 hk
      rw [ha] at e
      cases e
      exact Or.inr ⟨_, vs.toArray, 0, hk, by rw [← ho], by rw [← ho], by rw [← ho], by rw [List.size_toArray, hlen]; exact hl, rv⟩
  have toB : ∀ {b : Addr} {ob : Obj}, s1.heap.get? b = some ob → Hin K a o ns b = none → (hidT s1.heap (Hin K a o ns)).get? b = some ob := fun e n => hidT_get e n
  have dictN : ∀ {b : Addr} {ob : Obj}, s1.heap.get? b = some ob → (∀ it n, ob.data ≠ .seq it n) → Hin K a o ns b = none := fun {b ob} e d => by
    cases q : Hin K a o ns b with
    | none => rfl
    | some u =>
      obtain ⟨rfl, _, _⟩ := hH b u q
      rw [ha] at e
      cases e
      exact (d vs.toArray 0 (by rw [← ho])).elim
  have nsB : ∀ {b : Addr} {m : Str → Option Value}, s1.heap.Ns b m → (hidT s1.heap (Hin K a o ns)).Ns b m := fun {b m} h => by
    obtain ⟨ob, es, ep, e, d, r⟩ := h
    exact ⟨ob, es, ep, toB e (dictN e fun it n z => by rw [d] at z; cases z), d, r⟩
  have KB : K.In (hidT s1.heap (Hin K a o ns)) := fun b ob e => toB (KX b ob e) (by
    cases q : Hin K a o ns b with
    | none => rfl
    | some u =>
      obtain ⟨rfl, z, _⟩ := hH b u q
      rw [z] at e; cases e)
  have lim : (hidT s1.heap (Hin K a o ns)).NoLimit := by
    obtain ⟨mc, h1, h2⟩ := hlim
    exact ⟨mc, nsB h1, h2⟩
  have M : Mod K mg (hidT s1.heap (Hin K a o ns)) := ⟨KB, nsB hns, ⟨mb, nsB hb, hbb⟩, lim⟩
  have e0 : Env0 P w K mg (hidT s1.heap (Hin K a o ns)) callerA [] s1 (Hin K a o ns) :=
    ⟨rfl, M, fun b ob e => of_hidT e, Nat.le_of_eq (hidT_size _ _), trivial, fun b z => (nomatch z), hok, .of_eq hg⟩
  have G := F _ KB (nsB hns) (by obtain ⟨mm, z⟩ := hsy; exact ⟨mm, nsB z⟩)
  refine codeAny_mono (G.run callerA [] s1 _ ⟨[.ref a], []⟩ [.ref a] [.ref a] _ _ rfl hr e0 (hbind s1 (.ref a)) (.cons rfl .nil) (hsp _ hS)) fun r s2 h => ?_
  match r, h with
  | .error er, h => exact (hcx _ er s2 h).elim
  | .ok .next, h => exact False.elim h
  | .ok .brk, h => exact False.elim h
  | .ok .cont, h => exact False.elim h
  | .ok (.ret u), h =>
    obtain ⟨v, H2, os, br, un, hok2, r2, q⟩ := h
    have q2 : v = .bl true := q
    subst q2
    obtain rfl : u = Value.bool true := r2
    refine ⟨rfl, OldK.of_keep fun b ob e => ?_, os, br⟩
    cases z : Hin K a o ns b with
    | none => exact un.keep b ob e z (fun m => nomatch m) (fun m => nomatch m)
    | some u =>
      obtain ⟨rfl, _, rfl⟩ := hH b u z
      obtain ⟨y, _⟩ := hok2 b _ (un.frzs b _ _ z)
      rw [ha] at e
      cases e
      exact y
end
/-- the end of a law: what k_head leaves, from the law's promise -/
theorem walkG {l : PySem.W.OpenLaw} {n k : Nat} {q : Program} {lo : List Str} {XP : (Str → Option Value) → Heap → Prop} {YP : World → Heap → Prop} {d : DefRec} {K : Params → PySem.W.Frag} {cx : World → CXT} {sp : World → Sp} {x : Str}
    (hn : l.most = some n) (hn2 : n ≤ sizeLine) (hdf : d.params.defaults = []) (hr : Room k callerA) (him : importsNone q = true)
    (hY : ∀ (w : World) (h : Heap), YP w h → (K w.params).In h)
    (F : ∀ (w : World) (mg : Str → Option Value) (fa : Addr) (h : Heap), (K w.params).In h → h.Ns mainGlobals mg → mg d.name = some (.ref fa) →
      ∃ fd : FuncData, (∀ (s : Shared) (u : Value), BindsTo s fd ⟨[u], []⟩ [(x, u)]) ∧
        ∀ base : Heap, (K w.params).In base → base.Ns mainGlobals mg → (∃ mm, base.Ns sysModules mm) → FnG l.prog w (K w.params) mg base (cx w) k fa fd [x] (sp w))
    (hsp : ∀ (w : World) (H : Hp) (a : Addr) (ns : List Int), ns.length ≤ n → (∀ z ∈ ns, Builtin.Int.intBits z ≤ 1048576) → SqL (K w.params) H a (ns.map V.int) → sp w [.ref a] H (fun v _ => v = .bl true) fun _ _ _ => False)
    (hcx : ∀ (w : World) (H : Hp) (s : Shared) (e : Value) (s' : Shared), cx w [] H s (fun _ _ _ => False) e s' → False) :
    PySem.W.WalkO q lo XP YP l.row.toRowW d [] (fun f vs => PySem.call f vs) := by
  refine Att.attach_callB hn hdf ?_
  intro w s0 s1 mg mb fa o pm cd doc a vs ns G Y ho hd hcd hmg hob hin hle hbi hge
  obtain ⟨fd, hb, hF⟩ := F w mg fa _ (hY w _ Y) G.T.g hmg
  have hsy : ∃ mm, s1.heap.Ns sysModules mm := by
    obtain ⟨mm, z, _⟩ := (G.T.seer him).mods
    exact ⟨mm, z⟩
  exact law_callG (hY w _ Y) G.T.g G.T.b G.T.builtins G.T.nolimit hsy hge hob hin (Nat.le_trans hle hn2) hr hF hb (fun H hS => hsp w H a ns hle hbi hS) fun H e s' => hcx w H s1 e s'

/-! data, by what repr shows -/
def keyD (k : Key) : PyData := match k with | .inl i => PyData.int i | .inr x => PyData.str x
mutual
inductive Dn (K : PySem.W.Frag) (H : Hp) : V → PyData → Prop
  | non : Dn K H .non .none
  | bl (b : Bool) : Dn K H (.bl b) (.bool b)
  | int (i : Int) : Dn K H (.int i) (.int i)
  | str (x : Str) : Dn K H (.str x) (.str x)
  | lst {a : Addr} {xs : List V} {ds : List PyData} : Rd H a (.lst xs) → DnA K H xs ds → Dn K H (.ref a) (.list ds)
  | tup {a : Addr} {xs : List V} {ds : List PyData} : SqT K H a xs → DnA K H xs ds → Dn K H (.ref a) (.tuple ds)
  | dic {a : Addr} {kvs : List (Key × V)} {ds : List PyData} : Rd H a (.dK kvs) → DnA K H (kvs.map (·.2)) ds → Dn K H (.ref a) (.dict ((kvs.map fun p => keyD p.1).zip ds))
inductive DnA (K : PySem.W.Frag) (H : Hp) : List V → List PyData → Prop
  | nil : DnA K H [] []
  | cons {v : V} {vs : List V} {d : PyData} {ds : List PyData} : Dn K H v d → DnA K H vs ds → DnA K H (v :: vs) (d :: ds)
end
end U

namespace U
open PySem L2 PySem.Spec PyProof.Rows

section
variable {X : Cx} {pins : List (Addr × Obj)} {σ : L2.St} {H : Hp} {s : Shared}
theorem rd_low (I : Inv X pins σ H s) (hs : ∃ mm, X.base.Ns sysModules mm) {a : Addr} {u : HO} (r : Rd H a u) : a ≠ sysModules := by
  rintro rfl
  obtain ⟨mm, ob, es, ep, e, _⟩ := hs
  have n := (I.bs _ ob e).2
  rcases r with r | ⟨o, r⟩ <;> (rw [n] at r; cases r)
theorem pairs_reads {P : Program} {w : World} {h : Heap} : ∀ {es : List DictEntry} {kvs : List (Key × V)} {vs : List (Key × Value)}, Pairs (mixKind P w) es vs → KV kvs vs →
    ReadsAll h (es.map (·.key)) (kvs.map fun p => keyD p.1) [] ∧ Vals (kvs.map (·.2)) (es.map (·.val))
  | _, _, _, .nil, .nil => ⟨.nil, .nil⟩
  | e :: es, (k, v) :: kvs, (k2, u) :: vs, .cons h1 h2 h3, .cons ⟨q1, q2⟩ h4 => by
    obtain ⟨r1, r2⟩ := pairs_reads (h := h) h3 h4
    have q1 : k = k2 := q1
    subst q1
    refine ⟨?_, .cons (show RelV v e.val by rw [h2]; exact q2) r2⟩
    show ReadsAll h (e.key :: _) (keyD k :: _) ([] ++ [])
    refine .cons ?_ r1
    rcases keyIs_shape h1 with ⟨i, t, z, y⟩ | ⟨x, t, z, y⟩
    · have z : k = Sum.inl i := z
      rw [y, z]; exact Reads.int i t
    · have z : k = Sum.inr x := z
      rw [y, z]; exact Reads.str x t
mutual
theorem Dn.reads (I : Inv X pins σ H s) (hs : ∃ mm, X.base.Ns sysModules mm) : ∀ {v : V} {d : PyData} {u : Value}, Dn X.K H v d → RelV v u → ∃ as, Reads s.heap u d as ∧ sysModules ∉ as
  | _, _, _, .non, r => by cases r; exact ⟨[], Reads.none, by simp⟩
  | _, _, _, .bl b, r => by cases r; exact ⟨[], Reads.bool b, by simp⟩
  | _, _, _, .int i, r => by obtain ⟨t, rfl⟩ := r; exact ⟨[], Reads.int i t, by simp⟩
  | _, _, _, .str x, r => by obtain ⟨t, rfl⟩ := r; exact ⟨[], Reads.str x t, by simp⟩
  | _, _, _, .lst h1 h2, r => by
    cases r
    obtain ⟨its, rv, ⟨o, n, ho, hc, _, hd⟩, _⟩ := I.list (Or.inl h1)
    obtain ⟨as, q1, q2⟩ := DnA.reads I hs h2 rv
    exact ⟨_, Reads.list ho hc hd q1, fun m => (List.mem_cons.mp m).elim (fun e => rd_low I hs h1 e.symm) q2⟩
  | _, _, _, .tup h1 h2, r => by
    cases r
    obtain ⟨its, rv, ⟨o, ho, hc, n, hd⟩, _⟩ := I.tuple h1
    obtain ⟨as, q1, q2⟩ := DnA.reads I hs h2 rv
    exact ⟨_, Reads.tuple ho hc hd q1, q2⟩
  | _, _, _, .dic (kvs := kvs) (ds := ds) h1 h2, r => by
    cases r
    obtain ⟨_, low, vs, kv, o, es, ep, ho, hc, hd, _, hp, _⟩ := h1.ok I.hok
    obtain ⟨q1, q2⟩ := pairs_reads (h := s.heap) hp kv
    obtain ⟨as, q3, q4⟩ := DnA.reads I hs h2 q2
    have el : ds.length = kvs.length := by
      have e1 := DnA.len h2
      rw [List.length_map] at e1
      exact e1.symm
    have z1 : ((kvs.map fun p => keyD p.1).zip ds).map (·.1) = kvs.map fun p => keyD p.1 := by
      rw [List.map_fst_zip]; rw [List.length_map]; omega
    have z2 : ((kvs.map fun p => keyD p.1).zip ds).map (·.2) = ds := by
      rw [List.map_snd_zip]; rw [List.length_map]; omega
    refine ⟨_, Reads.dict ho hc.1 hd (kvs := (kvs.map fun p => keyD p.1).zip ds) (as := []) (bs := as) ?_ ?_, ?_⟩
    · rw [z1]; exact q1
    · rw [z2]; exact q3
    · intro m
      rcases List.mem_cons.mp m with e | e
      · exact rd_low I hs h1 e.symm
      · exact q4 (by simpa using e)
theorem DnA.reads (I : Inv X pins σ H s) (hs : ∃ mm, X.base.Ns sysModules mm) : ∀ {vs : List V} {ds : List PyData} {us : List Value}, DnA X.K H vs ds → Vals vs us → ∃ as, ReadsAll s.heap us ds as ∧ sysModules ∉ as
  | _, _, _, .nil, r => by cases r; exact ⟨[], ReadsAll.nil, by simp⟩
  | _, _, _, .cons h1 h2, r => by
    cases r with
    | cons r1 r2 =>
      obtain ⟨as, q1, q2⟩ := Dn.reads I hs h1 r1
      obtain ⟨bs, q3, q4⟩ := DnA.reads I hs h2 r2
      exact ⟨_, ReadsAll.cons q1 q3, fun m => (List.mem_append.mp m).elim q2 q4⟩
theorem DnA.len {K : PySem.W.Frag} : ∀ {vs : List V} {ds : List PyData}, DnA K H vs ds → vs.length = ds.length
  | _, _, .nil => rfl
  | _, _, .cons _ h => by rw [List.length_cons, List.length_cons, DnA.len h]
end
end
/-! what may be shown, and how long it is -/
mutual
def good : PyData → Prop
  | .none => True
  | .bool _ => True
  | .int i => i.natAbs < 10 ^ 100
  | .str x => ∀ c ∈ x.cps.toList, c < 4294967296
  | .list xs => goodA xs
  | .tuple xs => goodA xs
  | .dict kvs => goodK kvs
def goodA : List PyData → Prop
  | [] => True
  | x :: xs => good x ∧ goodA xs
def goodK : List (PyData × PyData) → Prop
  | [] => True
  | (k, v) :: r => good k ∧ good v ∧ goodK r
end
mutual
def sz : PyData → Nat
  | .none => 4
  | .bool _ => 5
  | .int _ => 102
  | .str x => 10 * x.length + 2
  | .list xs => szA xs + 3
  | .tuple xs => szA xs + 3
  | .dict kvs => szK kvs + 3
def szA : List PyData → Nat
  | [] => 0
  | x :: xs => sz x + 2 + szA xs
def szK : List (PyData × PyData) → Nat
  | [] => 0
  | (k, v) :: r => sz k + sz v + 4 + szK r
end
theorem int_len {i : Int} (h : i.natAbs < 10 ^ 100) : (Str.ofString (toString i)).length ≤ 102 := by
  have e := int_text_length_le10 (k := 100) (by decide) h
  rw [PySem.ofString_length]
  omega
mutual
theorem good_show : ∀ {d : PyData}, good d → d.showable = true ∧ d.shown.length ≤ sz d
  | .none, _ => ⟨rfl, by decide +kernel⟩
  | .bool b, _ => ⟨rfl, by cases b <;> decide +kernel⟩
  | .int i, h => by
    refine ⟨?_, ?_⟩
    · simp only [PyData.showable, decide_eq_true_eq]
      have h : i.natAbs < 10 ^ 100 := by simpa only [good] using h
      refine log2_small (Nat.lt_of_lt_of_le h ?_)
      decide +kernel
    · have h : i.natAbs < 10 ^ 100 := by simpa only [good] using h
      exact int_len h
  | .str x, h => by
    refine ⟨rfl, ?_⟩
    have h : ∀ c ∈ x.cps.toList, c < 4294967296 := by simpa only [good] using h
    simp only [PyData.shown, sz]
    exact StrLaws.reprText_len x h
  | .list xs, h => by
    have q := goodA_show (ds := xs) (by simpa only [good] using h)
    refine ⟨by simpa only [PyData.showable] using q.1, ?_⟩
    simp only [PyData.shown, sz]
    have := listText_len_le (PyData.shownAll xs)
    have e : (PyData.shownAll xs).length = xs.length := q.2.2
    omega
  | .tuple xs, h => by
    have q := goodA_show (ds := xs) (by simpa only [good] using h)
    refine ⟨by simpa only [PyData.showable] using q.1, ?_⟩
    simp only [PyData.shown, sz]
    have := tupleText_len_le (PyData.shownAll xs)
    have e : (PyData.shownAll xs).length = xs.length := q.2.2
    omega
  | .dict kvs, h => by
    have q := goodK_show (ds := kvs) (by simpa only [good] using h)
    refine ⟨by simpa only [PyData.showable] using q.1, ?_⟩
    simp only [PyData.shown, sz]
    have := dictText_len_le (PyData.shownKv kvs)
    have e : (PyData.shownKv kvs).length = kvs.length := q.2.2
    omega
theorem goodA_show : ∀ {ds : List PyData}, goodA ds → PyData.showableAll ds = true ∧ ((PyData.shownAll ds).map (·.length)).sum + 2 * ds.length ≤ szA ds ∧ (PyData.shownAll ds).length = ds.length
  | [], _ => ⟨rfl, by simp [PyData.shownAll, szA], rfl⟩
  | x :: xs, h => by
    obtain ⟨h1, h2⟩ : good x ∧ goodA xs := by simpa only [goodA] using h
    obtain ⟨a1, a2⟩ := good_show h1
    obtain ⟨b1, b2, b3⟩ := goodA_show h2
    refine ⟨by simp only [PyData.showableAll, a1, b1, Bool.and_self], ?_, by simp only [PyData.shownAll, List.length_cons, b3]⟩
    simp only [PyData.shownAll, szA, List.map_cons, List.sum_cons, List.length_cons]
    omega
theorem goodK_show : ∀ {ds : List (PyData × PyData)}, goodK ds → PyData.showableKv ds = true ∧ ((PyData.shownKv ds).map (·.length)).sum + 2 * ds.length ≤ szK ds ∧ (PyData.shownKv ds).length = ds.length
  | [], _ => ⟨rfl, by simp [PyData.shownKv, szK], rfl⟩
  | (k, v) :: r, h => by
    obtain ⟨h1, h2, h3⟩ : good k ∧ good v ∧ goodK r := by simpa only [goodK] using h
    obtain ⟨a1, a2⟩ := good_show h1
    obtain ⟨c1, c2⟩ := good_show h2
    obtain ⟨b1, b2, b3⟩ := goodK_show h3
    refine ⟨by simp only [PyData.showableKv, a1, c1, b1, Bool.and_self], ?_, by simp only [PyData.shownKv, List.length_cons, b3]⟩
    have e : (": " : Str).length = 2 := by decide +kernel
    simp only [PyData.shownKv, szK, List.map_cons, List.sum_cons, List.length_cons, Str.length_append]
    have e : (Str.ofString ": ").length = 2 := by decide +kernel
    omega
end
/-- repr -/
def rRepr (K : PySem.W.Frag) : List V → Hp → VK → Prop := fun xs H Q => ∃ v d, xs = [v] ∧ Dn K H v d ∧ good d ∧ d.depth ≤ 100 ∧ sz d ≤ 16000000 ∧ Q (.str d.shown) H
theorem call_repr {X : Cx} {k : Nat} (hg : X.A.guards = some []) (hr : Room k X.A) (hs : ∃ mm, X.base.Ns sysModules mm) : CallR X (.builtin "repr") (rRepr X.K) := by
  rintro pi s σ H xs us Q I vv ⟨v, d, rfl, hd, g, dp, zz, q⟩
  obtain ⟨u, rfl, rv⟩ := Vals.one vv
  obtain ⟨sh, le⟩ := good_show g
  have le2 : d.shown.length ≤ sizeLine := Nat.le_trans (Nat.le_trans le zz) (by decide)
  have hu := hr.un
  cases hd with
  | non => cases rv; exact PySem.P.repr_of_none ⟨.str _, H, I.tok _, ⟨_, rfl⟩, q⟩
  | bl b => cases rv; exact PySem.P.repr_of_bool ⟨.str _, H, I.tok _, ⟨_, rfl⟩, q⟩
  | int i =>
    obtain ⟨t, rfl⟩ := rv
    simp only [PyData.showable, decide_eq_true_eq] at sh
    exact PySem.P.repr_of_int sh ⟨.str _, H, I.tok _, ⟨_, rfl⟩, q⟩
  | str x =>
    obtain ⟨t, rfl⟩ := rv
    exact PySem.P.repr_of_str ⟨.str _, H, I.tok _, ⟨_, rfl⟩, q⟩ le2
  | lst h1 h2 =>
    obtain ⟨as, r1, r2⟩ := Dn.reads I hs (.lst h1 h2) rv
    cases rv
    exact repr_of_reads' r1 sh (fun _ => r2) hg (by omega) (fun _ _ e => e) (fun h' u tk hk => ⟨.str _, H, I.kept hk, ⟨_, rfl⟩, q⟩) le2
  | tup h1 h2 =>
    obtain ⟨as, r1, r2⟩ := Dn.reads I hs (.tup h1 h2) rv
    cases rv
    exact repr_of_reads' r1 sh (fun _ => r2) hg (by omega) (fun _ _ e => e) (fun h' u tk hk => ⟨.str _, H, I.kept hk, ⟨_, rfl⟩, q⟩) le2
  | dic h1 h2 =>
    obtain ⟨as, r1, r2⟩ := Dn.reads I hs (.dic h1 h2) rv
    cases rv
    exact repr_of_reads' r1 sh (fun _ => r2) hg (by omega) (fun _ _ e => e) (fun h' u tk hk => ⟨.str _, H, I.kept hk, ⟨_, rfl⟩, q⟩) le2
end U

namespace U
open PySem L2 PySem.Spec PyProof.Rows

/-! operators, whatever the values -/
def rStrCat : R2 := fun x y H Q => ∃ i j, x = .str i ∧ y = .str j ∧ i.length + j.length ≤ sizeLine ∧ Q (.str (i ++ j)) H
def uAdd (K : PySem.W.Frag) : R2 := fun x y H Q => (rI0 fun i j => .int (i + j)) x y H Q ∨ rStrCat x y H Q ∨ rCat x y H Q ∨ rCatA K x y H Q
def uSub : R2 := rI0 fun i j => .int (i - j)
def uMul : R2 := fun x y H Q => (rI CMul fun i j => .int (i * j)) x y H Q ∨ rRep x y H Q
def uMod : R2 := rI (fun _ j => 0 < j) fun i j => .int (i % j)
def uDiv : R2 := rI CDivW fun i j => .int (i / j)
def uPow : R2 := rI CPow fun i j => .int (i ^ j.toNat)
def uLt : R2 := rI0 fun i j => .bl (decide (i < j))
def uLe : R2 := rI0 fun i j => .bl (decide (i ≤ j))
def uGt : R2 := rI0 fun i j => .bl (decide (j < i))
def uGe : R2 := rI0 fun i j => .bl (decide (j ≤ i))
def uEq (K : PySem.W.Frag) : R2 := fun x y H Q => rEq x y H Q ∨ rEqD K x y H Q
def uNe (K : PySem.W.Frag) : R2 := fun x y H Q => rNe x y H Q ∨ rNeD K x y H Q
def rInSign (ng : Bool) : R2 := fun x y H Q => ∃ (c : Nat) (z : Str), x = .str ⟨#[c]⟩ ∧ y = .str z ∧ Q (.bl (if ng then !decide (c ∈ z.cps.toList) else decide (c ∈ z.cps.toList))) H
def uIn (K : PySem.W.Frag) (ng : Bool) : R2 := fun x y H Q => rInSign ng x y H Q ∨ rIn K ng x y H Q
def uIs : R2 := fun x y H Q => y = .non ∧ Q (.bl (decide (x = .non))) H
def uIsNot : R2 := fun x y H Q => y = .non ∧ Q (.bl (!decide (x = .non))) H
section
variable {X : Cx} {k : Nat} {K : PySem.W.Frag}
theorem o_add (hK : X.K = K) : OpR X (binaryOp .Add) (uAdd K) := hK ▸ op_add.or (op_add_str.or (op_cat.or op_catA))
theorem o_sub : OpR X (binaryOp .Sub) uSub := op_sub
theorem o_mul : OpR X (binaryOp .Mult) uMul := op_mul.or op_rep
theorem o_mod : OpR X (binaryOp .Mod) uMod := op_mod
theorem o_div : OpR X (binaryOp .FloorDiv) uDiv := op_fdivW
theorem o_pow : OpR X (binaryOp .Pow) uPow := op_pow
theorem o_lt : OpR X (compareOp .Lt) uLt := op_lt
theorem o_le : OpR X (compareOp .LtE) uLe := op_le
theorem o_gt : OpR X (compareOp .Gt) uGt := op_gt
theorem o_ge : OpR X (compareOp .GtE) uGe := op_ge
theorem o_eq (hK : X.K = K) (hr : Room k X.A) : OpR X (compareOp .Eq) (uEq K) := hK ▸ op_eq.or (op_eqD hr.units)
theorem o_ne (hK : X.K = K) (hr : Room k X.A) : OpR X (compareOp .NotEq) (uNe K) := hK ▸ op_ne.or (op_neD hr.units)
theorem o_in (hK : X.K = K) : OpR X (compareOp .In) (uIn K false) := hK ▸ op_in_sign.or op_in_seq
theorem o_notin (hK : X.K = K) : OpR X (compareOp .NotIn) (uIn K true) := hK ▸ op_notIn_sign.or op_notIn_seq
theorem o_is : OpR X (compareOp .Is) uIs := op_isN
theorem o_isnot : OpR X (compareOp .IsNot) uIsNot := op_notN
/-- a built-in type's name as a value -/
theorem pe_ty {x : Str} {n : String} {pos : Pos} (hg : Gl X x) (hm : X.mg x = none) (hv : bootBuiltins x = some (.type n)) (hn : x ≠ "__name__" := by decide) (hd : (x == ("__debug__" : Str)) = false := by decide) : PE X (.Name x pos) (tC (.ty n)) :=
  pe_bltn hg hm hv rfl hn hd
def uSl (K : PySem.W.Frag) : V → Option Int → Option Int → Hp → VK → Prop := fun x lo hi H Q => rSlL K x lo hi H Q ∨ rSlS x lo hi H Q ∨ rSlA K x lo hi H Q
theorem ix_u (hK : X.K = K) : IxR X (rIx K) := hK ▸ ix_seq
theorem sl_u (hK : X.K = K) : SlR X (uSl K) := hK ▸ sl_list.or (sl_str.or sl_tupA)
end

/-! steps -/
section
variable {K : PySem.W.Frag} {σ : L2.St} {H : Hp} {Q : VK} {D : Ends} {t u : TS} {ta tb tc te : TE} {tA tB' : TT} {r r' : R2} {x y v : V} {i : Nat} {n m : Int} {a b : Str}
theorem s_seq (h : t { D with nx := u D } σ H) : tSeq t u D σ H := h
theorem s_next (h : D.nx σ H) : tNext D σ H := h
theorem s_brk (h : D.bk σ H) : tBreak D σ H := h
theorem s_cnt (h : D.ct σ H) : tCont D σ H := h
theorem s_retN (h : D.rt .non H) : tRetN D σ H := h
theorem s_var (h : σ[i]? = some (some v)) (q : Q v H) : tVar i σ H Q := ⟨v, h, q⟩
theorem s_c (q : Q v H) : tC v σ H Q := q
theorem s_op (h : ta σ H fun x H1 => tb σ H1 fun y H2 => r x y H2 Q) : tOp r ta tb σ H Q := h
theorem s_un {r : V → Hp → VK → Prop} (h : ta σ H fun x H1 => r x H1 Q) : tUn r ta σ H Q := h
theorem s_neg (q : Q (.int (-n)) H) : (rU fun i => .int (-i)) (.int n) H Q := ⟨n, rfl, q⟩
theorem s_test {Q : Bool → Hp → Prop} (h : te σ H fun x H' => ∃ k, x = .bl k ∧ Q k H') : tTest te σ H Q := h
theorem s_B {Q : Bool → Hp → Prop} (h : te σ H fun x H' => ∃ k, x = .bl k ∧ Q k H') : tB te σ H Q := h
theorem s_bl {P : Bool → Prop} {k : Bool} (q : P k) : ∃ c, V.bl k = .bl c ∧ P c := ⟨k, rfl, q⟩
theorem s_chain (h : ta σ H fun x H1 => tb σ H1 fun y H2 => r x y H2 fun z H3 => ∃ k, z = .bl k ∧ (if k = true then tc σ H3 fun w' H4 => r' y w' H4 Q else Q (.bl false) H3)) : tChain r r' ta tb tc σ H Q := h
theorem s_asg {g : TG} (h : te σ H fun x H1 => g x σ H1 D.nx) : tAsg te g D σ H := h
theorem s_name {R : L2.St → Hp → Prop} (h : R (σ.set i (some v)) H) : gName i v σ H R := h
theorem s_ret (h : te σ H D.rt) : tRet te D σ H := h
theorem s_drop (h : te σ H fun _ H1 => D.nx σ H1) : tDrop te D σ H := h
theorem s_ifS (h : tA σ H fun b H1 => if b = true then t D σ H1 else u D σ H1) : tIfS tA t u D σ H := h
theorem s_and {Q : Bool → Hp → Prop} (h : tA σ H fun c H1 => if c = true then tB' σ H1 Q else Q false H1) : tAnd tA tB' σ H Q := h
theorem s_or {Q : Bool → Hp → Prop} (h : tA σ H fun c H1 => if c = true then Q true H1 else tB' σ H1 Q) : tOr tA tB' σ H Q := h
theorem s_not {Q : Bool → Hp → Prop} (h : tA σ H fun c H1 => Q (!c) H1) : tNot tA σ H Q := h
theorem s_andV (h : ta σ H fun x H1 => ∃ c, x = .bl c ∧ if c = true then tb σ H1 Q else Q (.bl false) H1) : tAndV ta tb σ H Q := h
theorem s_orV (h : ta σ H fun x H1 => ∃ c, x = .bl c ∧ if c = true then Q (.bl true) H1 else tb σ H1 Q) : tOrV ta tb σ H Q := h
theorem s_notV (h : ta σ H fun x H1 => ∃ c, x = .bl c ∧ Q (.bl (!c)) H1) : tNotV ta σ H Q := h
theorem s_if (h : tA σ H fun c H1 => if c = true then ta σ H1 Q else tb σ H1 Q) : tIf tA ta tb σ H Q := h
theorem s_add (q : Q (.int (n + m)) H) : uAdd K (.int n) (.int m) H Q := Or.inl ⟨n, m, rfl, rfl, q⟩
theorem s_adds (h : a.length + b.length ≤ sizeLine) (q : Q (.str (a ++ b)) H) : uAdd K (.str a) (.str b) H Q := Or.inr (Or.inl ⟨a, b, rfl, rfl, h, q⟩)
theorem s_sub (q : Q (.int (n - m)) H) : uSub (.int n) (.int m) H Q := ⟨n, m, rfl, rfl, q⟩
theorem s_mul (h : CMul n m) (q : Q (.int (n * m)) H) : uMul (.int n) (.int m) H Q := Or.inl ⟨n, m, rfl, rfl, h, q⟩
theorem s_mod (h : 0 < m) (q : Q (.int (n % m)) H) : uMod (.int n) (.int m) H Q := ⟨n, m, rfl, rfl, h, q⟩
theorem s_div (h : CDivW n m) (q : Q (.int (n / m)) H) : uDiv (.int n) (.int m) H Q := ⟨n, m, rfl, rfl, h, q⟩
theorem s_pow {r : Int} (h : CPow n m) (e : n ^ m.toNat = r) (q : Q (.int r) H) : uPow (.int n) (.int m) H Q := ⟨n, m, rfl, rfl, h, (show Q (.int (n ^ m.toNat)) H by rw [e]; exact q)⟩
theorem cpow {i j : Int} (h0 : 0 ≤ i) (h1 : i < 9223372036854775808) (h2 : 0 ≤ j) (h3 : j ≤ 1000000) : CPow i j := ⟨h2, h3, by omega⟩
theorem cdiv {i j : Int} (h0 : 0 < j) (h1 : j < 100000000000000000000000000000000000000000) : CDivW i j := wide_div (b := 200) h0 (by
  have e : ((j.natAbs : Nat) : Int) < ((2 ^ 200 : Nat) : Int) := by
    rw [Int.natAbs_of_nonneg (by omega)]
    exact Int.lt_trans h1 (by decide)
  exact Int.ofNat_lt.mp e) (by decide) (by decide)
theorem cmulL {i j : Int} (h1 : -9223372036854775808 < i) (h2 : i < 9223372036854775808) : CMul i j := Or.inl ⟨by omega, by omega⟩
theorem cmulR {i j : Int} (h1 : -9223372036854775808 < j) (h2 : j < 9223372036854775808) : CMul i j := Or.inr ⟨by omega, by omega⟩
theorem s_lt (q : Q (.bl (decide (n < m))) H) : uLt (.int n) (.int m) H Q := ⟨n, m, rfl, rfl, q⟩
theorem s_le (q : Q (.bl (decide (n ≤ m))) H) : uLe (.int n) (.int m) H Q := ⟨n, m, rfl, rfl, q⟩
theorem s_gt (q : Q (.bl (decide (m < n))) H) : uGt (.int n) (.int m) H Q := ⟨n, m, rfl, rfl, q⟩
theorem s_ge (q : Q (.bl (decide (m ≤ n))) H) : uGe (.int n) (.int m) H Q := ⟨n, m, rfl, rfl, q⟩
theorem dec_int {n m : Int} : decide (V.int n = V.int m) = decide (n = m) := by
  by_cases h : n = m
  · subst h; simp
  · rw [decide_eq_false h]; exact decide_eq_false fun q => h (V.int.inj q)
theorem dec_str {n m : Str} : decide (V.str n = V.str m) = decide (n = m) := by
  by_cases h : n = m
  · subst h; simp
  · rw [decide_eq_false h]; exact decide_eq_false fun q => h (V.str.inj q)
theorem s_eqi (q : Q (.bl (decide (n = m))) H) : uEq K (.int n) (.int m) H Q := Or.inl ⟨rfl, by rw [dec_int]; exact q⟩
theorem s_nei (q : Q (.bl (!decide (n = m))) H) : uNe K (.int n) (.int m) H Q := Or.inl ⟨rfl, by rw [dec_int]; exact q⟩
theorem s_eqs (q : Q (.bl (decide (a = b))) H) : uEq K (.str a) (.str b) H Q := Or.inl ⟨rfl, by rw [dec_str]; exact q⟩
theorem s_nes (q : Q (.bl (!decide (a = b))) H) : uNe K (.str a) (.str b) H Q := Or.inl ⟨rfl, by rw [dec_str]; exact q⟩
theorem s_in1 {c : Nat} {z : Str} (q : Q (.bl (decide (c ∈ z.cps.toList))) H) : uIn K false (.str ⟨#[c]⟩) (.str z) H Q := Or.inl ⟨c, z, rfl, rfl, q⟩
theorem s_notin1 {c : Nat} {z : Str} (q : Q (.bl (!decide (c ∈ z.cps.toList))) H) : uIn K true (.str ⟨#[c]⟩) (.str z) H Q := Or.inl ⟨c, z, rfl, rfl, q⟩
theorem s_is (q : Q (.bl (decide (x = .non))) H) : uIs x .non H Q := ⟨rfl, q⟩
theorem s_isnot (q : Q (.bl (!decide (x = .non))) H) : uIsNot x .non H Q := ⟨rfl, q⟩
/-- items of lists -/
theorem s_nil {Q : List V → Hp → Prop} (q : Q [] H) : tNil σ H Q := q
theorem s_cons {Q : List V → Hp → Prop} {tr : TA} (h : te σ H fun x H1 => tr σ H1 fun xs H2 => Q (x :: xs) H2) : tCons te tr σ H Q := h
def LstK (Q : VK) (xs : List V) (H : Hp) : Prop := xs.length ≤ sizeLine ∧ ∀ p, H p = none → Q (.ref p) (upd H p (.lst xs))
def TupK (Q : VK) (xs : List V) (H : Hp) : Prop := xs.length ≤ sizeLine ∧ ∀ p, H p = none → Q (.ref p) (upd H p (.tup xs))
theorem s_lst {t : TA} (h : t σ H (LstK Q)) : tLst t σ H Q := h
theorem s_tup {t : TA} (h : t σ H (TupK Q)) : tTup t σ H Q := h
theorem s_cb {r : List V → Hp → VK → Prop} {t : TA} (h : t σ H fun vs H1 => r vs H1 Q) : tCB r t σ H Q := h
theorem s_go {sp : Sp} {E : XK} {t : TA} (h : t σ H fun vs H1 => sp vs H1 Q E) : tGo sp E t σ H Q := h
theorem s_max (q : Q (.int (if m > n then m else n)) H) : (fun xs H Q => ∃ i j, xs = [V.int i, V.int j] ∧ Q (.int (if j > i then j else i)) H : List V → Hp → VK → Prop) [.int n, .int m] H Q := ⟨n, m, rfl, q⟩
theorem at_nat {α : Type} {xs : List α} {j : Nat} {z : α} (h : xs[j]? = some z) : atI xs (j : Int) = some z := by
  have hj : j < xs.length := (List.getElem?_eq_some_iff.mp h).1
  unfold atI ixN
  rw [if_pos (by omega), if_pos (by omega)]
  simpa using h
theorem at_int {α : Type} {xs : List α} {j : Int} (h0 : 0 ≤ j) (h1 : j < xs.length) : ∃ z, xs[j.toNat]? = some z ∧ atI xs j = some z := by
  refine ⟨xs[j.toNat]'(by omega), by simp, ?_⟩
  have := at_nat (xs := xs) (j := j.toNat) (z := xs[j.toNat]'(by omega)) (by simp)
  rwa [Int.toNat_of_nonneg h0] at this
theorem s_ixL {p : Addr} {xs : List V} (h : SqL K H p xs) (ha : atI xs n = some v) (q : Q v H) : rIx K (.ref p) (.int n) H Q := Or.inl ⟨p, xs, n, v, rfl, rfl, h, ha, q⟩
theorem s_ixl {p : Addr} {xs : List V} (h : H p = some (.lst xs)) (ha : atI xs n = some v) (q : Q v H) : rIx K (.ref p) (.int n) H Q := Or.inl ⟨p, xs, n, v, rfl, rfl, SqL.of h, ha, q⟩
theorem s_ixt {p : Addr} {xs : List V} (h : H p = some (.tup xs)) (ha : atI xs n = some v) (q : Q v H) : rIx K (.ref p) (.int n) H Q := Or.inr (Or.inl ⟨p, xs, n, v, rfl, rfl, SqT.of h, ha, q⟩)
theorem s_ixs {z : Str} {c : Nat} (hz : z.length ≤ sizeLine) (ha : atI z.cps.toList n = some c) (q : Q (.str ⟨#[c]⟩) H) : rIx K (.str z) (.int n) H Q := Or.inr (Or.inr ⟨z, n, c, rfl, rfl, hz, ha, q⟩)
theorem s_sub2 {to ti : TE} {t : V → V → V → Hp → (Hp → Prop) → Prop} {R : L2.St → Hp → Prop} (h : to σ H fun o H1 => ti σ H1 fun i H2 => t o i v H2 fun H3 => R σ H3) : gSub to ti t v σ H R := h
theorem s_setl {p : Addr} {xs ys : List V} {j : Nat} {R : Hp → Prop} (h : H p = some (.lst xs)) (hj : ixN xs.length n = some j) (e : xs.set j v = ys) (q : R (upd H p (.lst ys))) : rSetL (.ref p) (.int n) v H R := ⟨p, xs, n, j, rfl, rfl, h, hj, by rw [e]; exact q⟩
theorem s_ite {p : Prop} [Decidable p] {A B : Prop} (h1 : p → A) (h2 : ¬p → B) : if decide p = true then A else B := by
  by_cases h : p
  · rw [decide_eq_true h, if_pos rfl]; exact h1 h
  · rw [decide_eq_false h, if_neg Bool.false_ne_true]; exact h2 h
theorem s_itn {p : Prop} [Decidable p] {A B : Prop} (h1 : ¬p → A) (h2 : p → B) : if (!decide p) = true then A else B := by
  by_cases h : p
  · rw [decide_eq_true h]; exact h2 h
  · rw [decide_eq_false h]; exact h1 h
theorem s_itt {A B : Prop} (h : A) : if true = true then A else B := h
theorem s_itf {A B : Prop} (h : B) : if false = true then A else B := h
theorem s_itb {k : Bool} {A B : Prop} (h1 : k = true → A) (h2 : k = false → B) : if k = true then A else B := by
  cases k with
  | true => exact h1 rfl
  | false => exact h2 rfl
end

/-! heaps: what stands still stands -/
section
variable {K : PySem.W.Frag} {H H1 H2 : Hp} {ps qs : List Addr} {a b p : Addr} {o u : HO}
/-- the kind of what stands -/
def ko : HO → Nat
  | .lst _ => 0 | .tup _ => 1 | .dK _ => 2 | .dT _ => 3 | .set _ _ => 4 | .ins _ _ _ => 5 | .own _ => 6 | .xd _ => 7 | .met _ _ => 8 | .rng _ _ => 9 | .frz _ _ => 10 | .tbl _ => 11
  | _ => 12
def Th (H : Hp) (a : Addr) (i : Nat) : Prop := ∃ o, H a = some o ∧ ko o = i
theorem Th.of (h : H a = some o) : Th H a (ko o) := ⟨o, h, rfl⟩
theorem Th.lst {xs : List V} (h : H a = some (.lst xs)) : Th H a 0 := ⟨_, h, rfl⟩
theorem Th.tup {xs : List V} (h : H a = some (.tup xs)) : Th H a 1 := ⟨_, h, rfl⟩
theorem Th.dK {xs : List (Key × V)} (h : H a = some (.dK xs)) : Th H a 2 := ⟨_, h, rfl⟩
theorem Th.ins {C dx : Addr} {xs : List (Str × V)} (h : H a = some (.ins C dx xs)) : Th H a 5 := ⟨_, h, rfl⟩
theorem Th.xd {xs : List (Str × V)} (h : H a = some (.xd xs)) : Th H a 7 := ⟨_, h, rfl⟩
/-- all that stood, but at the places ps, stands as it stood; and what stood stands, of its kind -/
structure Kp (ps : List Addr) (H H' : Hp) : Prop where
  keep : ∀ b o, H b = some o → b ∉ ps → H' b = some o
  kd : ∀ b i, Th H b i → Th H' b i
  tp : ∀ b xs, H b = some (.tup xs) → H' b = some (.tup xs)
theorem Kp.dom (h : Kp ps H H1) (b : Addr) (n : H1 b = none) : H b = none := by
  cases e : H b with
  | none => rfl
  | some o =>
    obtain ⟨o', e', _⟩ := h.kd b _ (Th.of e)
    rw [e'] at n; cases n
theorem Kp.refl : Kp ps H H := ⟨fun _ _ e _ => e, fun _ _ e => e, fun _ _ e => e⟩
theorem Kp.trans (h : Kp ps H H1) (g : Kp ps H1 H2) : Kp ps H H2 := ⟨fun b o e n => g.keep b o (h.keep b o e n) n, fun b i e => g.kd b i (h.kd b i e), fun b xs e => g.tp b xs (h.tp b xs e)⟩
theorem Kp.mono (h : Kp ps H H1) (g : ∀ a ∈ ps, a ∈ qs) : Kp qs H H1 := ⟨fun b o e n => h.keep b o e fun m => n (g b m), h.kd, h.tp⟩
theorem Kp.nil (h : Kp [] H H1) : Kp ps H H1 := h.mono fun _ m => nomatch m
theorem Kp.get (h : Kp ps H H1) (e : H b = some o) (n : b ∉ ps) : H1 b = some o := h.keep b o e n
theorem Kp.get0 (h : Kp [] H H1) (e : H b = some o) : H1 b = some o := h.keep b o e (by simp)
theorem Kp.get1 (h : Kp [p] H H1) (e : H b = some o) (n : b ≠ p) : H1 b = some o := h.keep b o e (by simpa using n)
theorem Kp.new (h : Kp ps H H1) (n : H1 p = none) : Kp ps H (upd H1 p u) := ⟨fun b o e m => by
  have e1 := h.keep b o e m
  rw [upd_ne (ne_of_none e1 n)]
  exact e1, fun b i e => by
  obtain ⟨o, e1, r⟩ := h.kd b i e
  exact ⟨o, by rw [upd_ne (ne_of_none e1 n)]; exact e1, r⟩, fun b xs e => by
  have e1 := h.tp b xs e
  rw [upd_ne (ne_of_none e1 n)]
  exact e1⟩
theorem Kp.put (h : Kp ps H H1) (m : p ∈ ps) (z : Th H1 p (ko u)) (y : Nat.beq (ko u) 1 = false := by rfl) : Kp ps H (upd H1 p u) := ⟨fun b o e n => by
  rw [upd_ne (fun z => n (by rw [z]; exact m))]
  exact h.keep b o e n, fun b i e => by
  by_cases y : b = p
  · subst y
    obtain ⟨o1, e1, r1⟩ := z
    obtain ⟨o2, e2, r2⟩ := h.kd b i e
    rw [e1] at e2
    cases e2
    exact ⟨u, upd_same, by rw [← r1, r2]⟩
  · obtain ⟨o2, e2, r2⟩ := h.kd b i e
    exact ⟨o2, by rw [upd_ne y]; exact e2, r2⟩, fun b xs e => by
  have e1 := h.tp b xs e
  have n : b ≠ p := fun x => by
    subst x
    obtain ⟨o1, e2, r1⟩ := z
    rw [e1] at e2
    cases e2
    rw [← r1] at y
    cases y
  rw [upd_ne n]
  exact e1⟩
theorem Kp.tgt {xs : List V} (h : Kp ps H H1) (e : H b = some (.tup xs)) : H1 b = some (.tup xs) := h.tp b xs e
theorem Kp.fresh (h : Kp ps H H1) (n : H1 p = none) : H p = none := h.dom p n
theorem Kp.fresh0 (h : Kp [] H H1) (n : H1 p = none) : H p = none := h.dom p n
/-- a place that did not stand may have changed -/
theorem Kp.drop (h : Kp (p :: ps) H H1) (n : H p = none) : Kp ps H H1 := ⟨fun b o e m => h.keep b o e (by
  intro z
  rcases List.mem_cons.mp z with z | z
  · subst z; rw [n] at e; cases e
  · exact m z), h.kd, h.tp⟩
/-- a new object, the heap behind it as a letter -/
theorem new_abs {o : HO} {R : Addr → Hp → Prop} (h : ∀ p H', H p = none → H' p = some o → Kp [] H H' → R p H') : ∀ p, H p = none → R p (upd H p o) :=
  fun p f => h p _ f upd_same (Kp.refl.new f)
theorem s_newl {Q : VK} {xs : List V} (hz : xs.length ≤ sizeLine) (h : ∀ p H', H p = none → H' p = some (.lst xs) → Kp [] H H' → Q (.ref p) H') : LstK Q xs H := ⟨hz, new_abs h⟩
theorem s_newt {Q : VK} {xs : List V} (hz : xs.length ≤ sizeLine) (h : ∀ p H', H p = none → H' p = some (.tup xs) → Kp [] H H' → Q (.ref p) H') : TupK Q xs H := ⟨hz, new_abs h⟩
theorem s_addl {Q : VK} {p q : Addr} {xs ys : List V} (h1 : H p = some (.lst xs)) (h2 : H q = some (.lst ys)) (h : xs.length + ys.length ≤ sizeLine)
    (z : ∀ p' H', H p' = none → H' p' = some (.lst (xs ++ ys)) → Kp [] H H' → Q (.ref p') H') : uAdd K (.ref p) (.ref q) H Q :=
  Or.inr (Or.inr (Or.inl ⟨p, q, xs, ys, rfl, rfl, h1, h2, h, new_abs z⟩))
theorem Kp.rd (h : Kp [] H H1) (e : Rd H a u) : Rd H1 a u := by
  rcases e with e | ⟨o, e⟩
  · exact Or.inl (h.get0 e)
  · exact Or.inr ⟨o, h.get0 e⟩
theorem Kp.sql {xs : List V} (h : Kp [] H H1) (e : SqL K H a xs) : SqL K H1 a xs := by
  rcases e with e | e
  · exact Or.inl (h.rd e)
  · exact Or.inr e
theorem Kp.sqt {xs : List V} (h : Kp [] H H1) (e : SqT K H a xs) : SqT K H1 a xs := by
  rcases e with e | e
  · exact Or.inl (h.rd e)
  · exact Or.inr e
end
end U

namespace U
open PySem L2 PySem.Spec PyProof.Rows

/-! promises by the number of arguments -/
abbrev P0 := Hp → VK → XK → Prop
def sp0 (F : P0) : Sp := fun vs H Q E => vs = [] ∧ F H Q E
def sp1 (F : V → P0) : Sp := fun vs H Q E => ∃ a, vs = [a] ∧ F a H Q E
def sp2 (F : V → V → P0) : Sp := fun vs H Q E => ∃ a b, vs = [a, b] ∧ F a b H Q E
def sp3 (F : V → V → V → P0) : Sp := fun vs H Q E => ∃ a b c, vs = [a, b, c] ∧ F a b c H Q E
def sp4 (F : V → V → V → V → P0) : Sp := fun vs H Q E => ∃ a b c d, vs = [a, b, c, d] ∧ F a b c d H Q E
def sp5 (F : V → V → V → V → V → P0) : Sp := fun vs H Q E => ∃ a b c d e, vs = [a, b, c, d, e] ∧ F a b c d e H Q E
def sp6 (F : V → V → V → V → V → V → P0) : Sp := fun vs H Q E => ∃ a b c d e f, vs = [a, b, c, d, e, f] ∧ F a b c d e f H Q E
section
variable {H : Hp} {Q : VK} {E : XK} {a b c d e f : V}
theorem s_sp0 {F : P0} (h : F H Q E) : sp0 F [] H Q E := ⟨rfl, h⟩
theorem s_sp1 {F : V → P0} (h : F a H Q E) : sp1 F [a] H Q E := ⟨a, rfl, h⟩
theorem s_sp2 {F : V → V → P0} (h : F a b H Q E) : sp2 F [a, b] H Q E := ⟨a, b, rfl, h⟩
theorem s_sp3 {F : V → V → V → P0} (h : F a b c H Q E) : sp3 F [a, b, c] H Q E := ⟨a, b, c, rfl, h⟩
theorem s_sp4 {F : V → V → V → V → P0} (h : F a b c d H Q E) : sp4 F [a, b, c, d] H Q E := ⟨a, b, c, d, rfl, h⟩
theorem s_sp5 {F : V → V → V → V → V → P0} (h : F a b c d e H Q E) : sp5 F [a, b, c, d, e] H Q E := ⟨a, b, c, d, e, rfl, h⟩
theorem s_sp6 {F : V → V → V → V → V → V → P0} (h : F a b c d e f H Q E) : sp6 F [a, b, c, d, e, f] H Q E := ⟨a, b, c, d, e, f, rfl, h⟩
end

/-! built-in names -/
theorem bt_len : bootBuiltins "len" = some (.builtin "len") := by decide +kernel
theorem bt_max : bootBuiltins "max" = some (.builtin "max") := by decide +kernel
theorem bt_min : bootBuiltins "min" = some (.builtin "min") := by decide +kernel
theorem bt_all : bootBuiltins "all" = some (.builtin "all") := by decide +kernel
theorem bt_any : bootBuiltins "any" = some (.builtin "any") := by decide +kernel
theorem bt_repr : bootBuiltins "repr" = some (.builtin "repr") := by decide +kernel
theorem bt_sorted : bootBuiltins "sorted" = some (.builtin "sorted") := by decide +kernel
theorem bt_sum : bootBuiltins "sum" = some (.builtin "sum") := by decide +kernel
theorem bt_isinstance : bootBuiltins "isinstance" = some (.builtin "isinstance") := by decide +kernel
theorem bt_int : bootBuiltins "int" = some (.type "int") := by decide +kernel
theorem bt_bool : bootBuiltins "bool" = some (.type "bool") := by decide +kernel
theorem bt_str : bootBuiltins "str" = some (.type "str") := by decide +kernel
theorem bt_list : bootBuiltins "list" = some (.type "list") := by decide +kernel
theorem bt_tuple : bootBuiltins "tuple" = some (.type "tuple") := by decide +kernel
theorem bt_dict : bootBuiltins "dict" = some (.type "dict") := by decide +kernel
theorem bt_set : bootBuiltins "set" = some (.type "set") := by decide +kernel
theorem bt_range : bootBuiltins "range" = some (.type "range") := by decide +kernel

section
variable {X : Cx} {K : PySem.W.Frag}
def uLen (K : PySem.W.Frag) : List V → Hp → VK → Prop := fun xs H Q => (∃ x n, xs = [x] ∧ LenV K x H n ∧ Q (.int n) H) ∨ ∃ a kvs, xs = [V.ref a] ∧ H a = some (.dK kvs) ∧ Q (.int kvs.length) H
theorem c_len (hK : X.K = K) : CallR X (.builtin "len") (uLen K) := hK ▸ call_len.or call_lenD
def uMax : List V → Hp → VK → Prop := fun xs H Q => ∃ i j, xs = [.int i, .int j] ∧ Q (.int (if j > i then j else i)) H
def uMin : List V → Hp → VK → Prop := fun xs H Q => ∃ i j, xs = [.int i, .int j] ∧ Q (.int (if j < i then j else i)) H
theorem c_max (hc : X.calm = true) : CallR X (.builtin "max") uMax := call_max2 hc
theorem c_min (hc : X.calm = true) : CallR X (.builtin "min") uMin := call_min2 hc
def uStr : List V → Hp → VK → Prop := fun xs H Q => ∃ i, xs = [.int i] ∧ i.natAbs.log2 < 1920 ∧ Q (.str (toString i)) H
theorem c_isi (hK : X.K = K) : CallR X (.builtin "isinstance") (rIsi K) := hK ▸ call_isi
theorem c_all (hK : X.K = K) (hc : X.calm = true) : CallR X (.builtin "all") (rAll K) := hK ▸ cr_all hc
theorem c_any (hK : X.K = K) (hc : X.calm = true) : CallR X (.builtin "any") (rAny K) := hK ▸ cr_any hc
theorem c_repr {k : Nat} (hK : X.K = K) (hg : X.A.guards = some []) (hr : Room k X.A) (hs : ∃ mm, X.base.Ns sysModules mm) : CallR X (.builtin "repr") (rRepr K) := hK ▸ call_repr hg hr hs
theorem c_str : CallR X (.type "str") uStr := call_str_int
end

def uJoin (K : PySem.W.Frag) : V → List V → Hp → VK → Prop := fun x xs H Q => ∃ a p, ∃ ys : List Str, x = .str a ∧ xs = [.ref p] ∧ (SqL K H p (ys.map V.str) ∨ SqT K H p (ys.map V.str)) ∧
  (ys.map (·.length)).sum + ys.length * a.length ≤ 16777216 ∧ Q (.str (Txt.join a ys)) H
theorem pe_joinU {X : Cx} {K : PySem.W.Frag} {o e : Expr} {to te : TE} {ap pos : Pos} (hK : X.K = K) (ho : PE X o to) (he : PE X e te) (h1 : starEach [e] X.env = [(false, eval e X.env)] := by rfl) (h2 : attributeBase o "join" X.env (eval o X.env) = eval o X.env := by rfl)
    (h3 : (ap.endLine == pos.line) = true := by rfl) : PE X (.Call (.Attribute o "join" ap) [e] [] pos) (tM1 (uJoin K) to te) := hK ▸ pe_join ho he h1 h2 h3

theorem pi_lst {X : Cx} {K : PySem.W.Frag} {tg l : Expr} {tl : TE} (hK : X.K = K) (hl : PE X l tl) : PI X tg l (iList K tl) := hK ▸ pi_list hl
theorem pi_tpl {X : Cx} {K : PySem.W.Frag} {tg l : Expr} {tl : TE} (hK : X.K = K) (hl : PE X l tl) : PI X tg l (iTup K tl) := hK ▸ pi_tup hl

/-! more steps -/
theorem zle {n : Nat} (h : n ≤ 1000000) : n ≤ sizeLine := Nat.le_trans h (by decide)
/-- what kind of thing a value is -/
inductive Kd | non | bl | int | str | lst | tup | dic
def Kd.nm : Kd → String
  | .non => "NoneType" | .bl => "bool" | .int => "int" | .str => "str" | .lst => "list" | .tup => "tuple" | .dic => "dict"
inductive TyN (H : Hp) : V → Kd → Prop
  | non : TyN H .non .non
  | bl {b : Bool} : TyN H (.bl b) .bl
  | int {i : Int} : TyN H (.int i) .int
  | str {z : Str} : TyN H (.str z) .str
  | lst {a : Addr} {xs : List V} : H a = some (.lst xs) → TyN H (.ref a) .lst
  | tup {a : Addr} {xs : List V} : H a = some (.tup xs) → TyN H (.ref a) .tup
  | dic {a : Addr} {kvs : List (Key × V)} : H a = some (.dK kvs) → TyN H (.ref a) .dic
theorem TyN.ty {K : PySem.W.Frag} {H : Hp} {v : V} {n : Kd} (h : TyN H v n) : TyX K H v (.type n.nm) := by
  cases h with
  | non => exact .base .non
  | bl => exact .base (.bl _)
  | int => exact .base (.int _)
  | str => exact .base (.str _)
  | lst e => exact .base (.lst e)
  | tup e => exact .base (.tup e)
  | dic e => exact .base (.dK e)
theorem TyN.kp {H H' : Hp} {v : V} {n : Kd} (h : TyN H v n) (k : Kp [] H H') : TyN H' v n := by
  cases h with
  | non => exact .non
  | bl => exact .bl
  | int => exact .int
  | str => exact .str
  | lst e => exact .lst (k.get0 e)
  | tup e => exact .tup (k.get0 e)
  | dic e => exact .dic (k.get0 e)
def Kd.isInt : Kd → Bool | .int => true | .bl => true | _ => false
def Kd.isBool : Kd → Bool | .bl => true | _ => false
def Kd.isStr : Kd → Bool | .str => true | _ => false
def Kd.isList : Kd → Bool | .lst => true | _ => false
def Kd.isTup : Kd → Bool | .tup => true | _ => false
def Kd.isDict : Kd → Bool | .dic => true | _ => false
theorem kb_int (t : Kd) : kitB t.nm "int" = some t.isInt := by cases t <;> decide +kernel
theorem kb_bool (t : Kd) : kitB t.nm "bool" = some t.isBool := by cases t <;> decide +kernel
theorem kb_str (t : Kd) : kitB t.nm "str" = some t.isStr := by cases t <;> decide +kernel
theorem kb_list (t : Kd) : kitB t.nm "list" = some t.isList := by cases t <;> decide +kernel
theorem kb_tup (t : Kd) : kitB t.nm "tuple" = some t.isTup := by cases t <;> decide +kernel
theorem kb_dict (t : Kd) : kitB t.nm "dict" = some t.isDict := by cases t <;> decide +kernel
section
variable {K : PySem.W.Frag} {σ : L2.St} {H : Hp} {Q : VK} {D : Ends} {x y v : V} {i : Nat} {n m : Int} {a b : Str}
theorem s_max2 (q : Q (.int (if m > n then m else n)) H) : uMax [.int n, .int m] H Q := ⟨n, m, rfl, q⟩
theorem s_min2 (q : Q (.int (if m < n then m else n)) H) : uMin [.int n, .int m] H Q := ⟨n, m, rfl, q⟩
theorem s_lens (h : a.length ≤ sizeLine) (q : Q (.int a.length) H) : uLen K [.str a] H Q := Or.inl ⟨_, a.length, rfl, ⟨h, rfl⟩, q⟩
theorem s_lenL {p : Addr} {xs : List V} (h : SqL K H p xs) (q : Q (.int xs.length) H) : uLen K [.ref p] H Q := Or.inl ⟨_, xs.length, rfl, Or.inl ⟨xs, h, rfl⟩, q⟩
theorem s_lenl {p : Addr} {xs : List V} (h : H p = some (.lst xs)) (q : Q (.int xs.length) H) : uLen K [.ref p] H Q := s_lenL (SqL.of h) q
theorem s_lent {p : Addr} {xs : List V} (h : H p = some (.tup xs)) (q : Q (.int xs.length) H) : uLen K [.ref p] H Q := Or.inl ⟨_, xs.length, rfl, Or.inr ⟨xs, SqT.of h, rfl⟩, q⟩
theorem s_lend {p : Addr} {xs : List (Key × V)} (h : H p = some (.dK xs)) (q : Q (.int xs.length) H) : uLen K [.ref p] H Q := Or.inr ⟨p, xs, rfl, h, q⟩
theorem s_str (h : n.natAbs.log2 < 1920) (q : Q (.str (toString n)) H) : uStr [.int n] H Q := ⟨n, rfl, h, q⟩
theorem s_isi0 {s t : String} {k : Bool} (h : TyX K H v (.type s)) (hk : kitB s t = some k) (q : Q (.bl k) H) : rIsi K [v, .ty t] H Q := ⟨v, .ty t, .type s, .type t, k, rfl, .ty t, h, kit_ty hk, q⟩
theorem s_isInt {t : Kd} (h : TyN H v t) (q : Q (.bl t.isInt) H) : rIsi K [v, .ty "int"] H Q := s_isi0 h.ty (kb_int t) q
theorem s_isBool {t : Kd} (h : TyN H v t) (q : Q (.bl t.isBool) H) : rIsi K [v, .ty "bool"] H Q := s_isi0 h.ty (kb_bool t) q
theorem s_isStr {t : Kd} (h : TyN H v t) (q : Q (.bl t.isStr) H) : rIsi K [v, .ty "str"] H Q := s_isi0 h.ty (kb_str t) q
theorem s_isList {t : Kd} (h : TyN H v t) (q : Q (.bl t.isList) H) : rIsi K [v, .ty "list"] H Q := s_isi0 h.ty (kb_list t) q
theorem s_isTup {t : Kd} (h : TyN H v t) (q : Q (.bl t.isTup) H) : rIsi K [v, .ty "tuple"] H Q := s_isi0 h.ty (kb_tup t) q
theorem s_isDict {t : Kd} (h : TyN H v t) (q : Q (.bl t.isDict) H) : rIsi K [v, .ty "dict"] H Q := s_isi0 h.ty (kb_dict t) q
theorem s_itT {k : Bool} {A B : Prop} (e : k = true) (h : A) : if k = true then A else B := by subst e; exact h
theorem s_itF {k : Bool} {A B : Prop} (e : k = false) (h : B) : if k = true then A else B := by subst e; exact h
theorem s_sl {r : V → Option Int → Option Int → Hp → VK → Prop} {te : TE} {tl th : TO} (h : te σ H fun x H1 => tl σ H1 fun l H2 => th σ H2 fun u H3 => r x l u H3 Q) : tSl r te tl th σ H Q := h
theorem s_nopart {Q : Option Int → Hp → Prop} (q : Q none H) : tNoPart σ H Q := q
theorem s_part {Q : Option Int → Hp → Prop} {t : TE} (h : t σ H fun x H1 => ∃ i, x = .int i ∧ Q (some i) H1) : tPart t σ H Q := h
theorem s_int {P : Int → Prop} (q : P n) : ∃ i, V.int n = .int i ∧ P i := ⟨n, rfl, q⟩
theorem s_sls {lo hi : Option Int} (h : a.length ≤ sizeLine) (q : Q (.str (cutS a lo hi)) H) : uSl K (.str a) lo hi H Q := Or.inr (Or.inl ⟨a, rfl, h, q⟩)
theorem s_sll {lo hi : Option Int} {p : Addr} {xs : List V} (h : SqL K H p xs) (q : ∀ p' H', H p' = none → H' p' = some (.lst (cutV xs lo hi)) → Kp [] H H' → Q (.ref p') H') : uSl K (.ref p) lo hi H Q := Or.inl ⟨p, xs, rfl, h, new_abs q⟩
theorem s_m1 {r : V → List V → Hp → VK → Prop} {to te : TE} (h : to σ H fun x H1 => (∃ a, x = .str a) ∧ te σ H1 fun y H2 => r x [y] H2 Q) : tM1 r to te σ H Q := h
theorem s_isstr {R : Prop} (h : R) : (∃ b, V.str a = .str b) ∧ R := ⟨⟨a, rfl⟩, h⟩
theorem s_join {p : Addr} {ys : List Str} (h : H p = some (.lst (ys.map V.str))) (hz : (ys.map (·.length)).sum + ys.length * a.length ≤ 16777216) (q : Q (.str (Txt.join a ys)) H) : uJoin K (.str a) [.ref p] H Q :=
  ⟨a, p, ys, rfl, rfl, Or.inl (SqL.of h), hz, q⟩
theorem s_rng1 {ta : TA} {R : It → Hp → Prop} (h : ta σ H fun vs H1 => ∃ j : Int, vs = [.int j] ∧ -(2 ^ 62) ≤ j ∧ j < 2 ^ 62 ∧ R (Itr 0 j.toNat) H1) : iRng1 ta σ H R := h
theorem s_rng {R : Int → Prop} (h1 : -(2 ^ 62) ≤ n) (h2 : n < 2 ^ 62) (q : R n) : ∃ j : Int, [V.int n] = [.int j] ∧ -(2 ^ 62) ≤ j ∧ j < 2 ^ 62 ∧ R j := ⟨n, rfl, h1, h2, q⟩
theorem s_ilist {tl : TE} {R : It → Hp → Prop} (h : tl σ H fun x H1 => ∃ a, x = .ref a ∧ (∃ xs, SqL K H1 a xs) ∧ R (Itl K a) H1) : iList K tl σ H R := h
theorem s_ilst {p : Addr} {xs : List V} {R : Addr → Prop} (h : SqL K H p xs) (q : R p) : ∃ a, V.ref p = .ref a ∧ (∃ xs, SqL K H a xs) ∧ R a := ⟨p, rfl, ⟨xs, h⟩, q⟩
theorem s_istr {te : TE} {R : It → Hp → Prop} (h : te σ H fun v H1 => ∃ x, v = .str x ∧ R (Its x) H1) : iStr te σ H R := h
theorem s_istr1 {R : Str → Prop} (q : R a) : ∃ x, V.str a = .str x ∧ R x := ⟨a, rfl, q⟩
theorem s_dnew (h : ∀ d H', H d = none → H' d = some (.dK []) → Kp [] H H' → Q (.ref d) H') : tDNewK σ H Q := new_abs (R := fun d H' => Q (.ref d) H') h
theorem s_all {p : Addr} {bs : List Bool} (h : H p = some (.lst (bs.map V.bl))) (q : Q (.bl (bs.all id)) H) : rAll K [.ref p] H Q := ⟨p, bs, rfl, SqL.of h, q⟩
theorem s_yes {Q : Bool → Hp → Prop} (q : Q true H) : tYes σ H Q := q
theorem dpa_strs : ∀ zs : List Str, DpAll K H (zs.map V.str) (zs.map PyData.str)
  | [] => .nil
  | z :: zs => .cons (.str z) (dpa_strs zs)
theorem lay_strs : ∀ {zs : List Str}, (∀ z ∈ zs, ∀ c ∈ z.cps.toList, c < 1114112) → PyData.canLayAll0 (zs.map PyData.str) = true ∧ PyData.depthAll (zs.map PyData.str) ≤ 1
  | [], _ => ⟨rfl, by simp [PyData.depthAll]⟩
  | z :: zs, h => by
    obtain ⟨h1, h2⟩ := lay_strs (zs := zs) fun y hy => h y (List.mem_cons_of_mem _ hy)
    refine ⟨?_, ?_⟩
    · simp only [List.map_cons, PyData.canLayAll0, PyData.canLay0, h1, Bool.and_true, PyData.strOk, Array.all_eq_true', decide_eq_true_eq]
      intro c hc
      exact h z List.mem_cons_self c (by simpa using hc)
    · simp only [List.map_cons, PyData.depthAll, PyData.depth]
      omega
theorem shp_strs {zs : List Str} (h : ∀ z ∈ zs, ∀ c ∈ z.cps.toList, c < 1114112) : SeqAt.shaped (.list (zs.map PyData.str)) = true := by
  obtain ⟨h1, h2⟩ := lay_strs h
  unfold SeqAt.shaped
  rw [Bool.and_eq_true]
  refine ⟨by simpa only [PyData.canLay0] using h1, decide_eq_true ?_⟩
  simp only [PyData.depth]
  omega
theorem s_eqNil {p q : Addr} {zs : List Str} (h1 : H p = some (.lst (zs.map V.str))) (h2 : H q = some (.lst [])) (ok : ∀ z ∈ zs, ∀ c ∈ z.cps.toList, c < 1114112) (k : Q (.bl zs.isEmpty) H) : uEq K (.ref p) (.ref q) H Q := by
  refine Or.inr ⟨_, _, .lst (SqL.of h1) (dpa_strs zs), .lst (SqL.of h2) .nil, shp_strs ok, by decide +kernel, ?_⟩
  have e : PyData.eqv (.list (zs.map PyData.str)) (.list []) = zs.isEmpty := by
    cases zs <;> simp [PyData.eqv, PyData.eqvAll]
  rw [e]
  exact k
/-- a comprehension -/
theorem s_lc {wi : TI} {g : TG} {tt : TT} {te : TE} {vs : List Nat} (h : wi σ H fun J H1 => ∀ D, H1 D = none → ∃ W : Nat → Nat → Hp → Prop, (∃ m, W 0 m (upd H1 D (.lst []))) ∧ ∀ i m H, W i m H →
    (J.stop i H ∧ Q (.ref D) H) ∨ (J.go i H ∧ ∃ Nx : Hp → Prop, (∀ H', Nx H' → ∃ m', m' < m ∧ W (i + 1) m' H') ∧ ∀ x H', J.yld i H x H' → g x (wipe σ vs) H' fun σ2 H2 => wipe σ2 vs = wipe σ vs ∧ tt σ2 H2 fun b H3 =>
      if b = true then te σ2 H3 fun y H4 => ∃ acc, H4 D = some (.lst acc) ∧ acc.length < sizeLine ∧ Nx (upd H4 D (.lst (acc ++ [y]))) else Nx H3)) : tLc wi g tt te vs σ H Q := h
/-- a loop -/
theorem s_for {wi : TI} {g : TG} {tb : TS} (h : wi σ H fun J H1 => ∃ W : Nat → Nat → L2.St → Hp → Prop, (∃ m, W 0 m σ H1) ∧ ∀ i m σ H, W i m σ H →
    (J.stop i H ∧ D.nx σ H) ∨ (J.go i H ∧ ∃ N : L2.St → Hp → Prop, (∀ σ' H', N σ' H' → ∃ m', m' < m ∧ W (i + 1) m' σ' H') ∧ ∀ x H', J.yld i H x H' → g x σ H' fun σ2 H2 => tb { D with nx := N, ct := N, bk := D.nx } σ2 H2)) : tFor wi g tb D σ H := h
/-- a comprehension's invariant, by the items made so far -/
def PvD (D : Addr) (Pv : Nat → List V → Hp → Prop) (i : Nat) (H : Hp) : Prop := ∃ acc, H D = some (.lst acc) ∧ Pv i acc H
theorem PvD.start {D : Addr} {Pv : Nat → List V → Hp → Prop} (h : Pv 0 [] (upd H D (.lst []))) : PvD D Pv 0 (upd H D (.lst [])) := ⟨[], upd_same, h⟩
theorem PvD.more {D : Addr} {Pv : Nat → List V → Hp → Prop} {acc : List V} (e : H D = some (.lst acc)) (hz : acc.length < sizeLine) (h : Pv i (acc ++ [y]) (upd H D (.lst (acc ++ [y])))) :
    ∃ acc, H D = some (.lst acc) ∧ acc.length < sizeLine ∧ PvD D Pv i (upd H D (.lst (acc ++ [y]))) := ⟨acc, e, hz, acc ++ [y], upd_same, h⟩
theorem PvD.skip {D : Addr} {Pv : Nat → List V → Hp → Prop} {acc : List V} (e : H D = some (.lst acc)) (h : Pv i acc H) : PvD D Pv i H := ⟨acc, e, h⟩
end
end U

namespace U
open PySem L2 PySem.Spec PyProof.Rows
theorem log2s {m : Nat} (h : m < 10 ^ 100) : m.log2 < 1920 := log2_small (Nat.lt_of_lt_of_le h (by decide +kernel))
/-- a text of at most n signs -/
structure SS (z : Str) (n : Nat) : Prop where
  len : z.length ≤ n
  ok : ∀ c ∈ z.cps.toList, c < 1114112
theorem SS.mono {z : Str} {n m : Nat} (h : SS z n) (e : n ≤ m) : SS z m := ⟨Nat.le_trans h.len e, h.ok⟩
theorem SS.app {a b : Str} {n m : Nat} (h : SS a n) (g : SS b m) : SS (a ++ b) (n + m) := by
  refine ⟨by rw [Str.length_append]; have := h.len; have := g.len; omega, fun c hc => ?_⟩
  rw [Str.cps_append, Array.toList_append, List.mem_append] at hc
  rcases hc with hc | hc
  · exact h.ok c hc
  · exact g.ok c hc
theorem SS.cut {a : Str} {n : Nat} {lo hi : Option Int} (h : SS a n) : SS (cutS a lo hi) n := by
  refine ⟨?_, fun c hc => ?_⟩
  · show (List.toArray _).size ≤ n
    rw [List.size_toArray, List.length_take, List.length_drop, Array.length_toList]
    have : a.cps.size ≤ n := h.len
    omega
  · have hc : c ∈ (List.take (HT.sIx a.length a.length hi - HT.sIx a.length 0 lo) (List.drop (HT.sIx a.length 0 lo) a.cps.toList)) := by simpa [cutS] using hc
    exact h.ok c (List.mem_of_mem_drop (List.mem_of_mem_take hc))
theorem SS.one {c : Nat} (h : c < 1114112) : SS ⟨#[c]⟩ 1 := ⟨by simp [Str.length], fun d hd => by
  have : d = c := by simpa using hd
  subst this; exact h⟩
theorem SS.mk' {z : Str} {n : Nat} (h : z.length ≤ n ∧ ∀ c ∈ z.cps.toList, c < 1114112) : SS z n := ⟨h.1, h.2⟩
theorem join_ones : ∀ cs : List Nat, Txt.join (Str.ofString "") (cs.map fun c => ⟨#[c]⟩) = ⟨cs.toArray⟩ := fun cs => by
  rw [show ∀ y l, Txt.join y l = Str.join y l from fun y l => StrLaws.glued_eq_join y l]
  have e0 : Str.ofString "" = Str.empty := by decide +kernel
  rw [e0]
  induction cs with
  | nil => rfl
  | cons c cs ih =>
    cases cs with
    | nil => rfl
    | cons d cs =>
      show (⟨#[c]⟩ : Str) ++ Str.empty ++ Str.join Str.empty ((d :: cs).map fun c => ⟨#[c]⟩) = _
      rw [ih]
      refine Str.ext' ?_
      simp [Str.cps_append, Str.empty]
theorem SS.ones {cs : List Nat} (h : ∀ c ∈ cs, c < 1114112) : SS (Txt.join (Str.ofString "") (cs.map fun c => ⟨#[c]⟩)) cs.length := by
  rw [join_ones]
  exact ⟨by simp [Str.length], by simpa using h⟩
theorem SS.num {i : Int} (h : i.natAbs < 10 ^ 100) : SS (Str.ofString (toString i)) 102 := by
  refine ⟨int_len h, fun c hc => ?_⟩
  rw [Str.ofString_eq_toList] at hc
  have hc : c ∈ (toString i).toList.map Char.toNat := by simpa using hc
  obtain ⟨d, _, rfl⟩ := List.mem_map.mp hc
  have h2 : d.toNat.isValidChar := d.valid
  unfold Nat.isValidChar at h2
  omega
theorem SS.at {z : Str} {n : Nat} {i : Int} (h : SS z n) (h0 : 0 ≤ i) (h1 : i < z.length) : ∃ c, atI z.cps.toList i = some c ∧ c < 1114112 ∧ c ∈ z.cps.toList := by
  obtain ⟨c, e1, e2⟩ := at_int (xs := z.cps.toList) h0 (by rw [Array.length_toList]; exact h1)
  have m := List.mem_of_getElem? e1
  exact ⟨c, e2, h.ok c m, m⟩
theorem ones_len (cs : List Nat) : ((cs.map fun c => (⟨#[c]⟩ : Str)).map (·.length)).sum = cs.length := by
  induction cs with
  | nil => rfl
  | cons c cs ih =>
    rw [List.map_cons, List.map_cons, List.sum_cons, ih, List.length_cons]
    simp [Str.length]
    omega
end U

namespace U
open PySem L2 PySem.Spec PyProof.Rows

theorem peImp {X : Cx} {e : Expr} {t u : TE} (h : PE X e t) (w : ∀ σ H (Q : VK), u σ H Q → ∃ Q0 : VK, t σ H Q0 ∧ ∀ x H1, Q0 x H1 → Q x H1) : PE X e u :=
  ⟨fun pi s σ H Q I q => by
    obtain ⟨Q0, q0, z⟩ := w σ H Q q
    exact thn (h.run pi s σ H Q0 I q0) fun a s1 ⟨x, H1, I1, r1, q1⟩ => ⟨x, H1, I1, r1, z x H1 q1⟩⟩
def tMo (t : TE) : TE := fun σ H Q => ∃ Q0 : VK, t σ H Q0 ∧ ∀ x H1, Q0 x H1 → Q x H1
theorem peMo {X : Cx} {e : Expr} {t : TE} (h : PE X e t) : PE X e (tMo t) := peImp h fun _ _ _ q => q
def tMa (t : TA) : TA := fun σ H Q => ∃ Q0 : List V → Hp → Prop, t σ H Q0 ∧ ∀ x H1, Q0 x H1 → Q x H1
theorem paMo {X : Cx} {es : List Expr} {t : TA} (h : PA X es t) : PA X es (tMa t) :=
  ⟨fun pos pi s σ H Q I ⟨Q0, q0, z⟩ => thn (h.run pos pi s σ H Q0 I q0) fun a s1 ⟨x, H1, I1, r1, q1⟩ => ⟨x, H1, I1, r1, z x H1 q1⟩⟩
theorem psImp {X : Cx} {st : Stmt} {t u : TS} (h : PS X st t) (w : ∀ D σ H, u D σ H → t D σ H) : PS X st u :=
  ⟨fun pi s σ H D I q => h.run pi s σ H D I (w D σ H q)⟩

/-! what is raised passes -/
section
variable {X : Cx} {E : XK}
theorem passF : Passes (L2.CX X.prog X.w) X (fun _ _ _ => False) := fun _ _ _ _ _ _ _ c => by
  obtain ⟨_, _, _, _, _, _, _, _, _, _, _, _, z⟩ := c
  exact z.elim
/-- the wish of a def's body -/
abbrev wE (E : XK) : WX := fun cls d _ H => E cls d H
abbrev wNo : WX := fun _ _ _ _ => False
end

/-! calls -/
section
variable {X : Cx} {k : Nat} {f C : Addr} {fd : FuncData} {ps : List Str} {sp : Sp} {W : WX} {x m : Str} {p ap pos : Pos} {e o : Expr} {es : List Expr} {t : TA} {ta : TE} {K : PySem.W.Frag}
variable {pi : List (Addr × Obj)} {σ : L2.St} {H : Hp} {s : Shared} {Q : VK} {us : List Value} {vs : List V}
theorem bind0 (hb : Binds X.K fd ps []) (I : Inv X pi σ H s) (r : Vals vs us) (l : vs.length = ps.length) : BindsTo s fd ⟨us, []⟩ (ps.zip us) := by
  have e1 : us ++ [] = us := List.append_nil us
  have b1 := hb s us I.kIn (by rw [e1, ← r.length]; exact l)
  rw [e1] at b1
  exact b1
theorem run_o (F : FnOk X.prog X.w X.K X.mg X.base (L2.CX X.prog X.w) k f fd ps sp) (hr : Room k X.A) (hb : Binds X.K fd ps []) (tk : Takes X W) (I : Inv X pi σ H s) (r : Vals vs us) (h : sp vs H Q (fun cls d H' => W cls d σ H')) :
    wpAny (model X.prog X.w) X.A (call (.ref f) us) (EP X pi σ Q) X.xe s := by
  refine wpAny_call (codeAny_mono (F.run X.A X.stack s H ⟨us, []⟩ us vs Q _ hr I.env0 (bind0 hb I r (F.len _ _ _ _ h)) r h) fun rr s' hq => ?_)
  match rr, hq with
  | .error er, z => exact tk er s' (XE.of_call I (fun _ _ _ y => y) z)
  | .ok (.ret u), z => exact I.after z
  | .ok .next, z => exact z.elim
  | .ok .brk, z => exact z.elim
  | .ok .cont, z => exact z.elim
theorem run_g (F : FnG X.prog X.w X.K X.mg X.base (L2.CX X.prog X.w) k f fd ps sp) (hg : X.A.guards = some []) (hr : Room k X.A) (hb : Binds X.K fd ps []) (tk : Takes X W) (I : Inv X pi σ H s) (r : Vals vs us) (h : sp vs H Q (fun cls d H' => W cls d σ H')) :
    wpAny (model X.prog X.w) X.A (call (.ref f) us) (EP X pi σ Q) X.xe s := by
  refine wpAny_call (codeAny_mono (F.run X.A X.stack s H ⟨us, []⟩ us vs Q _ hg hr I.env0 (bind0 hb I r (F.len _ _ _ _ h)) r h) fun rr s' hq => ?_)
  match rr, hq with
  | .error er, z => exact tk er s' (XE.of_call I (fun _ _ _ y => y) z)
  | .ok (.ret u), z => exact I.after z
  | .ok .next, z => exact z.elim
  | .ok .brk, z => exact z.elim
  | .ok .cont, z => exact z.elim
def tCo (sp : Sp) (W : WX) (t : TA) : TE := fun σ H Q => t σ H fun vs H1 => sp vs H1 Q fun cls d H' => W cls d σ H'
/-- f(e, ..), f of a promise that asks nothing of what is around -/
theorem pe_co (F : FnOk X.prog X.w X.K X.mg X.base (L2.CX X.prog X.w) k f fd ps sp) (hr : Room k X.A) (gl : Gl X x) (hm : X.mg x = some (.ref f)) (hk : PySem.W.keepIn X.K (.ref f) = true) (hb : Binds X.K fd ps []) (tk : Takes X W)
    (ha : PA X (e :: es) t) (h1 : (x == ("__debug__" : Str)) = false := by decide) (h2 : starEach (e :: es) X.env = (false, eval e X.env) :: starEach es X.env := by rfl) (h3 : (backTo pos (starEach es X.env)).any (·.1) = false := by rfl) :
    PE X (.Call (.Name x p) (e :: es) [] pos) (tCo sp W t) := by
  refine ⟨fun pi s σ H Q I h => wpAny_Call_Name_kw (ld_glob I gl hm ?_ h1)⟩
  refine PySem.W.callWith_K (h₀ := X.base) I.ok.mod.kin hk (thn (ha.run pos pi s σ H _ I h) ?_) h2 h3
  rintro us s1 ⟨vs, H1, I1, r, q⟩
  exact ⟨I1.kIn, run_o F hr hb tk I1 r q⟩
theorem pe_co0 (F : FnOk X.prog X.w X.K X.mg X.base (L2.CX X.prog X.w) k f fd ps sp) (hr : Room k X.A) (gl : Gl X x) (hm : X.mg x = some (.ref f)) (hk : PySem.W.keepIn X.K (.ref f) = true) (hb : Binds X.K fd ps []) (tk : Takes X W)
    (h1 : (x == ("__debug__" : Str)) = false := by decide) : PE X (.Call (.Name x p) [] [] pos) (tCo sp W tNil) :=
  ⟨fun pi s σ H Q I h => wpAny_Call_Name_kw (ld_glob I gl hm (PySem.W.callWith_K0 I.kIn hk (run_o (us := []) F hr hb tk I .nil h)) h1)⟩
/-- .. where no repr is under way -/
theorem pe_cg (F : FnG X.prog X.w X.K X.mg X.base (L2.CX X.prog X.w) k f fd ps sp) (hg : X.A.guards = some []) (hr : Room k X.A) (gl : Gl X x) (hm : X.mg x = some (.ref f)) (hk : PySem.W.keepIn X.K (.ref f) = true) (hb : Binds X.K fd ps []) (tk : Takes X W)
    (ha : PA X (e :: es) t) (h1 : (x == ("__debug__" : Str)) = false := by decide) (h2 : starEach (e :: es) X.env = (false, eval e X.env) :: starEach es X.env := by rfl) (h3 : (backTo pos (starEach es X.env)).any (·.1) = false := by rfl) :
    PE X (.Call (.Name x p) (e :: es) [] pos) (tCo sp W t) := by
  refine ⟨fun pi s σ H Q I h => wpAny_Call_Name_kw (ld_glob I gl hm ?_ h1)⟩
  refine PySem.W.callWith_K (h₀ := X.base) I.ok.mod.kin hk (thn (ha.run pos pi s σ H _ I h) ?_) h2 h3
  rintro us s1 ⟨vs, H1, I1, r, q⟩
  exact ⟨I1.kIn, run_g F hg hr hb tk I1 r q⟩
theorem pe_cg0 (F : FnG X.prog X.w X.K X.mg X.base (L2.CX X.prog X.w) k f fd ps sp) (hg : X.A.guards = some []) (hr : Room k X.A) (gl : Gl X x) (hm : X.mg x = some (.ref f)) (hk : PySem.W.keepIn X.K (.ref f) = true) (hb : Binds X.K fd ps []) (tk : Takes X W)
    (h1 : (x == ("__debug__" : Str)) = false := by decide) : PE X (.Call (.Name x p) [] [] pos) (tCo sp W tNil) :=
  ⟨fun pi s σ H Q I h => wpAny_Call_Name_kw (ld_glob I gl hm (PySem.W.callWith_K0 I.kIn hk (run_g (us := []) F hg hr hb tk I .nil h)) h1)⟩
/-- o.m(e, ..) -/
def MtK (C : Addr) (m : Str) (R : V → Hp → Prop) (x : V) (H : Hp) : Prop := ∃ a dx fs, x = .ref a ∧ H a = some (.ins C dx fs) ∧ fs.lookup m = none ∧ R x H
def tMt (C : Addr) (m : Str) (sp : Sp) (W : WX) (ta : TE) (t : TA) : TE := fun σ H Q => ta σ H (MtK C m fun x H1 => t σ H1 fun vs H2 => sp (x :: vs) H2 Q fun cls d H' => W cls d σ H')
theorem pe_mo {pl : Sem Bool} (c : Cls X.K C) (hm : Meth X.K C m f) (F : FnOk X.prog X.w X.K X.mg X.base (L2.CX X.prog X.w) k f fd ps sp) (hr : Room k X.A) (hb : Binds X.K fd ps []) (tk : Takes X W) (he : PE X o ta) (ha : PA X (e :: es) t)
    (h2 : starEach (e :: es) X.env = (false, eval e X.env) :: starEach es X.env := by rfl) (h3 : (backTo pos (starEach es X.env)).any (·.1) = false := by rfl)
    (h4 : eval (.Call (.Attribute o m ap) (e :: es) [] pos) X.env = (do
      let ov ← eval o X.env
      standAt ap.atName
      let (f, first) ← holding [ov] (getMethod ov m pl)
      callWith pos f first (backTo pos (starEach (e :: es) X.env)) (backToKw pos (keywordEach [] X.env))) := by rfl) :
    PE X (.Call (.Attribute o m ap) (e :: es) [] pos) (tMt C m sp W ta t) := by
  refine ⟨fun pi s σ H Q I h => PySem.W.methodCall_KW (pl := pl) (thn (he.run pi s σ H _ I h) ?_) h4⟩
  rintro u s1 ⟨x, H1, I1, rx, a, dx, fs, rfl, ea, l, q⟩
  obtain rfl : u = Value.ref a := rx
  refine getmeth_ok I1 ea c hm l (PySem.W.callWith_K (first := [.ref a]) (h₀ := X.base) I.ok.mod.kin hm.kp (thn (ha.run pos pi s1 σ H1 _ I1 q) ?_) h2 h3)
  rintro us s2 ⟨vs, H2, I2, r, q2⟩
  exact ⟨I2.kIn, run_o (us := .ref a :: us) (vs := .ref a :: vs) F hr hb tk I2 (.cons rfl r) q2⟩
theorem pe_mo0 {pl : Sem Bool} (c : Cls X.K C) (hm : Meth X.K C m f) (F : FnOk X.prog X.w X.K X.mg X.base (L2.CX X.prog X.w) k f fd ps sp) (hr : Room k X.A) (hb : Binds X.K fd ps []) (tk : Takes X W) (he : PE X o ta)
    (h4 : eval (.Call (.Attribute o m ap) [] [] pos) X.env = (do
      let ov ← eval o X.env
      standAt ap.atName
      let (f, first) ← holding [ov] (getMethod ov m pl)
      callWith pos f first (backTo pos (starEach [] X.env)) (backToKw pos (keywordEach [] X.env))) := by rfl) :
    PE X (.Call (.Attribute o m ap) [] [] pos) (tMt C m sp W ta tNil) := by
  refine ⟨fun pi s σ H Q I h => PySem.W.methodCall_KW (pl := pl) (thn (he.run pi s σ H _ I h) ?_) h4⟩
  rintro u s1 ⟨x, H1, I1, rx, a, dx, fs, rfl, ea, l, q⟩
  obtain rfl : u = Value.ref a := rx
  exact getmeth_ok I1 ea c hm l (PySem.W.callWith_K0 (first := [.ref a]) I1.kIn hm.kp (run_o (us := [.ref a]) (vs := [.ref a]) F hr hb tk I1 (.cons rfl .nil) q))
/-- C(e, ..) -/
def NewK (C : Addr) (sp : Sp) (E : XK) (Q : VK) (vs : List V) (H : Hp) : Prop := ∀ x dx H', H x = none → H' x = some (.ins C dx []) → Kp [] H H' → sp (.ref x :: vs) H' (fun v H2 => v = .non ∧ Q (.ref x) H2) E
def tNw (C : Addr) (sp : Sp) (W : WX) (t : TA) : TE := fun σ H Q => t σ H (NewK C sp (fun cls d H' => W cls d σ H') Q)
theorem run_nw (M : Mk X.K C f) (F : FnOk X.prog X.w X.K X.mg X.base (L2.CX X.prog X.w) k f fd ps sp) (hr : Room (k + 1) X.A) (hb : Binds X.K fd ps []) (tk : Takes X W) (I : Inv X pi σ H s) (r : Vals vs us)
    (h : NewK C sp (fun cls d H' => W cls d σ H') Q vs H) : wpAny (model X.prog X.w) X.A (call (.ref C) us) (EP X pi σ Q) X.xe s := by
  have n1 : H (s.heap.objs.size + 1) = none := I.hok.fresh (Nat.le_succ _)
  have n0 : H s.heap.objs.size = none := I.hok.fresh (Nat.le_refl _)
  have hq := h (s.heap.objs.size + 1) s.heap.objs.size _ n1 upd_same ((Kp.refl.new (u := .own (s.heap.objs.size + 1)) n0).new (by rw [upd_ne (Nat.succ_ne_self _)]; exact n1))
  have I2 := Inv.made (C := C) I
  have r2 : Vals (V.ref (s.heap.objs.size + 1) :: vs) (Value.ref (s.heap.objs.size + 1) :: us) := .cons rfl r
  refine wpAny_call (make_map (f := f) I.kIn M.makes M.init (beq_iff_eq.mp M.fn) (codeAny_mono (F.run _ X.stack _ _ ⟨Value.ref (s.heap.objs.size + 1) :: us, []⟩ (Value.ref (s.heap.objs.size + 1) :: us) _ _ _ (hr.make C us [])
    (I2.env0.make C us []) (bind0 hb I2 r2 (F.len _ _ _ _ hq)) r2 hq) fun rr s' z => ?_))
  match rr, z with
  | .error er, z => exact tk er s' (XE.of_call I2 (fun _ _ _ y => y) z)
  | .ok (.ret u), z =>
    obtain ⟨v, H', I3, rv, ev, q3⟩ := I2.after z
    subst ev
    exact ⟨rv, ⟨V.ref (s.heap.objs.size + 1), H', I3, rfl, q3⟩⟩
  | .ok .next, z => exact z.elim
  | .ok .brk, z => exact z.elim
  | .ok .cont, z => exact z.elim
theorem pe_nw (M : Mk X.K C f) (F : FnOk X.prog X.w X.K X.mg X.base (L2.CX X.prog X.w) k f fd ps sp) (hr : Room (k + 1) X.A) (gl : Gl X x) (hm : X.mg x = some (.ref C)) (hb : Binds X.K fd ps []) (tk : Takes X W)
    (ha : PA X (e :: es) t) (h1 : (x == ("__debug__" : Str)) = false := by decide) (h2 : starEach (e :: es) X.env = (false, eval e X.env) :: starEach es X.env := by rfl) (h3 : (backTo pos (starEach es X.env)).any (·.1) = false := by rfl) :
    PE X (.Call (.Name x p) (e :: es) [] pos) (tNw C sp W t) := by
  refine ⟨fun pi s σ H Q I h => wpAny_Call_Name_kw (ld_glob I gl hm ?_ h1)⟩
  refine PySem.W.callWith_K (h₀ := X.base) I.ok.mod.kin M.kp (thn (ha.run pos pi s σ H _ I h) ?_) h2 h3
  rintro us s1 ⟨vs, H1, I1, r, q⟩
  exact ⟨I1.kIn, run_nw M F hr hb tk I1 r q⟩
theorem pe_nw0 (M : Mk X.K C f) (F : FnOk X.prog X.w X.K X.mg X.base (L2.CX X.prog X.w) k f fd ps sp) (hr : Room (k + 1) X.A) (gl : Gl X x) (hm : X.mg x = some (.ref C)) (hb : Binds X.K fd ps []) (tk : Takes X W)
    (h1 : (x == ("__debug__" : Str)) = false := by decide) : PE X (.Call (.Name x p) [] [] pos) (tNw C sp W tNil) :=
  ⟨fun pi s σ H Q I h => wpAny_Call_Name_kw (ld_glob I gl hm (PySem.W.callWith_K0 I.kIn M.kp (run_nw (us := []) M F hr hb tk I .nil h)) h1)⟩
/-- e.f -/
def FldK (K : PySem.W.Frag) (f : Str) (Q : VK) (x : V) (H : Hp) : Prop := ∃ a C dx fs v, x = .ref a ∧ H a = some (.ins C dx fs) ∧ Cls K C ∧ NoAttr K C f ∧ fs.lookup f = some v ∧ Q v H
def tFd (K : PySem.W.Frag) (ta : TE) (f : Str) : TE := fun σ H Q => ta σ H (FldK K f Q)
theorem pe_fd {f : Str} (hK : X.K = K) (he : PE X e ta) (hb : attributeBase e f X.env (eval e X.env) = eval e X.env) : PE X (.Attribute e f pos) (tFd K ta f) := hK ▸ pe_fld he hb
/-- e.f = v -/
def SetK (K : PySem.W.Frag) (f : Str) (y : V) (R : Hp → Prop) (x : V) (H : Hp) : Prop := ∃ a C dx fs, x = .ref a ∧ H a = some (.ins C dx fs) ∧ Cls K C ∧ NoAttr K C f ∧ fs.length < 1000 ∧ R (upd H a (.ins C dx (putF f y fs)))
def tSd (K : PySem.W.Frag) (ta tv : TE) (f : Str) : TS := fun D σ H => tv σ H fun y H1 => ta σ H1 (SetK K f y (D.nx σ))
theorem ps_fd {f : Str} {value : Expr} {tv : TE} {pos' : Pos} (hK : X.K = K) (he : PE X o ta) (hv : PE X value tv) (hs : swapsWith value (some (.Attribute o f pos')) pos.line X.env = pure false) : PS X (.Assign [.Attribute o f pos'] value pos) (tSd K ta tv f) :=
  hK ▸ ps_fld he hv hs
end

/-! steps -/
section
variable {K : PySem.W.Frag} {σ : L2.St} {H : Hp} {Q : VK} {D : Ends} {x y v : V} {C p : Addr} {m f : Str} {ta tv : TE} {t : TA} {sp : Sp} {W : WX}
theorem s_co (h : t σ H fun vs H1 => sp vs H1 Q fun cls d H' => W cls d σ H') : tCo sp W t σ H Q := h
theorem s_mt (h : ta σ H (MtK C m fun x H1 => t σ H1 fun vs H2 => sp (x :: vs) H2 Q fun cls d H' => W cls d σ H')) : tMt C m sp W ta t σ H Q := h
theorem s_mtk {R : V → Hp → Prop} {dx : Addr} {fs : List (Str × V)} (h : H p = some (.ins C dx fs)) (l : fs.lookup m = none) (q : R (.ref p) H) : MtK C m R (.ref p) H := ⟨p, dx, fs, rfl, h, l, q⟩
theorem s_nw (h : t σ H (NewK C sp (fun cls d H' => W cls d σ H') Q)) : tNw C sp W t σ H Q := h
theorem s_fd (h : ta σ H (FldK K f Q)) : tFd K ta f σ H Q := h
theorem s_fdk {dx : Addr} {fs : List (Str × V)} (h : H p = some (.ins C dx fs)) (c : Cls K C) (n : NoAttr K C f) (l : fs.lookup f = some v) (q : Q v H) : FldK K f Q (.ref p) H := ⟨p, C, dx, fs, v, rfl, h, c, n, l, q⟩
theorem s_sd (h : tv σ H fun y H1 => ta σ H1 (SetK K f y (D.nx σ))) : tSd K ta tv f D σ H := h
/-- an object is changed, the heap behind it as a letter -/
theorem put_abs {o o0 : HO} {R : Hp → Prop} (e : H p = some o0) (z : ko o0 = ko o) (h : ∀ H', H' p = some o → Kp [p] H H' → R H') (y : Nat.beq (ko o) 1 = false := by rfl) : R (upd H p o) := h _ upd_same (Kp.refl.put (by simp) ⟨o0, e, z⟩ y)
theorem s_sdk {dx : Addr} {fs gs : List (Str × V)} {R : Hp → Prop} (h : H p = some (.ins C dx fs)) (c : Cls K C) (n : NoAttr K C f) (z : fs.length < 1000) (e : putF f y fs = gs) (q : ∀ H', H' p = some (.ins C dx gs) → Kp [p] H H' → R H') : SetK K f y R (.ref p) H :=
  ⟨p, C, dx, fs, rfl, h, c, n, z, by rw [e]; exact put_abs h rfl q⟩
end

/-! an error with one field -/
/-- __init__ of an error: its field, the class's -/
def spE (C : Addr) (f : Str) : Sp := sp2 fun x y H Q _ => ∃ a, x = .ref a ∧ H a = some (exo a C none) ∧ ∀ dx, H dx = none → dx ≠ a → Q .non (upd (upd H dx (exd dx [(f, y)])) a (exo a C (some dx)))
section
variable {X : Cx} {C S fI : Addr} {f x : Str} {e : Expr} {es : List Expr} {ta : TA} {te to : TE} {p p1 p2 pos pos' : Pos} {K : PySem.W.Frag}
/-- a class that is read -/
structure RdC (K : PySem.W.Frag) (C : Addr) : Prop where
  rd : PySem.W.readsIn K C (.type "type") = true
  ga : PySem.W.specialIn K (.ref C) "__getattribute__" = some (some (.builtin "type.__getattribute__"))
/-- S.__init__(self, ..), S a class over ValueError without an __init__ of its own -/
def SeK (K : PySem.W.Frag) (Q : VK) (vs : List V) (H : Hp) : Prop := ∃ (a C : Addr) (ws : List V), vs = .ref a :: ws ∧ ws.length ≤ 1000 ∧ OexC K C ∧ H a = some (exo a C none) ∧ Q .non H
def tSe (K : PySem.W.Frag) (ta : TA) : TE := fun σ H Q => ta σ H (SeK K Q)
theorem pe_se {pl : Sem Bool} (hK : X.K = K) (gl : Gl X x) (hm : X.mg x = some (.ref S)) (r : RdC X.K S) (vV : PySem.W.findCls X.K (.ref S) (.type "type") "__init__" = some (.val (.builtin "ValueError.__init__"))) (ha : PA X (e :: es) ta)
    (h1 : (x == ("__debug__" : Str)) = false := by decide)
    (hc : eval (.Call (.Attribute (.Name x p1) "__init__" p2) (e :: es) [] pos) X.env = (do
      let ov ← eval (.Name x p1) X.env
      standAt p2.atName
      let (f, first) ← holding [ov] (getMethod ov "__init__" pl)
      callWith pos f first (backTo pos (starEach (e :: es) X.env)) (backToKw pos (keywordEach [] X.env))) := by rfl)
    (h2 : starEach (e :: es) X.env = (false, eval e X.env) :: starEach es X.env := by rfl) (h3 : (backTo pos (starEach es X.env)).any (·.1) = false := by rfl) :
    PE X (.Call (.Attribute (.Name x p1) "__init__" p2) (e :: es) [] pos) (tSe K ta) := by
  subst hK
  refine ⟨fun pi s σ H Q I h => PySem.W.methodCall_KW (ld_glob I gl hm ?_ h1) hc⟩
  refine PySem.W.method_cls I.kIn r.ga (PySem.W.cls_value I.kIn r.rd vV (by decide +kernel) ?_)
  refine PyProof.Rows.callWith_method1 (thn (ha.run pos pi _ σ H _ (I.tok _) h) ?_) h2 h3
  rintro us s1 ⟨vs, H1, I1, r1, a, D, ws, rfl, hl, T, ea, q⟩
  cases r1 with
  | @cons _ u0 _ ur ra rw' =>
    obtain rfl : u0 = Value.ref a := ra
    have z := Paired.length rw'
    exact oinit_ok T I1 ea (by rw [sizeLine_eq]; omega) fun s' J => ⟨.non, H1, J, rfl, q⟩
/-- self.f = e in such an __init__ -/
def OsK (K : PySem.W.Frag) (f : Str) (y : V) (R : Hp → Prop) (x : V) (H : Hp) : Prop := ∃ a C : Addr, x = .ref a ∧ OexC K C ∧ PySem.W.findIn K (.ref C) f = some none ∧ H a = some (exo a C none) ∧ ∀ dx, H dx = none → dx ≠ a → R (upd (upd H dx (exd dx [(f, y)])) a (exo a C (some dx)))
def tOs (K : PySem.W.Frag) (f : Str) (to te : TE) : TS := fun D σ H => te σ H fun y H1 => to σ H1 (OsK K f y (D.nx σ))
theorem ps_os {o : Expr} (hK : X.K = K) (ho : PE X o to) (he : PE X e te) (hs : swapsWith e (some (.Attribute o f p')) pos.line X.env = pure false := by rfl) : PS X (.Assign [.Attribute o f p'] e pos) (tOs K f to te) := by
  subst hK
  refine psImp (ps_ost (f := f) (peMo ho) (peMo he) hs) fun D σ H q => ⟨_, q, fun y H1 z => ⟨_, z, fun x H2 w => ?_⟩⟩
  obtain ⟨a, C, rfl, h1, h2, h3, h4⟩ := w
  exact ⟨a, C, rfl, h1, h2, Or.inl ⟨h3, h4⟩⟩
/-- raise C(e) -/
def RzK (C : Addr) (f : Str) (R : Value → Option Addr → Hp → Prop) (v : V) (H : Hp) : Prop := ∀ d H', H d = none → H' d = some (.xd [(f, v)]) → Kp [] H H' → R (.ref C) (some d) H'
def tRz (C : Addr) (f : Str) (W : WX) (te : TE) : TS := fun _ σ H => te σ H (RzK C f fun cls d H' => W cls d σ H')
theorem ps_rz {k : Nat} {fd : FuncData} {ps : List Str} {W : WX} (hc : X.calm = true) (T : OexC X.K C) (iC : PySem.W.findIn X.K (.ref C) "__init__" = some (some (.ref fI))) (tI : PySem.W.typeIn X.K (.ref fI) = some (.type "function"))
    (F : FnOk X.prog X.w X.K X.mg X.base (L2.CX X.prog X.w) k fI fd ps (spE C f)) (hr : Room (k + 1) X.A) (hb : Binds X.K fd ps []) (gl : Gl X x) (hm : X.mg x = some (.ref C)) (tk : Takes X W) (he : PE X e te)
    (h1 : (x == ("__debug__" : Str)) = false := by decide) (h2 : starEach [e] X.env = [(false, eval e X.env)] := by rfl) :
    PS X (.Raise (some (.Call (.Name x p) [e] [] pos)) none pos') (tRz C f W te) := by
  refine psImp (ps_raise hc tk (pmk_oex T iC tI F hr hb .nil passF gl hm (pa_cons (peMo he) pa_nil h2) h1 h2 rfl)) fun D σ H q => ?_
  refine ⟨_, q, fun v H1 z => ⟨by simp, fun a na => ⟨_, _, rfl, a, rfl, upd_same, fun dx nd ne => ⟨rfl, dx, [(f, v)], upd_same, ?_, ?_, ?_⟩⟩⟩⟩
  · rw [upd_ne ne, upd_same]
  · rw [upd_ne ne] at nd; exact nd
  · rw [upd_ne ne] at nd
    refine z dx _ nd upd_same ⟨fun b o eb _ => ?_, fun b i eb => ?_, fun b xs eb => ?_⟩
    · have nb : b ≠ dx := ne_of_none eb nd
      have nb2 : b ≠ a := ne_of_none eb na
      rw [upd_ne nb, del_ne nb2, upd_ne nb2, upd_ne nb, upd_ne nb2]
      exact eb
    · obtain ⟨o1, e1, r1⟩ := eb
      have nb : b ≠ dx := ne_of_none e1 nd
      have nb2 : b ≠ a := ne_of_none e1 na
      refine ⟨o1, ?_, r1⟩
      rw [upd_ne nb, del_ne nb2, upd_ne nb2, upd_ne nb, upd_ne nb2]
      exact e1
    · have nb : b ≠ dx := ne_of_none eb nd
      have nb2 : b ≠ a := ne_of_none eb na
      rw [upd_ne nb, del_ne nb2, upd_ne nb2, upd_ne nb, upd_ne nb2]
      exact eb
end
end U

namespace U
open PySem L2 PySem.Spec PyProof.Rows
/-! try with clauses of any number, with names or without -/
/-- a clause: its class, the slot of its name, its suite's reading -/
abbrev Clause := Value × Option Nat × (Addr → Value → Option Addr → TS)
def dropS (i : Option Nat) (σ : L2.St) : L2.St := match i with | none => σ | some i => σ.set i none
def putS (i : Option Nat) (a : Addr) (σ : L2.St) : L2.St := match i with | none => σ | some i => σ.set i (some (.ref a))
def endS (i : Option Nat) (D : Ends) : Ends := { nx := fun σ H => D.nx (dropS i σ) H, rt := D.rt, bk := fun σ H => D.bk (dropS i σ) H, ct := fun σ H => D.ct (dropS i σ) H }
def wCl (K : PySem.W.Frag) (Wout : WX) (D : Ends) : List Clause → WX
  | [] => Wout
  | (c, i, ts) :: r => fun cls d σ H => ∃ b, PySem.W.exmOne K cls c = some b ∧ (b = true → ∀ a, H a = none → ts a cls d (endS i D) (putS i a σ) H) ∧ (b = false → wCl K Wout D r cls d σ H)
inductive ClOk (X : Cx) : List ExceptHandler → List Clause → Prop
  | nil : ClOk X [] []
  | only {x : Str} {c : Value} {ts : Addr → Value → Option Addr → TS} {b0 : Stmt} {su : List Stmt} {np p' : Pos} {hds : List ExceptHandler} {l : List Clause} (hc : Names X x c)
      (hsu : ∀ (a : Addr) (oe : Obj) (cls : Value) (d : Option Addr) (pn : List (Addr × Obj)), Zc cls d oe → (∃ vs, oe.data = .fields vs) → PSs (X.suite a ((a, oe) :: pn)) (b0 :: su) (ts a cls d)) (r : ClOk X hds l) :
      ClOk X (.ExceptHandler (some (.Name x np)) none (b0 :: su) p' :: hds) ((c, none, ts) :: l)
  | as {x n : Str} {i : Nat} {c : Value} {ts : Addr → Value → Option Addr → TS} {b0 : Stmt} {su : List Stmt} {np p' : Pos} {hds : List ExceptHandler} {l : List Clause} (hc : Names X x c) (hi : X.N[i]? = some n) (hln : X.env.kindOf n = some .local)
      (hsu : ∀ (a : Addr) (oe : Obj) (cls : Value) (d : Option Addr) (pn : List (Addr × Obj)), Zc cls d oe → (∃ vs, oe.data = .fields vs) → PSs (X.suite a ((a, oe) :: pn)) (b0 :: su) (ts a cls d)) (r : ClOk X hds l) :
      ClOk X (.ExceptHandler (some (.Name x np)) (some n) (b0 :: su) p' :: hds) ((c, some i, ts) :: l)
section
variable {X : Cx} {body : List Stmt} {h0 : ExceptHandler} {hds : List ExceptHandler} {l : List Clause} {pos : Pos} {tb : WX → TS} {Wout : WX} {K : PySem.W.Frag}
def tTry (K : PySem.W.Frag) (Wout : WX) (l : List Clause) (tb : WX → TS) : TS := fun D σ H => tb (wCl K Wout D l) D σ H
theorem ps_try (hK : X.K = K) (hs : X.stack = X.env :: X.outer) (hf : X.env.frame = some X.env.locals) (hN : X.N.Nodup) (tk : Takes X Wout)
    (hb : ∀ (W : WX) (pn : List (Addr × Obj)) (xe : Value → Shared → Prop), Takes (X.tr pn xe) W → PassesOwn (model X.prog X.w) X.A X.env xe → PSs (X.tr pn xe) body (tb W))
    (hh : ClOk X (h0 :: hds) l) : PS X (.Try body (h0 :: hds) [] [] pos) (tTry K Wout l tb) := by
  subst hK
  refine ⟨fun pi s σ H D I h => wpAny_Try_except ?_⟩
  have ok := I.ok
  have hfr : X.A.frames = some (X.env :: X.outer) := by rw [ok.frames, hs]
  let xe : Value → Shared → Prop := fun e s1 => wpAny (model X.prog X.w) X.A (noteFrame e X.env) (fun _ s2 => wpAny (model X.prog X.w) X.A (setFlight e none)
    (fun _ s3 => wpAny (model X.prog X.w) X.A (handleBy e X.env (h0 :: hds)) (SP X pi D) X.xe s3) X.xe s2) X.xe s1
  have tkx : Takes (X.tr (X.pn ++ pi) xe) (wCl X.K Wout D l) := by
    rintro u s1 ⟨a, B, sI, pins1, σ1, H1, cls, d, rfl, J1, nb, up, sky, na, os, ag, w⟩
    have J : Inv X pi σ1 H1 sI := J1.ofTry ok
    have sky1 : Sky B (X.env :: X.outer) a (Zc cls d) X.env.locals s1.heap := hs ▸ sky
    show wpAny (model X.prog X.w) X.A (noteFrame (.ref a) X.env) _ _ _
    refine Sky.land Zc.steady hfr hf sky1 fun h3 f3 u3 => ?_
    have J3 : Inv X pi σ1 H1 { s1 with heap := h3 } := J.landed nb f3.1 (up.trans u3) os ag
    obtain ⟨oe3, vs3, he3, hz3, hd3⟩ := f3.there
    have nfr : a ∉ frs (X.env :: X.outer) := fun hm => by
      obtain ⟨_, o', e', hnf⟩ := f3.2.2.1.mem hm
      rw [he3] at e'; cases e'
      exact hnf _ hd3
    have nL : a ≠ X.env.locals := fun z => nfr (List.mem_filterMap.mpr ⟨X.env, List.mem_cons_self, by rw [hf, z]⟩)
    have nF : a ∉ X.fs := fun hm => by
      obtain ⟨e, he, q⟩ := List.mem_filterMap.mp hm
      exact nfr (List.mem_filterMap.mpr ⟨e, List.mem_cons_of_mem _ he, q⟩)
    have S3 := J3.suite he3 hd3 na nL nF
    have LT : PySem.W.Looks (model X.prog X.w) h3 (typeOf (.ref a)) cls := fun A Q E s k q => wpAny_typeOf_ref (k _ _ he3) (by rw [hz3.1]; exact q)
    have test : ∀ {x : Str} {c : Value} {np : Pos} {Q : Value → Shared → Prop} {E : Value → Shared → Prop}, Names X x c → Q c { s1 with heap := h3 } →
        wpAny (model X.prog X.w) (X.A.mark (some (.ref a))) (eval (.Name x np) X.env) Q E { s1 with heap := h3 } := fun {x c np Q E} hc q => by
      obtain ⟨hg, hdb, hm | ⟨hm, hv, hnn⟩⟩ := hc
      · exact ld_glob (X := X.suite a ((a, oe3) :: (X.pn ++ pi))) S3 hg hm q hdb
      · exact ld_blt (X := X.suite a ((a, oe3) :: (X.pn ++ pi))) S3 hg hm hv q hnn hdb
    have go : ∀ {hds' : List ExceptHandler} {l' : List Clause}, ClOk X hds' l' → wCl X.K Wout D l' cls d σ1 H1 →
        wpAny (model X.prog X.w) X.A (handleBy (.ref a) X.env hds') (SP X pi D) X.xe { s1 with heap := h3 } := by
      intro hds' l' hk
      induction hk with
      | nil =>
        intro w
        refine wpAny_handleBy_nil ?_
        obtain ⟨_, _, _, oe, vs, T, oT, ts', he, hz, hd, h1, hr⟩ := id f3
        unfold PySem.passOn
        refine wpAny_bind (wpAny_field he hd h1 ?_)
        rw [if_neg (show ¬ ((Value.ref T == Value.none) = true) from by simp)]
        have fin : wpAny (model X.prog X.w) X.A (setFlight (.ref a) X.env.frame) (fun _ s4 => wpAny (model X.prog X.w) X.A (throw (.ref a) : Sem Flow) (SP X pi D) X.xe s4) X.xe { s1 with heap := h3 } := by
          rw [hf]
          refine HandSPX.setFlight_upZ f3 fun h4 hh4 up4 => wpAny_throw (tk _ _ ?_)
          exact ⟨a, B, sI, pi, σ1, H1, cls, d, rfl, J, nb, (up.trans u3).trans up4, Or.inr (Or.inr (by rw [hs]; exact hh4)), na, os, ag, w⟩
        first
          | exact wpAny_bind (wpAny_pure (wpAny_bind fin))
          | exact wpAny_bind fin
      | @only x c ts b0 su np p' hds2 l2 hc hsu r ih =>
        rintro ⟨b, hb1, yes, no⟩
        refine wpAny_handleBy_cons (codeAny_handlers_test (test hc ((PySem.W.exm_one (M := model X.prog X.w) J3.kIn LT hb1).here ?_))) (by intro q; cases q)
        cases b with
        | false => exact ih (no rfl)
        | true =>
          refine codeAny_handlers_suite (HandSPX.lands_againZ f3 fun h4 fl4 up4 => ?_)
          have J4 : Inv X pi σ1 H1 { s1 with heap := h4 } := J.landed nb fl4.1 ((up.trans u3).trans up4) os ag
          obtain ⟨oe4, vs4, he4, hz4, hd4⟩ := fl4.there
          refine wpAny_mono ((hsu a oe4 cls d (X.pn ++ pi) hz4 ⟨_, hd4⟩).run [] _ _ H1 _ (J4.suite he4 hd4 na nL nF) (yes rfl a na)) (fun f s6 hsp => ?_) (fun _ _ z => False.elim z)
          match f, hsp with
          | .next, ⟨_, _, S6, q6⟩ => exact ⟨_, _, S6.unsuite ok, q6⟩
          | .brk, ⟨_, _, S6, q6⟩ => exact ⟨_, _, S6.unsuite ok, q6⟩
          | .cont, ⟨_, _, S6, q6⟩ => exact ⟨_, _, S6.unsuite ok, q6⟩
          | .ret u, ⟨_, _, _, S6, r6, q6⟩ => exact ⟨_, _, _, S6.unsuite ok, r6, q6⟩
      | @as x n i c ts b0 su np p' hds2 l2 hc hi hln hsu r ih =>
        rintro ⟨b, hb1, yes, no⟩
        refine wpAny_handleBy_cons (codeAny_handlers_test (test hc ((PySem.W.exm_one (M := model X.prog X.w) J3.kIn LT hb1).here ?_))) (by intro q; cases q)
        cases b with
        | false => exact ih (no rfl)
        | true =>
          refine codeAny_handlers_suite_as (HandSPX.lands_againZ f3 fun h4 fl4 up4 => ?_)
          have J4 : Inv X pi σ1 H1 { s1 with heap := h4 } := J.landed nb fl4.1 ((up.trans u3).trans up4) os ag
          obtain ⟨oe4, vs4, he4, hz4, hd4⟩ := fl4.there
          refine store_ok (X := X.suite a ((a, oe4) :: (X.pn ++ pi))) (v := .ref a) (J4.suite he4 hd4 na nL nF) hN hi (Or.inl hln) rfl (fun s5 S5 => ?_) (Or.inr hln)
          refine wpAny_mono ((hsu a oe4 cls d (X.pn ++ pi) hz4 ⟨_, hd4⟩).run [] s5 _ H1 _ S5 (yes rfl a na)) (fun f s6 hsp => ?_) (fun _ _ z => False.elim z)
          have gone : ∀ {σ6 : L2.St} {H6 : Hp} {Q : Shared → Prop}, Inv (X.suite a ((a, oe4) :: (X.pn ++ pi))) [] σ6 H6 s6 → (∀ s7, Inv X pi (σ6.set i none) H6 s7 → Q s7) →
              wpAny (model X.prog X.w) X.A (do bindName X.env n .none; unbindBehindTheSuite X.env n p') (fun _ s7 => Q s7) X.xe s6 := fun S6 hq => gone_ok (S6.unsuite ok) hN hi hln hq
          match f, hsp with
          | .next, ⟨_, _, S6, q6⟩ => exact gone S6 fun s7 J7 => ⟨_, _, J7, q6⟩
          | .brk, ⟨_, _, S6, q6⟩ => exact gone S6 fun s7 J7 => ⟨_, _, J7, q6⟩
          | .cont, ⟨_, _, S6, q6⟩ => exact gone S6 fun s7 J7 => ⟨_, _, J7, q6⟩
          | .ret u, ⟨_, _, _, S6, r6, q6⟩ => exact gone S6 fun s7 J7 => ⟨_, _, _, J7, r6, q6⟩
    exact go hh w
  refine wpAny_mono ((hb _ (X.pn ++ pi) xe tkx PassesOwn.looking).run [] s σ H D (I.toTry _) h) (fun f s1 hsp => ?_) (fun e s1 he => he)
  match f, hsp with
  | .next, ⟨σ1, H1, J1, q⟩ => exact wpAny_execs_nil ⟨σ1, H1, J1.ofTry ok, q⟩
  | .brk, ⟨σ1, H1, J1, q⟩ => exact ⟨σ1, H1, J1.ofTry ok, q⟩
  | .cont, ⟨σ1, H1, J1, q⟩ => exact ⟨σ1, H1, J1.ofTry ok, q⟩
  | .ret u, ⟨v, σ1, H1, J1, r, q⟩ => exact ⟨v, σ1, H1, J1.ofTry ok, r, q⟩
end
end U

namespace U
open PySem L2 PySem.Spec PyProof.Rows
/-- what the written part says of an error's class at C, its __init__ at fI, its field f -/
structure ErrC (K : PySem.W.Frag) (C fI : Addr) (f : Str) : Prop where
  oex : OexC K C
  xf : XfC K C
  no : PySem.W.findIn K (.ref C) f = some none
  iC : PySem.W.findIn K (.ref C) "__init__" = some (some (.ref fI))
  tI : PySem.W.typeIn K (.ref fI) = some (.type "function")
  ha : PySem.W.findIn K (.ref C) "__class__" = some (some (.builtin "object.__class__"))
  hm : PySem.W.mroIn K C (.type "object") = some true
section
variable {X : Cx} {a C fI : Addr} {oe : Obj} {cls : Value} {d : Option Addr} {pn : List (Addr × Obj)} {e : Expr} {te : TE} {pos : Pos} {f : Str} {K : PySem.W.Frag}
/-- e.f += v -/
def FaK (K : PySem.W.Frag) (f : Str) (R : Addr → Addr → V → Hp → Prop) (x : V) (H : Hp) : Prop := ∃ a C dx fs v, x = .ref a ∧ H a = some (.ins C dx fs) ∧ Cls K C ∧ NoAttr K C f ∧ fs.lookup f = some v ∧ R a C v H
def FbK (f : Str) (a C : Addr) (R : Hp → Prop) (z : V) (H : Hp) : Prop := ∃ dx fs, H a = some (.ins C dx fs) ∧ fs.length < 1000 ∧ R (upd H a (.ins C dx (putF f z fs)))
def tFa (K : PySem.W.Frag) (ta tv : TE) (rd : V → V → Hp → VK → Prop) (f : Str) : TS := fun D σ H => ta σ H (FaK K f fun a C v H1 => tv σ H1 fun y H2 => rd v y H2 (FbK f a C (D.nx σ)))
theorem ps_fa {o value : Expr} {op : Operator} {ta tv : TE} {rd : V → V → Hp → VK → Prop} {tp : Pos} (hK : X.K = K) (ha : PE X o ta) (hv : PE X value tv) (hop : InOp X op rd) : PS X (.AugAssign (.Attribute o f tp) op value pos) (tFa K ta tv rd f) :=
  hK ▸ ps_fldaug ha hv hop
/-- err.f in its suite -/
def XfK (a : Addr) (cls : Value) (d : Option Addr) (C : Addr) (f : Str) (Q : VK) (x : V) (H : Hp) : Prop := x = .ref a ∧ cls = .ref C ∧ ∃ (dd : Addr) (fs : List (Str × V)) (v : V), d = some dd ∧ H dd = some (.xd fs) ∧ fs.lookup f = some v ∧ Q v H
def tXe (a : Addr) (cls : Value) (d : Option Addr) (C : Addr) (f : Str) (te : TE) : TE := fun σ H Q => te σ H (XfK a cls d C f Q)
theorem pe_xe (T : ErrC X.K C fI f) (hz : Zc cls d oe) (hf : ∃ vs, oe.data = .fields vs) (he : PE (X.suite a ((a, oe) :: pn)) e te) (hb : attributeBase e f X.env (eval e X.env) = eval e X.env := by rfl) :
    PE (X.suite a ((a, oe) :: pn)) (.Attribute e f pos) (tXe a cls d C f te) := pe_xf T.xf T.no hz hf he hb
/-- isinstance(err, T) in its suite -/
def rIsX (K : PySem.W.Frag) (a : Addr) (cls : Value) (d : Option Addr) (C : Addr) : List V → Hp → VK → Prop := fun xs H Q => ∃ (c : V) (cv : Value) (b : Bool) (dd : Addr) (fs : List (Str × V)), xs = [.ref a, c] ∧ ClsV c cv ∧ cls = .ref C ∧ d = some dd ∧ H dd = some (.xd fs) ∧
  PySem.W.kitOne K (.ref C) cv = some b ∧ Q (.bl b) H
theorem c_isx (hK : X.K = K) (T : ErrC X.K C fI f) (hn : PySem.W.specialIn X.K (.builtin "object.__class__") "__get__" = some (some (.builtin "getset_descriptor.__get__"))) (ht : PySem.W.takesIn X.K (.builtin "object.__class__") = some true)
    (hz : Zc cls d oe) (hf : ∃ vs, oe.data = .fields vs) : CallR (X.suite a ((a, oe) :: pn)) (.builtin "isinstance") (rIsX K a cls d C) := by
  subst hK
  rintro pi s σ H xs us Q I vv ⟨c, cv, b, dd, fs, rfl, hc, rfl, rfl, hd, e, q⟩
  cases vv with
  | cons rx rr =>
    cases rr with
    | cons rt rr =>
      cases rr
      cases rx
      obtain rfl := hc.eq rt
      obtain ⟨hget, _⟩ := I.pin (a, oe) (List.mem_append.mpr (Or.inl List.mem_cons_self))
      obtain ⟨vs, hv⟩ := hf
      have hx : ObjOk X.prog X.w H s.heap dd (.xd fs) := I.hok dd _ hd
      obtain ⟨mA, hns, _⟩ := hx
      obtain ⟨od, ho, _⟩ := lookIn_ns hns
      have J : PySem.W.InstAt s.heap a oe C (some od) := ⟨hget, hz.1, by unfold PySem.W.notCls; rw [hv] <;> rfl, by rw [hz.2]; exact ho⟩
      have hcl : (PySem.W.clsIn X.K C).isSome = true := by
        have z := T.xf.hdC
        unfold PySem.W.hasDictIn at z
        cases y : PySem.W.clsIn X.K C with
        | none => rw [y] at z; simp at z
        | some _ => rfl
      exact PySem.W.kia_one (PySem.W.kitx_exc hcl T.xf.ga T.xf.gg T.xf.exC T.ha hn ht T.hm) I.kIn J e (fun z => nomatch z) fun tk => ⟨.bl b, H, I.kept (t' := tk) fun _ _ z => z, rfl, q⟩
end
section
variable {K : PySem.W.Frag} {σ : L2.St} {H : Hp} {Q : VK} {D : Ends} {a C dd : Addr} {f : Str} {v : V} {te to : TE} {t : TA}
theorem s_fa {tv : TE} {rd : V → V → Hp → VK → Prop} (h : te σ H (FaK K f fun a C v H1 => tv σ H1 fun y H2 => rd v y H2 (FbK f a C (D.nx σ)))) : tFa K te tv rd f D σ H := h
theorem s_fak {R : Addr → Addr → V → Hp → Prop} {dx : Addr} {fs : List (Str × V)} (h : H a = some (.ins C dx fs)) (c : Cls K C) (n : NoAttr K C f) (l : fs.lookup f = some v) (q : R a C v H) : FaK K f R (.ref a) H := ⟨a, C, dx, fs, v, rfl, h, c, n, l, q⟩
theorem s_fbk {R : Hp → Prop} {dx : Addr} {fs gs : List (Str × V)} (h : H a = some (.ins C dx fs)) (z : fs.length < 1000) (e : putF f v fs = gs) (q : ∀ H', H' a = some (.ins C dx gs) → Kp [a] H H' → R H') : FbK f a C R v H := ⟨dx, fs, h, z, by rw [e]; exact put_abs h rfl q⟩
theorem s_radd {n m : Int} (q : Q (.int (n + m)) H) : rAdd (.int n) (.int m) H Q := ⟨n, m, rfl, rfl, q⟩
theorem s_rsub {n m : Int} (q : Q (.int (n - m)) H) : rSub (.int n) (.int m) H Q := ⟨n, m, rfl, rfl, q⟩
theorem s_xe {cls : Value} {d : Option Addr} (h : te σ H (XfK a cls d C f Q)) : tXe a cls d C f te σ H Q := h
theorem s_xek {fs : List (Str × V)} (h : H dd = some (.xd fs)) (l : fs.lookup f = some v) (q : Q v H) : XfK a (.ref C) (some dd) C f Q (.ref a) H := ⟨rfl, rfl, dd, fs, v, rfl, h, l, q⟩
theorem s_isx {C2 : Addr} {b : Bool} {fs : List (Str × V)} (h : H dd = some (.xd fs)) (e : PySem.W.kitOne K (.ref C) (.ref C2) = some b) (q : Q (.bl b) H) : rIsX K a (.ref C) (some dd) C [.ref a, .ref C2] H Q := ⟨.ref C2, .ref C2, b, dd, fs, rfl, .own C2, rfl, rfl, h, e, q⟩
theorem s_se (h : t σ H (SeK K Q)) : tSe K t σ H Q := h
theorem s_sek {z : V} (T : OexC K C) (h : H a = some (exo a C none)) (q : Q .non H) : SeK K Q [.ref a, z] H := ⟨a, C, [z], rfl, by simp, T, h, q⟩
theorem s_os (h : te σ H fun y H1 => to σ H1 (OsK K f y (D.nx σ))) : tOs K f to te D σ H := h
theorem s_rz {W : WX} (h : te σ H (RzK C f fun cls d H' => W cls d σ H')) : tRz C f W te D σ H := h
theorem s_try {Wout : WX} {l : List Clause} {tb : WX → TS} (h : tb (wCl K Wout D l) D σ H) : tTry K Wout l tb D σ H := h
end
end U

namespace U
open PySem L2 PySem.Spec PyProof.Rows
/-! dicts -/
section
variable {X : Cx} {k : Nat} {K : PySem.W.Frag} {o i e value : Expr} {pos p' ap : Pos} {td ty tv : TE} {trs : List (TE × TE)} {keys : List (Option Expr)} {values : List Expr}
def DdK (Q : VK) (p : Addr) (ps : List (V × V)) (H : Hp) : Prop := H p = some (.dK []) ∧ ∃ kvs : List (Key × V), ps = kvs.map (fun kv => (kV kv.1, kv.2)) ∧ kvs.length ≤ 15 ∧ Q (.ref p) (upd H p (.dK (mergeK [] kvs)))
def tDd (trs : List (TE × TE)) : TE := fun σ H Q => ∀ p, H p = none → tPairs trs σ (upd H p (.dK [])) (DdK Q p)
theorem pe_dd (h : PPs X pos keys values trs) (h1 : keys.all (·.isSome) = true) (h2 : keys.length = values.length) (h3 : keys ≠ []) (h4 : keys.length ≤ 15) : PE X (.Dict keys values pos) (tDd trs) := pe_disp h h1 h2 h3 h4
def DgK (x : V) (Q : VK) (y : V) (H : Hp) : Prop := ∃ a v, x = .ref a ∧ DGet H a y (some v) ∧ Q v H
def tDg (td ty : TE) : TE := fun σ H Q => td σ H fun x H1 => ty σ H1 (DgK x Q)
theorem pe_dg (hr : Room k X.A) (ho : PE X o td) (hi : PE X i ty) (hs : NoSl i) : PE X (.Subscript o i pos) (tDg td ty) := pe_dget (hu_of hr) ho hi hs
def DnK (ng : Bool) (y : V) (Q : VK) (x : V) (H : Hp) : Prop := ∃ a r, x = .ref a ∧ DGet H a y r ∧ Q (.bl (if ng then !r.isSome else r.isSome)) H
def tDn (ng : Bool) (ty td : TE) : TE := fun σ H Q => ty σ H fun y H1 => td σ H1 (DnK ng y Q)
theorem pc_in (hr : Room k X.A) (hi : PE X i ty) (ho : PE X o td) : PC X .In i o (tDn false ty td) := pc_din (hu_of hr) hi ho
theorem pc_nin (hr : Room k X.A) (hi : PE X i ty) (ho : PE X o td) : PC X .NotIn i o (tDn true ty td) := pc_dnotin (hu_of hr) hi ho
/-- o[i] = v, of a list or a dict -/
def uSet : V → V → V → Hp → (Hp → Prop) → Prop := fun o i v H Q => rSetL o i v H Q ∨ rSetD o i v H Q
theorem set_u (hr : Room k X.A) : PSet X uSet := by
  intro pi s σ H o i v ov iv u Q I ro ri rv h
  rcases h with h | h
  · exact set_list pi s σ H o i v ov iv u Q I ro ri rv h
  · exact set_dict (hu_of hr) pi s σ H o i v ov iv u Q I ro ri rv h
def PopK (a : Addr) (Q : VK) (y : V) (H : Hp) : Prop := ∃ kvs k v, H a = some (.dK kvs) ∧ y = kV k ∧ valV kvs k = some v ∧ Q v (upd H a (.dK (dropK kvs k)))
def PopJ (ty : TE) (σ : L2.St) (Q : VK) (x : V) (H : Hp) : Prop := ∃ a, x = .ref a ∧ IsD H a ∧ ty σ H (PopK a Q)
def tPop (td ty : TE) : TE := fun σ H Q => td σ H (PopJ ty σ Q)
theorem pe_pop (ho : PE X o td) (he : PE X e ty) (m : M1 X o "pop" ap e pos) : PE X (.Call (.Attribute o "pop" ap) [e] [] pos) (tPop td ty) := pe_dpop1 ho he m
def uDict : List V → Hp → VK → Prop := fun xs H Q => ∃ (a : Addr) (kvs : List (Key × V)), xs = [.ref a] ∧ Rd H a (.dK kvs) ∧ ∀ p, H p = none → Q (.ref p) (upd H p (.dK kvs))
theorem c_dict : CallR X (.type "dict") uDict := call_dictD
def uList (K : PySem.W.Frag) : List V → Hp → VK → Prop := fun xs H Q => ∃ p ys, xs = [.ref p] ∧ (SqL K H p ys ∨ SqT K H p ys) ∧ ∀ l, H l = none → Q (.ref l) (upd H l (.lst ys))
end
section
variable {K : PySem.W.Frag} {σ : L2.St} {H : Hp} {Q : VK} {D : Ends} {x y v : V} {p : Addr} {n : Int} {z : Str} {kvs ks : List (Key × V)} {td ty : TE} {trs : List (TE × TE)}
theorem s_dd (h : ∀ p H', H p = none → H' p = some (.dK []) → Kp [] H H' → tPairs trs σ H' (DdK Q p)) : tDd trs σ H Q := fun p f => h p _ f upd_same (Kp.refl.new f)
theorem s_ddk {ps : List (V × V)} (h : H p = some (.dK [])) (e : ps = kvs.map (fun kv => (kV kv.1, kv.2))) (hl : kvs.length ≤ 15) (m : mergeK [] kvs = ks) (q : ∀ H', H' p = some (.dK ks) → Kp [p] H H' → Q (.ref p) H') : DdK Q p ps H :=
  ⟨h, kvs, e, hl, by rw [m]; exact put_abs h rfl (R := fun H' => Q (.ref p) H') q⟩
theorem s_dg (h : td σ H fun x H1 => ty σ H1 (DgK x Q)) : tDg td ty σ H Q := h
theorem s_dgi (h : H p = some (.dK kvs)) (e : valV kvs (Sum.inl n : Key) = some v) (q : Q v H) : DgK (.ref p) Q (.int n) H := ⟨p, v, rfl, by rw [← e]; exact DGet.k (k := Sum.inl n) h, q⟩
theorem s_dgs (h : H p = some (.dK kvs)) (e : valV kvs (Sum.inr z : Key) = some v) (q : Q v H) : DgK (.ref p) Q (.str z) H := ⟨p, v, rfl, by rw [← e]; exact DGet.k (k := Sum.inr z) h, q⟩
theorem s_dn {ng : Bool} (h : ty σ H fun y H1 => td σ H1 (DnK ng y Q)) : tDn ng ty td σ H Q := h
theorem s_dni {ng : Bool} (h : H p = some (.dK kvs)) (q : Q (.bl (if ng then !(valV kvs (Sum.inl n : Key)).isSome else (valV kvs (Sum.inl n : Key)).isSome)) H) : DnK ng (.int n) Q (.ref p) H := ⟨p, _, rfl, DGet.k (k := Sum.inl n) h, q⟩
theorem s_dns {ng : Bool} (h : H p = some (.dK kvs)) (q : Q (.bl (if ng then !(valV kvs (Sum.inr z : Key)).isSome else (valV kvs (Sum.inr z : Key)).isSome)) H) : DnK ng (.str z) Q (.ref p) H := ⟨p, _, rfl, DGet.k (k := Sum.inr z) h, q⟩
theorem s_ul {xs ys : List V} {j : Nat} {R : Hp → Prop} (h : H p = some (.lst xs)) (hj : ixN xs.length n = some j) (e : xs.set j v = ys) (q : ∀ H', H' p = some (.lst ys) → Kp [p] H H' → R H') : uSet (.ref p) (.int n) v H R := Or.inl ⟨p, xs, n, j, rfl, rfl, h, hj, by rw [e]; exact put_abs h rfl q⟩
theorem s_uds {R : Hp → Prop} (h : H p = some (.dK kvs)) (hl : kvs.length < sizeLine) (e : putK kvs (Sum.inr z : Key) v = ks) (q : ∀ H', H' p = some (.dK ks) → Kp [p] H H' → R H') : uSet (.ref p) (.str z) v H R :=
  Or.inr ⟨p, _, rfl, DPut.k (k := Sum.inr z) h hl, by rw [e]; exact put_abs h rfl q⟩
theorem s_udi {R : Hp → Prop} (h : H p = some (.dK kvs)) (hl : kvs.length < sizeLine) (e : putK kvs (Sum.inl n : Key) v = ks) (q : ∀ H', H' p = some (.dK ks) → Kp [p] H H' → R H') : uSet (.ref p) (.int n) v H R :=
  Or.inr ⟨p, _, rfl, DPut.k (k := Sum.inl n) h hl, by rw [e]; exact put_abs h rfl q⟩
theorem s_pop (h : td σ H (PopJ ty σ Q)) : tPop td ty σ H Q := h
theorem s_popj (h : H p = some (.dK kvs)) (q : ty σ H (PopK p Q)) : PopJ ty σ Q (.ref p) H := ⟨p, rfl, Or.inl ⟨kvs, Or.inl h⟩, q⟩
theorem s_popk (h : H p = some (.dK kvs)) (e : valV kvs (Sum.inl n : Key) = some v) (m : dropK kvs (Sum.inl n : Key) = ks) (q : ∀ H', H' p = some (.dK ks) → Kp [p] H H' → Q v H') : PopK p Q (.int n) H :=
  ⟨kvs, Sum.inl n, v, h, rfl, e, by rw [m]; exact put_abs h rfl (R := fun H' => Q v H') q⟩
theorem s_dict (h : H p = some (.dK kvs)) (q : ∀ l H', H l = none → H' l = some (.dK kvs) → Kp [] H H' → Q (.ref l) H') : uDict [.ref p] H Q := ⟨p, kvs, rfl, Or.inl h, fun l f => q l _ f upd_same (Kp.refl.new f)⟩
theorem s_list {ys : List V} (h : SqL K H p ys) (q : ∀ l H', H l = none → H' l = some (.lst ys) → Kp [] H H' → Q (.ref l) H') : uList K [.ref p] H Q := ⟨p, ys, rfl, Or.inl h, fun l f => q l _ f upd_same (Kp.refl.new f)⟩
end
theorem c_list {X : Cx} {K : PySem.W.Frag} (hK : X.K = K) : CallR X (.type "list") (uList K) := hK ▸ call_list_of
end U

namespace U
open PySem L2 PySem.Spec PyProof.Rows
/-- may be shown -/
structure Sh (K : PySem.W.Frag) (H : Hp) (v : V) (d : PyData) : Prop where
  dn : Dn K H v d
  good : U.good d
  depth : d.depth ≤ 100
  sz : U.sz d ≤ 16000000
section
variable {K : PySem.W.Frag} {σ : L2.St} {H : Hp} {Q : VK} {D : Ends} {x y v : V} {p : Addr} {n : Int} {z : Str} {to te : TE} {t : TA} {r : V → List V → Hp → VK → Prop} {T : String} {xs : List V}
theorem s_rep {d : PyData} (h : Sh K H v d) (q : Q (.str d.shown) H) : rRepr K [v] H Q := ⟨v, d, rfl, h.dn, h.good, h.depth, h.sz, q⟩
theorem s_bm (h : to σ H fun x H1 => tyV K T x H1 ∧ t σ H1 fun xs H2 => r x xs H2 Q) : tBM K T r to t σ H Q := h
theorem s_bm0 (h : to σ H fun x H1 => tyV K T x H1 ∧ r x [] H1 Q) : tBM0 K T r to σ H Q := h
theorem s_tyl {R : Prop} (h : H p = some (.lst xs)) (q : R) : tyV K "list" (.ref p) H ∧ R := ⟨Or.inl ⟨rfl, xs, SqL.of h⟩, q⟩
theorem s_tys {R : Prop} (q : R) : tyV K "str" (.str z) H ∧ R := ⟨rfl, q⟩
theorem s_tyd {R : Prop} {kvs : List (Key × V)} (h : H p = some (.dK kvs)) (q : R) : tyV K "dict" (.ref p) H ∧ R := ⟨Or.inr (Or.inr (Or.inl ⟨rfl, Or.inl ⟨kvs, h⟩⟩)), q⟩
theorem s_app (h : H p = some (.lst xs)) (hz : xs.length < sizeLine) (q : ∀ H', H' p = some (.lst (xs ++ [y])) → Kp [p] H H' → Q .non H') : rAppend (.ref p) [y] H Q :=
  ⟨p, xs, y, rfl, rfl, h, hz, put_abs h rfl (R := fun H' => Q .non H') q⟩
theorem s_pnil {Q : List (V × V) → Hp → Prop} (q : Q [] H) : tPairs [] σ H Q := q
theorem s_pcons {Q : List (V × V) → Hp → Prop} {tk tv : TE} {r : List (TE × TE)} (h : tk σ H fun x H1 => tv σ H1 fun y H2 => tPairs r σ H2 fun ps H3 => Q ((x, y) :: ps) H3) : tPairs ((tk, tv) :: r) σ H Q := h
/-! a meeting of ways -/
theorem meetT {tt : TT} {Q : Bool → Hp → Prop} (R : Bool → Hp → Prop) (key : ∀ b H1, R b H1 → Q b H1) (w : (∀ b H1, R b H1 → Q b H1) → tt σ H Q) : tt σ H Q := w key
theorem meetE (R : V → Hp → Prop) (key : ∀ b H1, R b H1 → Q b H1) (w : (∀ b H1, R b H1 → Q b H1) → te σ H Q) : te σ H Q := w key
theorem meetS {t u : TS} (R : L2.St → Hp → Prop) (key : ∀ σ1 H1, R σ1 H1 → u D σ1 H1) (w : (∀ σ1 H1, R σ1 H1 → u D σ1 H1) → t { D with nx := u D } σ H) : tSeq t u D σ H := w key
theorem zlt {n : Nat} (h : n ≤ 1000000) : n < sizeLine := Nat.lt_of_le_of_lt h (by decide)
end
section
variable {K : PySem.W.Frag} {H H' : Hp}
mutual
theorem Dn.kp (k : Kp [] H H') : ∀ {v : V} {d : PyData}, Dn K H v d → Dn K H' v d
  | _, _, .non => .non
  | _, _, .bl b => .bl b
  | _, _, .int i => .int i
  | _, _, .str x => .str x
  | _, _, .lst r a => .lst (k.rd r) (DnA.kp k a)
  | _, _, .tup r a => .tup (k.sqt r) (DnA.kp k a)
  | _, _, .dic r a => .dic (k.rd r) (DnA.kp k a)
theorem DnA.kp (k : Kp [] H H') : ∀ {vs : List V} {ds : List PyData}, DnA K H vs ds → DnA K H' vs ds
  | _, _, .nil => .nil
  | _, _, .cons a b => .cons (Dn.kp k a) (DnA.kp k b)
end
theorem Sh.kp (k : Kp [] H H') {v : V} {d : PyData} (h : Sh K H v d) : Sh K H' v d := ⟨h.dn.kp k, h.good, h.depth, h.sz⟩
end
end U

namespace U
open PySem L2 PySem.Spec PyProof.Rows
section
variable {K : PySem.W.Frag} {σ : L2.St} {H H' : Hp} {Q : VK} {D : Ends} {x y v : V} {p : Addr} {n : Int} {xs vs : List V} {ps : List Addr}
theorem s_gtu {R : L2.St → Hp → Prop} {t : TGs} {k : Nat} (h : H p = some (.tup xs)) (hl : xs.length = k) (q : t xs σ H R) : gTup K k t (.ref p) σ H R := ⟨p, xs, rfl, SqT.of h, hl, q⟩
theorem s_gn {R : L2.St → Hp → Prop} (q : R σ H) : gNil [] σ H R := ⟨rfl, q⟩
theorem s_gc {R : L2.St → Hp → Prop} {t : TG} {u : TGs} (q : t v σ H fun σ1 H1 => u vs σ1 H1 R) : gCons t u (v :: vs) σ H R := ⟨v, vs, rfl, q⟩
theorem s_rng2 {ta : TA} {R : It → Hp → Prop} (h : ta σ H fun vs H1 => ∃ i j : Int, vs = [.int i, .int j] ∧ (-(2 ^ 62) ≤ i ∧ i < 2 ^ 62 ∧ -(2 ^ 62) ≤ j ∧ j < 2 ^ 62) ∧ R (Itr i (j - i).toNat) H1) : iRng2 ta σ H R := h
theorem s_rn2 {i j : Int} {R : Int → Int → Prop} (h : -(2 ^ 62) ≤ i ∧ i < 2 ^ 62 ∧ -(2 ^ 62) ≤ j ∧ j < 2 ^ 62) (q : R i j) : ∃ i' j' : Int, [V.int i, V.int j] = [.int i', .int j'] ∧ (-(2 ^ 62) ≤ i' ∧ i' < 2 ^ 62 ∧ -(2 ^ 62) ≤ j' ∧ j' < 2 ^ 62) ∧ R i' j' := ⟨i, j, rfl, h, q⟩
/-! a meeting of ways, what is behind it a letter -/
theorem jT {tt : TT} {Q : Bool → Hp → Prop} (R : Bool → Hp → Prop) (key : ∀ b H1, R b H1 → Q b H1) (w : ∀ Q' : Bool → Hp → Prop, (∀ b H1, R b H1 → Q' b H1) → tt σ H Q') : tt σ H Q := w _ key
theorem jE {te : TE} (R : V → Hp → Prop) (key : ∀ b H1, R b H1 → Q b H1) (w : ∀ Q' : VK, (∀ b H1, R b H1 → Q' b H1) → te σ H Q') : te σ H Q := w _ key
theorem jS {t u : TS} (R : L2.St → Hp → Prop) (key : ∀ σ1 H1, R σ1 H1 → u D σ1 H1) (w : ∀ u' : L2.St → Hp → Prop, (∀ σ1 H1, R σ1 H1 → u' σ1 H1) → t { D with nx := u' } σ H) : tSeq t u D σ H := w _ key
/-- no tuple -/
def Nt (H : Hp) (p : Addr) : Prop := ∀ xs, H p ≠ some (.tup xs)
theorem Nt.lst (h : H p = some (.lst xs)) : Nt H p := fun ys e => by rw [h] at e; cases e
theorem Nt.ins {C dx : Addr} {fs : List (Str × V)} (h : H p = some (.ins C dx fs)) : Nt H p := fun ys e => by rw [h] at e; cases e
theorem Nt.none (h : H p = none) : Nt H p := fun ys e => by rw [h] at e; cases e
theorem Kp.tup (k : Kp ps H H') (n : ∀ q ∈ ps, Nt H q) (e : H p = some (.tup xs)) : H' p = some (.tup xs) := k.get e fun m => n p m xs e
/-- new since -/
theorem Kp.all (k : Kp ps H H') (f : ∀ q ∈ ps, H q = none) : Kp [] H H' := ⟨fun b o e _ => k.keep b o e fun m => (by rw [f b m] at e; cases e), k.kd, k.tp⟩
end
end U

namespace U
open PySem L2 PySem.Spec PyProof.Rows
/-! xs[a:] = ys -/
theorem bounds_tail {a n : Nat} (h : a ≤ n) : sliceBounds (some (a : Int)) none none n = ((a : Int), (n : Int), 1) := by
  simp only [sliceBounds, Option.getD_none]
  have h1 : ¬ ((a : Int) < 0) := by omega
  simp only [h1, if_false, show (1 : Int) > 0 by decide, if_true]
  congr 1
  omega
section
variable {prog : Program} {w : World} {A : Around} {s : Shared} {E : Value → Shared → Prop}
theorem setItem_tail {l b sl : Addr} {items new : Array Value} {n n2 : Nat} {vl : Value} {a : Nat} {Q : Unit → Shared → Prop}
    (e : s.heap.get? l = some { cls := .type "list", data := .seq items n }) (e2 : s.heap.get? b = some { cls := .type "list", data := .seq new n2 }) (hne : l ≠ b)
    (hs : s.heap.IsSliceOf sl vl .none .none) (pl : IsPart vl (some (a : Int))) (ha : a ≤ items.size) (hsz : items.size + new.size ≤ sizeLine)
    (h : Q () { s with heap := s.heap.update l (Obj.mapSeq fun xs => xs.extract 0 a ++ new ++ xs.extract items.size xs.size) }) :
    wpAny (model prog w) A (setItem (.ref l) (.ref sl) (.ref b)) Q E s := by
  have hl : s.heap.IsList l items := PySem.IsL.isList e
  have hb : s.heap.IsList b new := PySem.IsL.isList e2
  obtain ⟨os, hos, hcs, hds⟩ := id hs
  have hTs : s.TypeIs (.ref sl) "slice" := ⟨os, hos, hcs⟩
  have hsame : Builtin.List.listSameRef (.ref l) (.ref b) = false := by
    unfold Builtin.List.listSameRef
    exact beq_eq_false_iff_ne.mpr hne
  have hmax : (max (a : Int) (items.size : Int)).toNat = items.size := by omega
  have hz' : ((fun xs : Array Value => xs.extract 0 a ++ new ++ xs.extract items.size xs.size) items).size ≤ sizeLine + 1 := by
    simp only [Array.size_append, Array.size_extract]
    omega
  unfold setItem
  try with_reducible refine wpAny_holding ?_
  first | refine wpAny_bind (wpAny_pure ?_) | skip
  refine wpAny_bind (wpAny_sequenceKey hl.typeIs (by decide) ?_)
  refine wpAny_bind (wpAny_callSpecial?_slot (name := Str.ofString "__setitem__") hl.typeIs slot_list_setitem (wpAny_call_entry slot_list_setitem hl.typeIs entry_list_setitem ?_ (args_list_setitem _ _ _)))
  show wpAny _ _ (Builtin.List.listSubscript? (.ref sl) >>= _) _ _ s
  refine wpAny_bind ?_
  unfold Builtin.List.listSubscript?
  refine wpAny_bind (wpAny_specialOf hTs slice_no_index ?_)
  simp only [Option.isNone_none, if_true]
  refine wpAny_pure ?_
  show wpAny _ _ (typeOf (.ref sl) >>= _) _ _ s
  refine wpAny_bind (wpAny_typeOf hTs ?_)
  first
    | rw [if_neg (by decide)]
    | refine PySem.W.KFB.if_not (by decide) ?_
  rw [listSliceParts_eq]
  refine wpAny_bind (wpAny_bind (wpAny_field hos hds (x := .none) rfl (wpAny_bind (wpAny_listPart .none ?_))))
  rw [if_neg (show ¬ ((rawPart none == rawInt 0) = true) from Bool.false_ne_true)]
  refine wpAny_bind (wpAny_field hos hds (x := vl) rfl (wpAny_bind (wpAny_listPart pl ?_)))
  refine wpAny_bind (wpAny_field hos hds (x := .none) rfl (wpAny_bind (wpAny_listPart .none (wpAny_pure ?_))))
  first
    | simp only [hsame, Bool.false_eq_true, if_false]
    | refine PySem.W.KFB.if_not hsame ?_
    | (dsimp only
       rw [if_neg (by rw [hsame]; exact Bool.false_ne_true)])
  refine wpAny_bind (m := Builtin.List.listAllItems (.ref b) "must assign iterable to extended slice") ?_
  unfold Builtin.List.listAllItems
  refine wpAny_bind (wpAny_typeOf hb.typeIs ?_)
  first
    | refine PySem.W.KFB.if_so (by decide) ?_
    | rw [if_pos (by decide)]
    | simp only [beq_self_eq_true, Bool.true_or, if_true]
  unfold Builtin.List.listItems
  refine wpAny_bind (wpAny_seqItems e2 rfl (wpAny_pure ?_))
  refine wpAny_bind (wpAny_bind (wpAny_seqItems e rfl (wpAny_pure ?_)))
  refine wpAny_bind (wpAny_of_eq ((sliceIndices_raw (some (a : Int)) none none items.size (by simp)).trans (congrArg (pure : Int × Int × Int → Sem (Int × Int × Int)) (bounds_tail ha))) ?_)
  show wpAny _ _ (if ((1 : Int) == 1) = true then _ else _) _ _ s
  rw [if_pos (by decide)]
  refine wpAny_bind (wpAny_rule ?_)
  first
    | simp only [notLongL hsz, Bool.false_eq_true, if_false]
    | refine PySem.W.KFB.if_not (notLongL hsz) ?_
  first | refine wpAny_bind (wpAny_pure ?_) | skip
  show wpAny _ _ (updateSeq l (fun xs => xs.extract 0 ((a : Int)).toNat ++ new ++ xs.extract (max (a : Int) (items.size : Int)).toNat xs.size) >>= _) _ _ s
  rw [hmax, Int.toNat_natCast]
  refine wpAny_bind (wpAny_updateSeq (hz := Nat.le_trans (Nat.le_add_right _ _) hsz) (_hz' := hz') e rfl ?_)
  refine wpAny_bind (wpAny_letGo ?_)
  first
    | exact wpAny_bind (wpAny_pure (wpAny_pure ⟨.none, rfl, wpAny_pure h⟩))
    | exact wpAny_pure ⟨.none, rfl, wpAny_pure h⟩
end
section
variable {X : Cx} {o lo : Expr} {to tl : TE} {pos p2 : Pos}
def TlK (x v : V) (R : Hp → Prop) (y : V) (H : Hp) : Prop := ∃ (l b : Addr) (xs ys : List V) (a : Int), x = .ref l ∧ v = .ref b ∧ y = .int a ∧ H l = some (.lst xs) ∧ H b = some (.lst ys) ∧ l ≠ b ∧ 0 ≤ a ∧ a ≤ xs.length ∧ xs.length + ys.length ≤ sizeLine ∧ R (upd H l (.lst (xs.take a.toNat ++ ys)))
def gTl (to tl : TE) : TG := fun v σ H R => to σ H fun x H1 => tl σ H1 (TlK x v (R σ))
theorem pg_tail (ho : PE X o to) (hl : PE X lo tl)
    (ha : ∀ v, assign (.Subscript o (.Slice (some lo) none none p2) pos) X.env v = (do
      let ov ← holding [v] (eval o X.env)
      let iv ← holding [v, ov] (eval (.Slice (some lo) none none p2) X.env)
      standAt pos
      holding [v, ov, iv] (setItem ov iv v)
      release [iv, v, ov] []) := by intro _; rfl) : PG X (.Subscript o (.Slice (some lo) none none p2) pos) (gTl to tl) := by
  refine ⟨fun pins s σ H v u Q I r h => ?_⟩
  rw [ha]
  refine wpAny_bind (wpAny_holding (thn (ho.run pins s σ H _ I h) fun ov s1 ⟨x, H1, I1, r1, q1⟩ => ?_))
  have hpo := po_some (peMo hl)
  refine wpAny_bind (wpAny_holding (wpAny_Slice (thn (hpo.run pins s1 σ H1 (fun o H2 => ∃ a, o = some a ∧ TlK x v (Q σ) (.int a) H2) I1 ⟨_, q1, fun y H2 z => ?_⟩) fun vl s2 ⟨a0, H2, I2, pl, a, ea, q2⟩ => ?_)))
  · obtain ⟨l, b, xs, ys, a, e1, e2, rfl, z⟩ := z
    exact ⟨a, rfl, a, rfl, l, b, xs, ys, a, e1, e2, rfl, z⟩
  subst ea
  refine thn (po_none.run pins s2 σ H2 (fun o H3 => o = none ∧ H3 = H2) I2 ⟨rfl, rfl⟩) fun vu s3 ⟨u', H3, I3, pu, eu, e3⟩ => ?_
  subst eu
  subst e3
  cases pu
  rw [evalPart_none]
  refine wpAny_pure ?_
  have I4 : Inv X pins σ H3 { s3 with heap := s3.heap.push { cls := .type "slice", data := .fields #[vl, .none, .none] } } := I3.kept (t' := s3.toks) fun b ob q => Heap.get?_push_of_some _ q
  obtain ⟨l, b, xs, ys, a', rfl, rfl, ea, hH, hB, hne, h0, h1, hz, q⟩ := q2
  cases ea
  cases r1
  cases r
  obtain ⟨z, its, n, rr, hl', e⟩ := I4.lstM hH
  obtain ⟨z2, its2, n2, r2, hl2, e2⟩ := I4.lstM hB
  obtain ⟨a', rfl⟩ := Int.eq_ofNat_of_zero_le h0
  simp only [Int.toNat_natCast] at q
  refine wpAny_bind (wpAny_standAt (wpAny_bind (wpAny_holding (setItem_tail (a := a') e e2 hne (Heap.IsSliceOf.new ..) pl (by rw [List.size_toArray]; omega) (by rw [List.size_toArray, List.size_toArray]; omega) ?_))))
  refine wpAny_release ⟨σ, _, I4.lset (its' := its.take a' ++ its2) (t' := s3.toks) hH e ?_ ((rr.take _).append r2) ?_, q⟩
  · have := splice_eq its its2 a' its.length
    rw [List.drop_length, List.append_nil] at this
    rw [List.size_toArray]
    exact this
  · rw [List.length_append, List.length_take]
    omega
section
variable {σ : L2.St} {H : Hp} {v x y : V} {l b : Addr} {xs ys zs : List V} {a : Int}
theorem s_tl {R : L2.St → Hp → Prop} (h : to σ H fun x H1 => tl σ H1 (TlK x v (R σ))) : gTl to tl v σ H R := h
theorem s_tlk {R : Hp → Prop} (h1 : H l = some (.lst xs)) (h2 : H b = some (.lst ys)) (n : l ≠ b) (h0 : 0 ≤ a) (ha : a ≤ xs.length) (hz : xs.length + ys.length ≤ sizeLine) (e : xs.take a.toNat ++ ys = zs)
    (q : ∀ H', H' l = some (.lst zs) → Kp [l] H H' → R H') : TlK (.ref l) (.ref b) R (.int a) H := ⟨l, b, xs, ys, a, rfl, rfl, rfl, h1, h2, n, h0, ha, hz, by rw [e]; exact put_abs h1 rfl q⟩
end
end
end U

namespace U
open PySem L2 PySem.Spec PyProof.Rows
section
variable {X : Cx}
/-- sorted(d), a dict with int keys, any number of them -/
def uSortD : List V → Hp → VK → Prop := fun xs H Q => ∃ (a : Addr) (kvs : List (Key × V)) (ks : List Int), xs = [.ref a] ∧ Rd H a (.dK kvs) ∧ kvs.map (·.1) = ks.map Sum.inl ∧
    ∀ (ys : List Int) (p : Addr), ys.Perm ks → ys.Pairwise (· ≤ ·) → H p = none → Q (.ref p) (upd H p (.lst (ys.map V.int)))
theorem c_sortD (hcalm : X.calm = true) : CallR X (.builtin "sorted") uSortD := by
  intro pins s σ H xs us Q I r q
  obtain ⟨a, kvs, ks, ex, hd, hks, q⟩ := q
  subst ex
  obtain ⟨u, eu, rx⟩ := vals1 r
  subst eu
  cases rx
  obtain ⟨z, lo, vs, rel, dd⟩ := dk_rd I.hok hd
  obtain ⟨ep, hat⟩ := dd.dictAt
  have hkeys : vs.map (·.1) = ks.map Sum.inl := rel.keys.symm.trans hks
  have hl : vs.length = ks.length := by
    have e := congrArg List.length hkeys
    rwa [List.length_map, List.length_map] at e
  have h16 : vs.length ≤ sizeLine := by rw [← rel.length]; exact z
  refine Calls.call_function_entry PyProof.Rows.kind_sorted PyProof.Rows.plain_sorted PyProof.Rows.entry_sorted (PyProof.Rows.args_sorted1 _) ?_
  unfold Builtin.«sorted»
  refine wpAny_bind (m := checkCount "sorted" 1 1 _) (wpAny_pure ?_)
  refine wpAny_bind (PySem.W.kdu_collect (A := X.A.in1) (PySem.W.kdl_dict (knd := mixKind X.prog X.w) (kvs := vs) (ep := ep) lo) (I.ok.hd hcalm) hat h16 fun h' tk acc hk hacc => ?_)
  have hal : acc.toList.length = ks.length := by rw [Array.length_toList, hacc.1, hl]
  have hS : IntsAre acc.toList ks := ints_each hal fun j v e => by
    obtain ⟨k, x, e1, e2⟩ := hacc.2 j v (by rw [← Array.getElem?_toList]; exact e)
    have e3 : (vs.map (·.1))[j]? = some k := by rw [List.getElem?_map, e1]; rfl
    rw [hkeys, List.getElem?_map] at e3
    obtain ⟨y, e4, rfl⟩ := Option.map_eq_some_iff.mp e3
    rcases keyIs_shape (show keyIs (Sum.inl y) v = true from e2) with ⟨i, t, ek, ev⟩ | ⟨z, t, ek, ev⟩
    · cases ek
      exact ⟨_, t, e4, ev⟩
    · cases ek
  have I1 : Inv X pins σ H { s with heap := h', toks := tk } := I.kept hk
  refine wpAny_bind (wpAny_newList ?_ (by rw [hal, ← hl]; exact h16))
  have hoL : (h'.push (seqObj "list" acc.toList.toArray 0)).get? h'.objs.size = some (seqObj "list" acc.toList.toArray 0) := Heap.get?_push_size _ rfl
  show wpAny _ _ _ _ _ { s with heap := h'.push (seqObj "list" acc.toList.toArray 0), toks := tk }
  refine wpAny_bind (wpAny_holding (wpAny_call_entry PyProof.Rows.slot_list_sort ⟨_, hoL, rfl⟩ PyProof.Rows.entry_list_sort
    (SrtO.list_sort_ord (s := { s with heap := h'.push (seqObj "list" acc.toList.toArray 0), toks := tk }) SrtO.swo_int hoL (by rw [hal, ← hl]; exact h16) (fun h2 => SrtO.ints_sortable hS h2) fun out h1 h2 => ⟨_, rfl, ?_⟩) (PyProof.Rows.args_list_sort _)))
  obtain ⟨g1, g2, g3⟩ := SrtO.ints_out hS h1 h2
  obtain ⟨e', he'⟩ := PyProof.Rows.sortedHeap_at (vs := acc.toList) (out := out.toArray) hoL
  have hlen : ((out.map SrtO.iv).map V.int).length ≤ sizeLine := by
    rw [List.length_map, g2.length_eq, ← hl]
    exact h16
  refine wpAny_pure ⟨_, rfl, .ref h'.objs.size, upd H h'.objs.size (.lst ((out.map SrtO.iv).map V.int)), I1.laid (t' := tk) (fun b u e => ?_) (Nat.le_refl _)
    (show ObjOk X.prog X.w _ _ _ (.lst ((out.map SrtO.iv).map V.int)) from ⟨hlen, out, e', vals_of_ints g1, he'⟩), rfl, q _ _ g2 g3 (I1.hok.fresh (Nat.le_refl _))⟩
  have hb : b < h'.objs.size := Heap.lt_size e
  rw [PyProof.Rows.sortedHeap_old (Nat.ne_of_lt hb) (by rw [size_push']; exact Nat.lt_succ_of_lt hb)]
  exact Heap.get?_push_of_some _ e
end
/-! d.update(e), another dict -/
section
variable {X : Cx}
theorem merge_len : ∀ (more kvs : List (Key × V)), (mergeK kvs more).length ≤ kvs.length + more.length
  | [], kvs => by simp [mergeK]
  | p :: r, kvs => by
    have h1 := merge_len r (putK kvs p.1 p.2)
    have h2 := length_putK kvs p.1 p.2
    have e : mergeK kvs (p :: r) = mergeK (putK kvs p.1 p.2) r := rfl
    rw [e, List.length_cons]
    omega
def rUpd : V → List V → Hp → VK → Prop := fun x xs H Q => ∃ (a b : Addr) (kvs more : List (Key × V)), x = .ref a ∧ xs = [.ref b] ∧ H a = some (.dK kvs) ∧ H b = some (.dK more) ∧ a ≠ b ∧ kvs.length + more.length ≤ sizeLine ∧ Q .non (upd H a (.dK (mergeK kvs more)))
theorem mt_update : MtR X "dict.update" rUpd := by
  intro pins s σ H x xs v us Q I rx rxs h
  obtain ⟨a, b, kvs, more, rfl, rfl, ha, hb, hne, hz, q⟩ := h
  cases rx
  obtain rfl := Vals.ref1 rxs
  obtain ⟨z, hd, vs, rel, dd⟩ := dk_of I.hok ha
  obtain ⟨z2, hd2, rs, rel2, dd2⟩ := dk_of I.hok hb
  refine call_meetsIn PySem.F.slot_dict_update dd.typeIs PySem.F.entry_dict_update (PySem.F.args_dict_update_2 _ _) (meets_dict_update (mixKind X.prog X.w) a b hne hd2) ⟨vs, rs, dd, dd2, by rw [← rel.length, ← rel2.length]; exact hz, fun h' dd' _ hs => ?_⟩
  have he : ∃ q, h'.get? a = some q := let ⟨q, _, _, hq, _⟩ := dd'; ⟨q, hq⟩
  exact ⟨.non, _, d_write (t' := s.toks) I (by rw [ha]; exact True.intro) hs he (dk_new (Nat.le_trans (merge_len _ _) hz) hd (KV.merge rel2 rel) dd'), rfl, q⟩
end
section
variable {K : PySem.W.Frag} {σ : L2.St} {H : Hp} {Q : VK} {a b : Addr} {kvs more ks : List (Key × V)}
theorem s_upd (ha : H a = some (.dK kvs)) (hb : H b = some (.dK more)) (n : a ≠ b) (hz : kvs.length + more.length ≤ sizeLine) (e : mergeK kvs more = ks) (q : ∀ H', H' a = some (.dK ks) → Kp [a] H H' → Q .non H') : rUpd (.ref a) [.ref b] H Q :=
  ⟨a, b, kvs, more, rfl, rfl, ha, hb, n, hz, by rw [e]; exact put_abs ha rfl (R := fun H' => Q .non H') q⟩
end
section
variable {K : PySem.W.Frag} {σ : L2.St} {H : Hp} {Q : VK} {p : Addr} {kvs : List (Key × V)} {ks : List Int}
theorem s_sortD (h : H p = some (.dK kvs)) (e : kvs.map (·.1) = ks.map Sum.inl) (q : ∀ (ys : List Int) l H', ys.Perm ks → ys.Pairwise (· ≤ ·) → H l = none → H' l = some (.lst (ys.map V.int)) → Kp [] H H' → Q (.ref l) H') : uSortD [.ref p] H Q :=
  ⟨p, kvs, ks, rfl, Or.inl h, e, fun ys l hp hs f => q ys l _ hp hs f upd_same (Kp.refl.new f)⟩
end
end U

namespace U
open PySem L2 PySem.Spec PyProof.Rows
/-! what the stepping words lean on: where things stand, by search -/
section
variable {K : PySem.W.Frag} {H H1 H2 : Hp} {ps qs : List Addr} {a b p q : Addr} {o u : HO} {i j : Nat}
theorem Kp.step (h : Kp ps H H1) (k : Kp qs H1 H2) (n : ∀ q ∈ qs, q ∈ ps ∨ H q = none) : Kp ps H H2 := ⟨fun b o e m => by
  refine k.keep b o (h.keep b o e m) fun z => ?_
  rcases n b z with y | y
  · exact m y
  · (rw [y] at e; cases e), fun b i e => k.kd b i (h.kd b i e), fun b xs e => k.tp b xs (h.tp b xs e)⟩
/-- told of heaps that are further apart (no step of the search) -/
structure Kz (ps : List Addr) (H H' : Hp) : Prop where
  k : Kp ps H H'
/-- told for later: it did not stand -/
structure Fz (H : Hp) (p : Addr) : Prop where
  f : H p = none
theorem nt1 {H : Hp} {p : Addr} (h : Nt H p) : ∀ q ∈ [p], Nt H q := by simpa using h
theorem nm0 : a ∉ ([] : List Addr) := by simp
theorem nmc (h : a ≠ p) (g : a ∉ ps) : a ∉ p :: ps := by simp [h, g]
theorem al0 {P : Addr → Prop} : ∀ q ∈ ([] : List Addr), P q := by simp
theorem alc {P : Addr → Prop} (h : P p) (g : ∀ q ∈ ps, P q) : ∀ q ∈ p :: ps, P q := by simpa using ⟨h, g⟩
/-- what stands was none before -/
def Dm (H H1 : Hp) : Prop := ∀ b, H1 b = none → H b = none
theorem Dm.refl : Dm H H := fun _ e => e
theorem Dm.step (h : Dm H H1) (k : Kp ps H1 H2) : Dm H H2 := fun b e => h b (k.dom b e)
theorem Dm.fr (n : H1 p = none) (h : Dm H H1) : H p = none := h p n
theorem Th.kp (k : Kp ps H H1) (h : Th H a i) : Th H1 a i := k.kd a i h
theorem Th.ne (h : Th H a i) (f : H p = none) : a ≠ p := by obtain ⟨o, e, r⟩ := h; exact ne_of_none e f
theorem Th.nk (h : Th H a i) (g : Th H p j) (d : Nat.beq i j = false) : a ≠ p := fun z => by
  subst z
  obtain ⟨o, e, rfl⟩ := h
  obtain ⟨o', e', rfl⟩ := g
  rw [e] at e'
  cases e'
  exact Nat.ne_of_beq_eq_false d rfl
theorem Th.nt (h : Th H a i) (d : Nat.beq i 1 = false) : Nt H a := fun xs e => by
  obtain ⟨o, e2, rfl⟩ := h
  rw [e] at e2
  cases e2
  cases d
theorem SqL.kpn {xs : List V} (k : Kp ps H H1) (h : SqL K H a xs) (n : a ∉ ps) : SqL K H1 a xs := by
  rcases h with (e | ⟨o, e⟩) | e
  · exact Or.inl (Or.inl (k.get e n))
  · exact Or.inl (Or.inr ⟨o, k.get e n⟩)
  · exact Or.inr e
theorem TyN.kpn {v : V} {t : Kd} (h : TyN H v t) (k : Kp ps H H1) (n : ∀ q ∈ ps, v ≠ .ref q) : TyN H1 v t := by
  cases h with
  | non => exact .non
  | bl => exact .bl
  | int => exact .int
  | str => exact .str
  | lst e => exact .lst (k.get e fun m => n _ m rfl)
  | tup e => exact .tup (k.get e fun m => n _ m rfl)
  | dic e => exact .dic (k.get e fun m => n _ m rfl)
theorem kn {a b : Str} (h : decide (a = b) = false) : ¬ ((Sum.inr a : Key) = Sum.inr b) := fun z => by
  injection z with z
  exact absurd z (of_decide_eq_false h)
/-- the box: a list of three numbers, the last one at most n -/
structure Box (H : Hp) (p : Addr) (n : Nat) : Prop where
  ex : ∃ a b c : Int, H p = some (.lst [.int a, .int b, .int c]) ∧ 0 ≤ a ∧ 0 ≤ b ∧ b < 2147483629 ∧ 0 ≤ c ∧ c ≤ n
theorem Box.th {n : Nat} (h : Box H p n) : Th H p 0 := by obtain ⟨a, b, c, e, r⟩ := h.ex; exact .lst e
theorem Box.kp {n : Nat} (h : Box H p n) (k : Kp [] H H1) : Box H1 p n := by
  obtain ⟨a, b, c, e, r⟩ := h.ex
  exact ⟨a, b, c, k.get0 e, r⟩
theorem Box.kpn {n : Nat} (h : Box H p n) (k : Kp ps H H1) (z : p ∉ ps) : Box H1 p n := by
  obtain ⟨a, b, c, e, r⟩ := h.ex
  exact ⟨a, b, c, k.get e z, r⟩
theorem Box.ne {l : Addr} {n : Nat} (h : Box H p n) (hl : H l = none) : l ≠ p := (h.th.ne hl).symm
theorem Box.more {n m : Nat} (h : Box H p n) (e : n ≤ m) : Box H p m := by
  obtain ⟨a, b, c, e1, h1, h2, h3, h4, h5⟩ := h.ex
  exact ⟨a, b, c, e1, h1, h2, h3, h4, by omega⟩
theorem Box.nt {n : Nat} (h : Box H p n) : Nt H p := by
  obtain ⟨a, b, c, e, r⟩ := h.ex
  exact Nt.lst e
theorem PvD.begin {H : Hp} {D : Addr} {Pv : Nat → List V → Hp → Prop} (f : H D = none) (h : ∀ H', H' D = some (.lst []) → Kp [] H H' → Pv 0 [] H') : PvD D Pv 0 (upd H D (.lst [])) := ⟨[], upd_same, h _ upd_same (Kp.refl.new f)⟩
theorem PvD.add {H : Hp} {D : Addr} {Pv : Nat → List V → Hp → Prop} {acc : List V} {y : V} {i : Nat} (e : H D = some (.lst acc)) (hz : acc.length ≤ 1000000) (h : ∀ H', H' D = some (.lst (acc ++ [y])) → Kp [D] H H' → Pv i (acc ++ [y]) H') :
    ∃ acc, H D = some (.lst acc) ∧ acc.length < sizeLine ∧ PvD D Pv i (upd H D (.lst (acc ++ [y]))) := ⟨acc, e, zlt hz, acc ++ [y], upd_same, h _ upd_same (Kp.refl.put (by simp) (.lst e))⟩
theorem many_j (n : Nat) (lo hi : Int) (h0 : 0 ≤ lo) (h : lo ≤ hi) : ∃ j : Nat, (if (if (n : Int) < hi then (n : Int) else hi) > lo then (if (n : Int) < hi then (n : Int) else hi) else lo) = (j : Int) ∧ lo ≤ j ∧ j ≤ hi := by
  refine ⟨(if (if (n : Int) < hi then (n : Int) else hi) > lo then (if (n : Int) < hi then (n : Int) else hi) else lo).toNat, ?_, ?_, ?_⟩ <;> (split <;> split <;> omega)
end
end U

namespace U
open PySem L2 PySem.Spec PyProof.Rows
/-! == and != of data -/
section
variable {K : PySem.W.Frag} {H H1 : Hp} {Q : VK} {x y : V} {d e : PyData} {ps qs : List Addr}
mutual
theorem Dn.dp : ∀ {v : V} {d : PyData}, d.canLay0 = true → Dn K H v d → Dp K H v d
  | _, _, _, .non => .non
  | _, _, _, .bl b => .bl b
  | _, _, _, .int i => .int i
  | _, _, _, .str x => .str x
  | _, _, h, .lst r a => .lst (Or.inl r) (DnA.dp (by simpa only [PyData.canLay0] using h) a)
  | _, _, h, .tup r a => .tup r (DnA.dp (by simpa only [PyData.canLay0] using h) a)
  | _, _, h, .dic r a => by simp [PyData.canLay0] at h
theorem DnA.dp : ∀ {vs : List V} {ds : List PyData}, PyData.canLayAll0 ds = true → DnA K H vs ds → DpAll K H vs ds
  | _, _, _, .nil => .nil
  | _, _, h, .cons a b => by
    rw [PyData.canLayAll0, Bool.and_eq_true] at h
    exact .cons (Dn.dp h.1 a) (DnA.dp h.2 b)
end
theorem shp {d : PyData} (h : SeqAt.shaped d = true) : d.canLay0 = true := by
  unfold SeqAt.shaped at h
  rw [Bool.and_eq_true] at h
  exact h.1
theorem s_eqD (h1 : Dn K H x d) (h2 : Dn K H y e) (s1 : SeqAt.shaped d = true) (s2 : SeqAt.shaped e = true) (q : Q (.bl (PyData.eqv d e)) H) : uEq K x y H Q :=
  Or.inr ⟨d, e, h1.dp (shp s1), h2.dp (shp s2), s1, s2, q⟩
theorem s_neD (h1 : Dn K H x d) (h2 : Dn K H y e) (s1 : SeqAt.shaped d = true) (s2 : SeqAt.shaped e = true) (q : Q (.bl (!PyData.eqv d e)) H) : uNe K x y H Q :=
  Or.inr ⟨d, e, h1.dp (shp s1), h2.dp (shp s2), s1, s2, q⟩
theorem s_eqR (h1 : Dn K H x d) (h2 : Dn K H y d) (s1 : SeqAt.shaped d = true) (q : Q (.bl true) H) : uEq K x y H Q :=
  s_eqD h1 h2 s1 s1 (by rw [PySem.SeqAt.eqv_refl d (shp s1)]; exact q)
theorem s_neR (h1 : Dn K H x d) (h2 : Dn K H y d) (s1 : SeqAt.shaped d = true) (q : Q (.bl false) H) : uNe K x y H Q :=
  s_neD h1 h2 s1 s1 (by rw [PySem.SeqAt.eqv_refl d (shp s1)]; exact q)
/-- a list against [] -/
theorem s_neN {p r : Addr} {ds : List PyData} (h1 : Dn K H (.ref p) (.list ds)) (h2 : H r = some (.lst [])) (s1 : SeqAt.shaped (.list ds) = true) (q : Q (.bl (!ds.isEmpty)) H) : uNe K (.ref p) (.ref r) H Q := by
  refine s_neD h1 (.lst (Or.inl h2) .nil) s1 (by decide +kernel) ?_
  have e : PyData.eqv (.list ds) (.list []) = ds.isEmpty := by
    cases ds <;> simp [PyData.eqv, PyData.eqvAll]
  rw [e]
  exact q
theorem s_eqN {p r : Addr} {ds : List PyData} (h1 : Dn K H (.ref p) (.list ds)) (h2 : H r = some (.lst [])) (s1 : SeqAt.shaped (.list ds) = true) (q : Q (.bl ds.isEmpty) H) : uEq K (.ref p) (.ref r) H Q := by
  refine s_eqD h1 (.lst (Or.inl h2) .nil) s1 (by decide +kernel) ?_
  have e : PyData.eqv (.list ds) (.list []) = ds.isEmpty := by
    cases ds <;> simp [PyData.eqv, PyData.eqvAll]
  rw [e]
  exact q
/-! data of the part of the heap that is not at ps -/
def hid (ps : List Addr) (H : Hp) : Hp := fun a => if a ∈ ps then none else H a
theorem hid_some {a : Addr} {o : HO} (h : hid ps H a = some o) : H a = some o ∧ a ∉ ps := by
  unfold hid at h
  by_cases m : a ∈ ps
  · rw [if_pos m] at h; cases h
  · rw [if_neg m] at h; exact ⟨h, m⟩
theorem hid_of {a : Addr} {o : HO} (h : H a = some o) (m : a ∉ ps) : hid ps H a = some o := by
  unfold hid; rw [if_neg m]; exact h
theorem hid_kp (k : Kp qs H H1) (n : ∀ q ∈ qs, q ∈ ps ∨ H q = none) : Kp [] (hid ps H) (hid ps H1) := ⟨fun b o e _ => by
  obtain ⟨e1, m⟩ := hid_some e
  refine hid_of (k.get e1 fun z => ?_) m
  rcases n b z with y | y
  · exact m y
  · (rw [y] at e1; cases e1), fun b i e => by
  obtain ⟨o, e, r⟩ := e
  obtain ⟨e1, m⟩ := hid_some e
  obtain ⟨o', e', r'⟩ := k.kd b i ⟨o, e1, r⟩
  exact ⟨o', hid_of e' m, r'⟩, fun b xs e => by
  obtain ⟨e1, m⟩ := hid_some e
  exact hid_of (k.tp b xs e1) m⟩
/-- a thing that is data, no part of it at ps -/
def Dx (ps : List Addr) (K : PySem.W.Frag) (H : Hp) (v : V) (d : PyData) : Prop := Dn K (hid ps H) v d
theorem Dx.kpn (h : Dx ps K H x d) (k : Kp qs H H1) (n : ∀ q ∈ qs, q ∈ ps ∨ H q = none) : Dx ps K H1 x d := Dn.kp (hid_kp k n) h
theorem rdh {a : Addr} {u : HO} (r : Rd (hid ps H) a u) : Rd H a u := by
  rcases r with r | ⟨o, r⟩
  · exact Or.inl (hid_some r).1
  · exact Or.inr ⟨o, (hid_some r).1⟩
mutual
theorem Dn.unhid : ∀ {v : V} {d : PyData}, Dn K (hid ps H) v d → Dn K H v d
  | _, _, .non => .non
  | _, _, .bl b => .bl b
  | _, _, .int i => .int i
  | _, _, .str x => .str x
  | _, _, .lst r a => .lst (rdh r) (DnA.unhid a)
  | _, _, .tup r a => .tup (r.elim (fun z => Or.inl (rdh z)) Or.inr) (DnA.unhid a)
  | _, _, .dic r a => .dic (rdh r) (DnA.unhid a)
theorem DnA.unhid : ∀ {vs : List V} {ds : List PyData}, DnA K (hid ps H) vs ds → DnA K H vs ds
  | _, _, .nil => .nil
  | _, _, .cons a b => .cons (Dn.unhid a) (DnA.unhid b)
end
end
def uIsB : R2 := fun x y H Q => ∃ a b : Bool, x = .bl a ∧ y = .bl b ∧ Q (.bl (decide (a = b))) H
theorem o_isb {X : Cx} : OpR X (compareOp .Is) uIsB := op_is_bl
theorem s_isb {a b : Bool} {H : Hp} {Q : VK} (q : Q (.bl (decide (a = b))) H) : uIsB (.bl a) (.bl b) H Q := ⟨a, b, rfl, rfl, q⟩
section
variable {K : PySem.W.Frag} {σ : L2.St} {H : Hp} {Q : VK} {p : Addr} {xs : List V} {X : Cx}
def uTuple (K : PySem.W.Frag) : List V → Hp → VK → Prop := fun xs H Q => ∃ p ys, xs = [.ref p] ∧ ((SqL K H p ys ∧ ∀ l, H l = none → Q (.ref l) (upd H l (.tup ys))) ∨ (SqT K H p ys ∧ Q (.ref p) H))
theorem c_tuple (hK : X.K = K) : CallR X (.type "tuple") (uTuple K) := hK ▸ call_tuple_of
theorem s_tuple (h : SqL K H p xs) (q : ∀ l H', H l = none → H' l = some (.tup xs) → Kp [] H H' → Q (.ref l) H') : uTuple K [.ref p] H Q := ⟨p, xs, rfl, Or.inl ⟨h, new_abs (R := fun l H' => Q (.ref l) H') q⟩⟩
theorem s_tupleT (h : H p = some (.tup xs)) (q : Q (.ref p) H) : uTuple K [.ref p] H Q := ⟨p, xs, rfl, Or.inr ⟨SqT.of h, q⟩⟩
theorem s_rev (h : H p = some (.lst xs)) (q : ∀ H', H' p = some (.lst xs.reverse) → Kp [p] H H' → Q .non H') : rReverse (.ref p) [] H Q := ⟨p, xs, rfl, rfl, h, put_abs h rfl (R := fun H' => Q .non H') q⟩
end
theorem ix_mem {xs : List V} {i : Int} (h0 : 0 ≤ i) (h1 : i < xs.length) : ∃ v, v ∈ xs ∧ atI xs i = some v := by
  obtain ⟨v, e1, e2⟩ := at_int h0 h1
  exact ⟨v, List.mem_of_getElem? e1, e2⟩
theorem natAbs_lt {i : Int} {n : Nat} (h1 : -(n : Int) < i) (h2 : i < n) : i.natAbs < n := by omega
theorem s_par {i j : Nat} {ta : TA} {D : Ends} {σ : L2.St} {H : Hp} (h : ta σ H fun vs H1 => ∃ u v, vs = [u, v] ∧ D.nx ((σ.set i (some u)).set j (some v)) H1) : tPar i j ta D σ H := h
theorem s_two {u v : V} {R : V → V → Prop} (q : R u v) : ∃ u' v', [u, v] = [u', v'] ∧ R u' v' := ⟨u, v, rfl, q⟩
theorem at_last {α : Type} {xs : List α} (h : xs ≠ []) : ∃ v, v ∈ xs ∧ atI xs (-1) = some v := by
  have hp := List.length_pos_iff.mpr h
  refine ⟨xs[xs.length - 1]'(by omega), List.getElem_mem _, ?_⟩
  unfold atI ixN
  rw [if_neg (by omega), if_pos (by omega)]
  have e : (-1 + (xs.length : Int)).toNat = xs.length - 1 := by omega
  simp [e]
end U

namespace U
open PySem L2 PySem.Spec PyProof.Rows
/-! a def whose last parameter has the default None -/
section
variable {P : Program} {w : World} {K : PySem.W.Frag} {mg : Str → Option Value} {base : Heap} {x ql : Str} {st : Stmt} {f : Addr} {fd : FuncData} {N ps : List Str} {k : Nat} {sp : Sp}
abbrev FunN (K : PySem.W.Frag) (x ql : Str) (st : Stmt) (f : Addr) (fd : FuncData) : Prop := FunD K x ql (defArgs st) (defBody st) (defScope st) [.non] [] f fd
theorem funN_okX (F : FunN K x ql st f fd) (S : FnScope N ps (defScope st)) (len : ∀ vs H Q E, sp vs H Q E → vs.length = ps.length)
    (hb : ∀ (cdv : Value) (A : Around) (outer : List Env) (s : Shared) (H : Hp) (vs : List V) (Q : VK) (E : XK), Room k (A.deeper (envOfC ql (defScope st) s.heap.objs.size f cdv)) → sp vs H Q E →
      ∃ t, PSs (cxOf (L2.CX P w) P w K mg base N ql (defScope st) f cdv A outer s H E) (defBody st) t ∧ t { nx := fun _ H' => Q .non H', rt := Q } (start N vs) H) : FnOk P w K mg base (L2.CX P w) (k + 1) f fd ps sp :=
  F.ok S len hb
theorem funN_full (F : FunN K x ql st f fd) (n : Nat) (hn : n = ps.length)
    (h : ∀ (T : Addr) (kV doc pm : Value) (an : Option Addr) (cdv ct : Value) (us its : List Value), us.length = n → its.length = 1 →
      ∃ k, bindArgs (PySem.W.fnOf x ql (defArgs st) (defBody st) (defScope st) (.ref T) kV doc pm an cdv ct) ⟨us, []⟩ = seqItems? (.ref T) >>= k ∧ k (some its.toArray) = pure (ps.zip (us ++ its.drop 1))) : Binds K fd ps [] := by
  obtain ⟨ds, v, b⟩ := F.binds1 (ps := ps) n 1 (by simp) (by simp [hn]) h
  cases v
  exact b
theorem funN_part (F : FunN K x ql st f fd) (n : Nat) (hn : n + 1 = ps.length)
    (h : ∀ (T : Addr) (kV doc pm : Value) (an : Option Addr) (cdv ct : Value) (us its : List Value), us.length = n → its.length = 1 →
      ∃ k, bindArgs (PySem.W.fnOf x ql (defArgs st) (defBody st) (defScope st) (.ref T) kV doc pm an cdv ct) ⟨us, []⟩ = seqItems? (.ref T) >>= k ∧ k (some its.toArray) = pure (ps.zip (us ++ its.drop 0))) : Binds K fd ps [.none] := by
  obtain ⟨ds, v, b⟩ := F.binds1 (ps := ps) n 0 (by simp) (by simp [hn]) h
  cases v with
  | cons a r =>
    cases r
    cases a
    exact b
theorem funN_mk {oc : Value} {od an : Option Addr} {osl : Array (Option Value)} {kV doc pm cdv ct : Value} {T : Addr} {oT : Obj} {nT : Nat} (l : K.lookup f = some ⟨oc, od, .func (PySem.W.fnOf x ql (defArgs st) (defBody st) (defScope st) (.ref T) kV doc pm an cdv ct), osl⟩)
    (c : PySem.W.codeIn K cdv ql = true) (k : PySem.W.keepIn K (.ref f) = true) (lT : K.lookup T = some oT) (dT : oT.data = .seq #[Value.none] nT) : FunN K x ql st f (PySem.W.fnOf x ql (defArgs st) (defBody st) (defScope st) (.ref T) kV doc pm an cdv ct) :=
  ⟨⟨oc, od, _, kV, doc, pm, an, cdv, ct, osl, rfl, l, c, Or.inr ⟨by simp, T, oT, [.none], nT, rfl, lT, dT, .cons rfl .nil⟩, Or.inl rfl⟩, k⟩
end
/-! a walk over a list or a tuple -/
section
variable {X : Cx} {K : PySem.W.Frag} {tg l : Expr} {tl : TE}
def iSeq (K : PySem.W.Frag) (tl : TE) : TI := fun σ H R => tl σ H fun x H1 => ∃ a, x = .ref a ∧ (((∃ xs, SqL K H1 a xs) ∧ R (Itl K a) H1) ∨ ((∃ xs, SqT K H1 a xs) ∧ R (Itt K a) H1))
theorem pi_seq (hK : X.K = K) (hl : PE X l tl) : PI X tg l (iSeq K tl) := by
  subst hK
  refine ⟨fun pins s σ H R I h => ?_⟩
  refine thn (hl.run pins s σ H _ I h) fun v s1 ⟨x, H1, I1, r1, q1⟩ => ?_
  obtain ⟨a, e, q1⟩ := q1
  subst e
  cases r1
  rcases q1 with ⟨⟨xs, hq⟩, q⟩ | ⟨⟨xs, hq⟩, q⟩
  · obtain ⟨its, rv, p, hz⟩ := I1.list hq
    refine wpAny_pyIter_list p.isList ?_
    refine ⟨s1.heap.objs.size, [s1.heap.objs.size], _, _, H1, rfl, I1.kept (t' := s1.toks) fun b o e => Heap.get?_push_of_some _ e, turn_list a _, ⟨_, Heap.get?_push_size _ rfl, rfl, rfl⟩, fun b hb => ?_, q⟩
    have e : b = s1.heap.objs.size := by simpa using hb
    subst e
    exact I1.fpOk (Nat.le_refl _) (I1.hok.fresh (Nat.le_refl _))
  · obtain ⟨its, rv, p, hz⟩ := I1.tuple hq
    refine wpAny_pyIter_tuple (show s1.heap.IsTuple a its.toArray from p) ?_
    refine ⟨s1.heap.objs.size, [s1.heap.objs.size], _, _, H1, rfl, I1.kept (t' := s1.toks) fun b o e => Heap.get?_push_of_some _ e, turn_tuple a _, ⟨_, Heap.get?_push_size _ rfl, rfl, rfl⟩, fun b hb => ?_, q⟩
    have e : b = s1.heap.objs.size := by simpa using hb
    subst e
    exact I1.fpOk (Nat.le_refl _) (I1.hok.fresh (Nat.le_refl _))
variable {σ : L2.St} {H : Hp} {R : It → Hp → Prop}
theorem s_iseq (h : tl σ H fun x H1 => ∃ a, x = .ref a ∧ (((∃ xs, SqL K H1 a xs) ∧ R (Itl K a) H1) ∨ ((∃ xs, SqT K H1 a xs) ∧ R (Itt K a) H1))) : iSeq K tl σ H R := h
theorem s_isqT {p : Addr} {xs : List V} {S L : Addr → Prop} (h : H p = some (.tup xs)) (q : S p) : ∃ a, V.ref p = .ref a ∧ (((∃ xs, SqL K H a xs) ∧ L a) ∨ ((∃ xs, SqT K H a xs) ∧ S a)) := ⟨p, rfl, Or.inr ⟨⟨xs, SqT.of h⟩, q⟩⟩
theorem s_isqL {p : Addr} {xs : List V} {S L : Addr → Prop} (h : H p = some (.lst xs)) (q : L p) : ∃ a, V.ref p = .ref a ∧ (((∃ xs, SqL K H a xs) ∧ L a) ∨ ((∃ xs, SqT K H a xs) ∧ S a)) := ⟨p, rfl, Or.inl ⟨⟨xs, SqL.of h⟩, q⟩⟩
theorem s_itup (h : tl σ H fun x H1 => ∃ a, x = .ref a ∧ (∃ xs, SqT K H1 a xs) ∧ R (Itt K a) H1) : iTup K tl σ H R := h
theorem s_itp {p : Addr} {xs : List V} {S : Addr → Prop} (h : H p = some (.tup xs)) (q : S p) : ∃ a, V.ref p = .ref a ∧ (∃ xs, SqT K H a xs) ∧ S a := ⟨p, rfl, ⟨xs, SqT.of h⟩, q⟩
end
/-! isinstance(x, (list, tuple)) -/
section
variable {X : Cx} {K : PySem.W.Frag} {H : Hp} {Q : VK}
theorem c_isiT (hK : X.K = K) : CallR X (.builtin "isinstance") (rIsiT K) := hK ▸ call_isiT
def Kd.isSeq : Kd → Bool | .lst => true | .tup => true | _ => false
theorem kb_seq (t : Kd) : PySem.W.kitAny K (.type t.nm) [.type "list", .type "tuple"] = some t.isSeq := by cases t <;> rfl
theorem s_isSeq {v : V} {t : Kd} {tp : Addr} (h : TyN H v t) (e : H tp = some (.tup [.ty "list", .ty "tuple"])) (q : Q (.bl t.isSeq) H) : rIsiT K [v, .ref tp] H Q :=
  ⟨v, tp, _, _, _, _, rfl, e, .cons (.ty _) (.cons (.ty _) .nil), h.ty, kb_seq t, q⟩
def uAbs : List V → Hp → VK → Prop := fun xs H Q => ∃ i, xs = [.int i] ∧ Q (.int (if i < 0 then -i else i)) H
theorem c_abs : CallR X (.builtin "abs") uAbs := call_abs
theorem s_abs {i : Int} (q : Q (.int (if i < 0 then -i else i)) H) : uAbs [.int i] H Q := ⟨i, rfl, q⟩
theorem bt_abs : bootBuiltins "abs" = some (.builtin "abs") := by decide +kernel
theorem bt_enumerate : bootBuiltins "enumerate" = some (.type "enumerate") := by decide +kernel
end
end U

namespace U
open PySem L2 PySem.Spec PyProof.Rows
/-! enumerate(t), t a tuple -/
def IteT (K : PySem.W.Frag) (a : Addr) : It :=
  ⟨fun i H => ∃ (xs : List V) (x : V), SqT K H a xs ∧ xs[i]? = some x, fun i H v H' => ∃ T x, v = .ref T ∧ H T = none ∧ H' = upd H T (.tup [.int (i : Nat), x]) ∧ ∀ xs, SqT K H a xs → xs[i]? = some x, fun i H => ∃ xs : List V, SqT K H a xs ∧ xs.length ≤ i⟩
theorem turn_enumT {P : Program} {w : World} {K : PySem.W.Frag} {elts : List Expr} {kk : Nat} {tpos : Pos} (a e it : Addr) :
    Turn P w K (.Tuple elts kk tpos) (IteT K a) [e, it] e (fun i h => (∃ old, IsEnum h e it ((i : Nat) : Int) old) ∧ h.IsTupleIter it a i ∧ e ≠ it) where
  mem := by simp
  obj := fun i h st b hb => by
    obtain ⟨⟨old, he⟩, ⟨o, ho, hc, hd⟩, _⟩ := st
    have e' : b = e ∨ b = it := by simpa using hb
    rcases e' with z | z
    · rw [z]; exact ⟨_, he, fun v q => nomatch q⟩
    · rw [z]; exact ⟨o, ho, fun v q => by rw [hd] at q; cases q⟩
  keep := fun i h h' st k => let ⟨⟨old, he⟩, hi, hne⟩ := st; ⟨⟨old, k e (by simp) _ he⟩, hi.at fun o q => k it (by simp) o q, hne⟩
  item := by
    intro X hP hw hK hc i pins s σ H E I hf st hg
    subst hP hw hK
    obtain ⟨⟨old, he⟩, hit, hne⟩ := st
    obtain ⟨xs, x, hq, hx⟩ := hg
    obtain ⟨its, rv, p, hz⟩ := I.tuple hq
    obtain ⟨u, hu, ru⟩ := rv.get hx
    have p' : s.heap.IsTuple a its.toArray := p
    have nai : a ≠ it := fun z => by
      subst z
      obtain ⟨o1, e1, c1, _⟩ := p'
      obtain ⟨o2, e2, c2, _⟩ := hit
      rw [e1] at e2; cases e2
      rw [c1] at c2; exact absurd c2 (by simp)
    have nae : a ≠ e := fun z => by
      subst z
      obtain ⟨o1, e1, c1, _⟩ := p'
      have he' := he
      unfold IsEnum at he'
      rw [e1] at he'
      cases he'
      exact absurd c1 (by simp)
    have hel : e < s.heap.objs.size := Heap.lt_size he
    have hil : it < s.heap.objs.size := by obtain ⟨_, q, _⟩ := hit; exact Heap.lt_size q
    have hi : i < its.toArray.size := by
      rw [List.size_toArray]
      exact (List.getElem?_eq_some_iff.mp hu).1
    refine wpAny_pyNext_enum_itemD (Draws.tuple (A := X.A.in1) (show X.A.in1.handled = none from I.ok.hd hc) it a nai its.toArray) he ⟨hit, p'⟩ hi hne (by simp; exact ⟨hne, nae.symm⟩) fun x' h' tk hP ho hst' hT hsz hk => ?_
    obtain ⟨hit', _⟩ := hst'
    have ex : x' = u := by
      have hP' : its.toArray[i]? = some x' := hP
      rw [List.getElem?_toArray, hu] at hP'
      exact (Option.some.inj hP').symm
    subst ex
    refine ⟨_, rfl, wpAny_letOwnedTupleGo_enum (s := { s with heap := h', toks := tk + 1 }) ho fun h'' he' sb => ?_⟩
    have hT2 : h''.get? s.heap.objs.size = some { cls := .type "tuple", data := .seq #[.int i tk, x'] } := (sb.2 _ (Nat.ne_of_gt hel)).trans hT
    have new : ObjOk X.prog X.w (upd H s.heap.objs.size (.tup [.int (i : Nat), x])) h'' s.heap.objs.size (.tup [.int (i : Nat), x]) :=
      ⟨by show 2 ≤ sizeLine; decide, [.int i tk, x'], .cons ⟨_, rfl⟩ (.cons ru .nil), ⟨_, hT2, rfl, _, rfl⟩⟩
    have I1 : Inv X pins σ (upd H s.heap.objs.size (.tup [.int (i : Nat), x])) { s with heap := h'', toks := tk + 1 } :=
      I.turnedNew (ch := [e, it]) (fun b ob hb q => (sb.2 b (fun z => hb (by simp [z]))).trans (hk b ob (fun z => hb (by simp [z])) (fun z => hb (by simp [z])) q)) hf (Nat.le_refl _) new
    refine ⟨.ref s.heap.objs.size, _, I1, rfl, ⟨_, x, rfl, I.hok.fresh (Nat.le_refl _), rfl, fun ys hy => by rw [I.tuple_inj hy hq]; exact hx⟩, ⟨⟨x', ?_⟩, hit'.at fun o q => (sb.2 it (Ne.symm hne)).trans q, hne⟩, fun b hb => ?_⟩
    · have e1 : ((i + 1 : Nat) : Int) = (i : Int) + 1 := by omega
      rw [e1]; exact he'
    · have hb' : b < s.heap.objs.size := by
        have e' : b = e ∨ b = it := by simpa using hb
        rcases e' with z | z
        · rw [z]; exact hel
        · rw [z]; exact hil
      rw [upd_ne (Nat.ne_of_lt hb')]
      exact (hf b hb).1
  done := by
    intro X hP hw hK hc i pins s σ H E I hf st hg
    subst hP hw hK
    obtain ⟨⟨old, he⟩, hit, hne⟩ := st
    obtain ⟨xs, hq, hx⟩ := hg
    obtain ⟨its, rv, p, hz⟩ := I.tuple hq
    obtain ⟨f0, f1, f2, f3, f4, f5⟩ := hf it (by simp)
    have hl := rv.length
    have p' : s.heap.IsTuple a its.toArray := p
    refine (?_ : wpAny (model X.prog X.w) X.A (pyNext (.ref e)) _ _ s)
    have hT : s.TypeIs (.ref e) "enumerate" := ⟨_, he, rfl⟩
    unfold pyNext
    refine wpAny_bind (wpAny_attempt (wpAny_callSpecial?_slot (name := Str.ofString "__next__") hT F.slot_enumerate_next
      (wpAny_call_entry F.slot_enumerate_next hT F.entry_enumerate_next ?_ (F.args_enumerate_next_1 _))))
    show wpAny _ _ (field (.ref e) 2 >>= _) _ _ _
    refine wpAny_bind (wpAny_field he rfl (x := .ref it) rfl ?_)
    refine wpAny_bind (wpAny_nextOf_tuple_end (I.ok.hd hc) hit p' (by simp; omega) fun h' x he' hx' => ?_)
    obtain ⟨o, ho, hc'⟩ := hx'
    refine wpAny_bind (wpAny_isInstance (T := "StopIteration") (b := true) ⟨o, ho, hc'⟩ isSubtype_stop ?_)
    exact wpAny_pure ⟨rfl, I.turned (t' := s.toks) (fun b o hb q => he' b o hb q) f0 f1 f3 f4 f5⟩
  self := fun A i s Q E st h => let ⟨⟨_, he⟩, _⟩ := st; wpAny_pyIter_enum he h
theorem meets_enum1 {v : Value} {o : Obj} {H : Heap → Prop} (B : Begins v o H) :
    Meets (Builtin.«enumerate.__new__» ⟨[.type "enumerate", v], []⟩) (fun _ R s => H s.heap ∧
      R (.ok (.ret (.ref (s.heap.push o).objs.size))) { s with heap := (s.heap.push o).push { cls := .type "enumerate", data := .fields #[.none, .bool false, .ref s.heap.objs.size, rawInt 0, .none, .none] } }) :=
  .of_wp fun prog w A R s h => by
    obtain ⟨hp, g, d, tk, os⟩ := s; obtain ⟨h1, h⟩ := h
    have hsub := sub_enumerate
    have q1 : ∀ {A' : Around} {E : Value → Shared → Prop} {Q : Value → Shared → Prop}, Q (.ref hp.objs.size) ⟨hp.push o, g, d, tk, os⟩ → wpAny (model prog w) A' (pyIter v) Q E ⟨hp, g, d, tk, os⟩ :=
      fun q => B.iter prog w _ _ ⟨hp, g, d, tk, os⟩ _ h1 q
    wp_walk using q1
    refine wpAny_stack_any fun st => wpAny_pure ?_
    split
    · rename_i c _ _ _ _ _
      cases (c == Value.type "enumerate")
      · wp_walk using q1
        exact ⟨_, rfl, h⟩
      · wp_walk using q1
        exact ⟨_, rfl, h⟩
    · wp_walk using q1
      exact ⟨_, rfl, h⟩
section
variable {prog : Program} {w : World} {A : Around} {E : Value → Shared → Prop} {s : Shared}
theorem enum_begins1 {v : Value} {o : Obj} {H : Heap → Prop} {Q : Value → Shared → Prop} (B : Begins v o H) (h1 : H s.heap)
    (h : ∀ h', IsEnum h' (s.heap.objs.size + 1) s.heap.objs.size 0 .none → h'.get? s.heap.objs.size = some o → h'.objs.size = s.heap.objs.size + 2 →
      (∀ b o, s.heap.get? b = some o → h'.get? b = some o) → Q (.ref (s.heap.objs.size + 1)) { s with heap := h' }) :
    wpAny (model prog w) A (call (.type "enumerate") [v]) Q E s := by
  refine callType_new F.called_enumerate (by decide) (F.typeCall_enumerate_1 _) (F.newCall_enumerate_1 _) (fun obj => F.args_object_init_2 obj _) F.entry_enumerate_new
    (meets_enum1 B) ⟨h1, ?_⟩
  have hz : (s.heap.push o).objs.size = s.heap.objs.size + 1 := Heap.size_push ..
  show _ ∧ _
  rw [hz]
  have he : IsEnum ((s.heap.push o).push { cls := .type "enumerate", data := .fields #[.none, .bool false, .ref s.heap.objs.size, rawInt 0, .none, .none] }) (s.heap.objs.size + 1) s.heap.objs.size 0 .none := by
    have := Heap.get?_push_size (s.heap.push o) (o := { cls := .type "enumerate", data := .fields #[.none, .bool false, .ref s.heap.objs.size, rawInt 0, .none, .none] }) rfl
    rw [hz] at this; exact this
  refine ⟨⟨_, he, rfl⟩, h _ he (Heap.get?_push_of_some _ (Heap.get?_push_size _ B.free)) (by rw [Heap.size_push, hz]) fun b o x => Heap.get?_push_of_some _ (Heap.get?_push_of_some _ x)⟩
end
def iEnumT (K : PySem.W.Frag) (ta : TA) : TI := fun σ H R => ta σ H fun vs H1 => ∃ a xs, vs = [.ref a] ∧ SqT K H1 a xs ∧ R (IteT K a) H1
theorem pi_enumT {X : Cx} {K : PySem.W.Frag} {e : Expr} {ta : TA} {p pos tpos : Pos} {elts : List Expr} {kk : Nat} (hK : X.K = K) (hg : Gl X "enumerate") (hm : X.mg "enumerate" = none) (ha : PA X [e] ta) (hs : starEach [e] X.env = [(false, eval e X.env)] := by rfl) :
    PI X (.Tuple elts kk tpos) (.Call (.Name "enumerate" p) [e] [] pos) (iEnumT K ta) := by
  subst hK
  refine ⟨fun pins s σ H R I h => ?_⟩
  refine Call_ (ld_blt I hg hm boot_enumerate (PyProof.Rows.callWith_type1 (thn (ha.run pos pins s σ H _ I h) fun us s1 ⟨vs, H1, I1, r1, q1⟩ => ?_) hs rfl))
  obtain ⟨a, xs, ex, hq, q⟩ := q1
  subst ex
  cases r1 with
  | cons r rr =>
    cases rr
    cases r
    obtain ⟨its, rv, p', hz⟩ := I1.tuple hq
    refine enum_begins1 (begins_tuple a its.toArray) (show s1.heap.IsTuple a its.toArray from p') fun h' he hit hsz hk => wpAny_pyIter_enum he ?_
    have I2 : Inv X pins σ H1 { s1 with heap := h' } := I1.kept (t' := s1.toks) hk
    refine ⟨s1.heap.objs.size + 1, [s1.heap.objs.size + 1, s1.heap.objs.size], _, _, H1, rfl, I2, turn_enumT a (s1.heap.objs.size + 1) s1.heap.objs.size, ⟨⟨.none, he⟩, ⟨_, hit, rfl, rfl⟩, Nat.succ_ne_self _⟩, fun b hb => ?_, q⟩
    have e' : b = s1.heap.objs.size + 1 ∨ b = s1.heap.objs.size := by simpa using hb
    have hle : s1.heap.objs.size ≤ b := by
      rcases e' with z | z
      · rw [z]; exact Nat.le_add_right _ _
      · rw [z]; exact Nat.le_refl _
    exact I1.fpOk hle (I1.hok.fresh hle)
theorem walk_enumT {K : PySem.W.Frag} {a : Addr} {xs : List V} : Walk (IteT K a) xs.length (fun H => SqT K H a xs) (YPair (fun i => some (.int (i : Nat))) (fun i => xs[i]?)) := by
  refine ⟨fun i _ hi q => ⟨xs, xs[i], q, by simp [hi]⟩, fun _ q => ⟨xs, q, Nat.le_refl _⟩, fun i H v H' _ q y => ?_⟩
  obtain ⟨T, x, h1, h2, h3, h4⟩ := y
  exact ⟨T, .int (i : Nat), x, h1, h2, h3, rfl, h4 xs q⟩
theorem pi_enumL {X : Cx} {K : PySem.W.Frag} {e : Expr} {ta : TA} {p pos tpos : Pos} {elts : List Expr} {kk : Nat} (hK : X.K = K) (hg : Gl X "enumerate") (hm : X.mg "enumerate" = none) (ha : PA X [e] ta) (hs : starEach [e] X.env = [(false, eval e X.env)] := by rfl) :
    PI X (.Tuple elts kk tpos) (.Call (.Name "enumerate" p) [e] [] pos) (iEnum K ta) := hK ▸ pi_enum hg hm ha hs
section
variable {K : PySem.W.Frag} {σ : L2.St} {H : Hp} {R : It → Hp → Prop} {ta : TA} {a : Addr} {xs : List V}
theorem s_ienT (h : ta σ H fun vs H1 => ∃ a xs, vs = [.ref a] ∧ SqT K H1 a xs ∧ R (IteT K a) H1) : iEnumT K ta σ H R := h
theorem s_ienL (h : ta σ H fun vs H1 => ∃ a xs, vs = [.ref a] ∧ SqL K H1 a xs ∧ R (Ite K a) H1) : iEnum K ta σ H R := h
theorem s_eT {S : Addr → Prop} (h : H a = some (.tup xs)) (q : S a) : ∃ a' xs', [V.ref a] = [.ref a'] ∧ SqT K H a' xs' ∧ S a' := ⟨a, xs, rfl, SqT.of h, q⟩
theorem s_eL {S : Addr → Prop} (h : H a = some (.lst xs)) (q : S a) : ∃ a' xs', [V.ref a] = [.ref a'] ∧ SqL K H a' xs' ∧ S a' := ⟨a, xs, rfl, SqL.of h, q⟩
end
/-! lists of texts -/
section
variable {K : PySem.W.Frag} {H : Hp} {Q : VK} {p : Addr} {zs : List Str} {z : Str}
theorem flat_strs (zs : List Str) : (zs.map V.str).all flatV = true := by
  rw [List.all_eq_true]
  intro x hx
  obtain ⟨y, _, rfl⟩ := List.mem_map.mp hx
  rfl
theorem eqV_str {a b : Str} : eqV (.str a) (.str b) = decide (a = b) := by
  first
    | (show decide (V.str a = V.str b) = _; exact U.dec_str)
    | rfl
    | simp [eqV]
theorem inV_strs : inV (.str z) (zs.map V.str) = decide (z ∈ zs) := by
  induction zs with
  | nil => rfl
  | cons y zs ih =>
    unfold inV at ih ⊢
    rw [List.map_cons, List.any_cons, ih, eqV_str]
    by_cases h : y = z
    · subst h; simp
    · simp [h, Ne.symm h]
theorem s_inS (h : SqL K H p (zs.map V.str)) (q : Q (.bl (decide (z ∈ zs))) H) : uIn K false (.str z) (.ref p) H Q := Or.inr ⟨p, _, rfl, Or.inl h, rfl, flat_strs zs, by rw [inV_strs]; exact q⟩
theorem s_ninS (h : SqL K H p (zs.map V.str)) (q : Q (.bl (!decide (z ∈ zs))) H) : uIn K true (.str z) (.ref p) H Q := Or.inr ⟨p, _, rfl, Or.inl h, rfl, flat_strs zs, by rw [inV_strs]; exact q⟩
theorem s_inT (h : SqT K H p (zs.map V.str)) (q : Q (.bl (decide (z ∈ zs))) H) : uIn K false (.str z) (.ref p) H Q := Or.inr ⟨p, _, rfl, Or.inr h, rfl, flat_strs zs, by rw [inV_strs]; exact q⟩
theorem s_ninT (h : SqT K H p (zs.map V.str)) (q : Q (.bl (!decide (z ∈ zs))) H) : uIn K true (.str z) (.ref p) H Q := Or.inr ⟨p, _, rfl, Or.inr h, rfl, flat_strs zs, by rw [inV_strs]; exact q⟩
theorem mt_ix {X : Cx} (hK : X.K = K) : MtR X "list.index" (rIndex K) := hK ▸ mt_index
theorem s_indexS {j : Nat} (h : SqL K H p (zs.map V.str)) (e : zs[j]? = some z) (nd : zs.Nodup) (q : Q (.int j) H) : rIndex K (.ref p) [.str z] H Q := by
  refine ⟨p, _, .str z, j, .str z, rfl, rfl, h, rfl, flat_strs zs, by rw [List.getElem?_map, e]; rfl, by rw [eqV_str]; simp, fun m z' hm hz' => ?_, q⟩
  rw [List.getElem?_map] at hz'
  obtain ⟨y, ey, rfl⟩ := Option.map_eq_some_iff.mp hz'
  rw [eqV_str]
  refine decide_eq_false fun hy => ?_
  subst hy
  have := (List.getElem?_inj (List.getElem?_eq_some_iff.mp ey).1 nd).mp (ey.trans e.symm)
  omega
end
end U

namespace U
open PySem L2 PySem.Spec PyProof.Rows
section
variable {K : PySem.W.Frag} {σ : L2.St} {H : Hp} {a : Addr} {vs : List V} {g : TG} {tb : TS} {D : Ends}
/-- for x in a list or a tuple -/
theorem for_sq (e : H a = some (.lst vs) ∨ H a = some (.tup vs)) (Pv : Nat → L2.St → Hp → Prop) (h0 : Pv 0 σ H) (hG : ∀ i σ' H', Pv i σ' H' → ∀ o, H a = some o → H' a = some o)
    (hs : ∀ i x σ' H', vs[i]? = some x → Pv i σ' H' → g x σ' H' fun σ2 H2 => tb { D with nx := Pv (i + 1), ct := Pv (i + 1), bk := D.nx } σ2 H2) (hd : ∀ σ' H', Pv vs.length σ' H' → D.nx σ' H') :
    ∃ a', V.ref a = .ref a' ∧ (((∃ xs, SqL K H a' xs) ∧ ∃ W : Nat → Nat → L2.St → Hp → Prop, (∃ m, W 0 m σ H) ∧ ∀ i m σ H, W i m σ H →
      ((Itl K a').stop i H ∧ D.nx σ H) ∨ ((Itl K a').go i H ∧ ∃ N : L2.St → Hp → Prop, (∀ σ' H', N σ' H' → ∃ m', m' < m ∧ W (i + 1) m' σ' H') ∧ ∀ x H', (Itl K a').yld i H x H' → g x σ H' fun σ2 H2 => tb { D with nx := N, ct := N, bk := D.nx } σ2 H2)) ∨
      ((∃ xs, SqT K H a' xs) ∧ ∃ W : Nat → Nat → L2.St → Hp → Prop, (∃ m, W 0 m σ H) ∧ ∀ i m σ H, W i m σ H →
      ((Itt K a').stop i H ∧ D.nx σ H) ∨ ((Itt K a').go i H ∧ ∃ N : L2.St → Hp → Prop, (∀ σ' H', N σ' H' → ∃ m', m' < m ∧ W (i + 1) m' σ' H') ∧ ∀ x H', (Itt K a').yld i H x H' → g x σ H' fun σ2 H2 => tb { D with nx := N, ct := N, bk := D.nx } σ2 H2))) := by
  refine ⟨a, rfl, ?_⟩
  rcases e with e | e
  · refine Or.inl ⟨⟨vs, SqL.of e⟩, for_it (walk_list (xs := vs)) Pv h0 (fun i σ' H' _ p => SqL.of (hG i σ' H' p _ e)) (fun i x σ' H1 H2 hi p y => ?_) hd⟩
    obtain ⟨rfl, ex⟩ := y
    exact hs i x σ' H2 ex p
  · refine Or.inr ⟨⟨vs, SqT.of e⟩, for_it (walk_tup (xs := vs)) Pv h0 (fun i σ' H' _ p => SqT.of (hG i σ' H' p _ e)) (fun i x σ' H1 H2 hi p y => ?_) hd⟩
    obtain ⟨rfl, ex⟩ := y
    exact hs i x σ' H2 ex p
theorem for_L (e : H a = some (.lst vs)) (Pv : Nat → L2.St → Hp → Prop) (h0 : Pv 0 σ H) (hG : ∀ i σ' H', Pv i σ' H' → ∀ o, H a = some o → H' a = some o)
    (hs : ∀ i x σ' H', vs[i]? = some x → Pv i σ' H' → g x σ' H' fun σ2 H2 => tb { D with nx := Pv (i + 1), ct := Pv (i + 1), bk := D.nx } σ2 H2) (hd : ∀ σ' H', Pv vs.length σ' H' → D.nx σ' H') :
    ∃ W : Nat → Nat → L2.St → Hp → Prop, (∃ m, W 0 m σ H) ∧ ∀ i m σ H, W i m σ H →
      ((Itl K a).stop i H ∧ D.nx σ H) ∨ ((Itl K a).go i H ∧ ∃ N : L2.St → Hp → Prop, (∀ σ' H', N σ' H' → ∃ m', m' < m ∧ W (i + 1) m' σ' H') ∧ ∀ x H', (Itl K a).yld i H x H' → g x σ H' fun σ2 H2 => tb { D with nx := N, ct := N, bk := D.nx } σ2 H2) :=
  for_it (walk_list (xs := vs)) Pv h0 (fun i σ' H' _ p => SqL.of (hG i σ' H' p _ e)) (fun i x σ' H1 H2 hi p y => by
    obtain ⟨rfl, ex⟩ := y
    exact hs i x σ' H2 ex p) hd
/-- for j, x in enumerate(tuple): the pair T is new -/
theorem for_eT (e : H a = some (.tup vs)) (Pv : Nat → L2.St → Hp → Prop) (h0 : Pv 0 σ H) (hG : ∀ i σ' H', Pv i σ' H' → ∀ xs, H a = some (.tup xs) → H' a = some (.tup xs))
    (hs : ∀ i x σ' H' T H2, vs[i]? = some x → Pv i σ' H' → H' T = none → H2 T = some (.tup [.int (i : Nat), x]) → Kp [] H' H2 → g (.ref T) σ' H2 fun σ2 H3 => tb { D with nx := Pv (i + 1), ct := Pv (i + 1), bk := D.nx } σ2 H3) (hd : ∀ σ' H', Pv vs.length σ' H' → D.nx σ' H') :
    ∃ W : Nat → Nat → L2.St → Hp → Prop, (∃ m, W 0 m σ H) ∧ ∀ i m σ H, W i m σ H →
      ((IteT K a).stop i H ∧ D.nx σ H) ∨ ((IteT K a).go i H ∧ ∃ N : L2.St → Hp → Prop, (∀ σ' H', N σ' H' → ∃ m', m' < m ∧ W (i + 1) m' σ' H') ∧ ∀ x H', (IteT K a).yld i H x H' → g x σ H' fun σ2 H2 => tb { D with nx := N, ct := N, bk := D.nx } σ2 H2) :=
  for_it (walk_enumT (xs := vs)) Pv h0 (fun i σ' H' _ p => SqT.of (hG i σ' H' p _ e)) (fun i x σ' H1 H2 hi p y => by
    obtain ⟨T, x1, x2, rfl, f, rfl, e1, e2⟩ := y
    cases Option.some.inj e1
    exact hs i x2 σ' H1 T _ e2 p f upd_same (Kp.refl.new f)) hd
theorem for_eL (e : H a = some (.lst vs)) (Pv : Nat → L2.St → Hp → Prop) (h0 : Pv 0 σ H) (hG : ∀ i σ' H', Pv i σ' H' → ∀ o, H a = some o → H' a = some o)
    (hs : ∀ i x σ' H' T H2, vs[i]? = some x → Pv i σ' H' → H' T = none → H2 T = some (.tup [.int (i : Nat), x]) → Kp [] H' H2 → g (.ref T) σ' H2 fun σ2 H3 => tb { D with nx := Pv (i + 1), ct := Pv (i + 1), bk := D.nx } σ2 H3) (hd : ∀ σ' H', Pv vs.length σ' H' → D.nx σ' H') :
    ∃ W : Nat → Nat → L2.St → Hp → Prop, (∃ m, W 0 m σ H) ∧ ∀ i m σ H, W i m σ H →
      ((Ite K a).stop i H ∧ D.nx σ H) ∨ ((Ite K a).go i H ∧ ∃ N : L2.St → Hp → Prop, (∀ σ' H', N σ' H' → ∃ m', m' < m ∧ W (i + 1) m' σ' H') ∧ ∀ x H', (Ite K a).yld i H x H' → g x σ H' fun σ2 H2 => tb { D with nx := N, ct := N, bk := D.nx } σ2 H2) :=
  for_it (walk_enum (xs := vs)) Pv h0 (fun i σ' H' _ p => SqL.of (hG i σ' H' p _ e)) (fun i x σ' H1 H2 hi p y => by
    obtain ⟨T, x1, x2, rfl, f, rfl, e1, e2⟩ := y
    cases Option.some.inj e1
    exact hs i x2 σ' H1 T _ e2 p f upd_same (Kp.refl.new f)) hd
variable {tt : TT} {te : TE} {ns : List Nat} {A : Addr} {Qd : Hp → Prop} {Pv : Nat → List V → Hp → Prop}
/-- a comprehension over a tuple / a list -/
theorem lc_T (e : H a = some (.tup vs)) (hA : H A = none) (Pv : Nat → List V → Hp → Prop) (h0 : ∀ H', H' A = some (.lst []) → Kp [] H H' → Pv 0 [] H') (hG : ∀ i acc H', Pv i acc H' → ∀ xs, H a = some (.tup xs) → H' a = some (.tup xs))
    (hs : ∀ i x acc H', vs[i]? = some x → H' A = some (.lst acc) → Pv i acc H' → g x (wipe σ ns) H' fun σ2 H2 => wipe σ2 ns = wipe σ ns ∧ tt σ2 H2 fun b H3 =>
      if b = true then te σ2 H3 fun y H4 => ∃ acc, H4 A = some (.lst acc) ∧ acc.length < sizeLine ∧ PvD A Pv (i + 1) (upd H4 A (.lst (acc ++ [y]))) else PvD A Pv (i + 1) H3) (hd : ∀ acc H', H' A = some (.lst acc) → Pv vs.length acc H' → Qd H') :
    ∃ W : Nat → Nat → Hp → Prop, (∃ m, W 0 m (upd H A (.lst []))) ∧ ∀ i m H, W i m H →
      ((Itt K a).stop i H ∧ Qd H) ∨ ((Itt K a).go i H ∧ ∃ Nx : Hp → Prop, (∀ H', Nx H' → ∃ m', m' < m ∧ W (i + 1) m' H') ∧ ∀ x H', (Itt K a).yld i H x H' → g x (wipe σ ns) H' fun σ2 H2 => wipe σ2 ns = wipe σ ns ∧ tt σ2 H2 fun b H3 =>
        if b = true then te σ2 H3 fun y H4 => ∃ acc, H4 A = some (.lst acc) ∧ acc.length < sizeLine ∧ Nx (upd H4 A (.lst (acc ++ [y]))) else Nx H3) :=
  lc_it (walk_tup (xs := vs)) (PvD A Pv) (PvD.begin hA h0) (fun i H' _ p => by
    obtain ⟨acc, _, p⟩ := p
    exact SqT.of (hG i acc H' p _ e)) (fun i x H1 H2 hi p y => by
    obtain ⟨rfl, ex⟩ := y
    obtain ⟨acc, ea, p⟩ := p
    exact hs i x acc H2 ex ea p) (fun H' p => by
    obtain ⟨acc, ea, p⟩ := p
    exact hd acc H' ea p)
theorem lc_L (e : H a = some (.lst vs)) (hA : H A = none) (Pv : Nat → List V → Hp → Prop) (h0 : ∀ H', H' A = some (.lst []) → Kp [] H H' → Pv 0 [] H') (hG : ∀ i acc H', Pv i acc H' → ∀ o, H a = some o → H' a = some o)
    (hs : ∀ i x acc H', vs[i]? = some x → H' A = some (.lst acc) → Pv i acc H' → g x (wipe σ ns) H' fun σ2 H2 => wipe σ2 ns = wipe σ ns ∧ tt σ2 H2 fun b H3 =>
      if b = true then te σ2 H3 fun y H4 => ∃ acc, H4 A = some (.lst acc) ∧ acc.length < sizeLine ∧ PvD A Pv (i + 1) (upd H4 A (.lst (acc ++ [y]))) else PvD A Pv (i + 1) H3) (hd : ∀ acc H', H' A = some (.lst acc) → Pv vs.length acc H' → Qd H') :
    ∃ W : Nat → Nat → Hp → Prop, (∃ m, W 0 m (upd H A (.lst []))) ∧ ∀ i m H, W i m H →
      ((Itl K a).stop i H ∧ Qd H) ∨ ((Itl K a).go i H ∧ ∃ Nx : Hp → Prop, (∀ H', Nx H' → ∃ m', m' < m ∧ W (i + 1) m' H') ∧ ∀ x H', (Itl K a).yld i H x H' → g x (wipe σ ns) H' fun σ2 H2 => wipe σ2 ns = wipe σ ns ∧ tt σ2 H2 fun b H3 =>
        if b = true then te σ2 H3 fun y H4 => ∃ acc, H4 A = some (.lst acc) ∧ acc.length < sizeLine ∧ Nx (upd H4 A (.lst (acc ++ [y]))) else Nx H3) :=
  lc_it (walk_list (xs := vs)) (PvD A Pv) (PvD.begin hA h0) (fun i H' _ p => by
    obtain ⟨acc, _, p⟩ := p
    exact SqL.of (hG i acc H' p _ e)) (fun i x H1 H2 hi p y => by
    obtain ⟨rfl, ex⟩ := y
    obtain ⟨acc, ea, p⟩ := p
    exact hs i x acc H2 ex ea p) (fun H' p => by
    obtain ⟨acc, ea, p⟩ := p
    exact hd acc H' ea p)
theorem lc_eL (e : H a = some (.lst vs)) (hA : H A = none) (Pv : Nat → List V → Hp → Prop) (h0 : ∀ H', H' A = some (.lst []) → Kp [] H H' → Pv 0 [] H') (hG : ∀ i acc H', Pv i acc H' → ∀ o, H a = some o → H' a = some o)
    (hs : ∀ i x acc H' T H2, vs[i]? = some x → H' A = some (.lst acc) → Pv i acc H' → H' T = none → H2 T = some (.tup [.int (i : Nat), x]) → Kp [] H' H2 → g (.ref T) (wipe σ ns) H2 fun σ2 H2 => wipe σ2 ns = wipe σ ns ∧ tt σ2 H2 fun b H3 =>
      if b = true then te σ2 H3 fun y H4 => ∃ acc, H4 A = some (.lst acc) ∧ acc.length < sizeLine ∧ PvD A Pv (i + 1) (upd H4 A (.lst (acc ++ [y]))) else PvD A Pv (i + 1) H3) (hd : ∀ acc H', H' A = some (.lst acc) → Pv vs.length acc H' → Qd H') :
    ∃ W : Nat → Nat → Hp → Prop, (∃ m, W 0 m (upd H A (.lst []))) ∧ ∀ i m H, W i m H →
      ((Ite K a).stop i H ∧ Qd H) ∨ ((Ite K a).go i H ∧ ∃ Nx : Hp → Prop, (∀ H', Nx H' → ∃ m', m' < m ∧ W (i + 1) m' H') ∧ ∀ x H', (Ite K a).yld i H x H' → g x (wipe σ ns) H' fun σ2 H2 => wipe σ2 ns = wipe σ ns ∧ tt σ2 H2 fun b H3 =>
        if b = true then te σ2 H3 fun y H4 => ∃ acc, H4 A = some (.lst acc) ∧ acc.length < sizeLine ∧ Nx (upd H4 A (.lst (acc ++ [y]))) else Nx H3) :=
  lc_it (walk_enum (xs := vs)) (PvD A Pv) (PvD.begin hA h0) (fun i H' _ p => by
    obtain ⟨acc, _, p⟩ := p
    exact SqL.of (hG i acc H' p _ e)) (fun i x H1 H2 hi p y => by
    obtain ⟨T, x1, x2, rfl, f, rfl, e1, e2⟩ := y
    cases Option.some.inj e1
    obtain ⟨acc, ea, p⟩ := p
    exact hs i x2 acc H1 T _ e2 ea p f upd_same (Kp.refl.new f)) (fun H' p => by
    obtain ⟨acc, ea, p⟩ := p
    exact hd acc H' ea p)
/-- in range(n) -/
theorem lc_R {lo : Int} {n : Nat} (hA : H A = none) (Pv : Nat → List V → Hp → Prop) (h0 : ∀ H', H' A = some (.lst []) → Kp [] H H' → Pv 0 [] H')
    (hs : ∀ i acc H', i < n → H' A = some (.lst acc) → Pv i acc H' → g (.int (lo + i)) (wipe σ ns) H' fun σ2 H2 => wipe σ2 ns = wipe σ ns ∧ tt σ2 H2 fun b H3 =>
      if b = true then te σ2 H3 fun y H4 => ∃ acc, H4 A = some (.lst acc) ∧ acc.length < sizeLine ∧ PvD A Pv (i + 1) (upd H4 A (.lst (acc ++ [y]))) else PvD A Pv (i + 1) H3) (hd : ∀ acc H', H' A = some (.lst acc) → Pv n acc H' → Qd H') :
    ∃ W : Nat → Nat → Hp → Prop, (∃ m, W 0 m (upd H A (.lst []))) ∧ ∀ i m H, W i m H →
      ((Itr lo n).stop i H ∧ Qd H) ∨ ((Itr lo n).go i H ∧ ∃ Nx : Hp → Prop, (∀ H', Nx H' → ∃ m', m' < m ∧ W (i + 1) m' H') ∧ ∀ x H', (Itr lo n).yld i H x H' → g x (wipe σ ns) H' fun σ2 H2 => wipe σ2 ns = wipe σ ns ∧ tt σ2 H2 fun b H3 =>
        if b = true then te σ2 H3 fun y H4 => ∃ acc, H4 A = some (.lst acc) ∧ acc.length < sizeLine ∧ Nx (upd H4 A (.lst (acc ++ [y]))) else Nx H3) :=
  lc_it walk_range (PvD A Pv) (PvD.begin hA h0) (fun _ _ _ _ => trivial) (fun i x H1 H2 hi p y => by
    obtain ⟨rfl, rfl⟩ := y
    obtain ⟨acc, ea, p⟩ := p
    exact hs i acc H2 hi ea p) (fun H' p => by
    obtain ⟨acc, ea, p⟩ := p
    exact hd acc H' ea p)
theorem for_R {lo : Int} {n : Nat} (Pv : Nat → L2.St → Hp → Prop) (h0 : Pv 0 σ H)
    (hs : ∀ i σ' H', i < n → Pv i σ' H' → g (.int (lo + i)) σ' H' fun σ2 H2 => tb { D with nx := Pv (i + 1), ct := Pv (i + 1), bk := D.nx } σ2 H2) (hd : ∀ σ' H', Pv n σ' H' → D.nx σ' H') :
    ∃ W : Nat → Nat → L2.St → Hp → Prop, (∃ m, W 0 m σ H) ∧ ∀ i m σ H, W i m σ H →
      ((Itr lo n).stop i H ∧ D.nx σ H) ∨ ((Itr lo n).go i H ∧ ∃ N : L2.St → Hp → Prop, (∀ σ' H', N σ' H' → ∃ m', m' < m ∧ W (i + 1) m' σ' H') ∧ ∀ x H', (Itr lo n).yld i H x H' → g x σ H' fun σ2 H2 => tb { D with nx := N, ct := N, bk := D.nx } σ2 H2) :=
  for_it walk_range Pv h0 (fun _ _ _ _ _ => trivial) (fun i x σ' H1 H2 hi p y => by
    obtain ⟨rfl, rfl⟩ := y
    exact hs i σ' H2 hi p) hd
end
theorem pg_tupK {X : Cx} {K : PySem.W.Frag} {es : List Expr} {k n : Nat} {t : TGs} {pos : Pos} (hK : X.K = K) (hc : X.calm = true) (h : PGs X es t)
    (hn : (assignEach es X.env).length = n := by rfl) (hst : (assignEach es X.env).findIdx? (·.1) = none := by rfl) : PG X (.Tuple es k pos) (gTup K n t) := hK ▸ pg_tup hc h hn hst
theorem s_nameR {σ τ : L2.St} {H : Hp} {i : Nat} {v : V} {R : L2.St → Hp → Prop} (e : σ.set i (some v) = τ) (h : R τ H) : gName i v σ H R := by subst e; exact h
/-! rows: things that stand for tuples -/
inductive Rw (H : Hp) : List V → List (List V) → Prop
  | nil : Rw H [] []
  | cons {u : Addr} {r : List V} {vs : List V} {rs : List (List V)} : H u = some (.tup r) → Rw H vs rs → Rw H (.ref u :: vs) (r :: rs)
section
variable {H H1 : Hp} {vs ws : List V} {rs ss : List (List V)} {ps : List Addr}
theorem Rw.kp (h : Rw H vs rs) (k : Kp ps H H1) : Rw H1 vs rs := by
  induction h with
  | nil => exact .nil
  | cons e _ ih => exact .cons (k.tgt e) ih
theorem Rw.len (h : Rw H vs rs) : vs.length = rs.length := by
  induction h with
  | nil => rfl
  | cons e _ ih => simp [ih]
theorem Rw.app (h : Rw H vs rs) (g : Rw H ws ss) : Rw H (vs ++ ws) (rs ++ ss) := by
  induction h with
  | nil => exact g
  | cons e _ ih => exact .cons e ih
theorem Rw.one {u : Addr} {r : List V} (e : H u = some (.tup r)) : Rw H [.ref u] [r] := .cons e .nil
theorem Rw.at (h : Rw H vs rs) {i : Nat} {x : V} (e : vs[i]? = some x) : ∃ u r, x = .ref u ∧ rs[i]? = some r ∧ H u = some (.tup r) := by
  induction h generalizing i with
  | nil => simp at e
  | @cons u r vs rs e1 _ ih =>
    cases i with
    | zero => exact ⟨u, r, by simpa using e.symm, rfl, e1⟩
    | succ i => exact ih (by simpa using e)
theorem Rw.take (h : Rw H vs rs) (n : Nat) : Rw H (vs.take n) (rs.take n) := by
  induction h generalizing n with
  | nil => cases n <;> exact .nil
  | cons e _ ih => cases n with
    | zero => exact .nil
    | succ n => exact .cons e (ih n)
end
end U

namespace U
open PySem L2 PySem.Spec PyProof.Rows
theorem pg_lstK {X : Cx} {K : PySem.W.Frag} {es : List Expr} {k n : Nat} {t : TGs} {pos : Pos} (hK : X.K = K) (hc : X.calm = true) (h : PGs X es t)
    (hn : (assignEach es X.env).length = n := by rfl) (hst : (assignEach es X.env).findIdx? (·.1) = none := by rfl) : PG X (.Tuple es k pos) (gLst K n t) := hK ▸ pg_lst hc h hn hst
theorem s_glu {K : PySem.W.Frag} {σ : L2.St} {H : Hp} {p : Addr} {xs : List V} {R : L2.St → Hp → Prop} {t : TGs} {k : Nat} (h : H p = some (.lst xs)) (hl : xs.length = k) (q : t xs σ H R) : gLst K k t (.ref p) σ H R := ⟨p, xs, rfl, SqL.of h, hl, q⟩
theorem at_head {xs : List V} {v : V} : atI (xs ++ [v]) 0 = some (xs.head?.getD v) := by
  cases xs with
  | nil => rfl
  | cons x r =>
    unfold atI ixN
    rw [if_pos (by decide), if_pos (by simp; omega)]
    rfl
/-! texts by their signs -/
def S (cs : List Nat) : Str := ⟨cs.toArray⟩
theorem S_of (z : Str) : S z.cps.toList = z := by
  unfold S; simp
theorem S_len (cs : List Nat) : (S cs).length = cs.length := by simp [S, Str.length]
theorem S_app (a b : List Nat) : S a ++ S b = S (a ++ b) := Str.ext' (by simp [S, Str.cps_append])
theorem S_inj {a b : List Nat} (h : S a = S b) : a = b := by
  have := congrArg (fun z : Str => z.cps.toList) h
  simpa [S] using this
theorem S_cps (cs : List Nat) : (S cs).cps.toList = cs := by simp [S]
theorem S_cut (cs : List Nat) (lo hi : Option Int) : cutS (S cs) lo hi = S ((cs.drop (HT.sIx cs.length 0 lo)).take (HT.sIx cs.length cs.length hi - HT.sIx cs.length 0 lo)) := by
  unfold cutS
  rw [S_cps, S_len]
  rfl
theorem S_pre (cs : List Nat) {n : Int} (h0 : 0 ≤ n) : cutS (S cs) none (some n) = S (cs.take n.toNat) := by
  rw [S_cut]
  congr 1
  obtain ⟨k, rfl⟩ := Int.eq_ofNat_of_zero_le h0
  rw [HT.sIx_none, HT.sIx_nat, List.drop_zero]
  simp
theorem S_mid (cs : List Nat) {n m : Int} (h0 : 0 ≤ n) (h1 : 0 ≤ m) : cutS (S cs) (some n) (some m) = S ((cs.drop n.toNat).take (m.toNat - n.toNat)) := by
  rw [S_cut]
  congr 1
  obtain ⟨k, rfl⟩ := Int.eq_ofNat_of_zero_le h0
  obtain ⟨l, rfl⟩ := Int.eq_ofNat_of_zero_le h1
  rw [HT.sIx_nat, HT.sIx_nat]
  simp only [Int.toNat_natCast]
  apply List.ext_getElem?
  intro i
  simp only [List.getElem?_take, List.getElem?_drop]
  by_cases c : k + i < cs.length
  · have e1 : min k cs.length = k := by omega
    rw [e1]
    by_cases d : i < l - k
    · rw [if_pos (by omega), if_pos d]
    · rw [if_neg (by omega), if_neg d]
  · have e2 : cs[k + i]? = none := List.getElem?_eq_none (by omega)
    have e3 : cs[min k cs.length + i]? = none := List.getElem?_eq_none (by omega)
    rw [e2, e3]
    split <;> split <;> rfl
theorem S_join (cs : List Nat) : Txt.join (Str.ofString "") (cs.map fun c => ⟨#[c]⟩) = S cs := join_ones cs
theorem SS.S {cs : List Nat} {n : Nat} (h : cs.length ≤ n) (g : ∀ c ∈ cs, c < 1114112) : SS (S cs) n := ⟨by rw [S_len]; exact h, by rw [S_cps]; exact g⟩
theorem range_snoc {α : Type} (f : Nat → α) (i : Nat) : (List.range (i + 1)).map f = (List.range i).map f ++ [f i] := by
  rw [List.range_succ, List.map_append]
  rfl
theorem range_nodup {f : Nat → Str} {n : Nat} (h : ∀ i j, i < n → j < n → f i = f j → i = j) : ((List.range n).map f).Nodup := by
  rw [List.nodup_iff_pairwise_ne, List.pairwise_map]
  refine List.Pairwise.imp_of_mem ?_ (List.nodup_iff_pairwise_ne.mp List.nodup_range)
  intro a b ha hb hne e
  exact hne (h a b (List.mem_range.mp ha) (List.mem_range.mp hb) e)
section
variable {H : Hp} {ps : List Addr} {l : Addr} {vs : List V} {rs : List (List V)}
theorem hid_le : Kp [] (hid ps H) H := ⟨fun b o e _ => (hid_some e).1, fun b i ⟨o, e, r⟩ => ⟨o, (hid_some e).1, r⟩, fun b xs e => (hid_some e).1⟩
theorem hid_tup {b : Addr} {xs : List V} (e : H b = some (.tup xs)) (t : Th H l 0) : hid [l] H b = some (.tup xs) := hid_of e (by simpa using (Th.tup e).nk t rfl)
theorem Rw.hid (h : Rw H vs rs) (t : Th H l 0) : Rw (U.hid [l] H) vs rs := by
  induction h with
  | nil => exact .nil
  | cons e _ ih => exact .cons (hid_tup e t) ih
theorem cut_sub {lo hi : Option Int} {v : V} (h : v ∈ cutV vs lo hi) : v ∈ vs := List.mem_of_mem_drop (List.mem_of_mem_take h)
end
end U

namespace U
open PySem L2 PySem.Spec PyProof.Rows
/-! list(range(a, b)) -/
section
variable {X : Cx} {K : PySem.W.Frag} {H : Hp} {Q : VK} {p : Addr} {i j : Int}
def rngV (i : Int) (n : Nat) : List V := (List.range n).map fun k => V.int (i + (k : Nat))
def uRange : List V → Hp → VK → Prop := fun vs H Q => ∃ i j, vs = [V.int i, V.int j] ∧ ∀ p, H p = none → Q (.ref p) (upd H p (.rng i j))
theorem c_range2 : CallR X (.type "range") uRange := cr_range2
def uListR : List V → Hp → VK → Prop := fun xs H Q => ∃ p i j, xs = [.ref p] ∧ H p = some (.rng i j) ∧ -(2 ^ 30) ≤ i ∧ i < 2 ^ 30 ∧ -(2 ^ 30) ≤ j ∧ j < 2 ^ 30 ∧ (j - i).toNat ≤ 2 ^ 20 ∧ ∀ l, H l = none → Q (.ref l) (upd H l (.lst (rngV i (j - i).toNat)))
theorem c_listR (hc : X.calm = true) : CallR X (.type "list") uListR := by
  intro pins s σ H xs us Q I r h
  obtain ⟨p, i, j, rfl, hp, i0, i1, j0, j1, hn, q⟩ := h
  obtain ⟨u, eu, rx⟩ := vals1 r
  subst eu
  obtain rfl : u = Value.ref p := rx
  obtain ⟨t, u, v, e⟩ := (show ObjOk X.prog X.w H s.heap p (.rng i j) from I.hok p _ hp)
  have hsm : Builtin.Range.small i j 1 = true := small_one (by omega) (by omega) (by omega) (by omega)
  have hsz : Builtin.Range.rangeSize i j 1 = (j - i).toNat := by
    unfold Builtin.Range.rangeSize
    simp
    split <;> omega
  refine call_list_range (I.ok.hd hc) e hsm hsz (Nat.le_trans hn (by decide)) fun h' tk acc' c' hk hS hacc => ?_
  refine ⟨.ref s.heap.objs.size, upd H s.heap.objs.size (.lst (rngV i (j - i).toNat)), I.laid hk (Nat.le_refl _) (show ObjOk X.prog X.w _ _ _ (.lst (rngV i (j - i).toNat)) from ⟨?_, acc'.toList, c', ?_, ?_⟩), rfl, q _ (I.hok.fresh (Nat.le_refl _))⟩
  · rw [rngV, List.length_map, List.length_range]
    exact Nat.le_trans hn (by decide)
  · refine vals_of_at (by rw [rngV, List.length_map, List.length_range, Array.length_toList, hacc.1]) fun m x w h1 h2 => ?_
    obtain ⟨tk', ew⟩ := hacc.2 m w (by rw [← Array.getElem?_toList]; exact h2)
    rw [rngV, List.getElem?_map] at h1
    obtain ⟨m', e1, rfl⟩ := Option.map_eq_some_iff.mp h1
    have : m' = m := by
      have hm := (List.getElem?_eq_some_iff.mp e1)
      obtain ⟨h3, h4⟩ := hm
      rw [List.getElem_range] at h4
      exact h4.symm
    subst this
    refine ⟨tk', ?_⟩
    rw [ew]
    congr 1
    omega
  · simpa using hS
theorem s_rngN (q : ∀ p H', H p = none → H' p = some (.rng i j) → Kp [] H H' → Q (.ref p) H') : uRange [.int i, .int j] H Q := ⟨i, j, rfl, new_abs (R := fun p H' => Q (.ref p) H') q⟩
theorem s_listR (h : H p = some (.rng i j)) (b : -(2 ^ 30) ≤ i ∧ i < 2 ^ 30 ∧ -(2 ^ 30) ≤ j ∧ j < 2 ^ 30 ∧ (j - i).toNat ≤ 2 ^ 20) (q : ∀ l H', H l = none → H' l = some (.lst (rngV i (j - i).toNat)) → Kp [] H H' → Q (.ref l) H') : uListR [.ref p] H Q :=
  ⟨p, i, j, rfl, h, b.1, b.2.1, b.2.2.1, b.2.2.2.1, b.2.2.2.2, new_abs (R := fun p H' => Q (.ref p) H') q⟩
end
end U

namespace U
open PySem L2 PySem.Spec PyProof.Rows
/-! C(e, ..), the last one left out (its default is None) -/
section
variable {X : Cx} {k : Nat} {f C : Addr} {fd : FuncData} {ps : List Str} {sp : Sp} {W : WX} {x : Str} {p pos : Pos} {e : Expr} {es : List Expr} {t : TA}
variable {pi : List (Addr × Obj)} {σ : L2.St} {H : Hp} {s : Shared} {Q : VK} {us : List Value} {vs : List V}
def tNwD (C : Addr) (sp : Sp) (W : WX) (t : TA) : TE := fun σ H Q => t σ H fun vs H1 => NewK C sp (fun cls d H' => W cls d σ H') Q (vs ++ [.non]) H1
theorem run_nwD (M : Mk X.K C f) (F : FnOk X.prog X.w X.K X.mg X.base (L2.CX X.prog X.w) k f fd ps sp) (hr : Room (k + 1) X.A) (hb : Binds X.K fd ps [.none]) (tk : Takes X W) (I : Inv X pi σ H s) (r : Vals vs us)
    (h : NewK C sp (fun cls d H' => W cls d σ H') Q (vs ++ [.non]) H) : wpAny (model X.prog X.w) X.A (call (.ref C) us) (EP X pi σ Q) X.xe s := by
  have n1 : H (s.heap.objs.size + 1) = none := I.hok.fresh (Nat.le_succ _)
  have n0 : H s.heap.objs.size = none := I.hok.fresh (Nat.le_refl _)
  have hq := h (s.heap.objs.size + 1) s.heap.objs.size _ n1 upd_same ((Kp.refl.new (u := .own (s.heap.objs.size + 1)) n0).new (by rw [upd_ne (Nat.succ_ne_self _)]; exact n1))
  have I2 := Inv.made (C := C) I
  have r2 : Vals (V.ref (s.heap.objs.size + 1) :: (vs ++ [.non])) (Value.ref (s.heap.objs.size + 1) :: us ++ [.none]) := .cons rfl (r.append (.cons rfl .nil))
  have b : BindsTo _ fd ⟨Value.ref (s.heap.objs.size + 1) :: us, []⟩ (ps.zip (Value.ref (s.heap.objs.size + 1) :: us ++ [.none])) := hb _ (Value.ref (s.heap.objs.size + 1) :: us) I2.kIn (by rw [← r2.length]; exact F.len _ _ _ _ hq)
  refine wpAny_call (make_map (f := f) I.kIn M.makes M.init (beq_iff_eq.mp M.fn) (codeAny_mono (F.run _ X.stack _ _ ⟨Value.ref (s.heap.objs.size + 1) :: us, []⟩ (Value.ref (s.heap.objs.size + 1) :: us ++ [.none]) _ _ _ (hr.make C us [])
    (I2.env0.make C us []) b r2 hq) fun rr s' z => ?_))
  match rr, z with
  | .error er, z => exact tk er s' (XE.of_call I2 (fun _ _ _ y => y) z)
  | .ok (.ret u), z =>
    obtain ⟨v, H', I3, rv, ev, q3⟩ := I2.after z
    subst ev
    exact ⟨rv, ⟨V.ref (s.heap.objs.size + 1), H', I3, rfl, q3⟩⟩
  | .ok .next, z => exact z.elim
  | .ok .brk, z => exact z.elim
  | .ok .cont, z => exact z.elim
theorem pe_nwD (M : Mk X.K C f) (F : FnOk X.prog X.w X.K X.mg X.base (L2.CX X.prog X.w) k f fd ps sp) (hr : Room (k + 1) X.A) (gl : Gl X x) (hm : X.mg x = some (.ref C)) (hb : Binds X.K fd ps [.none]) (tk : Takes X W)
    (ha : PA X (e :: es) t) (h1 : (x == ("__debug__" : Str)) = false := by decide) (h2 : starEach (e :: es) X.env = (false, eval e X.env) :: starEach es X.env := by rfl) (h3 : (backTo pos (starEach es X.env)).any (·.1) = false := by rfl) :
    PE X (.Call (.Name x p) (e :: es) [] pos) (tNwD C sp W t) := by
  refine ⟨fun pi s σ H Q I h => wpAny_Call_Name_kw (ld_glob I gl hm ?_ h1)⟩
  refine PySem.W.callWith_K (h₀ := X.base) I.ok.mod.kin M.kp (thn (ha.run pos pi s σ H _ I h) ?_) h2 h3
  rintro us s1 ⟨vs, H1, I1, r, q⟩
  exact ⟨I1.kIn, run_nwD M F hr hb tk I1 r q⟩
theorem s_nwD {C : Addr} {sp : Sp} {W : WX} {t : TA} {σ : L2.St} {H : Hp} {Q : VK} (h : t σ H fun vs H1 => NewK C sp (fun cls d H' => W cls d σ H') Q (vs ++ [.non]) H1) : tNwD C sp W t σ H Q := h
end
theorem s_clear {H : Hp} {Q : VK} {p : Addr} {xs : List V} (h : H p = some (.lst xs)) (q : ∀ H', H' p = some (.lst []) → Kp [p] H H' → Q .non H') : rClear (.ref p) [] H Q := ⟨p, xs, rfl, rfl, h, put_abs h rfl (R := fun H' => Q .non H') q⟩
end U

namespace U
open PySem L2 PySem.Spec PyProof.Rows
/-! things that are data, by the places of their lists and dicts -/
section
variable {K : PySem.W.Frag} {H H1 H2 : Hp} {F G ps qs : List Addr} {a b p : Addr} {v y : V} {d e : PyData} {xs ys : List V} {ds : List PyData} {kvs : List (Key × V)}
def isTu : HO → Bool | .tup _ => true | _ => false
/-- the tuples, and what stands at F -/
def vis (F : List Addr) (H : Hp) : Hp := fun a => match H a with | none => none | some o => if isTu o = true ∨ a ∈ F then some o else none
theorem vis_some {o : HO} (h : vis F H a = some o) : H a = some o ∧ (isTu o = true ∨ a ∈ F) := by
  unfold vis at h
  cases e : H a with
  | none => rw [e] at h; cases h
  | some o' =>
    rw [e] at h
    simp only at h
    split at h
    · cases h; rename_i c; exact ⟨rfl, c⟩
    · cases h
theorem vis_of {o : HO} (h : H a = some o) (c : isTu o = true ∨ a ∈ F) : vis F H a = some o := by
  unfold vis
  rw [h]
  simp only
  rw [if_pos c]
theorem vis_tup (h : H a = some (.tup xs)) : vis F H a = some (.tup xs) := vis_of h (Or.inl rfl)
theorem ko_tu {o u : HO} (h : ko o = ko u) (c : isTu o = true) : isTu u = true := by
  cases o <;> simp [isTu] at c
  cases u <;> simp [ko, isTu] at h ⊢
theorem vis_kp (k : Kp ps H H1) (n : ∀ a ∈ ps, a ∉ F) : Kp [] (vis F H) (vis F H1) := ⟨fun b o e _ => by
  obtain ⟨e1, c⟩ := vis_some e
  rcases c with c | c
  · cases o <;> simp [isTu] at c
    exact vis_tup (k.tp b _ e1)
  · exact vis_of (k.get e1 fun m => n b m c) (Or.inr c), fun b i e => by
  obtain ⟨o, e, r⟩ := e
  obtain ⟨e1, c⟩ := vis_some e
  obtain ⟨o', e', r'⟩ := k.kd b i ⟨o, e1, r⟩
  exact ⟨o', vis_of e' (c.imp (fun z => ko_tu (r.trans r'.symm) z) id), r'⟩, fun b xs e => vis_tup (k.tp b xs (vis_some e).1)⟩
theorem vis_le : Kp [] (vis F H) H := ⟨fun b o e _ => (vis_some e).1, fun b i ⟨o, e, r⟩ => ⟨o, (vis_some e).1, r⟩, fun b xs e => (vis_some e).1⟩
theorem vis_mono (h : ∀ a ∈ F, a ∈ G) : Kp [] (vis F H) (vis G H) := ⟨fun b o e _ => by
  obtain ⟨e1, c⟩ := vis_some e
  exact vis_of e1 (c.imp id (h b)), fun b i ⟨o, e, r⟩ => by
  obtain ⟨e1, c⟩ := vis_some e
  exact ⟨o, vis_of e1 (c.imp id (h b)), r⟩, fun b xs e => vis_tup (vis_some e).1⟩
/-- a thing, its lists and dicts at F -/
inductive Od (K : PySem.W.Frag) (H : Hp) : V → PyData → List Addr → Prop
  | flat {v : V} {d : PyData} {F : List Addr} {kd : Kd} : Dn K (vis F H) v d → TyN H v kd → kd.isList = false → kd.isDict = false → Od K H v d F
  | lst {a : Addr} {xs : List V} {ds : List PyData} {F : List Addr} : H a = some (.lst xs) → a ∉ F → DnA K (vis F H) xs ds → Od K H (.ref a) (.list ds) (a :: F)
  | dic {a : Addr} {kvs : List (Key × V)} {ds : List PyData} {F : List Addr} : H a = some (.dK kvs) → a ∉ F → DnA K (vis F H) (kvs.map (·.2)) ds → Od K H (.ref a) (.dict ((kvs.map fun p => keyD p.1).zip ds)) (a :: F)
theorem TyN.kpt {kd : Kd} (h : TyN H v kd) (h1 : kd.isList = false) (h2 : kd.isDict = false) (k : Kp ps H H1) : TyN H1 v kd := by
  cases h with
  | non => exact .non
  | bl => exact .bl
  | int => exact .int
  | str => exact .str
  | lst e => cases h1
  | tup e => exact .tup (k.tp _ _ e)
  | dic e => cases h2
theorem Od.kpn (h : Od K H v d F) (k : Kp ps H H1) (n : ∀ a ∈ ps, a ∉ F) : Od K H1 v d F := by
  cases h with
  | flat a b c e => exact .flat (a.kp (vis_kp k n)) (b.kpt c e k) c e
  | lst a b c => exact .lst (k.get a fun m => n _ m List.mem_cons_self) b (c.kp (vis_kp k fun x m z => n x m (List.mem_cons_of_mem _ z)))
  | dic a b c => exact .dic (k.get a fun m => n _ m List.mem_cons_self) b (c.kp (vis_kp k fun x m z => n x m (List.mem_cons_of_mem _ z)))
theorem Od.kp (h : Od K H v d F) (k : Kp [] H H1) : Od K H1 v d F := h.kpn k (by simp)
theorem Od.dnv (h : Od K H v d F) : Dn K (vis F H) v d := by
  cases h with
  | flat a b c e => exact a
  | lst a b c => exact .lst (Or.inl (vis_of a (Or.inr List.mem_cons_self))) (c.kp (vis_mono fun x m => List.mem_cons_of_mem _ m))
  | dic a b c => exact .dic (Or.inl (vis_of a (Or.inr List.mem_cons_self))) (c.kp (vis_mono fun x m => List.mem_cons_of_mem _ m))
theorem Od.dn (h : Od K H v d F) : Dn K H v d := h.dnv.kp vis_le
theorem Od.ty (h : Od K H v d F) : ∃ kd, TyN H v kd := by
  cases h with
  | flat a b c e => exact ⟨_, b⟩
  | lst a b c => exact ⟨_, .lst a⟩
  | dic a b c => exact ⟨_, .dic a⟩
theorem Od.int {i : Int} : Od K H (.int i) (.int i) [] := .flat (.int _) .int rfl rfl
theorem Od.non : Od K H .non .none [] := .flat .non .non rfl rfl
theorem Od.bl {i : Bool} : Od K H (.bl i) (.bool i) [] := .flat (.bl _) .bl rfl rfl
theorem Od.str {i : Str} : Od K H (.str i) (.str i) [] := .flat (.str _) .str rfl rfl
theorem Od.tup (h : H a = some (.tup xs)) (g : DnA K (vis F H) xs ds) : Od K H (.ref a) (.tuple ds) F := .flat (.tup (SqT.of (vis_tup h)) g) (.tup h) rfl rfl
theorem DnA.app : ∀ {xs ys : List V} {ds es : List PyData}, DnA K H xs ds → DnA K H ys es → DnA K H (xs ++ ys) (ds ++ es)
  | _, _, _, _, .nil, h => h
  | _, _, _, _, .cons a b, h => .cons a (DnA.app b h)
theorem Od.more {dy : PyData} (e : H1 a = some (.lst (xs ++ [y]))) (n : a ∉ F) (c : DnA K (vis F H) xs ds) (k : Kp [a] H H1) (hy : ∀ H, Dn K H y dy) : Od K H1 (.ref a) (.list (ds ++ [dy])) (a :: F) :=
  .lst e n ((c.kp (vis_kp k (by simpa using n))).app (.cons (hy _) .nil))
/-- what repr may show -/
structure Bd (d : PyData) (n : Nat) : Prop where
  good : U.good d
  depth : d.depth ≤ 90
  sz : U.sz d ≤ n
theorem Bd.mono {n m : Nat} (h : Bd d n) (e : n ≤ m) : Bd d m := ⟨h.good, h.depth, Nat.le_trans h.sz e⟩
theorem Bd.sh {n : Nat} (h : Bd d n) (g : Dn K H v d) (e : n ≤ 16000000) : Sh K H v d := ⟨g, h.good, Nat.le_trans h.depth (by decide), Nat.le_trans h.sz e⟩
theorem good_app : ∀ {ds es : List PyData}, goodA ds → goodA es → goodA (ds ++ es)
  | [], _, _, h => h
  | _ :: _, _, ⟨a, b⟩, h => ⟨a, good_app b h⟩
theorem depth_app : ∀ (ds es : List PyData), PyData.depthAll (ds ++ es) = max (PyData.depthAll ds) (PyData.depthAll es)
  | [], es => by simp [PyData.depthAll]
  | d :: ds, es => by
    rw [List.cons_append, PyData.depthAll, PyData.depthAll, depth_app ds es]
    omega
theorem sz_app : ∀ (ds es : List PyData), szA (ds ++ es) = szA ds + szA es
  | [], es => by simp [szA]
  | d :: ds, es => by
    rw [List.cons_append, szA, szA, sz_app ds es]
    omega
theorem Bd.more {n m : Nat} (h : Bd (.list ds) n) (g : Bd e m) (z : e.depth ≤ 80) : Bd (.list (ds ++ [e])) (n + m + 2) := by
  obtain ⟨h1, h2, h3⟩ := h
  obtain ⟨g1, g2, g3⟩ := g
  refine ⟨good_app h1 ⟨g1, trivial⟩, ?_, ?_⟩
  · simp only [PyData.depth, depth_app, PyData.depthAll] at h2 ⊢
    omega
  · simp only [U.sz, sz_app, szA] at h3 ⊢
    omega
theorem Bd.int {i : Int} (h : i.natAbs < 10 ^ 100) : Bd (.int i) 102 := ⟨h, by simp [PyData.depth], by simp [U.sz]⟩
theorem Bd.non : Bd .none 4 := ⟨trivial, by simp [PyData.depth], by simp [U.sz]⟩
theorem Bd.bl {i : Bool} : Bd (.bool i) 5 := ⟨trivial, by simp [PyData.depth], by simp [U.sz]⟩
theorem Bd.str {z : Str} {n : Nat} (h : SS z n) : Bd (.str z) (10 * n + 2) := ⟨fun c hc => Nat.lt_trans (h.ok c hc) (by decide), by simp [PyData.depth], by have := h.len; simp only [U.sz]; omega⟩
end
end U

namespace U
open PySem L2 PySem.Spec PyProof.Rows
/-! range(n) as a value; whole numbers in lists -/
section
variable {X : Cx} {K : PySem.W.Frag} {H : Hp} {Q : VK} {p : Addr} {i j : Int} {ns : List Int}
def uRange1 : List V → Hp → VK → Prop := fun vs H Q => ∃ j, vs = [V.int j] ∧ ∀ p, H p = none → Q (.ref p) (upd H p (.rng 0 j))
theorem c_range1 : CallR X (.type "range") uRange1 := by
  intro pins s σ H vs us Q I r h
  obtain ⟨j, rfl, q⟩ := h
  obtain ⟨u1, rfl, rj⟩ := vals1 r
  obtain ⟨u, rfl⟩ := rj
  refine call_range_1 ⟨.ref s.heap.objs.size, upd H s.heap.objs.size (.rng 0 j), I.laid (t' := s.toks + 1 + 1) (fun b o e => Heap.get?_push_of_some _ e) (Nat.le_refl _) ?_, rfl, q _ (I.hok.fresh (Nat.le_refl _))⟩
  exact ⟨s.toks, u, s.toks + 1, Heap.get?_push_size _ rfl⟩
theorem s_rngN1 (q : ∀ p H', H p = none → H' p = some (.rng 0 j) → Kp [] H H' → Q (.ref p) H') : uRange1 [.int j] H Q := ⟨j, rfl, new_abs (R := fun p H' => Q (.ref p) H') q⟩
theorem flat_ints (ns : List Int) : (ns.map V.int).all flatV = true := by
  rw [List.all_eq_true]
  intro x hx
  obtain ⟨y, _, rfl⟩ := List.mem_map.mp hx
  rfl
theorem eqV_int {a b : Int} : eqV (.int a) (.int b) = decide (a = b) := by
  first
    | (show decide (V.int a = V.int b) = _; exact U.dec_int)
    | rfl
    | simp [eqV]
theorem inV_ints : inV (.int i) (ns.map V.int) = decide (i ∈ ns) := by
  induction ns with
  | nil => rfl
  | cons y zs ih =>
    unfold inV at ih ⊢
    rw [List.map_cons, List.any_cons, ih, eqV_int]
    by_cases h : y = i
    · subst h; simp
    · simp [h, Ne.symm h]
theorem s_inI (h : SqL K H p (ns.map V.int)) (q : Q (.bl (decide (i ∈ ns))) H) : uIn K false (.int i) (.ref p) H Q := Or.inr ⟨p, _, rfl, Or.inl h, rfl, flat_ints ns, by rw [inV_ints]; exact q⟩
theorem s_ninI (h : SqL K H p (ns.map V.int)) (q : Q (.bl (!decide (i ∈ ns))) H) : uIn K true (.int i) (.ref p) H Q := Or.inr ⟨p, _, rfl, Or.inl h, rfl, flat_ints ns, by rw [inV_ints]; exact q⟩
end
/-! a thing to which more may be added: an item to a list, an entry of one key to a dict -/
section
variable {K : PySem.W.Frag} {H H1 : Hp} {F ps : List Addr} {a : Addr} {kvs c : List (Key × V)} {ds es : List PyData} {key : Str} {v y : V} {d dv dy : PyData} {xs : List V} {n m : Nat}
def noKey (key : Str) (c : List (Key × V)) : Prop := (c.any fun kv => decide (kv.1 = (Sum.inr key : Key))) = false
theorem put_new (h : noKey key c) : putK c (Sum.inr key : Key) v = c ++ [(Sum.inr key, v)] := by
  unfold putK
  rw [if_neg (by rw [h]; exact Bool.false_ne_true)]
theorem put_old {w : V} (h : noKey key c) : putK (c ++ [((Sum.inr key : Key), w)]) (Sum.inr key : Key) v = c ++ [(Sum.inr key, v)] := by
  unfold putK
  rw [if_pos (by simp), List.map_append]
  congr 1
  · unfold noKey at h
    rw [List.any_eq_false] at h
    calc c.map _ = c.map id := List.map_congr_left fun kv hk => by
          have := h kv hk
          simp only [decide_eq_true_eq] at this
          rw [if_neg this]; rfl
      _ = c := List.map_id c
  · simp
inductive Ot (K : PySem.W.Frag) (H : Hp) (key : Str) : V → PyData → List Addr → Prop
  | od {v : V} {d : PyData} {F : List Addr} : Od K H v d F → (∀ a kvs, v = .ref a → H a = some (.dK kvs) → noKey key kvs) → Ot K H key v d F
  | put {a : Addr} {c : List (Key × V)} {ds : List PyData} {F : List Addr} {v : V} {dv : PyData} : H a = some (.dK (c ++ [(Sum.inr key, v)])) → noKey key c → a ∉ F → DnA K (vis F H) (c.map (·.2)) ds → (∀ H, Dn K H v dv) →
      Ot K H key (.ref a) (.dict (((c ++ [((Sum.inr key : Key), v)]).map fun p => keyD p.1).zip (ds ++ [dv]))) (a :: F)
theorem Ot.kpn (h : Ot K H key v d F) (k : Kp ps H H1) (n : ∀ a ∈ ps, a ∉ F) : Ot K H1 key v d F := by
  cases h with
  | od a b =>
    refine .od (a.kpn k n) fun x kvs e h1 => ?_
    subst e
    cases a with
    | flat z1 z2 z3 z4 =>
      cases z2 with
      | lst e => cases z3
      | dic e => cases z4
      | tup e => rw [k.tp _ _ e] at h1; cases h1
    | lst z1 z2 z3 => rw [k.get z1 fun m => n _ m List.mem_cons_self] at h1; cases h1
    | dic z1 z2 z3 =>
      rw [k.get z1 fun m => n _ m List.mem_cons_self] at h1
      cases h1
      exact b _ _ rfl z1
  | put a b c e f => exact .put (k.get a fun m => n _ m List.mem_cons_self) b c (e.kp (vis_kp k fun x m z => n x m (List.mem_cons_of_mem _ z))) f
theorem Ot.kp (h : Ot K H key v d F) (k : Kp [] H H1) : Ot K H1 key v d F := h.kpn k (by simp)
theorem Ot.dn (h : Ot K H key v d F) : Dn K H v d := by
  cases h with
  | od a b => exact a.dn
  | put a b c e f =>
    refine .dic (Or.inl a) ?_
    rw [List.map_append]
    exact (e.kp vis_le).app (.cons (f _) .nil)
theorem Ot.ty (h : Ot K H key v d F) : ∃ kd, TyN H v kd := by
  cases h with
  | od a b => exact a.ty
  | put a b c e f => exact ⟨_, .dic a⟩
theorem dna_len : ∀ {vs : List V} {ds : List PyData}, DnA K H vs ds → vs.length = ds.length
  | _, _, .nil => rfl
  | _, _, .cons _ b => by rw [List.length_cons, List.length_cons, dna_len b]
theorem sz_len : ∀ ds : List PyData, 2 * ds.length ≤ szA ds
  | [] => by simp [szA]
  | d :: ds => by
    have := sz_len ds
    rw [szA, List.length_cons]
    omega
theorem szK_len : ∀ ds : List (PyData × PyData), 4 * ds.length ≤ szK ds
  | [] => by simp [szK]
  | (k, d) :: ds => by
    have := szK_len ds
    rw [szK, List.length_cons]
    omega
theorem goodK_app : ∀ {ds es : List (PyData × PyData)}, goodK (ds ++ es) ↔ goodK ds ∧ goodK es
  | [], es => by simp [goodK]
  | (k, d) :: ds, es => by
    rw [List.cons_append, goodK, goodK, goodK_app (ds := ds) (es := es)]
    simp only [and_assoc]
theorem depthK_app : ∀ (ds es : List (PyData × PyData)), PyData.depthKv (ds ++ es) = max (PyData.depthKv ds) (PyData.depthKv es)
  | [], es => by simp [PyData.depthKv]
  | (k, d) :: ds, es => by
    rw [List.cons_append, PyData.depthKv, PyData.depthKv, depthK_app ds es]
    omega
theorem szK_app : ∀ (ds es : List (PyData × PyData)), szK (ds ++ es) = szK ds + szK es
  | [], es => by simp [szK]
  | (k, d) :: ds, es => by
    rw [List.cons_append, szK, szK, szK_app ds es]
    omega
theorem zip_snoc (hl : DnA K H (c.map (·.2)) ds) : ((c ++ [((Sum.inr key : Key), v)]).map fun p => keyD p.1).zip (ds ++ [dv]) = ((c.map fun p => keyD p.1).zip ds) ++ [(.str key, dv)] := by
  have e : ds.length = c.length := by
    have := dna_len hl
    rw [List.length_map] at this
    exact this.symm
  rw [List.map_append, List.zip_append (by rw [List.length_map, e])]
  rfl
theorem Bd.putK {l : List (PyData × PyData)} (h : Bd (.dict l) n) (g : Bd dy m) (z : dy.depth ≤ 80) (s : SS key 20) : Bd (.dict (l ++ [(.str key, dy)])) (n + m + 300) := by
  obtain ⟨h1, h2, h3⟩ := h
  obtain ⟨g1, g2, g3⟩ := g
  refine ⟨goodK_app.mpr ⟨h1, fun c hc => Nat.lt_trans (s.ok c hc) (by decide), g1, trivial⟩, ?_, ?_⟩
  · simp only [PyData.depth, depthK_app, PyData.depthKv] at h2 ⊢
    omega
  · have := s.len
    simp only [U.sz, szK_app, szK] at h3 ⊢
    omega
theorem Bd.dropK {l : List (PyData × PyData)} {x : PyData × PyData} (h : Bd (.dict (l ++ [x])) n) : Bd (.dict l) n := by
  obtain ⟨h1, h2, h3⟩ := h
  obtain ⟨x1, x2⟩ := x
  refine ⟨(goodK_app.mp h1).1, ?_, ?_⟩
  · simp only [PyData.depth, depthK_app, PyData.depthKv] at h2 ⊢
    omega
  · simp only [U.sz, szK_app, szK] at h3 ⊢
    omega
theorem Ot.cs (h : Ot K H key v d F) (s : SS key 20) : (∃ kd, TyN H v kd ∧ kd.isList = false ∧ kd.isDict = false) ∨
    (∃ a xs, v = .ref a ∧ a ∈ F ∧ H a = some (.lst xs) ∧ (∀ n, Bd d n → xs.length ≤ n) ∧ ∀ y dy H1, (∀ H, Dn K H y dy) → H1 a = some (.lst (xs ++ [y])) → Kp [a] H H1 → ∃ d', Ot K H1 key v d' F ∧ ∀ n m, Bd d n → Bd dy m → dy.depth ≤ 80 → Bd d' (n + m + 300)) ∨
    (∃ a kvs, v = .ref a ∧ a ∈ F ∧ H a = some (.dK kvs) ∧ (∀ n, Bd d n → kvs.length ≤ n) ∧ ∀ y dy H1, (∀ H, Dn K H y dy) → H1 a = some (.dK (L2.putK kvs (Sum.inr key : Key) y)) → Kp [a] H H1 → ∃ d', Ot K H1 key v d' F ∧ ∀ n m, Bd d n → Bd dy m → dy.depth ≤ 80 → Bd d' (n + m + 300)) := by
  cases h with
  | od a b =>
    cases a with
    | flat z1 z2 z3 z4 => exact Or.inl ⟨_, z2, z3, z4⟩
    | @lst a xs ds F z1 z2 z3 =>
      refine Or.inr (Or.inl ⟨a, xs, rfl, List.mem_cons_self, z1, fun n g => ?_, fun y dy H1 hy e k => ⟨_, .od (Od.more e z2 z3 k hy) (fun x kvs e1 e2 => ?_), fun n m g1 g2 g3 => (g1.more g2 g3).mono (by omega)⟩⟩)
      · have := sz_len ds
        have := g.sz
        simp only [U.sz] at this
        have := dna_len z3
        omega
      · cases e1
        rw [e] at e2
        cases e2
    | @dic a kvs ds F z1 z2 z3 =>
      refine Or.inr (Or.inr ⟨a, kvs, rfl, List.mem_cons_self, z1, fun n g => ?_, fun y dy H1 hy e k => ?_⟩)
      · have := szK_len ((kvs.map fun p => keyD p.1).zip ds)
        have := g.sz
        simp only [U.sz] at this
        have e := dna_len z3
        rw [List.length_map] at e
        have : ((kvs.map fun p => keyD p.1).zip ds).length = kvs.length := by rw [List.length_zip, List.length_map, ← e]; omega
        omega
      · have nk := b _ _ rfl z1
        rw [put_new nk] at e
        refine ⟨_, .put e nk z2 (z3.kp (vis_kp k (by simpa using z2))) hy, fun n m g1 g2 g3 => ?_⟩
        rw [zip_snoc z3]
        exact g1.putK g2 g3 s
  | @put a c ds F v dv z1 nk z2 z3 z4 =>
    refine Or.inr (Or.inr ⟨a, _, rfl, List.mem_cons_self, z1, fun n g => ?_, fun y dy H1 hy e k => ?_⟩)
    · rw [zip_snoc z3] at g
      have := szK_len ((c.map fun p => keyD p.1).zip ds ++ [(.str key, dv)])
      have := g.sz
      simp only [U.sz] at this
      have e := dna_len z3
      rw [List.length_map] at e
      have : ((c.map fun p => keyD p.1).zip ds).length = c.length := by rw [List.length_zip, List.length_map, ← e]; omega
      rw [List.length_append] at *
      simp only [List.length_cons, List.length_nil] at *
      omega
    · rw [put_old nk] at e
      refine ⟨_, .put e nk z2 (z3.kp (vis_kp k (by simpa using z2))) hy, fun n m g1 g2 g3 => ?_⟩
      rw [zip_snoc z3] at g1 ⊢
      exact g1.dropK.putK g2 g3 s
end
theorem s_slT {K : PySem.W.Frag} {H : Hp} {p : Addr} {xs ys : List V} {lo hi : Option Int} {Q : VK} (h : H p = some (.tup xs)) (ey : cutV xs lo hi = ys) (q : ∀ p' H', H' p' = some (.tup ys) → Kp [] H H' → Q (.ref p') H') : uSl K (.ref p) lo hi H Q := by
  subst ey
  refine Or.inr (Or.inr ⟨p, xs, rfl, SqT.of h, fun e => ?_, fun _ => new_abs (R := fun l H' => Q (.ref l) H') fun p' H' _ e k => q p' H' e k⟩)
  have : cutV xs lo hi = xs := by
    unfold cutV
    rw [e.1, e.2]
    simp
  exact q p H (by rw [this]; exact h) Kp.refl
theorem int_shw {K : PySem.W.Frag} {H : Hp} {i : Int} (h0 : 0 ≤ i) (h1 : i ≤ 1000000000) : Sh K H (.int i) (.int i) :=
  ⟨.int i, Nat.lt_of_le_of_lt (show i.natAbs ≤ 1000000000 by omega) (by decide +kernel), by simp [PyData.depth], by simp [sz]⟩
end U

local macro_rules | `(tactic| walk_at "b1") => `(tactic| first
  | with_reducible refine' U.s_asg ?_
  | ((with_reducible refine' U.s_nameR ?une ?_); (case une => (dsimp only [List.set]; try exact rfl)))
  | with_reducible refine' U.s_name ?_
  | with_reducible refine' U.s_ret ?_
  | with_reducible refine' U.s_next ?_
  | ((with_reducible show L2.Ends.nx _ _ _); dsimp only)
  | ((with_reducible show L2.Ends.rt _ _ _); dsimp only)
  | ((with_reducible show L2.Ends.bk _ _ _); dsimp only)
  | ((with_reducible show L2.Ends.ct _ _ _); dsimp only)
  | with_reducible refine' U.s_brk ?_
  | with_reducible refine' U.s_cnt ?_
  | with_reducible refine' U.s_retN ?_
  | with_reducible refine' U.s_drop ?_
  | with_reducible refine' U.s_op ?_
  | with_reducible refine' U.s_c ?_
  | ((with_reducible refine' U.s_var ?uvh ?_); (case uvh => exact rfl))
  | with_reducible refine' U.s_un ?_
  | with_reducible refine' U.s_neg ?_
  | with_reducible refine' U.s_test ?_
  | with_reducible refine' U.s_B ?_
  | with_reducible refine' U.s_bl ?_
  | with_reducible refine' U.s_not ?_
  | with_reducible refine' U.s_notV ?_
  | with_reducible refine' U.s_if ?_
  | with_reducible refine' U.s_add ?_
  | with_reducible refine' U.s_sub ?_
  | with_reducible refine' U.s_lt ?_
  | with_reducible refine' U.s_le ?_
  | with_reducible refine' U.s_gt ?_
  | with_reducible refine' U.s_ge ?_
  | with_reducible refine' U.s_eqi ?_
  | with_reducible refine' U.s_nei ?_
  | with_reducible refine' U.s_eqs ?_
  | with_reducible refine' U.s_nes ?_
  | with_reducible refine' U.s_in1 ?_
  | with_reducible refine' U.s_notin1 ?_
  | with_reducible refine' U.s_is ?_
  | with_reducible refine' U.s_isb ?_
  | with_reducible refine' U.s_isnot ?_
  | with_reducible refine' U.s_nil ?_
  | with_reducible refine' U.s_cons ?_
  | with_reducible refine' U.s_lst ?_
  | with_reducible refine' U.s_tup ?_
  | with_reducible refine' U.s_cb ?_
  | with_reducible refine' U.s_go ?_
  | with_reducible refine' U.s_co ?_
  | with_reducible refine' U.s_mt ?_
  | with_reducible refine' U.s_nw ?_
  | with_reducible refine' U.s_nwD ?_
  | with_reducible refine' U.s_fd ?_
  | with_reducible refine' U.s_sd ?_
  | with_reducible refine' U.s_fa ?_
  | with_reducible refine' U.s_radd ?_
  | with_reducible refine' U.s_rsub ?_
  | with_reducible refine' U.s_xe ?_
  | with_reducible refine' U.s_se ?_
  | with_reducible refine' U.s_os ?_
  | with_reducible refine' U.s_rz ?_
  | with_reducible refine' U.s_try ?_
  | with_reducible refine' U.s_dg ?_
  | with_reducible refine' U.s_dn ?_
  | with_reducible refine' U.s_pop ?_
  | with_reducible refine' U.s_bm ?_
  | with_reducible refine' U.s_gn ?_
  | with_reducible refine' U.s_tl ?_
  | with_reducible refine' U.s_gc ?_
  | with_reducible refine' U.s_rng2 ?_
  | ((with_reducible refine' U.s_gtu ?uth ?utl ?_); (case uth => walk_at "gt"); (case utl => exact rfl))
  | ((with_reducible refine' U.s_glu ?uth ?utl ?_); (case uth => walk_at "g"); (case utl => exact rfl))
  | ((with_reducible refine' U.s_ixt ?uih ?uia ?_); (case uih => walk_at "gt"); (case uia => exact rfl))
  | with_reducible refine' U.s_bm0 ?_
  | with_reducible refine' U.s_tys ?_
  | with_reducible refine' U.s_pnil ?_
  | with_reducible refine' U.s_pcons ?_
  | ((with_reducible refine' U.s_tyl ?uth ?_); (case uth => walk_at "g"))
  | ((with_reducible refine' U.s_tyd ?uth ?_); (case uth => walk_at "g"))
  | with_reducible refine' U.s_max2 ?_
  | with_reducible refine' U.s_min2 ?_
  | with_reducible refine' U.s_sub2 ?_
  | with_reducible refine' U.s_sl ?_
  | with_reducible refine' U.s_nopart ?_
  | with_reducible refine' U.s_part ?_
  | with_reducible refine' U.s_int ?_
  | with_reducible refine' U.s_m1 ?_
  | with_reducible refine' U.s_m0 ?_
  | with_reducible refine' U.s_isstr ?_
  | with_reducible refine' U.s_rng1 ?_
  | with_reducible refine' U.s_ilist ?_
  | with_reducible refine' U.s_istr ?_
  | with_reducible refine' U.s_lc ?_
  | with_reducible refine' U.s_for ?_
  | with_reducible refine' U.s_istr1 ?_
  | with_reducible refine' U.s_yes ?_
  | with_reducible refine' U.s_itt ?_
  | with_reducible refine' U.s_itf ?_
  | ((with_reducible refine' U.s_ixl ?uih ?uia ?_); (case uih => walk_at "g"); (case uia => exact rfl))
  | ((with_reducible refine' U.s_ixl ?uih ?uia ?_); (case uih => exact L2.upd_same); (case uia => exact rfl))
  | ((with_reducible refine' U.s_mod ?umh ?_); (case umh => first | decide | assumption | omega))
  | ((with_reducible refine' U.s_isInt ?uty ?_); (case uty => first | assumption | exact U.TyN.int | exact U.TyN.str | exact U.TyN.non | exact U.TyN.bl | exact U.TyN.lst (by walk_at "g") | exact U.TyN.tup (by walk_at "gt") | exact U.TyN.dic (by walk_at "g")))
  | ((with_reducible refine' U.s_isBool ?uty ?_); (case uty => first | assumption | exact U.TyN.int | exact U.TyN.str | exact U.TyN.non | exact U.TyN.bl | exact U.TyN.lst (by walk_at "g") | exact U.TyN.tup (by walk_at "gt") | exact U.TyN.dic (by walk_at "g")))
  | ((with_reducible refine' U.s_isStr ?uty ?_); (case uty => first | assumption | exact U.TyN.int | exact U.TyN.str | exact U.TyN.non | exact U.TyN.bl | exact U.TyN.lst (by walk_at "g") | exact U.TyN.tup (by walk_at "gt") | exact U.TyN.dic (by walk_at "g")))
  | ((with_reducible refine' U.s_isList ?uty ?_); (case uty => first | assumption | exact U.TyN.int | exact U.TyN.str | exact U.TyN.non | exact U.TyN.bl | exact U.TyN.lst (by walk_at "g") | exact U.TyN.tup (by walk_at "gt") | exact U.TyN.dic (by walk_at "g")))
  | ((with_reducible refine' U.s_isTup ?uty ?_); (case uty => first | assumption | exact U.TyN.int | exact U.TyN.str | exact U.TyN.non | exact U.TyN.bl | exact U.TyN.lst (by walk_at "g") | exact U.TyN.tup (by walk_at "gt") | exact U.TyN.dic (by walk_at "g")))
  | ((with_reducible refine' U.s_isDict ?uty ?_); (case uty => first | assumption | exact U.TyN.int | exact U.TyN.str | exact U.TyN.non | exact U.TyN.bl | exact U.TyN.lst (by walk_at "g") | exact U.TyN.tup (by walk_at "gt") | exact U.TyN.dic (by walk_at "g")))
  | ((with_reducible refine' U.s_itT ?uit ?_); (case uit => exact rfl))
  | ((with_reducible refine' U.s_itF ?uit ?_); (case uit => exact rfl))
  | ((with_reducible refine' U.s_itT ?uit ?_); (case uit => decide +kernel))
  | ((with_reducible refine' U.s_itF ?uit ?_); (case uit => decide +kernel))
  | ((with_reducible refine' U.s_mul ?umh ?_); (case umh => first | exact U.cmulL (by omega) (by omega) | exact U.cmulR (by omega) (by omega)))
  | ((with_reducible refine' U.s_pow ?umh ?ume ?_); (case umh => exact U.cpow (by omega) (by omega) (by omega) (by omega)); (case ume => simp only [Int.reduceToNat, Int.reducePow]; exact rfl))
  | ((with_reducible refine' U.s_div ?umh ?_); (case umh => exact U.cdiv (by omega) (by omega)))
  | ((with_reducible refine' U.s_dgs ?uih ?uia ?_); (case uih => walk_at "g"); (case uia => exact rfl))
  | ((with_reducible refine' U.s_dgs ?uih ?uia ?_); (case uih => walk_at "g"); (case uia => decide +kernel))
  | with_reducible refine' U.s_par ?_
  | with_reducible refine' U.s_two ?_
  | with_reducible refine' U.s_iseq ?_
  | with_reducible refine' U.s_itup ?_
  | with_reducible refine' U.s_ienT ?_
  | with_reducible refine' U.s_ienL ?_
  | with_reducible refine' U.s_abs ?_
  | ((with_reducible refine' U.s_inS ?uih ?_); (case uih => walk_at "g"))
  | ((with_reducible refine' U.s_ninS ?uih ?_); (case uih => walk_at "g"))
  | ((with_reducible refine' U.s_itp ?uih ?_); (case uih => walk_at "gt"))
  | ((with_reducible refine' U.s_eT ?uih ?_); (case uih => walk_at "gt"))
  | ((with_reducible refine' U.s_eL ?uih ?_); (case uih => walk_at "g")))
local macro_rules | `(tactic| walk_at "u1") => `(tactic| first
  | walk_at "b1"
  | with_reducible refine' U.s_seq ?_
  | with_reducible refine' U.s_ifS ?_
  | with_reducible refine' U.s_and ?_
  | with_reducible refine' U.s_or ?_
  | with_reducible refine' U.s_andV ?_
  | with_reducible refine' U.s_orV ?_
  | with_reducible refine' U.s_chain ?_)
local macro_rules | `(tactic| walk_at "v1") => `(tactic| first
  | walk_at "b1"
  | with_reducible refine' U.s_seq ?_
  | with_reducible refine' U.s_ifS ?_)
local macro_rules | `(tactic| walk_at "w1") => `(tactic| first
  | walk_at "b1"
  | with_reducible refine' U.s_seq ?_)
local macro_rules | `(tactic| walk_at "s1") => `(tactic| first
  | walk_at "b1")
local macro_rules | `(tactic| walk_at "u") => `(tactic| repeat (first | walk_at "u1" | walk_at "u2"))
local macro_rules | `(tactic| walk_at "v") => `(tactic| repeat (first | walk_at "v1" | walk_at "u2"))
local macro_rules | `(tactic| walk_at "w") => `(tactic| repeat (first | walk_at "w1" | walk_at "u2"))
local macro_rules | `(tactic| walk_at "s") => `(tactic| repeat (first | walk_at "s1" | walk_at "u2"))
local macro_rules | `(tactic| walk_at "na") => `(tactic| first
  | ((with_reducible refine' U.s_newl (U.zle ?unz) ?_); (case unz => simp))
  | ((with_reducible refine' U.s_newt (U.zle ?unz) ?_); (case unz => simp)))
local macro_rules | `(tactic| walk_at "g") => `(tactic| first
  | assumption
  | ((refine' U.Kp.get ?ugk ?ugm ?ugn); (case ugk => assumption); (case ugm => walk_at "g"); (case ugn => walk_at "n"))
  | ((refine' U.Box.kpn ?ugm ?ugk ?ugn); (case ugk => assumption); (case ugm => walk_at "g"); (case ugn => walk_at "n"))
  | ((refine' U.SqL.kpn ?ugk ?ugm ?ugn); (case ugk => assumption); (case ugm => walk_at "g"); (case ugn => walk_at "n"))
  | ((refine' L2.SqL.of ?ugm); (case ugm => walk_at "g"))
  | ((refine' U.Dx.kpn ?ugm ?ugk ?ugn); (case ugk => assumption); (case ugm => walk_at "g"); (case ugn => walk_at "q"))
  | walk_at "g2")
local macro_rules | `(tactic| walk_at "gt") => `(tactic| first
  | assumption
  | ((refine' U.Kp.tgt ?ugk ?ugm); (case ugk => assumption); (case ugm => walk_at "gt"))
  | fail)
local macro_rules | `(tactic| walk_at "g2") => `(tactic| fail)
local macro_rules | `(tactic| walk_at "n") => `(tactic| first
  | exact U.nm0
  | ((refine' U.nmc ?unh ?unr); (case unh => walk_at "ne"); (case unr => walk_at "n"))
  | assumption
  | fail)
local macro_rules | `(tactic| walk_at "ne") => `(tactic| first
  | assumption
  | exact Ne.symm (by assumption)
  | ((refine' U.Th.ne ?una ?unf); (case unf => assumption); (case una => walk_at "t"))
  | ((refine' Ne.symm (U.Th.ne ?una ?unf)); (case unf => assumption); (case una => walk_at "t"))
  | ((refine' U.Th.nk ?una ?unb ?unc); (case una => walk_at "t0"); (case unb => walk_at "t"); (case unc => exact rfl))
  | ((refine' Ne.symm (U.Th.nk ?una ?unb ?unc)); (case una => walk_at "t0"); (case unb => walk_at "t"); (case unc => exact rfl))
  | fail)
local macro_rules | `(tactic| walk_at "t0") => `(tactic| first
  | exact U.Th.lst (by assumption)
  | exact U.Th.tup (by assumption)
  | exact U.Th.dK (by assumption)
  | exact U.Th.ins (by assumption)
  | exact U.Th.xd (by assumption)
  | exact U.Box.th (by assumption)
  | walk_at "t2")
local macro_rules | `(tactic| walk_at "t2") => `(tactic| fail)
local macro_rules | `(tactic| walk_at "t") => `(tactic| first
  | walk_at "t0"
  | ((refine' U.Th.kp ?ugk ?ugm); (case ugk => assumption); (case ugm => walk_at "t"))
  | fail)
local macro_rules | `(tactic| walk_at "k") => `(tactic| first
  | exact U.Kp.refl
  | assumption
  | ((refine' U.Kp.step ?ukm ?ukk ?ukq); (case ukk => assumption); (case ukm => walk_at "k"); (case ukq => walk_at "q"))
  | fail)
local macro_rules | `(tactic| walk_at "q") => `(tactic| first
  | exact U.al0
  | ((refine' U.alc ?uqh ?uqr); (case uqh => first | (apply Or.inl; simp; done) | (apply Or.inr; walk_at "f")); (case uqr => walk_at "q"))
  | fail)
local macro_rules | `(tactic| walk_at "f") => `(tactic| first
  | assumption
  | exact U.Fz.f (by assumption)
  | ((refine' U.Dm.fr ?ufa ?ufm); (case ufa => assumption); (case ufm => walk_at "m"))
  | fail)
local macro_rules | `(tactic| walk_at "m") => `(tactic| first
  | exact U.Dm.refl
  | ((refine' U.Dm.step ?umm ?umk); (case umk => assumption); (case umm => walk_at "m"))
  | fail)
local macro_rules | `(tactic| walk_at "ud") => `(tactic| first
  | refine U.s_uds (by walk_at "g") (U.zlt (by simp)) rfl ?_
  | refine U.s_udi (by walk_at "g") (U.zlt (by simp)) rfl ?_
  | refine U.s_ul (by walk_at "g") rfl rfl ?_)

namespace K12
open PySem L2 U
def top (i : Nat) : Stmt := PySem.Challenge.pw_onestaff_k12_no_word_under_way.main.body.getD i (.Pass ⟨0, 0, 0, 0⟩)
abbrev s_NoNumber_init : Stmt := inClass (top 2) 0
abbrev N_NoNumber_init : List Str := ["self", "found"]
theorem sc_NoNumber_init : FnScope N_NoNumber_init ["self", "found"] (defScope s_NoNumber_init) := ⟨rfl, rfl, rfl, by decide +kernel, rfl, by decide +kernel, by decide +kernel⟩
theorem st_NoNumber_init {v0 v1 : V} : L2.start N_NoNumber_init [v0, v1] = [some v0, some v1] := rfl
abbrev s_NoWord_init : Stmt := inClass (top 3) 0
abbrev N_NoWord_init : List Str := ["self", "found"]
theorem sc_NoWord_init : FnScope N_NoWord_init ["self", "found"] (defScope s_NoWord_init) := ⟨rfl, rfl, rfl, by decide +kernel, rfl, by decide +kernel, by decide +kernel⟩
theorem st_NoWord_init {v0 v1 : V} : L2.start N_NoWord_init [v0, v1] = [some v0, some v1] := rfl
abbrev s_is_whole : Stmt := top 5
abbrev N_is_whole : List Str := ["thing", "low", "high"]
theorem sc_is_whole : FnScope N_is_whole ["thing", "low", "high"] (defScope s_is_whole) := ⟨rfl, rfl, rfl, by decide +kernel, rfl, by decide +kernel, by decide +kernel⟩
theorem st_is_whole {v0 v1 v2 : V} : L2.start N_is_whole [v0, v1, v2] = [some v0, some v1, some v2] := rfl
abbrev s_Wire_init : Stmt := inClass (top 7) 0
abbrev N_Wire_init : List Str := ["self"]
theorem sc_Wire_init : FnScope N_Wire_init ["self"] (defScope s_Wire_init) := ⟨rfl, rfl, rfl, by decide +kernel, rfl, by decide +kernel, by decide +kernel⟩
theorem st_Wire_init {v0 : V} : L2.start N_Wire_init [v0] = [some v0] := rfl
abbrev s_Wire_send : Stmt := inClass (top 7) 1
abbrev N_Wire_send : List Str := ["self", "word", "number"]
theorem sc_Wire_send : FnScope N_Wire_send ["self", "word"] (defScope s_Wire_send) := ⟨rfl, rfl, rfl, by decide +kernel, rfl, by decide +kernel, by decide +kernel⟩
theorem st_Wire_send {v0 v1 : V} : L2.start N_Wire_send [v0, v1] = [some v0, some v1, none] := rfl
abbrev s_Wire_need : Stmt := inClass (top 7) 2
abbrev N_Wire_need : List Str := ["self", "number"]
theorem sc_Wire_need : FnScope N_Wire_need ["self", "number"] (defScope s_Wire_need) := ⟨rfl, rfl, rfl, by decide +kernel, rfl, by decide +kernel, by decide +kernel⟩
theorem st_Wire_need {v0 v1 : V} : L2.start N_Wire_need [v0, v1] = [some v0, some v1] := rfl
abbrev s_Wire_get : Stmt := inClass (top 7) 3
abbrev N_Wire_get : List Str := ["self", "number"]
theorem sc_Wire_get : FnScope N_Wire_get ["self", "number"] (defScope s_Wire_get) := ⟨rfl, rfl, rfl, by decide +kernel, rfl, by decide +kernel, by decide +kernel⟩
theorem st_Wire_get {v0 v1 : V} : L2.start N_Wire_get [v0, v1] = [some v0, some v1] := rfl
abbrev s_Wire_lose : Stmt := inClass (top 7) 4
abbrev N_Wire_lose : List Str := ["self", "number"]
theorem sc_Wire_lose : FnScope N_Wire_lose ["self", "number"] (defScope s_Wire_lose) := ⟨rfl, rfl, rfl, by decide +kernel, rfl, by decide +kernel, by decide +kernel⟩
theorem st_Wire_lose {v0 v1 : V} : L2.start N_Wire_lose [v0, v1] = [some v0, some v1] := rfl
abbrev s_Wire_under_way : Stmt := inClass (top 7) 5
abbrev N_Wire_under_way : List Str := ["self", "number"]
theorem sc_Wire_under_way : FnScope N_Wire_under_way ["self"] (defScope s_Wire_under_way) := ⟨rfl, rfl, rfl, by decide +kernel, rfl, by decide +kernel, by decide +kernel⟩
theorem st_Wire_under_way {v0 : V} : L2.start N_Wire_under_way [v0] = [some v0, none] := rfl
abbrev s_Wire_sent : Stmt := inClass (top 7) 6
abbrev N_Wire_sent : List Str := ["self"]
theorem sc_Wire_sent : FnScope N_Wire_sent ["self"] (defScope s_Wire_sent) := ⟨rfl, rfl, rfl, by decide +kernel, rfl, by decide +kernel, by decide +kernel⟩
theorem st_Wire_sent {v0 : V} : L2.start N_Wire_sent [v0] = [some v0] := rfl
abbrev s_Wire_twin : Stmt := inClass (top 7) 7
abbrev N_Wire_twin : List Str := ["self", "other"]
theorem sc_Wire_twin : FnScope N_Wire_twin ["self"] (defScope s_Wire_twin) := ⟨rfl, rfl, rfl, by decide +kernel, rfl, by decide +kernel, by decide +kernel⟩
theorem st_Wire_twin {v0 : V} : L2.start N_Wire_twin [v0] = [some v0, none] := rfl
abbrev s_law_cell : Stmt := top 9
abbrev N_law_cell : List Str := ["_law_script", "_law_k"]
theorem sc_law_cell : FnScope N_law_cell ["_law_script", "_law_k"] (defScope s_law_cell) := ⟨rfl, rfl, rfl, by decide +kernel, rfl, by decide +kernel, by decide +kernel⟩
theorem st_law_cell {v0 v1 : V} : L2.start N_law_cell [v0, v1] = [some v0, some v1] := rfl
abbrev s_law_box : Stmt := top 10
abbrev N_law_box : List Str := ["_law_cell_here"]
theorem sc_law_box : FnScope N_law_box ["_law_cell_here"] (defScope s_law_box) := ⟨rfl, rfl, rfl, by decide +kernel, rfl, by decide +kernel, by decide +kernel⟩
theorem st_law_box {v0 : V} : L2.start N_law_box [v0] = [some v0] := rfl
abbrev s_law_take : Stmt := top 11
abbrev N_law_take : List Str := ["_law_box_here", "_law_many", "_law_number", "_law_digit"]
theorem sc_law_take : FnScope N_law_take ["_law_box_here", "_law_many"] (defScope s_law_take) := ⟨rfl, rfl, rfl, by decide +kernel, rfl, by decide +kernel, by decide +kernel⟩
theorem st_law_take {v0 v1 : V} : L2.start N_law_take [v0, v1] = [some v0, some v1, none, none] := rfl
abbrev s_law_caught : Stmt := top 12
abbrev N_law_caught : List Str := ["_law_wire", "_law_way", "_law_number", "_law_found", "e"]
theorem sc_law_caught : FnScope N_law_caught ["_law_wire", "_law_way", "_law_number"] (defScope s_law_caught) := ⟨rfl, rfl, rfl, by decide +kernel, rfl, by decide +kernel, by decide +kernel⟩
theorem st_law_caught {v0 v1 v2 : V} : L2.start N_law_caught [v0, v1, v2] = [some v0, some v1, some v2, none, none] := rfl
abbrev s_law_odds : Stmt := top 13
abbrev N_law_odds : List Str := ["_law_box_here", "_law_sent", "_law_gone", "_law_some", "_law_first"]
theorem sc_law_odds : FnScope N_law_odds ["_law_box_here", "_law_sent", "_law_gone"] (defScope s_law_odds) := ⟨rfl, rfl, rfl, by decide +kernel, rfl, by decide +kernel, by decide +kernel⟩
theorem st_law_odds {v0 v1 v2 : V} : L2.start N_law_odds [v0, v1, v2] = [some v0, some v1, some v2, none, none] := rfl
abbrev s_law_refuses : Stmt := top 14
abbrev N_law_refuses : List Str := ["_law_wire", "_law_thing", "_law_way", "_law_found"]
theorem sc_law_refuses : FnScope N_law_refuses ["_law_wire", "_law_thing"] (defScope s_law_refuses) := ⟨rfl, rfl, rfl, by decide +kernel, rfl, by decide +kernel, by decide +kernel⟩
theorem st_law_refuses {v0 v1 : V} : L2.start N_law_refuses [v0, v1] = [some v0, some v1, none, none] := rfl
abbrev s_law_got : Stmt := top 15
abbrev N_law_got : List Str := ["_law_pair", "_law_due", "_law_sent", "_law_first", "_law_second", "_law_number", "_law_word"]
theorem sc_law_got : FnScope N_law_got ["_law_pair", "_law_due", "_law_sent"] (defScope s_law_got) := ⟨rfl, rfl, rfl, by decide +kernel, rfl, by decide +kernel, by decide +kernel⟩
theorem st_law_got {v0 v1 v2 : V} : L2.start N_law_got [v0, v1, v2] = [some v0, some v1, some v2, none, none, none, none] := rfl
abbrev s_law_sent_behind : Stmt := top 16
abbrev N_law_sent_behind : List Str := ["_law_pair", "_law_due", "_law_sent", "_law_first", "_law_second", "_law_turn"]
theorem sc_law_sent_behind : FnScope N_law_sent_behind ["_law_pair", "_law_due", "_law_sent"] (defScope s_law_sent_behind) := ⟨rfl, rfl, rfl, by decide +kernel, rfl, by decide +kernel, by decide +kernel⟩
theorem st_law_sent_behind {v0 v1 v2 : V} : L2.start N_law_sent_behind [v0, v1, v2] = [some v0, some v1, some v2, none, none, none] := rfl
abbrev s_law_right : Stmt := top 17
abbrev N_law_right : List Str := ["_law_box_here", "_law_wire", "_law_sent", "_law_number", "_law_gone", "_law_due", "_law_pair", "_law_one", "_law_thing"]
theorem sc_law_right : FnScope N_law_right ["_law_box_here"] (defScope s_law_right) := ⟨rfl, rfl, rfl, by decide +kernel, rfl, by decide +kernel, by decide +kernel⟩
theorem st_law_right {v0 : V} : L2.start N_law_right [v0] = [some v0, none, none, none, none, none, none, none, none] := rfl
abbrev s_law : Stmt := top 18
abbrev N_law : List Str := ["_law_script", "_law_k"]
theorem sc_law : FnScope N_law ["_law_script"] (defScope s_law) := ⟨rfl, rfl, rfl, by decide +kernel, rfl, by decide +kernel, by decide +kernel⟩
theorem st_law {v0 : V} : L2.start N_law [v0] = [some v0, none] := rfl
structure Tx (K : PySem.W.Frag) (mg : Str → Option Value) where
  C_Wire : Addr
  m_Wire : mg "Wire" = some (.ref C_Wire)
  C_NoNumber : Addr
  m_NoNumber : mg "NoNumber" = some (.ref C_NoNumber)
  C_NoWord : Addr
  m_NoWord : mg "NoWord" = some (.ref C_NoWord)
  C_StaffError : Addr
  m_StaffError : mg "StaffError" = some (.ref C_StaffError)
  a_NoNumber_init : Addr
  d_NoNumber_init : FuncData
  F_NoNumber_init : Fun K "__init__" "NoNumber.__init__" s_NoNumber_init a_NoNumber_init d_NoNumber_init
  B_NoNumber_init : Binds K d_NoNumber_init ["self", "found"] []
  a_NoWord_init : Addr
  d_NoWord_init : FuncData
  F_NoWord_init : Fun K "__init__" "NoWord.__init__" s_NoWord_init a_NoWord_init d_NoWord_init
  B_NoWord_init : Binds K d_NoWord_init ["self", "found"] []
  a_is_whole : Addr
  d_is_whole : FuncData
  F_is_whole : Fun K "is_whole" "is_whole" s_is_whole a_is_whole d_is_whole
  B_is_whole : Binds K d_is_whole ["thing", "low", "high"] []
  m_is_whole : mg "is_whole" = some (.ref a_is_whole)
  a_Wire_init : Addr
  d_Wire_init : FuncData
  F_Wire_init : Fun K "__init__" "Wire.__init__" s_Wire_init a_Wire_init d_Wire_init
  B_Wire_init : Binds K d_Wire_init ["self"] []
  a_Wire_send : Addr
  d_Wire_send : FuncData
  F_Wire_send : Fun K "send" "Wire.send" s_Wire_send a_Wire_send d_Wire_send
  B_Wire_send : Binds K d_Wire_send ["self", "word"] []
  a_Wire_need : Addr
  d_Wire_need : FuncData
  F_Wire_need : Fun K "need" "Wire.need" s_Wire_need a_Wire_need d_Wire_need
  B_Wire_need : Binds K d_Wire_need ["self", "number"] []
  a_Wire_get : Addr
  d_Wire_get : FuncData
  F_Wire_get : Fun K "get" "Wire.get" s_Wire_get a_Wire_get d_Wire_get
  B_Wire_get : Binds K d_Wire_get ["self", "number"] []
  a_Wire_lose : Addr
  d_Wire_lose : FuncData
  F_Wire_lose : Fun K "lose" "Wire.lose" s_Wire_lose a_Wire_lose d_Wire_lose
  B_Wire_lose : Binds K d_Wire_lose ["self", "number"] []
  a_Wire_under_way : Addr
  d_Wire_under_way : FuncData
  F_Wire_under_way : Fun K "under_way" "Wire.under_way" s_Wire_under_way a_Wire_under_way d_Wire_under_way
  B_Wire_under_way : Binds K d_Wire_under_way ["self"] []
  a_Wire_sent : Addr
  d_Wire_sent : FuncData
  F_Wire_sent : Fun K "sent" "Wire.sent" s_Wire_sent a_Wire_sent d_Wire_sent
  B_Wire_sent : Binds K d_Wire_sent ["self"] []
  a_Wire_twin : Addr
  d_Wire_twin : FuncData
  F_Wire_twin : Fun K "twin" "Wire.twin" s_Wire_twin a_Wire_twin d_Wire_twin
  B_Wire_twin : Binds K d_Wire_twin ["self"] []
  a_law_cell : Addr
  d_law_cell : FuncData
  F_law_cell : Fun K "_law_cell" "_law_cell" s_law_cell a_law_cell d_law_cell
  B_law_cell : Binds K d_law_cell ["_law_script", "_law_k"] []
  m_law_cell : mg "_law_cell" = some (.ref a_law_cell)
  a_law_box : Addr
  d_law_box : FuncData
  F_law_box : Fun K "_law_box" "_law_box" s_law_box a_law_box d_law_box
  B_law_box : Binds K d_law_box ["_law_cell_here"] []
  m_law_box : mg "_law_box" = some (.ref a_law_box)
  a_law_take : Addr
  d_law_take : FuncData
  F_law_take : Fun K "_law_take" "_law_take" s_law_take a_law_take d_law_take
  B_law_take : Binds K d_law_take ["_law_box_here", "_law_many"] []
  m_law_take : mg "_law_take" = some (.ref a_law_take)
  a_law_caught : Addr
  d_law_caught : FuncData
  F_law_caught : Fun K "_law_caught" "_law_caught" s_law_caught a_law_caught d_law_caught
  B_law_caught : Binds K d_law_caught ["_law_wire", "_law_way", "_law_number"] []
  m_law_caught : mg "_law_caught" = some (.ref a_law_caught)
  a_law_odds : Addr
  d_law_odds : FuncData
  F_law_odds : Fun K "_law_odds" "_law_odds" s_law_odds a_law_odds d_law_odds
  B_law_odds : Binds K d_law_odds ["_law_box_here", "_law_sent", "_law_gone"] []
  m_law_odds : mg "_law_odds" = some (.ref a_law_odds)
  a_law_refuses : Addr
  d_law_refuses : FuncData
  F_law_refuses : Fun K "_law_refuses" "_law_refuses" s_law_refuses a_law_refuses d_law_refuses
  B_law_refuses : Binds K d_law_refuses ["_law_wire", "_law_thing"] []
  m_law_refuses : mg "_law_refuses" = some (.ref a_law_refuses)
  a_law_got : Addr
  d_law_got : FuncData
  F_law_got : Fun K "_law_got" "_law_got" s_law_got a_law_got d_law_got
  B_law_got : Binds K d_law_got ["_law_pair", "_law_due", "_law_sent"] []
  m_law_got : mg "_law_got" = some (.ref a_law_got)
  a_law_sent_behind : Addr
  d_law_sent_behind : FuncData
  F_law_sent_behind : Fun K "_law_sent_behind" "_law_sent_behind" s_law_sent_behind a_law_sent_behind d_law_sent_behind
  B_law_sent_behind : Binds K d_law_sent_behind ["_law_pair", "_law_due", "_law_sent"] []
  m_law_sent_behind : mg "_law_sent_behind" = some (.ref a_law_sent_behind)
  a_law_right : Addr
  d_law_right : FuncData
  F_law_right : Fun K "_law_right" "_law_right" s_law_right a_law_right d_law_right
  B_law_right : Binds K d_law_right ["_law_box_here"] []
  m_law_right : mg "_law_right" = some (.ref a_law_right)
  a_law : Addr
  d_law : FuncData
  F_law : Fun K "law" "law" s_law a_law d_law
  B_law : Binds K d_law ["_law_script"] []
  m_law : mg "law" = some (.ref a_law)
  cl_Wire : Cls K C_Wire
  mk_Wire : Mk K C_Wire a_Wire_init
  na_Wire_kept_words : NoAttr K C_Wire "kept_words"
  na_Wire_kept_sent : NoAttr K C_Wire "kept_sent"
  M_Wire_send : Meth K C_Wire "send" a_Wire_send
  M_Wire_need : Meth K C_Wire "need" a_Wire_need
  M_Wire_get : Meth K C_Wire "get" a_Wire_get
  M_Wire_lose : Meth K C_Wire "lose" a_Wire_lose
  M_Wire_under_way : Meth K C_Wire "under_way" a_Wire_under_way
  M_Wire_sent : Meth K C_Wire "sent" a_Wire_sent
  M_Wire_twin : Meth K C_Wire "twin" a_Wire_twin
  er_NoNumber : ErrC K C_NoNumber a_NoNumber_init "found"
  er_NoWord : ErrC K C_NoWord a_NoWord_init "found"
  rd_StaffError : RdC K C_StaffError
  vi_StaffError : PySem.W.findCls K (.ref C_StaffError) (.type "type") "__init__" = some (.val (.builtin "ValueError.__init__"))
  oc_get : PySem.W.specialIn K (.builtin "object.__class__") "__get__" = some (some (.builtin "getset_descriptor.__get__"))
  oc_take : PySem.W.takesIn K (.builtin "object.__class__") = some true
  ex_NoWord_NoWord : PySem.W.exmOne K (.ref C_NoWord) (.ref C_NoWord) = some true
  ki_NoWord_NoNumber : PySem.W.kitOne K (.ref C_NoWord) (.ref C_NoNumber) = some false
  z_bool : mg "bool" = none
  z_dict : mg "dict" = none
  z_int : mg "int" = none
  z_isinstance : mg "isinstance" = none
  z_len : mg "len" = none
  z_list : mg "list" = none
  z_max : mg "max" = none
  z_min : mg "min" = none
  z_range : mg "range" = none
  z_repr : mg "repr" = none
  z_sorted : mg "sorted" = none
variable {P : Program} {w : World} {K : PySem.W.Frag} {mg : Str → Option Value} {base : Heap}
def fl_Wire (x0 x1 : V) : List (Str × V) := [("kept_words", x0), ("kept_sent", x1)]
def At_Wire (T : Tx K mg) (H : Hp) (p : Addr) (x0 x1 : V) : Prop := ∃ dx, H p = some (.ins T.C_Wire dx (fl_Wire x0 x1))
theorem At_Wire.kp {T : Tx K mg} {H H2 : Hp} {p : Addr} {x0 x1 : V} (h : At_Wire T H p x0 x1) (k : Kp [] H H2) : At_Wire T H2 p x0 x1 := by obtain ⟨dx, e⟩ := h; exact ⟨dx, k.get0 e⟩
theorem At_Wire.kpn {T : Tx K mg} {H H2 : Hp} {p : Addr} {ps : List Addr} {x0 x1 : V} (h : At_Wire T H p x0 x1) (k : Kp ps H H2) (n : p ∉ ps) : At_Wire T H2 p x0 x1 := by obtain ⟨dx, e⟩ := h; exact ⟨dx, k.get e n⟩
theorem At_Wire.th {T : Tx K mg} {H : Hp} {p : Addr} {x0 x1 : V} (h : At_Wire T H p x0 x1) : Th H p 5 := by obtain ⟨dx, e⟩ := h; exact .ins e
theorem At_Wire.ne {T : Tx K mg} {H : Hp} {p l : Addr} {x0 x1 : V} (h : At_Wire T H p x0 x1) (n : H l = none) : l ≠ p := by obtain ⟨dx, e⟩ := h; exact (ne_of_none e n).symm
theorem At_Wire.nel {T : Tx K mg} {H : Hp} {p l : Addr} {x0 x1 : V} {xs : List V} (h : At_Wire T H p x0 x1) (n : H l = some (.lst xs)) : l ≠ p := by obtain ⟨dx, e⟩ := h; exact ne_of n e (by intro z; cases z)
theorem g_Wire_kept_words {T : Tx K mg} {H : Hp} {p : Addr} {x0 x1 : V} {Q : VK} (h : At_Wire T H p x0 x1) (q : Q x0 H) : FldK K "kept_words" Q (.ref p) H := by obtain ⟨dx, e⟩ := h; exact s_fdk e T.cl_Wire T.na_Wire_kept_words rfl q
theorem p_Wire_kept_words {T : Tx K mg} {H : Hp} {p : Addr} {x0 x1 y : V} {R : Hp → Prop} (h : At_Wire T H p x0 x1) (q : ∀ H2, At_Wire T H2 p y x1 → Kp [p] H H2 → R H2) : SetK K "kept_words" y R (.ref p) H := by obtain ⟨dx, e⟩ := h; exact s_sdk e T.cl_Wire T.na_Wire_kept_words (by simp [fl_Wire]) (gs := fl_Wire y x1) rfl fun H2 e2 k => q H2 ⟨dx, e2⟩ k
theorem u_Wire_kept_words {T : Tx K mg} {H : Hp} {p : Addr} {x0 x1 : V} {R : Addr → Addr → V → Hp → Prop} (h : At_Wire T H p x0 x1) (q : R p T.C_Wire x0 H) : FaK K "kept_words" R (.ref p) H := by obtain ⟨dx, e⟩ := h; exact s_fak e T.cl_Wire T.na_Wire_kept_words rfl q
theorem w_Wire_kept_words {T : Tx K mg} {H : Hp} {p : Addr} {x0 x1 y : V} {R : Hp → Prop} (h : At_Wire T H p x0 x1) (q : ∀ H2, At_Wire T H2 p y x1 → Kp [p] H H2 → R H2) : FbK "kept_words" p T.C_Wire R y H := by obtain ⟨dx, e⟩ := h; exact s_fbk e (by simp [fl_Wire]) (gs := fl_Wire y x1) rfl fun H2 e2 k => q H2 ⟨dx, e2⟩ k
theorem g_Wire_kept_sent {T : Tx K mg} {H : Hp} {p : Addr} {x0 x1 : V} {Q : VK} (h : At_Wire T H p x0 x1) (q : Q x1 H) : FldK K "kept_sent" Q (.ref p) H := by obtain ⟨dx, e⟩ := h; exact s_fdk e T.cl_Wire T.na_Wire_kept_sent rfl q
theorem p_Wire_kept_sent {T : Tx K mg} {H : Hp} {p : Addr} {x0 x1 y : V} {R : Hp → Prop} (h : At_Wire T H p x0 x1) (q : ∀ H2, At_Wire T H2 p x0 y → Kp [p] H H2 → R H2) : SetK K "kept_sent" y R (.ref p) H := by obtain ⟨dx, e⟩ := h; exact s_sdk e T.cl_Wire T.na_Wire_kept_sent (by simp [fl_Wire]) (gs := fl_Wire x0 y) rfl fun H2 e2 k => q H2 ⟨dx, e2⟩ k
theorem u_Wire_kept_sent {T : Tx K mg} {H : Hp} {p : Addr} {x0 x1 : V} {R : Addr → Addr → V → Hp → Prop} (h : At_Wire T H p x0 x1) (q : R p T.C_Wire x1 H) : FaK K "kept_sent" R (.ref p) H := by obtain ⟨dx, e⟩ := h; exact s_fak e T.cl_Wire T.na_Wire_kept_sent rfl q
theorem w_Wire_kept_sent {T : Tx K mg} {H : Hp} {p : Addr} {x0 x1 y : V} {R : Hp → Prop} (h : At_Wire T H p x0 x1) (q : ∀ H2, At_Wire T H2 p x0 y → Kp [p] H H2 → R H2) : FbK "kept_sent" p T.C_Wire R y H := by obtain ⟨dx, e⟩ := h; exact s_fbk e (by simp [fl_Wire]) (gs := fl_Wire x0 y) rfl fun H2 e2 k => q H2 ⟨dx, e2⟩ k
theorem k_Wire_send {T : Tx K mg} {H : Hp} {p : Addr} {x0 x1 : V} {R : V → Hp → Prop} (h : At_Wire T H p x0 x1) (q : R (.ref p) H) : MtK T.C_Wire "send" R (.ref p) H := by obtain ⟨dx, e⟩ := h; exact s_mtk e rfl q
theorem k_Wire_need {T : Tx K mg} {H : Hp} {p : Addr} {x0 x1 : V} {R : V → Hp → Prop} (h : At_Wire T H p x0 x1) (q : R (.ref p) H) : MtK T.C_Wire "need" R (.ref p) H := by obtain ⟨dx, e⟩ := h; exact s_mtk e rfl q
theorem k_Wire_get {T : Tx K mg} {H : Hp} {p : Addr} {x0 x1 : V} {R : V → Hp → Prop} (h : At_Wire T H p x0 x1) (q : R (.ref p) H) : MtK T.C_Wire "get" R (.ref p) H := by obtain ⟨dx, e⟩ := h; exact s_mtk e rfl q
theorem k_Wire_lose {T : Tx K mg} {H : Hp} {p : Addr} {x0 x1 : V} {R : V → Hp → Prop} (h : At_Wire T H p x0 x1) (q : R (.ref p) H) : MtK T.C_Wire "lose" R (.ref p) H := by obtain ⟨dx, e⟩ := h; exact s_mtk e rfl q
theorem k_Wire_under_way {T : Tx K mg} {H : Hp} {p : Addr} {x0 x1 : V} {R : V → Hp → Prop} (h : At_Wire T H p x0 x1) (q : R (.ref p) H) : MtK T.C_Wire "under_way" R (.ref p) H := by obtain ⟨dx, e⟩ := h; exact s_mtk e rfl q
theorem k_Wire_sent {T : Tx K mg} {H : Hp} {p : Addr} {x0 x1 : V} {R : V → Hp → Prop} (h : At_Wire T H p x0 x1) (q : R (.ref p) H) : MtK T.C_Wire "sent" R (.ref p) H := by obtain ⟨dx, e⟩ := h; exact s_mtk e rfl q
theorem k_Wire_twin {T : Tx K mg} {H : Hp} {p : Addr} {x0 x1 : V} {R : V → Hp → Prop} (h : At_Wire T H p x0 x1) (q : R (.ref p) H) : MtK T.C_Wire "twin" R (.ref p) H := by obtain ⟨dx, e⟩ := h; exact s_mtk e rfl q
theorem i_Wire_kept_words {T : Tx K mg} {H : Hp} {p dx : Addr} {x0 : V} {R : Hp → Prop} (h : H p = some (.ins T.C_Wire dx [])) (q : ∀ H2, H2 p = some (.ins T.C_Wire dx [("kept_words", x0)]) → Kp [p] H H2 → R H2) : SetK K "kept_words" x0 R (.ref p) H := s_sdk h T.cl_Wire T.na_Wire_kept_words (by simp) rfl q
theorem i_Wire_kept_sent {T : Tx K mg} {H : Hp} {p dx : Addr} {x0 x1 : V} {R : Hp → Prop} (h : H p = some (.ins T.C_Wire dx [("kept_words", x0)])) (q : ∀ H2, H2 p = some (.ins T.C_Wire dx [("kept_words", x0), ("kept_sent", x1)]) → Kp [p] H H2 → R H2) : SetK K "kept_sent" x1 R (.ref p) H := s_sdk h T.cl_Wire T.na_Wire_kept_sent (by simp) rfl q
local macro_rules | `(tactic| walk_at "u2") => `(tactic| first
  | ((with_reducible refine' g_Wire_kept_words ?uat ?_); (case uat => walk_at "g"))
  | ((with_reducible refine' u_Wire_kept_words ?uat ?_); (case uat => walk_at "g"))
  | ((with_reducible refine' g_Wire_kept_sent ?uat ?_); (case uat => walk_at "g"))
  | ((with_reducible refine' u_Wire_kept_sent ?uat ?_); (case uat => walk_at "g"))
  | ((with_reducible refine' k_Wire_send ?uat ?_); (case uat => walk_at "g"))
  | ((with_reducible refine' k_Wire_need ?uat ?_); (case uat => walk_at "g"))
  | ((with_reducible refine' k_Wire_get ?uat ?_); (case uat => walk_at "g"))
  | ((with_reducible refine' k_Wire_lose ?uat ?_); (case uat => walk_at "g"))
  | ((with_reducible refine' k_Wire_under_way ?uat ?_); (case uat => walk_at "g"))
  | ((with_reducible refine' k_Wire_sent ?uat ?_); (case uat => walk_at "g"))
  | ((with_reducible refine' k_Wire_twin ?uat ?_); (case uat => walk_at "g")))
local macro_rules | `(tactic| walk_at "g2") => `(tactic| first
  | ((refine' At_Wire.kpn ?ugm ?ugk ?ugn); (case ugk => assumption); (case ugm => walk_at "g"); (case ugn => walk_at "n")))
local macro_rules | `(tactic| walk_at "t2") => `(tactic| first
  | exact At_Wire.th (by assumption))
theorem ok_NoNumber_init (T : Tx K mg) : FnOk P w K mg base (L2.CX P w) 1 T.a_NoNumber_init T.d_NoNumber_init ["self", "found"] (spE T.C_NoNumber "found") := by
  refine T.F_NoNumber_init.okX sc_NoNumber_init (fun vs H Q E h => ?_) (fun cd A o s H vs Q E hr h => ?_)
  · obtain ⟨v0, v1, rfl, h⟩ := h; rfl
  obtain ⟨v0, v1, rfl, a, rfl, ha, k⟩ := h
  refine ⟨_, (pss_cons (ps_expr (pe_se (K := K) rfl rfl T.m_StaffError T.rd_StaffError T.vi_StaffError (pa_cons (pv 0) (pa_cons pe_str pa_nil))))
    (pss_one (ps_os (K := K) rfl (pv 0) (pv 1)))), ?_⟩
  walk_at "u"
  refine s_sek T.er_NoNumber.oex ha ?_
  walk_at "u"
  exact ⟨a, T.C_NoNumber, rfl, T.er_NoNumber.oex, T.er_NoNumber.no, ha, k⟩
theorem ok_NoWord_init (T : Tx K mg) : FnOk P w K mg base (L2.CX P w) 1 T.a_NoWord_init T.d_NoWord_init ["self", "found"] (spE T.C_NoWord "found") := by
  refine T.F_NoWord_init.okX sc_NoWord_init (fun vs H Q E h => ?_) (fun cd A o s H vs Q E hr h => ?_)
  · obtain ⟨v0, v1, rfl, h⟩ := h; rfl
  obtain ⟨v0, v1, rfl, a, rfl, ha, k⟩ := h
  refine ⟨_, (pss_cons (ps_expr (pe_se (K := K) rfl rfl T.m_StaffError T.rd_StaffError T.vi_StaffError (pa_cons (pv 0) (pa_cons pe_str pa_nil))))
    (pss_one (ps_os (K := K) rfl (pv 0) (pv 1)))), ?_⟩
  walk_at "u"
  refine s_sek T.er_NoWord.oex ha ?_
  walk_at "u"
  exact ⟨a, T.C_NoWord, rfl, T.er_NoWord.oex, T.er_NoWord.no, ha, k⟩
/-- take: a number below many -/
def sp_law_take : Sp := sp2 fun x y H Q _ => ∃ (p : Addr) (m : Int) (n : Nat), x = .ref p ∧ y = .int m ∧ Box H p n ∧ n ≤ 1000000 ∧ 0 < m ∧ m < 10 ^ 40 ∧
  ∀ (d : Int) (H' : Hp), 0 ≤ d → d < m → Box H' p (n + 1) → Kp [p] H H' → Q (.int d) H'
set_option maxHeartbeats 16000000 in
theorem ok_law_take (T : Tx K mg) : FnOk P w K mg base (L2.CX P w) 1 T.a_law_take T.d_law_take ["_law_box_here", "_law_many"] (sp_law_take) := by
  refine T.F_law_take.okX sc_law_take (fun vs H Q E h => ?_) (fun cd A o s H vs Q E hr h => ?_)
  · obtain ⟨v0, v1, rfl, h⟩ := h; rfl
  obtain ⟨v0, v1, rfl, h⟩ := h
  obtain ⟨p, m, n, rfl, rfl, ⟨a, b, c, hp, ha, hb, hb2, hc, hc2⟩, hn, hm, hm2, k⟩ := h
  refine ⟨_, (pss_cons (ps_if (pt_cmpR o_gt (pe_ix (ix_u (K := K) rfl) (pv 0) pe_int (fun _ _ => rfl)) pe_int (nomark _))
    (pss_cons (ps_set (i := 3) sc_law_take.nd rfl (Or.inl rfl) (pe_op o_mod (pe_ix (ix_u (K := K) rfl) (pv 0) pe_int (fun _ _ => rfl)) (pv 1)))
    (pss_cons (ps_asg (pe_op o_div (pe_ix (ix_u (K := K) rfl) (pv 0) pe_int (fun _ _ => rfl)) (pv 1)) (pg_sub (pv 0) pe_int (set_u hr)))
    (pss_one (ps_ret (pv 3)))))
    pss_nil)
    (pss_cons (ps_asg (pe_op (o_add (K := K) rfl) (pe_ix (ix_u (K := K) rfl) (pv 0) pe_int (fun _ _ => rfl)) pe_int) (pg_sub (pv 0) pe_int (set_u hr)))
    (pss_cons (ps_set (i := 2) sc_law_take.nd rfl (Or.inl rfl) (pe_op o_mod (pe_op o_pow (pe_op (o_add (K := K) rfl) (pe_op (o_add (K := K) rfl) (pe_ix (ix_u (K := K) rfl) (pv 0) pe_int (fun _ _ => rfl)) (pe_op o_mul pe_int (pe_ix (ix_u (K := K) rfl) (pv 0) pe_int (fun _ _ => rfl)))) pe_int) pe_int) pe_int))
    (pss_cons (ps_set (i := 2) sc_law_take.nd rfl (Or.inl rfl) (pe_op o_mod (pe_op o_pow (pe_op (o_add (K := K) rfl) (pv 2) (pe_op o_mul pe_int (pe_ix (ix_u (K := K) rfl) (pv 0) pe_int (fun _ _ => rfl)))) pe_int) pe_int))
    (pss_one (ps_ret (pe_op o_mod (pe_op o_div (pv 2) pe_int) (pv 1)))))))), ?_⟩
  rw [st_law_take]
  walk_at "u"
  refine s_ite (fun h0 => ?_) (fun h0 => ?_)
  · walk_at "u"
    refine s_ul hp rfl rfl fun H1 e1 k1 => ?_
    walk_at "u"
    refine k _ _ (Int.emod_nonneg _ (by omega)) (Int.emod_lt_of_pos _ hm) ⟨_, _, _, e1, Int.ediv_nonneg ha (by omega), hb, hb2, hc, by omega⟩ k1
  · walk_at "u"
    refine s_ul hp rfl rfl fun H1 e1 k1 => ?_
    walk_at "u"
    have h1 : (0 : Int) ≤ (b + 7919 * (c + 1) + 47) ^ 5 % 2147483647 := Int.emod_nonneg _ (by omega)
    have h2 : (b + 7919 * (c + 1) + 47) ^ 5 % 2147483647 < 2147483647 := Int.emod_lt_of_pos _ (by omega)
    generalize (b + 7919 * (c + 1) + 47) ^ 5 % 2147483647 = y at h1 h2 ⊢
    walk_at "u"
    refine k _ _ (Int.emod_nonneg _ (by omega)) (Int.emod_lt_of_pos _ hm) ⟨_, _, _, e1, ha, hb, hb2, by omega, by omega⟩ k1
theorem c_take {p : Addr} {m : Int} {n : Nat} {H : Hp} {Q : VK} {E : XK} (hB : Box H p n) (hn : n ≤ 1000000) (h0 : 0 < m) (h1 : m < 10 ^ 40)
    (k : ∀ (d : Int) (H' : Hp), 0 ≤ d → d < m → Box H' p (n + 1) → Kp [p] H H' → Q (.int d) H') : sp_law_take [.ref p, .int m] H Q E := ⟨_, _, rfl, p, m, n, rfl, rfl, hB, hn, h0, h1, k⟩
def sp_law_cell (K : PySem.W.Frag) : Sp := sp2 fun x y H Q _ => ∃ (a : Addr) (ns : List Int) (k : Int), x = .ref a ∧ y = .int k ∧ SqL K H a (ns.map V.int) ∧ 0 ≤ k ∧ k < 1000 ∧ ∀ c : Int, Q (.int c) H
set_option maxHeartbeats 16000000 in
theorem ok_law_cell (T : Tx K mg) : FnOk P w K mg base (L2.CX P w) 1 T.a_law_cell T.d_law_cell ["_law_script", "_law_k"] (sp_law_cell K) := by
  refine T.F_law_cell.okX sc_law_cell (fun vs H Q E h => ?_) (fun cd A o s H vs Q E hr h => ?_)
  · obtain ⟨v0, v1, rfl, h⟩ := h; rfl
  obtain ⟨v0, v1, rfl, h⟩ := h
  obtain ⟨a, ns, k, rfl, rfl, hS, h0, h1, q⟩ := h
  refine ⟨_, (pss_cons (ps_if (pt_cmpR o_lt (pv 1) (pe_callB (c_len (K := K) rfl) rfl T.z_len bt_len (pa_cons (pv 0) pa_nil)) (nomark _))
    (pss_one (ps_ret (pe_ix (ix_u (K := K) rfl) (pv 0) (pv 1) (fun _ _ => rfl))))
    pss_nil)
    (pss_one (ps_ret (pe_op (o_add (K := K) rfl) (pe_op o_mul pe_int (pv 1)) pe_int)))), ?_⟩
  rw [st_law_cell]
  walk_at "u"
  refine s_lenL hS ?_
  walk_at "u"
  rw [List.length_map]
  refine s_ite (fun h2 => ?_) (fun h2 => ?_)
  · walk_at "u"
    obtain ⟨z, e1, e2⟩ := at_int (xs := ns.map V.int) h0 (by rw [List.length_map]; exact h2)
    rw [List.getElem?_map] at e1
    obtain ⟨c, _, rfl⟩ := Option.map_eq_some_iff.mp e1
    refine s_ixL hS e2 ?_
    walk_at "u"
    exact q c
  · walk_at "u"
    exact q _
theorem c_cell {K : PySem.W.Frag} {a : Addr} {ns : List Int} {k : Int} {H : Hp} {Q : VK} {E : XK} (hS : SqL K H a (ns.map V.int)) (h0 : 0 ≤ k) (h1 : k < 1000) (q : ∀ c : Int, Q (.int c) H) : sp_law_cell K [.ref a, .int k] H Q E := ⟨_, _, rfl, a, ns, k, rfl, rfl, hS, h0, h1, q⟩
def sp_law_box : Sp := sp1 fun x H Q _ => ∃ (c : Int), x = .int c ∧ ∀ p H', H p = none → Kp [] H H' → Box H' p 0 → Q (.ref p) H'
set_option maxHeartbeats 16000000 in
theorem ok_law_box (T : Tx K mg) : FnOk P w K mg base (L2.CX P w) 1 T.a_law_box T.d_law_box ["_law_cell_here"] (sp_law_box) := by
  refine T.F_law_box.okX sc_law_box (fun vs H Q E h => ?_) (fun cd A o s H vs Q E hr h => ?_)
  · obtain ⟨v0, rfl, h⟩ := h; rfl
  obtain ⟨v0, rfl, h⟩ := h
  obtain ⟨c, rfl, k⟩ := h
  refine ⟨_, (pss_one (ps_ret (pe_lst (pa_cons (pe_callB (c_max rfl) rfl T.z_max bt_max (pa_cons pe_int (pa_cons (pe_op o_sub (pv 0) (pe_op o_pow pe_int pe_int)) pa_nil))) (pa_cons (pe_op o_mod (pv 0) pe_int) (pa_cons pe_int pa_nil)))))), ?_⟩
  rw [st_law_box]
  walk_at "u"
  refine s_newl (zle (by simp)) fun p H1 hp e1 k1 => k p _ hp k1 ⟨_, _, _, e1, ?_, Int.emod_nonneg _ (by decide), Int.emod_lt_of_pos _ (by decide), Int.le_refl _, Int.le_refl _⟩
  split <;> omega
theorem c_box {c : Int} {H : Hp} {Q : VK} {E : XK} (q : ∀ p H', H p = none → Kp [] H H' → Box H' p 0 → Q (.ref p) H') : sp_law_box [.int c] H Q E := ⟨_, rfl, c, rfl, q⟩
local macro_rules | `(tactic| walk_at "tk") => `(tactic| (refine c_take (by walk_at "g") (by omega) (by first | decide | omega) (by first | decide | omega) ?_))
local macro_rules | `(tactic| walk_at "cl") => `(tactic| (refine c_cell (by walk_at "g") (by omega) (by omega) ?_))

def isWhole (v : V) (lo hi : Int) : Bool := match v with | .int i => decide (lo ≤ i) && decide (i ≤ hi) | _ => false
def sp_is_whole : Sp := sp3 fun x y z H Q _ => ∃ (lo hi : Int) (t : Kd), y = .int lo ∧ z = .int hi ∧ TyN H x t ∧ Q (.bl (isWhole x lo hi)) H
set_option maxHeartbeats 16000000 in
theorem ok_is_whole (T : Tx K mg) : FnOk P w K mg base (L2.CX P w) 1 T.a_is_whole T.d_is_whole ["thing", "low", "high"] (sp_is_whole) := by
  refine T.F_is_whole.okX sc_is_whole (fun vs H Q E h => ?_) (fun cd A o s H vs Q E hr h => ?_)
  · obtain ⟨v0, v1, v2, rfl, h⟩ := h; rfl
  obtain ⟨v0, v1, v2, rfl, h⟩ := h
  obtain ⟨lo, hi, t, rfl, rfl, ht, k⟩ := h
  refine ⟨_, (pss_one (ps_ret (pe_and (pe_callB (c_isi (K := K) rfl) rfl T.z_isinstance bt_isinstance (pa_cons (pv 0) (pa_cons (pe_ty rfl T.z_int bt_int) pa_nil))) (pe_and (pe_not (pe_callB (c_isi (K := K) rfl) rfl T.z_isinstance bt_isinstance (pa_cons (pv 0) (pa_cons (pe_ty rfl T.z_bool bt_bool) pa_nil)))) (pe_one (pe_chain o_le o_le (pv 1) (pv 0) (pv 2))))))), ?_⟩
  rw [st_is_whole]
  cases ht <;> walk_at "u"
  all_goals try exact k
  rename_i i
  refine s_ite (fun h1 => ?_) (fun h1 => ?_)
  · walk_at "u"
    have e : isWhole (V.int i) lo hi = (decide (lo ≤ i) && decide (i ≤ hi)) := rfl
    rw [e, decide_eq_true h1, Bool.true_and] at k
    exact k
  · have e : isWhole (V.int i) lo hi = (decide (lo ≤ i) && decide (i ≤ hi)) := rfl
    rw [e, decide_eq_false h1, Bool.false_and] at k
    exact k
theorem whole_int {v : V} {lo hi : Int} (h : isWhole v lo hi = true) : ∃ n, v = .int n ∧ lo ≤ n ∧ n ≤ hi := by
  cases v <;> simp_all [isWhole]

/-- the words of a wire as a dict -/
def kk (ws : List (Int × V)) : List (Key × V) := ws.map fun p => ((Sum.inl p.1 : Key), p.2)
theorem kk_keys (ws : List (Int × V)) : (kk ws).map (·.1) = (ws.map (·.1)).map Sum.inl := by
  simp [kk, List.map_map]
theorem kk_val (ws : List (Int × V)) (n : Int) : valV (kk ws) (Sum.inl n : Key) = (ws.find? fun p => decide (p.1 = n)).map (·.2) := by
  induction ws with
  | nil => rfl
  | cons p r ih =>
    by_cases h : p.1 = n
    · rw [show kk (p :: r) = ((Sum.inl p.1 : Key), p.2) :: kk r from rfl, valV_pos (by rw [h]), List.find?_cons_of_pos (by simpa using h)]
      rfl
    · rw [show kk (p :: r) = ((Sum.inl p.1 : Key), p.2) :: kk r from rfl, valV_neg (by intro z; injection z with z; exact h z), List.find?_cons_of_neg (by simpa using h)]
      exact ih
theorem kk_put {ws : List (Int × V)} {n : Int} {v : V} (h : ∀ p ∈ ws, p.1 < n) : putK (kk ws) (Sum.inl n : Key) v = kk (ws ++ [(n, v)]) := by
  have h1 : ((kk ws).any fun kv => decide (kv.1 = (Sum.inl n : Key))) = false := by
    rw [List.any_eq_false]
    intro x hx
    obtain ⟨p, hp, rfl⟩ := List.mem_map.mp hx
    have := h p hp
    simp only [decide_eq_true_eq]
    intro z
    injection z with z
    omega
  unfold putK
  rw [h1]
  simp [kk]
theorem kk_drop (ws : List (Int × V)) (n : Int) : dropK (kk ws) (Sum.inl n : Key) = kk (ws.filter fun p => decide (p.1 ≠ n)) := by
  unfold dropK kk
  rw [List.filter_map]
  congr 1
  apply List.filter_congr
  intro p _
  simp only [Function.comp]
  rw [decide_eq_decide]
  constructor
  · intro h z; exact h (by rw [z])
  · intro h z; injection z with z; exact h z
/-- a wire, the words under way in their order -/
structure Wr (T : Tx K mg) (H : Hp) (p d : Addr) (ws : List (Int × V)) (n : Int) : Prop where
  at' : At_Wire T H p (.ref d) (.int n)
  dc : H d = some (.dK (kk ws))
  le : ∀ q ∈ ws, 0 ≤ q.1 ∧ q.1 < n
  up : (ws.map (·.1)).Pairwise (· < ·)
  ln : ws.length ≤ 100000
  n0 : 0 ≤ n
theorem Wr.kp {T : Tx K mg} {H H2 : Hp} {p d : Addr} {ws : List (Int × V)} {n : Int} (h : Wr T H p d ws n) (k : Kp [] H H2) : Wr T H2 p d ws n := ⟨h.at'.kp k, k.get0 h.dc, h.le, h.up, h.ln, h.n0⟩
theorem Wr.kpn {T : Tx K mg} {H H2 : Hp} {p d : Addr} {ws : List (Int × V)} {n : Int} {ps : List Addr} (h : Wr T H p d ws n) (k : Kp ps H H2) (n1 : p ∉ ps) (n2 : d ∉ ps) : Wr T H2 p d ws n := ⟨h.at'.kpn k n1, k.get h.dc n2, h.le, h.up, h.ln, h.n0⟩
theorem Wr.ne {T : Tx K mg} {H : Hp} {p d : Addr} {ws : List (Int × V)} {n : Int} (h : Wr T H p d ws n) : p ≠ d := by
  obtain ⟨dx, e⟩ := h.at'
  exact ne_of e h.dc (by intro z; cases z)
def sp_Wire_init (T : Tx K mg) : Sp := sp1 fun x H Q _ => ∃ p dx, x = .ref p ∧ H p = some (.ins T.C_Wire dx []) ∧ ∀ d H', H d = none → Wr T H' p d [] 0 → Kp [p] H H' → Q .non H'
set_option maxHeartbeats 16000000 in
theorem ok_Wire_init (T : Tx K mg) : FnOk P w K mg base (L2.CX P w) 1 T.a_Wire_init T.d_Wire_init ["self"] (sp_Wire_init T) := by
  refine T.F_Wire_init.okX sc_Wire_init (fun vs H Q E h => ?_) (fun cd A o s H vs Q E hr h => ?_)
  · obtain ⟨v0, rfl, h⟩ := h; rfl
  obtain ⟨v0, rfl, h⟩ := h
  obtain ⟨p, dx, rfl, hp, k⟩ := h
  refine ⟨_, (pss_cons (ps_fd (K := K) rfl (pv 0) pe_dnewK rfl)
    (pss_one (ps_fd (K := K) rfl (pv 0) pe_int rfl))), ?_⟩
  rw [st_Wire_init]
  walk_at "u"
  refine s_dnew fun d H0 f0 e0 k0 => ?_
  have nd : d ≠ p := (ne_of_none hp f0).symm
  walk_at "u"
  refine i_Wire_kept_words (k0.get0 hp) fun H1 e1 k1 => ?_
  walk_at "u"
  refine i_Wire_kept_sent e1 fun H2 e2 k2 => ?_
  walk_at "u"
  exact k d _ f0 ⟨⟨_, e2⟩, k2.get1 (k1.get1 e0 nd) nd, by simp, by simp, by simp, by omega⟩ ((k0.nil.trans k1).trans k2)
def sp_Wire_send (T : Tx K mg) : Sp := sp2 fun x y H Q _ => ∃ p d ws n, x = .ref p ∧ Wr T H p d ws n ∧ ws.length < 100000 ∧ ∀ H', Wr T H' p d (ws ++ [(n, y)]) (n + 1) → Kp [p, d] H H' → Q (.int n) H'
set_option maxHeartbeats 16000000 in
theorem ok_Wire_send (T : Tx K mg) : FnOk P w K mg base (L2.CX P w) 1 T.a_Wire_send T.d_Wire_send ["self", "word"] (sp_Wire_send T) := by
  refine T.F_Wire_send.okX sc_Wire_send (fun vs H Q E h => ?_) (fun cd A o s H vs Q E hr h => ?_)
  · obtain ⟨v0, v1, rfl, h⟩ := h; rfl
  obtain ⟨v0, v1, rfl, h⟩ := h
  obtain ⟨p, d, ws, n, rfl, hW, hl, k⟩ := h
  refine ⟨_, (pss_cons (ps_set (i := 2) sc_Wire_send.nd rfl (Or.inl rfl) (pe_fd (K := K) rfl (pv 0) rfl))
    (pss_cons (ps_asg (pv 1) (pg_sub (pe_fd (K := K) rfl (pv 0) rfl) (pv 2) (set_u hr)))
    (pss_cons (ps_fd (K := K) rfl (pv 0) (pe_op (o_add (K := K) rfl) (pv 2) pe_int) rfl)
    (pss_one (ps_ret (pv 2)))))), ?_⟩
  rw [st_Wire_send]
  have hp := hW.at'
  have hd := hW.dc
  have nd := hW.ne
  walk_at "u"
  refine s_udi hd (zlt (by simp [kk]; omega)) (kk_put fun q hq => (hW.le q hq).2) fun H1 e1 k1 => ?_
  have hp1 := hp.kpn k1 (by simpa using nd)
  walk_at "u"
  refine p_Wire_kept_sent hp1 fun H2 a2 k2 => ?_
  walk_at "u"
  refine k _ ⟨a2, k2.get1 e1 nd.symm, ?_, ?_, by simp; omega, by have := hW.n0; omega⟩ ((k1.mono (by simp)).trans (k2.mono (by simp)))
  · intro q hq
    have := hW.n0
    rcases List.mem_append.mp hq with hq | hq
    · have := hW.le q hq; omega
    · rw [List.mem_singleton.mp hq]
      exact ⟨this, by simp only []; omega⟩
  · rw [List.map_append, List.pairwise_append]
    refine ⟨hW.up, by simp, ?_⟩
    intro x hx y hy
    obtain ⟨q, hq, rfl⟩ := List.mem_map.mp hx
    have := (hW.le q hq).2
    simp at hy
    omega
/-- the word of a number -/
def has (ws : List (Int × V)) (y : V) : Option V := match y with | .int m => (ws.find? fun p => decide (p.1 = m)).map (·.2) | _ => none
theorem has_in {ws : List (Int × V)} {y w : V} (h : has ws y = some w) : ∃ m, y = .int m ∧ (m, w) ∈ ws := by
  cases y with
  | int m =>
    obtain ⟨q, hq, rfl⟩ := Option.map_eq_some_iff.mp (show (ws.find? fun p => decide (p.1 = m)).map (·.2) = some w from h)
    have h1 := List.find?_some hq
    have h2 := List.mem_of_find?_eq_some hq
    have : q.1 = m := by simpa using h1
    subst this
    exact ⟨_, rfl, h2⟩
  | _ => cases h
def sp_Wire_need (T : Tx K mg) : Sp := sp2 fun x y H Q E => ∃ p d ws n kd, x = .ref p ∧ Wr T H p d ws n ∧ TyN H y kd ∧ (∀ w, has ws y = some w → Q .non H) ∧
  (has ws y = none → ∀ a H', H a = none → H' a = some (.xd [("found", y)]) → Kp [] H H' → E (.ref T.C_NoWord) (some a) H')
set_option maxHeartbeats 16000000 in
theorem ok_Wire_need (T : Tx K mg) : FnOk P w K mg base (L2.CX P w) 3 T.a_Wire_need T.d_Wire_need ["self", "number"] (sp_Wire_need T) := by
  have G_NoWord_init := ok_NoWord_init (P := P) (w := w) (base := base) T
  have G_is_whole := ok_is_whole (P := P) (w := w) (base := base) T
  refine T.F_Wire_need.okX sc_Wire_need (fun vs H Q E h => ?_) (fun cd A o s H vs Q E hr h => ?_)
  · obtain ⟨v0, v1, rfl, h⟩ := h; rfl
  obtain ⟨v0, v1, rfl, h⟩ := h
  obtain ⟨p, d, ws, n, kd, rfl, hW, hy, k1, k2⟩ := h
  refine ⟨_, (pss_one (ps_if (PW.pt (pw_or (pt_not (pt_val (pe_co G_is_whole (hr.mono (by decide)) rfl T.m_is_whole T.F_is_whole.kp T.B_is_whole (takes_of (E := E) rfl rfl rfl rfl) (pa_cons (pv 1) (pa_cons pe_int (pa_cons (pe_op o_sub (pe_fd (K := K) rfl (pv 0) rfl) pe_int) pa_nil)))))) (pw_or1 (pt_cmp (pc_nin hr (pv 1) (pe_fd (K := K) rfl (pv 0) rfl))))))
    (pss_one (ps_rz rfl T.er_NoWord.oex T.er_NoWord.iC T.er_NoWord.tI G_NoWord_init (hr.mono (by decide)) T.B_NoWord_init rfl T.m_NoWord (takes_of (E := E) rfl rfl rfl rfl) (pv 1)))
    pss_nil)), ?_⟩
  rw [st_Wire_need]
  have hp := hW.at'
  have hd := hW.dc
  walk_at "w"
  refine s_ifS (jT (fun c H1 => H1 = H ∧ c = (has ws v1).isNone) (fun c H1 => ?_) (fun _ key => ?_))
  · rintro ⟨rfl, rfl⟩
    cases e : has ws v1 with
    | none =>
      walk_at "u"
      exact fun a H' => k2 e a H'
    | some w =>
      walk_at "u"
      exact k1 w e
  · walk_at "u"
    refine ⟨_, _, _, rfl, 0, n - 1, kd, rfl, rfl, hy, ?_⟩
    cases e : isWhole v1 0 (n - 1) with
    | true =>
      obtain ⟨m, rfl, m0, m1⟩ := whole_int e
      walk_at "u"
      refine s_dni hd ?_
      walk_at "u"
      refine key _ _ ⟨rfl, ?_⟩
      rw [kk_val]
      show (!(has ws (.int m)).isSome) = _
      cases has ws (.int m) <;> rfl
    | false =>
      walk_at "u"
      refine key _ _ ⟨rfl, ?_⟩
      cases e2 : has ws v1 with
      | none => rfl
      | some w =>
        obtain ⟨m, rfl, hm⟩ := has_in e2
        have := hW.le _ hm
        simp [isWhole] at e
        omega
theorem Wr.drop {T : Tx K mg} {H H2 : Hp} {p d : Addr} {ws : List (Int × V)} {n m : Int} (h : Wr T H p d ws n) (k : Kp [d] H H2) (e : H2 d = some (.dK (kk (ws.filter fun p => decide (p.1 ≠ m))))) : Wr T H2 p d (ws.filter fun p => decide (p.1 ≠ m)) n :=
  ⟨h.at'.kpn k (by simpa using h.ne), e, fun q hq => h.le q (List.mem_filter.mp hq).1, h.up.sublist (List.Sublist.map _ List.filter_sublist), Nat.le_trans (List.length_filter_le _ _) h.ln, h.n0⟩
def sp_Wire_get (T : Tx K mg) : Sp := sp2 fun x y H Q E => ∃ p d ws n kd, x = .ref p ∧ Wr T H p d ws n ∧ TyN H y kd ∧ (∀ m w, y = .int m → has ws y = some w → ∀ H', Wr T H' p d (ws.filter fun p => decide (p.1 ≠ m)) n → Kp [d] H H' → Q w H') ∧
  (has ws y = none → ∀ a H', H a = none → H' a = some (.xd [("found", y)]) → Kp [] H H' → E (.ref T.C_NoWord) (some a) H')
set_option maxHeartbeats 16000000 in
theorem ok_Wire_get (T : Tx K mg) : FnOk P w K mg base (L2.CX P w) 4 T.a_Wire_get T.d_Wire_get ["self", "number"] (sp_Wire_get T) := by
  have G_Wire_need := ok_Wire_need (P := P) (w := w) (base := base) T
  refine T.F_Wire_get.okX sc_Wire_get (fun vs H Q E h => ?_) (fun cd A o s H vs Q E hr h => ?_)
  · obtain ⟨v0, v1, rfl, h⟩ := h; rfl
  obtain ⟨v0, v1, rfl, h⟩ := h
  obtain ⟨p, d, ws, n, kd, rfl, hW, hy, k1, k2⟩ := h
  refine ⟨_, (pss_cons (ps_expr (pe_mo T.cl_Wire T.M_Wire_need G_Wire_need (hr.mono (by decide)) T.B_Wire_need (takes_of (E := E) rfl rfl rfl rfl) (pv 0) (pa_cons (pv 1) pa_nil)))
    (pss_one (ps_ret (pe_pop (pe_fd (K := K) rfl (pv 0) rfl) (pv 1) ⟨rfl, rfl, rfl, rfl⟩)))), ?_⟩
  rw [st_Wire_get]
  have hp := hW.at'
  have hd := hW.dc
  walk_at "u"
  refine ⟨_, _, rfl, p, d, ws, n, kd, rfl, hW, hy, fun w e => ?_, k2⟩
  obtain ⟨m, rfl, hm⟩ := has_in e
  walk_at "u"
  refine s_popj hd ?_
  walk_at "u"
  refine s_popk hd (by rw [kk_val]; exact e) (kk_drop ws m) fun H1 e1 j1 => ?_
  walk_at "u"
  exact k1 m w rfl e _ (hW.drop j1 e1) j1
def sp_Wire_lose (T : Tx K mg) : Sp := sp2 fun x y H Q E => ∃ p d ws n kd, x = .ref p ∧ Wr T H p d ws n ∧ TyN H y kd ∧ (∀ m w, y = .int m → has ws y = some w → ∀ H', Wr T H' p d (ws.filter fun p => decide (p.1 ≠ m)) n → Kp [d] H H' → Q .non H') ∧
  (has ws y = none → ∀ a H', H a = none → H' a = some (.xd [("found", y)]) → Kp [] H H' → E (.ref T.C_NoWord) (some a) H')
set_option maxHeartbeats 16000000 in
theorem ok_Wire_lose (T : Tx K mg) : FnOk P w K mg base (L2.CX P w) 4 T.a_Wire_lose T.d_Wire_lose ["self", "number"] (sp_Wire_lose T) := by
  have G_Wire_need := ok_Wire_need (P := P) (w := w) (base := base) T
  refine T.F_Wire_lose.okX sc_Wire_lose (fun vs H Q E h => ?_) (fun cd A o s H vs Q E hr h => ?_)
  · obtain ⟨v0, v1, rfl, h⟩ := h; rfl
  obtain ⟨v0, v1, rfl, h⟩ := h
  obtain ⟨p, d, ws, n, kd, rfl, hW, hy, k1, k2⟩ := h
  refine ⟨_, (pss_cons (ps_expr (pe_mo T.cl_Wire T.M_Wire_need G_Wire_need (hr.mono (by decide)) T.B_Wire_need (takes_of (E := E) rfl rfl rfl rfl) (pv 0) (pa_cons (pv 1) pa_nil)))
    (pss_one (ps_expr (pe_pop (pe_fd (K := K) rfl (pv 0) rfl) (pv 1) ⟨rfl, rfl, rfl, rfl⟩)))), ?_⟩
  rw [st_Wire_lose]
  have hp := hW.at'
  have hd := hW.dc
  walk_at "u"
  refine ⟨_, _, rfl, p, d, ws, n, kd, rfl, hW, hy, fun w e => ?_, k2⟩
  obtain ⟨m, rfl, hm⟩ := has_in e
  walk_at "u"
  refine s_popj hd ?_
  walk_at "u"
  refine s_popk hd (by rw [kk_val]; exact e) (kk_drop ws m) fun H1 e1 j1 => ?_
  walk_at "u"
  exact k1 m w rfl e _ (hW.drop j1 e1) j1
def sp_Wire_sent (T : Tx K mg) : Sp := sp1 fun x H Q _ => ∃ p d ws n, x = .ref p ∧ Wr T H p d ws n ∧ Q (.int n) H
set_option maxHeartbeats 16000000 in
theorem ok_Wire_sent (T : Tx K mg) : FnOk P w K mg base (L2.CX P w) 1 T.a_Wire_sent T.d_Wire_sent ["self"] (sp_Wire_sent T) := by
  refine T.F_Wire_sent.okX sc_Wire_sent (fun vs H Q E h => ?_) (fun cd A o s H vs Q E hr h => ?_)
  · obtain ⟨v0, rfl, h⟩ := h; rfl
  obtain ⟨v0, rfl, h⟩ := h
  obtain ⟨p, d, ws, n, rfl, hW, k⟩ := h
  refine ⟨_, (pss_one (ps_ret (pe_fd (K := K) rfl (pv 0) rfl))), ?_⟩
  rw [st_Wire_sent]
  have hp := hW.at'
  walk_at "u"
  exact k
theorem same_keys {ys ks : List Int} (h : ys.Perm ks) (h1 : ys.Pairwise (· ≤ ·)) (h2 : ks.Pairwise (· < ·)) : ys = ks :=
  List.Perm.eq_of_pairwise (le := (· ≤ ·)) (fun a b _ _ x y => Int.le_antisymm x y) h1 (h2.imp fun h => Int.le_of_lt h) h
theorem has_at {ws : List (Int × V)} (up : (ws.map (·.1)).Pairwise (· < ·)) {q : Int × V} (h : q ∈ ws) : valV (kk ws) (Sum.inl q.1 : Key) = some q.2 := by
  rw [kk_val]
  induction ws with
  | nil => cases h
  | cons p r ih =>
    rw [List.map_cons, List.pairwise_cons] at up
    rcases List.mem_cons.mp h with rfl | h
    · rw [List.find?_cons_of_pos (by simp)]; rfl
    · have := up.1 q.1 (List.mem_map.mpr ⟨q, h, rfl⟩)
      rw [List.find?_cons_of_neg (by simp; omega)]
      exact ih up.2 h
def sp_Wire_under_way (T : Tx K mg) : Sp := sp1 fun x H Q _ => ∃ p d ws n, x = .ref p ∧ Wr T H p d ws n ∧ ∀ (l : Addr) (us : List Addr) H', H l = none → H' l = some (.lst (us.map V.ref)) → us.length = ws.length →
  (∀ (i : Nat) u q, us[i]? = some u → ws[i]? = some q → H' u = some (.tup [.int q.1, q.2])) → Kp [] H H' → Q (.ref l) H'
set_option maxHeartbeats 16000000 in
theorem ok_Wire_under_way (T : Tx K mg) : FnOk P w K mg base (L2.CX P w) 1 T.a_Wire_under_way T.d_Wire_under_way ["self"] (sp_Wire_under_way T) := by
  refine T.F_Wire_under_way.okX sc_Wire_under_way (fun vs H Q E h => ?_) (fun cd A o s H vs Q E hr h => ?_)
  · obtain ⟨v0, rfl, h⟩ := h; rfl
  obtain ⟨v0, rfl, h⟩ := h
  obtain ⟨p, d, ws, n, rfl, hW, k⟩ := h
  refine ⟨_, (pss_one (ps_ret (pe_lc (own := [("number", 1)]) rfl sc_Wire_under_way.nd (pi_lst (K := K) rfl (pe_callB (c_sortD rfl) rfl T.z_sorted bt_sorted (pa_cons (pe_fd (K := K) rfl (pv 0) rfl) pa_nil))) (blkOk_by (own := [("number", 1)]) (N := N_Wire_under_way) (sc := defScope s_Wire_under_way) (by decide +kernel)) (fun _ _ _ _ _ => (pg_name (i := 1) sc_Wire_under_way.nd rfl (Or.inl rfl))) (fun _ _ _ _ _ => pts_nil) (fun _ _ _ _ _ => (pe_tup (pa_cons (pv 1) (pa_cons (pe_dg hr (pe_fd (K := K) rfl (pv 0) rfl) (pv 1) (fun _ _ => rfl)) pa_nil))))))), ?_⟩
  rw [st_Wire_under_way]
  have hp := hW.at'
  have hd := hW.dc
  walk_at "u"
  refine s_sortD hd (kk_keys ws) fun ys l0 H1 pm pw f0 e0 k0 => ?_
  obtain rfl := same_keys pm pw hW.up
  refine s_ilst (SqL.of e0) ?_
  intro D hD
  have hW1 := hW.kp k0
  refine lc_it (walk_list (xs := (ws.map (·.1)).map V.int)) (PvD D fun i acc H' => Kp [D] H1 H' ∧ ∃ us : List Addr, acc = us.map V.ref ∧ us.length = i ∧ ∀ (j : Nat) u q, us[j]? = some u → ws[j]? = some q → H' u = some (.tup [.int q.1, q.2]))
    (PvD.start ⟨Kp.refl.new hD, [], rfl, rfl, fun j u q e => by simp at e⟩) (fun _ _ _ h => by obtain ⟨acc, _, kk', _⟩ := h; exact SqL.of (kk'.get1 e0 (ne_of_none e0 hD))) ?_ ?_
  · rintro i x H2 H3 hi ⟨acc, e, kd, us, rfl, hl, ho⟩ ⟨rfl, ex⟩
    rw [List.getElem?_map, List.getElem?_map] at ex
    obtain ⟨x1, ex1, rfl⟩ := Option.map_eq_some_iff.mp ex
    obtain ⟨q, eq, rfl⟩ := Option.map_eq_some_iff.mp ex1
    have hW2 := hW1.kpn kd (by simpa using (hW1.at'.ne hD).symm) (by simpa using ne_of_none hW1.dc hD)
    have hp2 := hW2.at'
    have hd2 := hW2.dc
    walk_at "u"
    refine ⟨rfl, ?_⟩
    walk_at "u"
    refine s_dgi hd2 (has_at hW.up (List.mem_of_getElem? eq)) ?_
    walk_at "u"
    walk_at "na"
    intro c H4 fc ec jc
    have e4 := jc.get0 e
    have nc : c ≠ D := (ne_of_none e fc).symm
    refine PvD.more e4 (zlt ?_) ⟨((kd.trans jc.nil).put (by simp) (.lst e4)), us ++ [c], by rw [List.map_append]; rfl, by simp [hl], ?_⟩
    · have := hW.ln
      have := (List.getElem?_eq_some_iff.mp eq).1
      rw [List.length_map, hl]
      omega
    · intro j u q' h1 h2
      have up : ∀ {u xs}, H4 u = some (.tup xs) → upd H4 D (.lst (us.map V.ref ++ [.ref c])) u = some (.tup xs) := fun e' => by rw [upd_ne (ne_of e' e4 (by intro z; cases z))]; exact e'
      rcases Nat.lt_or_ge j us.length with hj | hj
      · rw [List.getElem?_append_left hj] at h1
        exact up (jc.get0 (ho j u q' h1 h2))
      · rw [List.getElem?_append_right hj] at h1
        have hj0 : j - us.length = 0 := by
          have := (List.getElem?_eq_some_iff.mp h1).1
          simp at this
          omega
        rw [hj0] at h1
        obtain rfl : c = u := by simpa using h1
        obtain rfl : j = i := by omega
        rw [eq] at h2
        cases h2
        exact up ec
  · rintro H2 ⟨acc, e, kd, us, rfl, hl, ho⟩
    walk_at "u"
    exact k D us H2 (k0.fresh0 hD) e (by rw [hl, List.length_map, List.length_map]) ho (k0.trans (kd.drop hD))
theorem Wr.th {T : Tx K mg} {H : Hp} {p d : Addr} {ws : List (Int × V)} {n : Int} (h : Wr T H p d ws n) : Th H p 5 := h.at'.th
theorem Wr.thd {T : Tx K mg} {H : Hp} {p d : Addr} {ws : List (Int × V)} {n : Int} (h : Wr T H p d ws n) : Th H d 2 := .dK h.dc
local macro_rules | `(tactic| walk_at "g2") => `(tactic| first
  | ((refine' Wr.kpn ?ugm ?ugk ?uga ?ugb); (case ugk => assumption); (case ugm => walk_at "g"); (case uga => walk_at "n"); (case ugb => walk_at "n"))
  | ((refine' Wr.at' ?ugw); (case ugw => walk_at "g"))
  | ((refine' Wr.dc ?ugw); (case ugw => assumption)))
local macro_rules | `(tactic| walk_at "t2") => `(tactic| first | exact Wr.th (by assumption) | exact Wr.thd (by assumption))

def sp_Wire_twin (T : Tx K mg) : Sp := sp1 fun x H Q _ => ∃ p d ws n, x = .ref p ∧ Wr T H p d ws n ∧ ∀ q e H', H q = none → H e = none → Wr T H' q e ws n → Kp [] H H' → Q (.ref q) H'
set_option maxHeartbeats 16000000 in
theorem ok_Wire_twin (T : Tx K mg) : FnOk P w K mg base (L2.CX P w) 3 T.a_Wire_twin T.d_Wire_twin ["self"] (sp_Wire_twin T) := by
  have G_Wire_init := ok_Wire_init (P := P) (w := w) (base := base) T
  refine T.F_Wire_twin.okX sc_Wire_twin (fun vs H Q E h => ?_) (fun cd A o s H vs Q E hr h => ?_)
  · obtain ⟨v0, rfl, h⟩ := h; rfl
  obtain ⟨v0, rfl, h⟩ := h
  obtain ⟨p, d, ws, n, rfl, hW, k⟩ := h
  refine ⟨_, (pss_cons (ps_set (i := 1) sc_Wire_twin.nd rfl (Or.inl rfl) (pe_nw0 T.mk_Wire G_Wire_init (hr.mono (by decide)) rfl T.m_Wire T.B_Wire_init (takes_of (E := E) rfl rfl rfl rfl)))
    (pss_cons (ps_fd (K := K) rfl (pv 1) (pe_callTy c_dict rfl T.z_dict bt_dict (pa_cons (pe_fd (K := K) rfl (pv 0) rfl) pa_nil)) rfl)
    (pss_cons (ps_fd (K := K) rfl (pv 1) (pe_fd (K := K) rfl (pv 0) rfl) rfl)
    (pss_one (ps_ret (pv 1)))))), ?_⟩
  rw [st_Wire_twin]
  walk_at "u"
  intro q dx H1 f1 e1 k1
  refine ⟨_, rfl, q, dx, rfl, e1, fun d1 H2 f2 a2 k2 => ⟨rfl, ?_⟩⟩
  walk_at "u"
  refine s_dict (kvs := kk ws) (by walk_at "g") fun e H3 f3 e3 k3 => ?_
  walk_at "u"
  refine p_Wire_kept_words (by walk_at "g") fun H4 a4 k4 => ?_
  walk_at "u"
  refine p_Wire_kept_sent a4 fun H5 a5 k5 => ?_
  walk_at "u"
  exact k q e _ (by walk_at "f") (by walk_at "f") ⟨a5, by walk_at "g", hW.le, hW.up, hW.ln, hW.n0⟩ (by walk_at "k")

/-- words of a wire, as data -/
abbrev Ks := List (Int × PyData)
inductive Wv (K : PySem.W.Frag) (H : Hp) : List (Int × V) → Ks → Prop
  | nil : Wv K H [] []
  | cons {m : Int} {v : V} {d : PyData} {ws : List (Int × V)} {ks : Ks} : Dn K (vis [] H) v d → Wv K H ws ks → Wv K H ((m, v) :: ws) ((m, d) :: ks)
section
variable {H H1 : Hp} {ws : List (Int × V)} {ks : Ks} {vs : List V} {ps : List Addr} {m : Int} {ns : List Int} {v : V} {d : PyData}
theorem vk (k : Kp ps H H1) : Kp [] (vis [] H) (vis [] H1) := vis_kp k fun _ _ z => nomatch z
theorem Wv.kp (h : Wv K H ws ks) (k : Kp ps H H1) : Wv K H1 ws ks := by
  induction h with
  | nil => exact .nil
  | cons e _ ih => exact .cons (e.kp (vk k)) ih
theorem Wv.flt (h : Wv K H ws ks) (m : Int) : Wv K H (ws.filter fun p => decide (p.1 ≠ m)) (ks.filter fun p => decide (p.1 ≠ m)) := by
  induction h with
  | nil => exact .nil
  | @cons x v d ws ks e _ ih =>
    by_cases c : x = m
    · rw [List.filter_cons_of_neg (by simpa using c), List.filter_cons_of_neg (by simpa using c)]
      exact ih
    · rw [List.filter_cons_of_pos (by simpa using c), List.filter_cons_of_pos (by simpa using c)]
      exact .cons e ih
theorem Wv.app (h : Wv K H ws ks) (e : Dn K (vis [] H) v d) : Wv K H (ws ++ [(m, v)]) (ks ++ [(m, d)]) := by
  induction h with
  | nil => exact .cons e .nil
  | cons e1 _ ih => exact .cons e1 ih
theorem has_eq : has ws (.int m) = (ws.find? fun p => decide (p.1 = m)).map (·.2) := rfl
theorem Wv.yes (h : Wv K H ws ks) (hm : (ks.find? fun p => decide (p.1 = m)) = some (m, d)) : ∃ v, has ws (.int m) = some v ∧ Dn K (vis [] H) v d := by
  induction h with
  | nil => cases hm
  | @cons x v d' ws ks e _ ih =>
    by_cases c : x = m
    · subst c
      rw [List.find?_cons_of_pos (by simp)] at hm
      cases hm
      exact ⟨v, by rw [has_eq, List.find?_cons_of_pos (by simp)]; rfl, e⟩
    · rw [List.find?_cons_of_neg (by simpa using c)] at hm
      obtain ⟨u', h1, h2⟩ := ih hm
      exact ⟨u', by rw [has_eq] at h1 ⊢; rw [List.find?_cons_of_neg (by simpa using c)]; exact h1, h2⟩
theorem Wv.no (h : Wv K H ws ks) (hm : ∀ q ∈ ks, q.1 ≠ m) : has ws (.int m) = none := by
  induction h with
  | nil => rfl
  | @cons x v d ws ms e _ ih =>
    have c : ¬ x = m := hm _ List.mem_cons_self
    have := ih fun q z => hm q (List.mem_cons_of_mem _ z)
    rw [has_eq] at this ⊢
    rw [List.find?_cons_of_neg (by simpa using c)]
    exact this
theorem Wv.no' (h : Wv K H ws ks) (hm : ∀ m q, v = .int m → q ∈ ks → q.1 ≠ m) : has ws v = none := by
  cases v with
  | int m => exact h.no fun q hq => hm m q rfl hq
  | _ => rfl
theorem Wv.len (h : Wv K H ws ks) : ws.length = ks.length := by
  induction h with
  | nil => rfl
  | cons e _ ih => simp [ih]
def dK (ks : Ks) : List PyData := ks.map fun q => .tuple [.int q.1, q.2]
theorem Wv.du0 : ∀ {ws : List (Int × V)} {ks : Ks} {us : List Addr}, Wv K H ws ks → us.length = ws.length → (∀ (i : Nat) u q, us[i]? = some u → ws[i]? = some q → H u = some (.tup [.int q.1, q.2])) → DnA K (vis [] H) (us.map V.ref) (dK ks)
  | _, _, [], .nil, _, _ => .nil
  | _, _, t :: us, .cons e h, hl, hh => .cons (.tup (SqT.of (vis_tup (hh 0 t _ rfl rfl))) (.cons (.int _) (.cons e .nil))) (Wv.du0 h (by simpa using hl) fun i u q h1 h2 => hh (i + 1) u q (by simpa using h1) (by simpa using h2))
/-- data that == may look at -/
structure Ey (d : PyData) : Prop where
  lay : d.canLay0 = true
  dp : d.depth ≤ 3
theorem lay_K : ∀ {ks : Ks}, (∀ q ∈ ks, Ey q.2) → PyData.canLayAll0 (dK ks) = true ∧ PyData.depthAll (dK ks) ≤ 4
  | [], _ => ⟨rfl, by simp [dK, PyData.depthAll]⟩
  | q :: lo, h => by
    obtain ⟨h1, h2⟩ := lay_K (ks := lo) fun x hx => h x (List.mem_cons_of_mem _ hx)
    obtain ⟨g1, g2⟩ := h q List.mem_cons_self
    have e : dK (q :: lo) = .tuple [.int q.1, q.2] :: dK lo := rfl
    rw [e]
    refine ⟨?_, ?_⟩
    · simp only [PyData.canLayAll0, PyData.canLay0, h1, g1, Bool.and_true]
    · simp only [PyData.depthAll, PyData.depth]
      omega
theorem shp_K (h : ∀ q ∈ ks, Ey q.2) : SeqAt.shaped (.list (dK ks)) = true := by
  obtain ⟨h1, h2⟩ := lay_K h
  unfold SeqAt.shaped
  rw [Bool.and_eq_true]
  refine ⟨by simpa only [PyData.canLay0] using h1, decide_eq_true ?_⟩
  simp only [PyData.depth]
  omega
theorem Ey.shp (h : Ey d) : SeqAt.shaped d = true := by
  unfold SeqAt.shaped
  rw [Bool.and_eq_true]
  refine ⟨h.lay, decide_eq_true ?_⟩
  have := h.dp
  omega
def dw (m : Int) : PyData := .tuple [.str "w", .int m]
def kw (ns : List Int) : Ks := ns.map fun m => (m, dw m)
theorem w_ok : PyData.strOk ("w" : Str) = true := by decide +kernel
theorem Ey.dw : Ey (K12.dw m) := ⟨by simp only [K12.dw, PyData.canLay0, PyData.canLayAll0, Bool.and_true, w_ok], by simp [K12.dw, PyData.depth, PyData.depthAll]⟩
theorem Ey.one : Ey (.tuple [.int m]) := ⟨by simp only [PyData.canLay0, PyData.canLayAll0, Bool.and_true], by simp [PyData.depth, PyData.depthAll]⟩
theorem ey_kw : ∀ q ∈ kw ns, Ey q.2 := fun q hq => by
  obtain ⟨m, _, rfl⟩ := List.mem_map.mp hq
  exact Ey.dw
theorem kw_find (h : m ∈ ns) : ((kw ns).find? fun p => decide (p.1 = m)) = some (m, dw m) := by
  induction ns with
  | nil => cases h
  | cons x ns ih =>
    by_cases c : x = m
    · subst c
      exact List.find?_cons_of_pos (by simp)
    · show ((x, dw x) :: kw ns).find? _ = _
      rw [List.find?_cons_of_neg (by simpa using c)]
      exact ih (by rcases List.mem_cons.mp h with z | z; exact (c z.symm).elim; exact z)
theorem kw_flt (m : Int) : (kw ns).filter (fun p => decide (p.1 ≠ m)) = kw (ns.filter fun p => decide (p ≠ m)) := by
  unfold kw
  rw [List.filter_map]
  rfl
theorem kw_no (h : m ∉ ns) : ∀ q ∈ kw ns, q.1 ≠ m := fun q hq e => by
  obtain ⟨x, hx, rfl⟩ := List.mem_map.mp hq
  exact h (e ▸ hx)
theorem dn_w {t : Addr} (h : H t = some (.tup [.str "w", .int m])) : Dn K (vis [] H) (.ref t) (dw m) := .tup (SqT.of (vis_tup h)) (.cons (.str _) (.cons (.int _) .nil))
end
/-- the list that a wire tells -/
inductive Du (K : PySem.W.Frag) (H : Hp) : List V → Ks → Prop
  | nil : Du K H [] []
  | cons {t : Addr} {m : Int} {v : V} {d : PyData} {vs : List V} {ks : Ks} : H t = some (.tup [.int m, v]) → Dn K (vis [] H) v d → Du K H vs ks → Du K H (.ref t :: vs) ((m, d) :: ks)
section
variable {H H1 : Hp} {ks : Ks} {vs : List V} {ps : List Addr} {m : Int} {v : V} {d : PyData}
theorem Du.kp (h : Du K H vs ks) (k : Kp ps H H1) : Du K H1 vs ks := by
  induction h with
  | nil => exact .nil
  | cons e f _ ih => exact .cons (k.tgt e) (f.kp (vk k)) ih
theorem Du.app {t : Addr} (h : Du K H vs ks) (e1 : H t = some (.tup [.int m, v])) (e2 : Dn K (vis [] H) v d) : Du K H (vs ++ [.ref t]) (ks ++ [(m, d)]) := by
  induction h with
  | nil => exact .cons e1 e2 .nil
  | cons a b _ ih => exact .cons a b ih
theorem Du.at (h : Du K H vs ks) {i : Nat} {x : V} (e : vs[i]? = some x) : ∃ t m v d, ks[i]? = some (m, d) ∧ x = .ref t ∧ H t = some (.tup [.int m, v]) ∧ Dn K (vis [] H) v d := by
  induction h generalizing i with
  | nil => simp at e
  | @cons t m v d vs ks e1 e2 _ ih =>
    cases i with
    | zero => exact ⟨t, m, v, d, rfl, by simpa using e.symm, e1, e2⟩
    | succ i => exact ih (by simpa using e)
theorem Du.len (h : Du K H vs ks) : vs.length = ks.length := by
  induction h with
  | nil => rfl
  | cons e _ _ ih => simp [ih]
theorem Wv.du : ∀ {ws : List (Int × V)} {ks : Ks} {us : List Addr}, Wv K H ws ks → us.length = ws.length → (∀ (i : Nat) u q, us[i]? = some u → ws[i]? = some q → H u = some (.tup [.int q.1, q.2])) → Du K H (us.map V.ref) ks
  | _, _, [], .nil, _, _ => .nil
  | _, _, t :: us, .cons e h, hl, hh => .cons (hh 0 t _ rfl rfl) e (Wv.du h (by simpa using hl) fun i u q h1 h2 => hh (i + 1) u q (by simpa using h1) (by simpa using h2))
theorem Du.dn (h : Du K H vs ks) : DnA K H vs (dK ks) := by
  induction h with
  | nil => exact .nil
  | cons e f _ ih => exact .cons (.tup (SqT.of e) (.cons (.int _) (.cons (f.kp vis_le) .nil))) ih
end
def sp_law_caught (T : Tx K mg) : Sp := sp3 fun x y z H Q _ => ∃ (p d : Addr) (ws : List (Int × V)) (n way : Int) (kd : Kd), x = .ref p ∧ y = .int way ∧ Wr T H p d ws n ∧ TyN H z kd ∧ has ws z = none ∧ ∀ t H', H' t = some (.tup [.str "word", z, .bl false]) → Kp [] H H' → Q (.ref t) H'
set_option maxHeartbeats 16000000 in
theorem ok_law_caught (T : Tx K mg) : FnOk P w K mg base (L2.CX P w) 5 T.a_law_caught T.d_law_caught ["_law_wire", "_law_way", "_law_number"] (sp_law_caught T) := by
  have G_Wire_get := ok_Wire_get (P := P) (w := w) (base := base) T
  have G_Wire_lose := ok_Wire_lose (P := P) (w := w) (base := base) T
  refine T.F_law_caught.okX sc_law_caught (fun vs H Q E h => ?_) (fun cd A o s H vs Q E hr h => ?_)
  · obtain ⟨v0, v1, v2, rfl, h⟩ := h; rfl
  obtain ⟨v0, v1, v2, rfl, h⟩ := h
  obtain ⟨p, d, ws, n, way, kd, rfl, rfl, hW, hy, hn, k⟩ := h
  refine ⟨_, (pss_cons (ps_set (i := 3) sc_law_caught.nd rfl (Or.inl rfl) (pe_tup (pa_cons pe_str (pa_cons pe_non pa_nil))))
    (pss_cons (ps_try (K := K) rfl rfl rfl sc_law_caught.nd (takes_of (E := E) rfl rfl rfl rfl) (fun W pn xe tk po => (pss_one (ps_if (pt_cmpR (o_eq (K := K) rfl hr) (pv 1) pe_int (nomark _))
    (pss_one (ps_expr (pe_mo T.cl_Wire T.M_Wire_get G_Wire_get (hr.mono (by decide)) T.B_Wire_get tk (pv 0) (pa_cons (pv 2) pa_nil))))
    (pss_one (ps_expr (pe_mo T.cl_Wire T.M_Wire_lose G_Wire_lose (hr.mono (by decide)) T.B_Wire_lose tk (pv 0) (pa_cons (pv 2) pa_nil)))))))
    (ClOk.as (i := 4) ⟨rfl, by decide, Or.inl T.m_NoWord⟩ rfl rfl (fun a oe cls d pn hz hf => (pss_one (ps_set (i := 3) sc_law_caught.nd rfl (Or.inl rfl) (pe_tup (pa_cons pe_str (pa_cons (pe_xe T.er_NoWord hz hf (pv 4)) (pa_cons (pe_callB (c_isx (K := K) rfl T.er_NoWord T.oc_get T.oc_take hz hf) rfl T.z_isinstance bt_isinstance (pa_cons (pv 4) (pa_cons (pe_glob rfl T.m_NoNumber (show RelV (V.ref T.C_NoNumber) (Value.ref T.C_NoNumber) from rfl)) pa_nil))) pa_nil)))))))
    (ClOk.only ⟨rfl, by decide, Or.inl T.m_StaffError⟩ (fun a oe cls d pn hz hf => (pss_one (ps_set (i := 3) sc_law_caught.nd rfl (Or.inl rfl) (pe_tup (pa_cons pe_str (pa_cons pe_non pa_nil))))))
    ClOk.nil)))
    (pss_one (ps_ret (pv 3))))), ?_⟩
  rw [st_law_caught]
  walk_at "u"
  walk_at "na"
  intro t1 H1 f1 e1 k1
  have hy1 := hy.kp k1
  walk_at "u"
  refine s_ite (fun h => ?_) (fun h => ?_)
  · walk_at "u"
    refine ⟨_, _, rfl, p, d, ws, n, kd, rfl, by walk_at "g", hy1, fun m w _ z => (by rw [hn] at z; cases z), fun _ a H2 f2 e2 k2 => ?_⟩
    refine ⟨true, T.ex_NoWord_NoWord, fun _ ea fa => ?_, fun z => nomatch z⟩
    walk_at "u"
    refine s_xek e2 rfl ?_
    walk_at "u"
    refine s_isx e2 T.ki_NoWord_NoNumber ?_
    walk_at "u"
    walk_at "na"
    intro t3 H3 f3 e3 k3
    simp only [endS, dropS, putS]
    walk_at "u"
    exact k t3 H3 e3 (by walk_at "k")
  · walk_at "u"
    refine ⟨_, _, rfl, p, d, ws, n, kd, rfl, by walk_at "g", hy1, fun m w _ z => (by rw [hn] at z; cases z), fun _ a H2 f2 e2 k2 => ?_⟩
    refine ⟨true, T.ex_NoWord_NoWord, fun _ ea fa => ?_, fun z => nomatch z⟩
    walk_at "u"
    refine s_xek e2 rfl ?_
    walk_at "u"
    refine s_isx e2 T.ki_NoWord_NoNumber ?_
    walk_at "u"
    walk_at "na"
    intro t3 H3 f3 e3 k3
    simp only [endS, dropS, putS]
    walk_at "u"
    exact k t3 H3 e3 (by walk_at "k")
theorem more_ss : SS ("more" : Str) 20 := SS.mk' (by decide +kernel)
theorem word_ss : SS ("word" : Str) 20 := SS.mk' (by decide +kernel)
theorem sh3 {H : Hp} {p : Addr} {v : V} {d : PyData} {n : Nat} (e : H p = some (.tup [.str "word", v, .bl false])) (h : Dn K H v d) (b : Bd d n) (hn : n ≤ 15000000) : Sh K H (.ref p) (.tuple [.str "word", d, .bool false]) := by
  have w := Bd.str word_ss
  refine ⟨.tup (SqT.of e) (.cons (.str _) (.cons h (.cons (.bl _) .nil))), ⟨w.good, b.good, trivial, trivial⟩, ?_, ?_⟩
  · have := b.depth
    simp only [PyData.depth, PyData.depthAll]
    omega
  · have := b.sz
    have := w.sz
    simp only [sz, szA] at *
    omega
def sp_law_refuses (T : Tx K mg) : Sp := sp2 fun x y H Q _ => ∃ (p d : Addr) (ws : List (Int × V)) (n : Int) (dt : PyData) (F : List Addr), x = .ref p ∧ Wr T H p d ws n ∧ Ot K H "more" y dt F ∧ Bd dt 3000 ∧ has ws y = none ∧ (∀ a ∈ F, a ≠ p ∧ a ≠ d ∧ ∃ i, Th H a i) ∧ ∀ dt' H', Ot K H' "more" y dt' F → Kp F H H' → Q (.bl true) H'
set_option maxHeartbeats 16000000 in
theorem ok_law_refuses (T : Tx K mg) (hs : ∃ mm, base.Ns sysModules mm) : FnG P w K mg base (L2.CX P w) 6 T.a_law_refuses T.d_law_refuses ["_law_wire", "_law_thing"] (sp_law_refuses T) := by
  have G_law_caught := ok_law_caught (P := P) (w := w) (base := base) T
  refine okG T.F_law_refuses sc_law_refuses (fun vs H Q E h => ?_) (fun cd A o s H vs Q E hg hr h => ?_)
  · obtain ⟨v0, v1, rfl, h⟩ := h; rfl
  obtain ⟨v0, v1, rfl, h⟩ := h
  obtain ⟨p, d, ws, n, dt, F, rfl, hW, hO, hb, hn, hF, k⟩ := h
  refine ⟨_, (pss_cons (ps_for PassesOwn.leaving rfl (pi_lst (K := K) rfl (pe_lst (pa_cons pe_int (pa_cons pe_int (pa_cons pe_int (pa_cons pe_int pa_nil)))))) (pg_name (i := 2) sc_law_refuses.nd rfl (Or.inl rfl))
    (pss_cons (ps_set (i := 3) sc_law_refuses.nd rfl (Or.inl rfl) (pe_co G_law_caught (hr.mono (by decide)) rfl T.m_law_caught T.F_law_caught.kp T.B_law_caught (takes_of (E := E) rfl rfl rfl rfl) (pa_cons (pv 0) (pa_cons (pv 2) (pa_cons (pv 1) pa_nil)))))
    (pss_cons (ps_if (pt_cmpR (o_ne (K := K) rfl hr) (pe_callB (c_repr (K := K) rfl hg hr hs) rfl T.z_repr bt_repr (pa_cons (pv 3) pa_nil)) (pe_callB (c_repr (K := K) rfl hg hr hs) rfl T.z_repr bt_repr (pa_cons (pe_tup (pa_cons pe_str (pa_cons (pv 1) (pa_cons pe_bl pa_nil)))) pa_nil)) (nomark _))
    (pss_one (ps_ret pe_bl))
    pss_nil)
    (pss_cons (ps_if (pt_val (pe_callB (c_isi (K := K) rfl) rfl T.z_isinstance bt_isinstance (pa_cons (pv 1) (pa_cons (pe_ty rfl T.z_list bt_list) pa_nil))))
    (pss_one (ps_expr (pe_bm PySem.F.plainAttrs_list PySem.F.slot_list_append PySem.F.type_list_append mt_append (pv 1) (pa_cons pe_int pa_nil))))
    pss_nil)
    (pss_cons (ps_if (pt_val (pe_callB (c_isi (K := K) rfl) rfl T.z_isinstance bt_isinstance (pa_cons (pv 1) (pa_cons (pe_ty rfl T.z_dict bt_dict) pa_nil))))
    (pss_one (ps_asg pe_int (pg_sub (pv 1) pe_str (set_u hr))))
    pss_nil)
    (pss_one (ps_if (pt_cmpR (o_ne (K := K) rfl hr) (pe_callB (c_repr (K := K) rfl hg hr hs) rfl T.z_repr bt_repr (pa_cons (pe_ix (ix_u (K := K) rfl) (pv 3) pe_int (fun _ _ => rfl)) pa_nil)) (pe_callB (c_repr (K := K) rfl hg hr hs) rfl T.z_repr bt_repr (pa_cons (pv 1) pa_nil)) (nomark _))
    (pss_one (ps_ret pe_bl))
    pss_nil)))))))
    (pss_one (ps_ret pe_bl))), ?_⟩
  rw [st_law_refuses]
  have np : p ∉ F := fun m => (hF p m).1 rfl
  have nd : d ∉ F := fun m => (hF d m).2.1 rfl
  walk_at "u"
  walk_at "na"
  intro l1 H1 f1 e1 k1
  have nl : l1 ∉ F := fun m => by
    obtain ⟨_, _, i, hi⟩ := hF l1 m
    exact hi.ne f1 rfl
  walk_at "u"
  refine s_ilst (SqL.of e1) ?_
  refine for_L e1 (fun i σ H' => (∃ dt', Ot K H' "more" v1 dt' F ∧ Bd dt' (3000 + 500 * i)) ∧ Kp F H1 H' ∧ ∃ u2 u3, σ = [some (.ref p), some v1, u2, u3]) ⟨⟨dt, hO.kp k1, hb⟩, Kp.refl, _, _, rfl⟩ (fun i σ' H' q o e => q.2.1.get e nl) ?_ ?_
  · rintro i x σ H2 ex ⟨⟨dt', O2, b2⟩, k2, u2, u3, rfl⟩
    have hi : i < 4 := (List.getElem?_eq_some_iff.mp ex).1
    obtain ⟨way, rfl⟩ : ∃ w, x = .int w := by
      have := List.mem_of_getElem? ex
      simp only [List.mem_cons, List.not_mem_nil, or_false] at this
      rcases this with h | h | h | h <;> exact ⟨_, h⟩
    obtain ⟨kd, ty⟩ := O2.ty
    walk_at "u"
    refine ⟨_, _, _, rfl, p, d, ws, n, way, kd, rfl, rfl, by walk_at "g", ty, hn, fun t H3 e3 k3 => ?_⟩
    walk_at "u"
    refine s_rep (sh3 e3 (O2.kp k3).dn b2 (by omega)) ?_
    walk_at "u"
    walk_at "na"
    intro t4 H4 f4 e4 k4
    have O4 := (O2.kp k3).kp k4
    walk_at "u"
    refine s_rep (sh3 e4 O4.dn b2 (by omega)) ?_
    walk_at "u"
    rw [decide_eq_true rfl]
    walk_at "u"
    rcases O4.cs more_ss with ⟨kd4, ty4, c1, c2⟩ | ⟨a, xs, rfl, ma, ea, hl, hs⟩ | ⟨a, kvs, rfl, ma, ea, hl, hs⟩
    · walk_at "u"
      refine s_itF c1 ?_
      walk_at "u"
      refine s_itF c2 ?_
      walk_at "u"
      refine s_rep (b2.sh O4.dn (by omega)) ?_
      walk_at "u"
      refine s_rep (b2.sh O4.dn (by omega)) ?_
      walk_at "u"
      rw [decide_eq_true rfl]
      walk_at "u"
      exact ⟨⟨dt', O4, b2.mono (by omega)⟩, by walk_at "k", _, _, rfl⟩
    · have := hl _ b2
      walk_at "u"
      refine s_app ea (zlt (by omega)) fun H5 e5 k5 => ?_
      obtain ⟨d5, O5, hb5⟩ := hs (.int 1) (.int 1) H5 (fun _ => .int 1) e5 k5
      have b5 := hb5 _ _ b2 (Bd.int (by decide +kernel)) (by simp [PyData.depth])
      walk_at "u"
      refine s_rep (b5.sh O5.dn (by omega)) ?_
      walk_at "u"
      refine s_rep (b5.sh O5.dn (by omega)) ?_
      walk_at "u"
      rw [decide_eq_true rfl]
      walk_at "u"
      have k25 : Kz F H2 H5 := ⟨((k3.trans k4).nil (ps := F)).step k5 (by simp [ma])⟩
      exact ⟨⟨d5, O5, b5.mono (by omega)⟩, k2.trans k25.k, _, _, rfl⟩
    · have := hl _ b2
      walk_at "u"
      refine s_uds ea (zlt (by omega)) rfl fun H5 e5 k5 => ?_
      obtain ⟨d5, O5, hb5⟩ := hs (.int 1) (.int 1) H5 (fun _ => .int 1) e5 k5
      have b5 := hb5 _ _ b2 (Bd.int (by decide +kernel)) (by simp [PyData.depth])
      walk_at "u"
      refine s_rep (b5.sh O5.dn (by omega)) ?_
      walk_at "u"
      refine s_rep (b5.sh O5.dn (by omega)) ?_
      walk_at "u"
      rw [decide_eq_true rfl]
      walk_at "u"
      have k25 : Kz F H2 H5 := ⟨((k3.trans k4).nil (ps := F)).step k5 (by simp [ma])⟩
      exact ⟨⟨d5, O5, b5.mono (by omega)⟩, k2.trans k25.k, _, _, rfl⟩
  · rintro σ H2 ⟨⟨dt', O2, b2⟩, k2, u2, u3, rfl⟩
    walk_at "u"
    exact k dt' H2 O2 (k1.nil.trans k2)
structure Oy (K : PySem.W.Frag) (H0 H : Hp) (sent : Int) (y : V) (d : PyData) (F : List Addr) : Prop where
  ot : Ot K H "more" y d F
  bd : Bd d 3000
  no : ∀ m, y = .int m → m < 0 ∨ sent ≤ m
  fr : ∀ a ∈ F, H0 a = none ∧ ∃ i, Th H a i
theorem Oy.kpn {H0 H H1 : Hp} {sent : Int} {y : V} {d : PyData} {F ps : List Addr} (h : Oy K H0 H sent y d F) (k : Kp ps H H1) (n : ∀ a ∈ ps, a ∉ F) : Oy K H0 H1 sent y d F :=
  ⟨h.ot.kpn k n, h.bd, h.no, fun a m => ⟨(h.fr a m).1, by obtain ⟨i, hi⟩ := (h.fr a m).2; exact ⟨i, hi.kp k⟩⟩⟩
theorem Oy.at' {H0 H : Hp} {sent : Int} {y : V} {d : PyData} (o : Od K H y d []) (b : Bd d 3000) (n : ∀ m, y = .int m → m < 0 ∨ sent ≤ m) (nr : ∀ a, y ≠ .ref a) : Oy K H0 H sent y d [] := ⟨.od o fun a _ e => (nr a e).elim, b, n, by simp⟩
theorem Oy.tup {H0 H : Hp} {sent : Int} {a : Addr} {xs : List V} {ds : List PyData} {F : List Addr} (e : H a = some (.tup xs)) (g : DnA K (vis F H) xs ds) (b : Bd (.tuple ds) 3000) (fr : ∀ a ∈ F, H0 a = none ∧ ∃ i, Th H a i) : Oy K H0 H sent (.ref a) (.tuple ds) F :=
  ⟨.od (Od.tup e g) fun a' kvs e1 e2 => (by cases e1; rw [e] at e2; cases e2), b, fun m z => (by cases z), fr⟩
theorem Oy.lst {H0 H : Hp} {sent : Int} {a : Addr} {xs : List V} {ds : List PyData} (e : H a = some (.lst xs)) (g : DnA K (vis [] H) xs ds) (b : Bd (.list ds) 3000) (fr : H0 a = none) : Oy K H0 H sent (.ref a) (.list ds) [a] :=
  ⟨.od (.lst e (by simp) g) fun a' kvs e1 e2 => (by cases e1; rw [e] at e2; cases e2), b, fun m z => (by cases z), by simp; exact ⟨fr, _, .lst e⟩⟩
theorem Oy.dic {H0 H : Hp} {sent : Int} {a : Addr} {kvs : List (Key × V)} {ds : List PyData} {F : List Addr} (e : H a = some (.dK kvs)) (n : a ∉ F) (g : DnA K (vis F H) (kvs.map (·.2)) ds) (nk : noKey "more" kvs) (b : Bd (.dict ((kvs.map fun p => keyD p.1).zip ds)) 3000) (fr : ∀ a ∈ F, H0 a = none ∧ ∃ i, Th H a i) (fa : H0 a = none) : Oy K H0 H sent (.ref a) (.dict ((kvs.map fun p => keyD p.1).zip ds)) (a :: F) :=
  ⟨.od (.dic e n g) fun a' kvs e1 e2 => (by cases e1; rw [e] at e2; cases e2; exact nk), b, fun m z => (by cases z), fun x m => by
    rcases List.mem_cons.mp m with rfl | m
    · exact ⟨fa, _, .dK e⟩
    · exact fr x m⟩
theorem noK_a {a : Addr} : noKey "more" [(Sum.inr "a", V.ref a)] := by
  show (decide ((Sum.inr "a" : Key) = (Sum.inr "more" : Key)) || false) = false
  rw [Bool.or_false]
  decide +kernel
theorem bd0 {d : PyData} (g : good d) (h1 : d.depth ≤ 90) (h2 : sz d ≤ 3000) : Bd d 3000 := ⟨g, h1, h2⟩
def sp_law_odds (K : PySem.W.Frag) : Sp := sp3 fun x y z H Q _ => ∃ (p g : Addr) (nb : Nat) (sent : Int) (gs : List Int), x = .ref p ∧ y = .int sent ∧ z = .ref g ∧ Box H p nb ∧ nb ≤ 900000 ∧ 0 ≤ sent ∧ sent ≤ 1000 ∧ H g = some (.lst (gs.map V.int)) ∧ gs.length ≤ 1000 ∧ g ≠ p ∧
  ∀ (l : Addr) (y1 y2 : V) (d1 d2 : PyData) (F1 F2 : List Addr) (H' : Hp), H l = none → H' l = some (.lst ([y1, y2, .int sent, .int (sent + 5)] ++ gs.map V.int)) → Oy K H H' sent y1 d1 F1 → Oy K H H' sent y2 d2 F2 → (∀ a ∈ F1, a ∉ F2) → (∀ a ∈ F2, a ∉ F1) → l ∉ F1 → l ∉ F2 → Box H' p (nb + 2) → Kp [p] H H' → Q (.ref l) H'
set_option maxHeartbeats 16000000 in
theorem ok_law_odds (T : Tx K mg) : FnOk P w K mg base (L2.CX P w) 2 T.a_law_odds T.d_law_odds ["_law_box_here", "_law_sent", "_law_gone"] (sp_law_odds K) := by
  have G_law_take := ok_law_take (P := P) (w := w) (base := base) T
  refine T.F_law_odds.okX sc_law_odds (fun vs H Q E h => ?_) (fun cd A o s H vs Q E hr h => ?_)
  · obtain ⟨v0, v1, v2, rfl, h⟩ := h; rfl
  obtain ⟨v0, v1, v2, rfl, h⟩ := h
  obtain ⟨p, g, nb, sent, gs, rfl, rfl, rfl, hB, hnb, hs0, hs1, eg, hgs, ng, k⟩ := h
  refine ⟨_, (pss_cons (ps_set (i := 3) sc_law_odds.nd rfl (Or.inl rfl) (pe_lst (pa_cons pe_non (pa_cons pe_bl (pa_cons pe_bl (pa_cons (pe_un un_neg pe_int) (pa_cons (pe_op (o_add (K := K) rfl) (pv 1) pe_int) (pa_cons (pe_op (o_add (K := K) rfl) (pv 1) pe_int) (pa_cons pe_str (pa_cons (pe_lst (pa_cons pe_int pa_nil)) (pa_cons (pe_tup (pa_cons pe_int pa_nil)) (pa_cons pe_dnewK (pa_cons (pe_op o_pow pe_int pe_int) (pa_cons pe_str (pa_cons (pe_tup (pa_cons (pe_lst (pa_cons pe_int pa_nil)) pa_nil)) (pa_cons (pe_dd (pps_cons pe_str (pe_lst (pa_cons pe_int pa_nil)) pps_nil) rfl rfl (by simp) (by decide)) (pa_cons (pe_tup (pa_cons pe_str (pa_cons pe_int pa_nil))) pa_nil)))))))))))))))))
    (pss_cons (ps_set (i := 4) sc_law_odds.nd rfl (Or.inl rfl) (pe_co G_law_take (hr.mono (by decide)) rfl T.m_law_take T.F_law_take.kp T.B_law_take (takes_of (E := E) rfl rfl rfl rfl) (pa_cons (pv 0) (pa_cons pe_int pa_nil))))
    (pss_one (ps_ret (pe_op (o_add (K := K) rfl) (pe_lst (pa_cons (pe_ix (ix_u (K := K) rfl) (pv 3) (pv 4) (fun _ _ => rfl)) (pa_cons (pe_ix (ix_u (K := K) rfl) (pv 3) (pe_op o_mod (pe_op (o_add (K := K) rfl) (pe_op (o_add (K := K) rfl) (pv 4) pe_int) (pe_co G_law_take (hr.mono (by decide)) rfl T.m_law_take T.F_law_take.kp T.B_law_take (takes_of (E := E) rfl rfl rfl rfl) (pa_cons (pv 0) (pa_cons pe_int pa_nil)))) pe_int) (fun _ _ => rfl)) (pa_cons (pv 1) (pa_cons (pe_op (o_add (K := K) rfl) (pv 1) pe_int) pa_nil))))) (pv 2)))))), ?_⟩
  rw [st_law_odds]
  walk_at "u"
  walk_at "na"
  intro a1 H1 f1 e1 k1
  walk_at "u"
  walk_at "na"
  intro a2 H2 f2 e2 k2
  walk_at "u"
  refine s_dnew fun a3 H3 f3 e3 k3 => ?_
  walk_at "u"
  walk_at "na"
  intro a4 H4 f4 e4 k4
  walk_at "u"
  walk_at "na"
  intro a5 H5 f5 e5 k5
  walk_at "u"
  refine s_dd fun a6 H6 f6 e6 k6 => ?_
  walk_at "u"
  walk_at "na"
  intro a7 H7 f7 e7 k7
  walk_at "u"
  refine s_ddk (kvs := [(Sum.inr "a", .ref a7)]) (ks := [(Sum.inr "a", .ref a7)]) (by walk_at "g") rfl (by simp) rfl fun H8 e8 k8 => ?_
  walk_at "u"
  walk_at "na"
  intro a8 H9 f9 e9 k9
  walk_at "u"
  walk_at "na"
  intro l10 H10 f10 e10 k10
  have g1 : H10 a1 = some (.lst [.int 0]) := by walk_at "g"
  have g2 : H10 a2 = some (.tup [.int 0]) := by walk_at "gt"
  have g3 : H10 a3 = some (.dK []) := by walk_at "g"
  have g4 : H10 a4 = some (.lst [.int 0]) := by walk_at "g"
  have g5 : H10 a5 = some (.tup [.ref a4]) := by walk_at "gt"
  have g6 : H10 a6 = some (.dK [(Sum.inr "a", .ref a7)]) := by walk_at "g"
  have g7 : H10 a7 = some (.lst [.int 1]) := by walk_at "g"
  have g8 : H10 a8 = some (.tup [.str "w", .int 0]) := by walk_at "gt"
  have n13 : a1 ≠ a3 := by walk_at "ne"
  have n14 : a1 ≠ a4 := by walk_at "ne"
  have n16 : a1 ≠ a6 := by walk_at "ne"
  have n17 : a1 ≠ a7 := by walk_at "ne"
  have n34 : a3 ≠ a4 := by walk_at "ne"
  have n36 : a3 ≠ a6 := by walk_at "ne"
  have n37 : a3 ≠ a7 := by walk_at "ne"
  have n46 : a4 ≠ a6 := by walk_at "ne"
  have n47 : a4 ≠ a7 := by walk_at "ne"
  have n67 : a6 ≠ a7 := by walk_at "ne"
  have h1 : H a1 = none := by walk_at "f"
  have h3 : H a3 = none := by walk_at "f"
  have h4 : H a4 = none := by walk_at "f"
  have h6 : H a6 = none := by walk_at "f"
  have h7 : H a7 = none := by walk_at "f"
  have hsi : sent.natAbs ≤ 1000 := by omega
  have all : ∀ (j : Nat) (y : V), ([.non, .bl true, .bl false, .int (-1), .int (sent + 1), .int (sent + 4), .str "0", .ref a1, .ref a2, .ref a3, .int 100000000000000000000000000000, .str "", .ref a5, .ref a6, .ref a8] : List V)[j]? = some y → ∃ d F, ([[], [], [], [], [], [], [], [a1], [], [a3], [], [], [a4], [a6, a7], []] : List (List Addr))[j]? = some F ∧ Oy K H H10 sent y d F := by
    intro j y e
    match j, e with
    | 0, e => cases Option.some.inj e; exact ⟨_, _, rfl, .at' .non (Bd.non.mono (by omega)) (fun _ z => nomatch z) fun _ z => nomatch z⟩
    | 1, e => cases Option.some.inj e; exact ⟨_, _, rfl, .at' .bl (Bd.bl.mono (by omega)) (fun _ z => nomatch z) fun _ z => nomatch z⟩
    | 2, e => cases Option.some.inj e; exact ⟨_, _, rfl, .at' .bl (Bd.bl.mono (by omega)) (fun _ z => nomatch z) fun _ z => nomatch z⟩
    | 3, e => cases Option.some.inj e; exact ⟨_, _, rfl, .at' .int ((Bd.int (by decide +kernel)).mono (by omega)) (fun _ z => by cases z; omega) fun _ z => nomatch z⟩
    | 4, e => cases Option.some.inj e; exact ⟨_, _, rfl, .at' .int ((Bd.int (Nat.lt_of_le_of_lt (show (sent + 1).natAbs ≤ 10000 by omega) (by decide +kernel))).mono (by omega)) (fun _ z => by cases z; omega) fun _ z => nomatch z⟩
    | 5, e => cases Option.some.inj e; exact ⟨_, _, rfl, .at' .int ((Bd.int (Nat.lt_of_le_of_lt (show (sent + 4).natAbs ≤ 10000 by omega) (by decide +kernel))).mono (by omega)) (fun _ z => by cases z; omega) fun _ z => nomatch z⟩
    | 6, e => cases Option.some.inj e; exact ⟨_, _, rfl, .at' .str ((Bd.str (n := 20) (SS.mk' (by decide +kernel))).mono (by omega)) (fun _ z => nomatch z) fun _ z => nomatch z⟩
    | 7, e => cases Option.some.inj e; exact ⟨_, _, rfl, .lst g1 (.cons (.int _) .nil) (bd0 (by simp [good, goodA]) (by simp [PyData.depth, PyData.depthAll]) (by simp [sz, szA])) h1⟩
    | 8, e => cases Option.some.inj e; exact ⟨_, _, rfl, .tup g2 (.cons (.int _) .nil) (bd0 (by simp [good, goodA]) (by simp [PyData.depth, PyData.depthAll]) (by simp [sz, szA])) (by simp)⟩
    | 9, e => cases Option.some.inj e; exact ⟨_, _, rfl, .dic g3 (by simp) .nil (by rfl) (bd0 (by simp [good, goodK]) (by simp [PyData.depth, PyData.depthKv]) (by simp [sz, szK])) (by simp) h3⟩
    | 10, e => cases Option.some.inj e; exact ⟨_, _, rfl, .at' .int ((Bd.int (by decide +kernel)).mono (by omega)) (fun _ z => by cases z; omega) fun _ z => nomatch z⟩
    | 11, e => cases Option.some.inj e; exact ⟨_, _, rfl, .at' .str ((Bd.str (n := 20) (SS.mk' (by decide +kernel))).mono (by omega)) (fun _ z => nomatch z) fun _ z => nomatch z⟩
    | 12, e => cases Option.some.inj e; exact ⟨_, _, rfl, .tup g5 (.cons (.lst (Or.inl (vis_of g4 (by simp))) (.cons (.int _) .nil)) .nil) (bd0 (by simp [good, goodA]) (by simp [PyData.depth, PyData.depthAll]) (by simp [sz, szA])) (by simp; exact ⟨h4, _, .lst g4⟩)⟩
    | 13, e => cases Option.some.inj e; exact ⟨_, _, rfl, .dic g6 (by simpa using n67) (.cons (.lst (Or.inl (vis_of g7 (by simp))) (.cons (.int _) .nil)) .nil) noK_a (bd0 (by simp only [List.map_cons, List.map_nil, List.zip_cons_cons, List.zip_nil_left, good, goodK, goodA, keyD]; decide +kernel) (by simp [PyData.depth, PyData.depthKv, PyData.depthAll, keyD]) (by simp only [List.map_cons, List.map_nil, List.zip_cons_cons, List.zip_nil_left, sz, szK, szA, keyD]; decide +kernel)) (by simp; exact ⟨h7, _, .lst g7⟩) h6⟩
    | 14, e => cases Option.some.inj e; exact ⟨_, _, rfl, .tup g8 (.cons (.str _) (.cons (.int _) .nil)) (bd0 (by simp only [good, goodA]; decide +kernel) (by simp [PyData.depth, PyData.depthAll]) (by simp only [sz, szA]; decide +kernel)) (by simp)⟩
    | j + 15, e => simp at e
  have dj : ∀ (i j : Nat) (F G : List Addr), i < j → ([[], [], [], [], [], [], [], [a1], [], [a3], [], [], [a4], [a6, a7], []] : List (List Addr))[i]? = some F → ([[], [], [], [], [], [], [], [a1], [], [a3], [], [], [a4], [a6, a7], []] : List (List Addr))[j]? = some G → ∀ a ∈ F, a ∉ G := by
    have pw : ([[], [], [], [], [], [], [], [a1], [], [a3], [], [], [a4], [a6, a7], []] : List (List Addr)).Pairwise fun F G => ∀ a ∈ F, a ∉ G := by
      simp [n13, n14, n16, n17, n34, n36, n37, n46, n47]
    intro i j F G hij h1 h2
    obtain ⟨l1, rfl⟩ := List.getElem?_eq_some_iff.mp h1
    obtain ⟨l2, rfl⟩ := List.getElem?_eq_some_iff.mp h2
    exact List.pairwise_iff_getElem.mp pw i j l1 l2 hij
  have fp : ∀ {a}, H a = none → a ≠ p := fun f => hB.ne f
  walk_at "u"
  walk_at "tk"
  intro first H11 i0 i1 B11 k11
  walk_at "u"
  obtain ⟨y1, m1, ix1⟩ := at_int (xs := ([.non, .bl true, .bl false, .int (-1), .int (sent + 1), .int (sent + 4), .str "0", .ref a1, .ref a2, .ref a3, .int 100000000000000000000000000000, .str "", .ref a5, .ref a6, .ref a8] : List V)) i0 (by simpa using i1)
  refine s_ixl (by walk_at "g") ix1 ?_
  walk_at "u"
  walk_at "tk"
  intro dd H12 j0 j1 B12 k12
  walk_at "u"
  have q0 : 0 ≤ (first + 1 + dd) % 15 := Int.emod_nonneg _ (by decide)
  have q1 : (first + 1 + dd) % 15 < 15 := Int.emod_lt_of_pos _ (by decide)
  obtain ⟨y2, m2, ix2⟩ := at_int (xs := ([.non, .bl true, .bl false, .int (-1), .int (sent + 1), .int (sent + 4), .str "0", .ref a1, .ref a2, .ref a3, .int 100000000000000000000000000000, .str "", .ref a5, .ref a6, .ref a8] : List V)) q0 (by simpa using q1)
  refine s_ixl (by walk_at "g") ix2 ?_
  walk_at "u"
  walk_at "na"
  intro l13 H13 f13 e13 k13
  walk_at "u"
  refine s_addl (xs := [y1, y2, .int sent, .int (sent + 5)]) (ys := gs.map V.int) e13 (by walk_at "g") (zle (by simp; omega)) fun l14 H14 f14 e14 k14 => ?_
  obtain ⟨d1, F1, eF1, O1⟩ := all _ _ m1
  obtain ⟨d2, F2, eF2, O2⟩ := all _ _ m2
  have z14 : Kz [p] H10 H14 := ⟨by walk_at "k"⟩
  have np : ∀ {y d F}, Oy K H H10 sent y d F → ∀ a ∈ [p], a ∉ F := fun O a ma mf => by
    rw [List.mem_singleton] at ma
    subst ma
    exact fp (O.fr _ mf).1 rfl
  have nl : ∀ {y d F}, Oy K H H10 sent y d F → l14 ∉ F := fun O mf => by
    obtain ⟨i, hi⟩ := (O.fr _ mf).2
    have hi13 : Th H13 l14 i := ((hi.kp k11).kp k12).kp k13
    exact hi13.ne f14 rfl
  have hne : first.toNat ≠ ((first + 1 + dd) % 15).toNat := by omega
  have d12 : (∀ a ∈ F1, a ∉ F2) ∧ ∀ a ∈ F2, a ∉ F1 := by
    rcases Nat.lt_or_gt_of_ne hne with h | h
    · exact ⟨dj _ _ _ _ h eF1 eF2, fun a h2 h1 => dj _ _ _ _ h eF1 eF2 a h1 h2⟩
    · exact ⟨fun a h1 h2 => dj _ _ _ _ h eF2 eF1 a h2 h1, dj _ _ _ _ h eF2 eF1⟩
  walk_at "u"
  exact k l14 y1 y2 d1 d2 F1 F2 H14 (by walk_at "f") e14 (O1.kpn z14.k (np O1)) (O2.kpn z14.k (np O2)) d12.1 d12.2 (nl O1) (nl O2) (by walk_at "g") (by walk_at "k")
theorem drop_flt {ns : List Int} {i : Nat} {m : Int} (nd : ns.Nodup) (e : ns[i]? = some m) : (ns.drop i).filter (fun p => decide (p ≠ m)) = ns.drop (i + 1) ∧ m ∈ ns.drop i ∧ m ∉ ns.drop (i + 1) := by
  obtain ⟨hi, rfl⟩ := List.getElem?_eq_some_iff.mp e
  have h1 : ns.drop i = ns[i] :: ns.drop (i + 1) := List.drop_eq_getElem_cons hi
  have nd1 : (ns[i] :: ns.drop (i + 1)).Nodup := h1 ▸ nd.sublist (List.drop_sublist i ns)
  have nm : ns[i] ∉ ns.drop (i + 1) := (List.nodup_cons.mp nd1).1
  refine ⟨?_, by rw [h1]; exact List.mem_cons_self, nm⟩
  rw [h1, List.filter_cons_of_neg (by simp)]
  rw [List.filter_eq_self]
  intro a ha
  simp only [decide_eq_true_eq]
  rintro rfl
  exact nm ha
theorem kw_at {ns : List Int} {i : Nat} {m : Int} {d : PyData} (h : (kw ns)[i]? = some (m, d)) : ns[i]? = some m ∧ d = dw m := by
  unfold kw at h
  rw [List.getElem?_map] at h
  obtain ⟨q, e, z⟩ := Option.map_eq_some_iff.mp h
  cases z
  exact ⟨e, rfl⟩
theorem shp_wm {m : Int} : SeqAt.shaped (.tuple [.str "word", .int m]) = true := by
  have h : PyData.strOk ("word" : Str) = true := by decide +kernel
  unfold SeqAt.shaped
  simp only [PyData.canLay0, PyData.canLayAll0, PyData.depth, PyData.depthAll, Bool.and_true, h]
  rfl
def sp_law_got (T : Tx K mg) : Sp := sp3 fun x y z H Q _ => ∃ (pl p d q e dl : Addr) (ws ws2 : List (Int × V)) (ns : List Int) (n : Int) (vs : List V), x = .ref pl ∧ y = .ref dl ∧ z = .int n ∧ H pl = some (.lst [.ref p, .ref q]) ∧ H dl = some (.lst vs) ∧ Du K H vs (kw ns) ∧ Wr T H p d ws n ∧ Wr T H q e ws2 n ∧ Wv K H ws (kw ns) ∧ Wv K H ws2 (kw ns) ∧ ns.Nodup ∧ d ≠ e ∧
  ∀ H', Wr T H' p d [] n → Kp [d] H H' → Q (.bl true) H'
set_option maxHeartbeats 16000000 in
theorem ok_law_got (T : Tx K mg) : FnOk P w K mg base (L2.CX P w) 6 T.a_law_got T.d_law_got ["_law_pair", "_law_due", "_law_sent"] (sp_law_got T) := by
  have G_Wire_under_way := ok_Wire_under_way (P := P) (w := w) (base := base) T
  have G_Wire_sent := ok_Wire_sent (P := P) (w := w) (base := base) T
  have G_Wire_get := ok_Wire_get (P := P) (w := w) (base := base) T
  have G_law_caught := ok_law_caught (P := P) (w := w) (base := base) T
  refine T.F_law_got.okX sc_law_got (fun vs H Q E h => ?_) (fun cd A o s H vs Q E hr h => ?_)
  · obtain ⟨v0, v1, v2, rfl, h⟩ := h; rfl
  obtain ⟨v0, v1, v2, rfl, h⟩ := h
  obtain ⟨pl, p, d, q, e, dl, ws, ws2, ns, n, vs, rfl, rfl, rfl, ep, ed, hD, hW, hW2, hV, hV2, nd, nde, k⟩ := h
  refine ⟨_, (pss_cons (ps_asg (pv 0) (pg_lstK (K := K) (n := 2) rfl rfl (pgs_cons (pg_name (i := 3) sc_law_got.nd rfl (Or.inl rfl)) (pgs_cons (pg_name (i := 4) sc_law_got.nd rfl (Or.inl rfl)) pgs_nil))))
    (pss_cons (ps_for PassesOwn.leaving rfl (pi_lst (K := K) rfl (pv 1)) (pg_tupK (K := K) (n := 2) rfl rfl (pgs_cons (pg_name (i := 5) sc_law_got.nd rfl (Or.inl rfl)) (pgs_cons (pg_name (i := 6) sc_law_got.nd rfl (Or.inl rfl)) pgs_nil)))
    (pss_one (ps_if (PW.pt (pw_or (pt_cmpR (o_ne (K := K) rfl hr) (pe_mo T.cl_Wire T.M_Wire_get G_Wire_get (hr.mono (by decide)) T.B_Wire_get (takes_of (E := E) rfl rfl rfl rfl) (pv 3) (pa_cons (pv 5) pa_nil)) (pv 6) (nomark _)) (pw_or1 (pt_cmpR (o_ne (K := K) rfl hr) (pe_slice (sl_u (K := K) rfl) (pe_co G_law_caught (hr.mono (by decide)) rfl T.m_law_caught T.F_law_caught.kp T.B_law_caught (takes_of (E := E) rfl rfl rfl rfl) (pa_cons (pv 3) (pa_cons (pe_op o_mod (pv 5) pe_int) (pa_cons (pv 5) pa_nil)))) po_none (po_some pe_int)) (pe_tup (pa_cons pe_str (pa_cons (pv 5) pa_nil))) (nomark _)))))
    (pss_one (ps_ret pe_bl))
    pss_nil)))
    (pss_one (ps_ret (pe_and (pe_cmpR (o_eq (K := K) rfl hr) (pe_mo0 T.cl_Wire T.M_Wire_under_way G_Wire_under_way (hr.mono (by decide)) T.B_Wire_under_way (takes_of (E := E) rfl rfl rfl rfl) (pv 3)) (pe_lst pa_nil) (nomark _)) (pe_and (pe_cmpR (o_eq (K := K) rfl hr) (pe_mo0 T.cl_Wire T.M_Wire_under_way G_Wire_under_way (hr.mono (by decide)) T.B_Wire_under_way (takes_of (E := E) rfl rfl rfl rfl) (pv 4)) (pv 1) (nomark _)) (pe_one (pe_cmpR (o_eq (K := K) rfl hr) (pe_mo0 T.cl_Wire T.M_Wire_sent G_Wire_sent (hr.mono (by decide)) T.B_Wire_sent (takes_of (E := E) rfl rfl rfl rfl) (pv 3)) (pv 2) (nomark _))))))))), ?_⟩
  rw [st_law_got]
  walk_at "u"
  refine s_ilst (SqL.of ed) ?_
  refine for_L ed (fun i σ H' => (∃ ws', Wr T H' p d ws' n ∧ Wv K H' ws' (kw (ns.drop i))) ∧ Kp [d] H H' ∧ ∃ u5 u6, σ = [some (.ref pl), some (.ref dl), some (.int n), some (.ref p), some (.ref q), u5, u6]) ⟨⟨ws, hW, hV⟩, Kp.refl, _, _, rfl⟩ (fun i σ' H' q o e => q.2.1.get1 e (by walk_at "ne")) ?_ ?_
  · rintro i x σ H1 ex ⟨⟨ws', W1, V1⟩, k1, u5, u6, rfl⟩
    obtain ⟨t, m, v, d', ek, rfl, et, hd⟩ := hD.at ex
    obtain ⟨em, rfl⟩ := kw_at ek
    obtain ⟨c1, c2, c3⟩ := drop_flt nd em
    obtain ⟨v', hv', dv'⟩ := V1.yes (kw_find c2)
    walk_at "u"
    refine ⟨_, _, rfl, p, d, ws', n, .int, rfl, W1, .int, fun m' w' e1 e2 H2 W2 k2 => ?_, fun z => (by rw [hv'] at z; cases z)⟩
    cases e1
    rw [hv'] at e2
    cases e2
    have V2 := (V1.flt m).kp k2
    rw [kw_flt, c1] at V2
    walk_at "u"
    refine s_neR (d := dw m) ((dv'.kp (vk k2)).kp vis_le) ((hd.kp (vk (k1.trans k2))).kp vis_le) Ey.dw.shp ?_
    walk_at "u"
    refine ⟨_, _, _, rfl, p, d, _, n, _, .int, rfl, rfl, W2, .int, V2.no (kw_no c3), fun t3 H3 e3 k3 => ?_⟩
    walk_at "u"
    refine s_slT e3 (ys := [.str "word", .int m]) rfl fun t4 H4 e4 k4 => ?_
    walk_at "u"
    walk_at "na"
    intro t5 H5 f5 e5 k5
    refine s_neR (d := .tuple [.str "word", .int m]) (.tup (SqT.of (k5.get0 e4)) (.cons (.str _) (.cons (.int _) .nil))) (.tup (SqT.of e5) (.cons (.str _) (.cons (.int _) .nil))) shp_wm ?_
    walk_at "u"
    have k25 : Kz [] H2 H5 := ⟨by walk_at "k"⟩
    exact ⟨⟨_, by walk_at "g", V2.kp k25.k⟩, by walk_at "k", _, _, rfl⟩
  · rintro σ H1 ⟨⟨ws', W1, V1⟩, k1, u5, u6, rfl⟩
    have hl : vs.length = ns.length := by rw [hD.len, kw, List.length_map]
    rw [hl, List.drop_length] at V1
    cases V1
    have hD1 := hD.kp k1
    have hV1 := hV2.kp k1
    walk_at "u"
    refine ⟨_, rfl, p, d, [], n, rfl, W1, fun l us H2 f2 e2 hl2 hh2 k2 => ?_⟩
    obtain rfl : us = [] := List.eq_nil_of_length_eq_zero (by simpa using hl2)
    walk_at "u"
    walk_at "na"
    intro l3 H3 f3 e3 k3
    refine s_eqN (ds := []) (.lst (Or.inl (k3.get0 e2)) .nil) e3 (by decide +kernel) ?_
    walk_at "u"
    refine ⟨_, rfl, q, e, ws2, n, rfl, by walk_at "g", fun l4 us4 H4 f4 e4 hl4 hh4 k4 => ?_⟩
    have k14 : Kz [] H1 H4 := ⟨by walk_at "k"⟩
    walk_at "u"
    refine s_eqR (d := .list (dK (kw ns))) (.lst (Or.inl e4) ((hV1.kp k14.k).du hl4 hh4).dn) (.lst (Or.inl (by walk_at "g")) (hD1.kp k14.k).dn) (shp_K ey_kw) ?_
    walk_at "u"
    refine ⟨_, rfl, p, d, [], n, rfl, by walk_at "g", ?_⟩
    walk_at "u"
    rw [decide_eq_true rfl]
    exact k _ (by walk_at "g") (by walk_at "k")
def ki (n : Int) (i : Nat) : Ks := (List.range i).map fun j => (n + ((j : Nat) : Int), .tuple [.int ((j : Nat) : Int)])
theorem ki_6 (n : Int) : ki n 6 = [(n, .tuple [.int 0]), (n + 1, .tuple [.int 1]), (n + 2, .tuple [.int 2]), (n + 3, .tuple [.int 3]), (n + 4, .tuple [.int 4]), (n + 5, .tuple [.int 5])] := by
  simp [ki, List.range, List.range.loop]
theorem ki_a (n : Int) : ((ki n 6).find? fun p => decide (p.1 = n)) = some (n, .tuple [.int 0]) := by
  rw [ki_6]
  exact List.find?_cons_of_pos (by simp)
theorem ki_b (n : Int) : ((ki n 6).filter fun p => decide (p.1 ≠ n)) = [(n + 1, .tuple [.int 1]), (n + 2, .tuple [.int 2]), (n + 3, .tuple [.int 3]), (n + 4, .tuple [.int 4]), (n + 5, .tuple [.int 5])] := by
  rw [ki_6]
  have h : ∀ k : Int, k ≠ 0 → decide (n + k ≠ n) = true := fun k hk => decide_eq_true (by omega)
  rw [List.filter_cons_of_neg (by simp), List.filter_cons_of_pos (by exact h 1 (by decide)), List.filter_cons_of_pos (by exact h 2 (by decide)), List.filter_cons_of_pos (by exact h 3 (by decide)), List.filter_cons_of_pos (by exact h 4 (by decide)), List.filter_cons_of_pos (by exact h 5 (by decide))]
  rfl
theorem ki_c (n : Int) : (([(n + 1, .tuple [.int 1]), (n + 2, .tuple [.int 2]), (n + 3, .tuple [.int 3]), (n + 4, .tuple [.int 4]), (n + 5, .tuple [.int 5])] : Ks).find? fun p => decide (p.1 = n + 5)) = some (n + 5, .tuple [.int 5]) := by
  rw [List.find?_cons_of_neg (by simp), List.find?_cons_of_neg (by simp), List.find?_cons_of_neg (by simp), List.find?_cons_of_neg (by simp), List.find?_cons_of_pos (by simp)]
def kj (n : Int) (i : Nat) : Ks := (List.range i).map fun j => (n + (1 + ((j : Nat) : Int)), .tuple [.int (1 + ((j : Nat) : Int))])
theorem ki_d (n : Int) : (([(n + 1, .tuple [.int 1]), (n + 2, .tuple [.int 2]), (n + 3, .tuple [.int 3]), (n + 4, .tuple [.int 4]), (n + 5, .tuple [.int 5])] : Ks).filter fun p => decide (p.1 ≠ n + 5)) = kj n 4 := by
  rw [List.filter_cons_of_pos (by simp), List.filter_cons_of_pos (by simp), List.filter_cons_of_pos (by simp), List.filter_cons_of_pos (by simp), List.filter_cons_of_neg (by simp)]
  simp [kj, List.range, List.range.loop]
theorem ey_kj {n : Int} {i : Nat} : ∀ q ∈ kj n i, Ey q.2 := fun q hq => by
  obtain ⟨m, _, rfl⟩ := List.mem_map.mp hq
  exact Ey.one
def sp_law_sent_behind (T : Tx K mg) : Sp := sp3 fun x y z H Q _ => ∃ (pl p d q e dl : Addr) (ws2 : List (Int × V)) (ns : List Int) (n : Int) (vs : List V), x = .ref pl ∧ y = .ref dl ∧ z = .int n ∧ H pl = some (.lst [.ref p, .ref q]) ∧ H dl = some (.lst vs) ∧ Du K H vs (kw ns) ∧ Wr T H p d [] n ∧ Wr T H q e ws2 n ∧ Wv K H ws2 (kw ns) ∧ (∀ m ∈ ns, m < n) ∧ ns.length ≤ 1000 ∧ 0 ≤ n ∧ n ≤ 1000 ∧ d ≠ e ∧ p ≠ q ∧
  ∀ H', Kp [p, d, q, e] H H' → Q (.bl true) H'
set_option maxHeartbeats 16000000 in
theorem ok_law_sent_behind (T : Tx K mg) (hs : ∃ mm, base.Ns sysModules mm) : FnG P w K mg base (L2.CX P w) 7 T.a_law_sent_behind T.d_law_sent_behind ["_law_pair", "_law_due", "_law_sent"] (sp_law_sent_behind T) := by
  have G_Wire_under_way := ok_Wire_under_way (P := P) (w := w) (base := base) T
  have G_law_refuses := ok_law_refuses (P := P) (w := w) (base := base) T hs
  have G_Wire_get := ok_Wire_get (P := P) (w := w) (base := base) T
  have G_Wire_lose := ok_Wire_lose (P := P) (w := w) (base := base) T
  have G_Wire_send := ok_Wire_send (P := P) (w := w) (base := base) T
  refine okG T.F_law_sent_behind sc_law_sent_behind (fun vs H Q E h => ?_) (fun cd A o s H vs Q E hg hr h => ?_)
  · obtain ⟨v0, v1, v2, rfl, h⟩ := h; rfl
  obtain ⟨v0, v1, v2, rfl, h⟩ := h
  obtain ⟨pl, p, d, q, e, dl, ws2, ns, n, vs, rfl, rfl, rfl, ep, ed, hD, hW, hW2, hV2, hlt, hln, n0, n1, nde, npq, k⟩ := h
  refine ⟨_, (pss_cons (ps_asg (pv 0) (pg_lstK (K := K) (n := 2) rfl rfl (pgs_cons (pg_name (i := 3) sc_law_sent_behind.nd rfl (Or.inl rfl)) (pgs_cons (pg_name (i := 4) sc_law_sent_behind.nd rfl (Or.inl rfl)) pgs_nil))))
    (pss_cons (ps_for PassesOwn.leaving rfl (pi_range1 rfl T.z_range (pa_cons pe_int pa_nil)) (pg_name (i := 5) sc_law_sent_behind.nd rfl (Or.inl rfl))
    (pss_one (ps_if (pt_cmpR (o_ne (K := K) rfl hr) (pe_callB (c_repr (K := K) rfl hg hr hs) rfl T.z_repr bt_repr (pa_cons (pe_mo T.cl_Wire T.M_Wire_send G_Wire_send (hr.mono (by decide)) T.B_Wire_send (takes_of (E := E) rfl rfl rfl rfl) (pv 3) (pa_cons (pe_tup (pa_cons (pv 5) pa_nil)) pa_nil)) pa_nil)) (pe_callB (c_repr (K := K) rfl hg hr hs) rfl T.z_repr bt_repr (pa_cons (pe_op (o_add (K := K) rfl) (pv 2) (pv 5)) pa_nil)) (nomark _))
    (pss_one (ps_ret pe_bl))
    pss_nil)))
    (pss_cons (ps_if (PW.pt (pw_or (pt_cmpR (o_ne (K := K) rfl hr) (pe_mo T.cl_Wire T.M_Wire_get G_Wire_get (hr.mono (by decide)) T.B_Wire_get (takes_of (E := E) rfl rfl rfl rfl) (pv 3) (pa_cons (pv 2) pa_nil)) (pe_tup (pa_cons pe_int pa_nil)) (nomark _)) (pw_or1 (pt_cmpR o_isnot (pe_mo T.cl_Wire T.M_Wire_lose G_Wire_lose (hr.mono (by decide)) T.B_Wire_lose (takes_of (E := E) rfl rfl rfl rfl) (pv 3) (pa_cons (pe_op (o_add (K := K) rfl) (pv 2) pe_int) pa_nil)) pe_non (nomark _)))))
    (pss_one (ps_ret pe_bl))
    pss_nil)
    (pss_cons (ps_if (pt_cmpR (o_ne (K := K) rfl hr) (pe_mo0 T.cl_Wire T.M_Wire_under_way G_Wire_under_way (hr.mono (by decide)) T.B_Wire_under_way (takes_of (E := E) rfl rfl rfl rfl) (pv 3)) (pe_lc (own := [("_law_turn", 5)]) rfl sc_law_sent_behind.nd (pi_range2 rfl T.z_range (pa_cons pe_int (pa_cons pe_int pa_nil))) (blkOk_by (own := [("_law_turn", 5)]) (N := N_law_sent_behind) (sc := defScope s_law_sent_behind) (by decide +kernel)) (fun _ _ _ _ _ => (pg_name (i := 5) sc_law_sent_behind.nd rfl (Or.inl rfl))) (fun _ _ _ _ _ => pts_nil) (fun _ _ _ _ _ => (pe_tup (pa_cons (pe_op (o_add (K := K) rfl) (pv 2) (pv 5)) (pa_cons (pe_tup (pa_cons (pv 5) pa_nil)) pa_nil))))) (nomark _))
    (pss_one (ps_ret pe_bl))
    pss_nil)
    (pss_one (ps_ret (pe_and (pe_cmpR (o_eq (K := K) rfl hr) (pe_mo0 T.cl_Wire T.M_Wire_under_way G_Wire_under_way (hr.mono (by decide)) T.B_Wire_under_way (takes_of (E := E) rfl rfl rfl rfl) (pv 4)) (pv 1) (nomark _)) (pe_and (pe_cg G_law_refuses hg (hr.mono (by decide)) rfl T.m_law_refuses T.F_law_refuses.kp T.B_law_refuses (takes_of (E := E) rfl rfl rfl rfl) (pa_cons (pv 4) (pa_cons (pv 2) pa_nil))) (pe_one (pe_cmpR (o_eq (K := K) rfl hr) (pe_callB (c_repr (K := K) rfl hg hr hs) rfl T.z_repr bt_repr (pa_cons (pe_mo T.cl_Wire T.M_Wire_send G_Wire_send (hr.mono (by decide)) T.B_Wire_send (takes_of (E := E) rfl rfl rfl rfl) (pv 4) (pa_cons (pe_tup pa_nil) pa_nil)) pa_nil)) (pe_callB (c_repr (K := K) rfl hg hr hs) rfl T.z_repr bt_repr (pa_cons (pv 2) pa_nil)) (nomark _))))))))))), ?_⟩
  rw [st_law_sent_behind]
  walk_at "u"
  refine s_rng (by omega) (by omega) ?_
  refine for_R (fun i σ H' => (∃ ws', Wr T H' p d ws' (n + (i : Nat)) ∧ Wv K H' ws' (ki n i)) ∧ Kp [p, d] H H' ∧ ∃ u5, σ = [some (.ref pl), some (.ref dl), some (.int n), some (.ref p), some (.ref q), u5]) ⟨⟨[], by simpa using hW, .nil⟩, Kp.refl, _, rfl⟩ ?_ ?_
  · rintro i σ H1 hi ⟨⟨ws', W1, V1⟩, k1, u5, rfl⟩
    have hi : i < 6 := hi
    have lw : ws'.length = i := by rw [V1.len]; simp [ki]
    walk_at "u"
    walk_at "na"
    intro t2 H2 f2 e2 k2
    walk_at "u"
    refine ⟨_, _, rfl, p, d, ws', n + (i : Nat), rfl, by walk_at "g", by omega, fun H3 W3 k3 => ?_⟩
    walk_at "u"
    refine s_rep (int_shw (by omega) (by omega)) ?_
    walk_at "u"
    refine s_rep (int_shw (by omega) (by omega)) ?_
    walk_at "u"
    rw [decide_eq_true (by rw [Int.zero_add])]
    walk_at "u"
    rw [Int.zero_add] at e2
    refine ⟨⟨_, by rw [show n + ((i + 1 : Nat) : Int) = n + (i : Nat) + 1 by omega]; exact W3, ?_⟩, by walk_at "k", _, rfl⟩
    unfold ki
    rw [range_snoc]
    exact ((V1.kp k2).kp k3).app (.tup (SqT.of (vis_tup (k3.tgt e2))) (.cons (.int _) .nil))
  · rintro σ H1 ⟨⟨ws', W1, V1⟩, k1, u5, rfl⟩
    have V1 : Wv K H1 ws' (ki n 6) := V1
    have W1 : Wr T H1 p d ws' (n + 6) := W1
    have k1 : Kp [p, d] H H1 := k1
    obtain ⟨v0, h0, d0⟩ := V1.yes (ki_a n)
    walk_at "u"
    refine ⟨_, _, rfl, p, d, ws', n + 6, .int, rfl, W1, .int, fun m' w' x1 x2 H2 W2 k2 => ?_, fun z => (by rw [h0] at z; cases z)⟩
    cases x1
    rw [h0] at x2
    cases x2
    have V2 := (V1.flt n).kp k2
    rw [ki_b] at V2
    walk_at "u"
    walk_at "na"
    intro t3 H3 f3 e3 k3
    refine s_neR (d := .tuple [.int 0]) (((d0.kp (vk k2)).kp (vk k3)).kp vis_le) (.tup (SqT.of e3) (.cons (.int _) .nil)) Ey.one.shp ?_
    walk_at "u"
    obtain ⟨v5, h5, d5⟩ := V2.yes (ki_c n)
    refine ⟨_, _, rfl, p, d, _, n + 6, .int, rfl, by walk_at "g", .int, fun m' w' x1 x2 H4 W4 k4 => ?_, fun z => (by rw [h5] at z; cases z)⟩
    cases x1
    have V4 := ((V2.flt (n + 5)).kp k3).kp k4
    rw [ki_d] at V4
    walk_at "u"
    refine ⟨_, rfl, p, d, _, n + 6, rfl, W4, fun l us H5 f5 e5 hl hh k5 => ?_⟩
    have D5 := (V4.kp k5).du hl hh
    walk_at "u"
    refine s_rn2 (by omega) ?_
    intro D hD'
    refine lc_R hD' (fun i acc H' => Kp [D] H5 H' ∧ Du K H' acc (kj n i)) (fun H6 e6 k6 => ⟨by walk_at "k", .nil⟩) ?_ ?_
    · rintro i acc H6 hi ea ⟨k6, D6⟩
      have la : acc.length = i := by rw [D6.len]; simp [kj]
      have hi : i < 4 := hi
      walk_at "u"
      refine ⟨rfl, ?_⟩
      walk_at "u"
      walk_at "na"
      intro t7 H7 f7 e7 k7
      walk_at "u"
      walk_at "na"
      intro t8 H8 f8 e8 k8
      refine PvD.add (acc := acc) (by walk_at "g") (by omega) fun H9 e9 k9 => ⟨by walk_at "k", ?_⟩
      unfold kj
      rw [range_snoc]
      exact (((D6.kp k7).kp k8).kp k9).app (k9.tgt e8) (.tup (SqT.of (vis_tup (k9.tgt (k8.tgt e7)))) (.cons (.int _) .nil))
    · rintro acc H6 ea ⟨k6, D6⟩
      have D6 : Du K H6 acc (kj n 4) := D6
      refine s_neR (d := .list (dK (kj n 4))) (.lst (Or.inl (by walk_at "g")) (D5.kp k6).dn) (.lst (Or.inl ea) D6.dn) (shp_K ey_kj) ?_
      walk_at "u"
      refine ⟨_, rfl, q, e, ws2, n, rfl, by walk_at "g", fun l7 us7 H7 f7 e7 hl7 hh7 k7 => ?_⟩
      have z7 : Kz [p, d] H H7 := ⟨by walk_at "k"⟩
      walk_at "u"
      refine s_eqR (d := .list (dK (kw ns))) (.lst (Or.inl e7) ((hV2.kp z7.k).du hl7 hh7).dn) (.lst (Or.inl (by walk_at "g")) (hD.kp z7.k).dn) (shp_K ey_kw) ?_
      walk_at "u"
      refine ⟨_, _, rfl, q, e, ws2, n, .int n, [], rfl, by walk_at "g", .od .int (fun a _ z => (by cases z)), (Bd.int (Nat.lt_of_le_of_lt (show n.natAbs ≤ 1000 by omega) (by decide +kernel))).mono (by omega), hV2.no (kw_no fun m => by have := hlt n m; omega), by simp, fun dt' H8 O8 k8 => ?_⟩
      walk_at "u"
      walk_at "na"
      intro t9 H9 f9 e9 k9
      walk_at "u"
      refine ⟨_, _, rfl, q, e, ws2, n, rfl, by walk_at "g", by rw [hV2.len]; simp [kw]; omega, fun H10 W10 k10 => ?_⟩
      walk_at "u"
      refine s_rep (int_shw (by omega) (by omega)) ?_
      walk_at "u"
      refine s_rep (int_shw (by omega) (by omega)) ?_
      walk_at "u"
      rw [decide_eq_true rfl]
      exact k _ (by walk_at "k")
def rs (i : Nat) : List Int := (List.range i).map fun j => ((j : Nat) : Int)
theorem rs_snoc (i : Nat) : rs (i + 1) = rs i ++ [(i : Int)] := range_snoc _ i
theorem rs_mem {i : Nat} {g : Int} : g ∈ rs i ↔ 0 ≤ g ∧ g < i := by
  unfold rs
  simp only [List.mem_map, List.mem_range]
  constructor
  · rintro ⟨j, h, rfl⟩; omega
  · intro h; exact ⟨g.toNat, by omega, by omega⟩
theorem rs_nd (i : Nat) : (rs i).Nodup := by
  unfold rs
  rw [List.nodup_iff_pairwise_ne, List.pairwise_map]
  exact List.pairwise_lt_range.imp fun h => by omega
def lft (m : Nat) (gs : List Int) : List Int := (rs m).filter fun x => decide (x ∉ gs)
theorem lft_nil (m : Nat) : lft m [] = rs m := by
  unfold lft
  rw [List.filter_eq_self]
  intro a _
  simp
theorem lft_flt (m : Nat) (gs : List Int) (g : Int) : (lft m gs).filter (fun p => decide (p ≠ g)) = lft m (gs ++ [g]) := by
  unfold lft
  rw [List.filter_filter]
  apply List.filter_congr
  intro a _
  simp only [List.mem_append, List.mem_singleton, ← Bool.decide_and, decide_eq_decide]
  constructor
  · rintro ⟨h1, h2⟩ (h | h)
    · exact h2 h
    · exact h1 h
  · intro h
    exact ⟨fun z => h (Or.inr z), fun z => h (Or.inl z)⟩
theorem lft_mem {m : Nat} {gs : List Int} {g : Int} : g ∈ lft m gs ↔ (0 ≤ g ∧ g < m) ∧ g ∉ gs := by
  unfold lft
  simp only [List.mem_filter, rs_mem, decide_eq_true_eq]
theorem take_one' {ns : List Int} {i : Nat} {g : Int} (h : ns[i]? = some g) : ns.take (i + 1) = ns.take i ++ [g] := by
  rw [List.take_add_one, h]; rfl
theorem th_step {H3 : Hp} {y1 y2 x : V} {m : Int} {gs : List Int} {F1 F2 : List Addr} {j : Nat} {ws : List (Int × V)} (ex : ([y1, y2, .int m, .int (m + 5)] ++ gs.map V.int)[j]? = some x)
    (O1 : ∃ d, Ot K H3 "more" y1 d F1 ∧ (j ≤ 0 → Bd d 3000)) (O2 : ∃ d, Ot K H3 "more" y2 d F2 ∧ (j ≤ 1 → Bd d 3000)) (dj1 : ∀ a ∈ F1, a ∉ F2) (dj2 : ∀ a ∈ F2, a ∉ F1) (n1 : has ws y1 = none) (n2 : has ws y2 = none)
    (ng : ∀ g, g = m ∨ g = m + 5 ∨ g ∈ gs → has ws (.int g) = none ∧ g.natAbs ≤ 100000) :
    ∃ dt F, Ot K H3 "more" x dt F ∧ Bd dt 3000 ∧ has ws x = none ∧ (∀ a ∈ F, a ∈ F1 ++ F2) ∧ ∀ dt' H4, Ot K H4 "more" x dt' F → Kp F H3 H4 → (∃ d, Ot K H4 "more" y1 d F1 ∧ (j + 1 ≤ 0 → Bd d 3000)) ∧ ∃ d, Ot K H4 "more" y2 d F2 ∧ (j + 1 ≤ 1 → Bd d 3000) := by
  obtain ⟨d1, O1, b1⟩ := O1
  obtain ⟨d2, O2, b2⟩ := O2
  match j, ex, b1, b2 with
  | 0, ex, b1, b2 =>
    cases Option.some.inj ex
    exact ⟨d1, F1, O1, b1 (by omega), n1, fun a h => by simp [h], fun dt' H4 O4 k4 => ⟨⟨dt', O4, fun z => by omega⟩, d2, O2.kpn k4 dj1, fun _ => b2 (by omega)⟩⟩
  | 1, ex, b1, b2 =>
    cases Option.some.inj ex
    exact ⟨d2, F2, O2, b2 (by omega), n2, fun a h => by simp [h], fun dt' H4 O4 k4 => ⟨⟨d1, O1.kpn k4 dj2, fun z => by omega⟩, dt', O4, fun z => by omega⟩⟩
  | j + 2, ex, b1, b2 =>
    obtain ⟨g, rfl, hg⟩ : ∃ g : Int, x = .int g ∧ (g = m ∨ g = m + 5 ∨ g ∈ gs) := by
      have e : ([V.int m, V.int (m + 5)] ++ gs.map V.int)[j]? = some x := ex
      have hm := List.mem_of_getElem? e
      simp only [List.mem_append, List.mem_cons, List.not_mem_nil, or_false, List.mem_map] at hm
      rcases hm with (h | h) | ⟨g, h, rfl⟩
      · exact ⟨m, h, Or.inl rfl⟩
      · exact ⟨m + 5, h, Or.inr (Or.inl rfl)⟩
      · exact ⟨g, rfl, Or.inr (Or.inr h)⟩
    obtain ⟨h1, h2⟩ := ng g hg
    exact ⟨_, [], .od .int (fun a _ z => (by cases z)), (Bd.int (Nat.lt_of_le_of_lt h2 (by decide +kernel))).mono (by omega), h1, by simp, fun dt' H4 O4 k4 => ⟨⟨d1, O1.kp k4, fun z => by omega⟩, d2, O2.kp k4, fun z => by omega⟩⟩
theorem Oy.has {H0 H : Hp} {sent : Int} {y : V} {d : PyData} {F : List Addr} {ws : List (Int × V)} {ns : List Int} (h : Oy K H0 H sent y d F) (v : Wv K H ws (kw ns)) (hn : ∀ m ∈ ns, 0 ≤ m ∧ m < sent) : K12.has ws y = none :=
  v.no' fun m q e hq z => by
    obtain ⟨x, hx, rfl⟩ := List.mem_map.mp hq
    have := hn x hx
    have := h.no m e
    simp only at z
    omega
def sp_law_right (T : Tx K mg) : Sp := sp1 fun x H Q _ => ∃ (p : Addr) (n : Nat), x = .ref p ∧ Box H p n ∧ n ≤ 100 ∧ ∀ H', Kp [p] H H' → Q (.bl true) H'
set_option maxHeartbeats 16000000 in
theorem ok_law_right (T : Tx K mg) (hs : ∃ mm, base.Ns sysModules mm) : FnG P w K mg base (L2.CX P w) 8 T.a_law_right T.d_law_right ["_law_box_here"] (sp_law_right T) := by
  have G_Wire_init := ok_Wire_init (P := P) (w := w) (base := base) T
  have G_law_take := ok_law_take (P := P) (w := w) (base := base) T
  have G_law_odds := ok_law_odds (P := P) (w := w) (base := base) T
  have G_law_sent_behind := ok_law_sent_behind (P := P) (w := w) (base := base) T hs
  have G_Wire_send := ok_Wire_send (P := P) (w := w) (base := base) T
  have G_Wire_twin := ok_Wire_twin (P := P) (w := w) (base := base) T
  have G_law_got := ok_law_got (P := P) (w := w) (base := base) T
  have G_Wire_get := ok_Wire_get (P := P) (w := w) (base := base) T
  have G_Wire_lose := ok_Wire_lose (P := P) (w := w) (base := base) T
  have G_law_refuses := ok_law_refuses (P := P) (w := w) (base := base) T hs
  have G_Wire_under_way := ok_Wire_under_way (P := P) (w := w) (base := base) T
  have G_Wire_sent := ok_Wire_sent (P := P) (w := w) (base := base) T
  refine okG T.F_law_right sc_law_right (fun vs H Q E h => ?_) (fun cd A o s H vs Q E hg hr h => ?_)
  · obtain ⟨v0, rfl, h⟩ := h; rfl
  obtain ⟨v0, rfl, h⟩ := h
  obtain ⟨p, n, rfl, hB, hn, k⟩ := h
  refine ⟨_, (pss_cons (ps_set (i := 1) sc_law_right.nd rfl (Or.inl rfl) (pe_nw0 T.mk_Wire G_Wire_init (hr.mono (by decide)) rfl T.m_Wire T.B_Wire_init (takes_of (E := E) rfl rfl rfl rfl)))
    (pss_cons (ps_set (i := 2) sc_law_right.nd rfl (Or.inl rfl) (pe_co G_law_take (hr.mono (by decide)) rfl T.m_law_take T.F_law_take.kp T.B_law_take (takes_of (E := E) rfl rfl rfl rfl) (pa_cons (pv 0) (pa_cons pe_int pa_nil))))
    (pss_cons (ps_for PassesOwn.leaving rfl (pi_range1 rfl T.z_range (pa_cons (pv 2) pa_nil)) (pg_name (i := 3) sc_law_right.nd rfl (Or.inl rfl))
    (pss_one (ps_expr (pe_mo T.cl_Wire T.M_Wire_send G_Wire_send (hr.mono (by decide)) T.B_Wire_send (takes_of (E := E) rfl rfl rfl rfl) (pv 1) (pa_cons (pe_tup (pa_cons pe_str (pa_cons (pv 3) pa_nil))) pa_nil)))))
    (pss_cons (ps_set (i := 4) sc_law_right.nd rfl (Or.inr rfl) (pe_lc (own := [("_law_number", 3)]) rfl sc_law_right.nd (pi_range1 rfl T.z_range (pa_cons (pv 2) pa_nil)) (blkOk_by (own := [("_law_number", 3)]) (N := N_law_right) (sc := defScope s_law_right) (by decide +kernel)) (fun _ _ _ _ _ => (pg_name (i := 3) sc_law_right.nd rfl (Or.inl rfl))) (fun _ _ _ _ _ => (pts_one (pt_cmpR (o_eq (K := K) rfl hr) (pe_co G_law_take (hr.mono (by decide)) rfl T.m_law_take T.F_law_take.kp T.B_law_take takes0 (pa_cons (pv 0) (pa_cons pe_int pa_nil))) pe_int (nomark _)))) (fun _ _ _ _ _ => (pv 3))))
    (pss_cons (ps_for PassesOwn.leaving rfl (pi_lst (K := K) rfl (pv 4)) (pg_name (i := 3) sc_law_right.nd rfl (Or.inl rfl))
    (pss_one (ps_if (pt_cmpR (o_eq (K := K) rfl hr) (pe_co G_law_take (hr.mono (by decide)) rfl T.m_law_take T.F_law_take.kp T.B_law_take (takes_of (E := E) rfl rfl rfl rfl) (pa_cons (pv 0) (pa_cons pe_int pa_nil))) pe_int (nomark _))
    (pss_one (ps_expr (pe_mo T.cl_Wire T.M_Wire_get G_Wire_get (hr.mono (by decide)) T.B_Wire_get (takes_of (E := E) rfl rfl rfl rfl) (pv 1) (pa_cons (pv 3) pa_nil))))
    (pss_one (ps_expr (pe_mo T.cl_Wire T.M_Wire_lose G_Wire_lose (hr.mono (by decide)) T.B_Wire_lose (takes_of (E := E) rfl rfl rfl rfl) (pv 1) (pa_cons (pv 3) pa_nil)))))))
    (pss_cons (ps_setLc (i := 5) (own := [("_law_number", 3)]) rfl sc_law_right.nd rfl rfl (sw_true rfl rfl rfl (by decide +kernel)) (pi_range1 rfl T.z_range (pa_cons (pv 2) pa_nil)) (blkOk_by (own := [("_law_number", 3)]) (N := N_law_right) (sc := defScope s_law_right) (by decide +kernel)) (fun _ _ _ _ _ => (pg_name (i := 3) sc_law_right.nd rfl (Or.inl rfl))) (fun _ _ _ _ _ => (pts_one (pt_cmpR (o_notin (K := K) rfl) (pv 3) (pv 4) rfl))) (fun _ _ _ _ _ => (pe_tup (pa_cons (pv 3) (pa_cons (pe_tup (pa_cons pe_str (pa_cons (pv 3) pa_nil))) pa_nil)))))
    (pss_cons (ps_set (i := 6) sc_law_right.nd rfl (Or.inl rfl) (pe_lst (pa_cons (pv 1) (pa_cons (pe_mo0 T.cl_Wire T.M_Wire_twin G_Wire_twin (hr.mono (by decide)) T.B_Wire_twin (takes_of (E := E) rfl rfl rfl rfl) (pv 1)) pa_nil))))
    (pss_cons (ps_if (pt_cmpR (o_eq (K := K) rfl hr) (pe_co G_law_take (hr.mono (by decide)) rfl T.m_law_take T.F_law_take.kp T.B_law_take (takes_of (E := E) rfl rfl rfl rfl) (pa_cons (pv 0) (pa_cons pe_int pa_nil))) pe_int (nomark _))
    (pss_one (ps_expr (pe_bm0 PySem.F.plainAttrs_list PySem.F.slot_list_reverse PySem.F.type_list_reverse mt_reverse (pv 6))))
    pss_nil)
    (pss_cons (ps_for PassesOwn.leaving rfl (pi_lst (K := K) rfl (pv 6)) (pg_name (i := 7) sc_law_right.nd rfl (Or.inl rfl))
    (pss_one (ps_for PassesOwn.leaving rfl (pi_lst (K := K) rfl (pe_co G_law_odds (hr.mono (by decide)) rfl T.m_law_odds T.F_law_odds.kp T.B_law_odds (takes_of (E := E) rfl rfl rfl rfl) (pa_cons (pv 0) (pa_cons (pv 2) (pa_cons (pv 4) pa_nil))))) (pg_name (i := 8) sc_law_right.nd rfl (Or.inl rfl))
    (pss_one (ps_if (PW.pt (pw_or (pt_not (pt_val (pe_cg G_law_refuses hg (hr.mono (by decide)) rfl T.m_law_refuses T.F_law_refuses.kp T.B_law_refuses (takes_of (E := E) rfl rfl rfl rfl) (pa_cons (pv 7) (pa_cons (pv 8) pa_nil))))) (pw_or (pt_cmpR (o_ne (K := K) rfl hr) (pe_mo0 T.cl_Wire T.M_Wire_under_way G_Wire_under_way (hr.mono (by decide)) T.B_Wire_under_way (takes_of (E := E) rfl rfl rfl rfl) (pv 7)) (pv 5) (nomark _)) (pw_or1 (pt_cmpR (o_ne (K := K) rfl hr) (pe_mo0 T.cl_Wire T.M_Wire_sent G_Wire_sent (hr.mono (by decide)) T.B_Wire_sent (takes_of (E := E) rfl rfl rfl rfl) (pv 7)) (pv 2) (nomark _))))))
    (pss_one (ps_ret pe_bl))
    pss_nil)))))
    (pss_cons (ps_if (pt_not (pt_val (pe_co G_law_got (hr.mono (by decide)) rfl T.m_law_got T.F_law_got.kp T.B_law_got (takes_of (E := E) rfl rfl rfl rfl) (pa_cons (pv 6) (pa_cons (pv 5) (pa_cons (pv 2) pa_nil))))))
    (pss_one (ps_ret pe_bl))
    pss_nil)
    (pss_cons (ps_for PassesOwn.leaving rfl (pi_lst (K := K) rfl (pe_co G_law_odds (hr.mono (by decide)) rfl T.m_law_odds T.F_law_odds.kp T.B_law_odds (takes_of (E := E) rfl rfl rfl rfl) (pa_cons (pv 0) (pa_cons (pv 2) (pa_cons (pe_callTy (c_listR rfl) rfl T.z_list bt_list (pa_cons (pe_callTy c_range1 rfl T.z_range bt_range (pa_cons (pv 2) pa_nil)) pa_nil)) pa_nil))))) (pg_name (i := 8) sc_law_right.nd rfl (Or.inl rfl))
    (pss_one (ps_if (pt_not (pt_val (pe_cg G_law_refuses hg (hr.mono (by decide)) rfl T.m_law_refuses T.F_law_refuses.kp T.B_law_refuses (takes_of (E := E) rfl rfl rfl rfl) (pa_cons (pe_ix (ix_u (K := K) rfl) (pv 6) pe_int (fun _ _ => rfl)) (pa_cons (pv 8) pa_nil)))))
    (pss_one (ps_ret pe_bl))
    pss_nil)))
    (pss_one (ps_ret (pe_cg G_law_sent_behind hg (hr.mono (by decide)) rfl T.m_law_sent_behind T.F_law_sent_behind.kp T.B_law_sent_behind (takes_of (E := E) rfl rfl rfl rfl) (pa_cons (pv 6) (pa_cons (pv 5) (pa_cons (pv 2) pa_nil))))))))))))))))), ?_⟩
  rw [st_law_right]
  walk_at "u"
  intro x dx H1 f1 e1 k1
  refine ⟨_, rfl, x, dx, rfl, e1, fun d H2 f2 W2 k2 => ⟨rfl, ?_⟩⟩
  clear e1
  walk_at "u"
  walk_at "tk"
  intro sent H3 s0 s1 B3 k3
  obtain ⟨m, rfl⟩ := Int.eq_ofNat_of_zero_le s0
  have hm : m < 14 := by omega
  walk_at "u"
  refine s_rng (by omega) (by omega) ?_
  rw [Int.toNat_natCast]
  have W3 : Wr T H3 x d [] 0 := by walk_at "g"
  refine for_R (fun i σ H' => (∃ ws', Wr T H' x d ws' (i : Nat) ∧ Wv K H' ws' (kw (rs i))) ∧ Kp [x, d] H3 H' ∧ ∃ u3 u4 u5 u6 u7 u8, σ = [some (.ref p), some (.ref x), some (.int m), u3, u4, u5, u6, u7, u8]) ⟨⟨[], W3, .nil⟩, Kp.refl, _, _, _, _, _, _, rfl⟩ ?_ ?_
  · rintro i σ H4 hi ⟨⟨ws', W4, V4⟩, k4, u3, u4, u5, u6, u7, u8, rfl⟩
    have lw : ws'.length = i := by rw [V4.len]; simp [kw, rs]
    walk_at "u"
    walk_at "na"
    intro t5 H5 f5 e5 k5
    walk_at "u"
    refine ⟨_, _, rfl, x, d, ws', (i : Nat), rfl, by walk_at "g", by omega, fun H6 W6 k6 => ?_⟩
    walk_at "u"
    rw [Int.zero_add] at e5
    refine ⟨⟨_, W6, ?_⟩, by walk_at "k", _, _, _, _, _, _, rfl⟩
    rw [rs_snoc]
    unfold kw
    rw [List.map_append]
    exact ((V4.kp k5).kp k6).app (dn_w (k6.tgt e5))
  rintro σ H4 ⟨⟨ws4, W4, V4⟩, k4, u3, u4, u5, u6, u7, u8, rfl⟩
  walk_at "u"
  refine s_rng (by omega) (by omega) ?_
  rw [Int.toNat_natCast]
  intro D hD
  refine lc_R hD (fun i acc H' => Kp [p, D] H4 H' ∧ Box H' p (n + 1 + i) ∧ ∃ gs : List Int, acc = gs.map V.int ∧ gs.Pairwise (· < ·) ∧ gs.length ≤ i ∧ ∀ g ∈ gs, 0 ≤ g ∧ g < i) (fun H5 e5 k5 => ⟨by walk_at "k", by walk_at "g", [], rfl, .nil, by simp, by simp⟩) ?_ ?_
  · rintro i acc H5 hi ea ⟨k5, B5, gs, rfl, pw, lg, hg⟩
    walk_at "u"
    refine ⟨rfl, ?_⟩
    walk_at "u"
    walk_at "tk"
    intro dd H6 d0 d1 B6 k6
    walk_at "u"
    refine s_ite (fun h => ?_) (fun h => ?_)
    · walk_at "u"
      refine PvD.add (acc := gs.map V.int) (by walk_at "g") (by simp; omega) fun H7 e7 k7 => ⟨by walk_at "k", by walk_at "g", gs ++ [(i : Int)], by rw [Int.zero_add, List.map_append]; rfl, ?_, by simp; omega, fun g h => ?_⟩
      · rw [List.pairwise_append]
        refine ⟨pw, by simp, fun a ha b hb => ?_⟩
        have := hg a ha
        simp at hb
        omega
      · rcases List.mem_append.mp h with h | h
        · have := hg g h; omega
        · simp at h; omega
    · exact PvD.skip (acc := gs.map V.int) (by walk_at "g") ⟨by walk_at "k", by walk_at "g", gs, rfl, pw, by omega, fun g h => by have := hg g h; omega⟩
  rintro acc H5 ea ⟨k5, B5, gs, rfl, pw, lg, hg⟩
  walk_at "u"
  have W5 : Wr T H5 x d ws4 m := by walk_at "g"
  have V5 := V4.kp k5
  refine s_ilst (SqL.of ea) ?_
  refine for_L ea (fun i σ H' => (∃ ws', Wr T H' x d ws' m ∧ Wv K H' ws' (kw (lft m (gs.take i)))) ∧ Box H' p (n + 1 + m + i) ∧ Kp [p, d] H5 H' ∧ ∃ u3 u5 u6 u7 u8, σ = [some (.ref p), some (.ref x), some (.int m), u3, some (.ref D), u5, u6, u7, u8]) ⟨⟨ws4, W5, by rw [List.take_zero, lft_nil]; exact V5⟩, B5, Kp.refl, _, _, _, _, _, rfl⟩ (fun i σ' H' q o e => q.2.2.1.get e (by walk_at "n")) ?_ ?_
  · rintro i x' σ H6 ex ⟨⟨ws6, W6, V6⟩, B6, k6, u3, u5, u6, u7, u8, rfl⟩
    rw [List.getElem?_map] at ex
    obtain ⟨g, eg, rfl⟩ := Option.map_eq_some_iff.mp ex
    have hi : i < gs.length := (List.getElem?_eq_some_iff.mp eg).1
    have gm : g ∈ lft m (gs.take i) := by
      refine lft_mem.mpr ⟨hg g (List.mem_of_getElem? eg), fun h => ?_⟩
      obtain ⟨j, hj, e⟩ := List.mem_take_iff_getElem.mp h
      have := List.pairwise_iff_getElem.mp pw j i (by omega) hi (by omega)
      rw [List.getElem?_eq_getElem hi] at eg
      cases eg
      omega
    obtain ⟨v', hv', dv'⟩ := V6.yes (kw_find gm)
    walk_at "u"
    walk_at "tk"
    intro dd H7 d0 d1 B7 k7
    walk_at "u"
    refine s_ite (fun h => ?_) (fun h => ?_)
    · walk_at "u"
      refine ⟨_, _, rfl, x, d, ws6, (m : Int), .int, rfl, by walk_at "g", .int, fun m' w' c1 c2 H8 W8 k8 => ?_, fun z => (by rw [hv'] at z; cases z)⟩
      cases c1
      have V8 := ((V6.flt g).kp k7).kp k8
      rw [kw_flt, lft_flt, ← take_one' eg] at V8
      walk_at "u"
      exact ⟨⟨_, W8, V8⟩, by walk_at "g", by walk_at "k", _, _, _, _, _, rfl⟩
    · walk_at "u"
      refine ⟨_, _, rfl, x, d, ws6, (m : Int), .int, rfl, by walk_at "g", .int, fun m' w' c1 c2 H8 W8 k8 => ?_, fun z => (by rw [hv'] at z; cases z)⟩
      cases c1
      have V8 := ((V6.flt g).kp k7).kp k8
      rw [kw_flt, lft_flt, ← take_one' eg] at V8
      walk_at "u"
      exact ⟨⟨_, W8, V8⟩, by walk_at "g", by walk_at "k", _, _, _, _, _, rfl⟩
  rintro σ H6 ⟨⟨ws6, W6, V6⟩, B6, k6, u3, u5, u6, u7, u8, rfl⟩
  rw [List.length_map, List.take_length] at V6
  rw [List.length_map] at B6
  have ea6 : H6 D = some (.lst (gs.map V.int)) := by walk_at "g"
  walk_at "u"
  refine s_rng (by omega) (by omega) ?_
  rw [Int.toNat_natCast]
  intro E1 hE
  refine lc_R hE (fun i acc H' => Kp [E1] H6 H' ∧ acc.length ≤ i ∧ Du K H' acc (kw (lft i gs))) (fun H7 e7 k7 => ⟨by walk_at "k", by simp, .nil⟩) ?_ ?_
  · rintro i acc H7 hi ea7 ⟨k7, la, D7⟩
    walk_at "u"
    refine ⟨rfl, ?_⟩
    walk_at "u"
    refine s_ninI (ns := gs) (by walk_at "g") ?_
    walk_at "u"
    rw [Int.zero_add]
    refine s_itn (fun h => ?_) (fun h => ?_)
    · walk_at "u"
      walk_at "na"
      intro t8 H8 f8 e8 k8
      walk_at "u"
      walk_at "na"
      intro t9 H9 f9 e9 k9
      refine PvD.add (acc := acc) (by walk_at "g") (by omega) fun H10 e10 k10 => ⟨by walk_at "k", by simp; omega, ?_⟩
      have : kw (lft (i + 1) gs) = kw (lft i gs) ++ [((i : Int), dw i)] := by
        unfold lft
        rw [rs_snoc, List.filter_append, List.filter_cons_of_pos (by simpa using h)]
        simp [kw]
      rw [this]
      exact (((D7.kp k8).kp k9).kp k10).app (k10.tgt e9) (dn_w (k10.tgt (k9.tgt e8)))
    · refine PvD.skip (acc := acc) ea7 ⟨k7, by omega, ?_⟩
      have : lft (i + 1) gs = lft i gs := by
        unfold lft
        rw [rs_snoc, List.filter_append, List.filter_cons_of_neg (by simpa using h)]
        simp
      rw [this]
      exact D7
  rintro vs H7 ed ⟨k7, la, D7⟩
  have V7 := V6.kp k7
  walk_at "u"
  refine ⟨_, rfl, x, d, ws6, (m : Int), rfl, by walk_at "g", fun q e H8 f8 g8 W8 k8 => ?_⟩
  walk_at "u"
  walk_at "na"
  intro pl H9 f9 e9 k9
  have z9 : Kz [p] H H9 := ⟨by walk_at "k"⟩
  have hx1 : Fz H x := ⟨by walk_at "f"⟩
  have hx2 : Fz H d := ⟨by walk_at "f"⟩
  have hx3 : Fz H q := ⟨by walk_at "f"⟩
  have hx4 : Fz H e := ⟨by walk_at "f"⟩
  have hx5 : Fz H pl := ⟨by walk_at "f"⟩
  have W9 : Wr T H9 x d ws6 m := by walk_at "g"
  have W9' : Wr T H9 q e ws6 m := by walk_at "g"
  have nde : d ≠ e := by walk_at "ne"
  have nxq : x ≠ q := by walk_at "ne"
  have V9 := (V7.kp k8).kp k9
  have D9 := (D7.kp k8).kp k9
  have B9 : Box H9 p (n + 1 + m + gs.length) := by walk_at "g"
  have g9 : H9 D = some (.lst (gs.map V.int)) := by walk_at "g"
  have d9 : H9 E1 = some (.lst vs) := by walk_at "g"
  have nx : x ≠ p := by walk_at "ne"
  have nd : d ≠ p := by walk_at "ne"
  have nq : q ≠ p := by walk_at "ne"
  have ne : e ≠ p := by walk_at "ne"
  have nD : D ≠ p := by walk_at "ne"
  have nE : E1 ≠ p := by walk_at "ne"
  have npl : pl ≠ p := by walk_at "ne"
  have nDl : D ≠ pl := by walk_at "ne"
  have nEl : E1 ≠ pl := by walk_at "ne"
  clear k9 k8 k7 k6 k5 k4 k3 k2 k1 f9 f8 g8 hE hD f2 f1 W2 W3 W4 W5 W6 W8 B3 B5 B6 ed ea ea6 V4 V5 V6 V7 D7
  obtain ⟨z9⟩ := z9
  walk_at "s"
  refine jS (fun σ1 H1 => ∃ p1 d1 p2 d2, H1 pl = some (.lst [.ref p1, .ref p2]) ∧ Wr T H1 p1 d1 ws6 m ∧ Wr T H1 p2 d2 ws6 m ∧ d1 ≠ d2 ∧ p1 ≠ p2 ∧ Fz H p1 ∧ Fz H d1 ∧ Fz H p2 ∧ Fz H d2 ∧ p1 ≠ p ∧ d1 ≠ p ∧ p2 ≠ p ∧ d2 ≠ p ∧ Box H1 p (n + 50) ∧ Kp [p, pl] H9 H1 ∧ σ1 = [some (.ref p), some (.ref x), some (.int m), u3, some (.ref D), some (.ref E1), some (.ref pl), u7, u8]) (fun σ1 H1 => ?_) (fun _ key => ?_)
  rotate_left
  · walk_at "u"
    walk_at "tk"
    intro dd H10 dd0 dd1 B10 k10
    have b50 : Box H10 p (n + 50) := B10.more (by omega)
    walk_at "u"
    refine s_ite (fun h => ?_) (fun h => ?_)
    · walk_at "u"
      refine s_rev (xs := [.ref x, .ref q]) (by walk_at "g") fun H11 e11 k11 => ?_
      walk_at "u"
      exact key _ _ ⟨q, e, x, d, e11, by walk_at "g", by walk_at "g", nde.symm, nxq.symm, hx3, hx4, hx1, hx2, nq, ne, nx, nd, by walk_at "g", by walk_at "k", rfl⟩
    · walk_at "u"
      exact key _ _ ⟨x, d, q, e, by walk_at "g", by walk_at "g", by walk_at "g", nde, nxq, hx1, hx2, hx3, hx4, nx, nd, nq, ne, b50, by walk_at "k", rfl⟩
  rintro ⟨p1, d1, p2, d2, ep, W1, W2, ndd, npp, fp1, fd1, fp2, fd2, mp1, md1, mp2, md2, B1, k1, rfl⟩
  have V1 := V9.kp k1
  have D1 := D9.kp k1
  have g1 : H1 D = some (.lst (gs.map V.int)) := by walk_at "g"
  have e1 : H1 E1 = some (.lst vs) := by walk_at "g"
  have z1 : Kz [p] H H1 := ⟨by walk_at "k"⟩
  have B1 : Box H1 p (n + 50) := B1
  clear k1 z9 W9 W9' V9 D9 B9 g9 d9
  obtain ⟨z1⟩ := z1
  have lm : ∀ g ∈ lft m gs, 0 ≤ g ∧ g < m := fun g hgm => (lft_mem.mp hgm).1
  walk_at "u"
  refine s_ilst (SqL.of ep) ?_
  refine for_L ep (fun i σ H' => Box H' p (n + 50 + 2 * i) ∧ Kp [p] H1 H' ∧ ∃ u7 u8, σ = [some (.ref p), some (.ref x), some (.int m), u3, some (.ref D), some (.ref E1), some (.ref pl), u7, u8]) ⟨B1, Kp.refl, _, _, rfl⟩ (fun i σ' H' q o e => q.2.1.get1 e npl) ?_ ?_
  · rintro i x' σ H2 ex ⟨B2, k2, u7, u8, rfl⟩
    have hi : i < 2 := (List.getElem?_eq_some_iff.mp ex).1
    obtain ⟨pp, dd, rfl, WW, npp', ndd'⟩ : ∃ pp dd, x' = .ref pp ∧ Wr T H1 pp dd ws6 m ∧ pp ≠ p ∧ dd ≠ p := by
      match i, ex with
      | 0, ex => exact ⟨p1, d1, (Option.some.inj ex).symm, W1, mp1, md1⟩
      | 1, ex => exact ⟨p2, d2, (Option.some.inj ex).symm, W2, mp2, md2⟩
      | i + 2, ex => simp at ex
    clear W1 W2
    walk_at "u"
    refine ⟨_, _, _, rfl, p, D, n + 50 + 2 * i, (m : Int), gs, rfl, rfl, rfl, B2, by omega, by omega, by omega, by walk_at "g", by omega, nD, fun l y1 y2 dt1 dt2 F1 F2 H3 fl el O1 O2 j1 j2 nl1 nl2 B3 k3 => ?_⟩
    have V3 := (V1.kp k2).kp k3
    have D3 := (D1.kp k2).kp k3
    have fF : ∀ a ∈ F1 ++ F2, H2 a = none ∧ ∃ i, Th H3 a i := fun a ma => by
      rcases List.mem_append.mp ma with ma | ma
      · exact O1.fr a ma
      · exact O2.fr a ma
    have nF : ∀ {a j}, Th H2 a j → a ∉ F1 ++ F2 := fun h ma => h.ne (fF _ ma).1 rfl
    have c1 : pp ∉ F1 ++ F2 := nF (j := 5) (by walk_at "t")
    have c2 : dd ∉ F1 ++ F2 := nF (j := 2) (by walk_at "t")
    have c3 : E1 ∉ F1 ++ F2 := nF (j := 0) (by walk_at "t")
    have c4 : p ∉ F1 ++ F2 := nF (j := 0) B2.th
    have c5 : l ∉ F1 ++ F2 := by simp [nl1, nl2]
    have W3 : Wr T H3 pp dd ws6 m := by walk_at "g"
    have e3 : H3 E1 = some (.lst vs) := by walk_at "g"
    walk_at "u"
    refine s_ilst (SqL.of el) ?_
    refine for_L el (fun j σ H' => (∃ d, Ot K H' "more" y1 d F1 ∧ (j ≤ 0 → Bd d 3000)) ∧ (∃ d, Ot K H' "more" y2 d F2 ∧ (j ≤ 1 → Bd d 3000)) ∧ Kp (F1 ++ F2) H3 H' ∧ ∃ u8, σ = [some (.ref p), some (.ref x), some (.int m), u3, some (.ref D), some (.ref E1), some (.ref pl), some (.ref pp), u8]) ⟨⟨dt1, O1.ot, fun _ => O1.bd⟩, ⟨dt2, O2.ot, fun _ => O2.bd⟩, Kp.refl, _, rfl⟩ (fun j σ' H' q o e => q.2.2.1.get e c5) ?_ ?_
    · rintro j x'' σ H4 ex4 ⟨Q1, Q2, k4, u8, rfl⟩
      obtain ⟨dt, F, Ox, bx, nox, sub, nxt⟩ := th_step ex4 Q1 Q2 j1 j2 (O1.has V3 lm) (O2.has V3 lm) (fun g hgg => by
        refine ⟨V3.no (kw_no fun mg => ?_), ?_⟩
        · have := lm g mg
          rcases hgg with h | h | h
          · omega
          · omega
          · exact (lft_mem.mp mg).2 h
        · rcases hgg with h | h | h
          · omega
          · omega
          · have := hg g h; omega)
      have s1 : pp ∉ F := fun h => c1 (sub _ h)
      have s2 : dd ∉ F := fun h => c2 (sub _ h)
      have s3 : E1 ∉ F := fun h => c3 (sub _ h)
      walk_at "u"
      refine ⟨_, _, rfl, pp, dd, ws6, (m : Int), dt, F, rfl, by walk_at "g", Ox, bx, nox, fun a ma => ⟨fun h => s1 (h ▸ ma), fun h => s2 (h ▸ ma), by obtain ⟨i, hi⟩ := (fF a (sub a ma)).2; exact ⟨i, hi.kp k4⟩⟩, fun dt' H5 O5 k5 => ?_⟩
      obtain ⟨Q1', Q2'⟩ := nxt dt' H5 O5 k5
      walk_at "u"
      refine ⟨_, rfl, pp, dd, ws6, (m : Int), rfl, by walk_at "g", fun l6 us H6 f6 e6 hl hh k6 => ?_⟩
      walk_at "u"
      refine s_neR (d := .list (dK (kw (lft m gs)))) (.lst (Or.inl e6) ((((V3.kp k4).kp k5).kp k6).du hl hh).dn) (.lst (Or.inl (by walk_at "g")) (((D3.kp k4).kp k5).kp k6).dn) (shp_K ey_kw) ?_
      walk_at "u"
      refine ⟨_, rfl, pp, dd, ws6, (m : Int), rfl, by walk_at "g", ?_⟩
      walk_at "u"
      rw [decide_eq_true rfl]
      walk_at "u"
      refine ⟨?_, ?_, (k4.trans (k5.mono sub)).trans k6.nil, _, rfl⟩
      · obtain ⟨d, h1, h2⟩ := Q1'
        exact ⟨d, h1.kp k6, h2⟩
      · obtain ⟨d, h1, h2⟩ := Q2'
        exact ⟨d, h1.kp k6, h2⟩
    · rintro σ H4 ⟨_, _, k4, u8, rfl⟩
      walk_at "u"
      exact ⟨by walk_at "g", (k2.trans k3).step k4 fun a ma => Or.inr (k2.dom a (fF a ma).1), _, _, rfl⟩
  · rintro σ H2 ⟨B2, k2, u7, u8, rfl⟩
    have B2 : Box H2 p (n + 54) := B2
    have V2 := V1.kp k2
    have D2 := D1.kp k2
    walk_at "u"
    refine ⟨_, _, _, rfl, pl, p1, d1, p2, d2, E1, ws6, ws6, lft m gs, (m : Int), vs, rfl, rfl, rfl, by walk_at "g", by walk_at "g", D2, by walk_at "g", by walk_at "g", V2, V2, (rs_nd m).sublist List.filter_sublist, ndd, fun H3 W3 k3 => ?_⟩
    have mpl : d1 ≠ pl := by walk_at "ne"
    have mE : d1 ≠ E1 := by walk_at "ne"
    walk_at "u"
    refine s_rngN1 fun r H4 f4 e4 k4 => ?_
    walk_at "u"
    refine s_listR e4 (by omega) fun gl H5 f5 e5 k5 => ?_
    have e5 : H5 gl = some (.lst ((rs m).map V.int)) := by
      rw [e5, rs, rngV, List.map_map]
      simp
    walk_at "u"
    have lr : (rs m).length = m := by simp [rs]
    refine ⟨_, _, _, rfl, p, gl, n + 54, (m : Int), rs m, rfl, rfl, rfl, by walk_at "g", by omega, by omega, by omega, e5, by omega, by walk_at "ne", fun l y1 y2 dt1 dt2 F1 F2 H6 fl el O1 O2 j1 j2 nl1 nl2 B6 k6 => ?_⟩
    have z26 : Kz [d1, p] H2 H6 := ⟨by walk_at "k"⟩
    have fF : ∀ a ∈ F1 ++ F2, H5 a = none ∧ ∃ i, Th H6 a i := fun a ma => by
      rcases List.mem_append.mp ma with ma | ma
      · exact O1.fr a ma
      · exact O2.fr a ma
    have nF : ∀ {a j}, Th H5 a j → a ∉ F1 ++ F2 := fun h ma => h.ne (fF _ ma).1 rfl
    have c1 : p1 ∉ F1 ++ F2 := nF (j := 5) (by walk_at "t")
    have c2 : d1 ∉ F1 ++ F2 := nF (j := 2) (by walk_at "t")
    have c3 : E1 ∉ F1 ++ F2 := nF (j := 0) (by walk_at "t")
    have c4 : pl ∉ F1 ++ F2 := nF (j := 0) (by walk_at "t")
    have c5 : l ∉ F1 ++ F2 := by simp [nl1, nl2]
    have c6 : p2 ∉ F1 ++ F2 := nF (j := 5) (by walk_at "t")
    have c7 : d2 ∉ F1 ++ F2 := nF (j := 2) (by walk_at "t")
    have W6 : Wr T H6 p1 d1 [] m := by walk_at "g"
    have W6' : Wr T H6 p2 d2 ws6 m := by walk_at "g"
    have e6 : H6 E1 = some (.lst vs) := by walk_at "g"
    have p6 : H6 pl = some (.lst [.ref p1, .ref p2]) := by walk_at "g"
    have V6 := V2.kp z26.k
    have D6 := D2.kp z26.k
    have z6 : Kz [p] H H6 := ⟨by walk_at "k"⟩
    have hF0 : ∀ a ∈ F1 ++ F2, H a = none := fun a ma => by
      have h5 := (fF a ma).1
      walk_at "f"
    clear k6 k5 k4 k3 k2 z26 z1 W1 W2 W3 B1 B2 B6 ep g1 e1 e4 e5 f4 f5 fl V1 D1 V2 D2
    obtain ⟨z6⟩ := z6
    walk_at "u"
    refine s_ilst (SqL.of el) ?_
    refine for_L el (fun j σ H' => (∃ d, Ot K H' "more" y1 d F1 ∧ (j ≤ 0 → Bd d 3000)) ∧ (∃ d, Ot K H' "more" y2 d F2 ∧ (j ≤ 1 → Bd d 3000)) ∧ Kp (F1 ++ F2) H6 H' ∧ ∃ u8, σ = [some (.ref p), some (.ref x), some (.int m), u3, some (.ref D), some (.ref E1), some (.ref pl), u7, u8]) ⟨⟨dt1, O1.ot, fun _ => O1.bd⟩, ⟨dt2, O2.ot, fun _ => O2.bd⟩, Kp.refl, _, rfl⟩ (fun j σ' H' q o e => q.2.2.1.get e c5) ?_ ?_
    · rintro j x'' σ H7 ex4 ⟨Q1, Q2, k7, u8, rfl⟩
      obtain ⟨dt, F, Ox, bx, nox, sub, nxt⟩ := th_step (ws := []) ex4 Q1 Q2 j1 j2 (by cases y1 <;> rfl) (by cases y2 <;> rfl) (fun g hgg => by
        refine ⟨rfl, ?_⟩
        rcases hgg with h | h | h
        · omega
        · omega
        · have := rs_mem.mp h; omega)
      have s1 : p1 ∉ F := fun h => c1 (sub _ h)
      have s2 : d1 ∉ F := fun h => c2 (sub _ h)
      walk_at "u"
      refine ⟨_, _, rfl, p1, d1, [], (m : Int), dt, F, rfl, by walk_at "g", Ox, bx, nox, fun a ma => ⟨fun h => s1 (h ▸ ma), fun h => s2 (h ▸ ma), by obtain ⟨i, hi⟩ := (fF a (sub a ma)).2; exact ⟨i, hi.kp k7⟩⟩, fun dt' H8 O8 k8 => ?_⟩
      obtain ⟨Q1', Q2'⟩ := nxt dt' H8 O8 k8
      walk_at "u"
      exact ⟨Q1', Q2', k7.trans (k8.mono sub), _, rfl⟩
    · rintro σ H7 ⟨_, _, k7, u8, rfl⟩
      have z7 : Kz [p] H H7 := ⟨z6.step k7 fun a ma => Or.inr (hF0 a ma)⟩
      walk_at "u"
      refine ⟨_, _, _, rfl, pl, p1, d1, p2, d2, E1, ws6, lft m gs, (m : Int), vs, rfl, rfl, rfl, by walk_at "g", by walk_at "g", D6.kp k7, by walk_at "g", by walk_at "g", V6.kp k7, fun g hgm => (lm g hgm).2, ?_, by omega, by omega, ndd, npp, fun H8 k8 => ?_⟩
      · have := List.length_filter_le (fun x => decide (x ∉ gs)) (rs m)
        unfold lft
        omega
      · exact k _ (z7.k.step k8 (by simp [fp1.f, fd1.f, fp2.f, fd2.f]))
def sp_law (K : PySem.W.Frag) : Sp := sp1 fun x H Q _ => ∃ (a : Addr) (ns : List Int), x = .ref a ∧ SqL K H a (ns.map V.int) ∧ ns.length ≤ 63 ∧ ∀ H', Q (.bl true) H'
set_option maxHeartbeats 16000000 in
theorem ok_law (T : Tx K mg) (hs : ∃ mm, base.Ns sysModules mm) : FnG P w K mg base (L2.CX P w) 9 T.a_law T.d_law ["_law_script"] (sp_law K) := by
  have G_law_right := ok_law_right (P := P) (w := w) (base := base) T hs
  have G_law_box := ok_law_box (P := P) (w := w) (base := base) T
  have G_law_cell := ok_law_cell (P := P) (w := w) (base := base) T
  refine okG T.F_law sc_law (fun vs H Q E h => ?_) (fun cd A o s H vs Q E hg hr h => ?_)
  · obtain ⟨v0, rfl, h⟩ := h; rfl
  obtain ⟨v0, rfl, h⟩ := h
  obtain ⟨a, ns, rfl, hS, hl63, k⟩ := h
  refine ⟨_, (pss_cons (ps_for PassesOwn.leaving rfl (pi_range1 rfl T.z_range (pa_cons (pe_callB (c_max rfl) rfl T.z_max bt_max (pa_cons pe_int (pa_cons (pe_callB (c_min rfl) rfl T.z_min bt_min (pa_cons pe_int (pa_cons (pe_callB (c_len (K := K) rfl) rfl T.z_len bt_len (pa_cons (pv 0) pa_nil)) pa_nil))) pa_nil))) pa_nil)) (pg_name (i := 1) sc_law.nd rfl (Or.inl rfl))
    (pss_one (ps_if (pt_not (pt_val (pe_cg G_law_right hg (hr.mono (by decide)) rfl T.m_law_right T.F_law_right.kp T.B_law_right (takes_of (E := E) rfl rfl rfl rfl) (pa_cons (pe_co G_law_box (hr.mono (by decide)) rfl T.m_law_box T.F_law_box.kp T.B_law_box (takes_of (E := E) rfl rfl rfl rfl) (pa_cons (pe_co G_law_cell (hr.mono (by decide)) rfl T.m_law_cell T.F_law_cell.kp T.B_law_cell (takes_of (E := E) rfl rfl rfl rfl) (pa_cons (pv 0) (pa_cons (pv 1) pa_nil))) pa_nil)) pa_nil))))
    (pss_one (ps_ret pe_bl))
    pss_nil)))
    (pss_one (ps_ret pe_bl))), ?_⟩
  rw [st_law]
  walk_at "u"
  refine s_lenL (by walk_at "g") ?_
  walk_at "u"
  rw [List.length_map]
  obtain ⟨j, ej, hj2, hj⟩ := many_j ns.length 2 12 (by omega) (by omega)
  rw [ej]
  refine s_rng (by omega) (by omega) ?_
  refine for_R (fun i σ H' => Kp [] H H' ∧ ∃ u1, σ = [some (.ref a), u1]) ⟨Kp.refl, _, rfl⟩ ?_ ?_
  · rintro i σ H1 hi ⟨k1, u1, rfl⟩
    walk_at "u"
    walk_at "cl"
    intro q0
    walk_at "u"
    refine c_box fun p H2 f2 k2 B2 => ?_
    walk_at "u"
    refine ⟨_, rfl, p, 0, rfl, B2, by omega, fun H3 k3 => ?_⟩
    walk_at "u"
    exact ⟨by walk_at "k", _, rfl⟩
  · rintro σ H1 ⟨k1, u1, rfl⟩
    walk_at "u"
    exact k _
theorem all_mk {l : PySem.W.OpenLaw} {w : World} {K : PySem.W.Frag} {h : Heap} {mg : Str → Option Value} {fa : Addr} (X : K.In h) (G : h.Ns mainGlobals mg) (hfa : mg "law" = some (.ref fa))
    {C_Wire : Addr} (n_Wire : PySem.W.nsIn K mainGlobals "Wire" = some (some (.ref C_Wire)))
    {C_NoNumber : Addr} (n_NoNumber : PySem.W.nsIn K mainGlobals "NoNumber" = some (some (.ref C_NoNumber)))
    {C_NoWord : Addr} (n_NoWord : PySem.W.nsIn K mainGlobals "NoWord" = some (some (.ref C_NoWord)))
    {C_StaffError : Addr} (n_StaffError : PySem.W.nsIn K mainGlobals "StaffError" = some (some (.ref C_StaffError)))
    {f1 : Addr} {od1 an1 : Option Addr} {sl1 : Array (Option Value)} {oc1 kV1 dc1 pm1 cd1 ct1 : Value}
    (a1 : PySem.W.findIn K (.ref C_NoNumber) "__init__" = some (some (.ref f1)))
    (l1 : K.lookup f1 = some ⟨oc1, od1, .func (PySem.W.fnOf "__init__" "NoNumber.__init__" (defArgs s_NoNumber_init) (defBody s_NoNumber_init) (defScope s_NoNumber_init) .none kV1 dc1 pm1 an1 cd1 ct1), sl1⟩) (c1 : PySem.W.codeIn K cd1 "NoNumber.__init__" = true) (k1 : PySem.W.keepIn K (.ref f1) = true)
    {f2 : Addr} {od2 an2 : Option Addr} {sl2 : Array (Option Value)} {oc2 kV2 dc2 pm2 cd2 ct2 : Value}
    (a2 : PySem.W.findIn K (.ref C_NoWord) "__init__" = some (some (.ref f2)))
    (l2 : K.lookup f2 = some ⟨oc2, od2, .func (PySem.W.fnOf "__init__" "NoWord.__init__" (defArgs s_NoWord_init) (defBody s_NoWord_init) (defScope s_NoWord_init) .none kV2 dc2 pm2 an2 cd2 ct2), sl2⟩) (c2 : PySem.W.codeIn K cd2 "NoWord.__init__" = true) (k2 : PySem.W.keepIn K (.ref f2) = true)
    {f3 : Addr} {od3 an3 : Option Addr} {sl3 : Array (Option Value)} {oc3 kV3 dc3 pm3 cd3 ct3 : Value}
    (a3 : PySem.W.nsIn K mainGlobals "is_whole" = some (some (.ref f3)))
    (l3 : K.lookup f3 = some ⟨oc3, od3, .func (PySem.W.fnOf "is_whole" "is_whole" (defArgs s_is_whole) (defBody s_is_whole) (defScope s_is_whole) .none kV3 dc3 pm3 an3 cd3 ct3), sl3⟩) (c3 : PySem.W.codeIn K cd3 "is_whole" = true) (k3 : PySem.W.keepIn K (.ref f3) = true)
    {f4 : Addr} {od4 an4 : Option Addr} {sl4 : Array (Option Value)} {oc4 kV4 dc4 pm4 cd4 ct4 : Value}
    (a4 : PySem.W.findIn K (.ref C_Wire) "__init__" = some (some (.ref f4)))
    (l4 : K.lookup f4 = some ⟨oc4, od4, .func (PySem.W.fnOf "__init__" "Wire.__init__" (defArgs s_Wire_init) (defBody s_Wire_init) (defScope s_Wire_init) .none kV4 dc4 pm4 an4 cd4 ct4), sl4⟩) (c4 : PySem.W.codeIn K cd4 "Wire.__init__" = true) (k4 : PySem.W.keepIn K (.ref f4) = true)
    {f5 : Addr} {od5 an5 : Option Addr} {sl5 : Array (Option Value)} {oc5 kV5 dc5 pm5 cd5 ct5 : Value}
    (a5 : PySem.W.findIn K (.ref C_Wire) "send" = some (some (.ref f5)))
    (l5 : K.lookup f5 = some ⟨oc5, od5, .func (PySem.W.fnOf "send" "Wire.send" (defArgs s_Wire_send) (defBody s_Wire_send) (defScope s_Wire_send) .none kV5 dc5 pm5 an5 cd5 ct5), sl5⟩) (c5 : PySem.W.codeIn K cd5 "Wire.send" = true) (k5 : PySem.W.keepIn K (.ref f5) = true)
    {f6 : Addr} {od6 an6 : Option Addr} {sl6 : Array (Option Value)} {oc6 kV6 dc6 pm6 cd6 ct6 : Value}
    (a6 : PySem.W.findIn K (.ref C_Wire) "need" = some (some (.ref f6)))
    (l6 : K.lookup f6 = some ⟨oc6, od6, .func (PySem.W.fnOf "need" "Wire.need" (defArgs s_Wire_need) (defBody s_Wire_need) (defScope s_Wire_need) .none kV6 dc6 pm6 an6 cd6 ct6), sl6⟩) (c6 : PySem.W.codeIn K cd6 "Wire.need" = true) (k6 : PySem.W.keepIn K (.ref f6) = true)
    {f7 : Addr} {od7 an7 : Option Addr} {sl7 : Array (Option Value)} {oc7 kV7 dc7 pm7 cd7 ct7 : Value}
    (a7 : PySem.W.findIn K (.ref C_Wire) "get" = some (some (.ref f7)))
    (l7 : K.lookup f7 = some ⟨oc7, od7, .func (PySem.W.fnOf "get" "Wire.get" (defArgs s_Wire_get) (defBody s_Wire_get) (defScope s_Wire_get) .none kV7 dc7 pm7 an7 cd7 ct7), sl7⟩) (c7 : PySem.W.codeIn K cd7 "Wire.get" = true) (k7 : PySem.W.keepIn K (.ref f7) = true)
    {f8 : Addr} {od8 an8 : Option Addr} {sl8 : Array (Option Value)} {oc8 kV8 dc8 pm8 cd8 ct8 : Value}
    (a8 : PySem.W.findIn K (.ref C_Wire) "lose" = some (some (.ref f8)))
    (l8 : K.lookup f8 = some ⟨oc8, od8, .func (PySem.W.fnOf "lose" "Wire.lose" (defArgs s_Wire_lose) (defBody s_Wire_lose) (defScope s_Wire_lose) .none kV8 dc8 pm8 an8 cd8 ct8), sl8⟩) (c8 : PySem.W.codeIn K cd8 "Wire.lose" = true) (k8 : PySem.W.keepIn K (.ref f8) = true)
    {f9 : Addr} {od9 an9 : Option Addr} {sl9 : Array (Option Value)} {oc9 kV9 dc9 pm9 cd9 ct9 : Value}
    (a9 : PySem.W.findIn K (.ref C_Wire) "under_way" = some (some (.ref f9)))
    (l9 : K.lookup f9 = some ⟨oc9, od9, .func (PySem.W.fnOf "under_way" "Wire.under_way" (defArgs s_Wire_under_way) (defBody s_Wire_under_way) (defScope s_Wire_under_way) .none kV9 dc9 pm9 an9 cd9 ct9), sl9⟩) (c9 : PySem.W.codeIn K cd9 "Wire.under_way" = true) (k9 : PySem.W.keepIn K (.ref f9) = true)
    {f10 : Addr} {od10 an10 : Option Addr} {sl10 : Array (Option Value)} {oc10 kV10 dc10 pm10 cd10 ct10 : Value}
    (a10 : PySem.W.findIn K (.ref C_Wire) "sent" = some (some (.ref f10)))
    (l10 : K.lookup f10 = some ⟨oc10, od10, .func (PySem.W.fnOf "sent" "Wire.sent" (defArgs s_Wire_sent) (defBody s_Wire_sent) (defScope s_Wire_sent) .none kV10 dc10 pm10 an10 cd10 ct10), sl10⟩) (c10 : PySem.W.codeIn K cd10 "Wire.sent" = true) (k10 : PySem.W.keepIn K (.ref f10) = true)
    {f11 : Addr} {od11 an11 : Option Addr} {sl11 : Array (Option Value)} {oc11 kV11 dc11 pm11 cd11 ct11 : Value}
    (a11 : PySem.W.findIn K (.ref C_Wire) "twin" = some (some (.ref f11)))
    (l11 : K.lookup f11 = some ⟨oc11, od11, .func (PySem.W.fnOf "twin" "Wire.twin" (defArgs s_Wire_twin) (defBody s_Wire_twin) (defScope s_Wire_twin) .none kV11 dc11 pm11 an11 cd11 ct11), sl11⟩) (c11 : PySem.W.codeIn K cd11 "Wire.twin" = true) (k11 : PySem.W.keepIn K (.ref f11) = true)
    {f12 : Addr} {od12 an12 : Option Addr} {sl12 : Array (Option Value)} {oc12 kV12 dc12 pm12 cd12 ct12 : Value}
    (a12 : PySem.W.nsIn K mainGlobals "_law_cell" = some (some (.ref f12)))
    (l12 : K.lookup f12 = some ⟨oc12, od12, .func (PySem.W.fnOf "_law_cell" "_law_cell" (defArgs s_law_cell) (defBody s_law_cell) (defScope s_law_cell) .none kV12 dc12 pm12 an12 cd12 ct12), sl12⟩) (c12 : PySem.W.codeIn K cd12 "_law_cell" = true) (k12 : PySem.W.keepIn K (.ref f12) = true)
    {f13 : Addr} {od13 an13 : Option Addr} {sl13 : Array (Option Value)} {oc13 kV13 dc13 pm13 cd13 ct13 : Value}
    (a13 : PySem.W.nsIn K mainGlobals "_law_box" = some (some (.ref f13)))
    (l13 : K.lookup f13 = some ⟨oc13, od13, .func (PySem.W.fnOf "_law_box" "_law_box" (defArgs s_law_box) (defBody s_law_box) (defScope s_law_box) .none kV13 dc13 pm13 an13 cd13 ct13), sl13⟩) (c13 : PySem.W.codeIn K cd13 "_law_box" = true) (k13 : PySem.W.keepIn K (.ref f13) = true)
    {f14 : Addr} {od14 an14 : Option Addr} {sl14 : Array (Option Value)} {oc14 kV14 dc14 pm14 cd14 ct14 : Value}
    (a14 : PySem.W.nsIn K mainGlobals "_law_take" = some (some (.ref f14)))
    (l14 : K.lookup f14 = some ⟨oc14, od14, .func (PySem.W.fnOf "_law_take" "_law_take" (defArgs s_law_take) (defBody s_law_take) (defScope s_law_take) .none kV14 dc14 pm14 an14 cd14 ct14), sl14⟩) (c14 : PySem.W.codeIn K cd14 "_law_take" = true) (k14 : PySem.W.keepIn K (.ref f14) = true)
    {f15 : Addr} {od15 an15 : Option Addr} {sl15 : Array (Option Value)} {oc15 kV15 dc15 pm15 cd15 ct15 : Value}
    (a15 : PySem.W.nsIn K mainGlobals "_law_caught" = some (some (.ref f15)))
    (l15 : K.lookup f15 = some ⟨oc15, od15, .func (PySem.W.fnOf "_law_caught" "_law_caught" (defArgs s_law_caught) (defBody s_law_caught) (defScope s_law_caught) .none kV15 dc15 pm15 an15 cd15 ct15), sl15⟩) (c15 : PySem.W.codeIn K cd15 "_law_caught" = true) (k15 : PySem.W.keepIn K (.ref f15) = true)
    {f16 : Addr} {od16 an16 : Option Addr} {sl16 : Array (Option Value)} {oc16 kV16 dc16 pm16 cd16 ct16 : Value}
    (a16 : PySem.W.nsIn K mainGlobals "_law_odds" = some (some (.ref f16)))
    (l16 : K.lookup f16 = some ⟨oc16, od16, .func (PySem.W.fnOf "_law_odds" "_law_odds" (defArgs s_law_odds) (defBody s_law_odds) (defScope s_law_odds) .none kV16 dc16 pm16 an16 cd16 ct16), sl16⟩) (c16 : PySem.W.codeIn K cd16 "_law_odds" = true) (k16 : PySem.W.keepIn K (.ref f16) = true)
    {f17 : Addr} {od17 an17 : Option Addr} {sl17 : Array (Option Value)} {oc17 kV17 dc17 pm17 cd17 ct17 : Value}
    (a17 : PySem.W.nsIn K mainGlobals "_law_refuses" = some (some (.ref f17)))
    (l17 : K.lookup f17 = some ⟨oc17, od17, .func (PySem.W.fnOf "_law_refuses" "_law_refuses" (defArgs s_law_refuses) (defBody s_law_refuses) (defScope s_law_refuses) .none kV17 dc17 pm17 an17 cd17 ct17), sl17⟩) (c17 : PySem.W.codeIn K cd17 "_law_refuses" = true) (k17 : PySem.W.keepIn K (.ref f17) = true)
    {f18 : Addr} {od18 an18 : Option Addr} {sl18 : Array (Option Value)} {oc18 kV18 dc18 pm18 cd18 ct18 : Value}
    (a18 : PySem.W.nsIn K mainGlobals "_law_got" = some (some (.ref f18)))
    (l18 : K.lookup f18 = some ⟨oc18, od18, .func (PySem.W.fnOf "_law_got" "_law_got" (defArgs s_law_got) (defBody s_law_got) (defScope s_law_got) .none kV18 dc18 pm18 an18 cd18 ct18), sl18⟩) (c18 : PySem.W.codeIn K cd18 "_law_got" = true) (k18 : PySem.W.keepIn K (.ref f18) = true)
    {f19 : Addr} {od19 an19 : Option Addr} {sl19 : Array (Option Value)} {oc19 kV19 dc19 pm19 cd19 ct19 : Value}
    (a19 : PySem.W.nsIn K mainGlobals "_law_sent_behind" = some (some (.ref f19)))
    (l19 : K.lookup f19 = some ⟨oc19, od19, .func (PySem.W.fnOf "_law_sent_behind" "_law_sent_behind" (defArgs s_law_sent_behind) (defBody s_law_sent_behind) (defScope s_law_sent_behind) .none kV19 dc19 pm19 an19 cd19 ct19), sl19⟩) (c19 : PySem.W.codeIn K cd19 "_law_sent_behind" = true) (k19 : PySem.W.keepIn K (.ref f19) = true)
    {f20 : Addr} {od20 an20 : Option Addr} {sl20 : Array (Option Value)} {oc20 kV20 dc20 pm20 cd20 ct20 : Value}
    (a20 : PySem.W.nsIn K mainGlobals "_law_right" = some (some (.ref f20)))
    (l20 : K.lookup f20 = some ⟨oc20, od20, .func (PySem.W.fnOf "_law_right" "_law_right" (defArgs s_law_right) (defBody s_law_right) (defScope s_law_right) .none kV20 dc20 pm20 an20 cd20 ct20), sl20⟩) (c20 : PySem.W.codeIn K cd20 "_law_right" = true) (k20 : PySem.W.keepIn K (.ref f20) = true)
    {f21 : Addr} {od21 an21 : Option Addr} {sl21 : Array (Option Value)} {oc21 kV21 dc21 pm21 cd21 ct21 : Value}
    (a21 : PySem.W.nsIn K mainGlobals "law" = some (some (.ref f21)))
    (l21 : K.lookup f21 = some ⟨oc21, od21, .func (PySem.W.fnOf "law" "law" (defArgs s_law) (defBody s_law) (defScope s_law) .none kV21 dc21 pm21 an21 cd21 ct21), sl21⟩) (c21 : PySem.W.codeIn K cd21 "law" = true) (k21 : PySem.W.keepIn K (.ref f21) = true)
    (pg_Wire : PySem.W.plainGet K C_Wire Str.empty = true) (hd_Wire : PySem.W.hasDictIn K C_Wire = true) (po_Wire : PySem.W.plainOver K C_Wire = true) (sa_Wire : PySem.W.findIn K (.ref C_Wire) "__setattr__" = some (some (.builtin "object.__setattr__"))) (mk_Wire : PySem.W.makesIn K C_Wire = true) (kc_Wire : PySem.W.keepIn K (.ref C_Wire) = true)
    (if_Wire : PySem.W.isFn K (.ref f4) = true)
    (na_Wire_kept_words : PySem.W.findIn K (.ref C_Wire) "kept_words" = some none)
    (na_Wire_kept_sent : PySem.W.findIn K (.ref C_Wire) "kept_sent" = some none)
    (fn_Wire_send : PySem.W.isFn K (.ref f5) = true)
    (fn_Wire_need : PySem.W.isFn K (.ref f6) = true)
    (fn_Wire_get : PySem.W.isFn K (.ref f7) = true)
    (fn_Wire_lose : PySem.W.isFn K (.ref f8) = true)
    (fn_Wire_under_way : PySem.W.isFn K (.ref f9) = true)
    (fn_Wire_sent : PySem.W.isFn K (.ref f10) = true)
    (fn_Wire_twin : PySem.W.isFn K (.ref f11) = true)
    {nm_NoNumber q_NoNumber : Str} {N_NoNumber : Addr} {bs_NoNumber bm_NoNumber sub_NoNumber : List Value} {sn_NoNumber : List Str} {ab_NoNumber : Bool} {col_NoNumber : Option Bool} {dd_NoNumber : Option Addr} {e0_NoNumber e1_NoNumber e2_NoNumber e3_NoNumber e5_NoNumber : Option Value}
    (xL_NoNumber : K.lookup C_NoNumber = some (excClassObj nm_NoNumber q_NoNumber C_NoNumber N_NoNumber bs_NoNumber bm_NoNumber true sn_NoNumber sub_NoNumber ab_NoNumber col_NoNumber dd_NoNumber e0_NoNumber e1_NoNumber e2_NoNumber e3_NoNumber e5_NoNumber "ValueError.__new__")) (ve_NoNumber : PySem.HandSPX.refsVE bm_NoNumber = true)
    (sa_NoNumber : PySem.W.findIn K (.ref C_NoNumber) "__setattr__" = some (some (.builtin "object.__setattr__")))
    (ga_NoNumber : PySem.W.findIn K (.ref C_NoNumber) "__getattribute__" = some (some (.builtin "BaseException.__getattribute__")))
    (gg_NoNumber : PySem.W.findIn K (.ref C_NoNumber) "__getattr__" = some none)
    (no_NoNumber : PySem.W.findIn K (.ref C_NoNumber) "found" = some none)
    (ex_NoNumber : PySem.W.subIn K (.ref C_NoNumber) (.type "BaseException") = some true)
    (ty_NoNumber : PySem.W.typeIn K (.ref C_NoNumber) = some (.type "type"))
    (kC_NoNumber : PySem.W.keepIn K (.ref C_NoNumber) = true)
    (hd_NoNumber : PySem.W.hasDictIn K C_NoNumber = true)
    (ha_NoNumber : PySem.W.findIn K (.ref C_NoNumber) "__class__" = some (some (.builtin "object.__class__")))
    (hm_NoNumber : PySem.W.mroIn K C_NoNumber (.type "object") = some true)
    (ti_NoNumber : PySem.W.typeIn K (.ref f1) = some (.type "function"))
    {nm_NoWord q_NoWord : Str} {N_NoWord : Addr} {bs_NoWord bm_NoWord sub_NoWord : List Value} {sn_NoWord : List Str} {ab_NoWord : Bool} {col_NoWord : Option Bool} {dd_NoWord : Option Addr} {e0_NoWord e1_NoWord e2_NoWord e3_NoWord e5_NoWord : Option Value}
    (xL_NoWord : K.lookup C_NoWord = some (excClassObj nm_NoWord q_NoWord C_NoWord N_NoWord bs_NoWord bm_NoWord true sn_NoWord sub_NoWord ab_NoWord col_NoWord dd_NoWord e0_NoWord e1_NoWord e2_NoWord e3_NoWord e5_NoWord "ValueError.__new__")) (ve_NoWord : PySem.HandSPX.refsVE bm_NoWord = true)
    (sa_NoWord : PySem.W.findIn K (.ref C_NoWord) "__setattr__" = some (some (.builtin "object.__setattr__")))
    (ga_NoWord : PySem.W.findIn K (.ref C_NoWord) "__getattribute__" = some (some (.builtin "BaseException.__getattribute__")))
    (gg_NoWord : PySem.W.findIn K (.ref C_NoWord) "__getattr__" = some none)
    (no_NoWord : PySem.W.findIn K (.ref C_NoWord) "found" = some none)
    (ex_NoWord : PySem.W.subIn K (.ref C_NoWord) (.type "BaseException") = some true)
    (ty_NoWord : PySem.W.typeIn K (.ref C_NoWord) = some (.type "type"))
    (kC_NoWord : PySem.W.keepIn K (.ref C_NoWord) = true)
    (hd_NoWord : PySem.W.hasDictIn K C_NoWord = true)
    (ha_NoWord : PySem.W.findIn K (.ref C_NoWord) "__class__" = some (some (.builtin "object.__class__")))
    (hm_NoWord : PySem.W.mroIn K C_NoWord (.type "object") = some true)
    (ti_NoWord : PySem.W.typeIn K (.ref f2) = some (.type "function"))
    (rd_StaffError : PySem.W.readsIn K C_StaffError (.type "type") = true) (rg_StaffError : PySem.W.specialIn K (.ref C_StaffError) "__getattribute__" = some (some (.builtin "type.__getattribute__"))) (vi_StaffError : PySem.W.findCls K (.ref C_StaffError) (.type "type") "__init__" = some (.val (.builtin "ValueError.__init__")))
    (oc_get : PySem.W.specialIn K (.builtin "object.__class__") "__get__" = some (some (.builtin "getset_descriptor.__get__"))) (oc_take : PySem.W.takesIn K (.builtin "object.__class__") = some true)
    (ex_NoWord_NoWord : PySem.W.exmOne K (.ref C_NoWord) (.ref C_NoWord) = some true)
    (ki_NoWord_NoNumber : PySem.W.kitOne K (.ref C_NoWord) (.ref C_NoNumber) = some false)
    (z_bool : PySem.W.nsIn K mainGlobals "bool" = some none)
    (z_dict : PySem.W.nsIn K mainGlobals "dict" = some none)
    (z_int : PySem.W.nsIn K mainGlobals "int" = some none)
    (z_isinstance : PySem.W.nsIn K mainGlobals "isinstance" = some none)
    (z_len : PySem.W.nsIn K mainGlobals "len" = some none)
    (z_list : PySem.W.nsIn K mainGlobals "list" = some none)
    (z_max : PySem.W.nsIn K mainGlobals "max" = some none)
    (z_min : PySem.W.nsIn K mainGlobals "min" = some none)
    (z_range : PySem.W.nsIn K mainGlobals "range" = some none)
    (z_repr : PySem.W.nsIn K mainGlobals "repr" = some none)
    (z_sorted : PySem.W.nsIn K mainGlobals "sorted" = some none) :
    ∃ fd : FuncData, (∀ (s : Shared) (v : Value), BindsTo s fd ⟨[v], []⟩ [("_law_script", v)]) ∧ ∀ base : Heap, K.In base → base.Ns mainGlobals mg → (∃ mm, base.Ns sysModules mm) → FnG l.prog w K mg base (L2.CX l.prog w) 9 fa fd ["_law_script"] (sp_law K) := by
  have e : fa = f21 := by
    have z := hfa.symm.trans (PySem.W.mg_of X G a21)
    injection z with z; injection z
  let T : Tx K mg := {
    C_Wire := C_Wire, m_Wire := PySem.W.mg_of X G n_Wire,
    C_NoNumber := C_NoNumber, m_NoNumber := PySem.W.mg_of X G n_NoNumber,
    C_NoWord := C_NoWord, m_NoWord := PySem.W.mg_of X G n_NoWord,
    C_StaffError := C_StaffError, m_StaffError := PySem.W.mg_of X G n_StaffError,
    a_NoNumber_init := f1, d_NoNumber_init := _, F_NoNumber_init := fun_mk (st := s_NoNumber_init) l1 c1 k1, B_NoNumber_init := (fun_mk (st := s_NoNumber_init) l1 c1 k1).binds (ps := ["self", "found"]) (fun _ _ _ _ _ _ us hl => match us, hl with | [_, _], _ => rfl),
    a_NoWord_init := f2, d_NoWord_init := _, F_NoWord_init := fun_mk (st := s_NoWord_init) l2 c2 k2, B_NoWord_init := (fun_mk (st := s_NoWord_init) l2 c2 k2).binds (ps := ["self", "found"]) (fun _ _ _ _ _ _ us hl => match us, hl with | [_, _], _ => rfl),
    a_is_whole := f3, d_is_whole := _, F_is_whole := fun_mk (st := s_is_whole) l3 c3 k3, B_is_whole := (fun_mk (st := s_is_whole) l3 c3 k3).binds (ps := ["thing", "low", "high"]) (fun _ _ _ _ _ _ us hl => match us, hl with | [_, _, _], _ => rfl), m_is_whole := PySem.W.mg_of X G a3,
    a_Wire_init := f4, d_Wire_init := _, F_Wire_init := fun_mk (st := s_Wire_init) l4 c4 k4, B_Wire_init := (fun_mk (st := s_Wire_init) l4 c4 k4).binds (ps := ["self"]) (fun _ _ _ _ _ _ us hl => match us, hl with | [_], _ => rfl),
    a_Wire_send := f5, d_Wire_send := _, F_Wire_send := fun_mk (st := s_Wire_send) l5 c5 k5, B_Wire_send := (fun_mk (st := s_Wire_send) l5 c5 k5).binds (ps := ["self", "word"]) (fun _ _ _ _ _ _ us hl => match us, hl with | [_, _], _ => rfl),
    a_Wire_need := f6, d_Wire_need := _, F_Wire_need := fun_mk (st := s_Wire_need) l6 c6 k6, B_Wire_need := (fun_mk (st := s_Wire_need) l6 c6 k6).binds (ps := ["self", "number"]) (fun _ _ _ _ _ _ us hl => match us, hl with | [_, _], _ => rfl),
    a_Wire_get := f7, d_Wire_get := _, F_Wire_get := fun_mk (st := s_Wire_get) l7 c7 k7, B_Wire_get := (fun_mk (st := s_Wire_get) l7 c7 k7).binds (ps := ["self", "number"]) (fun _ _ _ _ _ _ us hl => match us, hl with | [_, _], _ => rfl),
    a_Wire_lose := f8, d_Wire_lose := _, F_Wire_lose := fun_mk (st := s_Wire_lose) l8 c8 k8, B_Wire_lose := (fun_mk (st := s_Wire_lose) l8 c8 k8).binds (ps := ["self", "number"]) (fun _ _ _ _ _ _ us hl => match us, hl with | [_, _], _ => rfl),
    a_Wire_under_way := f9, d_Wire_under_way := _, F_Wire_under_way := fun_mk (st := s_Wire_under_way) l9 c9 k9, B_Wire_under_way := (fun_mk (st := s_Wire_under_way) l9 c9 k9).binds (ps := ["self"]) (fun _ _ _ _ _ _ us hl => match us, hl with | [_], _ => rfl),
    a_Wire_sent := f10, d_Wire_sent := _, F_Wire_sent := fun_mk (st := s_Wire_sent) l10 c10 k10, B_Wire_sent := (fun_mk (st := s_Wire_sent) l10 c10 k10).binds (ps := ["self"]) (fun _ _ _ _ _ _ us hl => match us, hl with | [_], _ => rfl),
    a_Wire_twin := f11, d_Wire_twin := _, F_Wire_twin := fun_mk (st := s_Wire_twin) l11 c11 k11, B_Wire_twin := (fun_mk (st := s_Wire_twin) l11 c11 k11).binds (ps := ["self"]) (fun _ _ _ _ _ _ us hl => match us, hl with | [_], _ => rfl),
    a_law_cell := f12, d_law_cell := _, F_law_cell := fun_mk (st := s_law_cell) l12 c12 k12, B_law_cell := (fun_mk (st := s_law_cell) l12 c12 k12).binds (ps := ["_law_script", "_law_k"]) (fun _ _ _ _ _ _ us hl => match us, hl with | [_, _], _ => rfl), m_law_cell := PySem.W.mg_of X G a12,
    a_law_box := f13, d_law_box := _, F_law_box := fun_mk (st := s_law_box) l13 c13 k13, B_law_box := (fun_mk (st := s_law_box) l13 c13 k13).binds (ps := ["_law_cell_here"]) (fun _ _ _ _ _ _ us hl => match us, hl with | [_], _ => rfl), m_law_box := PySem.W.mg_of X G a13,
    a_law_take := f14, d_law_take := _, F_law_take := fun_mk (st := s_law_take) l14 c14 k14, B_law_take := (fun_mk (st := s_law_take) l14 c14 k14).binds (ps := ["_law_box_here", "_law_many"]) (fun _ _ _ _ _ _ us hl => match us, hl with | [_, _], _ => rfl), m_law_take := PySem.W.mg_of X G a14,
    a_law_caught := f15, d_law_caught := _, F_law_caught := fun_mk (st := s_law_caught) l15 c15 k15, B_law_caught := (fun_mk (st := s_law_caught) l15 c15 k15).binds (ps := ["_law_wire", "_law_way", "_law_number"]) (fun _ _ _ _ _ _ us hl => match us, hl with | [_, _, _], _ => rfl), m_law_caught := PySem.W.mg_of X G a15,
    a_law_odds := f16, d_law_odds := _, F_law_odds := fun_mk (st := s_law_odds) l16 c16 k16, B_law_odds := (fun_mk (st := s_law_odds) l16 c16 k16).binds (ps := ["_law_box_here", "_law_sent", "_law_gone"]) (fun _ _ _ _ _ _ us hl => match us, hl with | [_, _, _], _ => rfl), m_law_odds := PySem.W.mg_of X G a16,
    a_law_refuses := f17, d_law_refuses := _, F_law_refuses := fun_mk (st := s_law_refuses) l17 c17 k17, B_law_refuses := (fun_mk (st := s_law_refuses) l17 c17 k17).binds (ps := ["_law_wire", "_law_thing"]) (fun _ _ _ _ _ _ us hl => match us, hl with | [_, _], _ => rfl), m_law_refuses := PySem.W.mg_of X G a17,
    a_law_got := f18, d_law_got := _, F_law_got := fun_mk (st := s_law_got) l18 c18 k18, B_law_got := (fun_mk (st := s_law_got) l18 c18 k18).binds (ps := ["_law_pair", "_law_due", "_law_sent"]) (fun _ _ _ _ _ _ us hl => match us, hl with | [_, _, _], _ => rfl), m_law_got := PySem.W.mg_of X G a18,
    a_law_sent_behind := f19, d_law_sent_behind := _, F_law_sent_behind := fun_mk (st := s_law_sent_behind) l19 c19 k19, B_law_sent_behind := (fun_mk (st := s_law_sent_behind) l19 c19 k19).binds (ps := ["_law_pair", "_law_due", "_law_sent"]) (fun _ _ _ _ _ _ us hl => match us, hl with | [_, _, _], _ => rfl), m_law_sent_behind := PySem.W.mg_of X G a19,
    a_law_right := f20, d_law_right := _, F_law_right := fun_mk (st := s_law_right) l20 c20 k20, B_law_right := (fun_mk (st := s_law_right) l20 c20 k20).binds (ps := ["_law_box_here"]) (fun _ _ _ _ _ _ us hl => match us, hl with | [_], _ => rfl), m_law_right := PySem.W.mg_of X G a20,
    a_law := f21, d_law := _, F_law := fun_mk (st := s_law) l21 c21 k21, B_law := (fun_mk (st := s_law) l21 c21 k21).binds (ps := ["_law_script"]) (fun _ _ _ _ _ _ us hl => match us, hl with | [_], _ => rfl), m_law := PySem.W.mg_of X G a21,
    cl_Wire := ⟨pg_Wire, hd_Wire, po_Wire, sa_Wire⟩,
    mk_Wire := ⟨mk_Wire, a4, if_Wire, kc_Wire⟩,
    na_Wire_kept_words := na_Wire_kept_words,
    na_Wire_kept_sent := na_Wire_kept_sent,
    M_Wire_send := ⟨a5, fn_Wire_send, k5⟩,
    M_Wire_need := ⟨a6, fn_Wire_need, k6⟩,
    M_Wire_get := ⟨a7, fn_Wire_get, k7⟩,
    M_Wire_lose := ⟨a8, fn_Wire_lose, k8⟩,
    M_Wire_under_way := ⟨a9, fn_Wire_under_way, k9⟩,
    M_Wire_sent := ⟨a10, fn_Wire_sent, k10⟩,
    M_Wire_twin := ⟨a11, fn_Wire_twin, k11⟩,
    er_NoNumber := ⟨⟨⟨_, _, _, _, _, _, _, _, _, _, _, _, _, _, _, xL_NoNumber, ve_NoNumber⟩, sa_NoNumber, ex_NoNumber, ty_NoNumber, kC_NoNumber⟩, ⟨ga_NoNumber, gg_NoNumber, ex_NoNumber, hd_NoNumber⟩, no_NoNumber, a1, ti_NoNumber, ha_NoNumber, hm_NoNumber⟩,
    er_NoWord := ⟨⟨⟨_, _, _, _, _, _, _, _, _, _, _, _, _, _, _, xL_NoWord, ve_NoWord⟩, sa_NoWord, ex_NoWord, ty_NoWord, kC_NoWord⟩, ⟨ga_NoWord, gg_NoWord, ex_NoWord, hd_NoWord⟩, no_NoWord, a2, ti_NoWord, ha_NoWord, hm_NoWord⟩,
    rd_StaffError := ⟨rd_StaffError, rg_StaffError⟩, vi_StaffError := vi_StaffError,
    oc_get := oc_get, oc_take := oc_take,
    ex_NoWord_NoWord := ex_NoWord_NoWord,
    ki_NoWord_NoNumber := ki_NoWord_NoNumber,
    z_bool := PySem.W.mg_none_of X G z_bool,
    z_dict := PySem.W.mg_none_of X G z_dict,
    z_int := PySem.W.mg_none_of X G z_int,
    z_isinstance := PySem.W.mg_none_of X G z_isinstance,
    z_len := PySem.W.mg_none_of X G z_len,
    z_list := PySem.W.mg_none_of X G z_list,
    z_max := PySem.W.mg_none_of X G z_max,
    z_min := PySem.W.mg_none_of X G z_min,
    z_range := PySem.W.mg_none_of X G z_range,
    z_repr := PySem.W.mg_none_of X G z_repr,
    z_sorted := PySem.W.mg_none_of X G z_sorted }
  rw [e]
  exact ⟨T.d_law, fun s v => .of_eq rfl, fun base _ _ hs => ok_law T hs⟩
theorem walk {l : PySem.W.OpenLaw} {q : Program} {lo : List Str} {XP : (Str → Option Value) → Heap → Prop} {YP : World → Heap → Prop} {d : DefRec} {K : Params → PySem.W.Frag} (hn : l.most = some 63) (hdf : d.params.defaults = []) (hi : PyProof.Rows.importsNone q = true)
    (hY : ∀ (w : World) (h : Heap), YP w h → (K w.params).In h)
    (F : ∀ (w : World) (mg : Str → Option Value) (fa : Addr) (h : Heap), (K w.params).In h → h.Ns mainGlobals mg → mg d.name = some (.ref fa) →
      ∃ fd : FuncData, (∀ (s : Shared) (u : Value), BindsTo s fd ⟨[u], []⟩ [("_law_script", u)]) ∧ ∀ base : Heap, (K w.params).In base → base.Ns mainGlobals mg → (∃ mm, base.Ns sysModules mm) → FnG l.prog w (K w.params) mg base (L2.CX l.prog w) 9 fa fd ["_law_script"] (sp_law (K w.params))) :
    PySem.W.WalkO q lo XP YP l.row.toRowW d [] (fun f vs => PySem.call f vs) :=
  walkG (n := 63) (k := 9) (x := "_law_script") (cx := fun w => L2.CX l.prog w) (sp := fun w => sp_law (K w.params)) hn (by decide) hdf ⟨rfl, by decide, by decide⟩ hi hY F (fun _ _ a ns hl _ hS => ⟨_, rfl, a, ns, rfl, hS, hl, fun _ => rfl⟩) fun _ _ _ _ _ z => by obtain ⟨_, _, _, _, _, _, _, _, _, _, _, _, y⟩ := z; exact y
end K12
open PySem PySem.W PyProof.Rows
set_option maxRecDepth 100000 in
set_option maxHeartbeats 0 in
theorem PySem.Challenge.cw_onestaff_k12_no_word_under_way_holds : PySem.Challenge.rw_onestaff_k12_no_word_under_way.Holds := by
  w_on; o_law; k_head; (case hw => w_witness2)
  k_fill
  refine K12.walk (l := PySem.Challenge.rw_onestaff_k12_no_word_under_way) rfl rfl rfl (fun w h Y => PySem.W.kIn_of Y) ?F
  case F =>
    intro w mg fa h KX G hmg
    refine' K12.all_mk KX G hmg ?n_Wire ?n_NoNumber ?n_NoWord ?n_StaffError ?a1 ?l1 ?c1 ?k1 ?a2 ?l2 ?c2 ?k2 ?a3 ?l3 ?c3 ?k3 ?a4 ?l4 ?c4 ?k4 ?a5 ?l5 ?c5 ?k5 ?a6 ?l6 ?c6 ?k6 ?a7 ?l7 ?c7 ?k7 ?a8 ?l8 ?c8 ?k8 ?a9 ?l9 ?c9 ?k9 ?a10 ?l10 ?c10 ?k10 ?a11 ?l11 ?c11 ?k11 ?a12 ?l12 ?c12 ?k12 ?a13 ?l13 ?c13 ?k13 ?a14 ?l14 ?c14 ?k14 ?a15 ?l15 ?c15 ?k15 ?a16 ?l16 ?c16 ?k16 ?a17 ?l17 ?c17 ?k17 ?a18 ?l18 ?c18 ?k18 ?a19 ?l19 ?c19 ?k19 ?a20 ?l20 ?c20 ?k20 ?a21 ?l21 ?c21 ?k21 ?pg_Wire ?hd_Wire ?po_Wire ?sa_Wire ?mk_Wire ?kc_Wire ?if_Wire ?na_Wire_kept_words ?na_Wire_kept_sent ?fn_Wire_send ?fn_Wire_need ?fn_Wire_get ?fn_Wire_lose ?fn_Wire_under_way ?fn_Wire_sent ?fn_Wire_twin ?xL_NoNumber ?ve_NoNumber ?sa_NoNumber ?ga_NoNumber ?gg_NoNumber ?no_NoNumber ?ex_NoNumber ?ty_NoNumber ?kC_NoNumber ?hd_NoNumber ?ha_NoNumber ?hm_NoNumber ?ti_NoNumber ?xL_NoWord ?ve_NoWord ?sa_NoWord ?ga_NoWord ?gg_NoWord ?no_NoWord ?ex_NoWord ?ty_NoWord ?kC_NoWord ?hd_NoWord ?ha_NoWord ?hm_NoWord ?ti_NoWord ?rd_StaffError ?rg_StaffError ?vi_StaffError ?oc_get ?oc_take ?ex_NoWord_NoWord ?ki_NoWord_NoNumber ?z_bool ?z_dict ?z_int ?z_isinstance ?z_len ?z_list ?z_max ?z_min ?z_range ?z_repr ?z_sorted
    (case n_Wire => k_is)
    (case n_NoNumber => k_is)
    (case n_NoWord => k_is)
    (case n_StaffError => k_is)
    (case a1 => k_is)
    (case l1 => k_is)
    (case c1 => k_is)
    (case k1 => k_is)
    (case a2 => k_is)
    (case l2 => k_is)
    (case c2 => k_is)
    (case k2 => k_is)
    (case a3 => k_is)
    (case l3 => k_is)
    (case c3 => k_is)
    (case k3 => k_is)
    (case a4 => k_is)
    (case l4 => k_is)
    (case c4 => k_is)
    (case k4 => k_is)
    (case a5 => k_is)
    (case l5 => k_is)
    (case c5 => k_is)
    (case k5 => k_is)
    (case a6 => k_is)
    (case l6 => k_is)
    (case c6 => k_is)
    (case k6 => k_is)
    (case a7 => k_is)
    (case l7 => k_is)
    (case c7 => k_is)
    (case k7 => k_is)
    (case a8 => k_is)
    (case l8 => k_is)
    (case c8 => k_is)
    (case k8 => k_is)
    (case a9 => k_is)
    (case l9 => k_is)
    (case c9 => k_is)
    (case k9 => k_is)
    (case a10 => k_is)
    (case l10 => k_is)
    (case c10 => k_is)
    (case k10 => k_is)
    (case a11 => k_is)
    (case l11 => k_is)
    (case c11 => k_is)
    (case k11 => k_is)
    (case a12 => k_is)
    (case l12 => k_is)
    (case c12 => k_is)
    (case k12 => k_is)
    (case a13 => k_is)
    (case l13 => k_is)
    (case c13 => k_is)
    (case k13 => k_is)
    (case a14 => k_is)
    (case l14 => k_is)
    (case c14 => k_is)
    (case k14 => k_is)
    (case a15 => k_is)
    (case l15 => k_is)
    (case c15 => k_is)
    (case k15 => k_is)
    (case a16 => k_is)
    (case l16 => k_is)
    (case c16 => k_is)
    (case k16 => k_is)
    (case a17 => k_is)
    (case l17 => k_is)
    (case c17 => k_is)
    (case k17 => k_is)
    (case a18 => k_is)
    (case l18 => k_is)
    (case c18 => k_is)
    (case k18 => k_is)
    (case a19 => k_is)
    (case l19 => k_is)
    (case c19 => k_is)
    (case k19 => k_is)
    (case a20 => k_is)
    (case l20 => k_is)
    (case c20 => k_is)
    (case k20 => k_is)
    (case a21 => k_is)
    (case l21 => k_is)
    (case c21 => k_is)
    (case k21 => k_is)
    (case pg_Wire => k_is)
    (case hd_Wire => k_is)
    (case po_Wire => k_is)
    (case sa_Wire => k_is)
    (case mk_Wire => k_is)
    (case kc_Wire => k_is)
    (case if_Wire => k_is)
    (case na_Wire_kept_words => k_is)
    (case na_Wire_kept_sent => k_is)
    (case fn_Wire_send => k_is)
    (case fn_Wire_need => k_is)
    (case fn_Wire_get => k_is)
    (case fn_Wire_lose => k_is)
    (case fn_Wire_under_way => k_is)
    (case fn_Wire_sent => k_is)
    (case fn_Wire_twin => k_is)
    (case xL_NoNumber => k_is)
    (case ve_NoNumber => rfl)
    (case sa_NoNumber => k_is)
    (case ga_NoNumber => k_is)
    (case gg_NoNumber => k_is)
    (case no_NoNumber => k_is)
    (case ex_NoNumber => k_is)
    (case ty_NoNumber => k_is)
    (case kC_NoNumber => k_is)
    (case hd_NoNumber => k_is)
    (case ha_NoNumber => k_is)
    (case hm_NoNumber => k_is)
    (case ti_NoNumber => k_is)
    (case xL_NoWord => k_is)
    (case ve_NoWord => rfl)
    (case sa_NoWord => k_is)
    (case ga_NoWord => k_is)
    (case gg_NoWord => k_is)
    (case no_NoWord => k_is)
    (case ex_NoWord => k_is)
    (case ty_NoWord => k_is)
    (case kC_NoWord => k_is)
    (case hd_NoWord => k_is)
    (case ha_NoWord => k_is)
    (case hm_NoWord => k_is)
    (case ti_NoWord => k_is)
    (case rd_StaffError => k_is)
    (case rg_StaffError => k_is)
    (case vi_StaffError => k_is)
    (case oc_get => k_is)
    (case oc_take => k_is)
    (case ex_NoWord_NoWord => kts_exm)
    (case ki_NoWord_NoNumber => kit_is)
    (case z_bool => k_is)
    (case z_dict => k_is)
    (case z_int => k_is)
    (case z_isinstance => k_is)
    (case z_len => k_is)
    (case z_list => k_is)
    (case z_max => k_is)
    (case z_min => k_is)
    (case z_range => k_is)
    (case z_repr => k_is)
    (case z_sorted => k_is)
#print axioms PySem.Challenge.cw_onestaff_k12_no_word_under_way_holds

