import PyProof.Rows.All
import Wide.All
import OpenK.AllK
import Wide.FinOn
import HandS.ForMost
import KE.RegKTryMore
import KE.RegKIsAll
import PyProof.ReprRoads
import HandS.EndBits
import PyProof.ReprBulk
import PyProof.StrLaws
import HandS.Wide
import HandS.IsInst
import HandS.TupAny
import HandS.Walk
import HandS.Small
import HandS.ForExc
import HandS.ExcInit
import HandS.ExcField
import HandS.ClsMeth
import HandS.Codes
import KE.KExcIs
import PySem.Challenge.RW_onestaff_k21_locks_of_staffs
set_option Elab.async false
set_option linter.all false
set_option maxRecDepth 100000
set_option maxHeartbeats 4000000

namespace U
open PySem L2 PySem.Spec PyProof.Rows

/-! a def's promise where no repr is under way around it -/
section
variable (P : Program) (w : World) (K : PySem.W.Frag) (mg : Str → Option Value) (base : Heap)
structure FnG (cx : CXT) (k : Nat) (f : Addr) (fd : FuncData) (ps : List Str) (sp : Sp) : Prop where
  len : ∀ vs H Q E, sp vs H Q E → vs.length = ps.length
  run : ∀ (A : Around) (o : List Env) (s : Shared) (H : Hp) (ar : Args) (us : List Value) (vs : List V) (Q : VK) (E : XK),
    A.guards = some [] → Room k A → Env0 P w K mg base A o s H → BindsTo s fd ar (ps.zip us) → Vals vs us → sp vs H Q E →
    codeAny (model P w) A (.call (.ref f) ar) (CR cx o P w H s Q E) s
end
section
variable {P : Program} {w : World} {K : PySem.W.Frag} {mg : Str → Option Value} {base : Heap} {cx : CXT} {k : Nat} {f : Addr} {fd : FuncData} {ps : List Str} {sp : Sp}
theorem FnG.of (F : FnOk P w K mg base cx k f fd ps sp) : FnG P w K mg base cx k f fd ps sp :=
  ⟨F.len, fun A o s H ar us vs Q E _ => F.run A o s H ar us vs Q E⟩
theorem FnG.mono {j : Nat} (F : FnG P w K mg base cx j f fd ps sp) (h : j ≤ k) : FnG P w K mg base cx k f fd ps sp :=
  ⟨F.len, fun A o s H ar us vs Q E g r => F.run A o s H ar us vs Q E g (r.mono h)⟩

theorem fnG_of {nm ql : Str} {pr : Arguments} {bd : List Stmt} {sc : Scope} {dV kV dc pm cd ct oc : Value} {an od : Option Addr} {os : Array (Option Value)} {N : List Str}
    (lk : K.lookup f = some ⟨oc, od, .func (PySem.W.fnOf nm ql pr bd sc dV kV dc pm an cd ct), os⟩) (hc : PySem.W.codeIn K cd ql = true) (S : FnScope N ps sc)
    (len : ∀ vs H Q E, sp vs H Q E → vs.length = ps.length)
    (hb : ∀ (A : Around) (o : List Env) (s : Shared) (H : Hp) (vs : List V) (Q : VK) (E : XK), A.guards = some [] → Room k (A.deeper (envOfC ql sc s.heap.objs.size f cd)) → sp vs H Q E →
      ∃ t, PSs (cxOf cx P w K mg base N ql sc f cd A o s H E) bd t ∧ t { nx := fun _ H' => Q .non H', rt := Q } (start N vs) H) :
    FnG P w K mg base cx (k + 1) f (PySem.W.fnOf nm ql pr bd sc dV kV dc pm an cd ct) ps sp where
  len := len
  run := by
    intro A o s H ar us vs Q E hg hr e0 bi vv q
    have hl := len vs H Q E q
    have kp : ∀ b ob, base.get? b = some ob → s.heap.get? b = some ob := fun b ob e => (e0.bs b ob e).1
    have KX : K.In s.heap := e0.mod.kin.keeps kp
    have nl : s.heap.NoLimit := e0.mod.nolimit.keeps kp
    refine codeAny_call_function hr.depth (KX f _ lk) rfl S.co S.gen rfl (PySem.W.codeRec_of KX hc) (bi _ _ _ _ ?_)
    refine wpAny_newFunctionEnv_cells S.kind (fun y hy => ?_) fun ev he s1 x => ?_
    · obtain ⟨n, v⟩ := y
      rcases S.par n (List.of_mem_zip hy).1 with e | e
      · exact Or.inl e
      · exact Or.inr ⟨e, PySem.W.cellsFrom_some _ _ _ (Or.inl e)⟩
    · subst he
      obtain ⟨t, ht, z⟩ := hb A o s H vs Q E hg (hr.deeper _) q
      have J0 : Inv (cxOf cx P w K mg base N ql sc f cd A o s H E) [] (start N vs) H s1 := inv_start S hr.hd e0 hl vv x
      refine ⟨nl.keeps x.toInCall.keep, codeAny_func (wpAny_mono (ht.run [] s1 (start N vs) H _ J0 z) (fun fl s2 h2 => ?_) fun _ _ h2 => h2)⟩
      cases fl with
      | brk => obtain ⟨_, _, _, z⟩ := h2; exact z.elim
      | cont => obtain ⟨_, _, _, z⟩ := h2; exact z.elim
      | next =>
        obtain ⟨σ2, H2, J, z⟩ := h2
        exact ⟨V.non, H2, J.os, J.bare, J.base, J.hok, rfl, z⟩
      | ret u =>
        obtain ⟨v, σ2, H2, J, rv, z⟩ := h2
        exact ⟨v, H2, J.os, J.bare, J.base, J.hok, rv, z⟩
theorem okG {nm ql : Str} {st : Stmt} {N : List Str} (F : Fun K nm ql st f fd) (S : FnScope N ps (defScope st)) (len : ∀ vs H Q E, sp vs H Q E → vs.length = ps.length)
    (hb : ∀ (cd : Value) (A : Around) (o : List Env) (s : Shared) (H : Hp) (vs : List V) (Q : VK) (E : XK), A.guards = some [] → Room k (A.deeper (envOfC ql (defScope st) s.heap.objs.size f cd)) → sp vs H Q E →
      ∃ t, PSs (cxOf cx P w K mg base N ql (defScope st) f cd A o s H E) (defBody st) t ∧ t { nx := fun _ H' => Q .non H', rt := Q } (start N vs) H) :
    FnG P w K mg base cx (k + 1) f fd ps sp := by
  obtain ⟨_, _, _, _, _, _, cd, _, _, rfl, lk, hc⟩ := F.ex
  exact fnG_of lk hc S len fun A o s H vs Q E g r q => hb cd A o s H vs Q E g r q
theorem okG0 {nm ql : Str} {st : Stmt} {N : List Str} (F : Fun K nm ql st f fd) (S : FnScope N ps (defScope st)) (len : ∀ vs H Q E, sp vs H Q E → vs.length = ps.length)
    (hb : ∀ (cd : Value) (A : Around) (o : List Env) (s : Shared) (H : Hp) (vs : List V) (Q : VK) (E : XK), A.guards = some [] → Room k (A.deeper (envOfC ql (defScope st) s.heap.objs.size f cd)) → sp vs H Q E →
      ∃ t, PSs (cxOf CX0 P w K mg base N ql (defScope st) f cd A o s H E).nox (defBody st) t ∧ t { nx := fun _ H' => Q .non H', rt := Q } (start N vs) H) :
    FnG P w K mg base CX0 (k + 1) f fd ps sp :=
  okG F S len fun cd A o s H vs Q E g r q => by
    obtain ⟨t, h, z⟩ := hb cd A o s H vs Q E g r q
    exact ⟨t, h.nox, z⟩
end

section
variable {X : Cx} {cx : CXT} {k : Nat} {f : Addr} {fd : FuncData} {ps : List Str} {sp : Sp} {E : XK} {x : Str} {p pos : Pos} {e : Expr} {es : List Expr} {t : TA}
theorem run_fnG {pins : List (Addr × Obj)} {σ : L2.St} {H : Hp} {s : Shared} {Q : VK} {us : List Value} {vs : List V} (F : FnG X.prog X.w X.K X.mg X.base cx k f fd ps sp) (hg : X.A.guards = some []) (hr : Room k X.A) (hb : Binds X.K fd ps [])
    (hx : Passes cx X E) (I : Inv X pins σ H s) (r : Vals vs us) (h : sp vs H Q E) : wpAny (model X.prog X.w) X.A (call (.ref f) us) (EP X pins σ Q) X.xe s := by
  have e1 : us ++ [] = us := List.append_nil us
  have hl : (us ++ []).length = ps.length := by rw [e1, ← r.length]; exact F.len _ _ _ _ h
  have b1 := hb s us I.kIn hl
  rw [e1] at b1
  refine wpAny_call (codeAny_mono (F.run X.A X.stack s H ⟨us, []⟩ us vs Q E hg hr I.env0 b1 r h) fun rr s' hq => ?_)
  match rr, hq with
  | .error er, hq => exact hx pins σ H s er s' I hq
  | .ok (.ret u), hq => exact I.after hq
  | .ok .next, hq => exact False.elim hq
  | .ok .brk, hq => exact False.elim hq
  | .ok .cont, hq => exact False.elim hq
def tGo (sp : Sp) (E : XK) (t : TA) : TE := fun σ H Q => t σ H fun vs H1 => sp vs H1 Q E
/-- f(e, ..) -/
theorem pe_go (F : FnG X.prog X.w X.K X.mg X.base cx k f fd ps sp) (hg : X.A.guards = some []) (hr : Room k X.A) (gl : Gl X x) (hm : X.mg x = some (.ref f)) (hk : PySem.W.keepIn X.K (.ref f) = true) (hb : Binds X.K fd ps []) (hx : Passes cx X E)
    (ha : PA X (e :: es) t) (h1 : (x == ("__debug__" : Str)) = false := by decide) (h2 : starEach (e :: es) X.env = (false, eval e X.env) :: starEach es X.env := by rfl) (h3 : (backTo pos (starEach es X.env)).any (·.1) = false := by rfl) :
    PE X (.Call (.Name x p) (e :: es) [] pos) (tGo sp E t) := by
  refine ⟨fun pi s σ H Q I h => wpAny_Call_Name_kw (ld_glob I gl hm ?_ h1)⟩
  refine PySem.W.callWith_K (h₀ := X.base) I.ok.mod.kin hk (thn (ha.run pos pi s σ H _ I h) ?_) h2 h3
  rintro us s1 ⟨vs, H1, I1, r, q⟩
  exact ⟨I1.kIn, run_fnG F hg hr hb hx I1 r q⟩
theorem pe_go0 (F : FnG X.prog X.w X.K X.mg X.base cx k f fd ps sp) (hg : X.A.guards = some []) (hr : Room k X.A) (gl : Gl X x) (hm : X.mg x = some (.ref f)) (hk : PySem.W.keepIn X.K (.ref f) = true) (hb : Binds X.K fd ps []) (hx : Passes cx X E)
    (h1 : (x == ("__debug__" : Str)) = false := by decide) : PE X (.Call (.Name x p) [] [] pos) (tGo sp E tNil) := by
  refine ⟨fun pi s σ H Q I h => wpAny_Call_Name_kw (ld_glob I gl hm ?_ h1)⟩
  exact PySem.W.callWith_K0 I.kIn hk (run_fnG (us := []) F hg hr hb hx I .nil h)
end

/-! the law's own call -/
section
variable {P : Program} {w : World} {K : PySem.W.Frag} {mg mb : Str → Option Value} {cx : CXT} {k : Nat} {fa a : Addr} {fd : FuncData} {x : Str} {sp : Sp} {s1 : Shared} {vs : List Value} {ns : List Int}
/-- the heap at the entry: the script alone is tracked, as it stands -/
def Hin (K : PySem.W.Frag) (a : Addr) (o : Obj) (ns : List Int) : Hp := fun b => if b = a ∧ K.lookup a = none then some (.frz o (.lst (ns.map V.int))) else none
theorem law_callG (KX : K.In s1.heap) (hns : s1.heap.Ns mainGlobals mg) (hb : s1.heap.Ns builtinsNs mb) (hbb : ∀ x : Str, x ≠ "__name__" → mb x = bootBuiltins x) (hlim : s1.heap.NoLimit) (hsy : ∃ mm, s1.heap.Ns sysModules mm) (hg : s1.gens = #[])
    (ha : s1.heap.get? a = some { cls := .type "list", data := .seq vs.toArray }) (hi : IntsAre vs ns) (hl : ns.length ≤ sizeLine) (hr : Room k callerA)
    (F : ∀ base : Heap, K.In base → base.Ns mainGlobals mg → (∃ mm, base.Ns sysModules mm) → FnG P w K mg base cx k fa fd [x] sp)
    (hbind : ∀ (s : Shared) (u : Value), BindsTo s fd ⟨[u], []⟩ [(x, u)])
    (hsp : ∀ H : Hp, SqL K H a (ns.map V.int) → sp [.ref a] H (fun v _ => v = .bl true) fun _ _ _ => False)
    (hcx : ∀ H e s', cx [] H s1 (fun _ _ _ => False) e s' → False) :
    codeAny (model P w) callerA (.call (.ref fa) ⟨[.ref a], []⟩) (fun r s' => r = .ok (.ret (.bool true)) ∧ OldK s1.heap s'.heap ∧ s'.os = s1.os ∧ AllBare s'.gens) s1 := by
  generalize ho : ({ cls := .type "list", data := .seq vs.toArray } : Obj) = o at ha
  have rv := vals_ints hi
  have hlen := hi.length
  have hH : ∀ b u, Hin K a o ns b = some u → b = a ∧ K.lookup a = none ∧ u = .frz o (.lst (ns.map V.int)) := fun b u e => by
    unfold Hin at e
    by_cases c : b = a ∧ K.lookup a = none
    · rw [if_pos c] at e; exact ⟨c.1, c.2, (Option.some.inj e).symm⟩
    · rw [if_neg c] at e; cases e
  have hok : HOk P w (Hin K a o ns) s1.heap := fun b u e => by
    obtain ⟨rfl, _, rfl⟩ := hH b u e
    exact ⟨ha, by rw [List.length_map]; exact hl, vs, _, rv, by rw [ha, ← ho]⟩
  have hS : SqL K (Hin K a o ns) a (ns.map V.int) := by
    cases hk : K.lookup a with
    | none => exact Or.inl (Or.inr ⟨o, if_pos ⟨rfl, hk⟩⟩)
    | some o2 =>
      have e := KX a o2 hk
      rw [ha] at e
      cases e
      exact Or.inr ⟨_, vs.toArray, 0, hk, by rw [← ho], by rw [← ho], by rw [← ho], by rw [List.size_toArray, hlen]; exact hl, rv⟩
  have toB : ∀ {b : Addr} {ob : Obj}, s1.heap.get? b = some ob → Hin K a o ns b = none → (hidT s1.heap (Hin K a o ns)).get? b = some ob := fun e n => hidT_get e n
  have dictN : ∀ {b : Addr} {ob : Obj}, s1.heap.get? b = some ob → (∀ it n, ob.data ≠ .seq it n) → Hin K a o ns b = none := fun {b ob} e d => by
    cases q : Hin K a o ns b with
    | none => rfl
    | some u =>
      obtain ⟨rfl, _, _⟩ := hH b u q
      rw [ha] at e
      cases e
      exact (d vs.toArray 0 (by rw [← ho])).elim
  have nsB : ∀ {b : Addr} {m : Str → Option Value}, s1.heap.Ns b m → (hidT s1.heap (Hin K a o ns)).Ns b m := fun {b m} h => by
    obtain ⟨ob, es, ep, e, d, r⟩ := h
    exact ⟨ob, es, ep, toB e (dictN e fun it n z => by rw [d] at z; cases z), d, r⟩
  have KB : K.In (hidT s1.heap (Hin K a o ns)) := fun b ob e => toB (KX b ob e) (by
    cases q : Hin K a o ns b with
    | none => rfl
    | some u =>
      obtain ⟨rfl, z, _⟩ := hH b u q
      rw [z] at e; cases e)
  have lim : (hidT s1.heap (Hin K a o ns)).NoLimit := by
    obtain ⟨mc, h1, h2⟩ := hlim
    exact ⟨mc, nsB h1, h2⟩
  have M : Mod K mg (hidT s1.heap (Hin K a o ns)) := ⟨KB, nsB hns, ⟨mb, nsB hb, hbb⟩, lim⟩
  have e0 : Env0 P w K mg (hidT s1.heap (Hin K a o ns)) callerA [] s1 (Hin K a o ns) :=
    ⟨rfl, M, fun b ob e => of_hidT e, Nat.le_of_eq (hidT_size _ _), trivial, fun b z => (nomatch z), hok, .of_eq hg⟩
  have G := F _ KB (nsB hns) (by obtain ⟨mm, z⟩ := hsy; exact ⟨mm, nsB z⟩)
  refine codeAny_mono (G.run callerA [] s1 _ ⟨[.ref a], []⟩ [.ref a] [.ref a] _ _ rfl hr e0 (hbind s1 (.ref a)) (.cons rfl .nil) (hsp _ hS)) fun r s2 h => ?_
  match r, h with
  | .error er, h => exact (hcx _ er s2 h).elim
  | .ok .next, h => exact False.elim h
  | .ok .brk, h => exact False.elim h
  | .ok .cont, h => exact False.elim h
  | .ok (.ret u), h =>
    obtain ⟨v, H2, os, br, un, hok2, r2, q⟩ := h
    have q2 : v = .bl true := q
    subst q2
    obtain rfl : u = Value.bool true := r2
    refine ⟨rfl, OldK.of_keep fun b ob e => ?_, os, br⟩
    cases z : Hin K a o ns b with
    | none => exact un.keep b ob e z (fun m => nomatch m) (fun m => nomatch m)
    | some u =>
      obtain ⟨rfl, _, rfl⟩ := hH b u z
      obtain ⟨y, _⟩ := hok2 b _ (un.frzs b _ _ z)
      rw [ha] at e
      cases e
      exact y
end
/-- the end of a law: what k_head leaves, from the law's promise -/
theorem walkG {l : PySem.W.OpenLaw} {n k : Nat} {q : Program} {lo : List Str} {XP : (Str → Option Value) → Heap → Prop} {YP : World → Heap → Prop} {d : DefRec} {K : Params → PySem.W.Frag} {cx : World → CXT} {sp : World → Sp} {x : Str}
    (hn : l.most = some n) (hn2 : n ≤ sizeLine) (hdf : d.params.defaults = []) (hr : Room k callerA) (him : importsNone q = true)
    (hY : ∀ (w : World) (h : Heap), YP w h → (K w.params).In h)
    (F : ∀ (w : World) (mg : Str → Option Value) (fa : Addr) (h : Heap), (K w.params).In h → h.Ns mainGlobals mg → mg d.name = some (.ref fa) →
      ∃ fd : FuncData, (∀ (s : Shared) (u : Value), BindsTo s fd ⟨[u], []⟩ [(x, u)]) ∧
        ∀ base : Heap, (K w.params).In base → base.Ns mainGlobals mg → (∃ mm, base.Ns sysModules mm) → FnG l.prog w (K w.params) mg base (cx w) k fa fd [x] (sp w))
    (hsp : ∀ (w : World) (H : Hp) (a : Addr) (ns : List Int), ns.length ≤ n → (∀ z ∈ ns, Builtin.Int.intBits z ≤ 1048576) → SqL (K w.params) H a (ns.map V.int) → sp w [.ref a] H (fun v _ => v = .bl true) fun _ _ _ => False)
    (hcx : ∀ (w : World) (H : Hp) (s : Shared) (e : Value) (s' : Shared), cx w [] H s (fun _ _ _ => False) e s' → False) :
    PySem.W.WalkO q lo XP YP l.row.toRowW d [] (fun f vs => PySem.call f vs) := by
  refine Att.attach_callB hn hdf ?_
  intro w s0 s1 mg mb fa o pm cd doc a vs ns G Y ho hd hcd hmg hob hin hle hbi hge
  obtain ⟨fd, hb, hF⟩ := F w mg fa _ (hY w _ Y) G.T.g hmg
  have hsy : ∃ mm, s1.heap.Ns sysModules mm := by
    obtain ⟨mm, z, _⟩ := (G.T.seer him).mods
    exact ⟨mm, z⟩
  exact law_callG (hY w _ Y) G.T.g G.T.b G.T.builtins G.T.nolimit hsy hge hob hin (Nat.le_trans hle hn2) hr hF hb (fun H hS => hsp w H a ns hle hbi hS) fun H e s' => hcx w H s1 e s'

/-! data, by what repr shows -/
def keyD (k : Key) : PyData := match k with | .inl i => PyData.int i | .inr x => PyData.str x
mutual
inductive Dn (K : PySem.W.Frag) (H : Hp) : V → PyData → Prop
  | non : Dn K H .non .none
  | bl (b : Bool) : Dn K H (.bl b) (.bool b)
  | int (i : Int) : Dn K H (.int i) (.int i)
  | str (x : Str) : Dn K H (.str x) (.str x)
  | lst {a : Addr} {xs : List V} {ds : List PyData} : Rd H a (.lst xs) → DnA K H xs ds → Dn K H (.ref a) (.list ds)
  | tup {a : Addr} {xs : List V} {ds : List PyData} : SqT K H a xs → DnA K H xs ds → Dn K H (.ref a) (.tuple ds)
  | dic {a : Addr} {kvs : List (Key × V)} {ds : List PyData} : Rd H a (.dK kvs) → DnA K H (kvs.map (·.2)) ds → Dn K H (.ref a) (.dict ((kvs.map fun p => keyD p.1).zip ds))
inductive DnA (K : PySem.W.Frag) (H : Hp) : List V → List PyData → Prop
  | nil : DnA K H [] []
  | cons {v : V} {vs : List V} {d : PyData} {ds : List PyData} : Dn K H v d → DnA K H vs ds → DnA K H (v :: vs) (d :: ds)
end
end U

namespace U
open PySem L2 PySem.Spec PyProof.Rows

section
variable {X : Cx} {pins : List (Addr × Obj)} {σ : L2.St} {H : Hp} {s : Shared}
theorem rd_low (I : Inv X pins σ H s) (hs : ∃ mm, X.base.Ns sysModules mm) {a : Addr} {u : HO} (r : Rd H a u) : a ≠ sysModules := by
  rintro rfl
  obtain ⟨mm, ob, es, ep, e, _⟩ := hs
  have n := (I.bs _ ob e).2
  rcases r with r | ⟨o, r⟩ <;> (rw [n] at r; cases r)
theorem pairs_reads {P : Program} {w : World} {h : Heap} : ∀ {es : List DictEntry} {kvs : List (Key × V)} {vs : List (Key × Value)}, Pairs (mixKind P w) es vs → KV kvs vs →
    ReadsAll h (es.map (·.key)) (kvs.map fun p => keyD p.1) [] ∧ Vals (kvs.map (·.2)) (es.map (·.val))
  | _, _, _, .nil, .nil => ⟨.nil, .nil⟩
  | e :: es, (k, v) :: kvs, (k2, u) :: vs, .cons h1 h2 h3, .cons ⟨q1, q2⟩ h4 => by
    obtain ⟨r1, r2⟩ := pairs_reads (h := h) h3 h4
    have q1 : k = k2 := q1
    subst q1
    refine ⟨?_, .cons (show RelV v e.val by rw [h2]; exact q2) r2⟩
    show ReadsAll h (e.key :: _) (keyD k :: _) ([] ++ [])
    refine .cons ?_ r1
    rcases keyIs_shape h1 with ⟨i, t, z, y⟩ | ⟨x, t, z, y⟩
    · have z : k = Sum.inl i := z
      rw [y, z]; exact Reads.int i t
    · have z : k = Sum.inr x := z
      rw [y, z]; exact Reads.str x t
mutual
theorem Dn.reads (I : Inv X pins σ H s) (hs : ∃ mm, X.base.Ns sysModules mm) : ∀ {v : V} {d : PyData} {u : Value}, Dn X.K H v d → RelV v u → ∃ as, Reads s.heap u d as ∧ sysModules ∉ as
  | _, _, _, .non, r => by cases r; exact ⟨[], Reads.none, by simp⟩
  | _, _, _, .bl b, r => by cases r; exact ⟨[], Reads.bool b, by simp⟩
  | _, _, _, .int i, r => by obtain ⟨t, rfl⟩ := r; exact ⟨[], Reads.int i t, by simp⟩
  | _, _, _, .str x, r => by obtain ⟨t, rfl⟩ := r; exact ⟨[], Reads.str x t, by simp⟩
  | _, _, _, .lst h1 h2, r => by
    cases r
    obtain ⟨its, rv, ⟨o, n, ho, hc, _, hd⟩, _⟩ := I.list (Or.inl h1)
    obtain ⟨as, q1, q2⟩ := DnA.reads I hs h2 rv
    exact ⟨_, Reads.list ho hc hd q1, fun m => (List.mem_cons.mp m).elim (fun e => rd_low I hs h1 e.symm) q2⟩
  | _, _, _, .tup h1 h2, r => by
    cases r
    obtain ⟨its, rv, ⟨o, ho, hc, n, hd⟩, _⟩ := I.tuple h1
    obtain ⟨as, q1, q2⟩ := DnA.reads I hs h2 rv
    exact ⟨_, Reads.tuple ho hc hd q1, q2⟩
  | _, _, _, .dic (kvs := kvs) (ds := ds) h1 h2, r => by
    cases r
    obtain ⟨_, low, vs, kv, o, es, ep, ho, hc, hd, _, hp, _⟩ := h1.ok I.hok
    obtain ⟨q1, q2⟩ := pairs_reads (h := s.heap) hp kv
    obtain ⟨as, q3, q4⟩ := DnA.reads I hs h2 q2
    have el : ds.length = kvs.length := by
      have e1 := DnA.len h2
      rw [List.length_map] at e1
      exact e1.symm
    have z1 : ((kvs.map fun p => keyD p.1).zip ds).map (·.1) = kvs.map fun p => keyD p.1 := by
      rw [List.map_fst_zip]; rw [List.length_map]; omega
    have z2 : ((kvs.map fun p => keyD p.1).zip ds).map (·.2) = ds := by
      rw [List.map_snd_zip]; rw [List.length_map]; omega
    refine ⟨_, Reads.dict ho hc.1 hd (kvs := (kvs.map fun p => keyD p.1).zip ds) (as := []) (bs := as) ?_ ?_, ?_⟩
    · rw [z1]; exact q1
    · rw [z2]; exact q3
    · intro m
      rcases List.mem_cons.mp m with e | e
      · exact rd_low I hs h1 e.symm
      · exact q4 (by simpa using e)
theorem DnA.reads (I : Inv X pins σ H s) (hs : ∃ mm, X.base.Ns sysModules mm) : ∀ {vs : List V} {ds : List PyData} {us : List Value}, DnA X.K H vs ds → Vals vs us → ∃ as, ReadsAll s.heap us ds as ∧ sysModules ∉ as
  | _, _, _, .nil, r => by cases r; exact ⟨[], ReadsAll.nil, by simp⟩
  | _, _, _, .cons h1 h2, r => by
    cases r with
    | cons r1 r2 =>
      obtain ⟨as, q1, q2⟩ := Dn.reads I hs h1 r1
      obtain ⟨bs, q3, q4⟩ := DnA.reads I hs h2 r2
      exact ⟨_, ReadsAll.cons q1 q3, fun m => (List.mem_append.mp m).elim q2 q4⟩
theorem DnA.len {K : PySem.W.Frag} : ∀ {vs : List V} {ds : List PyData}, DnA K H vs ds → vs.length = ds.length
  | _, _, .nil => rfl
  | _, _, .cons _ h => by rw [List.length_cons, List.length_cons, DnA.len h]
end
end
/-! what may be shown, and how long it is -/
mutual
def good : PyData → Prop
  | .none => True
  | .bool _ => True
  | .int i => i.natAbs < 10 ^ 100
  | .str x => ∀ c ∈ x.cps.toList, c < 4294967296
  | .list xs => goodA xs
  | .tuple xs => goodA xs
  | .dict kvs => goodK kvs
def goodA : List PyData → Prop
  | [] => True
  | x :: xs => good x ∧ goodA xs
def goodK : List (PyData × PyData) → Prop
  | [] => True
  | (k, v) :: r => good k ∧ good v ∧ goodK r
end
mutual
def sz : PyData → Nat
  | .none => 4
  | .bool _ => 5
  | .int _ => 102
  | .str x => 10 * x.length + 2
  | .list xs => szA xs + 3
  | .tuple xs => szA xs + 3
  | .dict kvs => szK kvs + 3
def szA : List PyData → Nat
  | [] => 0
  | x :: xs => sz x + 2 + szA xs
def szK : List (PyData × PyData) → Nat
  | [] => 0
  | (k, v) :: r => sz k + sz v + 4 + szK r
end
theorem int_len {i : Int} (h : i.natAbs < 10 ^ 100) : (Str.ofString (toString i)).length ≤ 102 := by
  have e := int_text_length_le10 (k := 100) (by decide) h
  rw [PySem.ofString_length]
  omega
mutual
theorem good_show : ∀ {d : PyData}, good d → d.showable = true ∧ d.shown.length ≤ sz d
  | .none, _ => ⟨rfl, by decide +kernel⟩
  | .bool b, _ => ⟨rfl, by cases b <;> decide +kernel⟩
  | .int i, h => by
    refine ⟨?_, ?_⟩
    · simp only [PyData.showable, decide_eq_true_eq]
      have h : i.natAbs < 10 ^ 100 := by simpa only [good] using h
      refine log2_small (Nat.lt_of_lt_of_le h ?_)
      decide +kernel
    · have h : i.natAbs < 10 ^ 100 := by simpa only [good] using h
      exact int_len h
  | .str x, h => by
    refine ⟨rfl, ?_⟩
    have h : ∀ c ∈ x.cps.toList, c < 4294967296 := by simpa only [good] using h
    simp only [PyData.shown, sz]
    exact StrLaws.reprText_len x h
  | .list xs, h => by
    have q := goodA_show (ds := xs) (by simpa only [good] using h)
    refine ⟨by simpa only [PyData.showable] using q.1, ?_⟩
    simp only [PyData.shown, sz]
    have := listText_len_le (PyData.shownAll xs)
    have e : (PyData.shownAll xs).length = xs.length := q.2.2
    omega
  | .tuple xs, h => by
    have q := goodA_show (ds := xs) (by simpa only [good] using h)
    refine ⟨by simpa only [PyData.showable] using q.1, ?_⟩
    simp only [PyData.shown, sz]
    have := tupleText_len_le (PyData.shownAll xs)
    have e : (PyData.shownAll xs).length = xs.length := q.2.2
    omega
  | .dict kvs, h => by
    have q := goodK_show (ds := kvs) (by simpa only [good] using h)
    refine ⟨by simpa only [PyData.showable] using q.1, ?_⟩
    simp only [PyData.shown, sz]
    have := dictText_len_le (PyData.shownKv kvs)
    have e : (PyData.shownKv kvs).length = kvs.length := q.2.2
    omega
theorem goodA_show : ∀ {ds : List PyData}, goodA ds → PyData.showableAll ds = true ∧ ((PyData.shownAll ds).map (·.length)).sum + 2 * ds.length ≤ szA ds ∧ (PyData.shownAll ds).length = ds.length
  | [], _ => ⟨rfl, by simp [PyData.shownAll, szA], rfl⟩
  | x :: xs, h => by
    obtain ⟨h1, h2⟩ : good x ∧ goodA xs := by simpa only [goodA] using h
    obtain ⟨a1, a2⟩ := good_show h1
    obtain ⟨b1, b2, b3⟩ := goodA_show h2
    refine ⟨by simp only [PyData.showableAll, a1, b1, Bool.and_self], ?_, by simp only [PyData.shownAll, List.length_cons, b3]⟩
    simp only [PyData.shownAll, szA, List.map_cons, List.sum_cons, List.length_cons]
    omega
theorem goodK_show : ∀ {ds : List (PyData × PyData)}, goodK ds → PyData.showableKv ds = true ∧ ((PyData.shownKv ds).map (·.length)).sum + 2 * ds.length ≤ szK ds ∧ (PyData.shownKv ds).length = ds.length
  | [], _ => ⟨rfl, by simp [PyData.shownKv, szK], rfl⟩
  | (k, v) :: r, h => by
    obtain ⟨h1, h2, h3⟩ : good k ∧ good v ∧ goodK r := by simpa only [goodK] using h
    obtain ⟨a1, a2⟩ := good_show h1
    obtain ⟨c1, c2⟩ := good_show h2
    obtain ⟨b1, b2, b3⟩ := goodK_show h3
    refine ⟨by simp only [PyData.showableKv, a1, c1, b1, Bool.and_self], ?_, by simp only [PyData.shownKv, List.length_cons, b3]⟩
    have e : (": " : Str).length = 2 := by decide +kernel
    simp only [PyData.shownKv, szK, List.map_cons, List.sum_cons, List.length_cons, Str.length_append]
    have e : (Str.ofString ": ").length = 2 := by decide +kernel
    omega
end
/-- repr -/
def rRepr (K : PySem.W.Frag) : List V → Hp → VK → Prop := fun xs H Q => ∃ v d, xs = [v] ∧ Dn K H v d ∧ good d ∧ d.depth ≤ 100 ∧ sz d ≤ 16000000 ∧ Q (.str d.shown) H
theorem call_repr {X : Cx} {k : Nat} (hg : X.A.guards = some []) (hr : Room k X.A) (hs : ∃ mm, X.base.Ns sysModules mm) : CallR X (.builtin "repr") (rRepr X.K) := by
  rintro pi s σ H xs us Q I vv ⟨v, d, rfl, hd, g, dp, zz, q⟩
  obtain ⟨u, rfl, rv⟩ := Vals.one vv
  obtain ⟨sh, le⟩ := good_show g
  have le2 : d.shown.length ≤ sizeLine := Nat.le_trans (Nat.le_trans le zz) (by decide)
  have hu := hr.un
  cases hd with
  | non => cases rv; exact PySem.P.repr_of_none ⟨.str _, H, I.tok _, ⟨_, rfl⟩, q⟩
  | bl b => cases rv; exact PySem.P.repr_of_bool ⟨.str _, H, I.tok _, ⟨_, rfl⟩, q⟩
  | int i =>
    obtain ⟨t, rfl⟩ := rv
    simp only [PyData.showable, decide_eq_true_eq] at sh
    exact PySem.P.repr_of_int sh ⟨.str _, H, I.tok _, ⟨_, rfl⟩, q⟩
  | str x =>
    obtain ⟨t, rfl⟩ := rv
    exact PySem.P.repr_of_str ⟨.str _, H, I.tok _, ⟨_, rfl⟩, q⟩ le2
  | lst h1 h2 =>
    obtain ⟨as, r1, r2⟩ := Dn.reads I hs (.lst h1 h2) rv
    cases rv
    exact repr_of_reads' r1 sh (fun _ => r2) hg (by omega) (fun _ _ e => e) (fun h' u tk hk => ⟨.str _, H, I.kept hk, ⟨_, rfl⟩, q⟩) le2
  | tup h1 h2 =>
    obtain ⟨as, r1, r2⟩ := Dn.reads I hs (.tup h1 h2) rv
    cases rv
    exact repr_of_reads' r1 sh (fun _ => r2) hg (by omega) (fun _ _ e => e) (fun h' u tk hk => ⟨.str _, H, I.kept hk, ⟨_, rfl⟩, q⟩) le2
  | dic h1 h2 =>
    obtain ⟨as, r1, r2⟩ := Dn.reads I hs (.dic h1 h2) rv
    cases rv
    exact repr_of_reads' r1 sh (fun _ => r2) hg (by omega) (fun _ _ e => e) (fun h' u tk hk => ⟨.str _, H, I.kept hk, ⟨_, rfl⟩, q⟩) le2
end U

namespace U
open PySem L2 PySem.Spec PyProof.Rows

/-! operators, whatever the values -/
def rStrCat : R2 := fun x y H Q => ∃ i j, x = .str i ∧ y = .str j ∧ i.length + j.length ≤ sizeLine ∧ Q (.str (i ++ j)) H
def uAdd (K : PySem.W.Frag) : R2 := fun x y H Q => (rI0 fun i j => .int (i + j)) x y H Q ∨ rStrCat x y H Q ∨ rCat x y H Q ∨ rCatA K x y H Q
def uSub : R2 := rI0 fun i j => .int (i - j)
def uMul : R2 := fun x y H Q => (rI CMul fun i j => .int (i * j)) x y H Q ∨ rRep x y H Q
def uMod : R2 := rI (fun _ j => 0 < j) fun i j => .int (i % j)
def uDiv : R2 := rI CDivW fun i j => .int (i / j)
def uPow : R2 := rI CPow fun i j => .int (i ^ j.toNat)
def uLt : R2 := rI0 fun i j => .bl (decide (i < j))
def uLe : R2 := rI0 fun i j => .bl (decide (i ≤ j))
def uGt : R2 := rI0 fun i j => .bl (decide (j < i))
def uGe : R2 := rI0 fun i j => .bl (decide (j ≤ i))
def uEq (K : PySem.W.Frag) : R2 := fun x y H Q => rEq x y H Q ∨ rEqD K x y H Q
def uNe (K : PySem.W.Frag) : R2 := fun x y H Q => rNe x y H Q ∨ rNeD K x y H Q
def rInSign (ng : Bool) : R2 := fun x y H Q => ∃ (c : Nat) (z : Str), x = .str ⟨#[c]⟩ ∧ y = .str z ∧ Q (.bl (if ng then !decide (c ∈ z.cps.toList) else decide (c ∈ z.cps.toList))) H
def uIn (K : PySem.W.Frag) (ng : Bool) : R2 := fun x y H Q => rInSign ng x y H Q ∨ rIn K ng x y H Q
def uIs : R2 := fun x y H Q => y = .non ∧ Q (.bl (decide (x = .non))) H
def uIsNot : R2 := fun x y H Q => y = .non ∧ Q (.bl (!decide (x = .non))) H
section
variable {X : Cx} {k : Nat} {K : PySem.W.Frag}
theorem o_add (hK : X.K = K) : OpR X (binaryOp .Add) (uAdd K) := hK ▸ op_add.or (op_add_str.or (op_cat.or op_catA))
theorem o_sub : OpR X (binaryOp .Sub) uSub := op_sub
theorem o_mul : OpR X (binaryOp .Mult) uMul := op_mul.or op_rep
theorem o_mod : OpR X (binaryOp .Mod) uMod := op_mod
theorem o_div : OpR X (binaryOp .FloorDiv) uDiv := op_fdivW
theorem o_pow : OpR X (binaryOp .Pow) uPow := op_pow
theorem o_lt : OpR X (compareOp .Lt) uLt := op_lt
theorem o_le : OpR X (compareOp .LtE) uLe := op_le
theorem o_gt : OpR X (compareOp .Gt) uGt := op_gt
theorem o_ge : OpR X (compareOp .GtE) uGe := op_ge
theorem o_eq (hK : X.K = K) (hr : Room k X.A) : OpR X (compareOp .Eq) (uEq K) := hK ▸ op_eq.or (op_eqD hr.units)
theorem o_ne (hK : X.K = K) (hr : Room k X.A) : OpR X (compareOp .NotEq) (uNe K) := hK ▸ op_ne.or (op_neD hr.units)
theorem o_in (hK : X.K = K) : OpR X (compareOp .In) (uIn K false) := hK ▸ op_in_sign.or op_in_seq
theorem o_notin (hK : X.K = K) : OpR X (compareOp .NotIn) (uIn K true) := hK ▸ op_notIn_sign.or op_notIn_seq
theorem o_is : OpR X (compareOp .Is) uIs := op_isN
theorem o_isnot : OpR X (compareOp .IsNot) uIsNot := op_notN
/-- a built-in type's name as a value -/
theorem pe_ty {x : Str} {n : String} {pos : Pos} (hg : Gl X x) (hm : X.mg x = none) (hv : bootBuiltins x = some (.type n)) (hn : x ≠ "__name__" := by decide) (hd : (x == ("__debug__" : Str)) = false := by decide) : PE X (.Name x pos) (tC (.ty n)) :=
  pe_bltn hg hm hv rfl hn hd
def uSl (K : PySem.W.Frag) : V → Option Int → Option Int → Hp → VK → Prop := fun x lo hi H Q => rSlL K x lo hi H Q ∨ rSlS x lo hi H Q ∨ rSlA K x lo hi H Q
theorem ix_u (hK : X.K = K) : IxR X (rIx K) := hK ▸ ix_seq
theorem sl_u (hK : X.K = K) : SlR X (uSl K) := hK ▸ sl_list.or (sl_str.or sl_tupA)
end

/-! steps -/
section
variable {K : PySem.W.Frag} {σ : L2.St} {H : Hp} {Q : VK} {D : Ends} {t u : TS} {ta tb tc te : TE} {tA tB' : TT} {r r' : R2} {x y v : V} {i : Nat} {n m : Int} {a b : Str}
theorem s_seq (h : t { D with nx := u D } σ H) : tSeq t u D σ H := h
theorem s_next (h : D.nx σ H) : tNext D σ H := h
theorem s_brk (h : D.bk σ H) : tBreak D σ H := h
theorem s_cnt (h : D.ct σ H) : tCont D σ H := h
theorem s_retN (h : D.rt .non H) : tRetN D σ H := h
theorem s_var (h : σ[i]? = some (some v)) (q : Q v H) : tVar i σ H Q := ⟨v, h, q⟩
theorem s_c (q : Q v H) : tC v σ H Q := q
theorem s_op (h : ta σ H fun x H1 => tb σ H1 fun y H2 => r x y H2 Q) : tOp r ta tb σ H Q := h
theorem s_un {r : V → Hp → VK → Prop} (h : ta σ H fun x H1 => r x H1 Q) : tUn r ta σ H Q := h
theorem s_neg (q : Q (.int (-n)) H) : (rU fun i => .int (-i)) (.int n) H Q := ⟨n, rfl, q⟩
theorem s_test {Q : Bool → Hp → Prop} (h : te σ H fun x H' => ∃ k, x = .bl k ∧ Q k H') : tTest te σ H Q := h
theorem s_B {Q : Bool → Hp → Prop} (h : te σ H fun x H' => ∃ k, x = .bl k ∧ Q k H') : tB te σ H Q := h
theorem s_bl {P : Bool → Prop} {k : Bool} (q : P k) : ∃ c, V.bl k = .bl c ∧ P c := ⟨k, rfl, q⟩
theorem s_chain (h : ta σ H fun x H1 => tb σ H1 fun y H2 => r x y H2 fun z H3 => ∃ k, z = .bl k ∧ (if k = true then tc σ H3 fun w' H4 => r' y w' H4 Q else Q (.bl false) H3)) : tChain r r' ta tb tc σ H Q := h
theorem s_asg {g : TG} (h : te σ H fun x H1 => g x σ H1 D.nx) : tAsg te g D σ H := h
theorem s_name {R : L2.St → Hp → Prop} (h : R (σ.set i (some v)) H) : gName i v σ H R := h
theorem s_ret (h : te σ H D.rt) : tRet te D σ H := h
theorem s_drop (h : te σ H fun _ H1 => D.nx σ H1) : tDrop te D σ H := h
theorem s_ifS (h : tA σ H fun b H1 => if b = true then t D σ H1 else u D σ H1) : tIfS tA t u D σ H := h
theorem s_and {Q : Bool → Hp → Prop} (h : tA σ H fun c H1 => if c = true then tB' σ H1 Q else Q false H1) : tAnd tA tB' σ H Q := h
theorem s_or {Q : Bool → Hp → Prop} (h : tA σ H fun c H1 => if c = true then Q true H1 else tB' σ H1 Q) : tOr tA tB' σ H Q := h
theorem s_not {Q : Bool → Hp → Prop} (h : tA σ H fun c H1 => Q (!c) H1) : tNot tA σ H Q := h
theorem s_andV (h : ta σ H fun x H1 => ∃ c, x = .bl c ∧ if c = true then tb σ H1 Q else Q (.bl false) H1) : tAndV ta tb σ H Q := h
theorem s_orV (h : ta σ H fun x H1 => ∃ c, x = .bl c ∧ if c = true then Q (.bl true) H1 else tb σ H1 Q) : tOrV ta tb σ H Q := h
theorem s_notV (h : ta σ H fun x H1 => ∃ c, x = .bl c ∧ Q (.bl (!c)) H1) : tNotV ta σ H Q := h
theorem s_if (h : tA σ H fun c H1 => if c = true then ta σ H1 Q else tb σ H1 Q) : tIf tA ta tb σ H Q := h
theorem s_add (q : Q (.int (n + m)) H) : uAdd K (.int n) (.int m) H Q := Or.inl ⟨n, m, rfl, rfl, q⟩
theorem s_adds (h : a.length + b.length ≤ sizeLine) (q : Q (.str (a ++ b)) H) : uAdd K (.str a) (.str b) H Q := Or.inr (Or.inl ⟨a, b, rfl, rfl, h, q⟩)
theorem s_sub (q : Q (.int (n - m)) H) : uSub (.int n) (.int m) H Q := ⟨n, m, rfl, rfl, q⟩
theorem s_mul (h : CMul n m) (q : Q (.int (n * m)) H) : uMul (.int n) (.int m) H Q := Or.inl ⟨n, m, rfl, rfl, h, q⟩
theorem s_mod (h : 0 < m) (q : Q (.int (n % m)) H) : uMod (.int n) (.int m) H Q := ⟨n, m, rfl, rfl, h, q⟩
theorem s_div (h : CDivW n m) (q : Q (.int (n / m)) H) : uDiv (.int n) (.int m) H Q := ⟨n, m, rfl, rfl, h, q⟩
theorem s_pow {r : Int} (h : CPow n m) (e : n ^ m.toNat = r) (q : Q (.int r) H) : uPow (.int n) (.int m) H Q := ⟨n, m, rfl, rfl, h, (show Q (.int (n ^ m.toNat)) H by rw [e]; exact q)⟩
theorem cpow {i j : Int} (h0 : 0 ≤ i) (h1 : i < 9223372036854775808) (h2 : 0 ≤ j) (h3 : j ≤ 1000000) : CPow i j := ⟨h2, h3, by omega⟩
theorem cdiv {i j : Int} (h0 : 0 < j) (h1 : j < 100000000000000000000000000000000000000000) : CDivW i j := wide_div (b := 200) h0 (by
  have e : ((j.natAbs : Nat) : Int) < ((2 ^ 200 : Nat) : Int) := by
    rw [Int.natAbs_of_nonneg (by omega)]
    exact Int.lt_trans h1 (by decide)
  exact Int.ofNat_lt.mp e) (by decide) (by decide)
theorem cmulL {i j : Int} (h1 : -9223372036854775808 < i) (h2 : i < 9223372036854775808) : CMul i j := Or.inl ⟨by omega, by omega⟩
theorem cmulR {i j : Int} (h1 : -9223372036854775808 < j) (h2 : j < 9223372036854775808) : CMul i j := Or.inr ⟨by omega, by omega⟩
theorem s_lt (q : Q (.bl (decide (n < m))) H) : uLt (.int n) (.int m) H Q := ⟨n, m, rfl, rfl, q⟩
theorem s_le (q : Q (.bl (decide (n ≤ m))) H) : uLe (.int n) (.int m) H Q := ⟨n, m, rfl, rfl, q⟩
theorem s_gt (q : Q (.bl (decide (m < n))) H) : uGt (.int n) (.int m) H Q := ⟨n, m, rfl, rfl, q⟩
theorem s_ge (q : Q (.bl (decide (m ≤ n))) H) : uGe (.int n) (.int m) H Q := ⟨n, m, rfl, rfl, q⟩
theorem dec_int {n m : Int} : decide (V.int n = V.int m) = decide (n = m) := by
  by_cases h : n = m
  · subst h; simp
  · rw [decide_eq_false h]; exact decide_eq_false fun q => h (V.int.inj q)
theorem dec_str {n m : Str} : decide (V.str n = V.str m) = decide (n = m) := by
  by_cases h : n = m
  · subst h; simp
  · rw [decide_eq_false h]; exact decide_eq_false fun q => h (V.str.inj q)
theorem s_eqi (q : Q (.bl (decide (n = m))) H) : uEq K (.int n) (.int m) H Q := Or.inl ⟨rfl, by rw [dec_int]; exact q⟩
theorem s_nei (q : Q (.bl (!decide (n = m))) H) : uNe K (.int n) (.int m) H Q := Or.inl ⟨rfl, by rw [dec_int]; exact q⟩
theorem s_eqs (q : Q (.bl (decide (a = b))) H) : uEq K (.str a) (.str b) H Q := Or.inl ⟨rfl, by rw [dec_str]; exact q⟩
theorem s_nes (q : Q (.bl (!decide (a = b))) H) : uNe K (.str a) (.str b) H Q := Or.inl ⟨rfl, by rw [dec_str]; exact q⟩
theorem s_in1 {c : Nat} {z : Str} (q : Q (.bl (decide (c ∈ z.cps.toList))) H) : uIn K false (.str ⟨#[c]⟩) (.str z) H Q := Or.inl ⟨c, z, rfl, rfl, q⟩
theorem s_notin1 {c : Nat} {z : Str} (q : Q (.bl (!decide (c ∈ z.cps.toList))) H) : uIn K true (.str ⟨#[c]⟩) (.str z) H Q := Or.inl ⟨c, z, rfl, rfl, q⟩
theorem s_is (q : Q (.bl (decide (x = .non))) H) : uIs x .non H Q := ⟨rfl, q⟩
theorem s_isnot (q : Q (.bl (!decide (x = .non))) H) : uIsNot x .non H Q := ⟨rfl, q⟩
/-- items of lists -/
theorem s_nil {Q : List V → Hp → Prop} (q : Q [] H) : tNil σ H Q := q
theorem s_cons {Q : List V → Hp → Prop} {tr : TA} (h : te σ H fun x H1 => tr σ H1 fun xs H2 => Q (x :: xs) H2) : tCons te tr σ H Q := h
def LstK (Q : VK) (xs : List V) (H : Hp) : Prop := xs.length ≤ sizeLine ∧ ∀ p, H p = none → Q (.ref p) (upd H p (.lst xs))
def TupK (Q : VK) (xs : List V) (H : Hp) : Prop := xs.length ≤ sizeLine ∧ ∀ p, H p = none → Q (.ref p) (upd H p (.tup xs))
theorem s_lst {t : TA} (h : t σ H (LstK Q)) : tLst t σ H Q := h
theorem s_tup {t : TA} (h : t σ H (TupK Q)) : tTup t σ H Q := h
theorem s_cb {r : List V → Hp → VK → Prop} {t : TA} (h : t σ H fun vs H1 => r vs H1 Q) : tCB r t σ H Q := h
theorem s_go {sp : Sp} {E : XK} {t : TA} (h : t σ H fun vs H1 => sp vs H1 Q E) : tGo sp E t σ H Q := h
theorem s_max (q : Q (.int (if m > n then m else n)) H) : (fun xs H Q => ∃ i j, xs = [V.int i, V.int j] ∧ Q (.int (if j > i then j else i)) H : List V → Hp → VK → Prop) [.int n, .int m] H Q := ⟨n, m, rfl, q⟩
theorem at_nat {α : Type} {xs : List α} {j : Nat} {z : α} (h : xs[j]? = some z) : atI xs (j : Int) = some z := by
  have hj : j < xs.length := (List.getElem?_eq_some_iff.mp h).1
  unfold atI ixN
  rw [if_pos (by omega), if_pos (by omega)]
  simpa using h
theorem at_int {α : Type} {xs : List α} {j : Int} (h0 : 0 ≤ j) (h1 : j < xs.length) : ∃ z, xs[j.toNat]? = some z ∧ atI xs j = some z := by
  refine ⟨xs[j.toNat]'(by omega), by simp, ?_⟩
  have := at_nat (xs := xs) (j := j.toNat) (z := xs[j.toNat]'(by omega)) (by simp)
  rwa [Int.toNat_of_nonneg h0] at this
theorem s_ixL {p : Addr} {xs : List V} (h : SqL K H p xs) (ha : atI xs n = some v) (q : Q v H) : rIx K (.ref p) (.int n) H Q := Or.inl ⟨p, xs, n, v, rfl, rfl, h, ha, q⟩
theorem s_ixl {p : Addr} {xs : List V} (h : H p = some (.lst xs)) (ha : atI xs n = some v) (q : Q v H) : rIx K (.ref p) (.int n) H Q := Or.inl ⟨p, xs, n, v, rfl, rfl, SqL.of h, ha, q⟩
theorem s_ixt {p : Addr} {xs : List V} (h : H p = some (.tup xs)) (ha : atI xs n = some v) (q : Q v H) : rIx K (.ref p) (.int n) H Q := Or.inr (Or.inl ⟨p, xs, n, v, rfl, rfl, SqT.of h, ha, q⟩)
theorem s_ixs {z : Str} {c : Nat} (hz : z.length ≤ sizeLine) (ha : atI z.cps.toList n = some c) (q : Q (.str ⟨#[c]⟩) H) : rIx K (.str z) (.int n) H Q := Or.inr (Or.inr ⟨z, n, c, rfl, rfl, hz, ha, q⟩)
theorem s_sub2 {to ti : TE} {t : V → V → V → Hp → (Hp → Prop) → Prop} {R : L2.St → Hp → Prop} (h : to σ H fun o H1 => ti σ H1 fun i H2 => t o i v H2 fun H3 => R σ H3) : gSub to ti t v σ H R := h
theorem s_setl {p : Addr} {xs ys : List V} {j : Nat} {R : Hp → Prop} (h : H p = some (.lst xs)) (hj : ixN xs.length n = some j) (e : xs.set j v = ys) (q : R (upd H p (.lst ys))) : rSetL (.ref p) (.int n) v H R := ⟨p, xs, n, j, rfl, rfl, h, hj, by rw [e]; exact q⟩
theorem s_ite {p : Prop} [Decidable p] {A B : Prop} (h1 : p → A) (h2 : ¬p → B) : if decide p = true then A else B := by
  by_cases h : p
  · rw [decide_eq_true h, if_pos rfl]; exact h1 h
  · rw [decide_eq_false h, if_neg Bool.false_ne_true]; exact h2 h
theorem s_itn {p : Prop} [Decidable p] {A B : Prop} (h1 : ¬p → A) (h2 : p → B) : if (!decide p) = true then A else B := by
  by_cases h : p
  · rw [decide_eq_true h]; exact h2 h
  · rw [decide_eq_false h]; exact h1 h
theorem s_itt {A B : Prop} (h : A) : if true = true then A else B := h
theorem s_itf {A B : Prop} (h : B) : if false = true then A else B := h
theorem s_itb {k : Bool} {A B : Prop} (h1 : k = true → A) (h2 : k = false → B) : if k = true then A else B := by
  cases k with
  | true => exact h1 rfl
  | false => exact h2 rfl
end

/-! heaps: what stands still stands -/
/-- all that stood, but at the places ps, stands as it stood -/
def Kp (ps : List Addr) (H H' : Hp) : Prop := ∀ b o, H b = some o → b ∉ ps → H' b = some o
section
variable {K : PySem.W.Frag} {H H1 H2 : Hp} {ps qs : List Addr} {a b p : Addr} {o u : HO}
theorem Kp.refl : Kp ps H H := fun _ _ e _ => e
theorem Kp.trans (h : Kp ps H H1) (g : Kp ps H1 H2) : Kp ps H H2 := fun b o e n => g b o (h b o e n) n
theorem Kp.mono (h : Kp ps H H1) (g : ∀ a ∈ ps, a ∈ qs) : Kp qs H H1 := fun b o e n => h b o e fun m => n (g b m)
theorem Kp.nil (h : Kp [] H H1) : Kp ps H H1 := h.mono fun _ m => nomatch m
theorem Kp.get (h : Kp ps H H1) (e : H b = some o) (n : b ∉ ps) : H1 b = some o := h b o e n
theorem Kp.get0 (h : Kp [] H H1) (e : H b = some o) : H1 b = some o := h b o e (by simp)
theorem Kp.get1 (h : Kp [p] H H1) (e : H b = some o) (n : b ≠ p) : H1 b = some o := h b o e (by simpa using n)
theorem Kp.new (h : Kp ps H H1) (n : H1 p = none) : Kp ps H (upd H1 p u) := fun b o e m => by
  have e1 := h b o e m
  rw [upd_ne (ne_of_none e1 n)]
  exact e1
theorem Kp.put (h : Kp ps H H1) (m : p ∈ ps) : Kp ps H (upd H1 p u) := fun b o e n => by
  rw [upd_ne (fun z => n (by rw [z]; exact m))]
  exact h b o e n
theorem Kp.fresh (h : Kp ps H H1) (n : H1 p = none) (m : p ∉ ps) : H p = none := by
  cases e : H p with
  | none => rfl
  | some z => rw [h p z e m] at n; cases n
theorem Kp.fresh0 (h : Kp [] H H1) (n : H1 p = none) : H p = none := h.fresh n (by simp)
/-- a place that did not stand may have changed -/
theorem Kp.drop (h : Kp (p :: ps) H H1) (n : H p = none) : Kp ps H H1 := fun b o e m => h b o e (by
  intro z
  rcases List.mem_cons.mp z with z | z
  · subst z; rw [n] at e; cases e
  · exact m z)
/-- a new object, the heap behind it as a letter -/
theorem new_abs {o : HO} {R : Addr → Hp → Prop} (h : ∀ p H', H p = none → H' p = some o → Kp [] H H' → R p H') : ∀ p, H p = none → R p (upd H p o) :=
  fun p f => h p _ f upd_same (Kp.refl.new f)
theorem s_newl {Q : VK} {xs : List V} (hz : xs.length ≤ sizeLine) (h : ∀ p H', H p = none → H' p = some (.lst xs) → Kp [] H H' → Q (.ref p) H') : LstK Q xs H := ⟨hz, new_abs h⟩
theorem s_newt {Q : VK} {xs : List V} (hz : xs.length ≤ sizeLine) (h : ∀ p H', H p = none → H' p = some (.tup xs) → Kp [] H H' → Q (.ref p) H') : TupK Q xs H := ⟨hz, new_abs h⟩
theorem s_addl {Q : VK} {p q : Addr} {xs ys : List V} (h1 : H p = some (.lst xs)) (h2 : H q = some (.lst ys)) (h : xs.length + ys.length ≤ sizeLine)
    (z : ∀ p' H', H p' = none → H' p' = some (.lst (xs ++ ys)) → Kp [] H H' → Q (.ref p') H') : uAdd K (.ref p) (.ref q) H Q :=
  Or.inr (Or.inr (Or.inl ⟨p, q, xs, ys, rfl, rfl, h1, h2, h, new_abs z⟩))
theorem Kp.rd (h : Kp [] H H1) (e : Rd H a u) : Rd H1 a u := by
  rcases e with e | ⟨o, e⟩
  · exact Or.inl (h.get0 e)
  · exact Or.inr ⟨o, h.get0 e⟩
theorem Kp.sql {xs : List V} (h : Kp [] H H1) (e : SqL K H a xs) : SqL K H1 a xs := by
  rcases e with e | e
  · exact Or.inl (h.rd e)
  · exact Or.inr e
theorem Kp.sqt {xs : List V} (h : Kp [] H H1) (e : SqT K H a xs) : SqT K H1 a xs := by
  rcases e with e | e
  · exact Or.inl (h.rd e)
  · exact Or.inr e
end
end U

namespace U
open PySem L2 PySem.Spec PyProof.Rows

/-! promises by the number of arguments -/
abbrev P0 := Hp → VK → XK → Prop
def sp0 (F : P0) : Sp := fun vs H Q E => vs = [] ∧ F H Q E
def sp1 (F : V → P0) : Sp := fun vs H Q E => ∃ a, vs = [a] ∧ F a H Q E
def sp2 (F : V → V → P0) : Sp := fun vs H Q E => ∃ a b, vs = [a, b] ∧ F a b H Q E
def sp3 (F : V → V → V → P0) : Sp := fun vs H Q E => ∃ a b c, vs = [a, b, c] ∧ F a b c H Q E
def sp4 (F : V → V → V → V → P0) : Sp := fun vs H Q E => ∃ a b c d, vs = [a, b, c, d] ∧ F a b c d H Q E
def sp5 (F : V → V → V → V → V → P0) : Sp := fun vs H Q E => ∃ a b c d e, vs = [a, b, c, d, e] ∧ F a b c d e H Q E
def sp6 (F : V → V → V → V → V → V → P0) : Sp := fun vs H Q E => ∃ a b c d e f, vs = [a, b, c, d, e, f] ∧ F a b c d e f H Q E
section
variable {H : Hp} {Q : VK} {E : XK} {a b c d e f : V}
theorem s_sp0 {F : P0} (h : F H Q E) : sp0 F [] H Q E := ⟨rfl, h⟩
theorem s_sp1 {F : V → P0} (h : F a H Q E) : sp1 F [a] H Q E := ⟨a, rfl, h⟩
theorem s_sp2 {F : V → V → P0} (h : F a b H Q E) : sp2 F [a, b] H Q E := ⟨a, b, rfl, h⟩
theorem s_sp3 {F : V → V → V → P0} (h : F a b c H Q E) : sp3 F [a, b, c] H Q E := ⟨a, b, c, rfl, h⟩
theorem s_sp4 {F : V → V → V → V → P0} (h : F a b c d H Q E) : sp4 F [a, b, c, d] H Q E := ⟨a, b, c, d, rfl, h⟩
theorem s_sp5 {F : V → V → V → V → V → P0} (h : F a b c d e H Q E) : sp5 F [a, b, c, d, e] H Q E := ⟨a, b, c, d, e, rfl, h⟩
theorem s_sp6 {F : V → V → V → V → V → V → P0} (h : F a b c d e f H Q E) : sp6 F [a, b, c, d, e, f] H Q E := ⟨a, b, c, d, e, f, rfl, h⟩
end

/-! built-in names -/
theorem bt_len : bootBuiltins "len" = some (.builtin "len") := by decide +kernel
theorem bt_max : bootBuiltins "max" = some (.builtin "max") := by decide +kernel
theorem bt_min : bootBuiltins "min" = some (.builtin "min") := by decide +kernel
theorem bt_all : bootBuiltins "all" = some (.builtin "all") := by decide +kernel
theorem bt_any : bootBuiltins "any" = some (.builtin "any") := by decide +kernel
theorem bt_repr : bootBuiltins "repr" = some (.builtin "repr") := by decide +kernel
theorem bt_sorted : bootBuiltins "sorted" = some (.builtin "sorted") := by decide +kernel
theorem bt_sum : bootBuiltins "sum" = some (.builtin "sum") := by decide +kernel
theorem bt_isinstance : bootBuiltins "isinstance" = some (.builtin "isinstance") := by decide +kernel
theorem bt_int : bootBuiltins "int" = some (.type "int") := by decide +kernel
theorem bt_bool : bootBuiltins "bool" = some (.type "bool") := by decide +kernel
theorem bt_str : bootBuiltins "str" = some (.type "str") := by decide +kernel
theorem bt_list : bootBuiltins "list" = some (.type "list") := by decide +kernel
theorem bt_tuple : bootBuiltins "tuple" = some (.type "tuple") := by decide +kernel
theorem bt_dict : bootBuiltins "dict" = some (.type "dict") := by decide +kernel
theorem bt_set : bootBuiltins "set" = some (.type "set") := by decide +kernel
theorem bt_range : bootBuiltins "range" = some (.type "range") := by decide +kernel

section
variable {X : Cx} {K : PySem.W.Frag}
def uLen (K : PySem.W.Frag) : List V → Hp → VK → Prop := fun xs H Q => (∃ x n, xs = [x] ∧ LenV K x H n ∧ Q (.int n) H) ∨ ∃ a kvs, xs = [V.ref a] ∧ H a = some (.dK kvs) ∧ Q (.int kvs.length) H
theorem c_len (hK : X.K = K) : CallR X (.builtin "len") (uLen K) := hK ▸ call_len.or call_lenD
def uMax : List V → Hp → VK → Prop := fun xs H Q => ∃ i j, xs = [.int i, .int j] ∧ Q (.int (if j > i then j else i)) H
def uMin : List V → Hp → VK → Prop := fun xs H Q => ∃ i j, xs = [.int i, .int j] ∧ Q (.int (if j < i then j else i)) H
theorem c_max (hc : X.calm = true) : CallR X (.builtin "max") uMax := call_max2 hc
theorem c_min (hc : X.calm = true) : CallR X (.builtin "min") uMin := call_min2 hc
def uStr : List V → Hp → VK → Prop := fun xs H Q => ∃ i, xs = [.int i] ∧ i.natAbs.log2 < 1920 ∧ Q (.str (toString i)) H
theorem c_isi (hK : X.K = K) : CallR X (.builtin "isinstance") (rIsi K) := hK ▸ call_isi
theorem c_all (hK : X.K = K) (hc : X.calm = true) : CallR X (.builtin "all") (rAll K) := hK ▸ cr_all hc
theorem c_any (hK : X.K = K) (hc : X.calm = true) : CallR X (.builtin "any") (rAny K) := hK ▸ cr_any hc
theorem c_repr {k : Nat} (hK : X.K = K) (hg : X.A.guards = some []) (hr : Room k X.A) (hs : ∃ mm, X.base.Ns sysModules mm) : CallR X (.builtin "repr") (rRepr K) := hK ▸ call_repr hg hr hs
theorem c_str : CallR X (.type "str") uStr := call_str_int
end

def uJoin (K : PySem.W.Frag) : V → List V → Hp → VK → Prop := fun x xs H Q => ∃ a p, ∃ ys : List Str, x = .str a ∧ xs = [.ref p] ∧ (SqL K H p (ys.map V.str) ∨ SqT K H p (ys.map V.str)) ∧
  (ys.map (·.length)).sum + ys.length * a.length ≤ 16777216 ∧ Q (.str (Txt.join a ys)) H
theorem pe_joinU {X : Cx} {K : PySem.W.Frag} {o e : Expr} {to te : TE} {ap pos : Pos} (hK : X.K = K) (ho : PE X o to) (he : PE X e te) (h1 : starEach [e] X.env = [(false, eval e X.env)] := by rfl) (h2 : attributeBase o "join" X.env (eval o X.env) = eval o X.env := by rfl)
    (h3 : (ap.endLine == pos.line) = true := by rfl) : PE X (.Call (.Attribute o "join" ap) [e] [] pos) (tM1 (uJoin K) to te) := hK ▸ pe_join ho he h1 h2 h3

theorem pi_lst {X : Cx} {K : PySem.W.Frag} {tg l : Expr} {tl : TE} (hK : X.K = K) (hl : PE X l tl) : PI X tg l (iList K tl) := hK ▸ pi_list hl
theorem pi_tpl {X : Cx} {K : PySem.W.Frag} {tg l : Expr} {tl : TE} (hK : X.K = K) (hl : PE X l tl) : PI X tg l (iTup K tl) := hK ▸ pi_tup hl

/-! more steps -/
theorem zle {n : Nat} (h : n ≤ 1000000) : n ≤ sizeLine := Nat.le_trans h (by decide)
/-- what kind of thing a value is -/
inductive Kd | non | bl | int | str | lst | tup | dic
def Kd.nm : Kd → String
  | .non => "NoneType" | .bl => "bool" | .int => "int" | .str => "str" | .lst => "list" | .tup => "tuple" | .dic => "dict"
inductive TyN (H : Hp) : V → Kd → Prop
  | non : TyN H .non .non
  | bl {b : Bool} : TyN H (.bl b) .bl
  | int {i : Int} : TyN H (.int i) .int
  | str {z : Str} : TyN H (.str z) .str
  | lst {a : Addr} {xs : List V} : H a = some (.lst xs) → TyN H (.ref a) .lst
  | tup {a : Addr} {xs : List V} : H a = some (.tup xs) → TyN H (.ref a) .tup
  | dic {a : Addr} {kvs : List (Key × V)} : H a = some (.dK kvs) → TyN H (.ref a) .dic
theorem TyN.ty {K : PySem.W.Frag} {H : Hp} {v : V} {n : Kd} (h : TyN H v n) : TyX K H v (.type n.nm) := by
  cases h with
  | non => exact .base .non
  | bl => exact .base (.bl _)
  | int => exact .base (.int _)
  | str => exact .base (.str _)
  | lst e => exact .base (.lst e)
  | tup e => exact .base (.tup e)
  | dic e => exact .base (.dK e)
theorem TyN.kp {H H' : Hp} {v : V} {n : Kd} (h : TyN H v n) (k : Kp [] H H') : TyN H' v n := by
  cases h with
  | non => exact .non
  | bl => exact .bl
  | int => exact .int
  | str => exact .str
  | lst e => exact .lst (k.get0 e)
  | tup e => exact .tup (k.get0 e)
  | dic e => exact .dic (k.get0 e)
def Kd.isInt : Kd → Bool | .int => true | .bl => true | _ => false
def Kd.isBool : Kd → Bool | .bl => true | _ => false
def Kd.isStr : Kd → Bool | .str => true | _ => false
def Kd.isList : Kd → Bool | .lst => true | _ => false
def Kd.isTup : Kd → Bool | .tup => true | _ => false
def Kd.isDict : Kd → Bool | .dic => true | _ => false
theorem kb_int (t : Kd) : kitB t.nm "int" = some t.isInt := by cases t <;> decide +kernel
theorem kb_bool (t : Kd) : kitB t.nm "bool" = some t.isBool := by cases t <;> decide +kernel
theorem kb_str (t : Kd) : kitB t.nm "str" = some t.isStr := by cases t <;> decide +kernel
theorem kb_list (t : Kd) : kitB t.nm "list" = some t.isList := by cases t <;> decide +kernel
theorem kb_tup (t : Kd) : kitB t.nm "tuple" = some t.isTup := by cases t <;> decide +kernel
theorem kb_dict (t : Kd) : kitB t.nm "dict" = some t.isDict := by cases t <;> decide +kernel
section
variable {K : PySem.W.Frag} {σ : L2.St} {H : Hp} {Q : VK} {D : Ends} {x y v : V} {i : Nat} {n m : Int} {a b : Str}
theorem s_max2 (q : Q (.int (if m > n then m else n)) H) : uMax [.int n, .int m] H Q := ⟨n, m, rfl, q⟩
theorem s_min2 (q : Q (.int (if m < n then m else n)) H) : uMin [.int n, .int m] H Q := ⟨n, m, rfl, q⟩
theorem s_lens (h : a.length ≤ sizeLine) (q : Q (.int a.length) H) : uLen K [.str a] H Q := Or.inl ⟨_, a.length, rfl, ⟨h, rfl⟩, q⟩
theorem s_lenL {p : Addr} {xs : List V} (h : SqL K H p xs) (q : Q (.int xs.length) H) : uLen K [.ref p] H Q := Or.inl ⟨_, xs.length, rfl, Or.inl ⟨xs, h, rfl⟩, q⟩
theorem s_lenl {p : Addr} {xs : List V} (h : H p = some (.lst xs)) (q : Q (.int xs.length) H) : uLen K [.ref p] H Q := s_lenL (SqL.of h) q
theorem s_lent {p : Addr} {xs : List V} (h : H p = some (.tup xs)) (q : Q (.int xs.length) H) : uLen K [.ref p] H Q := Or.inl ⟨_, xs.length, rfl, Or.inr ⟨xs, SqT.of h, rfl⟩, q⟩
theorem s_lend {p : Addr} {xs : List (Key × V)} (h : H p = some (.dK xs)) (q : Q (.int xs.length) H) : uLen K [.ref p] H Q := Or.inr ⟨p, xs, rfl, h, q⟩
theorem s_str (h : n.natAbs.log2 < 1920) (q : Q (.str (toString n)) H) : uStr [.int n] H Q := ⟨n, rfl, h, q⟩
theorem s_isi0 {s t : String} {k : Bool} (h : TyX K H v (.type s)) (hk : kitB s t = some k) (q : Q (.bl k) H) : rIsi K [v, .ty t] H Q := ⟨v, .ty t, .type s, .type t, k, rfl, .ty t, h, kit_ty hk, q⟩
theorem s_isInt {t : Kd} (h : TyN H v t) (q : Q (.bl t.isInt) H) : rIsi K [v, .ty "int"] H Q := s_isi0 h.ty (kb_int t) q
theorem s_isBool {t : Kd} (h : TyN H v t) (q : Q (.bl t.isBool) H) : rIsi K [v, .ty "bool"] H Q := s_isi0 h.ty (kb_bool t) q
theorem s_isStr {t : Kd} (h : TyN H v t) (q : Q (.bl t.isStr) H) : rIsi K [v, .ty "str"] H Q := s_isi0 h.ty (kb_str t) q
theorem s_isList {t : Kd} (h : TyN H v t) (q : Q (.bl t.isList) H) : rIsi K [v, .ty "list"] H Q := s_isi0 h.ty (kb_list t) q
theorem s_isTup {t : Kd} (h : TyN H v t) (q : Q (.bl t.isTup) H) : rIsi K [v, .ty "tuple"] H Q := s_isi0 h.ty (kb_tup t) q
theorem s_isDict {t : Kd} (h : TyN H v t) (q : Q (.bl t.isDict) H) : rIsi K [v, .ty "dict"] H Q := s_isi0 h.ty (kb_dict t) q
theorem s_itT {k : Bool} {A B : Prop} (e : k = true) (h : A) : if k = true then A else B := by subst e; exact h
theorem s_itF {k : Bool} {A B : Prop} (e : k = false) (h : B) : if k = true then A else B := by subst e; exact h
theorem s_sl {r : V → Option Int → Option Int → Hp → VK → Prop} {te : TE} {tl th : TO} (h : te σ H fun x H1 => tl σ H1 fun l H2 => th σ H2 fun u H3 => r x l u H3 Q) : tSl r te tl th σ H Q := h
theorem s_nopart {Q : Option Int → Hp → Prop} (q : Q none H) : tNoPart σ H Q := q
theorem s_part {Q : Option Int → Hp → Prop} {t : TE} (h : t σ H fun x H1 => ∃ i, x = .int i ∧ Q (some i) H1) : tPart t σ H Q := h
theorem s_int {P : Int → Prop} (q : P n) : ∃ i, V.int n = .int i ∧ P i := ⟨n, rfl, q⟩
theorem s_sls {lo hi : Option Int} (h : a.length ≤ sizeLine) (q : Q (.str (cutS a lo hi)) H) : uSl K (.str a) lo hi H Q := Or.inr (Or.inl ⟨a, rfl, h, q⟩)
theorem s_sll {lo hi : Option Int} {p : Addr} {xs : List V} (h : SqL K H p xs) (q : ∀ p' H', H p' = none → H' p' = some (.lst (cutV xs lo hi)) → Kp [] H H' → Q (.ref p') H') : uSl K (.ref p) lo hi H Q := Or.inl ⟨p, xs, rfl, h, new_abs q⟩
theorem s_m1 {r : V → List V → Hp → VK → Prop} {to te : TE} (h : to σ H fun x H1 => (∃ a, x = .str a) ∧ te σ H1 fun y H2 => r x [y] H2 Q) : tM1 r to te σ H Q := h
theorem s_isstr {R : Prop} (h : R) : (∃ b, V.str a = .str b) ∧ R := ⟨⟨a, rfl⟩, h⟩
theorem s_join {p : Addr} {ys : List Str} (h : H p = some (.lst (ys.map V.str))) (hz : (ys.map (·.length)).sum + ys.length * a.length ≤ 16777216) (q : Q (.str (Txt.join a ys)) H) : uJoin K (.str a) [.ref p] H Q :=
  ⟨a, p, ys, rfl, rfl, Or.inl (SqL.of h), hz, q⟩
theorem s_rng1 {ta : TA} {R : It → Hp → Prop} (h : ta σ H fun vs H1 => ∃ j : Int, vs = [.int j] ∧ -(2 ^ 62) ≤ j ∧ j < 2 ^ 62 ∧ R (Itr 0 j.toNat) H1) : iRng1 ta σ H R := h
theorem s_rng {R : Int → Prop} (h1 : -(2 ^ 62) ≤ n) (h2 : n < 2 ^ 62) (q : R n) : ∃ j : Int, [V.int n] = [.int j] ∧ -(2 ^ 62) ≤ j ∧ j < 2 ^ 62 ∧ R j := ⟨n, rfl, h1, h2, q⟩
theorem s_ilist {tl : TE} {R : It → Hp → Prop} (h : tl σ H fun x H1 => ∃ a, x = .ref a ∧ (∃ xs, SqL K H1 a xs) ∧ R (Itl K a) H1) : iList K tl σ H R := h
theorem s_ilst {p : Addr} {xs : List V} {R : Addr → Prop} (h : SqL K H p xs) (q : R p) : ∃ a, V.ref p = .ref a ∧ (∃ xs, SqL K H a xs) ∧ R a := ⟨p, rfl, ⟨xs, h⟩, q⟩
theorem s_istr {te : TE} {R : It → Hp → Prop} (h : te σ H fun v H1 => ∃ x, v = .str x ∧ R (Its x) H1) : iStr te σ H R := h
theorem s_istr1 {R : Str → Prop} (q : R a) : ∃ x, V.str a = .str x ∧ R x := ⟨a, rfl, q⟩
theorem s_dnew (h : ∀ d H', H d = none → H' d = some (.dK []) → Kp [] H H' → Q (.ref d) H') : tDNewK σ H Q := new_abs (R := fun d H' => Q (.ref d) H') h
theorem s_all {p : Addr} {bs : List Bool} (h : H p = some (.lst (bs.map V.bl))) (q : Q (.bl (bs.all id)) H) : rAll K [.ref p] H Q := ⟨p, bs, rfl, SqL.of h, q⟩
theorem s_yes {Q : Bool → Hp → Prop} (q : Q true H) : tYes σ H Q := q
theorem dpa_strs : ∀ zs : List Str, DpAll K H (zs.map V.str) (zs.map PyData.str)
  | [] => .nil
  | z :: zs => .cons (.str z) (dpa_strs zs)
theorem lay_strs : ∀ {zs : List Str}, (∀ z ∈ zs, ∀ c ∈ z.cps.toList, c < 1114112) → PyData.canLayAll0 (zs.map PyData.str) = true ∧ PyData.depthAll (zs.map PyData.str) ≤ 1
  | [], _ => ⟨rfl, by simp [PyData.depthAll]⟩
  | z :: zs, h => by
    obtain ⟨h1, h2⟩ := lay_strs (zs := zs) fun y hy => h y (List.mem_cons_of_mem _ hy)
    refine ⟨?_, ?_⟩
    · simp only [List.map_cons, PyData.canLayAll0, PyData.canLay0, h1, Bool.and_true, PyData.strOk, Array.all_eq_true', decide_eq_true_eq]
      intro c hc
      exact h z List.mem_cons_self c (by simpa using hc)
    · simp only [List.map_cons, PyData.depthAll, PyData.depth]
      omega
theorem shp_strs {zs : List Str} (h : ∀ z ∈ zs, ∀ c ∈ z.cps.toList, c < 1114112) : SeqAt.shaped (.list (zs.map PyData.str)) = true := by
  obtain ⟨h1, h2⟩ := lay_strs h
  unfold SeqAt.shaped
  rw [Bool.and_eq_true]
  refine ⟨by simpa only [PyData.canLay0] using h1, decide_eq_true ?_⟩
  simp only [PyData.depth]
  omega
theorem s_eqNil {p q : Addr} {zs : List Str} (h1 : H p = some (.lst (zs.map V.str))) (h2 : H q = some (.lst [])) (ok : ∀ z ∈ zs, ∀ c ∈ z.cps.toList, c < 1114112) (k : Q (.bl zs.isEmpty) H) : uEq K (.ref p) (.ref q) H Q := by
  refine Or.inr ⟨_, _, .lst (SqL.of h1) (dpa_strs zs), .lst (SqL.of h2) .nil, shp_strs ok, by decide +kernel, ?_⟩
  have e : PyData.eqv (.list (zs.map PyData.str)) (.list []) = zs.isEmpty := by
    cases zs <;> simp [PyData.eqv, PyData.eqvAll]
  rw [e]
  exact k
/-- a comprehension -/
theorem s_lc {wi : TI} {g : TG} {tt : TT} {te : TE} {vs : List Nat} (h : wi σ H fun J H1 => ∀ D, H1 D = none → ∃ W : Nat → Nat → Hp → Prop, (∃ m, W 0 m (upd H1 D (.lst []))) ∧ ∀ i m H, W i m H →
    (J.stop i H ∧ Q (.ref D) H) ∨ (J.go i H ∧ ∃ Nx : Hp → Prop, (∀ H', Nx H' → ∃ m', m' < m ∧ W (i + 1) m' H') ∧ ∀ x H', J.yld i H x H' → g x (wipe σ vs) H' fun σ2 H2 => wipe σ2 vs = wipe σ vs ∧ tt σ2 H2 fun b H3 =>
      if b = true then te σ2 H3 fun y H4 => ∃ acc, H4 D = some (.lst acc) ∧ acc.length < sizeLine ∧ Nx (upd H4 D (.lst (acc ++ [y]))) else Nx H3)) : tLc wi g tt te vs σ H Q := h
/-- a loop -/
theorem s_for {wi : TI} {g : TG} {tb : TS} (h : wi σ H fun J H1 => ∃ W : Nat → Nat → L2.St → Hp → Prop, (∃ m, W 0 m σ H1) ∧ ∀ i m σ H, W i m σ H →
    (J.stop i H ∧ D.nx σ H) ∨ (J.go i H ∧ ∃ N : L2.St → Hp → Prop, (∀ σ' H', N σ' H' → ∃ m', m' < m ∧ W (i + 1) m' σ' H') ∧ ∀ x H', J.yld i H x H' → g x σ H' fun σ2 H2 => tb { D with nx := N, ct := N, bk := D.nx } σ2 H2)) : tFor wi g tb D σ H := h
/-- a comprehension's invariant, by the items made so far -/
def PvD (D : Addr) (Pv : Nat → List V → Hp → Prop) (i : Nat) (H : Hp) : Prop := ∃ acc, H D = some (.lst acc) ∧ Pv i acc H
theorem PvD.start {D : Addr} {Pv : Nat → List V → Hp → Prop} (h : Pv 0 [] (upd H D (.lst []))) : PvD D Pv 0 (upd H D (.lst [])) := ⟨[], upd_same, h⟩
theorem PvD.more {D : Addr} {Pv : Nat → List V → Hp → Prop} {acc : List V} (e : H D = some (.lst acc)) (hz : acc.length < sizeLine) (h : Pv i (acc ++ [y]) (upd H D (.lst (acc ++ [y])))) :
    ∃ acc, H D = some (.lst acc) ∧ acc.length < sizeLine ∧ PvD D Pv i (upd H D (.lst (acc ++ [y]))) := ⟨acc, e, hz, acc ++ [y], upd_same, h⟩
theorem PvD.skip {D : Addr} {Pv : Nat → List V → Hp → Prop} {acc : List V} (e : H D = some (.lst acc)) (h : Pv i acc H) : PvD D Pv i H := ⟨acc, e, h⟩
end
end U

namespace U
open PySem L2 PySem.Spec PyProof.Rows
theorem log2s {m : Nat} (h : m < 10 ^ 100) : m.log2 < 1920 := log2_small (Nat.lt_of_lt_of_le h (by decide +kernel))
/-- a text of at most n signs -/
structure SS (z : Str) (n : Nat) : Prop where
  len : z.length ≤ n
  ok : ∀ c ∈ z.cps.toList, c < 1114112
theorem SS.mono {z : Str} {n m : Nat} (h : SS z n) (e : n ≤ m) : SS z m := ⟨Nat.le_trans h.len e, h.ok⟩
theorem SS.app {a b : Str} {n m : Nat} (h : SS a n) (g : SS b m) : SS (a ++ b) (n + m) := by
  refine ⟨by rw [Str.length_append]; have := h.len; have := g.len; omega, fun c hc => ?_⟩
  rw [Str.cps_append, Array.toList_append, List.mem_append] at hc
  rcases hc with hc | hc
  · exact h.ok c hc
  · exact g.ok c hc
theorem SS.cut {a : Str} {n : Nat} {lo hi : Option Int} (h : SS a n) : SS (cutS a lo hi) n := by
  refine ⟨?_, fun c hc => ?_⟩
  · show (List.toArray _).size ≤ n
    rw [List.size_toArray, List.length_take, List.length_drop, Array.length_toList]
    have : a.cps.size ≤ n := h.len
    omega
  · have hc : c ∈ (List.take (HT.sIx a.length a.length hi - HT.sIx a.length 0 lo) (List.drop (HT.sIx a.length 0 lo) a.cps.toList)) := by simpa [cutS] using hc
    exact h.ok c (List.mem_of_mem_drop (List.mem_of_mem_take hc))
theorem SS.one {c : Nat} (h : c < 1114112) : SS ⟨#[c]⟩ 1 := ⟨by simp [Str.length], fun d hd => by
  have : d = c := by simpa using hd
  subst this; exact h⟩
theorem SS.mk' {z : Str} {n : Nat} (h : z.length ≤ n ∧ ∀ c ∈ z.cps.toList, c < 1114112) : SS z n := ⟨h.1, h.2⟩
theorem join_ones : ∀ cs : List Nat, Txt.join (Str.ofString "") (cs.map fun c => ⟨#[c]⟩) = ⟨cs.toArray⟩ := fun cs => by
  rw [show ∀ y l, Txt.join y l = Str.join y l from fun y l => StrLaws.glued_eq_join y l]
  have e0 : Str.ofString "" = Str.empty := by decide +kernel
  rw [e0]
  induction cs with
  | nil => rfl
  | cons c cs ih =>
    cases cs with
    | nil => rfl
    | cons d cs =>
      show (⟨#[c]⟩ : Str) ++ Str.empty ++ Str.join Str.empty ((d :: cs).map fun c => ⟨#[c]⟩) = _
      rw [ih]
      refine Str.ext' ?_
      simp [Str.cps_append, Str.empty]
theorem SS.ones {cs : List Nat} (h : ∀ c ∈ cs, c < 1114112) : SS (Txt.join (Str.ofString "") (cs.map fun c => ⟨#[c]⟩)) cs.length := by
  rw [join_ones]
  exact ⟨by simp [Str.length], by simpa using h⟩
theorem SS.num {i : Int} (h : i.natAbs < 10 ^ 100) : SS (Str.ofString (toString i)) 102 := by
  refine ⟨int_len h, fun c hc => ?_⟩
  rw [Str.ofString_eq_toList] at hc
  have hc : c ∈ (toString i).toList.map Char.toNat := by simpa using hc
  obtain ⟨d, _, rfl⟩ := List.mem_map.mp hc
  have h2 : d.toNat.isValidChar := d.valid
  unfold Nat.isValidChar at h2
  omega
theorem SS.at {z : Str} {n : Nat} {i : Int} (h : SS z n) (h0 : 0 ≤ i) (h1 : i < z.length) : ∃ c, atI z.cps.toList i = some c ∧ c < 1114112 ∧ c ∈ z.cps.toList := by
  obtain ⟨c, e1, e2⟩ := at_int (xs := z.cps.toList) h0 (by rw [Array.length_toList]; exact h1)
  have m := List.mem_of_getElem? e1
  exact ⟨c, e2, h.ok c m, m⟩
theorem ones_len (cs : List Nat) : ((cs.map fun c => (⟨#[c]⟩ : Str)).map (·.length)).sum = cs.length := by
  induction cs with
  | nil => rfl
  | cons c cs ih =>
    rw [List.map_cons, List.map_cons, List.sum_cons, ih, List.length_cons]
    simp [Str.length]
    omega
end U

namespace U
open PySem L2 PySem.Spec PyProof.Rows

theorem peImp {X : Cx} {e : Expr} {t u : TE} (h : PE X e t) (w : ∀ σ H (Q : VK), u σ H Q → ∃ Q0 : VK, t σ H Q0 ∧ ∀ x H1, Q0 x H1 → Q x H1) : PE X e u :=
  ⟨fun pi s σ H Q I q => by
    obtain ⟨Q0, q0, z⟩ := w σ H Q q
    exact thn (h.run pi s σ H Q0 I q0) fun a s1 ⟨x, H1, I1, r1, q1⟩ => ⟨x, H1, I1, r1, z x H1 q1⟩⟩
def tMo (t : TE) : TE := fun σ H Q => ∃ Q0 : VK, t σ H Q0 ∧ ∀ x H1, Q0 x H1 → Q x H1
theorem peMo {X : Cx} {e : Expr} {t : TE} (h : PE X e t) : PE X e (tMo t) := peImp h fun _ _ _ q => q
def tMa (t : TA) : TA := fun σ H Q => ∃ Q0 : List V → Hp → Prop, t σ H Q0 ∧ ∀ x H1, Q0 x H1 → Q x H1
theorem paMo {X : Cx} {es : List Expr} {t : TA} (h : PA X es t) : PA X es (tMa t) :=
  ⟨fun pos pi s σ H Q I ⟨Q0, q0, z⟩ => thn (h.run pos pi s σ H Q0 I q0) fun a s1 ⟨x, H1, I1, r1, q1⟩ => ⟨x, H1, I1, r1, z x H1 q1⟩⟩
theorem psImp {X : Cx} {st : Stmt} {t u : TS} (h : PS X st t) (w : ∀ D σ H, u D σ H → t D σ H) : PS X st u :=
  ⟨fun pi s σ H D I q => h.run pi s σ H D I (w D σ H q)⟩

/-! what is raised passes -/
section
variable {X : Cx} {E : XK}
theorem passF : Passes (L2.CX X.prog X.w) X (fun _ _ _ => False) := fun _ _ _ _ _ _ _ c => by
  obtain ⟨_, _, _, _, _, _, _, _, _, _, _, _, z⟩ := c
  exact z.elim
/-- the wish of a def's body -/
abbrev wE (E : XK) : WX := fun cls d _ H => E cls d H
abbrev wNo : WX := fun _ _ _ _ => False
end

/-! calls -/
section
variable {X : Cx} {k : Nat} {f C : Addr} {fd : FuncData} {ps : List Str} {sp : Sp} {W : WX} {x m : Str} {p ap pos : Pos} {e o : Expr} {es : List Expr} {t : TA} {ta : TE} {K : PySem.W.Frag}
variable {pi : List (Addr × Obj)} {σ : L2.St} {H : Hp} {s : Shared} {Q : VK} {us : List Value} {vs : List V}
theorem bind0 (hb : Binds X.K fd ps []) (I : Inv X pi σ H s) (r : Vals vs us) (l : vs.length = ps.length) : BindsTo s fd ⟨us, []⟩ (ps.zip us) := by
  have e1 : us ++ [] = us := List.append_nil us
  have b1 := hb s us I.kIn (by rw [e1, ← r.length]; exact l)
  rw [e1] at b1
  exact b1
theorem run_o (F : FnOk X.prog X.w X.K X.mg X.base (L2.CX X.prog X.w) k f fd ps sp) (hr : Room k X.A) (hb : Binds X.K fd ps []) (tk : Takes X W) (I : Inv X pi σ H s) (r : Vals vs us) (h : sp vs H Q (fun cls d H' => W cls d σ H')) :
    wpAny (model X.prog X.w) X.A (call (.ref f) us) (EP X pi σ Q) X.xe s := by
  refine wpAny_call (codeAny_mono (F.run X.A X.stack s H ⟨us, []⟩ us vs Q _ hr I.env0 (bind0 hb I r (F.len _ _ _ _ h)) r h) fun rr s' hq => ?_)
  match rr, hq with
  | .error er, z => exact tk er s' (XE.of_call I (fun _ _ _ y => y) z)
  | .ok (.ret u), z => exact I.after z
  | .ok .next, z => exact z.elim
  | .ok .brk, z => exact z.elim
  | .ok .cont, z => exact z.elim
theorem run_g (F : FnG X.prog X.w X.K X.mg X.base (L2.CX X.prog X.w) k f fd ps sp) (hg : X.A.guards = some []) (hr : Room k X.A) (hb : Binds X.K fd ps []) (tk : Takes X W) (I : Inv X pi σ H s) (r : Vals vs us) (h : sp vs H Q (fun cls d H' => W cls d σ H')) :
    wpAny (model X.prog X.w) X.A (call (.ref f) us) (EP X pi σ Q) X.xe s := by
  refine wpAny_call (codeAny_mono (F.run X.A X.stack s H ⟨us, []⟩ us vs Q _ hg hr I.env0 (bind0 hb I r (F.len _ _ _ _ h)) r h) fun rr s' hq => ?_)
  match rr, hq with
  | .error er, z => exact tk er s' (XE.of_call I (fun _ _ _ y => y) z)
  | .ok (.ret u), z => exact I.after z
  | .ok .next, z => exact z.elim
  | .ok .brk, z => exact z.elim
  | .ok .cont, z => exact z.elim
def tCo (sp : Sp) (W : WX) (t : TA) : TE := fun σ H Q => t σ H fun vs H1 => sp vs H1 Q fun cls d H' => W cls d σ H'
/-- f(e, ..), f of a promise that asks nothing of what is around -/
theorem pe_co (F : FnOk X.prog X.w X.K X.mg X.base (L2.CX X.prog X.w) k f fd ps sp) (hr : Room k X.A) (gl : Gl X x) (hm : X.mg x = some (.ref f)) (hk : PySem.W.keepIn X.K (.ref f) = true) (hb : Binds X.K fd ps []) (tk : Takes X W)
    (ha : PA X (e :: es) t) (h1 : (x == ("__debug__" : Str)) = false := by decide) (h2 : starEach (e :: es) X.env = (false, eval e X.env) :: starEach es X.env := by rfl) (h3 : (backTo pos (starEach es X.env)).any (·.1) = false := by rfl) :
    PE X (.Call (.Name x p) (e :: es) [] pos) (tCo sp W t) := by
  refine ⟨fun pi s σ H Q I h => wpAny_Call_Name_kw (ld_glob I gl hm ?_ h1)⟩
  refine PySem.W.callWith_K (h₀ := X.base) I.ok.mod.kin hk (thn (ha.run pos pi s σ H _ I h) ?_) h2 h3
  rintro us s1 ⟨vs, H1, I1, r, q⟩
  exact ⟨I1.kIn, run_o F hr hb tk I1 r q⟩
theorem pe_co0 (F : FnOk X.prog X.w X.K X.mg X.base (L2.CX X.prog X.w) k f fd ps sp) (hr : Room k X.A) (gl : Gl X x) (hm : X.mg x = some (.ref f)) (hk : PySem.W.keepIn X.K (.ref f) = true) (hb : Binds X.K fd ps []) (tk : Takes X W)
    (h1 : (x == ("__debug__" : Str)) = false := by decide) : PE X (.Call (.Name x p) [] [] pos) (tCo sp W tNil) :=
  ⟨fun pi s σ H Q I h => wpAny_Call_Name_kw (ld_glob I gl hm (PySem.W.callWith_K0 I.kIn hk (run_o (us := []) F hr hb tk I .nil h)) h1)⟩
/-- .. where no repr is under way -/
theorem pe_cg (F : FnG X.prog X.w X.K X.mg X.base (L2.CX X.prog X.w) k f fd ps sp) (hg : X.A.guards = some []) (hr : Room k X.A) (gl : Gl X x) (hm : X.mg x = some (.ref f)) (hk : PySem.W.keepIn X.K (.ref f) = true) (hb : Binds X.K fd ps []) (tk : Takes X W)
    (ha : PA X (e :: es) t) (h1 : (x == ("__debug__" : Str)) = false := by decide) (h2 : starEach (e :: es) X.env = (false, eval e X.env) :: starEach es X.env := by rfl) (h3 : (backTo pos (starEach es X.env)).any (·.1) = false := by rfl) :
    PE X (.Call (.Name x p) (e :: es) [] pos) (tCo sp W t) := by
  refine ⟨fun pi s σ H Q I h => wpAny_Call_Name_kw (ld_glob I gl hm ?_ h1)⟩
  refine PySem.W.callWith_K (h₀ := X.base) I.ok.mod.kin hk (thn (ha.run pos pi s σ H _ I h) ?_) h2 h3
  rintro us s1 ⟨vs, H1, I1, r, q⟩
  exact ⟨I1.kIn, run_g F hg hr hb tk I1 r q⟩
theorem pe_cg0 (F : FnG X.prog X.w X.K X.mg X.base (L2.CX X.prog X.w) k f fd ps sp) (hg : X.A.guards = some []) (hr : Room k X.A) (gl : Gl X x) (hm : X.mg x = some (.ref f)) (hk : PySem.W.keepIn X.K (.ref f) = true) (hb : Binds X.K fd ps []) (tk : Takes X W)
    (h1 : (x == ("__debug__" : Str)) = false := by decide) : PE X (.Call (.Name x p) [] [] pos) (tCo sp W tNil) :=
  ⟨fun pi s σ H Q I h => wpAny_Call_Name_kw (ld_glob I gl hm (PySem.W.callWith_K0 I.kIn hk (run_g (us := []) F hg hr hb tk I .nil h)) h1)⟩
/-- o.m(e, ..) -/
def MtK (C : Addr) (m : Str) (R : V → Hp → Prop) (x : V) (H : Hp) : Prop := ∃ a dx fs, x = .ref a ∧ H a = some (.ins C dx fs) ∧ fs.lookup m = none ∧ R x H
def tMt (C : Addr) (m : Str) (sp : Sp) (W : WX) (ta : TE) (t : TA) : TE := fun σ H Q => ta σ H (MtK C m fun x H1 => t σ H1 fun vs H2 => sp (x :: vs) H2 Q fun cls d H' => W cls d σ H')
theorem pe_mo {pl : Sem Bool} (c : Cls X.K C) (hm : Meth X.K C m f) (F : FnOk X.prog X.w X.K X.mg X.base (L2.CX X.prog X.w) k f fd ps sp) (hr : Room k X.A) (hb : Binds X.K fd ps []) (tk : Takes X W) (he : PE X o ta) (ha : PA X (e :: es) t)
    (h2 : starEach (e :: es) X.env = (false, eval e X.env) :: starEach es X.env := by rfl) (h3 : (backTo pos (starEach es X.env)).any (·.1) = false := by rfl)
    (h4 : eval (.Call (.Attribute o m ap) (e :: es) [] pos) X.env = (do
      let ov ← eval o X.env
      standAt ap.atName
      let (f, first) ← holding [ov] (getMethod ov m pl)
      callWith pos f first (backTo pos (starEach (e :: es) X.env)) (backToKw pos (keywordEach [] X.env))) := by rfl) :
    PE X (.Call (.Attribute o m ap) (e :: es) [] pos) (tMt C m sp W ta t) := by
  refine ⟨fun pi s σ H Q I h => PySem.W.methodCall_KW (pl := pl) (thn (he.run pi s σ H _ I h) ?_) h4⟩
  rintro u s1 ⟨x, H1, I1, rx, a, dx, fs, rfl, ea, l, q⟩
  obtain rfl : u = Value.ref a := rx
  refine getmeth_ok I1 ea c hm l (PySem.W.callWith_K (first := [.ref a]) (h₀ := X.base) I.ok.mod.kin hm.kp (thn (ha.run pos pi s1 σ H1 _ I1 q) ?_) h2 h3)
  rintro us s2 ⟨vs, H2, I2, r, q2⟩
  exact ⟨I2.kIn, run_o (us := .ref a :: us) (vs := .ref a :: vs) F hr hb tk I2 (.cons rfl r) q2⟩
theorem pe_mo0 {pl : Sem Bool} (c : Cls X.K C) (hm : Meth X.K C m f) (F : FnOk X.prog X.w X.K X.mg X.base (L2.CX X.prog X.w) k f fd ps sp) (hr : Room k X.A) (hb : Binds X.K fd ps []) (tk : Takes X W) (he : PE X o ta)
    (h4 : eval (.Call (.Attribute o m ap) [] [] pos) X.env = (do
      let ov ← eval o X.env
      standAt ap.atName
      let (f, first) ← holding [ov] (getMethod ov m pl)
      callWith pos f first (backTo pos (starEach [] X.env)) (backToKw pos (keywordEach [] X.env))) := by rfl) :
    PE X (.Call (.Attribute o m ap) [] [] pos) (tMt C m sp W ta tNil) := by
  refine ⟨fun pi s σ H Q I h => PySem.W.methodCall_KW (pl := pl) (thn (he.run pi s σ H _ I h) ?_) h4⟩
  rintro u s1 ⟨x, H1, I1, rx, a, dx, fs, rfl, ea, l, q⟩
  obtain rfl : u = Value.ref a := rx
  exact getmeth_ok I1 ea c hm l (PySem.W.callWith_K0 (first := [.ref a]) I1.kIn hm.kp (run_o (us := [.ref a]) (vs := [.ref a]) F hr hb tk I1 (.cons rfl .nil) q))
/-- C(e, ..) -/
def NewK (C : Addr) (sp : Sp) (E : XK) (Q : VK) (vs : List V) (H : Hp) : Prop := ∀ x dx H', H x = none → H' x = some (.ins C dx []) → Kp [] H H' → sp (.ref x :: vs) H' (fun v H2 => v = .non ∧ Q (.ref x) H2) E
def tNw (C : Addr) (sp : Sp) (W : WX) (t : TA) : TE := fun σ H Q => t σ H (NewK C sp (fun cls d H' => W cls d σ H') Q)
theorem run_nw (M : Mk X.K C f) (F : FnOk X.prog X.w X.K X.mg X.base (L2.CX X.prog X.w) k f fd ps sp) (hr : Room (k + 1) X.A) (hb : Binds X.K fd ps []) (tk : Takes X W) (I : Inv X pi σ H s) (r : Vals vs us)
    (h : NewK C sp (fun cls d H' => W cls d σ H') Q vs H) : wpAny (model X.prog X.w) X.A (call (.ref C) us) (EP X pi σ Q) X.xe s := by
  have n1 : H (s.heap.objs.size + 1) = none := I.hok.fresh (Nat.le_succ _)
  have n0 : H s.heap.objs.size = none := I.hok.fresh (Nat.le_refl _)
  have hq := h (s.heap.objs.size + 1) s.heap.objs.size _ n1 upd_same ((Kp.refl.new (u := .own (s.heap.objs.size + 1)) n0).new (by rw [upd_ne (Nat.succ_ne_self _)]; exact n1))
  have I2 := Inv.made (C := C) I
  have r2 : Vals (V.ref (s.heap.objs.size + 1) :: vs) (Value.ref (s.heap.objs.size + 1) :: us) := .cons rfl r
  refine wpAny_call (make_map (f := f) I.kIn M.makes M.init (beq_iff_eq.mp M.fn) (codeAny_mono (F.run _ X.stack _ _ ⟨Value.ref (s.heap.objs.size + 1) :: us, []⟩ (Value.ref (s.heap.objs.size + 1) :: us) _ _ _ (hr.make C us [])
    (I2.env0.make C us []) (bind0 hb I2 r2 (F.len _ _ _ _ hq)) r2 hq) fun rr s' z => ?_))
  match rr, z with
  | .error er, z => exact tk er s' (XE.of_call I2 (fun _ _ _ y => y) z)
  | .ok (.ret u), z =>
    obtain ⟨v, H', I3, rv, ev, q3⟩ := I2.after z
    subst ev
    exact ⟨rv, ⟨V.ref (s.heap.objs.size + 1), H', I3, rfl, q3⟩⟩
  | .ok .next, z => exact z.elim
  | .ok .brk, z => exact z.elim
  | .ok .cont, z => exact z.elim
theorem pe_nw (M : Mk X.K C f) (F : FnOk X.prog X.w X.K X.mg X.base (L2.CX X.prog X.w) k f fd ps sp) (hr : Room (k + 1) X.A) (gl : Gl X x) (hm : X.mg x = some (.ref C)) (hb : Binds X.K fd ps []) (tk : Takes X W)
    (ha : PA X (e :: es) t) (h1 : (x == ("__debug__" : Str)) = false := by decide) (h2 : starEach (e :: es) X.env = (false, eval e X.env) :: starEach es X.env := by rfl) (h3 : (backTo pos (starEach es X.env)).any (·.1) = false := by rfl) :
    PE X (.Call (.Name x p) (e :: es) [] pos) (tNw C sp W t) := by
  refine ⟨fun pi s σ H Q I h => wpAny_Call_Name_kw (ld_glob I gl hm ?_ h1)⟩
  refine PySem.W.callWith_K (h₀ := X.base) I.ok.mod.kin M.kp (thn (ha.run pos pi s σ H _ I h) ?_) h2 h3
  rintro us s1 ⟨vs, H1, I1, r, q⟩
  exact ⟨I1.kIn, run_nw M F hr hb tk I1 r q⟩
theorem pe_nw0 (M : Mk X.K C f) (F : FnOk X.prog X.w X.K X.mg X.base (L2.CX X.prog X.w) k f fd ps sp) (hr : Room (k + 1) X.A) (gl : Gl X x) (hm : X.mg x = some (.ref C)) (hb : Binds X.K fd ps []) (tk : Takes X W)
    (h1 : (x == ("__debug__" : Str)) = false := by decide) : PE X (.Call (.Name x p) [] [] pos) (tNw C sp W tNil) :=
  ⟨fun pi s σ H Q I h => wpAny_Call_Name_kw (ld_glob I gl hm (PySem.W.callWith_K0 I.kIn M.kp (run_nw (us := []) M F hr hb tk I .nil h)) h1)⟩
/-- e.f -/
def FldK (K : PySem.W.Frag) (f : Str) (Q : VK) (x : V) (H : Hp) : Prop := ∃ a C dx fs v, x = .ref a ∧ H a = some (.ins C dx fs) ∧ Cls K C ∧ NoAttr K C f ∧ fs.lookup f = some v ∧ Q v H
def tFd (K : PySem.W.Frag) (ta : TE) (f : Str) : TE := fun σ H Q => ta σ H (FldK K f Q)
theorem pe_fd {f : Str} (hK : X.K = K) (he : PE X e ta) (hb : attributeBase e f X.env (eval e X.env) = eval e X.env) : PE X (.Attribute e f pos) (tFd K ta f) := hK ▸ pe_fld he hb
/-- e.f = v -/
def SetK (K : PySem.W.Frag) (f : Str) (y : V) (R : Hp → Prop) (x : V) (H : Hp) : Prop := ∃ a C dx fs, x = .ref a ∧ H a = some (.ins C dx fs) ∧ Cls K C ∧ NoAttr K C f ∧ fs.length < 1000 ∧ R (upd H a (.ins C dx (putF f y fs)))
def tSd (K : PySem.W.Frag) (ta tv : TE) (f : Str) : TS := fun D σ H => tv σ H fun y H1 => ta σ H1 (SetK K f y (D.nx σ))
theorem ps_fd {f : Str} {value : Expr} {tv : TE} {pos' : Pos} (hK : X.K = K) (he : PE X o ta) (hv : PE X value tv) (hs : swapsWith value (some (.Attribute o f pos')) pos.line X.env = pure false) : PS X (.Assign [.Attribute o f pos'] value pos) (tSd K ta tv f) :=
  hK ▸ ps_fld he hv hs
end

/-! steps -/
section
variable {K : PySem.W.Frag} {σ : L2.St} {H : Hp} {Q : VK} {D : Ends} {x y v : V} {C p : Addr} {m f : Str} {ta tv : TE} {t : TA} {sp : Sp} {W : WX}
theorem s_co (h : t σ H fun vs H1 => sp vs H1 Q fun cls d H' => W cls d σ H') : tCo sp W t σ H Q := h
theorem s_mt (h : ta σ H (MtK C m fun x H1 => t σ H1 fun vs H2 => sp (x :: vs) H2 Q fun cls d H' => W cls d σ H')) : tMt C m sp W ta t σ H Q := h
theorem s_mtk {R : V → Hp → Prop} {dx : Addr} {fs : List (Str × V)} (h : H p = some (.ins C dx fs)) (l : fs.lookup m = none) (q : R (.ref p) H) : MtK C m R (.ref p) H := ⟨p, dx, fs, rfl, h, l, q⟩
theorem s_nw (h : t σ H (NewK C sp (fun cls d H' => W cls d σ H') Q)) : tNw C sp W t σ H Q := h
theorem s_fd (h : ta σ H (FldK K f Q)) : tFd K ta f σ H Q := h
theorem s_fdk {dx : Addr} {fs : List (Str × V)} (h : H p = some (.ins C dx fs)) (c : Cls K C) (n : NoAttr K C f) (l : fs.lookup f = some v) (q : Q v H) : FldK K f Q (.ref p) H := ⟨p, C, dx, fs, v, rfl, h, c, n, l, q⟩
theorem s_sd (h : tv σ H fun y H1 => ta σ H1 (SetK K f y (D.nx σ))) : tSd K ta tv f D σ H := h
/-- an object is changed, the heap behind it as a letter -/
theorem put_abs {o : HO} {R : Hp → Prop} (h : ∀ H', H' p = some o → Kp [p] H H' → R H') : R (upd H p o) := h _ upd_same (Kp.refl.put (by simp))
theorem s_sdk {dx : Addr} {fs gs : List (Str × V)} {R : Hp → Prop} (h : H p = some (.ins C dx fs)) (c : Cls K C) (n : NoAttr K C f) (z : fs.length < 1000) (e : putF f y fs = gs) (q : ∀ H', H' p = some (.ins C dx gs) → Kp [p] H H' → R H') : SetK K f y R (.ref p) H :=
  ⟨p, C, dx, fs, rfl, h, c, n, z, by rw [e]; exact put_abs q⟩
end

/-! an error with one field -/
/-- __init__ of an error: its field, the class's -/
def spE (C : Addr) (f : Str) : Sp := sp2 fun x y H Q _ => ∃ a, x = .ref a ∧ H a = some (exo a C none) ∧ ∀ dx, H dx = none → dx ≠ a → Q .non (upd (upd H dx (exd dx [(f, y)])) a (exo a C (some dx)))
section
variable {X : Cx} {C S fI : Addr} {f x : Str} {e : Expr} {es : List Expr} {ta : TA} {te to : TE} {p p1 p2 pos pos' : Pos} {K : PySem.W.Frag}
/-- a class that is read -/
structure RdC (K : PySem.W.Frag) (C : Addr) : Prop where
  rd : PySem.W.readsIn K C (.type "type") = true
  ga : PySem.W.specialIn K (.ref C) "__getattribute__" = some (some (.builtin "type.__getattribute__"))
/-- S.__init__(self, ..), S a class over ValueError without an __init__ of its own -/
def SeK (K : PySem.W.Frag) (Q : VK) (vs : List V) (H : Hp) : Prop := ∃ (a C : Addr) (ws : List V), vs = .ref a :: ws ∧ ws.length ≤ 1000 ∧ OexC K C ∧ H a = some (exo a C none) ∧ Q .non H
def tSe (K : PySem.W.Frag) (ta : TA) : TE := fun σ H Q => ta σ H (SeK K Q)
theorem pe_se {pl : Sem Bool} (hK : X.K = K) (gl : Gl X x) (hm : X.mg x = some (.ref S)) (r : RdC X.K S) (vV : PySem.W.findCls X.K (.ref S) (.type "type") "__init__" = some (.val (.builtin "ValueError.__init__"))) (ha : PA X (e :: es) ta)
    (h1 : (x == ("__debug__" : Str)) = false := by decide)
    (hc : eval (.Call (.Attribute (.Name x p1) "__init__" p2) (e :: es) [] pos) X.env = (do
      let ov ← eval (.Name x p1) X.env
      standAt p2.atName
      let (f, first) ← holding [ov] (getMethod ov "__init__" pl)
      callWith pos f first (backTo pos (starEach (e :: es) X.env)) (backToKw pos (keywordEach [] X.env))) := by rfl)
    (h2 : starEach (e :: es) X.env = (false, eval e X.env) :: starEach es X.env := by rfl) (h3 : (backTo pos (starEach es X.env)).any (·.1) = false := by rfl) :
    PE X (.Call (.Attribute (.Name x p1) "__init__" p2) (e :: es) [] pos) (tSe K ta) := by
  subst hK
  refine ⟨fun pi s σ H Q I h => PySem.W.methodCall_KW (ld_glob I gl hm ?_ h1) hc⟩
  refine PySem.W.method_cls I.kIn r.ga (PySem.W.cls_value I.kIn r.rd vV (by decide +kernel) ?_)
  refine PyProof.Rows.callWith_method1 (thn (ha.run pos pi _ σ H _ (I.tok _) h) ?_) h2 h3
  rintro us s1 ⟨vs, H1, I1, r1, a, D, ws, rfl, hl, T, ea, q⟩
  cases r1 with
  | @cons _ u0 _ ur ra rw' =>
    obtain rfl : u0 = Value.ref a := ra
    have z := Paired.length rw'
    exact oinit_ok T I1 ea (by rw [sizeLine_eq]; omega) fun s' J => ⟨.non, H1, J, rfl, q⟩
/-- self.f = e in such an __init__ -/
def OsK (K : PySem.W.Frag) (f : Str) (y : V) (R : Hp → Prop) (x : V) (H : Hp) : Prop := ∃ a C : Addr, x = .ref a ∧ OexC K C ∧ PySem.W.findIn K (.ref C) f = some none ∧ H a = some (exo a C none) ∧ ∀ dx, H dx = none → dx ≠ a → R (upd (upd H dx (exd dx [(f, y)])) a (exo a C (some dx)))
def tOs (K : PySem.W.Frag) (f : Str) (to te : TE) : TS := fun D σ H => te σ H fun y H1 => to σ H1 (OsK K f y (D.nx σ))
theorem ps_os {o : Expr} (hK : X.K = K) (ho : PE X o to) (he : PE X e te) (hs : swapsWith e (some (.Attribute o f p')) pos.line X.env = pure false := by rfl) : PS X (.Assign [.Attribute o f p'] e pos) (tOs K f to te) := by
  subst hK
  refine psImp (ps_ost (f := f) (peMo ho) (peMo he) hs) fun D σ H q => ⟨_, q, fun y H1 z => ⟨_, z, fun x H2 w => ?_⟩⟩
  obtain ⟨a, C, rfl, h1, h2, h3, h4⟩ := w
  exact ⟨a, C, rfl, h1, h2, Or.inl ⟨h3, h4⟩⟩
/-- raise C(e) -/
def RzK (C : Addr) (f : Str) (R : Value → Option Addr → Hp → Prop) (v : V) (H : Hp) : Prop := ∀ d H', H d = none → H' d = some (.xd [(f, v)]) → Kp [] H H' → R (.ref C) (some d) H'
def tRz (C : Addr) (f : Str) (W : WX) (te : TE) : TS := fun _ σ H => te σ H (RzK C f fun cls d H' => W cls d σ H')
theorem ps_rz {k : Nat} {fd : FuncData} {ps : List Str} {W : WX} (hc : X.calm = true) (T : OexC X.K C) (iC : PySem.W.findIn X.K (.ref C) "__init__" = some (some (.ref fI))) (tI : PySem.W.typeIn X.K (.ref fI) = some (.type "function"))
    (F : FnOk X.prog X.w X.K X.mg X.base (L2.CX X.prog X.w) k fI fd ps (spE C f)) (hr : Room (k + 1) X.A) (hb : Binds X.K fd ps []) (gl : Gl X x) (hm : X.mg x = some (.ref C)) (tk : Takes X W) (he : PE X e te)
    (h1 : (x == ("__debug__" : Str)) = false := by decide) (h2 : starEach [e] X.env = [(false, eval e X.env)] := by rfl) :
    PS X (.Raise (some (.Call (.Name x p) [e] [] pos)) none pos') (tRz C f W te) := by
  refine psImp (ps_raise hc tk (pmk_oex T iC tI F hr hb .nil passF gl hm (pa_cons (peMo he) pa_nil h2) h1 h2 rfl)) fun D σ H q => ?_
  refine ⟨_, q, fun v H1 z => ⟨by simp, fun a na => ⟨_, _, rfl, a, rfl, upd_same, fun dx nd ne => ⟨rfl, dx, [(f, v)], upd_same, ?_, ?_, ?_⟩⟩⟩⟩
  · rw [upd_ne ne, upd_same]
  · rw [upd_ne ne] at nd; exact nd
  · rw [upd_ne ne] at nd
    refine z dx _ nd upd_same fun b o eb _ => ?_
    have nb : b ≠ dx := ne_of_none eb nd
    have nb2 : b ≠ a := ne_of_none eb na
    rw [upd_ne nb, del_ne nb2, upd_ne nb2, upd_ne nb, upd_ne nb2]
    exact eb
end
end U

namespace U
open PySem L2 PySem.Spec PyProof.Rows
/-! try with clauses of any number, with names or without -/
/-- a clause: its class, the slot of its name, its suite's reading -/
abbrev Clause := Value × Option Nat × (Addr → Value → Option Addr → TS)
def dropS (i : Option Nat) (σ : L2.St) : L2.St := match i with | none => σ | some i => σ.set i none
def putS (i : Option Nat) (a : Addr) (σ : L2.St) : L2.St := match i with | none => σ | some i => σ.set i (some (.ref a))
def endS (i : Option Nat) (D : Ends) : Ends := { nx := fun σ H => D.nx (dropS i σ) H, rt := D.rt, bk := fun σ H => D.bk (dropS i σ) H, ct := fun σ H => D.ct (dropS i σ) H }
def wCl (K : PySem.W.Frag) (Wout : WX) (D : Ends) : List Clause → WX
  | [] => Wout
  | (c, i, ts) :: r => fun cls d σ H => ∃ b, PySem.W.exmOne K cls c = some b ∧ (b = true → ∀ a, H a = none → ts a cls d (endS i D) (putS i a σ) H) ∧ (b = false → wCl K Wout D r cls d σ H)
inductive ClOk (X : Cx) : List ExceptHandler → List Clause → Prop
  | nil : ClOk X [] []
  | only {x : Str} {c : Value} {ts : Addr → Value → Option Addr → TS} {b0 : Stmt} {su : List Stmt} {np p' : Pos} {hds : List ExceptHandler} {l : List Clause} (hc : Names X x c)
      (hsu : ∀ (a : Addr) (oe : Obj) (cls : Value) (d : Option Addr) (pn : List (Addr × Obj)), Zc cls d oe → (∃ vs, oe.data = .fields vs) → PSs (X.suite a ((a, oe) :: pn)) (b0 :: su) (ts a cls d)) (r : ClOk X hds l) :
      ClOk X (.ExceptHandler (some (.Name x np)) none (b0 :: su) p' :: hds) ((c, none, ts) :: l)
  | as {x n : Str} {i : Nat} {c : Value} {ts : Addr → Value → Option Addr → TS} {b0 : Stmt} {su : List Stmt} {np p' : Pos} {hds : List ExceptHandler} {l : List Clause} (hc : Names X x c) (hi : X.N[i]? = some n) (hln : X.env.kindOf n = some .local)
      (hsu : ∀ (a : Addr) (oe : Obj) (cls : Value) (d : Option Addr) (pn : List (Addr × Obj)), Zc cls d oe → (∃ vs, oe.data = .fields vs) → PSs (X.suite a ((a, oe) :: pn)) (b0 :: su) (ts a cls d)) (r : ClOk X hds l) :
      ClOk X (.ExceptHandler (some (.Name x np)) (some n) (b0 :: su) p' :: hds) ((c, some i, ts) :: l)
section
variable {X : Cx} {body : List Stmt} {h0 : ExceptHandler} {hds : List ExceptHandler} {l : List Clause} {pos : Pos} {tb : WX → TS} {Wout : WX} {K : PySem.W.Frag}
def tTry (K : PySem.W.Frag) (Wout : WX) (l : List Clause) (tb : WX → TS) : TS := fun D σ H => tb (wCl K Wout D l) D σ H
theorem ps_try (hK : X.K = K) (hs : X.stack = X.env :: X.outer) (hf : X.env.frame = some X.env.locals) (hN : X.N.Nodup) (tk : Takes X Wout)
    (hb : ∀ (W : WX) (pn : List (Addr × Obj)) (xe : Value → Shared → Prop), Takes (X.tr pn xe) W → PassesOwn (model X.prog X.w) X.A X.env xe → PSs (X.tr pn xe) body (tb W))
    (hh : ClOk X (h0 :: hds) l) : PS X (.Try body (h0 :: hds) [] [] pos) (tTry K Wout l tb) := by
  subst hK
  refine ⟨fun pi s σ H D I h => wpAny_Try_except ?_⟩
  have ok := I.ok
  have hfr : X.A.frames = some (X.env :: X.outer) := by rw [ok.frames, hs]
  let xe : Value → Shared → Prop := fun e s1 => wpAny (model X.prog X.w) X.A (noteFrame e X.env) (fun _ s2 => wpAny (model X.prog X.w) X.A (setFlight e none)
    (fun _ s3 => wpAny (model X.prog X.w) X.A (handleBy e X.env (h0 :: hds)) (SP X pi D) X.xe s3) X.xe s2) X.xe s1
  have tkx : Takes (X.tr (X.pn ++ pi) xe) (wCl X.K Wout D l) := by
    rintro u s1 ⟨a, B, sI, pins1, σ1, H1, cls, d, rfl, J1, nb, up, sky, na, os, ag, w⟩
    have J : Inv X pi σ1 H1 sI := J1.ofTry ok
    have sky1 : Sky B (X.env :: X.outer) a (Zc cls d) X.env.locals s1.heap := hs ▸ sky
    show wpAny (model X.prog X.w) X.A (noteFrame (.ref a) X.env) _ _ _
    refine Sky.land Zc.steady hfr hf sky1 fun h3 f3 u3 => ?_
    have J3 : Inv X pi σ1 H1 { s1 with heap := h3 } := J.landed nb f3.1 (up.trans u3) os ag
    obtain ⟨oe3, vs3, he3, hz3, hd3⟩ := f3.there
    have nfr : a ∉ frs (X.env :: X.outer) := fun hm => by
      obtain ⟨_, o', e', hnf⟩ := f3.2.2.1.mem hm
      rw [he3] at e'; cases e'
      exact hnf _ hd3
    have nL : a ≠ X.env.locals := fun z => nfr (List.mem_filterMap.mpr ⟨X.env, List.mem_cons_self, by rw [hf, z]⟩)
    have nF : a ∉ X.fs := fun hm => by
      obtain ⟨e, he, q⟩ := List.mem_filterMap.mp hm
      exact nfr (List.mem_filterMap.mpr ⟨e, List.mem_cons_of_mem _ he, q⟩)
    have S3 := J3.suite he3 hd3 na nL nF
    have LT : PySem.W.Looks (model X.prog X.w) h3 (typeOf (.ref a)) cls := fun A Q E s k q => wpAny_typeOf_ref (k _ _ he3) (by rw [hz3.1]; exact q)
    have test : ∀ {x : Str} {c : Value} {np : Pos} {Q : Value → Shared → Prop} {E : Value → Shared → Prop}, Names X x c → Q c { s1 with heap := h3 } →
        wpAny (model X.prog X.w) (X.A.mark (some (.ref a))) (eval (.Name x np) X.env) Q E { s1 with heap := h3 } := fun {x c np Q E} hc q => by
      obtain ⟨hg, hdb, hm | ⟨hm, hv, hnn⟩⟩ := hc
      · exact ld_glob (X := X.suite a ((a, oe3) :: (X.pn ++ pi))) S3 hg hm q hdb
      · exact ld_blt (X := X.suite a ((a, oe3) :: (X.pn ++ pi))) S3 hg hm hv q hnn hdb
    have go : ∀ {hds' : List ExceptHandler} {l' : List Clause}, ClOk X hds' l' → wCl X.K Wout D l' cls d σ1 H1 →
        wpAny (model X.prog X.w) X.A (handleBy (.ref a) X.env hds') (SP X pi D) X.xe { s1 with heap := h3 } := by
      intro hds' l' hk
      induction hk with
      | nil =>
        intro w
        refine wpAny_handleBy_nil ?_
        obtain ⟨_, _, _, oe, vs, T, oT, ts', he, hz, hd, h1, hr⟩ := id f3
        unfold PySem.passOn
        refine wpAny_bind (wpAny_field he hd h1 ?_)
        rw [if_neg (show ¬ ((Value.ref T == Value.none) = true) from by simp)]
        have fin : wpAny (model X.prog X.w) X.A (setFlight (.ref a) X.env.frame) (fun _ s4 => wpAny (model X.prog X.w) X.A (throw (.ref a) : Sem Flow) (SP X pi D) X.xe s4) X.xe { s1 with heap := h3 } := by
          rw [hf]
          refine HandSPX.setFlight_upZ f3 fun h4 hh4 up4 => wpAny_throw (tk _ _ ?_)
          exact ⟨a, B, sI, pi, σ1, H1, cls, d, rfl, J, nb, (up.trans u3).trans up4, Or.inr (Or.inr (by rw [hs]; exact hh4)), na, os, ag, w⟩
        first
          | exact wpAny_bind (wpAny_pure (wpAny_bind fin))
          | exact wpAny_bind fin
      | @only x c ts b0 su np p' hds2 l2 hc hsu r ih =>
        rintro ⟨b, hb1, yes, no⟩
        refine wpAny_handleBy_cons (codeAny_handlers_test (test hc ((PySem.W.exm_one (M := model X.prog X.w) J3.kIn LT hb1).here ?_))) (by intro q; cases q)
        cases b with
        | false => exact ih (no rfl)
        | true =>
          refine codeAny_handlers_suite (HandSPX.lands_againZ f3 fun h4 fl4 up4 => ?_)
          have J4 : Inv X pi σ1 H1 { s1 with heap := h4 } := J.landed nb fl4.1 ((up.trans u3).trans up4) os ag
          obtain ⟨oe4, vs4, he4, hz4, hd4⟩ := fl4.there
          refine wpAny_mono ((hsu a oe4 cls d (X.pn ++ pi) hz4 ⟨_, hd4⟩).run [] _ _ H1 _ (J4.suite he4 hd4 na nL nF) (yes rfl a na)) (fun f s6 hsp => ?_) (fun _ _ z => False.elim z)
          match f, hsp with
          | .next, ⟨_, _, S6, q6⟩ => exact ⟨_, _, S6.unsuite ok, q6⟩
          | .brk, ⟨_, _, S6, q6⟩ => exact ⟨_, _, S6.unsuite ok, q6⟩
          | .cont, ⟨_, _, S6, q6⟩ => exact ⟨_, _, S6.unsuite ok, q6⟩
          | .ret u, ⟨_, _, _, S6, r6, q6⟩ => exact ⟨_, _, _, S6.unsuite ok, r6, q6⟩
      | @as x n i c ts b0 su np p' hds2 l2 hc hi hln hsu r ih =>
        rintro ⟨b, hb1, yes, no⟩
        refine wpAny_handleBy_cons (codeAny_handlers_test (test hc ((PySem.W.exm_one (M := model X.prog X.w) J3.kIn LT hb1).here ?_))) (by intro q; cases q)
        cases b with
        | false => exact ih (no rfl)
        | true =>
          refine codeAny_handlers_suite_as (HandSPX.lands_againZ f3 fun h4 fl4 up4 => ?_)
          have J4 : Inv X pi σ1 H1 { s1 with heap := h4 } := J.landed nb fl4.1 ((up.trans u3).trans up4) os ag
          obtain ⟨oe4, vs4, he4, hz4, hd4⟩ := fl4.there
          refine store_ok (X := X.suite a ((a, oe4) :: (X.pn ++ pi))) (v := .ref a) (J4.suite he4 hd4 na nL nF) hN hi (Or.inl hln) rfl (fun s5 S5 => ?_) (Or.inr hln)
          refine wpAny_mono ((hsu a oe4 cls d (X.pn ++ pi) hz4 ⟨_, hd4⟩).run [] s5 _ H1 _ S5 (yes rfl a na)) (fun f s6 hsp => ?_) (fun _ _ z => False.elim z)
          have gone : ∀ {σ6 : L2.St} {H6 : Hp} {Q : Shared → Prop}, Inv (X.suite a ((a, oe4) :: (X.pn ++ pi))) [] σ6 H6 s6 → (∀ s7, Inv X pi (σ6.set i none) H6 s7 → Q s7) →
              wpAny (model X.prog X.w) X.A (do bindName X.env n .none; unbindBehindTheSuite X.env n p') (fun _ s7 => Q s7) X.xe s6 := fun S6 hq => gone_ok (S6.unsuite ok) hN hi hln hq
          match f, hsp with
          | .next, ⟨_, _, S6, q6⟩ => exact gone S6 fun s7 J7 => ⟨_, _, J7, q6⟩
          | .brk, ⟨_, _, S6, q6⟩ => exact gone S6 fun s7 J7 => ⟨_, _, J7, q6⟩
          | .cont, ⟨_, _, S6, q6⟩ => exact gone S6 fun s7 J7 => ⟨_, _, J7, q6⟩
          | .ret u, ⟨_, _, _, S6, r6, q6⟩ => exact gone S6 fun s7 J7 => ⟨_, _, _, J7, r6, q6⟩
    exact go hh w
  refine wpAny_mono ((hb _ (X.pn ++ pi) xe tkx PassesOwn.looking).run [] s σ H D (I.toTry _) h) (fun f s1 hsp => ?_) (fun e s1 he => he)
  match f, hsp with
  | .next, ⟨σ1, H1, J1, q⟩ => exact wpAny_execs_nil ⟨σ1, H1, J1.ofTry ok, q⟩
  | .brk, ⟨σ1, H1, J1, q⟩ => exact ⟨σ1, H1, J1.ofTry ok, q⟩
  | .cont, ⟨σ1, H1, J1, q⟩ => exact ⟨σ1, H1, J1.ofTry ok, q⟩
  | .ret u, ⟨v, σ1, H1, J1, r, q⟩ => exact ⟨v, σ1, H1, J1.ofTry ok, r, q⟩
end
end U

namespace U
open PySem L2 PySem.Spec PyProof.Rows
/-- what the written part says of an error's class at C, its __init__ at fI, its field f -/
structure ErrC (K : PySem.W.Frag) (C fI : Addr) (f : Str) : Prop where
  oex : OexC K C
  xf : XfC K C
  no : PySem.W.findIn K (.ref C) f = some none
  iC : PySem.W.findIn K (.ref C) "__init__" = some (some (.ref fI))
  tI : PySem.W.typeIn K (.ref fI) = some (.type "function")
  ha : PySem.W.findIn K (.ref C) "__class__" = some (some (.builtin "object.__class__"))
  hm : PySem.W.mroIn K C (.type "object") = some true
section
variable {X : Cx} {a C fI : Addr} {oe : Obj} {cls : Value} {d : Option Addr} {pn : List (Addr × Obj)} {e : Expr} {te : TE} {pos : Pos} {f : Str} {K : PySem.W.Frag}
/-- e.f += v -/
def FaK (K : PySem.W.Frag) (f : Str) (R : Addr → Addr → V → Hp → Prop) (x : V) (H : Hp) : Prop := ∃ a C dx fs v, x = .ref a ∧ H a = some (.ins C dx fs) ∧ Cls K C ∧ NoAttr K C f ∧ fs.lookup f = some v ∧ R a C v H
def FbK (f : Str) (a C : Addr) (R : Hp → Prop) (z : V) (H : Hp) : Prop := ∃ dx fs, H a = some (.ins C dx fs) ∧ fs.length < 1000 ∧ R (upd H a (.ins C dx (putF f z fs)))
def tFa (K : PySem.W.Frag) (ta tv : TE) (rd : V → V → Hp → VK → Prop) (f : Str) : TS := fun D σ H => ta σ H (FaK K f fun a C v H1 => tv σ H1 fun y H2 => rd v y H2 (FbK f a C (D.nx σ)))
theorem ps_fa {o value : Expr} {op : Operator} {ta tv : TE} {rd : V → V → Hp → VK → Prop} {tp : Pos} (hK : X.K = K) (ha : PE X o ta) (hv : PE X value tv) (hop : InOp X op rd) : PS X (.AugAssign (.Attribute o f tp) op value pos) (tFa K ta tv rd f) :=
  hK ▸ ps_fldaug ha hv hop
/-- err.f in its suite -/
def XfK (a : Addr) (cls : Value) (d : Option Addr) (C : Addr) (f : Str) (Q : VK) (x : V) (H : Hp) : Prop := x = .ref a ∧ cls = .ref C ∧ ∃ (dd : Addr) (fs : List (Str × V)) (v : V), d = some dd ∧ H dd = some (.xd fs) ∧ fs.lookup f = some v ∧ Q v H
def tXe (a : Addr) (cls : Value) (d : Option Addr) (C : Addr) (f : Str) (te : TE) : TE := fun σ H Q => te σ H (XfK a cls d C f Q)
theorem pe_xe (T : ErrC X.K C fI f) (hz : Zc cls d oe) (hf : ∃ vs, oe.data = .fields vs) (he : PE (X.suite a ((a, oe) :: pn)) e te) (hb : attributeBase e f X.env (eval e X.env) = eval e X.env := by rfl) :
    PE (X.suite a ((a, oe) :: pn)) (.Attribute e f pos) (tXe a cls d C f te) := pe_xf T.xf T.no hz hf he hb
/-- isinstance(err, T) in its suite -/
def rIsX (K : PySem.W.Frag) (a : Addr) (cls : Value) (d : Option Addr) (C : Addr) : List V → Hp → VK → Prop := fun xs H Q => ∃ (c : V) (cv : Value) (b : Bool) (dd : Addr) (fs : List (Str × V)), xs = [.ref a, c] ∧ ClsV c cv ∧ cls = .ref C ∧ d = some dd ∧ H dd = some (.xd fs) ∧
  PySem.W.kitOne K (.ref C) cv = some b ∧ Q (.bl b) H
theorem c_isx (hK : X.K = K) (T : ErrC X.K C fI f) (hn : PySem.W.specialIn X.K (.builtin "object.__class__") "__get__" = some (some (.builtin "getset_descriptor.__get__"))) (ht : PySem.W.takesIn X.K (.builtin "object.__class__") = some true)
    (hz : Zc cls d oe) (hf : ∃ vs, oe.data = .fields vs) : CallR (X.suite a ((a, oe) :: pn)) (.builtin "isinstance") (rIsX K a cls d C) := by
  subst hK
  rintro pi s σ H xs us Q I vv ⟨c, cv, b, dd, fs, rfl, hc, rfl, rfl, hd, e, q⟩
  cases vv with
  | cons rx rr =>
    cases rr with
    | cons rt rr =>
      cases rr
      cases rx
      obtain rfl := hc.eq rt
      obtain ⟨hget, _⟩ := I.pin (a, oe) (List.mem_append.mpr (Or.inl List.mem_cons_self))
      obtain ⟨vs, hv⟩ := hf
      have hx : ObjOk X.prog X.w H s.heap dd (.xd fs) := I.hok dd _ hd
      obtain ⟨mA, hns, _⟩ := hx
      obtain ⟨od, ho, _⟩ := lookIn_ns hns
      have J : PySem.W.InstAt s.heap a oe C (some od) := ⟨hget, hz.1, by unfold PySem.W.notCls; rw [hv] <;> rfl, by rw [hz.2]; exact ho⟩
      have hcl : (PySem.W.clsIn X.K C).isSome = true := by
        have z := T.xf.hdC
        unfold PySem.W.hasDictIn at z
        cases y : PySem.W.clsIn X.K C with
        | none => rw [y] at z; simp at z
        | some _ => rfl
      exact PySem.W.kia_one (PySem.W.kitx_exc hcl T.xf.ga T.xf.gg T.xf.exC T.ha hn ht T.hm) I.kIn J e (fun z => nomatch z) fun tk => ⟨.bl b, H, I.kept (t' := tk) fun _ _ z => z, rfl, q⟩
end
section
variable {K : PySem.W.Frag} {σ : L2.St} {H : Hp} {Q : VK} {D : Ends} {a C dd : Addr} {f : Str} {v : V} {te to : TE} {t : TA}
theorem s_fa {tv : TE} {rd : V → V → Hp → VK → Prop} (h : te σ H (FaK K f fun a C v H1 => tv σ H1 fun y H2 => rd v y H2 (FbK f a C (D.nx σ)))) : tFa K te tv rd f D σ H := h
theorem s_fak {R : Addr → Addr → V → Hp → Prop} {dx : Addr} {fs : List (Str × V)} (h : H a = some (.ins C dx fs)) (c : Cls K C) (n : NoAttr K C f) (l : fs.lookup f = some v) (q : R a C v H) : FaK K f R (.ref a) H := ⟨a, C, dx, fs, v, rfl, h, c, n, l, q⟩
theorem s_fbk {R : Hp → Prop} {dx : Addr} {fs gs : List (Str × V)} (h : H a = some (.ins C dx fs)) (z : fs.length < 1000) (e : putF f v fs = gs) (q : ∀ H', H' a = some (.ins C dx gs) → Kp [a] H H' → R H') : FbK f a C R v H := ⟨dx, fs, h, z, by rw [e]; exact put_abs q⟩
theorem s_radd {n m : Int} (q : Q (.int (n + m)) H) : rAdd (.int n) (.int m) H Q := ⟨n, m, rfl, rfl, q⟩
theorem s_rsub {n m : Int} (q : Q (.int (n - m)) H) : rSub (.int n) (.int m) H Q := ⟨n, m, rfl, rfl, q⟩
theorem s_xe {cls : Value} {d : Option Addr} (h : te σ H (XfK a cls d C f Q)) : tXe a cls d C f te σ H Q := h
theorem s_xek {fs : List (Str × V)} (h : H dd = some (.xd fs)) (l : fs.lookup f = some v) (q : Q v H) : XfK a (.ref C) (some dd) C f Q (.ref a) H := ⟨rfl, rfl, dd, fs, v, rfl, h, l, q⟩
theorem s_isx {C2 : Addr} {b : Bool} {fs : List (Str × V)} (h : H dd = some (.xd fs)) (e : PySem.W.kitOne K (.ref C) (.ref C2) = some b) (q : Q (.bl b) H) : rIsX K a (.ref C) (some dd) C [.ref a, .ref C2] H Q := ⟨.ref C2, .ref C2, b, dd, fs, rfl, .own C2, rfl, rfl, h, e, q⟩
theorem s_se (h : t σ H (SeK K Q)) : tSe K t σ H Q := h
theorem s_sek {z : V} (T : OexC K C) (h : H a = some (exo a C none)) (q : Q .non H) : SeK K Q [.ref a, z] H := ⟨a, C, [z], rfl, by simp, T, h, q⟩
theorem s_os (h : te σ H fun y H1 => to σ H1 (OsK K f y (D.nx σ))) : tOs K f to te D σ H := h
theorem s_rz {W : WX} (h : te σ H (RzK C f fun cls d H' => W cls d σ H')) : tRz C f W te D σ H := h
theorem s_try {Wout : WX} {l : List Clause} {tb : WX → TS} (h : tb (wCl K Wout D l) D σ H) : tTry K Wout l tb D σ H := h
end
end U

namespace U
open PySem L2 PySem.Spec PyProof.Rows
/-! dicts -/
section
variable {X : Cx} {k : Nat} {K : PySem.W.Frag} {o i e value : Expr} {pos p' ap : Pos} {td ty tv : TE} {trs : List (TE × TE)} {keys : List (Option Expr)} {values : List Expr}
def DdK (Q : VK) (p : Addr) (ps : List (V × V)) (H : Hp) : Prop := H p = some (.dK []) ∧ ∃ kvs : List (Key × V), ps = kvs.map (fun kv => (kV kv.1, kv.2)) ∧ kvs.length ≤ 15 ∧ Q (.ref p) (upd H p (.dK (mergeK [] kvs)))
def tDd (trs : List (TE × TE)) : TE := fun σ H Q => ∀ p, H p = none → tPairs trs σ (upd H p (.dK [])) (DdK Q p)
theorem pe_dd (h : PPs X pos keys values trs) (h1 : keys.all (·.isSome) = true) (h2 : keys.length = values.length) (h3 : keys ≠ []) (h4 : keys.length ≤ 15) : PE X (.Dict keys values pos) (tDd trs) := pe_disp h h1 h2 h3 h4
def DgK (x : V) (Q : VK) (y : V) (H : Hp) : Prop := ∃ a v, x = .ref a ∧ DGet H a y (some v) ∧ Q v H
def tDg (td ty : TE) : TE := fun σ H Q => td σ H fun x H1 => ty σ H1 (DgK x Q)
theorem pe_dg (hr : Room k X.A) (ho : PE X o td) (hi : PE X i ty) (hs : NoSl i) : PE X (.Subscript o i pos) (tDg td ty) := pe_dget (hu_of hr) ho hi hs
def DnK (ng : Bool) (y : V) (Q : VK) (x : V) (H : Hp) : Prop := ∃ a r, x = .ref a ∧ DGet H a y r ∧ Q (.bl (if ng then !r.isSome else r.isSome)) H
def tDn (ng : Bool) (ty td : TE) : TE := fun σ H Q => ty σ H fun y H1 => td σ H1 (DnK ng y Q)
theorem pc_in (hr : Room k X.A) (hi : PE X i ty) (ho : PE X o td) : PC X .In i o (tDn false ty td) := pc_din (hu_of hr) hi ho
theorem pc_nin (hr : Room k X.A) (hi : PE X i ty) (ho : PE X o td) : PC X .NotIn i o (tDn true ty td) := pc_dnotin (hu_of hr) hi ho
/-- o[i] = v, of a list or a dict -/
def uSet : V → V → V → Hp → (Hp → Prop) → Prop := fun o i v H Q => rSetL o i v H Q ∨ rSetD o i v H Q
theorem set_u (hr : Room k X.A) : PSet X uSet := by
  intro pi s σ H o i v ov iv u Q I ro ri rv h
  rcases h with h | h
  · exact set_list pi s σ H o i v ov iv u Q I ro ri rv h
  · exact set_dict (hu_of hr) pi s σ H o i v ov iv u Q I ro ri rv h
def PopK (a : Addr) (Q : VK) (y : V) (H : Hp) : Prop := ∃ kvs k v, H a = some (.dK kvs) ∧ y = kV k ∧ valV kvs k = some v ∧ Q v (upd H a (.dK (dropK kvs k)))
def PopJ (ty : TE) (σ : L2.St) (Q : VK) (x : V) (H : Hp) : Prop := ∃ a, x = .ref a ∧ IsD H a ∧ ty σ H (PopK a Q)
def tPop (td ty : TE) : TE := fun σ H Q => td σ H (PopJ ty σ Q)
theorem pe_pop (ho : PE X o td) (he : PE X e ty) (m : M1 X o "pop" ap e pos) : PE X (.Call (.Attribute o "pop" ap) [e] [] pos) (tPop td ty) := pe_dpop1 ho he m
def uDict : List V → Hp → VK → Prop := fun xs H Q => ∃ (a : Addr) (kvs : List (Key × V)), xs = [.ref a] ∧ Rd H a (.dK kvs) ∧ ∀ p, H p = none → Q (.ref p) (upd H p (.dK kvs))
theorem c_dict : CallR X (.type "dict") uDict := call_dictD
def uList (K : PySem.W.Frag) : List V → Hp → VK → Prop := fun xs H Q => ∃ p ys, xs = [.ref p] ∧ (SqL K H p ys ∨ SqT K H p ys) ∧ ∀ l, H l = none → Q (.ref l) (upd H l (.lst ys))
end
section
variable {K : PySem.W.Frag} {σ : L2.St} {H : Hp} {Q : VK} {D : Ends} {x y v : V} {p : Addr} {n : Int} {z : Str} {kvs ks : List (Key × V)} {td ty : TE} {trs : List (TE × TE)}
theorem s_dd (h : ∀ p H', H p = none → H' p = some (.dK []) → Kp [] H H' → tPairs trs σ H' (DdK Q p)) : tDd trs σ H Q := fun p f => h p _ f upd_same (Kp.refl.new f)
theorem s_ddk {ps : List (V × V)} (h : H p = some (.dK [])) (e : ps = kvs.map (fun kv => (kV kv.1, kv.2))) (hl : kvs.length ≤ 15) (m : mergeK [] kvs = ks) (q : ∀ H', H' p = some (.dK ks) → Kp [p] H H' → Q (.ref p) H') : DdK Q p ps H :=
  ⟨h, kvs, e, hl, by rw [m]; exact put_abs (R := fun H' => Q (.ref p) H') q⟩
theorem s_dg (h : td σ H fun x H1 => ty σ H1 (DgK x Q)) : tDg td ty σ H Q := h
theorem s_dgi (h : H p = some (.dK kvs)) (e : valV kvs (Sum.inl n : Key) = some v) (q : Q v H) : DgK (.ref p) Q (.int n) H := ⟨p, v, rfl, by rw [← e]; exact DGet.k (k := Sum.inl n) h, q⟩
theorem s_dgs (h : H p = some (.dK kvs)) (e : valV kvs (Sum.inr z : Key) = some v) (q : Q v H) : DgK (.ref p) Q (.str z) H := ⟨p, v, rfl, by rw [← e]; exact DGet.k (k := Sum.inr z) h, q⟩
theorem s_dn {ng : Bool} (h : ty σ H fun y H1 => td σ H1 (DnK ng y Q)) : tDn ng ty td σ H Q := h
theorem s_dni {ng : Bool} (h : H p = some (.dK kvs)) (q : Q (.bl (if ng then !(valV kvs (Sum.inl n : Key)).isSome else (valV kvs (Sum.inl n : Key)).isSome)) H) : DnK ng (.int n) Q (.ref p) H := ⟨p, _, rfl, DGet.k (k := Sum.inl n) h, q⟩
theorem s_dns {ng : Bool} (h : H p = some (.dK kvs)) (q : Q (.bl (if ng then !(valV kvs (Sum.inr z : Key)).isSome else (valV kvs (Sum.inr z : Key)).isSome)) H) : DnK ng (.str z) Q (.ref p) H := ⟨p, _, rfl, DGet.k (k := Sum.inr z) h, q⟩
theorem s_ul {xs ys : List V} {j : Nat} {R : Hp → Prop} (h : H p = some (.lst xs)) (hj : ixN xs.length n = some j) (e : xs.set j v = ys) (q : ∀ H', H' p = some (.lst ys) → Kp [p] H H' → R H') : uSet (.ref p) (.int n) v H R := Or.inl ⟨p, xs, n, j, rfl, rfl, h, hj, by rw [e]; exact put_abs q⟩
theorem s_uds {R : Hp → Prop} (h : H p = some (.dK kvs)) (hl : kvs.length < sizeLine) (e : putK kvs (Sum.inr z : Key) v = ks) (q : ∀ H', H' p = some (.dK ks) → Kp [p] H H' → R H') : uSet (.ref p) (.str z) v H R :=
  Or.inr ⟨p, _, rfl, DPut.k (k := Sum.inr z) h hl, by rw [e]; exact put_abs q⟩
theorem s_udi {R : Hp → Prop} (h : H p = some (.dK kvs)) (hl : kvs.length < sizeLine) (e : putK kvs (Sum.inl n : Key) v = ks) (q : ∀ H', H' p = some (.dK ks) → Kp [p] H H' → R H') : uSet (.ref p) (.int n) v H R :=
  Or.inr ⟨p, _, rfl, DPut.k (k := Sum.inl n) h hl, by rw [e]; exact put_abs q⟩
theorem s_pop (h : td σ H (PopJ ty σ Q)) : tPop td ty σ H Q := h
theorem s_popj (h : H p = some (.dK kvs)) (q : ty σ H (PopK p Q)) : PopJ ty σ Q (.ref p) H := ⟨p, rfl, Or.inl ⟨kvs, Or.inl h⟩, q⟩
theorem s_popk (h : H p = some (.dK kvs)) (e : valV kvs (Sum.inl n : Key) = some v) (m : dropK kvs (Sum.inl n : Key) = ks) (q : ∀ H', H' p = some (.dK ks) → Kp [p] H H' → Q v H') : PopK p Q (.int n) H :=
  ⟨kvs, Sum.inl n, v, h, rfl, e, by rw [m]; exact put_abs (R := fun H' => Q v H') q⟩
theorem s_dict (h : H p = some (.dK kvs)) (q : ∀ l H', H l = none → H' l = some (.dK kvs) → Kp [] H H' → Q (.ref l) H') : uDict [.ref p] H Q := ⟨p, kvs, rfl, Or.inl h, fun l f => q l _ f upd_same (Kp.refl.new f)⟩
theorem s_list {ys : List V} (h : SqL K H p ys) (q : ∀ l H', H l = none → H' l = some (.lst ys) → Kp [] H H' → Q (.ref l) H') : uList K [.ref p] H Q := ⟨p, ys, rfl, Or.inl h, fun l f => q l _ f upd_same (Kp.refl.new f)⟩
end
theorem c_list {X : Cx} {K : PySem.W.Frag} (hK : X.K = K) : CallR X (.type "list") (uList K) := hK ▸ call_list_of
end U

namespace U
open PySem L2 PySem.Spec PyProof.Rows
/-- may be shown -/
structure Sh (K : PySem.W.Frag) (H : Hp) (v : V) (d : PyData) : Prop where
  dn : Dn K H v d
  good : U.good d
  depth : d.depth ≤ 100
  sz : U.sz d ≤ 16000000
section
variable {K : PySem.W.Frag} {σ : L2.St} {H : Hp} {Q : VK} {D : Ends} {x y v : V} {p : Addr} {n : Int} {z : Str} {to te : TE} {t : TA} {r : V → List V → Hp → VK → Prop} {T : String} {xs : List V}
theorem s_rep {d : PyData} (h : Sh K H v d) (q : Q (.str d.shown) H) : rRepr K [v] H Q := ⟨v, d, rfl, h.dn, h.good, h.depth, h.sz, q⟩
theorem s_bm (h : to σ H fun x H1 => tyV K T x H1 ∧ t σ H1 fun xs H2 => r x xs H2 Q) : tBM K T r to t σ H Q := h
theorem s_bm0 (h : to σ H fun x H1 => tyV K T x H1 ∧ r x [] H1 Q) : tBM0 K T r to σ H Q := h
theorem s_tyl {R : Prop} (h : H p = some (.lst xs)) (q : R) : tyV K "list" (.ref p) H ∧ R := ⟨Or.inl ⟨rfl, xs, SqL.of h⟩, q⟩
theorem s_tys {R : Prop} (q : R) : tyV K "str" (.str z) H ∧ R := ⟨rfl, q⟩
theorem s_tyd {R : Prop} {kvs : List (Key × V)} (h : H p = some (.dK kvs)) (q : R) : tyV K "dict" (.ref p) H ∧ R := ⟨Or.inr (Or.inr (Or.inl ⟨rfl, Or.inl ⟨kvs, h⟩⟩)), q⟩
theorem s_app (h : H p = some (.lst xs)) (hz : xs.length < sizeLine) (q : ∀ H', H' p = some (.lst (xs ++ [y])) → Kp [p] H H' → Q .non H') : rAppend (.ref p) [y] H Q :=
  ⟨p, xs, y, rfl, rfl, h, hz, put_abs (R := fun H' => Q .non H') q⟩
theorem s_pnil {Q : List (V × V) → Hp → Prop} (q : Q [] H) : tPairs [] σ H Q := q
theorem s_pcons {Q : List (V × V) → Hp → Prop} {tk tv : TE} {r : List (TE × TE)} (h : tk σ H fun x H1 => tv σ H1 fun y H2 => tPairs r σ H2 fun ps H3 => Q ((x, y) :: ps) H3) : tPairs ((tk, tv) :: r) σ H Q := h
/-! a meeting of ways -/
theorem meetT {tt : TT} {Q : Bool → Hp → Prop} (R : Bool → Hp → Prop) (key : ∀ b H1, R b H1 → Q b H1) (w : (∀ b H1, R b H1 → Q b H1) → tt σ H Q) : tt σ H Q := w key
theorem meetE (R : V → Hp → Prop) (key : ∀ b H1, R b H1 → Q b H1) (w : (∀ b H1, R b H1 → Q b H1) → te σ H Q) : te σ H Q := w key
theorem meetS {t u : TS} (R : L2.St → Hp → Prop) (key : ∀ σ1 H1, R σ1 H1 → u D σ1 H1) (w : (∀ σ1 H1, R σ1 H1 → u D σ1 H1) → t { D with nx := u D } σ H) : tSeq t u D σ H := w key
theorem zlt {n : Nat} (h : n ≤ 1000000) : n < sizeLine := Nat.lt_of_le_of_lt h (by decide)
end
section
variable {K : PySem.W.Frag} {H H' : Hp}
mutual
theorem Dn.kp (k : Kp [] H H') : ∀ {v : V} {d : PyData}, Dn K H v d → Dn K H' v d
  | _, _, .non => .non
  | _, _, .bl b => .bl b
  | _, _, .int i => .int i
  | _, _, .str x => .str x
  | _, _, .lst r a => .lst (k.rd r) (DnA.kp k a)
  | _, _, .tup r a => .tup (k.sqt r) (DnA.kp k a)
  | _, _, .dic r a => .dic (k.rd r) (DnA.kp k a)
theorem DnA.kp (k : Kp [] H H') : ∀ {vs : List V} {ds : List PyData}, DnA K H vs ds → DnA K H' vs ds
  | _, _, .nil => .nil
  | _, _, .cons a b => .cons (Dn.kp k a) (DnA.kp k b)
end
theorem Sh.kp (k : Kp [] H H') {v : V} {d : PyData} (h : Sh K H v d) : Sh K H' v d := ⟨h.dn.kp k, h.good, h.depth, h.sz⟩
end
end U

namespace U
open PySem L2 PySem.Spec PyProof.Rows
section
variable {K : PySem.W.Frag} {σ : L2.St} {H H' : Hp} {Q : VK} {D : Ends} {x y v : V} {p : Addr} {n : Int} {xs vs : List V} {ps : List Addr}
theorem s_gtu {R : L2.St → Hp → Prop} {t : TGs} {k : Nat} (h : H p = some (.tup xs)) (hl : xs.length = k) (q : t xs σ H R) : gTup K k t (.ref p) σ H R := ⟨p, xs, rfl, SqT.of h, hl, q⟩
theorem s_gn {R : L2.St → Hp → Prop} (q : R σ H) : gNil [] σ H R := ⟨rfl, q⟩
theorem s_gc {R : L2.St → Hp → Prop} {t : TG} {u : TGs} (q : t v σ H fun σ1 H1 => u vs σ1 H1 R) : gCons t u (v :: vs) σ H R := ⟨v, vs, rfl, q⟩
theorem s_rng2 {ta : TA} {R : It → Hp → Prop} (h : ta σ H fun vs H1 => ∃ i j : Int, vs = [.int i, .int j] ∧ (-(2 ^ 62) ≤ i ∧ i < 2 ^ 62 ∧ -(2 ^ 62) ≤ j ∧ j < 2 ^ 62) ∧ R (Itr i (j - i).toNat) H1) : iRng2 ta σ H R := h
theorem s_rn2 {i j : Int} {R : Int → Int → Prop} (h : -(2 ^ 62) ≤ i ∧ i < 2 ^ 62 ∧ -(2 ^ 62) ≤ j ∧ j < 2 ^ 62) (q : R i j) : ∃ i' j' : Int, [V.int i, V.int j] = [.int i', .int j'] ∧ (-(2 ^ 62) ≤ i' ∧ i' < 2 ^ 62 ∧ -(2 ^ 62) ≤ j' ∧ j' < 2 ^ 62) ∧ R i' j' := ⟨i, j, rfl, h, q⟩
/-! a meeting of ways, what is behind it a letter -/
theorem jT {tt : TT} {Q : Bool → Hp → Prop} (R : Bool → Hp → Prop) (key : ∀ b H1, R b H1 → Q b H1) (w : ∀ Q' : Bool → Hp → Prop, (∀ b H1, R b H1 → Q' b H1) → tt σ H Q') : tt σ H Q := w _ key
theorem jE {te : TE} (R : V → Hp → Prop) (key : ∀ b H1, R b H1 → Q b H1) (w : ∀ Q' : VK, (∀ b H1, R b H1 → Q' b H1) → te σ H Q') : te σ H Q := w _ key
theorem jS {t u : TS} (R : L2.St → Hp → Prop) (key : ∀ σ1 H1, R σ1 H1 → u D σ1 H1) (w : ∀ u' : L2.St → Hp → Prop, (∀ σ1 H1, R σ1 H1 → u' σ1 H1) → t { D with nx := u' } σ H) : tSeq t u D σ H := w _ key
/-- no tuple -/
def Nt (H : Hp) (p : Addr) : Prop := ∀ xs, H p ≠ some (.tup xs)
theorem Nt.lst (h : H p = some (.lst xs)) : Nt H p := fun ys e => by rw [h] at e; cases e
theorem Nt.ins {C dx : Addr} {fs : List (Str × V)} (h : H p = some (.ins C dx fs)) : Nt H p := fun ys e => by rw [h] at e; cases e
theorem Nt.none (h : H p = none) : Nt H p := fun ys e => by rw [h] at e; cases e
theorem Kp.tup (k : Kp ps H H') (n : ∀ q ∈ ps, Nt H q) (e : H p = some (.tup xs)) : H' p = some (.tup xs) := k.get e fun m => n p m xs e
/-- new since -/
theorem Kp.all (k : Kp ps H H') (f : ∀ q ∈ ps, H q = none) : Kp [] H H' := fun b o e _ => k b o e fun m => by rw [f b m] at e; cases e
end
end U

namespace U
open PySem L2 PySem.Spec PyProof.Rows
/-! xs[a:] = ys -/
theorem bounds_tail {a n : Nat} (h : a ≤ n) : sliceBounds (some (a : Int)) none none n = ((a : Int), (n : Int), 1) := by
  simp only [sliceBounds, Option.getD_none]
  have h1 : ¬ ((a : Int) < 0) := by omega
  simp only [h1, if_false, show (1 : Int) > 0 by decide, if_true]
  congr 1
  omega
section
variable {prog : Program} {w : World} {A : Around} {s : Shared} {E : Value → Shared → Prop}
theorem setItem_tail {l b sl : Addr} {items new : Array Value} {n n2 : Nat} {vl : Value} {a : Nat} {Q : Unit → Shared → Prop}
    (e : s.heap.get? l = some { cls := .type "list", data := .seq items n }) (e2 : s.heap.get? b = some { cls := .type "list", data := .seq new n2 }) (hne : l ≠ b)
    (hs : s.heap.IsSliceOf sl vl .none .none) (pl : IsPart vl (some (a : Int))) (ha : a ≤ items.size) (hsz : items.size + new.size ≤ sizeLine)
    (h : Q () { s with heap := s.heap.update l (Obj.mapSeq fun xs => xs.extract 0 a ++ new ++ xs.extract items.size xs.size) }) :
    wpAny (model prog w) A (setItem (.ref l) (.ref sl) (.ref b)) Q E s := by
  have hl : s.heap.IsList l items := PySem.IsL.isList e
  have hb : s.heap.IsList b new := PySem.IsL.isList e2
  obtain ⟨os, hos, hcs, hds⟩ := id hs
  have hTs : s.TypeIs (.ref sl) "slice" := ⟨os, hos, hcs⟩
  have hsame : Builtin.List.listSameRef (.ref l) (.ref b) = false := by
    unfold Builtin.List.listSameRef
    exact beq_eq_false_iff_ne.mpr hne
  have hmax : (max (a : Int) (items.size : Int)).toNat = items.size := by omega
  have hz' : ((fun xs : Array Value => xs.extract 0 a ++ new ++ xs.extract items.size xs.size) items).size ≤ sizeLine + 1 := by
    simp only [Array.size_append, Array.size_extract]
    omega
  unfold setItem
  try with_reducible refine wpAny_holding ?_
  first | refine wpAny_bind (wpAny_pure ?_) | skip
  refine wpAny_bind (wpAny_sequenceKey hl.typeIs (by decide) ?_)
  refine wpAny_bind (wpAny_callSpecial?_slot (name := Str.ofString "__setitem__") hl.typeIs slot_list_setitem (wpAny_call_entry slot_list_setitem hl.typeIs entry_list_setitem ?_ (args_list_setitem _ _ _)))
  show wpAny _ _ (Builtin.List.listSubscript? (.ref sl) >>= _) _ _ s
  refine wpAny_bind ?_
  unfold Builtin.List.listSubscript?
  refine wpAny_bind (wpAny_specialOf hTs slice_no_index ?_)
  simp only [Option.isNone_none, if_true]
  refine wpAny_pure ?_
  show wpAny _ _ (typeOf (.ref sl) >>= _) _ _ s
  refine wpAny_bind (wpAny_typeOf hTs ?_)
  first
    | rw [if_neg (by decide)]
    | refine PySem.W.KFB.if_not (by decide) ?_
  rw [listSliceParts_eq]
  refine wpAny_bind (wpAny_bind (wpAny_field hos hds (x := .none) rfl (wpAny_bind (wpAny_listPart .none ?_))))
  rw [if_neg (show ¬ ((rawPart none == rawInt 0) = true) from Bool.false_ne_true)]
  refine wpAny_bind (wpAny_field hos hds (x := vl) rfl (wpAny_bind (wpAny_listPart pl ?_)))
  refine wpAny_bind (wpAny_field hos hds (x := .none) rfl (wpAny_bind (wpAny_listPart .none (wpAny_pure ?_))))
  first
    | simp only [hsame, Bool.false_eq_true, if_false]
    | refine PySem.W.KFB.if_not hsame ?_
    | (dsimp only
       rw [if_neg (by rw [hsame]; exact Bool.false_ne_true)])
  refine wpAny_bind (m := Builtin.List.listAllItems (.ref b) "must assign iterable to extended slice") ?_
  unfold Builtin.List.listAllItems
  refine wpAny_bind (wpAny_typeOf hb.typeIs ?_)
  first
    | refine PySem.W.KFB.if_so (by decide) ?_
    | rw [if_pos (by decide)]
    | simp only [beq_self_eq_true, Bool.true_or, if_true]
  unfold Builtin.List.listItems
  refine wpAny_bind (wpAny_seqItems e2 rfl (wpAny_pure ?_))
  refine wpAny_bind (wpAny_bind (wpAny_seqItems e rfl (wpAny_pure ?_)))
  refine wpAny_bind (wpAny_of_eq ((sliceIndices_raw (some (a : Int)) none none items.size (by simp)).trans (congrArg (pure : Int × Int × Int → Sem (Int × Int × Int)) (bounds_tail ha))) ?_)
  show wpAny _ _ (if ((1 : Int) == 1) = true then _ else _) _ _ s
  rw [if_pos (by decide)]
  refine wpAny_bind (wpAny_rule ?_)
  first
    | simp only [notLongL hsz, Bool.false_eq_true, if_false]
    | refine PySem.W.KFB.if_not (notLongL hsz) ?_
  first | refine wpAny_bind (wpAny_pure ?_) | skip
  show wpAny _ _ (updateSeq l (fun xs => xs.extract 0 ((a : Int)).toNat ++ new ++ xs.extract (max (a : Int) (items.size : Int)).toNat xs.size) >>= _) _ _ s
  rw [hmax, Int.toNat_natCast]
  refine wpAny_bind (wpAny_updateSeq (hz := Nat.le_trans (Nat.le_add_right _ _) hsz) (_hz' := hz') e rfl ?_)
  refine wpAny_bind (wpAny_letGo ?_)
  first
    | exact wpAny_bind (wpAny_pure (wpAny_pure ⟨.none, rfl, wpAny_pure h⟩))
    | exact wpAny_pure ⟨.none, rfl, wpAny_pure h⟩
end
section
variable {X : Cx} {o lo : Expr} {to tl : TE} {pos p2 : Pos}
def TlK (x v : V) (R : Hp → Prop) (y : V) (H : Hp) : Prop := ∃ (l b : Addr) (xs ys : List V) (a : Int), x = .ref l ∧ v = .ref b ∧ y = .int a ∧ H l = some (.lst xs) ∧ H b = some (.lst ys) ∧ l ≠ b ∧ 0 ≤ a ∧ a ≤ xs.length ∧ xs.length + ys.length ≤ sizeLine ∧ R (upd H l (.lst (xs.take a.toNat ++ ys)))
def gTl (to tl : TE) : TG := fun v σ H R => to σ H fun x H1 => tl σ H1 (TlK x v (R σ))
theorem pg_tail (ho : PE X o to) (hl : PE X lo tl)
    (ha : ∀ v, assign (.Subscript o (.Slice (some lo) none none p2) pos) X.env v = (do
      let ov ← holding [v] (eval o X.env)
      let iv ← holding [v, ov] (eval (.Slice (some lo) none none p2) X.env)
      standAt pos
      holding [v, ov, iv] (setItem ov iv v)
      release [iv, v, ov] []) := by intro _; rfl) : PG X (.Subscript o (.Slice (some lo) none none p2) pos) (gTl to tl) := by
  refine ⟨fun pins s σ H v u Q I r h => ?_⟩
  rw [ha]
  refine wpAny_bind (wpAny_holding (thn (ho.run pins s σ H _ I h) fun ov s1 ⟨x, H1, I1, r1, q1⟩ => ?_))
  have hpo := po_some (peMo hl)
  refine wpAny_bind (wpAny_holding (wpAny_Slice (thn (hpo.run pins s1 σ H1 (fun o H2 => ∃ a, o = some a ∧ TlK x v (Q σ) (.int a) H2) I1 ⟨_, q1, fun y H2 z => ?_⟩) fun vl s2 ⟨a0, H2, I2, pl, a, ea, q2⟩ => ?_)))
  · obtain ⟨l, b, xs, ys, a, e1, e2, rfl, z⟩ := z
    exact ⟨a, rfl, a, rfl, l, b, xs, ys, a, e1, e2, rfl, z⟩
  subst ea
  refine thn (po_none.run pins s2 σ H2 (fun o H3 => o = none ∧ H3 = H2) I2 ⟨rfl, rfl⟩) fun vu s3 ⟨u', H3, I3, pu, eu, e3⟩ => ?_
  subst eu
  subst e3
  cases pu
  rw [evalPart_none]
  refine wpAny_pure ?_
  have I4 : Inv X pins σ H3 { s3 with heap := s3.heap.push { cls := .type "slice", data := .fields #[vl, .none, .none] } } := I3.kept (t' := s3.toks) fun b ob q => Heap.get?_push_of_some _ q
  obtain ⟨l, b, xs, ys, a', rfl, rfl, ea, hH, hB, hne, h0, h1, hz, q⟩ := q2
  cases ea
  cases r1
  cases r
  obtain ⟨z, its, n, rr, hl', e⟩ := I4.lstM hH
  obtain ⟨z2, its2, n2, r2, hl2, e2⟩ := I4.lstM hB
  obtain ⟨a', rfl⟩ := Int.eq_ofNat_of_zero_le h0
  simp only [Int.toNat_natCast] at q
  refine wpAny_bind (wpAny_standAt (wpAny_bind (wpAny_holding (setItem_tail (a := a') e e2 hne (Heap.IsSliceOf.new ..) pl (by rw [List.size_toArray]; omega) (by rw [List.size_toArray, List.size_toArray]; omega) ?_))))
  refine wpAny_release ⟨σ, _, I4.lset (its' := its.take a' ++ its2) (t' := s3.toks) hH e ?_ ((rr.take _).append r2) ?_, q⟩
  · have := splice_eq its its2 a' its.length
    rw [List.drop_length, List.append_nil] at this
    rw [List.size_toArray]
    exact this
  · rw [List.length_append, List.length_take]
    omega
section
variable {σ : L2.St} {H : Hp} {v x y : V} {l b : Addr} {xs ys zs : List V} {a : Int}
theorem s_tl {R : L2.St → Hp → Prop} (h : to σ H fun x H1 => tl σ H1 (TlK x v (R σ))) : gTl to tl v σ H R := h
theorem s_tlk {R : Hp → Prop} (h1 : H l = some (.lst xs)) (h2 : H b = some (.lst ys)) (n : l ≠ b) (h0 : 0 ≤ a) (ha : a ≤ xs.length) (hz : xs.length + ys.length ≤ sizeLine) (e : xs.take a.toNat ++ ys = zs)
    (q : ∀ H', H' l = some (.lst zs) → Kp [l] H H' → R H') : TlK (.ref l) (.ref b) R (.int a) H := ⟨l, b, xs, ys, a, rfl, rfl, rfl, h1, h2, n, h0, ha, hz, by rw [e]; exact put_abs q⟩
end
end
end U

local macro_rules | `(tactic| walk_at "u1") => `(tactic| first
  | with_reducible refine' U.s_seq ?_
  | with_reducible refine' U.s_asg ?_
  | with_reducible refine' U.s_name ?_
  | with_reducible refine' U.s_ret ?_
  | with_reducible refine' U.s_next ?_
  | ((with_reducible show L2.Ends.nx _ _ _); dsimp only)
  | ((with_reducible show L2.Ends.rt _ _ _); dsimp only)
  | ((with_reducible show L2.Ends.bk _ _ _); dsimp only)
  | ((with_reducible show L2.Ends.ct _ _ _); dsimp only)
  | with_reducible refine' U.s_brk ?_
  | with_reducible refine' U.s_cnt ?_
  | with_reducible refine' U.s_retN ?_
  | with_reducible refine' U.s_drop ?_
  | with_reducible refine' U.s_ifS ?_
  | with_reducible refine' U.s_op ?_
  | with_reducible refine' U.s_c ?_
  | ((with_reducible refine' U.s_var ?uvh ?_); (case uvh => exact rfl))
  | with_reducible refine' U.s_un ?_
  | with_reducible refine' U.s_neg ?_
  | with_reducible refine' U.s_test ?_
  | with_reducible refine' U.s_B ?_
  | with_reducible refine' U.s_bl ?_
  | with_reducible refine' U.s_chain ?_
  | with_reducible refine' U.s_and ?_
  | with_reducible refine' U.s_or ?_
  | with_reducible refine' U.s_not ?_
  | with_reducible refine' U.s_andV ?_
  | with_reducible refine' U.s_orV ?_
  | with_reducible refine' U.s_notV ?_
  | with_reducible refine' U.s_if ?_
  | with_reducible refine' U.s_add ?_
  | with_reducible refine' U.s_sub ?_
  | with_reducible refine' U.s_lt ?_
  | with_reducible refine' U.s_le ?_
  | with_reducible refine' U.s_gt ?_
  | with_reducible refine' U.s_ge ?_
  | with_reducible refine' U.s_eqi ?_
  | with_reducible refine' U.s_nei ?_
  | with_reducible refine' U.s_eqs ?_
  | with_reducible refine' U.s_nes ?_
  | with_reducible refine' U.s_in1 ?_
  | with_reducible refine' U.s_notin1 ?_
  | with_reducible refine' U.s_is ?_
  | with_reducible refine' U.s_isnot ?_
  | with_reducible refine' U.s_nil ?_
  | with_reducible refine' U.s_cons ?_
  | with_reducible refine' U.s_lst ?_
  | with_reducible refine' U.s_tup ?_
  | with_reducible refine' U.s_cb ?_
  | with_reducible refine' U.s_go ?_
  | with_reducible refine' U.s_co ?_
  | with_reducible refine' U.s_mt ?_
  | with_reducible refine' U.s_nw ?_
  | with_reducible refine' U.s_fd ?_
  | with_reducible refine' U.s_sd ?_
  | with_reducible refine' U.s_fa ?_
  | with_reducible refine' U.s_radd ?_
  | with_reducible refine' U.s_rsub ?_
  | with_reducible refine' U.s_xe ?_
  | with_reducible refine' U.s_se ?_
  | with_reducible refine' U.s_os ?_
  | with_reducible refine' U.s_rz ?_
  | with_reducible refine' U.s_try ?_
  | with_reducible refine' U.s_dg ?_
  | with_reducible refine' U.s_dn ?_
  | with_reducible refine' U.s_pop ?_
  | with_reducible refine' U.s_bm ?_
  | with_reducible refine' U.s_gn ?_
  | with_reducible refine' U.s_tl ?_
  | with_reducible refine' U.s_gc ?_
  | with_reducible refine' U.s_rng2 ?_
  | ((with_reducible refine' U.s_gtu ?uth ?utl ?_); (case uth => assumption); (case utl => exact rfl))
  | ((with_reducible refine' U.s_ixt ?uih ?uia ?_); (case uih => assumption); (case uia => exact rfl))
  | with_reducible refine' U.s_bm0 ?_
  | with_reducible refine' U.s_tys ?_
  | with_reducible refine' U.s_pnil ?_
  | with_reducible refine' U.s_pcons ?_
  | ((with_reducible refine' U.s_tyl ?uth ?_); (case uth => assumption))
  | ((with_reducible refine' U.s_tyd ?uth ?_); (case uth => assumption))
  | with_reducible refine' U.s_max2 ?_
  | with_reducible refine' U.s_min2 ?_
  | with_reducible refine' U.s_sub2 ?_
  | with_reducible refine' U.s_sl ?_
  | with_reducible refine' U.s_nopart ?_
  | with_reducible refine' U.s_part ?_
  | with_reducible refine' U.s_int ?_
  | with_reducible refine' U.s_m1 ?_
  | with_reducible refine' U.s_isstr ?_
  | with_reducible refine' U.s_rng1 ?_
  | with_reducible refine' U.s_ilist ?_
  | with_reducible refine' U.s_istr ?_
  | with_reducible refine' U.s_lc ?_
  | with_reducible refine' U.s_for ?_
  | with_reducible refine' U.s_istr1 ?_
  | with_reducible refine' U.s_yes ?_
  | with_reducible refine' U.s_itt ?_
  | with_reducible refine' U.s_itf ?_
  | ((with_reducible refine' U.s_ixl ?uih ?uia ?_); (case uih => assumption); (case uia => exact rfl))
  | ((with_reducible refine' U.s_ixl ?uih ?uia ?_); (case uih => exact L2.upd_same); (case uia => exact rfl))
  | ((with_reducible refine' U.s_mod ?umh ?_); (case umh => first | decide | assumption | omega))
  | ((with_reducible refine' U.s_isInt ?uty ?_); (case uty => first | assumption | exact U.TyN.int | exact U.TyN.str | exact U.TyN.non | exact U.TyN.bl | exact U.TyN.lst (by assumption) | exact U.TyN.tup (by assumption) | exact U.TyN.dic (by assumption)))
  | ((with_reducible refine' U.s_isBool ?uty ?_); (case uty => first | assumption | exact U.TyN.int | exact U.TyN.str | exact U.TyN.non | exact U.TyN.bl | exact U.TyN.lst (by assumption) | exact U.TyN.tup (by assumption) | exact U.TyN.dic (by assumption)))
  | ((with_reducible refine' U.s_isStr ?uty ?_); (case uty => first | assumption | exact U.TyN.int | exact U.TyN.str | exact U.TyN.non | exact U.TyN.bl | exact U.TyN.lst (by assumption) | exact U.TyN.tup (by assumption) | exact U.TyN.dic (by assumption)))
  | ((with_reducible refine' U.s_isList ?uty ?_); (case uty => first | assumption | exact U.TyN.int | exact U.TyN.str | exact U.TyN.non | exact U.TyN.bl | exact U.TyN.lst (by assumption) | exact U.TyN.tup (by assumption) | exact U.TyN.dic (by assumption)))
  | ((with_reducible refine' U.s_isTup ?uty ?_); (case uty => first | assumption | exact U.TyN.int | exact U.TyN.str | exact U.TyN.non | exact U.TyN.bl | exact U.TyN.lst (by assumption) | exact U.TyN.tup (by assumption) | exact U.TyN.dic (by assumption)))
  | ((with_reducible refine' U.s_isDict ?uty ?_); (case uty => first | assumption | exact U.TyN.int | exact U.TyN.str | exact U.TyN.non | exact U.TyN.bl | exact U.TyN.lst (by assumption) | exact U.TyN.tup (by assumption) | exact U.TyN.dic (by assumption)))
  | ((with_reducible refine' U.s_itT ?uit ?_); (case uit => exact rfl))
  | ((with_reducible refine' U.s_itF ?uit ?_); (case uit => exact rfl))
  | ((with_reducible refine' U.s_itT ?uit ?_); (case uit => decide +kernel))
  | ((with_reducible refine' U.s_itF ?uit ?_); (case uit => decide +kernel))
  | ((with_reducible refine' U.s_mul ?umh ?_); (case umh => first | exact U.cmulL (by omega) (by omega) | exact U.cmulR (by omega) (by omega)))
  | ((with_reducible refine' U.s_pow ?umh ?ume ?_); (case umh => exact U.cpow (by omega) (by omega) (by omega) (by omega)); (case ume => simp only [Int.reduceToNat, Int.reducePow]; exact rfl))
  | ((with_reducible refine' U.s_div ?umh ?_); (case umh => exact U.cdiv (by omega) (by omega))))
local macro_rules | `(tactic| walk_at "v1") => `(tactic| first
  | with_reducible refine' U.s_seq ?_
  | with_reducible refine' U.s_asg ?_
  | with_reducible refine' U.s_name ?_
  | with_reducible refine' U.s_ret ?_
  | with_reducible refine' U.s_next ?_
  | ((with_reducible show L2.Ends.nx _ _ _); dsimp only)
  | ((with_reducible show L2.Ends.rt _ _ _); dsimp only)
  | ((with_reducible show L2.Ends.bk _ _ _); dsimp only)
  | ((with_reducible show L2.Ends.ct _ _ _); dsimp only)
  | with_reducible refine' U.s_brk ?_
  | with_reducible refine' U.s_cnt ?_
  | with_reducible refine' U.s_retN ?_
  | with_reducible refine' U.s_drop ?_
  | with_reducible refine' U.s_ifS ?_
  | with_reducible refine' U.s_op ?_
  | with_reducible refine' U.s_c ?_
  | ((with_reducible refine' U.s_var ?uvh ?_); (case uvh => exact rfl))
  | with_reducible refine' U.s_un ?_
  | with_reducible refine' U.s_neg ?_
  | with_reducible refine' U.s_test ?_
  | with_reducible refine' U.s_B ?_
  | with_reducible refine' U.s_bl ?_
  | with_reducible refine' U.s_not ?_
  | with_reducible refine' U.s_notV ?_
  | with_reducible refine' U.s_if ?_
  | with_reducible refine' U.s_add ?_
  | with_reducible refine' U.s_sub ?_
  | with_reducible refine' U.s_lt ?_
  | with_reducible refine' U.s_le ?_
  | with_reducible refine' U.s_gt ?_
  | with_reducible refine' U.s_ge ?_
  | with_reducible refine' U.s_eqi ?_
  | with_reducible refine' U.s_nei ?_
  | with_reducible refine' U.s_eqs ?_
  | with_reducible refine' U.s_nes ?_
  | with_reducible refine' U.s_in1 ?_
  | with_reducible refine' U.s_notin1 ?_
  | with_reducible refine' U.s_is ?_
  | with_reducible refine' U.s_isnot ?_
  | with_reducible refine' U.s_nil ?_
  | with_reducible refine' U.s_cons ?_
  | with_reducible refine' U.s_lst ?_
  | with_reducible refine' U.s_tup ?_
  | with_reducible refine' U.s_cb ?_
  | with_reducible refine' U.s_go ?_
  | with_reducible refine' U.s_co ?_
  | with_reducible refine' U.s_mt ?_
  | with_reducible refine' U.s_nw ?_
  | with_reducible refine' U.s_fd ?_
  | with_reducible refine' U.s_sd ?_
  | with_reducible refine' U.s_fa ?_
  | with_reducible refine' U.s_radd ?_
  | with_reducible refine' U.s_rsub ?_
  | with_reducible refine' U.s_xe ?_
  | with_reducible refine' U.s_se ?_
  | with_reducible refine' U.s_os ?_
  | with_reducible refine' U.s_rz ?_
  | with_reducible refine' U.s_try ?_
  | with_reducible refine' U.s_dg ?_
  | with_reducible refine' U.s_dn ?_
  | with_reducible refine' U.s_pop ?_
  | with_reducible refine' U.s_bm ?_
  | with_reducible refine' U.s_gn ?_
  | with_reducible refine' U.s_tl ?_
  | with_reducible refine' U.s_gc ?_
  | with_reducible refine' U.s_rng2 ?_
  | ((with_reducible refine' U.s_gtu ?uth ?utl ?_); (case uth => assumption); (case utl => exact rfl))
  | ((with_reducible refine' U.s_ixt ?uih ?uia ?_); (case uih => assumption); (case uia => exact rfl))
  | with_reducible refine' U.s_bm0 ?_
  | with_reducible refine' U.s_tys ?_
  | with_reducible refine' U.s_pnil ?_
  | with_reducible refine' U.s_pcons ?_
  | ((with_reducible refine' U.s_tyl ?uth ?_); (case uth => assumption))
  | ((with_reducible refine' U.s_tyd ?uth ?_); (case uth => assumption))
  | with_reducible refine' U.s_max2 ?_
  | with_reducible refine' U.s_min2 ?_
  | with_reducible refine' U.s_sub2 ?_
  | with_reducible refine' U.s_sl ?_
  | with_reducible refine' U.s_nopart ?_
  | with_reducible refine' U.s_part ?_
  | with_reducible refine' U.s_int ?_
  | with_reducible refine' U.s_m1 ?_
  | with_reducible refine' U.s_isstr ?_
  | with_reducible refine' U.s_rng1 ?_
  | with_reducible refine' U.s_ilist ?_
  | with_reducible refine' U.s_istr ?_
  | with_reducible refine' U.s_lc ?_
  | with_reducible refine' U.s_for ?_
  | with_reducible refine' U.s_istr1 ?_
  | with_reducible refine' U.s_yes ?_
  | with_reducible refine' U.s_itt ?_
  | with_reducible refine' U.s_itf ?_
  | ((with_reducible refine' U.s_ixl ?uih ?uia ?_); (case uih => assumption); (case uia => exact rfl))
  | ((with_reducible refine' U.s_ixl ?uih ?uia ?_); (case uih => exact L2.upd_same); (case uia => exact rfl))
  | ((with_reducible refine' U.s_mod ?umh ?_); (case umh => first | decide | assumption | omega))
  | ((with_reducible refine' U.s_isInt ?uty ?_); (case uty => first | assumption | exact U.TyN.int | exact U.TyN.str | exact U.TyN.non | exact U.TyN.bl | exact U.TyN.lst (by assumption) | exact U.TyN.tup (by assumption) | exact U.TyN.dic (by assumption)))
  | ((with_reducible refine' U.s_isBool ?uty ?_); (case uty => first | assumption | exact U.TyN.int | exact U.TyN.str | exact U.TyN.non | exact U.TyN.bl | exact U.TyN.lst (by assumption) | exact U.TyN.tup (by assumption) | exact U.TyN.dic (by assumption)))
  | ((with_reducible refine' U.s_isStr ?uty ?_); (case uty => first | assumption | exact U.TyN.int | exact U.TyN.str | exact U.TyN.non | exact U.TyN.bl | exact U.TyN.lst (by assumption) | exact U.TyN.tup (by assumption) | exact U.TyN.dic (by assumption)))
  | ((with_reducible refine' U.s_isList ?uty ?_); (case uty => first | assumption | exact U.TyN.int | exact U.TyN.str | exact U.TyN.non | exact U.TyN.bl | exact U.TyN.lst (by assumption) | exact U.TyN.tup (by assumption) | exact U.TyN.dic (by assumption)))
  | ((with_reducible refine' U.s_isTup ?uty ?_); (case uty => first | assumption | exact U.TyN.int | exact U.TyN.str | exact U.TyN.non | exact U.TyN.bl | exact U.TyN.lst (by assumption) | exact U.TyN.tup (by assumption) | exact U.TyN.dic (by assumption)))
  | ((with_reducible refine' U.s_isDict ?uty ?_); (case uty => first | assumption | exact U.TyN.int | exact U.TyN.str | exact U.TyN.non | exact U.TyN.bl | exact U.TyN.lst (by assumption) | exact U.TyN.tup (by assumption) | exact U.TyN.dic (by assumption)))
  | ((with_reducible refine' U.s_itT ?uit ?_); (case uit => exact rfl))
  | ((with_reducible refine' U.s_itF ?uit ?_); (case uit => exact rfl))
  | ((with_reducible refine' U.s_itT ?uit ?_); (case uit => decide +kernel))
  | ((with_reducible refine' U.s_itF ?uit ?_); (case uit => decide +kernel))
  | ((with_reducible refine' U.s_mul ?umh ?_); (case umh => first | exact U.cmulL (by omega) (by omega) | exact U.cmulR (by omega) (by omega)))
  | ((with_reducible refine' U.s_pow ?umh ?ume ?_); (case umh => exact U.cpow (by omega) (by omega) (by omega) (by omega)); (case ume => simp only [Int.reduceToNat, Int.reducePow]; exact rfl))
  | ((with_reducible refine' U.s_div ?umh ?_); (case umh => exact U.cdiv (by omega) (by omega))))
local macro_rules | `(tactic| walk_at "w1") => `(tactic| first
  | with_reducible refine' U.s_seq ?_
  | with_reducible refine' U.s_asg ?_
  | with_reducible refine' U.s_name ?_
  | with_reducible refine' U.s_ret ?_
  | with_reducible refine' U.s_next ?_
  | ((with_reducible show L2.Ends.nx _ _ _); dsimp only)
  | ((with_reducible show L2.Ends.rt _ _ _); dsimp only)
  | ((with_reducible show L2.Ends.bk _ _ _); dsimp only)
  | ((with_reducible show L2.Ends.ct _ _ _); dsimp only)
  | with_reducible refine' U.s_brk ?_
  | with_reducible refine' U.s_cnt ?_
  | with_reducible refine' U.s_retN ?_
  | with_reducible refine' U.s_drop ?_
  | with_reducible refine' U.s_op ?_
  | with_reducible refine' U.s_c ?_
  | ((with_reducible refine' U.s_var ?uvh ?_); (case uvh => exact rfl))
  | with_reducible refine' U.s_un ?_
  | with_reducible refine' U.s_neg ?_
  | with_reducible refine' U.s_test ?_
  | with_reducible refine' U.s_B ?_
  | with_reducible refine' U.s_bl ?_
  | with_reducible refine' U.s_not ?_
  | with_reducible refine' U.s_notV ?_
  | with_reducible refine' U.s_if ?_
  | with_reducible refine' U.s_add ?_
  | with_reducible refine' U.s_sub ?_
  | with_reducible refine' U.s_lt ?_
  | with_reducible refine' U.s_le ?_
  | with_reducible refine' U.s_gt ?_
  | with_reducible refine' U.s_ge ?_
  | with_reducible refine' U.s_eqi ?_
  | with_reducible refine' U.s_nei ?_
  | with_reducible refine' U.s_eqs ?_
  | with_reducible refine' U.s_nes ?_
  | with_reducible refine' U.s_in1 ?_
  | with_reducible refine' U.s_notin1 ?_
  | with_reducible refine' U.s_is ?_
  | with_reducible refine' U.s_isnot ?_
  | with_reducible refine' U.s_nil ?_
  | with_reducible refine' U.s_cons ?_
  | with_reducible refine' U.s_lst ?_
  | with_reducible refine' U.s_tup ?_
  | with_reducible refine' U.s_cb ?_
  | with_reducible refine' U.s_go ?_
  | with_reducible refine' U.s_co ?_
  | with_reducible refine' U.s_mt ?_
  | with_reducible refine' U.s_nw ?_
  | with_reducible refine' U.s_fd ?_
  | with_reducible refine' U.s_sd ?_
  | with_reducible refine' U.s_fa ?_
  | with_reducible refine' U.s_radd ?_
  | with_reducible refine' U.s_rsub ?_
  | with_reducible refine' U.s_xe ?_
  | with_reducible refine' U.s_se ?_
  | with_reducible refine' U.s_os ?_
  | with_reducible refine' U.s_rz ?_
  | with_reducible refine' U.s_try ?_
  | with_reducible refine' U.s_dg ?_
  | with_reducible refine' U.s_dn ?_
  | with_reducible refine' U.s_pop ?_
  | with_reducible refine' U.s_bm ?_
  | with_reducible refine' U.s_gn ?_
  | with_reducible refine' U.s_tl ?_
  | with_reducible refine' U.s_gc ?_
  | with_reducible refine' U.s_rng2 ?_
  | ((with_reducible refine' U.s_gtu ?uth ?utl ?_); (case uth => assumption); (case utl => exact rfl))
  | ((with_reducible refine' U.s_ixt ?uih ?uia ?_); (case uih => assumption); (case uia => exact rfl))
  | with_reducible refine' U.s_bm0 ?_
  | with_reducible refine' U.s_tys ?_
  | with_reducible refine' U.s_pnil ?_
  | with_reducible refine' U.s_pcons ?_
  | ((with_reducible refine' U.s_tyl ?uth ?_); (case uth => assumption))
  | ((with_reducible refine' U.s_tyd ?uth ?_); (case uth => assumption))
  | with_reducible refine' U.s_max2 ?_
  | with_reducible refine' U.s_min2 ?_
  | with_reducible refine' U.s_sub2 ?_
  | with_reducible refine' U.s_sl ?_
  | with_reducible refine' U.s_nopart ?_
  | with_reducible refine' U.s_part ?_
  | with_reducible refine' U.s_int ?_
  | with_reducible refine' U.s_m1 ?_
  | with_reducible refine' U.s_isstr ?_
  | with_reducible refine' U.s_rng1 ?_
  | with_reducible refine' U.s_ilist ?_
  | with_reducible refine' U.s_istr ?_
  | with_reducible refine' U.s_lc ?_
  | with_reducible refine' U.s_for ?_
  | with_reducible refine' U.s_istr1 ?_
  | with_reducible refine' U.s_yes ?_
  | with_reducible refine' U.s_itt ?_
  | with_reducible refine' U.s_itf ?_
  | ((with_reducible refine' U.s_ixl ?uih ?uia ?_); (case uih => assumption); (case uia => exact rfl))
  | ((with_reducible refine' U.s_ixl ?uih ?uia ?_); (case uih => exact L2.upd_same); (case uia => exact rfl))
  | ((with_reducible refine' U.s_mod ?umh ?_); (case umh => first | decide | assumption | omega))
  | ((with_reducible refine' U.s_isInt ?uty ?_); (case uty => first | assumption | exact U.TyN.int | exact U.TyN.str | exact U.TyN.non | exact U.TyN.bl | exact U.TyN.lst (by assumption) | exact U.TyN.tup (by assumption) | exact U.TyN.dic (by assumption)))
  | ((with_reducible refine' U.s_isBool ?uty ?_); (case uty => first | assumption | exact U.TyN.int | exact U.TyN.str | exact U.TyN.non | exact U.TyN.bl | exact U.TyN.lst (by assumption) | exact U.TyN.tup (by assumption) | exact U.TyN.dic (by assumption)))
  | ((with_reducible refine' U.s_isStr ?uty ?_); (case uty => first | assumption | exact U.TyN.int | exact U.TyN.str | exact U.TyN.non | exact U.TyN.bl | exact U.TyN.lst (by assumption) | exact U.TyN.tup (by assumption) | exact U.TyN.dic (by assumption)))
  | ((with_reducible refine' U.s_isList ?uty ?_); (case uty => first | assumption | exact U.TyN.int | exact U.TyN.str | exact U.TyN.non | exact U.TyN.bl | exact U.TyN.lst (by assumption) | exact U.TyN.tup (by assumption) | exact U.TyN.dic (by assumption)))
  | ((with_reducible refine' U.s_isTup ?uty ?_); (case uty => first | assumption | exact U.TyN.int | exact U.TyN.str | exact U.TyN.non | exact U.TyN.bl | exact U.TyN.lst (by assumption) | exact U.TyN.tup (by assumption) | exact U.TyN.dic (by assumption)))
  | ((with_reducible refine' U.s_isDict ?uty ?_); (case uty => first | assumption | exact U.TyN.int | exact U.TyN.str | exact U.TyN.non | exact U.TyN.bl | exact U.TyN.lst (by assumption) | exact U.TyN.tup (by assumption) | exact U.TyN.dic (by assumption)))
  | ((with_reducible refine' U.s_itT ?uit ?_); (case uit => exact rfl))
  | ((with_reducible refine' U.s_itF ?uit ?_); (case uit => exact rfl))
  | ((with_reducible refine' U.s_itT ?uit ?_); (case uit => decide +kernel))
  | ((with_reducible refine' U.s_itF ?uit ?_); (case uit => decide +kernel))
  | ((with_reducible refine' U.s_mul ?umh ?_); (case umh => first | exact U.cmulL (by omega) (by omega) | exact U.cmulR (by omega) (by omega)))
  | ((with_reducible refine' U.s_pow ?umh ?ume ?_); (case umh => exact U.cpow (by omega) (by omega) (by omega) (by omega)); (case ume => simp only [Int.reduceToNat, Int.reducePow]; exact rfl))
  | ((with_reducible refine' U.s_div ?umh ?_); (case umh => exact U.cdiv (by omega) (by omega))))
local macro_rules | `(tactic| walk_at "s1") => `(tactic| first
  | with_reducible refine' U.s_asg ?_
  | with_reducible refine' U.s_name ?_
  | with_reducible refine' U.s_ret ?_
  | with_reducible refine' U.s_next ?_
  | ((with_reducible show L2.Ends.nx _ _ _); dsimp only)
  | ((with_reducible show L2.Ends.rt _ _ _); dsimp only)
  | ((with_reducible show L2.Ends.bk _ _ _); dsimp only)
  | ((with_reducible show L2.Ends.ct _ _ _); dsimp only)
  | with_reducible refine' U.s_brk ?_
  | with_reducible refine' U.s_cnt ?_
  | with_reducible refine' U.s_retN ?_
  | with_reducible refine' U.s_drop ?_
  | with_reducible refine' U.s_op ?_
  | with_reducible refine' U.s_c ?_
  | ((with_reducible refine' U.s_var ?uvh ?_); (case uvh => exact rfl))
  | with_reducible refine' U.s_un ?_
  | with_reducible refine' U.s_neg ?_
  | with_reducible refine' U.s_test ?_
  | with_reducible refine' U.s_B ?_
  | with_reducible refine' U.s_bl ?_
  | with_reducible refine' U.s_not ?_
  | with_reducible refine' U.s_notV ?_
  | with_reducible refine' U.s_if ?_
  | with_reducible refine' U.s_add ?_
  | with_reducible refine' U.s_sub ?_
  | with_reducible refine' U.s_lt ?_
  | with_reducible refine' U.s_le ?_
  | with_reducible refine' U.s_gt ?_
  | with_reducible refine' U.s_ge ?_
  | with_reducible refine' U.s_eqi ?_
  | with_reducible refine' U.s_nei ?_
  | with_reducible refine' U.s_eqs ?_
  | with_reducible refine' U.s_nes ?_
  | with_reducible refine' U.s_in1 ?_
  | with_reducible refine' U.s_notin1 ?_
  | with_reducible refine' U.s_is ?_
  | with_reducible refine' U.s_isnot ?_
  | with_reducible refine' U.s_nil ?_
  | with_reducible refine' U.s_cons ?_
  | with_reducible refine' U.s_lst ?_
  | with_reducible refine' U.s_tup ?_
  | with_reducible refine' U.s_cb ?_
  | with_reducible refine' U.s_go ?_
  | with_reducible refine' U.s_co ?_
  | with_reducible refine' U.s_mt ?_
  | with_reducible refine' U.s_nw ?_
  | with_reducible refine' U.s_fd ?_
  | with_reducible refine' U.s_sd ?_
  | with_reducible refine' U.s_fa ?_
  | with_reducible refine' U.s_radd ?_
  | with_reducible refine' U.s_rsub ?_
  | with_reducible refine' U.s_xe ?_
  | with_reducible refine' U.s_se ?_
  | with_reducible refine' U.s_os ?_
  | with_reducible refine' U.s_rz ?_
  | with_reducible refine' U.s_try ?_
  | with_reducible refine' U.s_dg ?_
  | with_reducible refine' U.s_dn ?_
  | with_reducible refine' U.s_pop ?_
  | with_reducible refine' U.s_bm ?_
  | with_reducible refine' U.s_gn ?_
  | with_reducible refine' U.s_tl ?_
  | with_reducible refine' U.s_gc ?_
  | with_reducible refine' U.s_rng2 ?_
  | ((with_reducible refine' U.s_gtu ?uth ?utl ?_); (case uth => assumption); (case utl => exact rfl))
  | ((with_reducible refine' U.s_ixt ?uih ?uia ?_); (case uih => assumption); (case uia => exact rfl))
  | with_reducible refine' U.s_bm0 ?_
  | with_reducible refine' U.s_tys ?_
  | with_reducible refine' U.s_pnil ?_
  | with_reducible refine' U.s_pcons ?_
  | ((with_reducible refine' U.s_tyl ?uth ?_); (case uth => assumption))
  | ((with_reducible refine' U.s_tyd ?uth ?_); (case uth => assumption))
  | with_reducible refine' U.s_max2 ?_
  | with_reducible refine' U.s_min2 ?_
  | with_reducible refine' U.s_sub2 ?_
  | with_reducible refine' U.s_sl ?_
  | with_reducible refine' U.s_nopart ?_
  | with_reducible refine' U.s_part ?_
  | with_reducible refine' U.s_int ?_
  | with_reducible refine' U.s_m1 ?_
  | with_reducible refine' U.s_isstr ?_
  | with_reducible refine' U.s_rng1 ?_
  | with_reducible refine' U.s_ilist ?_
  | with_reducible refine' U.s_istr ?_
  | with_reducible refine' U.s_lc ?_
  | with_reducible refine' U.s_for ?_
  | with_reducible refine' U.s_istr1 ?_
  | with_reducible refine' U.s_yes ?_
  | with_reducible refine' U.s_itt ?_
  | with_reducible refine' U.s_itf ?_
  | ((with_reducible refine' U.s_ixl ?uih ?uia ?_); (case uih => assumption); (case uia => exact rfl))
  | ((with_reducible refine' U.s_ixl ?uih ?uia ?_); (case uih => exact L2.upd_same); (case uia => exact rfl))
  | ((with_reducible refine' U.s_mod ?umh ?_); (case umh => first | decide | assumption | omega))
  | ((with_reducible refine' U.s_isInt ?uty ?_); (case uty => first | assumption | exact U.TyN.int | exact U.TyN.str | exact U.TyN.non | exact U.TyN.bl | exact U.TyN.lst (by assumption) | exact U.TyN.tup (by assumption) | exact U.TyN.dic (by assumption)))
  | ((with_reducible refine' U.s_isBool ?uty ?_); (case uty => first | assumption | exact U.TyN.int | exact U.TyN.str | exact U.TyN.non | exact U.TyN.bl | exact U.TyN.lst (by assumption) | exact U.TyN.tup (by assumption) | exact U.TyN.dic (by assumption)))
  | ((with_reducible refine' U.s_isStr ?uty ?_); (case uty => first | assumption | exact U.TyN.int | exact U.TyN.str | exact U.TyN.non | exact U.TyN.bl | exact U.TyN.lst (by assumption) | exact U.TyN.tup (by assumption) | exact U.TyN.dic (by assumption)))
  | ((with_reducible refine' U.s_isList ?uty ?_); (case uty => first | assumption | exact U.TyN.int | exact U.TyN.str | exact U.TyN.non | exact U.TyN.bl | exact U.TyN.lst (by assumption) | exact U.TyN.tup (by assumption) | exact U.TyN.dic (by assumption)))
  | ((with_reducible refine' U.s_isTup ?uty ?_); (case uty => first | assumption | exact U.TyN.int | exact U.TyN.str | exact U.TyN.non | exact U.TyN.bl | exact U.TyN.lst (by assumption) | exact U.TyN.tup (by assumption) | exact U.TyN.dic (by assumption)))
  | ((with_reducible refine' U.s_isDict ?uty ?_); (case uty => first | assumption | exact U.TyN.int | exact U.TyN.str | exact U.TyN.non | exact U.TyN.bl | exact U.TyN.lst (by assumption) | exact U.TyN.tup (by assumption) | exact U.TyN.dic (by assumption)))
  | ((with_reducible refine' U.s_itT ?uit ?_); (case uit => exact rfl))
  | ((with_reducible refine' U.s_itF ?uit ?_); (case uit => exact rfl))
  | ((with_reducible refine' U.s_itT ?uit ?_); (case uit => decide +kernel))
  | ((with_reducible refine' U.s_itF ?uit ?_); (case uit => decide +kernel))
  | ((with_reducible refine' U.s_mul ?umh ?_); (case umh => first | exact U.cmulL (by omega) (by omega) | exact U.cmulR (by omega) (by omega)))
  | ((with_reducible refine' U.s_pow ?umh ?ume ?_); (case umh => exact U.cpow (by omega) (by omega) (by omega) (by omega)); (case ume => simp only [Int.reduceToNat, Int.reducePow]; exact rfl))
  | ((with_reducible refine' U.s_div ?umh ?_); (case umh => exact U.cdiv (by omega) (by omega))))
local macro_rules | `(tactic| walk_at "s") => `(tactic| repeat (first | walk_at "s1" | walk_at "u2"))
local macro_rules | `(tactic| walk_at "w") => `(tactic| repeat (first | walk_at "w1" | walk_at "u2"))
local macro_rules | `(tactic| walk_at "v") => `(tactic| repeat (first | walk_at "v1" | walk_at "u2"))
local macro_rules | `(tactic| walk_at "u") => `(tactic| repeat (first | walk_at "u1" | walk_at "u2"))
local macro_rules | `(tactic| walk_at "na") => `(tactic| first
  | ((with_reducible refine' U.s_newl (U.zle ?unz) ?_); (case unz => simp))
  | ((with_reducible refine' U.s_newt (U.zle ?unz) ?_); (case unz => simp)))

namespace K21
open PySem L2 U
def top (i : Nat) : Stmt := PySem.Challenge.pw_onestaff_k21_locks_of_staffs.main.body.getD i (.Pass ⟨0, 0, 0, 0⟩)
abbrev s_Shut_init : Stmt := inClass (top 2) 0
abbrev N_Shut_init : List Str := ["self", "found"]
theorem sc_Shut_init : FnScope N_Shut_init ["self", "found"] (defScope s_Shut_init) := ⟨rfl, rfl, rfl, by decide +kernel, rfl, by decide +kernel, by decide +kernel⟩
abbrev s_NoRight_init : Stmt := inClass (top 3) 0
abbrev N_NoRight_init : List Str := ["self", "found"]
theorem sc_NoRight_init : FnScope N_NoRight_init ["self", "found"] (defScope s_NoRight_init) := ⟨rfl, rfl, rfl, by decide +kernel, rfl, by decide +kernel, by decide +kernel⟩
abbrev s_NotShut_init : Stmt := inClass (top 4) 0
abbrev N_NotShut_init : List Str := ["self", "found"]
theorem sc_NotShut_init : FnScope N_NotShut_init ["self", "found"] (defScope s_NotShut_init) := ⟨rfl, rfl, rfl, by decide +kernel, rfl, by decide +kernel, by decide +kernel⟩
abbrev s_is_whole : Stmt := top 6
abbrev N_is_whole : List Str := ["thing", "low", "high"]
theorem sc_is_whole : FnScope N_is_whole ["thing", "low", "high"] (defScope s_is_whole) := ⟨rfl, rfl, rfl, by decide +kernel, rfl, by decide +kernel, by decide +kernel⟩
abbrev s_Keeper_init : Stmt := inClass (top 9) 0
abbrev N_Keeper_init : List Str := ["self"]
theorem sc_Keeper_init : FnScope N_Keeper_init ["self"] (defScope s_Keeper_init) := ⟨rfl, rfl, rfl, by decide +kernel, rfl, by decide +kernel, by decide +kernel⟩
abbrev s_Keeper_lock : Stmt := inClass (top 9) 1
abbrev N_Keeper_lock : List Str := ["self", "to"]
theorem sc_Keeper_lock : FnScope N_Keeper_lock ["self", "to"] (defScope s_Keeper_lock) := ⟨rfl, rfl, rfl, by decide +kernel, rfl, by decide +kernel, by decide +kernel⟩
abbrev s_Keeper_locked : Stmt := inClass (top 9) 2
abbrev N_Keeper_locked : List Str := ["self"]
theorem sc_Keeper_locked : FnScope N_Keeper_locked ["self"] (defScope s_Keeper_locked) := ⟨rfl, rfl, rfl, by decide +kernel, rfl, by decide +kernel, by decide +kernel⟩
abbrev s_Keeper_is_this : Stmt := inClass (top 9) 3
abbrev N_Keeper_is_this : List Str := ["self", "number"]
theorem sc_Keeper_is_this : FnScope N_Keeper_is_this ["self", "number"] (defScope s_Keeper_is_this) := ⟨rfl, rfl, rfl, by decide +kernel, rfl, by decide +kernel, by decide +kernel⟩
abbrev s_Keeper_opens : Stmt := inClass (top 9) 4
abbrev N_Keeper_opens : List Str := ["self", "number"]
theorem sc_Keeper_opens : FnScope N_Keeper_opens ["self", "number"] (defScope s_Keeper_opens) := ⟨rfl, rfl, rfl, by decide +kernel, rfl, by decide +kernel, by decide +kernel⟩
abbrev s_Keeper_is_open : Stmt := inClass (top 9) 5
abbrev N_Keeper_is_open : List Str := ["self"]
theorem sc_Keeper_is_open : FnScope N_Keeper_is_open ["self"] (defScope s_Keeper_is_open) := ⟨rfl, rfl, rfl, by decide +kernel, rfl, by decide +kernel, by decide +kernel⟩
abbrev s_Keeper_let_go : Stmt := inClass (top 9) 6
abbrev N_Keeper_let_go : List Str := ["self"]
theorem sc_Keeper_let_go : FnScope N_Keeper_let_go ["self"] (defScope s_Keeper_let_go) := ⟨rfl, rfl, rfl, by decide +kernel, rfl, by decide +kernel, by decide +kernel⟩
abbrev s_Keeper_unlock : Stmt := inClass (top 9) 7
abbrev N_Keeper_unlock : List Str := ["self"]
theorem sc_Keeper_unlock : FnScope N_Keeper_unlock ["self"] (defScope s_Keeper_unlock) := ⟨rfl, rfl, rfl, by decide +kernel, rfl, by decide +kernel, by decide +kernel⟩
abbrev s_Keeper_ended : Stmt := inClass (top 9) 8
abbrev N_Keeper_ended : List Str := ["self", "number"]
theorem sc_Keeper_ended : FnScope N_Keeper_ended ["self", "number"] (defScope s_Keeper_ended) := ⟨rfl, rfl, rfl, by decide +kernel, rfl, by decide +kernel, by decide +kernel⟩
abbrev s_Keeper_times : Stmt := inClass (top 9) 9
abbrev N_Keeper_times : List Str := ["self"]
theorem sc_Keeper_times : FnScope N_Keeper_times ["self"] (defScope s_Keeper_times) := ⟨rfl, rfl, rfl, by decide +kernel, rfl, by decide +kernel, by decide +kernel⟩
abbrev s_Keeper_twin : Stmt := inClass (top 9) 10
abbrev N_Keeper_twin : List Str := ["self", "other"]
theorem sc_Keeper_twin : FnScope N_Keeper_twin ["self"] (defScope s_Keeper_twin) := ⟨rfl, rfl, rfl, by decide +kernel, rfl, by decide +kernel, by decide +kernel⟩
abbrev s_law_cell : Stmt := top 11
abbrev N_law_cell : List Str := ["_law_script", "_law_k"]
theorem sc_law_cell : FnScope N_law_cell ["_law_script", "_law_k"] (defScope s_law_cell) := ⟨rfl, rfl, rfl, by decide +kernel, rfl, by decide +kernel, by decide +kernel⟩
abbrev s_law_box : Stmt := top 12
abbrev N_law_box : List Str := ["_law_cell_here"]
theorem sc_law_box : FnScope N_law_box ["_law_cell_here"] (defScope s_law_box) := ⟨rfl, rfl, rfl, by decide +kernel, rfl, by decide +kernel, by decide +kernel⟩
abbrev s_law_take : Stmt := top 13
abbrev N_law_take : List Str := ["_law_box_here", "_law_many", "_law_number", "_law_digit"]
theorem sc_law_take : FnScope N_law_take ["_law_box_here", "_law_many"] (defScope s_law_take) := ⟨rfl, rfl, rfl, by decide +kernel, rfl, by decide +kernel, by decide +kernel⟩
abbrev s_law_names : Stmt := top 14
abbrev N_law_names : List Str := ["_law_box_here", "_law_many", "_law_letters", "_law_first", "_law_stem", "_law_at", "_law_k"]
theorem sc_law_names : FnScope N_law_names ["_law_box_here", "_law_many"] (defScope s_law_names) := ⟨rfl, rfl, rfl, by decide +kernel, rfl, by decide +kernel, by decide +kernel⟩
abbrev s_law_said : Stmt := top 15
abbrev N_law_said : List Str := ["_law_keeper", "_law_deed_here", "e"]
theorem sc_law_said : FnScope N_law_said ["_law_keeper", "_law_deed_here"] (defScope s_law_said) := ⟨rfl, rfl, rfl, by decide +kernel, rfl, by decide +kernel, by decide +kernel⟩
abbrev s_law_done : Stmt := top 16
abbrev N_law_done : List Str := ["_law_row", "_law_deed_here", "_law_word", "_law_thing", "_law_lock", "_law_this", "_law_opened"]
theorem sc_law_done : FnScope N_law_done ["_law_row", "_law_deed_here"] (defScope s_law_done) := ⟨rfl, rfl, rfl, by decide +kernel, rfl, by decide +kernel, by decide +kernel⟩
abbrev s_law_deed : Stmt := top 17
abbrev N_law_deed : List Str := ["_law_box_here", "_law_names_here", "_law_row", "_law_word", "_law_way", "_law_some"]
theorem sc_law_deed : FnScope N_law_deed ["_law_box_here", "_law_names_here", "_law_row"] (defScope s_law_deed) := ⟨rfl, rfl, rfl, by decide +kernel, rfl, by decide +kernel, by decide +kernel⟩
abbrev s_law_same : Stmt := top 18
abbrev N_law_same : List Str := ["_law_keepers", "_law_rows", "_law_told", "_law_keeper"]
theorem sc_law_same : FnScope N_law_same ["_law_keepers", "_law_rows"] (defScope s_law_same) := ⟨rfl, rfl, rfl, by decide +kernel, rfl, by decide +kernel, by decide +kernel⟩
abbrev s_law : Stmt := top 19
abbrev N_law : List Str := ["_law_script", "_law_box_here", "_law_names_here", "_law_keepers", "_law_rows", "_law_k", "_law_at", "_law_turn", "_law_deed_here", "_law_found"]
theorem sc_law : FnScope N_law ["_law_script"] (defScope s_law) := ⟨rfl, rfl, rfl, by decide +kernel, rfl, by decide +kernel, by decide +kernel⟩
structure Tx (K : PySem.W.Frag) (mg : Str → Option Value) where
  C_Keeper : Addr
  m_Keeper : mg "Keeper" = some (.ref C_Keeper)
  C_Shut : Addr
  m_Shut : mg "Shut" = some (.ref C_Shut)
  C_NoRight : Addr
  m_NoRight : mg "NoRight" = some (.ref C_NoRight)
  C_NotShut : Addr
  m_NotShut : mg "NotShut" = some (.ref C_NotShut)
  C_StaffError : Addr
  m_StaffError : mg "StaffError" = some (.ref C_StaffError)
  a_Shut_init : Addr
  d_Shut_init : FuncData
  F_Shut_init : Fun K "__init__" "Shut.__init__" s_Shut_init a_Shut_init d_Shut_init
  B_Shut_init : Binds K d_Shut_init ["self", "found"] []
  a_NoRight_init : Addr
  d_NoRight_init : FuncData
  F_NoRight_init : Fun K "__init__" "NoRight.__init__" s_NoRight_init a_NoRight_init d_NoRight_init
  B_NoRight_init : Binds K d_NoRight_init ["self", "found"] []
  a_NotShut_init : Addr
  d_NotShut_init : FuncData
  F_NotShut_init : Fun K "__init__" "NotShut.__init__" s_NotShut_init a_NotShut_init d_NotShut_init
  B_NotShut_init : Binds K d_NotShut_init ["self", "found"] []
  a_is_whole : Addr
  d_is_whole : FuncData
  F_is_whole : Fun K "is_whole" "is_whole" s_is_whole a_is_whole d_is_whole
  B_is_whole : Binds K d_is_whole ["thing", "low", "high"] []
  m_is_whole : mg "is_whole" = some (.ref a_is_whole)
  a_Keeper_init : Addr
  d_Keeper_init : FuncData
  F_Keeper_init : Fun K "__init__" "Keeper.__init__" s_Keeper_init a_Keeper_init d_Keeper_init
  B_Keeper_init : Binds K d_Keeper_init ["self"] []
  a_Keeper_lock : Addr
  d_Keeper_lock : FuncData
  F_Keeper_lock : Fun K "lock" "Keeper.lock" s_Keeper_lock a_Keeper_lock d_Keeper_lock
  B_Keeper_lock : Binds K d_Keeper_lock ["self", "to"] []
  a_Keeper_locked : Addr
  d_Keeper_locked : FuncData
  F_Keeper_locked : Fun K "locked" "Keeper.locked" s_Keeper_locked a_Keeper_locked d_Keeper_locked
  B_Keeper_locked : Binds K d_Keeper_locked ["self"] []
  a_Keeper_is_this : Addr
  d_Keeper_is_this : FuncData
  F_Keeper_is_this : Fun K "is_this" "Keeper.is_this" s_Keeper_is_this a_Keeper_is_this d_Keeper_is_this
  B_Keeper_is_this : Binds K d_Keeper_is_this ["self", "number"] []
  a_Keeper_opens : Addr
  d_Keeper_opens : FuncData
  F_Keeper_opens : Fun K "opens" "Keeper.opens" s_Keeper_opens a_Keeper_opens d_Keeper_opens
  B_Keeper_opens : Binds K d_Keeper_opens ["self", "number"] []
  a_Keeper_is_open : Addr
  d_Keeper_is_open : FuncData
  F_Keeper_is_open : Fun K "is_open" "Keeper.is_open" s_Keeper_is_open a_Keeper_is_open d_Keeper_is_open
  B_Keeper_is_open : Binds K d_Keeper_is_open ["self"] []
  a_Keeper_let_go : Addr
  d_Keeper_let_go : FuncData
  F_Keeper_let_go : Fun K "let_go" "Keeper.let_go" s_Keeper_let_go a_Keeper_let_go d_Keeper_let_go
  B_Keeper_let_go : Binds K d_Keeper_let_go ["self"] []
  a_Keeper_unlock : Addr
  d_Keeper_unlock : FuncData
  F_Keeper_unlock : Fun K "unlock" "Keeper.unlock" s_Keeper_unlock a_Keeper_unlock d_Keeper_unlock
  B_Keeper_unlock : Binds K d_Keeper_unlock ["self"] []
  a_Keeper_ended : Addr
  d_Keeper_ended : FuncData
  F_Keeper_ended : Fun K "ended" "Keeper.ended" s_Keeper_ended a_Keeper_ended d_Keeper_ended
  B_Keeper_ended : Binds K d_Keeper_ended ["self", "number"] []
  a_Keeper_times : Addr
  d_Keeper_times : FuncData
  F_Keeper_times : Fun K "times" "Keeper.times" s_Keeper_times a_Keeper_times d_Keeper_times
  B_Keeper_times : Binds K d_Keeper_times ["self"] []
  a_Keeper_twin : Addr
  d_Keeper_twin : FuncData
  F_Keeper_twin : Fun K "twin" "Keeper.twin" s_Keeper_twin a_Keeper_twin d_Keeper_twin
  B_Keeper_twin : Binds K d_Keeper_twin ["self"] []
  a_law_cell : Addr
  d_law_cell : FuncData
  F_law_cell : Fun K "_law_cell" "_law_cell" s_law_cell a_law_cell d_law_cell
  B_law_cell : Binds K d_law_cell ["_law_script", "_law_k"] []
  m_law_cell : mg "_law_cell" = some (.ref a_law_cell)
  a_law_box : Addr
  d_law_box : FuncData
  F_law_box : Fun K "_law_box" "_law_box" s_law_box a_law_box d_law_box
  B_law_box : Binds K d_law_box ["_law_cell_here"] []
  m_law_box : mg "_law_box" = some (.ref a_law_box)
  a_law_take : Addr
  d_law_take : FuncData
  F_law_take : Fun K "_law_take" "_law_take" s_law_take a_law_take d_law_take
  B_law_take : Binds K d_law_take ["_law_box_here", "_law_many"] []
  m_law_take : mg "_law_take" = some (.ref a_law_take)
  a_law_names : Addr
  d_law_names : FuncData
  F_law_names : Fun K "_law_names" "_law_names" s_law_names a_law_names d_law_names
  B_law_names : Binds K d_law_names ["_law_box_here", "_law_many"] []
  m_law_names : mg "_law_names" = some (.ref a_law_names)
  a_law_said : Addr
  d_law_said : FuncData
  F_law_said : Fun K "_law_said" "_law_said" s_law_said a_law_said d_law_said
  B_law_said : Binds K d_law_said ["_law_keeper", "_law_deed_here"] []
  m_law_said : mg "_law_said" = some (.ref a_law_said)
  a_law_done : Addr
  d_law_done : FuncData
  F_law_done : Fun K "_law_done" "_law_done" s_law_done a_law_done d_law_done
  B_law_done : Binds K d_law_done ["_law_row", "_law_deed_here"] []
  m_law_done : mg "_law_done" = some (.ref a_law_done)
  a_law_deed : Addr
  d_law_deed : FuncData
  F_law_deed : Fun K "_law_deed" "_law_deed" s_law_deed a_law_deed d_law_deed
  B_law_deed : Binds K d_law_deed ["_law_box_here", "_law_names_here", "_law_row"] []
  m_law_deed : mg "_law_deed" = some (.ref a_law_deed)
  a_law_same : Addr
  d_law_same : FuncData
  F_law_same : Fun K "_law_same" "_law_same" s_law_same a_law_same d_law_same
  B_law_same : Binds K d_law_same ["_law_keepers", "_law_rows"] []
  m_law_same : mg "_law_same" = some (.ref a_law_same)
  a_law : Addr
  d_law : FuncData
  F_law : Fun K "law" "law" s_law a_law d_law
  B_law : Binds K d_law ["_law_script"] []
  m_law : mg "law" = some (.ref a_law)
  cl_Keeper : Cls K C_Keeper
  mk_Keeper : Mk K C_Keeper a_Keeper_init
  na_Keeper_kept_times : NoAttr K C_Keeper "kept_times"
  na_Keeper_kept_shut : NoAttr K C_Keeper "kept_shut"
  na_Keeper_kept_open : NoAttr K C_Keeper "kept_open"
  M_Keeper_lock : Meth K C_Keeper "lock" a_Keeper_lock
  M_Keeper_locked : Meth K C_Keeper "locked" a_Keeper_locked
  M_Keeper_is_this : Meth K C_Keeper "is_this" a_Keeper_is_this
  M_Keeper_opens : Meth K C_Keeper "opens" a_Keeper_opens
  M_Keeper_is_open : Meth K C_Keeper "is_open" a_Keeper_is_open
  M_Keeper_let_go : Meth K C_Keeper "let_go" a_Keeper_let_go
  M_Keeper_unlock : Meth K C_Keeper "unlock" a_Keeper_unlock
  M_Keeper_ended : Meth K C_Keeper "ended" a_Keeper_ended
  M_Keeper_times : Meth K C_Keeper "times" a_Keeper_times
  M_Keeper_twin : Meth K C_Keeper "twin" a_Keeper_twin
  er_Shut : ErrC K C_Shut a_Shut_init "found"
  er_NoRight : ErrC K C_NoRight a_NoRight_init "found"
  er_NotShut : ErrC K C_NotShut a_NotShut_init "found"
  rd_StaffError : RdC K C_StaffError
  vi_StaffError : PySem.W.findCls K (.ref C_StaffError) (.type "type") "__init__" = some (.val (.builtin "ValueError.__init__"))
  oc_get : PySem.W.specialIn K (.builtin "object.__class__") "__get__" = some (some (.builtin "getset_descriptor.__get__"))
  oc_take : PySem.W.takesIn K (.builtin "object.__class__") = some true
  ex_Shut_Shut : PySem.W.exmOne K (.ref C_Shut) (.ref C_Shut) = some true
  ex_NotShut_Shut : PySem.W.exmOne K (.ref C_NotShut) (.ref C_Shut) = some false
  ex_NotShut_NotShut : PySem.W.exmOne K (.ref C_NotShut) (.ref C_NotShut) = some true
  ex_NoRight_Shut : PySem.W.exmOne K (.ref C_NoRight) (.ref C_Shut) = some false
  ex_NoRight_NotShut : PySem.W.exmOne K (.ref C_NoRight) (.ref C_NotShut) = some false
  ex_NoRight_NoRight : PySem.W.exmOne K (.ref C_NoRight) (.ref C_NoRight) = some true
  c_GREATEST : Value
  mc_GREATEST : mg "GREATEST" = some c_GREATEST
  rc_GREATEST : RelV (V.int 1000000000000000000000000000000) c_GREATEST
  z_bool : mg "bool" = none
  z_int : mg "int" = none
  z_isinstance : mg "isinstance" = none
  z_len : mg "len" = none
  z_list : mg "list" = none
  z_max : mg "max" = none
  z_min : mg "min" = none
  z_range : mg "range" = none
  z_repr : mg "repr" = none
  z_str : mg "str" = none
variable {P : Program} {w : World} {K : PySem.W.Frag} {mg : Str → Option Value} {base : Heap}
def fl_Keeper (x0 x1 x2 : V) : List (Str × V) := [("kept_times", x0), ("kept_shut", x1), ("kept_open", x2)]
def At_Keeper (T : Tx K mg) (H : Hp) (p : Addr) (x0 x1 x2 : V) : Prop := ∃ dx, H p = some (.ins T.C_Keeper dx (fl_Keeper x0 x1 x2))
theorem At_Keeper.kp {T : Tx K mg} {H H2 : Hp} {p : Addr} {x0 x1 x2 : V} (h : At_Keeper T H p x0 x1 x2) (k : Kp [] H H2) : At_Keeper T H2 p x0 x1 x2 := by obtain ⟨dx, e⟩ := h; exact ⟨dx, k.get0 e⟩
theorem At_Keeper.kpn {T : Tx K mg} {H H2 : Hp} {p : Addr} {ps : List Addr} {x0 x1 x2 : V} (h : At_Keeper T H p x0 x1 x2) (k : Kp ps H H2) (n : p ∉ ps) : At_Keeper T H2 p x0 x1 x2 := by obtain ⟨dx, e⟩ := h; exact ⟨dx, k.get e n⟩
theorem At_Keeper.ne {T : Tx K mg} {H : Hp} {p l : Addr} {x0 x1 x2 : V} (h : At_Keeper T H p x0 x1 x2) (n : H l = none) : l ≠ p := by obtain ⟨dx, e⟩ := h; exact (ne_of_none e n).symm
theorem At_Keeper.nel {T : Tx K mg} {H : Hp} {p l : Addr} {x0 x1 x2 : V} {xs : List V} (h : At_Keeper T H p x0 x1 x2) (n : H l = some (.lst xs)) : l ≠ p := by obtain ⟨dx, e⟩ := h; exact ne_of n e (by intro z; cases z)
theorem g_Keeper_kept_times {T : Tx K mg} {H : Hp} {p : Addr} {x0 x1 x2 : V} {Q : VK} (h : At_Keeper T H p x0 x1 x2) (q : Q x0 H) : FldK K "kept_times" Q (.ref p) H := by obtain ⟨dx, e⟩ := h; exact s_fdk e T.cl_Keeper T.na_Keeper_kept_times rfl q
theorem p_Keeper_kept_times {T : Tx K mg} {H : Hp} {p : Addr} {x0 x1 x2 y : V} {R : Hp → Prop} (h : At_Keeper T H p x0 x1 x2) (q : ∀ H2, At_Keeper T H2 p y x1 x2 → Kp [p] H H2 → R H2) : SetK K "kept_times" y R (.ref p) H := by obtain ⟨dx, e⟩ := h; exact s_sdk e T.cl_Keeper T.na_Keeper_kept_times (by simp [fl_Keeper]) (gs := fl_Keeper y x1 x2) rfl fun H2 e2 k => q H2 ⟨dx, e2⟩ k
theorem u_Keeper_kept_times {T : Tx K mg} {H : Hp} {p : Addr} {x0 x1 x2 : V} {R : Addr → Addr → V → Hp → Prop} (h : At_Keeper T H p x0 x1 x2) (q : R p T.C_Keeper x0 H) : FaK K "kept_times" R (.ref p) H := by obtain ⟨dx, e⟩ := h; exact s_fak e T.cl_Keeper T.na_Keeper_kept_times rfl q
theorem w_Keeper_kept_times {T : Tx K mg} {H : Hp} {p : Addr} {x0 x1 x2 y : V} {R : Hp → Prop} (h : At_Keeper T H p x0 x1 x2) (q : ∀ H2, At_Keeper T H2 p y x1 x2 → Kp [p] H H2 → R H2) : FbK "kept_times" p T.C_Keeper R y H := by obtain ⟨dx, e⟩ := h; exact s_fbk e (by simp [fl_Keeper]) (gs := fl_Keeper y x1 x2) rfl fun H2 e2 k => q H2 ⟨dx, e2⟩ k
theorem g_Keeper_kept_shut {T : Tx K mg} {H : Hp} {p : Addr} {x0 x1 x2 : V} {Q : VK} (h : At_Keeper T H p x0 x1 x2) (q : Q x1 H) : FldK K "kept_shut" Q (.ref p) H := by obtain ⟨dx, e⟩ := h; exact s_fdk e T.cl_Keeper T.na_Keeper_kept_shut rfl q
theorem p_Keeper_kept_shut {T : Tx K mg} {H : Hp} {p : Addr} {x0 x1 x2 y : V} {R : Hp → Prop} (h : At_Keeper T H p x0 x1 x2) (q : ∀ H2, At_Keeper T H2 p x0 y x2 → Kp [p] H H2 → R H2) : SetK K "kept_shut" y R (.ref p) H := by obtain ⟨dx, e⟩ := h; exact s_sdk e T.cl_Keeper T.na_Keeper_kept_shut (by simp [fl_Keeper]) (gs := fl_Keeper x0 y x2) rfl fun H2 e2 k => q H2 ⟨dx, e2⟩ k
theorem u_Keeper_kept_shut {T : Tx K mg} {H : Hp} {p : Addr} {x0 x1 x2 : V} {R : Addr → Addr → V → Hp → Prop} (h : At_Keeper T H p x0 x1 x2) (q : R p T.C_Keeper x1 H) : FaK K "kept_shut" R (.ref p) H := by obtain ⟨dx, e⟩ := h; exact s_fak e T.cl_Keeper T.na_Keeper_kept_shut rfl q
theorem w_Keeper_kept_shut {T : Tx K mg} {H : Hp} {p : Addr} {x0 x1 x2 y : V} {R : Hp → Prop} (h : At_Keeper T H p x0 x1 x2) (q : ∀ H2, At_Keeper T H2 p x0 y x2 → Kp [p] H H2 → R H2) : FbK "kept_shut" p T.C_Keeper R y H := by obtain ⟨dx, e⟩ := h; exact s_fbk e (by simp [fl_Keeper]) (gs := fl_Keeper x0 y x2) rfl fun H2 e2 k => q H2 ⟨dx, e2⟩ k
theorem g_Keeper_kept_open {T : Tx K mg} {H : Hp} {p : Addr} {x0 x1 x2 : V} {Q : VK} (h : At_Keeper T H p x0 x1 x2) (q : Q x2 H) : FldK K "kept_open" Q (.ref p) H := by obtain ⟨dx, e⟩ := h; exact s_fdk e T.cl_Keeper T.na_Keeper_kept_open rfl q
theorem p_Keeper_kept_open {T : Tx K mg} {H : Hp} {p : Addr} {x0 x1 x2 y : V} {R : Hp → Prop} (h : At_Keeper T H p x0 x1 x2) (q : ∀ H2, At_Keeper T H2 p x0 x1 y → Kp [p] H H2 → R H2) : SetK K "kept_open" y R (.ref p) H := by obtain ⟨dx, e⟩ := h; exact s_sdk e T.cl_Keeper T.na_Keeper_kept_open (by simp [fl_Keeper]) (gs := fl_Keeper x0 x1 y) rfl fun H2 e2 k => q H2 ⟨dx, e2⟩ k
theorem u_Keeper_kept_open {T : Tx K mg} {H : Hp} {p : Addr} {x0 x1 x2 : V} {R : Addr → Addr → V → Hp → Prop} (h : At_Keeper T H p x0 x1 x2) (q : R p T.C_Keeper x2 H) : FaK K "kept_open" R (.ref p) H := by obtain ⟨dx, e⟩ := h; exact s_fak e T.cl_Keeper T.na_Keeper_kept_open rfl q
theorem w_Keeper_kept_open {T : Tx K mg} {H : Hp} {p : Addr} {x0 x1 x2 y : V} {R : Hp → Prop} (h : At_Keeper T H p x0 x1 x2) (q : ∀ H2, At_Keeper T H2 p x0 x1 y → Kp [p] H H2 → R H2) : FbK "kept_open" p T.C_Keeper R y H := by obtain ⟨dx, e⟩ := h; exact s_fbk e (by simp [fl_Keeper]) (gs := fl_Keeper x0 x1 y) rfl fun H2 e2 k => q H2 ⟨dx, e2⟩ k
theorem k_Keeper_lock {T : Tx K mg} {H : Hp} {p : Addr} {x0 x1 x2 : V} {R : V → Hp → Prop} (h : At_Keeper T H p x0 x1 x2) (q : R (.ref p) H) : MtK T.C_Keeper "lock" R (.ref p) H := by obtain ⟨dx, e⟩ := h; exact s_mtk e rfl q
theorem k_Keeper_locked {T : Tx K mg} {H : Hp} {p : Addr} {x0 x1 x2 : V} {R : V → Hp → Prop} (h : At_Keeper T H p x0 x1 x2) (q : R (.ref p) H) : MtK T.C_Keeper "locked" R (.ref p) H := by obtain ⟨dx, e⟩ := h; exact s_mtk e rfl q
theorem k_Keeper_is_this {T : Tx K mg} {H : Hp} {p : Addr} {x0 x1 x2 : V} {R : V → Hp → Prop} (h : At_Keeper T H p x0 x1 x2) (q : R (.ref p) H) : MtK T.C_Keeper "is_this" R (.ref p) H := by obtain ⟨dx, e⟩ := h; exact s_mtk e rfl q
theorem k_Keeper_opens {T : Tx K mg} {H : Hp} {p : Addr} {x0 x1 x2 : V} {R : V → Hp → Prop} (h : At_Keeper T H p x0 x1 x2) (q : R (.ref p) H) : MtK T.C_Keeper "opens" R (.ref p) H := by obtain ⟨dx, e⟩ := h; exact s_mtk e rfl q
theorem k_Keeper_is_open {T : Tx K mg} {H : Hp} {p : Addr} {x0 x1 x2 : V} {R : V → Hp → Prop} (h : At_Keeper T H p x0 x1 x2) (q : R (.ref p) H) : MtK T.C_Keeper "is_open" R (.ref p) H := by obtain ⟨dx, e⟩ := h; exact s_mtk e rfl q
theorem k_Keeper_let_go {T : Tx K mg} {H : Hp} {p : Addr} {x0 x1 x2 : V} {R : V → Hp → Prop} (h : At_Keeper T H p x0 x1 x2) (q : R (.ref p) H) : MtK T.C_Keeper "let_go" R (.ref p) H := by obtain ⟨dx, e⟩ := h; exact s_mtk e rfl q
theorem k_Keeper_unlock {T : Tx K mg} {H : Hp} {p : Addr} {x0 x1 x2 : V} {R : V → Hp → Prop} (h : At_Keeper T H p x0 x1 x2) (q : R (.ref p) H) : MtK T.C_Keeper "unlock" R (.ref p) H := by obtain ⟨dx, e⟩ := h; exact s_mtk e rfl q
theorem k_Keeper_ended {T : Tx K mg} {H : Hp} {p : Addr} {x0 x1 x2 : V} {R : V → Hp → Prop} (h : At_Keeper T H p x0 x1 x2) (q : R (.ref p) H) : MtK T.C_Keeper "ended" R (.ref p) H := by obtain ⟨dx, e⟩ := h; exact s_mtk e rfl q
theorem k_Keeper_times {T : Tx K mg} {H : Hp} {p : Addr} {x0 x1 x2 : V} {R : V → Hp → Prop} (h : At_Keeper T H p x0 x1 x2) (q : R (.ref p) H) : MtK T.C_Keeper "times" R (.ref p) H := by obtain ⟨dx, e⟩ := h; exact s_mtk e rfl q
theorem k_Keeper_twin {T : Tx K mg} {H : Hp} {p : Addr} {x0 x1 x2 : V} {R : V → Hp → Prop} (h : At_Keeper T H p x0 x1 x2) (q : R (.ref p) H) : MtK T.C_Keeper "twin" R (.ref p) H := by obtain ⟨dx, e⟩ := h; exact s_mtk e rfl q
theorem i_Keeper_kept_times {T : Tx K mg} {H : Hp} {p dx : Addr} {x0 : V} {R : Hp → Prop} (h : H p = some (.ins T.C_Keeper dx [])) (q : ∀ H2, H2 p = some (.ins T.C_Keeper dx [("kept_times", x0)]) → Kp [p] H H2 → R H2) : SetK K "kept_times" x0 R (.ref p) H := s_sdk h T.cl_Keeper T.na_Keeper_kept_times (by simp) rfl q
theorem i_Keeper_kept_shut {T : Tx K mg} {H : Hp} {p dx : Addr} {x0 x1 : V} {R : Hp → Prop} (h : H p = some (.ins T.C_Keeper dx [("kept_times", x0)])) (q : ∀ H2, H2 p = some (.ins T.C_Keeper dx [("kept_times", x0), ("kept_shut", x1)]) → Kp [p] H H2 → R H2) : SetK K "kept_shut" x1 R (.ref p) H := s_sdk h T.cl_Keeper T.na_Keeper_kept_shut (by simp) rfl q
theorem i_Keeper_kept_open {T : Tx K mg} {H : Hp} {p dx : Addr} {x0 x1 x2 : V} {R : Hp → Prop} (h : H p = some (.ins T.C_Keeper dx [("kept_times", x0), ("kept_shut", x1)])) (q : ∀ H2, H2 p = some (.ins T.C_Keeper dx [("kept_times", x0), ("kept_shut", x1), ("kept_open", x2)]) → Kp [p] H H2 → R H2) : SetK K "kept_open" x2 R (.ref p) H := s_sdk h T.cl_Keeper T.na_Keeper_kept_open (by simp) rfl q
local macro_rules | `(tactic| walk_at "u2") => `(tactic| first
  | ((with_reducible refine' g_Keeper_kept_times ?uat ?_); (case uat => assumption))
  | ((with_reducible refine' u_Keeper_kept_times ?uat ?_); (case uat => assumption))
  | ((with_reducible refine' g_Keeper_kept_shut ?uat ?_); (case uat => assumption))
  | ((with_reducible refine' u_Keeper_kept_shut ?uat ?_); (case uat => assumption))
  | ((with_reducible refine' g_Keeper_kept_open ?uat ?_); (case uat => assumption))
  | ((with_reducible refine' u_Keeper_kept_open ?uat ?_); (case uat => assumption))
  | ((with_reducible refine' k_Keeper_lock ?uat ?_); (case uat => assumption))
  | ((with_reducible refine' k_Keeper_locked ?uat ?_); (case uat => assumption))
  | ((with_reducible refine' k_Keeper_is_this ?uat ?_); (case uat => assumption))
  | ((with_reducible refine' k_Keeper_opens ?uat ?_); (case uat => assumption))
  | ((with_reducible refine' k_Keeper_is_open ?uat ?_); (case uat => assumption))
  | ((with_reducible refine' k_Keeper_let_go ?uat ?_); (case uat => assumption))
  | ((with_reducible refine' k_Keeper_unlock ?uat ?_); (case uat => assumption))
  | ((with_reducible refine' k_Keeper_ended ?uat ?_); (case uat => assumption))
  | ((with_reducible refine' k_Keeper_times ?uat ?_); (case uat => assumption))
  | ((with_reducible refine' k_Keeper_twin ?uat ?_); (case uat => assumption)))
theorem ok_Shut_init (T : Tx K mg) : FnOk P w K mg base (L2.CX P w) 1 T.a_Shut_init T.d_Shut_init ["self", "found"] (spE T.C_Shut "found") := by
  refine T.F_Shut_init.okX sc_Shut_init (fun vs H Q E h => ?_) (fun cd A o s H vs Q E hr h => ?_)
  · obtain ⟨v0, v1, rfl, h⟩ := h; rfl
  obtain ⟨v0, v1, rfl, a, rfl, ha, k⟩ := h
  refine ⟨_, (pss_cons (ps_expr (pe_se (K := K) rfl rfl T.m_StaffError T.rd_StaffError T.vi_StaffError (pa_cons (pv 0) (pa_cons pe_str pa_nil))))
    (pss_one (ps_os (K := K) rfl (pv 0) (pv 1)))), ?_⟩
  walk_at "u"
  refine s_sek T.er_Shut.oex ha ?_
  walk_at "u"
  exact ⟨a, T.C_Shut, rfl, T.er_Shut.oex, T.er_Shut.no, ha, k⟩
theorem ok_NoRight_init (T : Tx K mg) : FnOk P w K mg base (L2.CX P w) 1 T.a_NoRight_init T.d_NoRight_init ["self", "found"] (spE T.C_NoRight "found") := by
  refine T.F_NoRight_init.okX sc_NoRight_init (fun vs H Q E h => ?_) (fun cd A o s H vs Q E hr h => ?_)
  · obtain ⟨v0, v1, rfl, h⟩ := h; rfl
  obtain ⟨v0, v1, rfl, a, rfl, ha, k⟩ := h
  refine ⟨_, (pss_cons (ps_expr (pe_se (K := K) rfl rfl T.m_StaffError T.rd_StaffError T.vi_StaffError (pa_cons (pv 0) (pa_cons pe_str pa_nil))))
    (pss_one (ps_os (K := K) rfl (pv 0) (pv 1)))), ?_⟩
  walk_at "u"
  refine s_sek T.er_NoRight.oex ha ?_
  walk_at "u"
  exact ⟨a, T.C_NoRight, rfl, T.er_NoRight.oex, T.er_NoRight.no, ha, k⟩
theorem ok_NotShut_init (T : Tx K mg) : FnOk P w K mg base (L2.CX P w) 1 T.a_NotShut_init T.d_NotShut_init ["self", "found"] (spE T.C_NotShut "found") := by
  refine T.F_NotShut_init.okX sc_NotShut_init (fun vs H Q E h => ?_) (fun cd A o s H vs Q E hr h => ?_)
  · obtain ⟨v0, v1, rfl, h⟩ := h; rfl
  obtain ⟨v0, v1, rfl, a, rfl, ha, k⟩ := h
  refine ⟨_, (pss_cons (ps_expr (pe_se (K := K) rfl rfl T.m_StaffError T.rd_StaffError T.vi_StaffError (pa_cons (pv 0) (pa_cons pe_str pa_nil))))
    (pss_one (ps_os (K := K) rfl (pv 0) (pv 1)))), ?_⟩
  walk_at "u"
  refine s_sek T.er_NotShut.oex ha ?_
  walk_at "u"
  exact ⟨a, T.C_NotShut, rfl, T.er_NotShut.oex, T.er_NotShut.no, ha, k⟩
/-- the box: a list of three numbers, the last one at most n -/
structure Box (H : Hp) (p : Addr) (n : Nat) : Prop where
  ex : ∃ a b c : Int, H p = some (.lst [.int a, .int b, .int c]) ∧ 0 ≤ a ∧ 0 ≤ b ∧ b < 2147483629 ∧ 0 ≤ c ∧ c ≤ n
/-- take: a number below many -/
def sp_law_take : Sp := sp2 fun x y H Q _ => ∃ (p : Addr) (m : Int) (n : Nat), x = .ref p ∧ y = .int m ∧ Box H p n ∧ n ≤ 1000000 ∧ 0 < m ∧ m < 10 ^ 40 ∧
  ∀ (d : Int) (H' : Hp), 0 ≤ d → d < m → Box H' p (n + 1) → Kp [p] H H' → Q (.int d) H'
set_option maxHeartbeats 16000000 in
theorem ok_law_take (T : Tx K mg) : FnOk P w K mg base (L2.CX P w) 1 T.a_law_take T.d_law_take ["_law_box_here", "_law_many"] (sp_law_take) := by
  refine T.F_law_take.okX sc_law_take (fun vs H Q E h => ?_) (fun cd A o s H vs Q E hr h => ?_)
  · obtain ⟨v0, v1, rfl, h⟩ := h; rfl
  obtain ⟨v0, v1, rfl, h⟩ := h
  obtain ⟨p, m, n, rfl, rfl, ⟨a, b, c, hp, ha, hb, hb2, hc, hc2⟩, hn, hm, hm2, k⟩ := h
  refine ⟨_, (pss_cons (ps_if (pt_cmpR o_gt (pe_ix (ix_u (K := K) rfl) (pv 0) pe_int (fun _ _ => rfl)) pe_int (nomark _))
    (pss_cons (ps_set (i := 3) sc_law_take.nd rfl (Or.inl rfl) (pe_op o_mod (pe_ix (ix_u (K := K) rfl) (pv 0) pe_int (fun _ _ => rfl)) (pv 1)))
    (pss_cons (ps_asg (pe_op o_div (pe_ix (ix_u (K := K) rfl) (pv 0) pe_int (fun _ _ => rfl)) (pv 1)) (pg_sub (pv 0) pe_int (set_u hr)))
    (pss_one (ps_ret (pv 3)))))
    pss_nil)
    (pss_cons (ps_asg (pe_op (o_add (K := K) rfl) (pe_ix (ix_u (K := K) rfl) (pv 0) pe_int (fun _ _ => rfl)) pe_int) (pg_sub (pv 0) pe_int (set_u hr)))
    (pss_cons (ps_set (i := 2) sc_law_take.nd rfl (Or.inl rfl) (pe_op o_mod (pe_op o_pow (pe_op (o_add (K := K) rfl) (pe_op (o_add (K := K) rfl) (pe_ix (ix_u (K := K) rfl) (pv 0) pe_int (fun _ _ => rfl)) (pe_op o_mul pe_int (pe_ix (ix_u (K := K) rfl) (pv 0) pe_int (fun _ _ => rfl)))) pe_int) pe_int) pe_int))
    (pss_cons (ps_set (i := 2) sc_law_take.nd rfl (Or.inl rfl) (pe_op o_mod (pe_op o_pow (pe_op (o_add (K := K) rfl) (pv 2) (pe_op o_mul pe_int (pe_ix (ix_u (K := K) rfl) (pv 0) pe_int (fun _ _ => rfl)))) pe_int) pe_int))
    (pss_one (ps_ret (pe_op o_mod (pe_op o_div (pv 2) pe_int) (pv 1)))))))), ?_⟩
  walk_at "u"
  refine s_ite (fun h0 => ?_) (fun h0 => ?_)
  · walk_at "u"
    refine s_ul hp rfl rfl fun H1 e1 k1 => ?_
    walk_at "u"
    refine k _ _ (Int.emod_nonneg _ (by omega)) (Int.emod_lt_of_pos _ hm) ⟨_, _, _, e1, Int.ediv_nonneg ha (by omega), hb, hb2, hc, by omega⟩ k1
  · walk_at "u"
    refine s_ul hp rfl rfl fun H1 e1 k1 => ?_
    walk_at "u"
    have h1 : (0 : Int) ≤ (b + 6700417 * (c + 1) + 271) ^ 5 % 2147483647 := Int.emod_nonneg _ (by omega)
    have h2 : (b + 6700417 * (c + 1) + 271) ^ 5 % 2147483647 < 2147483647 := Int.emod_lt_of_pos _ (by omega)
    generalize (b + 6700417 * (c + 1) + 271) ^ 5 % 2147483647 = y at h1 h2 ⊢
    walk_at "u"
    refine k _ _ (Int.emod_nonneg _ (by omega)) (Int.emod_lt_of_pos _ hm) ⟨_, _, _, e1, ha, hb, hb2, by omega, by omega⟩ k1
theorem c_take {p : Addr} {m : Int} {n : Nat} {H : Hp} {Q : VK} {E : XK} (hB : Box H p n) (hn : n ≤ 1000000) (h0 : 0 < m) (h1 : m < 10 ^ 40)
    (k : ∀ (d : Int) (H' : Hp), 0 ≤ d → d < m → Box H' p (n + 1) → Kp [p] H H' → Q (.int d) H') : sp_law_take [.ref p, .int m] H Q E := ⟨_, _, rfl, p, m, n, rfl, rfl, hB, hn, h0, h1, k⟩
theorem Box.new {H : Hp} {p l : Addr} {n : Nat} {o : HO} (h : Box H p n) (hl : H l = none) : Box (upd H l o) p n := by
  obtain ⟨a, b, c, e, r⟩ := h.ex
  exact ⟨a, b, c, by rw [upd_ne (ne_of_none e hl)]; exact e, r⟩
theorem Box.kp {H H' : Hp} {p : Addr} {n : Nat} (h : Box H p n) (k : Kp [] H H') : Box H' p n := by
  obtain ⟨a, b, c, e, r⟩ := h.ex
  exact ⟨a, b, c, k.get0 e, r⟩
theorem Box.kpn {H H' : Hp} {p : Addr} {ps : List Addr} {n : Nat} (h : Box H p n) (k : Kp ps H H') (z : p ∉ ps) : Box H' p n := by
  obtain ⟨a, b, c, e, r⟩ := h.ex
  exact ⟨a, b, c, k.get e z, r⟩
theorem Box.ne {H : Hp} {p l : Addr} {n : Nat} (h : Box H p n) (hl : H l = none) : l ≠ p := by
  obtain ⟨a, b, c, e, r⟩ := h.ex
  exact (ne_of_none e hl).symm
theorem Box.more {H : Hp} {p : Addr} {n m : Nat} (h : Box H p n) (e : n ≤ m) : Box H p m := by
  obtain ⟨a, b, c, e1, h1, h2, h3, h4, h5⟩ := h.ex
  exact ⟨a, b, c, e1, h1, h2, h3, h4, by omega⟩
theorem Box.put {H : Hp} {p l : Addr} {n : Nat} {o : HO} (h : Box H p n) (hl : l ≠ p) : Box (upd H l o) p n := by
  obtain ⟨a, b, c, e, r⟩ := h.ex
  exact ⟨a, b, c, by rw [upd_ne hl.symm]; exact e, r⟩
def sp_law_cell (K : PySem.W.Frag) : Sp := sp2 fun x y H Q _ => ∃ (a : Addr) (ns : List Int) (k : Int), x = .ref a ∧ y = .int k ∧ SqL K H a (ns.map V.int) ∧ 0 ≤ k ∧ k < 1000 ∧ ∀ c : Int, Q (.int c) H
set_option maxHeartbeats 16000000 in
theorem ok_law_cell (T : Tx K mg) : FnOk P w K mg base (L2.CX P w) 1 T.a_law_cell T.d_law_cell ["_law_script", "_law_k"] (sp_law_cell K) := by
  refine T.F_law_cell.okX sc_law_cell (fun vs H Q E h => ?_) (fun cd A o s H vs Q E hr h => ?_)
  · obtain ⟨v0, v1, rfl, h⟩ := h; rfl
  obtain ⟨v0, v1, rfl, h⟩ := h
  obtain ⟨a, ns, k, rfl, rfl, hS, h0, h1, q⟩ := h
  refine ⟨_, (pss_cons (ps_if (pt_cmpR o_lt (pv 1) (pe_callB (c_len (K := K) rfl) rfl T.z_len bt_len (pa_cons (pv 0) pa_nil)) (nomark _))
    (pss_one (ps_ret (pe_ix (ix_u (K := K) rfl) (pv 0) (pv 1) (fun _ _ => rfl))))
    pss_nil)
    (pss_one (ps_ret (pe_op (o_add (K := K) rfl) (pe_op o_mul pe_int (pv 1)) pe_int)))), ?_⟩
  walk_at "u"
  refine s_lenL hS ?_
  walk_at "u"
  rw [List.length_map]
  refine s_ite (fun h2 => ?_) (fun h2 => ?_)
  · walk_at "u"
    obtain ⟨z, e1, e2⟩ := at_int (xs := ns.map V.int) h0 (by rw [List.length_map]; exact h2)
    rw [List.getElem?_map] at e1
    obtain ⟨c, _, rfl⟩ := Option.map_eq_some_iff.mp e1
    refine s_ixL hS e2 ?_
    walk_at "u"
    exact q c
  · walk_at "u"
    exact q _
theorem c_cell {K : PySem.W.Frag} {a : Addr} {ns : List Int} {k : Int} {H : Hp} {Q : VK} {E : XK} (hS : SqL K H a (ns.map V.int)) (h0 : 0 ≤ k) (h1 : k < 1000) (q : ∀ c : Int, Q (.int c) H) : sp_law_cell K [.ref a, .int k] H Q E := ⟨_, _, rfl, a, ns, k, rfl, rfl, hS, h0, h1, q⟩
def sp_law_box : Sp := sp1 fun x H Q _ => ∃ (c : Int), x = .int c ∧ ∀ p H', H p = none → Kp [] H H' → Box H' p 0 → Q (.ref p) H'
set_option maxHeartbeats 16000000 in
theorem ok_law_box (T : Tx K mg) : FnOk P w K mg base (L2.CX P w) 1 T.a_law_box T.d_law_box ["_law_cell_here"] (sp_law_box) := by
  refine T.F_law_box.okX sc_law_box (fun vs H Q E h => ?_) (fun cd A o s H vs Q E hr h => ?_)
  · obtain ⟨v0, rfl, h⟩ := h; rfl
  obtain ⟨v0, rfl, h⟩ := h
  obtain ⟨c, rfl, k⟩ := h
  refine ⟨_, (pss_one (ps_ret (pe_lst (pa_cons (pe_callB (c_max rfl) rfl T.z_max bt_max (pa_cons pe_int (pa_cons (pe_op o_sub (pv 0) (pe_op o_pow pe_int pe_int)) pa_nil))) (pa_cons (pe_op o_mod (pv 0) pe_int) (pa_cons pe_int pa_nil)))))), ?_⟩
  walk_at "u"
  refine s_newl (zle (by simp)) fun p H1 hp e1 k1 => k p _ hp k1 ⟨_, _, _, e1, ?_, Int.emod_nonneg _ (by decide), Int.emod_lt_of_pos _ (by decide), Int.le_refl _, Int.le_refl _⟩
  split <;> omega
theorem c_box {c : Int} {H : Hp} {Q : VK} {E : XK} (q : ∀ p H', H p = none → Kp [] H H' → Box H' p 0 → Q (.ref p) H') : sp_law_box [.int c] H Q E := ⟨_, rfl, c, rfl, q⟩

def isWhole (v : V) (lo hi : Int) : Bool := match v with | .int i => decide (lo ≤ i) && decide (i ≤ hi) | _ => false
def sp_is_whole : Sp := sp3 fun x y z H Q _ => ∃ (lo hi : Int) (t : Kd), y = .int lo ∧ z = .int hi ∧ TyN H x t ∧ Q (.bl (isWhole x lo hi)) H
set_option maxHeartbeats 16000000 in
theorem ok_is_whole (T : Tx K mg) : FnOk P w K mg base (L2.CX P w) 1 T.a_is_whole T.d_is_whole ["thing", "low", "high"] (sp_is_whole) := by
  refine T.F_is_whole.okX sc_is_whole (fun vs H Q E h => ?_) (fun cd A o s H vs Q E hr h => ?_)
  · obtain ⟨v0, v1, v2, rfl, h⟩ := h; rfl
  obtain ⟨v0, v1, v2, rfl, h⟩ := h
  obtain ⟨lo, hi, t, rfl, rfl, ht, k⟩ := h
  refine ⟨_, (pss_one (ps_ret (pe_and (pe_callB (c_isi (K := K) rfl) rfl T.z_isinstance bt_isinstance (pa_cons (pv 0) (pa_cons (pe_ty rfl T.z_int bt_int) pa_nil))) (pe_and (pe_not (pe_callB (c_isi (K := K) rfl) rfl T.z_isinstance bt_isinstance (pa_cons (pv 0) (pa_cons (pe_ty rfl T.z_bool bt_bool) pa_nil)))) (pe_one (pe_chain o_le o_le (pv 1) (pv 0) (pv 2))))))), ?_⟩
  cases ht <;> walk_at "u"
  all_goals try exact k
  rename_i i
  refine s_ite (fun h1 => ?_) (fun h1 => ?_)
  · walk_at "u"
    have e : isWhole (V.int i) lo hi = (decide (lo ≤ i) && decide (i ≤ hi)) := rfl
    rw [e, decide_eq_true h1, Bool.true_and] at k
    exact k
  · have e : isWhole (V.int i) lo hi = (decide (lo ≤ i) && decide (i ≤ hi)) := rfl
    rw [e, decide_eq_false h1, Bool.false_and] at k
    exact k
theorem whole_int {v : V} {lo hi : Int} (h : isWhole v lo hi = true) : ∃ n, v = .int n ∧ lo ≤ n ∧ n ≤ hi := by
  cases v <;> simp_all [isWhole]
abbrev Pair := Int × Str
def VisO (H : Hp) (v : V) (o : Option Pair) : Prop := match o with
  | none => v = .non
  | some q => ∃ b, v = .ref b ∧ H b = some (.tup [.int q.1, .str q.2])
theorem VisO.kpn {H H2 : Hp} {v : V} {o : Option Pair} {ps : List Addr} (h : VisO H v o) (k : Kp ps H H2) (n : ∀ q ∈ ps, Nt H q) : VisO H2 v o := by
  cases o with
  | none => exact h
  | some q => obtain ⟨b, e, z⟩ := h; exact ⟨b, e, k.tup n z⟩
theorem At_Keeper.nt {T : Tx K mg} {H : Hp} {p : Addr} {a b c : V} (h : At_Keeper T H p a b c) : Nt H p := by obtain ⟨dx, e⟩ := h; exact Nt.ins e
theorem nt1 {H : Hp} {p : Addr} (h : Nt H p) : ∀ q ∈ [p], Nt H q := by simpa using h
def sp_Keeper_init (T : Tx K mg) : Sp := sp1 fun x H Q _ => ∃ p dx, x = .ref p ∧ H p = some (.ins T.C_Keeper dx []) ∧ ∀ H', At_Keeper T H' p (.int 0) .non (.bl false) → Kp [p] H H' → Q .non H'
set_option maxHeartbeats 16000000 in
theorem ok_Keeper_init (T : Tx K mg) : FnOk P w K mg base (L2.CX P w) 1 T.a_Keeper_init T.d_Keeper_init ["self"] (sp_Keeper_init T) := by
  refine T.F_Keeper_init.okX sc_Keeper_init (fun vs H Q E h => ?_) (fun cd A o s H vs Q E hr h => ?_)
  · obtain ⟨v0, rfl, h⟩ := h; rfl
  obtain ⟨v0, rfl, h⟩ := h
  obtain ⟨p, dx, rfl, hp, k⟩ := h
  refine ⟨_, (pss_cons (ps_fd (K := K) rfl (pv 0) pe_int rfl)
    (pss_cons (ps_fd (K := K) rfl (pv 0) pe_non rfl)
    (pss_one (ps_fd (K := K) rfl (pv 0) pe_bl rfl)))), ?_⟩
  walk_at "u"
  refine i_Keeper_kept_times hp fun H1 e1 k1 => ?_
  walk_at "u"
  refine i_Keeper_kept_shut e1 fun H2 e2 k2 => ?_
  walk_at "u"
  refine i_Keeper_kept_open e2 fun H3 e3 k3 => ?_
  walk_at "u"
  exact k _ ⟨_, e3⟩ ((k1.trans k2).trans k3)
def sp_Keeper_lock (T : Tx K mg) : Sp := sp2 fun x y H Q E => ∃ p t S O o, x = .ref p ∧ At_Keeper T H p (.int t) S O ∧ VisO H S o ∧
  (∀ q, o = some q → ∀ d H', H d = none → H' d = some (.xd [("found", .str q.2)]) → Kp [] H H' → E (.ref T.C_Shut) (some d) H') ∧
  (o = none → ∀ a H', H a = none → H' a = some (.tup [.int (t + 1), y]) → At_Keeper T H' p (.int (t + 1)) (.ref a) (.bl false) → Kp [p] H H' → Q (.int (t + 1)) H')
set_option maxHeartbeats 16000000 in
theorem ok_Keeper_lock (T : Tx K mg) : FnOk P w K mg base (L2.CX P w) 3 T.a_Keeper_lock T.d_Keeper_lock ["self", "to"] (sp_Keeper_lock T) := by
  have G_Shut_init := ok_Shut_init (P := P) (w := w) (base := base) T
  refine T.F_Keeper_lock.okX sc_Keeper_lock (fun vs H Q E h => ?_) (fun cd A o s H vs Q E hr h => ?_)
  · obtain ⟨v0, v1, rfl, h⟩ := h; rfl
  obtain ⟨v0, v1, rfl, h⟩ := h
  obtain ⟨p, t, S, O, o', rfl, hp, hS, k1, k2⟩ := h
  refine ⟨_, (pss_cons (ps_if (pt_cmpR o_isnot (pe_fd (K := K) rfl (pv 0) rfl) pe_non (nomark _))
    (pss_one (ps_rz rfl T.er_Shut.oex T.er_Shut.iC T.er_Shut.tI G_Shut_init (hr.mono (by decide)) T.B_Shut_init rfl T.m_Shut (takes_of (E := E) rfl rfl rfl rfl) (pe_ix (ix_u (K := K) rfl) (pe_fd (K := K) rfl (pv 0) rfl) pe_int (fun _ _ => rfl))))
    pss_nil)
    (pss_cons (ps_fa (K := K) rfl (pv 0) pe_int in_add)
    (pss_cons (ps_fd (K := K) rfl (pv 0) (pe_tup (pa_cons (pe_fd (K := K) rfl (pv 0) rfl) (pa_cons (pv 1) pa_nil))) rfl)
    (pss_cons (ps_fd (K := K) rfl (pv 0) pe_bl rfl)
    (pss_one (ps_ret (pe_fd (K := K) rfl (pv 0) rfl))))))), ?_⟩
  cases o' with
  | some q =>
    obtain ⟨b, rfl, eb⟩ := hS
    walk_at "u"
    exact fun d H' => k1 q rfl d H'
  | none =>
    obtain rfl : S = .non := hS
    walk_at "u"
    refine w_Keeper_kept_times hp fun H1 a1 j1 => ?_
    walk_at "u"
    walk_at "na"
    intro a H2 f2 e2 j2
    have a2 := a1.kp j2
    have na : a ≠ p := a1.ne f2
    walk_at "u"
    refine p_Keeper_kept_shut a2 fun H3 a3 j3 => ?_
    walk_at "u"
    refine p_Keeper_kept_open a3 fun H4 a4 j4 => ?_
    walk_at "u"
    exact k2 rfl a _ (j1.fresh f2 (by simpa using na)) (j4.get1 (j3.get1 e2 na) na) a4 (((j1.trans j2.nil).trans j3).trans j4)
def sp_Keeper_locked (T : Tx K mg) : Sp := sp1 fun x H Q _ => ∃ p g R N, x = .ref p ∧ At_Keeper T H p g R N ∧ Q R H
set_option maxHeartbeats 16000000 in
theorem ok_Keeper_locked (T : Tx K mg) : FnOk P w K mg base (L2.CX P w) 1 T.a_Keeper_locked T.d_Keeper_locked ["self"] (sp_Keeper_locked T) := by
  refine T.F_Keeper_locked.okX sc_Keeper_locked (fun vs H Q E h => ?_) (fun cd A o s H vs Q E hr h => ?_)
  · obtain ⟨v0, rfl, h⟩ := h; rfl
  obtain ⟨v0, rfl, h⟩ := h
  obtain ⟨p, g, R, N, rfl, hp, k⟩ := h
  refine ⟨_, (pss_one (ps_ret (pe_fd (K := K) rfl (pv 0) rfl))), ?_⟩
  walk_at "u"
  exact k
def sp_Keeper_is_open (T : Tx K mg) : Sp := sp1 fun x H Q _ => ∃ p g R N, x = .ref p ∧ At_Keeper T H p g R N ∧ Q N H
set_option maxHeartbeats 16000000 in
theorem ok_Keeper_is_open (T : Tx K mg) : FnOk P w K mg base (L2.CX P w) 1 T.a_Keeper_is_open T.d_Keeper_is_open ["self"] (sp_Keeper_is_open T) := by
  refine T.F_Keeper_is_open.okX sc_Keeper_is_open (fun vs H Q E h => ?_) (fun cd A o s H vs Q E hr h => ?_)
  · obtain ⟨v0, rfl, h⟩ := h; rfl
  obtain ⟨v0, rfl, h⟩ := h
  obtain ⟨p, g, R, N, rfl, hp, k⟩ := h
  refine ⟨_, (pss_one (ps_ret (pe_fd (K := K) rfl (pv 0) rfl))), ?_⟩
  walk_at "u"
  exact k
def sp_Keeper_times (T : Tx K mg) : Sp := sp1 fun x H Q _ => ∃ p g R N, x = .ref p ∧ At_Keeper T H p g R N ∧ Q g H
set_option maxHeartbeats 16000000 in
theorem ok_Keeper_times (T : Tx K mg) : FnOk P w K mg base (L2.CX P w) 1 T.a_Keeper_times T.d_Keeper_times ["self"] (sp_Keeper_times T) := by
  refine T.F_Keeper_times.okX sc_Keeper_times (fun vs H Q E h => ?_) (fun cd A o s H vs Q E hr h => ?_)
  · obtain ⟨v0, rfl, h⟩ := h; rfl
  obtain ⟨v0, rfl, h⟩ := h
  obtain ⟨p, g, R, N, rfl, hp, k⟩ := h
  refine ⟨_, (pss_one (ps_ret (pe_fd (K := K) rfl (pv 0) rfl))), ?_⟩
  walk_at "u"
  exact k
def isThis (o : Option Pair) (v : V) : Bool := match o with | none => false | some q => decide (v = .int q.1)
def okp (o : Option Pair) : Prop := ∀ q, o = some q → 1 ≤ q.1 ∧ q.1 ≤ 1000000 ∧ SS q.2 20
def sp_Keeper_is_this (T : Tx K mg) : Sp := sp2 fun x y H Q _ => ∃ p t S O o kd, x = .ref p ∧ At_Keeper T H p t S O ∧ VisO H S o ∧ okp o ∧ TyN H y kd ∧ Q (.bl (isThis o y)) H
set_option maxHeartbeats 16000000 in
theorem ok_Keeper_is_this (T : Tx K mg) : FnOk P w K mg base (L2.CX P w) 2 T.a_Keeper_is_this T.d_Keeper_is_this ["self", "number"] (sp_Keeper_is_this T) := by
  have G_is_whole := ok_is_whole (P := P) (w := w) (base := base) T
  refine T.F_Keeper_is_this.okX sc_Keeper_is_this (fun vs H Q E h => ?_) (fun cd A o s H vs Q E hr h => ?_)
  · obtain ⟨v0, v1, rfl, h⟩ := h; rfl
  obtain ⟨v0, v1, rfl, h⟩ := h
  obtain ⟨p, t, S, O, o', kd, rfl, hp, hS, hok, hy, k⟩ := h
  refine ⟨_, (pss_one (ps_ret (pe_and (pe_cmpR o_isnot (pe_fd (K := K) rfl (pv 0) rfl) pe_non (nomark _)) (pe_and (pe_co G_is_whole (hr.mono (by decide)) rfl T.m_is_whole T.F_is_whole.kp T.B_is_whole (takes_of (E := E) rfl rfl rfl rfl) (pa_cons (pv 1) (pa_cons pe_int (pa_cons (pe_glob rfl T.mc_GREATEST T.rc_GREATEST) pa_nil)))) (pe_one (pe_cmpR (o_eq (K := K) rfl hr) (pv 1) (pe_ix (ix_u (K := K) rfl) (pe_fd (K := K) rfl (pv 0) rfl) pe_int (fun _ _ => rfl)) (nomark _))))))), ?_⟩
  cases o' with
  | none =>
    obtain rfl : S = .non := hS
    walk_at "u"
    exact k
  | some q =>
    obtain ⟨b, rfl, eb⟩ := hS
    obtain ⟨q1, q2, _⟩ := hok q rfl
    walk_at "u"
    refine ⟨_, _, _, rfl, 1, _, kd, rfl, rfl, hy, ?_⟩
    cases e : isWhole v1 1 1000000000000000000000000000000 with
    | true =>
      obtain ⟨n, rfl, _, _⟩ := whole_int e
      walk_at "u"
      have e2 : isThis (some q) (.int n) = decide (n = q.1) := by
        show decide (V.int n = V.int q.1) = _
        exact U.dec_int
      rw [e2] at k
      exact k
    | false =>
      walk_at "u"
      have e2 : isThis (some q) v1 = false := by
        show decide (v1 = V.int q.1) = false
        refine decide_eq_false fun z => ?_
        rw [z] at e
        simp [isWhole] at e
        omega
      rw [e2] at k
      exact k
def sp_Keeper_opens (T : Tx K mg) : Sp := sp2 fun x y H Q _ => ∃ p t S b o kd, x = .ref p ∧ At_Keeper T H p t S (.bl b) ∧ VisO H S o ∧ okp o ∧ TyN H y kd ∧ ((b || !isThis o y) = true → Q (.bl false) H) ∧
  ((b || !isThis o y) = false → ∀ H', At_Keeper T H' p t S (.bl true) → Kp [p] H H' → Q (.bl true) H')
set_option maxHeartbeats 16000000 in
theorem ok_Keeper_opens (T : Tx K mg) : FnOk P w K mg base (L2.CX P w) 3 T.a_Keeper_opens T.d_Keeper_opens ["self", "number"] (sp_Keeper_opens T) := by
  have G_Keeper_is_this := ok_Keeper_is_this (P := P) (w := w) (base := base) T
  refine T.F_Keeper_opens.okX sc_Keeper_opens (fun vs H Q E h => ?_) (fun cd A o s H vs Q E hr h => ?_)
  · obtain ⟨v0, v1, rfl, h⟩ := h; rfl
  obtain ⟨v0, v1, rfl, h⟩ := h
  obtain ⟨p, t, S, b, o', kd, rfl, hp, hS, hok, hy, k1, k2⟩ := h
  refine ⟨_, (pss_cons (ps_if (PW.pt (pw_or (pt_val (pe_fd (K := K) rfl (pv 0) rfl)) (pw_or1 (pt_not (pt_val (pe_mo T.cl_Keeper T.M_Keeper_is_this G_Keeper_is_this (hr.mono (by decide)) T.B_Keeper_is_this (takes_of (E := E) rfl rfl rfl rfl) (pv 0) (pa_cons (pv 1) pa_nil)))))))
    (pss_one (ps_ret pe_bl))
    pss_nil)
    (pss_cons (ps_fd (K := K) rfl (pv 0) pe_bl rfl)
    (pss_one (ps_ret pe_bl)))), ?_⟩
  walk_at "w"
  refine s_ifS (jT (fun c H1 => H1 = H ∧ c = (b || !isThis o' v1)) (fun c H1 => ?_) (fun _ key => ?_))
  · rintro ⟨rfl, rfl⟩
    refine s_itb (fun h => ?_) (fun h => ?_)
    · walk_at "u"
      exact k1 h
    · walk_at "u"
      refine p_Keeper_kept_open hp fun H3 a3 j3 => ?_
      walk_at "u"
      exact k2 h _ a3 j3
  · walk_at "u"
    refine s_itb (fun h => ?_) (fun h => ?_)
    · exact key _ _ ⟨rfl, by rw [h]; rfl⟩
    · walk_at "u"
      refine ⟨_, _, rfl, p, _, S, _, o', kd, rfl, hp, hS, hok, hy, ?_⟩
      walk_at "u"
      exact key _ _ ⟨rfl, by rw [h]; rfl⟩
def sp_Keeper_let_go (T : Tx K mg) : Sp := sp1 fun x H Q _ => ∃ p g R N, x = .ref p ∧ At_Keeper T H p g R N ∧ ∀ H', At_Keeper T H' p g .non (.bl false) → Kp [p] H H' → Q .non H'
set_option maxHeartbeats 16000000 in
theorem ok_Keeper_let_go (T : Tx K mg) : FnOk P w K mg base (L2.CX P w) 1 T.a_Keeper_let_go T.d_Keeper_let_go ["self"] (sp_Keeper_let_go T) := by
  refine T.F_Keeper_let_go.okX sc_Keeper_let_go (fun vs H Q E h => ?_) (fun cd A o s H vs Q E hr h => ?_)
  · obtain ⟨v0, rfl, h⟩ := h; rfl
  obtain ⟨v0, rfl, h⟩ := h
  obtain ⟨p, g, R, N, rfl, hp, k⟩ := h
  refine ⟨_, (pss_cons (ps_fd (K := K) rfl (pv 0) pe_non rfl)
    (pss_one (ps_fd (K := K) rfl (pv 0) pe_bl rfl))), ?_⟩
  walk_at "u"
  refine p_Keeper_kept_shut hp fun H3 a3 j3 => ?_
  walk_at "u"
  refine p_Keeper_kept_open a3 fun H4 a4 j4 => ?_
  walk_at "u"
  exact k _ a4 (j3.trans j4)
def sp_Keeper_unlock (T : Tx K mg) : Sp := sp1 fun x H Q E => ∃ p t S b o, x = .ref p ∧ At_Keeper T H p t S (.bl b) ∧ VisO H S o ∧
  (o = none → ∀ d H', H d = none → H' d = some (.xd [("found", .non)]) → Kp [] H H' → E (.ref T.C_NotShut) (some d) H') ∧
  (∀ q, o = some q → b = false → ∀ d H', H d = none → H' d = some (.xd [("found", .int q.1)]) → Kp [] H H' → E (.ref T.C_NoRight) (some d) H') ∧
  (∀ q, o = some q → b = true → ∀ H', At_Keeper T H' p t .non (.bl false) → Kp [p] H H' → Q .non H')
set_option maxHeartbeats 16000000 in
theorem ok_Keeper_unlock (T : Tx K mg) : FnOk P w K mg base (L2.CX P w) 3 T.a_Keeper_unlock T.d_Keeper_unlock ["self"] (sp_Keeper_unlock T) := by
  have G_Keeper_let_go := ok_Keeper_let_go (P := P) (w := w) (base := base) T
  have G_NotShut_init := ok_NotShut_init (P := P) (w := w) (base := base) T
  have G_NoRight_init := ok_NoRight_init (P := P) (w := w) (base := base) T
  refine T.F_Keeper_unlock.okX sc_Keeper_unlock (fun vs H Q E h => ?_) (fun cd A o s H vs Q E hr h => ?_)
  · obtain ⟨v0, rfl, h⟩ := h; rfl
  obtain ⟨v0, rfl, h⟩ := h
  obtain ⟨p, t, S, b, o', rfl, hp, hS, k1, k2, k3⟩ := h
  refine ⟨_, (pss_cons (ps_if (pt_cmpR o_is (pe_fd (K := K) rfl (pv 0) rfl) pe_non (nomark _))
    (pss_one (ps_rz rfl T.er_NotShut.oex T.er_NotShut.iC T.er_NotShut.tI G_NotShut_init (hr.mono (by decide)) T.B_NotShut_init rfl T.m_NotShut (takes_of (E := E) rfl rfl rfl rfl) pe_non))
    pss_nil)
    (pss_cons (ps_if (pt_not (pt_val (pe_fd (K := K) rfl (pv 0) rfl)))
    (pss_one (ps_rz rfl T.er_NoRight.oex T.er_NoRight.iC T.er_NoRight.tI G_NoRight_init (hr.mono (by decide)) T.B_NoRight_init rfl T.m_NoRight (takes_of (E := E) rfl rfl rfl rfl) (pe_ix (ix_u (K := K) rfl) (pe_fd (K := K) rfl (pv 0) rfl) pe_int (fun _ _ => rfl))))
    pss_nil)
    (pss_one (ps_expr (pe_mo0 T.cl_Keeper T.M_Keeper_let_go G_Keeper_let_go (hr.mono (by decide)) T.B_Keeper_let_go (takes_of (E := E) rfl rfl rfl rfl) (pv 0)))))), ?_⟩
  cases o' with
  | none =>
    obtain rfl : S = .non := hS
    walk_at "u"
    exact fun d H' => k1 rfl d H'
  | some q =>
    obtain ⟨c, rfl, eb⟩ := hS
    cases b with
    | false =>
      walk_at "u"
      exact fun d H' => k2 q rfl rfl d H'
    | true =>
      walk_at "u"
      refine ⟨_, rfl, p, _, _, _, rfl, hp, fun H' a' j' => ?_⟩
      walk_at "u"
      exact k3 q rfl rfl H' a' j'
def sp_Keeper_ended (T : Tx K mg) : Sp := sp2 fun x y H Q E => ∃ p t S O o kd, x = .ref p ∧ At_Keeper T H p t S O ∧ VisO H S o ∧ okp o ∧ TyN H y kd ∧
  (o = none → ∀ d H', H d = none → H' d = some (.xd [("found", .non)]) → Kp [] H H' → E (.ref T.C_NotShut) (some d) H') ∧
  (∀ q, o = some q → isThis o y = false → ∀ d H', H d = none → H' d = some (.xd [("found", .int q.1)]) → Kp [] H H' → E (.ref T.C_NoRight) (some d) H') ∧
  (isThis o y = true → ∀ H', At_Keeper T H' p t .non (.bl false) → Kp [p] H H' → Q .non H')
set_option maxHeartbeats 16000000 in
theorem ok_Keeper_ended (T : Tx K mg) : FnOk P w K mg base (L2.CX P w) 3 T.a_Keeper_ended T.d_Keeper_ended ["self", "number"] (sp_Keeper_ended T) := by
  have G_Keeper_let_go := ok_Keeper_let_go (P := P) (w := w) (base := base) T
  have G_NotShut_init := ok_NotShut_init (P := P) (w := w) (base := base) T
  have G_Keeper_is_this := ok_Keeper_is_this (P := P) (w := w) (base := base) T
  have G_NoRight_init := ok_NoRight_init (P := P) (w := w) (base := base) T
  refine T.F_Keeper_ended.okX sc_Keeper_ended (fun vs H Q E h => ?_) (fun cd A o s H vs Q E hr h => ?_)
  · obtain ⟨v0, v1, rfl, h⟩ := h; rfl
  obtain ⟨v0, v1, rfl, h⟩ := h
  obtain ⟨p, t, S, O, o', kd, rfl, hp, hS, hok, hy, k1, k2, k3⟩ := h
  refine ⟨_, (pss_cons (ps_if (pt_cmpR o_is (pe_fd (K := K) rfl (pv 0) rfl) pe_non (nomark _))
    (pss_one (ps_rz rfl T.er_NotShut.oex T.er_NotShut.iC T.er_NotShut.tI G_NotShut_init (hr.mono (by decide)) T.B_NotShut_init rfl T.m_NotShut (takes_of (E := E) rfl rfl rfl rfl) pe_non))
    pss_nil)
    (pss_cons (ps_if (pt_not (pt_val (pe_mo T.cl_Keeper T.M_Keeper_is_this G_Keeper_is_this (hr.mono (by decide)) T.B_Keeper_is_this (takes_of (E := E) rfl rfl rfl rfl) (pv 0) (pa_cons (pv 1) pa_nil))))
    (pss_one (ps_rz rfl T.er_NoRight.oex T.er_NoRight.iC T.er_NoRight.tI G_NoRight_init (hr.mono (by decide)) T.B_NoRight_init rfl T.m_NoRight (takes_of (E := E) rfl rfl rfl rfl) (pe_ix (ix_u (K := K) rfl) (pe_fd (K := K) rfl (pv 0) rfl) pe_int (fun _ _ => rfl))))
    pss_nil)
    (pss_one (ps_expr (pe_mo0 T.cl_Keeper T.M_Keeper_let_go G_Keeper_let_go (hr.mono (by decide)) T.B_Keeper_let_go (takes_of (E := E) rfl rfl rfl rfl) (pv 0)))))), ?_⟩
  cases o' with
  | none =>
    obtain rfl : S = .non := hS
    walk_at "u"
    exact fun d H' => k1 rfl d H'
  | some q =>
    have hS' := hS
    obtain ⟨c, rfl, eb⟩ := hS
    walk_at "u"
    refine ⟨_, _, rfl, p, _, _, _, some q, kd, rfl, hp, hS', hok, hy, ?_⟩
    cases e : isThis (some q) v1 with
    | false =>
      walk_at "u"
      exact fun d H' => k2 q rfl e d H'
    | true =>
      walk_at "u"
      refine ⟨_, rfl, p, _, _, _, rfl, hp, fun H' a' j' => ?_⟩
      walk_at "u"
      exact k3 e H' a' j'
def sp_Keeper_twin (T : Tx K mg) : Sp := sp1 fun x H Q _ => ∃ p g R N, x = .ref p ∧ At_Keeper T H p g R N ∧ ∀ q H', H q = none → At_Keeper T H' q g R N → Kp [] H H' → Q (.ref q) H'
set_option maxHeartbeats 16000000 in
theorem ok_Keeper_twin (T : Tx K mg) : FnOk P w K mg base (L2.CX P w) 3 T.a_Keeper_twin T.d_Keeper_twin ["self"] (sp_Keeper_twin T) := by
  have G_Keeper_init := ok_Keeper_init (P := P) (w := w) (base := base) T
  refine T.F_Keeper_twin.okX sc_Keeper_twin (fun vs H Q E h => ?_) (fun cd A o s H vs Q E hr h => ?_)
  · obtain ⟨v0, rfl, h⟩ := h; rfl
  obtain ⟨v0, rfl, h⟩ := h
  obtain ⟨p, g, R, N, rfl, hp, k⟩ := h
  refine ⟨_, (pss_cons (ps_set (i := 1) sc_Keeper_twin.nd rfl (Or.inl rfl) (pe_nw0 T.mk_Keeper G_Keeper_init (hr.mono (by decide)) rfl T.m_Keeper T.B_Keeper_init (takes_of (E := E) rfl rfl rfl rfl)))
    (pss_cons (ps_fd (K := K) rfl (pv 1) (pe_fd (K := K) rfl (pv 0) rfl) rfl)
    (pss_cons (ps_fd (K := K) rfl (pv 1) (pe_fd (K := K) rfl (pv 0) rfl) rfl)
    (pss_cons (ps_fd (K := K) rfl (pv 1) (pe_fd (K := K) rfl (pv 0) rfl) rfl)
    (pss_one (ps_ret (pv 1))))))), ?_⟩
  walk_at "u"
  intro q dx H1 f1 e1 k1
  refine ⟨_, rfl, q, dx, rfl, e1, fun H2 e2 k2 => ⟨rfl, ?_⟩⟩
  have n : p ≠ q := (hp.ne f1).symm
  have hp2 := (hp.kp k1).kpn k2 (by simpa using n)
  walk_at "u"
  refine p_Keeper_kept_times e2 fun H3 e3 k3 => ?_
  have hp3 := hp2.kpn k3 (by simpa using n)
  walk_at "u"
  refine p_Keeper_kept_shut e3 fun H4 e4 k4 => ?_
  have hp4 := hp3.kpn k4 (by simpa using n)
  walk_at "u"
  refine p_Keeper_kept_open e4 fun H5 e5 k5 => ?_
  walk_at "u"
  exact k q _ f1 e5 (((((k1.nil.trans k2).trans k3).trans k4).trans k5).drop f1)
/-- the state of a lock -/
structure S3 where
  t : Int
  s : Option Pair
  b : Bool
inductive Wd | lock | opens | ended | unlock
def Wd.s : Wd → Str | .lock => "lock" | .opens => "opens" | .ended => "ended" | .unlock => "unlock"
def step (s : S3) (w : Wd) (v : V) : S3 × Str × V := match w with
  | .lock => match s.s with
    | some q => (s, "shut", .str q.2)
    | none => match v with
      | .str z => (⟨s.t + 1, some (s.t + 1, z), false⟩, "told", .int (s.t + 1))
      | _ => (s, "", .non)
  | .opens => if (s.b || !isThis s.s v) = true then (s, "told", .bl false) else (⟨s.t, s.s, true⟩, "told", .bl true)
  | .ended => match s.s with
    | none => (s, "not shut", .non)
    | some q => if isThis s.s v = true then (⟨s.t, none, false⟩, "told", .non) else (s, "no right", .int q.1)
  | .unlock => match s.s with
    | none => (s, "not shut", .non)
    | some q => if s.b = true then (⟨s.t, none, false⟩, "told", .non) else (s, "no right", .int q.1)
def OneH (T : Tx K mg) (H : Hp) (h : Addr) (s : S3) : Prop := ∃ R, At_Keeper T H h (.int s.t) R (.bl s.b) ∧ VisO H R s.s
def OneR (H : Hp) (r : Addr) (s : S3) : Prop := ∃ R, H r = some (.lst [.int s.t, R, .bl s.b]) ∧ VisO H R s.s
def sp_law_said (T : Tx K mg) : Sp := sp2 fun x y H Q _ => ∃ (h a : Addr) (w : Wd) (v : V) (s : S3) (kd : Kd), x = .ref h ∧ y = .ref a ∧ H a = some (.tup [.str w.s, v]) ∧ TyN H v kd ∧ (w = .lock → ∃ z, v = .str z) ∧ okp s.s ∧ OneH T H h s ∧
  ∀ t H', H t = none → H' t = some (.tup [.str (step s w v).2.1, (step s w v).2.2]) → OneH T H' h (step s w v).1 → Kp [h] H H' → Q (.ref t) H'
set_option maxHeartbeats 16000000 in
theorem ok_law_said (T : Tx K mg) : FnOk P w K mg base (L2.CX P w) 4 T.a_law_said T.d_law_said ["_law_keeper", "_law_deed_here"] (sp_law_said T) := by
  have G_Keeper_unlock := ok_Keeper_unlock (P := P) (w := w) (base := base) T
  have G_Keeper_lock := ok_Keeper_lock (P := P) (w := w) (base := base) T
  have G_Keeper_opens := ok_Keeper_opens (P := P) (w := w) (base := base) T
  have G_Keeper_ended := ok_Keeper_ended (P := P) (w := w) (base := base) T
  refine T.F_law_said.okX sc_law_said (fun vs H Q E h => ?_) (fun cd A o s H vs Q E hr h => ?_)
  · obtain ⟨v0, v1, rfl, h⟩ := h; rfl
  obtain ⟨v0, v1, rfl, h⟩ := h
  obtain ⟨h, a, w, v, s, kd, rfl, rfl, ha, hk, hw, hok, ⟨R, hp, hR⟩, k⟩ := h
  refine ⟨_, (pss_one (ps_try (K := K) rfl rfl rfl sc_law_said.nd (takes_of (E := E) rfl rfl rfl rfl) (fun W pn xe tk po => (pss_cons (ps_if (pt_cmpR (o_eq (K := K) rfl hr) (pe_ix (ix_u (K := K) rfl) (pv 1) pe_int (fun _ _ => rfl)) pe_str (nomark _))
    (pss_one (ps_ret (pe_tup (pa_cons pe_str (pa_cons (pe_mo T.cl_Keeper T.M_Keeper_lock G_Keeper_lock (hr.mono (by decide)) T.B_Keeper_lock tk (pv 0) (pa_cons (pe_ix (ix_u (K := K) rfl) (pv 1) pe_int (fun _ _ => rfl)) pa_nil)) pa_nil)))))
    pss_nil)
    (pss_cons (ps_if (pt_cmpR (o_eq (K := K) rfl hr) (pe_ix (ix_u (K := K) rfl) (pv 1) pe_int (fun _ _ => rfl)) pe_str (nomark _))
    (pss_one (ps_ret (pe_tup (pa_cons pe_str (pa_cons (pe_mo T.cl_Keeper T.M_Keeper_opens G_Keeper_opens (hr.mono (by decide)) T.B_Keeper_opens tk (pv 0) (pa_cons (pe_ix (ix_u (K := K) rfl) (pv 1) pe_int (fun _ _ => rfl)) pa_nil)) pa_nil)))))
    pss_nil)
    (pss_cons (ps_if (pt_cmpR (o_eq (K := K) rfl hr) (pe_ix (ix_u (K := K) rfl) (pv 1) pe_int (fun _ _ => rfl)) pe_str (nomark _))
    (pss_one (ps_ret (pe_tup (pa_cons pe_str (pa_cons (pe_mo T.cl_Keeper T.M_Keeper_ended G_Keeper_ended (hr.mono (by decide)) T.B_Keeper_ended tk (pv 0) (pa_cons (pe_ix (ix_u (K := K) rfl) (pv 1) pe_int (fun _ _ => rfl)) pa_nil)) pa_nil)))))
    pss_nil)
    (pss_one (ps_ret (pe_tup (pa_cons pe_str (pa_cons (pe_mo0 T.cl_Keeper T.M_Keeper_unlock G_Keeper_unlock (hr.mono (by decide)) T.B_Keeper_unlock tk (pv 0)) pa_nil)))))))))
    (ClOk.as (i := 2) ⟨rfl, by decide, Or.inl T.m_Shut⟩ rfl rfl (fun a oe cls d pn hz hf => (pss_one (ps_ret (pe_tup (pa_cons pe_str (pa_cons (pe_xe T.er_Shut hz hf (pv 2)) pa_nil))))))
    (ClOk.as (i := 2) ⟨rfl, by decide, Or.inl T.m_NotShut⟩ rfl rfl (fun a oe cls d pn hz hf => (pss_one (ps_ret (pe_tup (pa_cons pe_str (pa_cons (pe_xe T.er_NotShut hz hf (pv 2)) pa_nil))))))
    (ClOk.as (i := 2) ⟨rfl, by decide, Or.inl T.m_NoRight⟩ rfl rfl (fun a oe cls d pn hz hf => (pss_one (ps_ret (pe_tup (pa_cons pe_str (pa_cons (pe_xe T.er_NoRight hz hf (pv 2)) pa_nil))))))
    ClOk.nil))))), ?_⟩
  cases w with
  | lock =>
    obtain ⟨z, rfl⟩ := hw rfl
    walk_at "u"
    refine ⟨_, _, rfl, h, _, R, _, s.s, rfl, hp, hR, fun q e d H1 fd ed jd => ?_, fun e b H1 fb eb a1 j1 => ?_⟩
    · have hs : step s .lock (.str z) = ((s, "shut", .str q.2) : S3 × Str × V) := by simp [step, e]
      simp only [hs] at k
      refine ⟨true, T.ex_Shut_Shut, fun _ ea fa => ?_, fun z => nomatch z⟩
      walk_at "u"
      refine s_xek ed rfl ?_
      walk_at "u"
      walk_at "na"
      intro t H2 ft et jt
      walk_at "u"
      have jj := jd.trans jt
      exact k t _ (jd.fresh0 ft) et ⟨R, hp.kp jj, hR.kpn jj (by simp)⟩ jj.nil
    · have hs : step s .lock (.str z) = ((⟨s.t + 1, some (s.t + 1, z), false⟩, "told", .int (s.t + 1)) : S3 × Str × V) := by simp [step, e]
      simp only [hs] at k
      walk_at "u"
      walk_at "na"
      intro t H2 ft et jt
      walk_at "u"
      exact k t _ (j1.fresh ft (by simpa using a1.ne ft)) et ⟨_, a1.kp jt, ⟨b, rfl, jt.get0 eb⟩⟩ (j1.trans jt.nil)
  | opens =>
    walk_at "u"
    refine ⟨_, _, rfl, h, _, R, _, s.s, kd, rfl, hp, hR, hok, hk, fun e => ?_, fun e H1 a1 j1 => ?_⟩
    · have hs : step s .opens v = ((s, "told", .bl false) : S3 × Str × V) := by simp only [step]; rw [if_pos e]
      simp only [hs] at k
      walk_at "u"
      walk_at "na"
      intro t H2 ft et jt
      walk_at "u"
      exact k t _ ft et ⟨R, hp.kp jt, hR.kpn jt (by simp)⟩ jt.nil
    · have hs : step s .opens v = ((⟨s.t, s.s, true⟩, "told", .bl true) : S3 × Str × V) := by simp only [step]; rw [if_neg (by rw [e]; decide)]
      simp only [hs] at k
      walk_at "u"
      walk_at "na"
      intro t H2 ft et jt
      walk_at "u"
      exact k t _ (j1.fresh ft (by simpa using a1.ne ft)) et ⟨R, a1.kp jt, (hR.kpn j1 (nt1 hp.nt)).kpn jt (by simp)⟩ (j1.trans jt.nil)
  | ended =>
    walk_at "u"
    refine ⟨_, _, rfl, h, _, R, _, s.s, kd, rfl, hp, hR, hok, hk, fun e d H1 fd ed jd => ?_, fun q e e2 d H1 fd ed jd => ?_, fun e H1 a1 j1 => ?_⟩
    · have hs : step s .ended v = ((s, "not shut", .non) : S3 × Str × V) := by simp [step, e]
      simp only [hs] at k
      refine ⟨false, T.ex_NotShut_Shut, fun q => (by cases q), fun _ => ⟨true, T.ex_NotShut_NotShut, fun _ ea fa => ?_, fun z => nomatch z⟩⟩
      walk_at "u"
      refine s_xek ed rfl ?_
      walk_at "u"
      walk_at "na"
      intro t H2 ft et jt
      walk_at "u"
      have jj := jd.trans jt
      exact k t _ (jd.fresh0 ft) et ⟨R, hp.kp jj, hR.kpn jj (by simp)⟩ jj.nil
    · have hs : step s .ended v = ((s, "no right", .int q.1) : S3 × Str × V) := by
        rw [e] at e2
        simp [step, e, e2]
      simp only [hs] at k
      refine ⟨false, T.ex_NoRight_Shut, fun q => (by cases q), fun _ => ⟨false, T.ex_NoRight_NotShut, fun q => (by cases q), fun _ => ⟨true, T.ex_NoRight_NoRight, fun _ ea fa => ?_, fun z => nomatch z⟩⟩⟩
      walk_at "u"
      refine s_xek ed rfl ?_
      walk_at "u"
      walk_at "na"
      intro t H2 ft et jt
      walk_at "u"
      have jj := jd.trans jt
      exact k t _ (jd.fresh0 ft) et ⟨R, hp.kp jj, hR.kpn jj (by simp)⟩ jj.nil
    · have hs : step s .ended v = ((⟨s.t, none, false⟩, "told", .non) : S3 × Str × V) := by
        cases h0 : s.s with
        | none => rw [h0] at e; cases e
        | some q => rw [h0] at e; simp [step, h0, e]
      simp only [hs] at k
      walk_at "u"
      walk_at "na"
      intro t H2 ft et jt
      walk_at "u"
      exact k t _ (j1.fresh ft (by simpa using a1.ne ft)) et ⟨_, a1.kp jt, rfl⟩ (j1.trans jt.nil)
  | unlock =>
    walk_at "u"
    refine ⟨_, rfl, h, _, R, _, s.s, rfl, hp, hR, fun e d H1 fd ed jd => ?_, fun q e e2 d H1 fd ed jd => ?_, fun q e e2 H1 a1 j1 => ?_⟩
    · have hs : step s .unlock v = ((s, "not shut", .non) : S3 × Str × V) := by simp [step, e]
      simp only [hs] at k
      refine ⟨false, T.ex_NotShut_Shut, fun q => (by cases q), fun _ => ⟨true, T.ex_NotShut_NotShut, fun _ ea fa => ?_, fun z => nomatch z⟩⟩
      walk_at "u"
      refine s_xek ed rfl ?_
      walk_at "u"
      walk_at "na"
      intro t H2 ft et jt
      walk_at "u"
      have jj := jd.trans jt
      exact k t _ (jd.fresh0 ft) et ⟨R, hp.kp jj, hR.kpn jj (by simp)⟩ jj.nil
    · have hs : step s .unlock v = ((s, "no right", .int q.1) : S3 × Str × V) := by simp [step, e, e2]
      simp only [hs] at k
      refine ⟨false, T.ex_NoRight_Shut, fun q => (by cases q), fun _ => ⟨false, T.ex_NoRight_NotShut, fun q => (by cases q), fun _ => ⟨true, T.ex_NoRight_NoRight, fun _ ea fa => ?_, fun z => nomatch z⟩⟩⟩
      walk_at "u"
      refine s_xek ed rfl ?_
      walk_at "u"
      walk_at "na"
      intro t H2 ft et jt
      walk_at "u"
      have jj := jd.trans jt
      exact k t _ (jd.fresh0 ft) et ⟨R, hp.kp jj, hR.kpn jj (by simp)⟩ jj.nil
    · have hs : step s .unlock v = ((⟨s.t, none, false⟩, "told", .non) : S3 × Str × V) := by simp [step, e, e2]
      simp only [hs] at k
      walk_at "u"
      walk_at "na"
      intro t H2 ft et jt
      walk_at "u"
      exact k t _ (j1.fresh ft (by simpa using a1.ne ft)) et ⟨_, a1.kp jt, rfl⟩ (j1.trans jt.nil)
def sp_law_done : Sp := sp2 fun x y H Q _ => ∃ (r a : Addr) (w : Wd) (v : V) (s : S3) (kd : Kd), x = .ref r ∧ y = .ref a ∧ H a = some (.tup [.str w.s, v]) ∧ TyN H v kd ∧ (w = .lock → ∃ z, v = .str z) ∧ okp s.s ∧ OneR H r s ∧
  ∀ t H', H t = none → H' t = some (.tup [.str (step s w v).2.1, (step s w v).2.2]) → OneR H' r (step s w v).1 → Kp [r] H H' → Q (.ref t) H'
set_option maxHeartbeats 16000000 in
theorem ok_law_done (T : Tx K mg) : FnOk P w K mg base (L2.CX P w) 1 T.a_law_done T.d_law_done ["_law_row", "_law_deed_here"] (sp_law_done) := by
  refine T.F_law_done.okX sc_law_done (fun vs H Q E h => ?_) (fun cd A o s H vs Q E hr h => ?_)
  · obtain ⟨v0, v1, rfl, h⟩ := h; rfl
  obtain ⟨v0, v1, rfl, h⟩ := h
  obtain ⟨r, a, w, v, ⟨t, o', b⟩, kd, rfl, rfl, ha, hk, hw, hok, ⟨R, hr', hR⟩, k⟩ := h
  refine ⟨_, (pss_cons (ps_asg (pv 1) (pg_tup rfl (pgs_cons (pg_name (i := 2) sc_law_done.nd rfl (Or.inl rfl)) (pgs_cons (pg_name (i := 3) sc_law_done.nd rfl (Or.inl rfl)) pgs_nil))))
    (pss_cons (ps_set (i := 4) sc_law_done.nd rfl (Or.inl rfl) (pe_ix (ix_u (K := K) rfl) (pv 0) pe_int (fun _ _ => rfl)))
    (pss_cons (ps_if (pt_cmpR (o_eq (K := K) rfl hr) (pv 2) pe_str (nomark _))
    (pss_cons (ps_if (pt_cmpR o_isnot (pv 4) pe_non (nomark _))
    (pss_one (ps_ret (pe_tup (pa_cons pe_str (pa_cons (pe_ix (ix_u (K := K) rfl) (pv 4) pe_int (fun _ _ => rfl)) pa_nil)))))
    pss_nil)
    (pss_cons (ps_asg (pe_op (o_add (K := K) rfl) (pe_ix (ix_u (K := K) rfl) (pv 0) pe_int (fun _ _ => rfl)) pe_int) (pg_sub (pv 0) pe_int (set_u hr)))
    (pss_cons (ps_asg (pe_lst (pa_cons (pe_tup (pa_cons (pe_ix (ix_u (K := K) rfl) (pv 0) pe_int (fun _ _ => rfl)) (pa_cons (pv 3) pa_nil))) (pa_cons pe_bl pa_nil))) (pg_tail (pv 0) pe_int))
    (pss_one (ps_ret (pe_tup (pa_cons pe_str (pa_cons (pe_ix (ix_u (K := K) rfl) (pv 0) pe_int (fun _ _ => rfl)) pa_nil))))))))
    pss_nil)
    (pss_cons (ps_set (i := 5) sc_law_done.nd rfl (Or.inl rfl) (pe_and (pe_callB (c_isi (K := K) rfl) rfl T.z_isinstance bt_isinstance (pa_cons (pv 3) (pa_cons (pe_ty rfl T.z_int bt_int) pa_nil))) (pe_and (pe_not (pe_callB (c_isi (K := K) rfl) rfl T.z_isinstance bt_isinstance (pa_cons (pv 3) (pa_cons (pe_ty rfl T.z_bool bt_bool) pa_nil)))) (pe_and (pe_cmpR o_isnot (pv 4) pe_non (nomark _)) (pe_one (pe_cmpR (o_eq (K := K) rfl hr) (pv 3) (pe_ix (ix_u (K := K) rfl) (pv 4) pe_int (fun _ _ => rfl)) (nomark _)))))))
    (pss_cons (ps_if (pt_cmpR (o_eq (K := K) rfl hr) (pv 2) pe_str (nomark _))
    (pss_cons (ps_set (i := 6) sc_law_done.nd rfl (Or.inl rfl) (pe_and (pv 5) (pe_one (pe_not (pe_ix (ix_u (K := K) rfl) (pv 0) pe_int (fun _ _ => rfl))))))
    (pss_cons (ps_asg (pe_or (pe_ix (ix_u (K := K) rfl) (pv 0) pe_int (fun _ _ => rfl)) (pe_one (pv 5))) (pg_sub (pv 0) pe_int (set_u hr)))
    (pss_one (ps_ret (pe_tup (pa_cons pe_str (pa_cons (pv 6) pa_nil)))))))
    pss_nil)
    (pss_cons (ps_if (pt_cmpR o_is (pv 4) pe_non (nomark _))
    (pss_one (ps_ret (pe_tup (pa_cons pe_str (pa_cons pe_non pa_nil)))))
    pss_nil)
    (pss_cons (ps_if (PW.pt (pw_or (PW.pt (pw_and (pt_cmpR (o_eq (K := K) rfl hr) (pv 2) pe_str (nomark _)) (pw_and1 (pt_not (pt_val (pv 5)))))) (pw_or1 (PW.pt (pw_and (pt_cmpR (o_eq (K := K) rfl hr) (pv 2) pe_str (nomark _)) (pw_and1 (pt_not (pt_val (pe_ix (ix_u (K := K) rfl) (pv 0) pe_int (fun _ _ => rfl))))))))))
    (pss_one (ps_ret (pe_tup (pa_cons pe_str (pa_cons (pe_ix (ix_u (K := K) rfl) (pv 4) pe_int (fun _ _ => rfl)) pa_nil)))))
    pss_nil)
    (pss_cons (ps_asg (pe_lst (pa_cons pe_non (pa_cons pe_bl pa_nil))) (pg_tail (pv 0) pe_int))
    (pss_one (ps_ret (pe_tup (pa_cons pe_str (pa_cons pe_non pa_nil))))))))))))), ?_⟩
  have hr2 : H r = some (.lst [.int t, R, .bl b]) := hr'
  cases w with
  | lock =>
    obtain ⟨z, rfl⟩ := hw rfl
    cases o' with
    | some q =>
      obtain ⟨c, rfl, ec⟩ := hR
      have hs : step ⟨t, some q, b⟩ .lock (.str z) = ((⟨t, some q, b⟩, "shut", .str q.2) : S3 × Str × V) := rfl
      simp only [hs] at k
      walk_at "u"
      walk_at "na"
      intro u H2 fu eu ju
      walk_at "u"
      exact k u _ fu eu ⟨_, ju.get0 hr2, ⟨c, rfl, ju.get0 ec⟩⟩ ju.nil
    | none =>
      obtain rfl : R = .non := hR
      have hs : step ⟨t, none, b⟩ .lock (.str z) = ((⟨t + 1, some (t + 1, z), false⟩, "told", .int (t + 1)) : S3 × Str × V) := rfl
      simp only [hs] at k
      walk_at "u"
      refine s_ul hr2 rfl rfl fun H1 e1 j1 => ?_
      walk_at "u"
      walk_at "na"
      intro c H2 fc ec jc
      walk_at "u"
      walk_at "na"
      intro d H3 fd ed jd
      have e3 := jd.get0 (jc.get0 e1)
      have nd : r ≠ d := ne_of_none (jc.get0 e1) fd
      have nc : c ≠ r := (ne_of_none e1 fc).symm
      walk_at "u"
      refine s_tlk e3 ed nd (by decide) (by simp) (zle (by simp)) rfl fun H4 e4 j4 => ?_
      have e4 : H4 r = some (.lst [.int (t + 1), .ref c, .bl false]) := e4
      have ec4 := j4.get1 (jd.get0 ec) nc
      have k04 : Kp [r] H H4 := ((j1.trans jc.nil).trans jd.nil).trans j4
      walk_at "u"
      walk_at "na"
      intro u H5 fu eu ju
      walk_at "u"
      exact k u _ (k04.fresh fu (by simpa using (ne_of_none e4 fu).symm)) eu ⟨_, ju.get0 e4, ⟨c, rfl, ju.get0 ec4⟩⟩ (k04.trans ju.nil)
  | opens =>
    walk_at "w"
    refine s_ifS ?_
    walk_at "s"
    refine U.s_seq (U.s_asg (jE (fun x H1 => H1 = H ∧ x = .bl (isThis o' v)) (fun x H1 => ?_) (fun _ key => ?_)))
    rotate_left
    · cases hk <;> walk_at "u"
      all_goals try exact key _ _ ⟨rfl, by cases o' <;> rfl⟩
      cases o' with
      | none =>
        obtain rfl : R = .non := hR
        walk_at "u"
        exact key _ _ ⟨rfl, rfl⟩
      | some q =>
        obtain ⟨c, rfl, ec⟩ := hR
        walk_at "u"
        exact key _ _ ⟨rfl, congrArg V.bl U.dec_int.symm⟩
    rintro ⟨rfl, rfl⟩
    generalize hτ : isThis o' v = τ
    have hs : step ⟨t, o', b⟩ .opens v = ((⟨t, o', b || τ⟩, "told", .bl (τ && !b)) : S3 × Str × V) := by
      simp only [step, hτ]
      cases b <;> cases τ <;> rfl
    simp only [hs] at k
    cases b <;> cases τ
    all_goals
      walk_at "u"
      refine s_ul hr2 rfl rfl fun H1 e1 j1 => ?_
      walk_at "u"
      walk_at "na"
      intro u H2 fu eu ju
      walk_at "u"
      exact k u _ (j1.fresh fu (by simpa using (ne_of_none e1 fu).symm)) eu ⟨R, ju.get0 e1, (hR.kpn j1 (nt1 (Nt.lst hr2))).kpn ju (by simp)⟩ (j1.trans ju.nil)
  | ended =>
    walk_at "w"
    refine s_ifS ?_
    walk_at "s"
    refine U.s_seq (U.s_asg (jE (fun x H1 => H1 = H ∧ x = .bl (isThis o' v)) (fun x H1 => ?_) (fun _ key => ?_)))
    rotate_left
    · cases hk <;> walk_at "u"
      all_goals try exact key _ _ ⟨rfl, by cases o' <;> rfl⟩
      cases o' with
      | none =>
        obtain rfl : R = .non := hR
        walk_at "u"
        exact key _ _ ⟨rfl, rfl⟩
      | some q =>
        obtain ⟨c, rfl, ec⟩ := hR
        walk_at "u"
        exact key _ _ ⟨rfl, congrArg V.bl U.dec_int.symm⟩
    rintro ⟨rfl, rfl⟩
    generalize hτ : isThis o' v = τ
    cases o' with
    | none =>
      obtain rfl : R = .non := hR
      have hs : step ⟨t, none, b⟩ .ended v = ((⟨t, none, b⟩, "not shut", .non) : S3 × Str × V) := rfl
      simp only [hs] at k
      walk_at "u"
      walk_at "na"
      intro u H2 fu eu ju
      walk_at "u"
      exact k u _ fu eu ⟨_, ju.get0 hr2, rfl⟩ ju.nil
    | some q =>
      obtain ⟨c, rfl, ec⟩ := hR
      cases τ with
      | false =>
        have hs : step ⟨t, some q, b⟩ .ended v = ((⟨t, some q, b⟩, "no right", .int q.1) : S3 × Str × V) := by
          simp [step, hτ]
        simp only [hs] at k
        walk_at "u"
        walk_at "na"
        intro u H2 fu eu ju
        walk_at "u"
        exact k u _ fu eu ⟨_, ju.get0 hr2, ⟨c, rfl, ju.get0 ec⟩⟩ ju.nil
      | true =>
        have hs : step ⟨t, some q, b⟩ .ended v = ((⟨t, none, false⟩, "told", .non) : S3 × Str × V) := by
          simp [step, hτ]
        simp only [hs] at k
        walk_at "u"
        walk_at "na"
        intro d H3 fd ed jd
        walk_at "u"
        refine s_tlk (jd.get0 hr2) ed (ne_of_none hr2 fd) (by decide) (by simp) (zle (by simp)) rfl fun H4 e4 j4 => ?_
        have e4 : H4 r = some (.lst [.int t, .non, .bl false]) := e4
        have k04 : Kp [r] _ H4 := jd.nil.trans j4
        walk_at "u"
        walk_at "na"
        intro u H5 fu eu ju
        walk_at "u"
        exact k u _ (k04.fresh fu (by simpa using (ne_of_none e4 fu).symm)) eu ⟨_, ju.get0 e4, rfl⟩ (k04.trans ju.nil)
  | unlock =>
    walk_at "w"
    refine s_ifS ?_
    walk_at "s"
    refine U.s_seq (U.s_asg (jE (fun x H1 => H1 = H ∧ x = .bl (isThis o' v)) (fun x H1 => ?_) (fun _ key => ?_)))
    rotate_left
    · cases hk <;> walk_at "u"
      all_goals try exact key _ _ ⟨rfl, by cases o' <;> rfl⟩
      cases o' with
      | none =>
        obtain rfl : R = .non := hR
        walk_at "u"
        exact key _ _ ⟨rfl, rfl⟩
      | some q =>
        obtain ⟨c, rfl, ec⟩ := hR
        walk_at "u"
        exact key _ _ ⟨rfl, congrArg V.bl U.dec_int.symm⟩
    rintro ⟨rfl, rfl⟩
    generalize hτ : isThis o' v = τ
    cases o' with
    | none =>
      obtain rfl : R = .non := hR
      have hs : step ⟨t, none, b⟩ .unlock v = ((⟨t, none, b⟩, "not shut", .non) : S3 × Str × V) := rfl
      simp only [hs] at k
      walk_at "u"
      walk_at "na"
      intro u H2 fu eu ju
      walk_at "u"
      exact k u _ fu eu ⟨_, ju.get0 hr2, rfl⟩ ju.nil
    | some q =>
      obtain ⟨c, rfl, ec⟩ := hR
      cases b with
      | false =>
        have hs : step ⟨t, some q, false⟩ .unlock v = ((⟨t, some q, false⟩, "no right", .int q.1) : S3 × Str × V) := rfl
        simp only [hs] at k
        walk_at "u"
        walk_at "na"
        intro u H2 fu eu ju
        walk_at "u"
        exact k u _ fu eu ⟨_, ju.get0 hr2, ⟨c, rfl, ju.get0 ec⟩⟩ ju.nil
      | true =>
        have hs : step ⟨t, some q, true⟩ .unlock v = ((⟨t, none, false⟩, "told", .non) : S3 × Str × V) := rfl
        simp only [hs] at k
        walk_at "u"
        walk_at "na"
        intro d H3 fd ed jd
        walk_at "u"
        refine s_tlk (jd.get0 hr2) ed (ne_of_none hr2 fd) (by decide) (by simp) (zle (by simp)) rfl fun H4 e4 j4 => ?_
        have e4 : H4 r = some (.lst [.int t, .non, .bl false]) := e4
        have k04 : Kp [r] _ H4 := jd.nil.trans j4
        walk_at "u"
        walk_at "na"
        intro u H5 fu eu ju
        walk_at "u"
        exact k u _ (k04.fresh fu (by simpa using (ne_of_none e4 fu).symm)) eu ⟨_, ju.get0 e4, rfl⟩ (k04.trans ju.nil)
theorem letters_ss : SS ("abcdefghijklmnopqrstuvwxyz" : Str) 26 := SS.mk' (by decide +kernel)
theorem letters_at {i : Int} (h0 : 0 ≤ i) (h1 : i < 26) : ∃ c, atI ("abcdefghijklmnopqrstuvwxyz" : Str).cps.toList i = some c ∧ c < 1114112 := by
  obtain ⟨c, e, h, _⟩ := letters_ss.at h0 (by rw [show ("abcdefghijklmnopqrstuvwxyz" : Str).length = 26 by decide +kernel]; exact h1)
  exact ⟨c, e, h⟩
def sp_law_names : Sp := sp2 fun x y H Q _ => ∃ (p : Addr) (n : Nat), x = .ref p ∧ y = .int 4 ∧ Box H p n ∧ n ≤ 900000 ∧ ∀ (l : Addr) (zs : List Str) (H' : Hp), H l = none → H' l = some (.lst (zs.map V.str)) → zs.length = 4 → (∀ z ∈ zs, SS z 20) → Box H' p (n + 10) → Kp [p] H H' → Q (.ref l) H'
set_option maxHeartbeats 16000000 in
theorem ok_law_names (T : Tx K mg) : FnOk P w K mg base (L2.CX P w) 2 T.a_law_names T.d_law_names ["_law_box_here", "_law_many"] (sp_law_names) := by
  have G_law_take := ok_law_take (P := P) (w := w) (base := base) T
  refine T.F_law_names.okX sc_law_names (fun vs H Q E h => ?_) (fun cd A o s H vs Q E hr h => ?_)
  · obtain ⟨v0, v1, rfl, h⟩ := h; rfl
  obtain ⟨v0, v1, rfl, h⟩ := h
  obtain ⟨p, n, rfl, rfl, hB, hn, k⟩ := h
  refine ⟨_, (pss_cons (ps_set (i := 2) sc_law_names.nd rfl (Or.inr rfl) pe_str)
    (pss_cons (ps_set (i := 3) sc_law_names.nd rfl (Or.inr rfl) (pe_co G_law_take (hr.mono (by decide)) rfl T.m_law_take T.F_law_take.kp T.B_law_take (takes_of (E := E) rfl rfl rfl rfl) (pa_cons (pv 0) (pa_cons pe_int pa_nil))))
    (pss_cons (ps_set (i := 4) sc_law_names.nd rfl (Or.inr rfl) (pe_joinU (K := K) rfl pe_str (pe_lc (own := [("_law_k", 6)]) rfl sc_law_names.nd (pi_range1 rfl T.z_range (pa_cons pe_int pa_nil)) (blkOk_by (own := [("_law_k", 6)]) (N := N_law_names) (sc := defScope s_law_names) (by decide +kernel)) (fun _ _ _ _ _ => (pg_name (i := 6) sc_law_names.nd rfl (Or.inl rfl))) (fun _ _ _ _ _ => pts_nil) (fun _ _ _ _ _ => (pe_ix (ix_u (K := K) rfl) (pv 2) (pe_co G_law_take (hr.mono (by decide)) rfl T.m_law_take T.F_law_take.kp T.B_law_take takes0 (pa_cons (pv 0) (pa_cons pe_int pa_nil))) (fun _ _ => rfl))))))
    (pss_cons (ps_set (i := 5) sc_law_names.nd rfl (Or.inr rfl) (pe_co G_law_take (hr.mono (by decide)) rfl T.m_law_take T.F_law_take.kp T.B_law_take (takes_of (E := E) rfl rfl rfl rfl) (pa_cons (pv 0) (pa_cons pe_int pa_nil))))
    (pss_cons (ps_if (pt_cmpR (o_eq (K := K) rfl hr) (pe_co G_law_take (hr.mono (by decide)) rfl T.m_law_take T.F_law_take.kp T.B_law_take (takes_of (E := E) rfl rfl rfl rfl) (pa_cons (pv 0) (pa_cons pe_int pa_nil))) pe_int (nomark _))
    (pss_one (ps_ret (pe_lc (own := [("_law_k", 6)]) rfl sc_law_names.nd (pi_range1 rfl T.z_range (pa_cons (pv 1) pa_nil)) (blkOk_by (own := [("_law_k", 6)]) (N := N_law_names) (sc := defScope s_law_names) (by decide +kernel)) (fun _ _ _ _ _ => (pg_name (i := 6) sc_law_names.nd rfl (Or.inl rfl))) (fun _ _ _ _ _ => pts_nil) (fun _ _ _ _ _ => (pe_slice (sl_u (K := K) rfl) (pe_op (o_add (K := K) rfl) (pv 4) (pe_ix (ix_u (K := K) rfl) (pv 2) (pv 3) (fun _ _ => rfl))) po_none (po_some (pe_op (o_add (K := K) rfl) pe_int (pe_op o_mod (pe_op (o_add (K := K) rfl) (pv 3) (pe_op o_mul pe_int (pv 6))) pe_int))))))))
    pss_nil)
    (pss_one (ps_ret (pe_lc (own := [("_law_k", 6)]) rfl sc_law_names.nd (pi_range1 rfl T.z_range (pa_cons (pv 1) pa_nil)) (blkOk_by (own := [("_law_k", 6)]) (N := N_law_names) (sc := defScope s_law_names) (by decide +kernel)) (fun _ _ _ _ _ => (pg_name (i := 6) sc_law_names.nd rfl (Or.inl rfl))) (fun _ _ _ _ _ => pts_nil) (fun _ _ _ _ _ => (pe_op (o_add (K := K) rfl) (pe_op (o_add (K := K) rfl) (pe_slice (sl_u (K := K) rfl) (pv 4) po_none (po_some (pv 5))) (pe_ix (ix_u (K := K) rfl) (pv 2) (pe_op o_mod (pe_op (o_add (K := K) rfl) (pv 3) (pe_op o_mul pe_int (pv 6))) pe_int) (fun _ _ => rfl))) (pe_slice (sl_u (K := K) rfl) (pv 4) (po_some (pv 5)) po_none))))))))))), ?_⟩
  walk_at "u"
  refine c_take hB (by omega) (by decide) (by decide) fun d H1 d0 d1 B1 k1 => ?_
  walk_at "u"
  refine s_rng (by omega) (by omega) ?_
  intro D hD
  have nD := B1.ne hD
  have fD := k1.fresh hD (by simpa using nD)
  refine lc_it walk_range (PvD D fun i acc H' => Kp [p, D] H H' ∧ Box H' p (n + 1 + i) ∧ ∃ cs : List Nat, (∀ c ∈ cs, c < 1114112) ∧ cs.length = i ∧ acc = cs.map fun c => V.str ⟨#[c]⟩)
    (PvD.start ⟨(k1.mono (by simp)).new hD, B1.new hD, [], by simp, rfl, rfl⟩) (fun _ _ _ _ => trivial) ?_ ?_
  · rintro i x H2 H3 hi ⟨acc, e, kp, Bi, cs, hcs, hl, rfl⟩ ⟨rfl, rfl⟩
    walk_at "u"
    refine ⟨rfl, ?_⟩
    walk_at "u"
    refine c_take Bi (by omega) (by decide) (by decide) fun d2 H4 d20 d21 B4 k4 => ?_
    walk_at "u"
    obtain ⟨c, hc, hc2⟩ := letters_at d20 d21
    refine s_ixs (by decide +kernel) hc ?_
    have e4 := k4.get1 e nD
    refine PvD.more e4 (by rw [List.length_map]; exact Nat.lt_of_lt_of_le (show _ < 100 by omega) (by decide)) ⟨((kp.trans (k4.mono (by simp))).put (by simp)), B4.put nD, cs ++ [c], ?_, by simp [hl], by simp⟩
    intro y hy
    rcases List.mem_append.mp hy with hy | hy
    · exact hcs y hy
    · rw [List.mem_singleton.mp hy]; exact hc2
  · rintro H2 ⟨acc, e, kp, Bi, cs, hcs, hl, rfl⟩
    walk_at "u"
    refine s_join (ys := cs.map fun c => ⟨#[c]⟩) (by rw [List.map_map]; exact e) ?_ ?_
    · rw [ones_len, List.length_map, show (Str.ofString "").length = 0 by decide +kernel]
      omega
    have hS : SS (Txt.join (Str.ofString "") (cs.map fun c => ⟨#[c]⟩)) 9 := (SS.ones hcs).mono (by omega)
    generalize Txt.join (Str.ofString "") (cs.map fun c => ⟨#[c]⟩) = z at hS ⊢
    have kp1 : Kp [p] H H2 := (kp.mono (qs := [D, p]) (by simp)).drop fD
    have hz := hS.len
    clear hl
    walk_at "u"
    refine c_take Bi (by omega) (by decide) (by decide) fun at' H3 a0 a1 B3 k3 => ?_
    walk_at "u"
    refine c_take B3 (by omega) (by decide) (by decide) fun d4 H4 d40 d41 B4 k4 => ?_
    have kp4 := (kp1.trans k3).trans k4
    walk_at "u"
    refine s_ite (fun h1 => ?_) (fun h1 => ?_)
    · walk_at "u"
      refine s_rng (by omega) (by omega) ?_
      intro L hL
      have nL := B4.ne hL
      have fL := kp4.fresh hL (by simpa using nL)
      refine lc_it walk_range (PvD L fun i acc H' => Kp [L] H4 H' ∧ ∃ zs : List Str, (∀ z ∈ zs, SS z 20) ∧ zs.length = i ∧ acc = zs.map V.str)
        (PvD.start ⟨Kp.refl.new hL, [], by simp, rfl, rfl⟩) (fun _ _ _ _ => trivial) ?_ ?_
      · rintro i x H5 H6 hi ⟨acc, e5, kp5, zs, hzs, hl, rfl⟩ ⟨rfl, rfl⟩
        walk_at "u"
        refine ⟨rfl, ?_⟩
        walk_at "u"
        obtain ⟨c, hc, hc2⟩ := letters_at d0 d1
        refine s_ixs (by decide +kernel) hc ?_
        have S1 := hS.app (SS.one hc2)
        walk_at "u"
        refine s_adds (zle (by have := S1.len; rw [Str.length_append] at this; omega)) ?_
        walk_at "u"
        refine s_sls (zle (by have := S1.len; omega)) ?_
        refine PvD.more e5 (zlt (by rw [List.length_map]; omega)) ⟨kp5.put (by simp), zs ++ [_], ?_, by simp [hl], by rw [List.map_append]; rfl⟩
        intro y hy
        rcases List.mem_append.mp hy with hy | hy
        · exact hzs y hy
        · rw [List.mem_singleton.mp hy]; exact S1.cut.mono (by omega)
      · rintro H5 ⟨acc, e5, kp5, zs, hzs, hl, rfl⟩
        walk_at "u"
        exact k L zs H5 fL e5 hl hzs ((B4.kpn kp5 (by simpa using nL.symm)).more (by omega)) (((kp4.mono (qs := [L, p]) (by simp)).trans (kp5.mono (by simp))).drop fL)
    · walk_at "u"
      refine s_rng (by omega) (by omega) ?_
      intro L hL
      have nL := B4.ne hL
      have fL := kp4.fresh hL (by simpa using nL)
      refine lc_it walk_range (PvD L fun i acc H' => Kp [L] H4 H' ∧ ∃ zs : List Str, (∀ z ∈ zs, SS z 20) ∧ zs.length = i ∧ acc = zs.map V.str)
        (PvD.start ⟨Kp.refl.new hL, [], by simp, rfl, rfl⟩) (fun _ _ _ _ => trivial) ?_ ?_
      · rintro i x H5 H6 hi ⟨acc, e5, kp5, zs, hzs, hl, rfl⟩ ⟨rfl, rfl⟩
        walk_at "u"
        refine ⟨rfl, ?_⟩
        walk_at "u"
        refine s_sls (zle (by omega)) ?_
        walk_at "u"
        obtain ⟨c, hc, hc2⟩ := letters_at (i := (d + 7 * (0 + (i : Int))) % 26) (Int.emod_nonneg _ (by decide)) (Int.emod_lt_of_pos _ (by decide))
        refine s_ixs (by decide +kernel) hc ?_
        have S0 : SS (cutS z none (some at')) 9 := hS.cut
        have S1 := S0.app (SS.one hc2)
        refine s_adds (zle (by have := S1.len; rw [Str.length_append] at this; omega)) ?_
        walk_at "u"
        refine s_sls (zle (by omega)) ?_
        have S2 : SS (cutS z (some at') none) 9 := hS.cut
        have S3 := S1.app S2
        refine s_adds (zle (by have := S3.len; rw [Str.length_append] at this; omega)) ?_
        refine PvD.more e5 (zlt (by rw [List.length_map]; omega)) ⟨kp5.put (by simp), zs ++ [_], ?_, by simp [hl], by rw [List.map_append]; rfl⟩
        intro y hy
        rcases List.mem_append.mp hy with hy | hy
        · exact hzs y hy
        · rw [List.mem_singleton.mp hy]; exact S3.mono (by omega)
      · rintro H5 ⟨acc, e5, kp5, zs, hzs, hl, rfl⟩
        walk_at "u"
        exact k L zs H5 fL e5 hl hzs ((B4.kpn kp5 (by simpa using nL.symm)).more (by omega)) (((kp4.mono (qs := [L, p]) (by simp)).trans (kp5.mono (by simp))).drop fL)

theorem OneR.kpn {H H2 : Hp} {r : Addr} {s : S3} {ps : List Addr} (h : OneR H r s) (k : Kp ps H H2) (n : r ∉ ps) (nt : ∀ q ∈ ps, Nt H q) : OneR H2 r s := by
  obtain ⟨R, e, a⟩ := h
  exact ⟨R, k.get e n, a.kpn k nt⟩
theorem OneH.kpn {T : Tx K mg} {H H2 : Hp} {r : Addr} {s : S3} {ps : List Addr} (h : OneH T H r s) (k : Kp ps H H2) (n : r ∉ ps) (nt : ∀ q ∈ ps, Nt H q) : OneH T H2 r s := by
  obtain ⟨R, e, a⟩ := h
  exact ⟨R, e.kpn k n, a.kpn k nt⟩
theorem Box.nt {H : Hp} {p : Addr} {n : Nat} (h : Box H p n) : Nt H p := by
  obtain ⟨a, b, c, e, r⟩ := h.ex
  exact Nt.lst e
theorem Box.ner {H : Hp} {p r : Addr} {n : Nat} {s : S3} (h : Box H p n) (o : OneR H r s) : r ≠ p := by
  obtain ⟨a, b, c, e, _⟩ := h.ex
  obtain ⟨R, e2, hR⟩ := o
  exact ne_of e2 e fun z => by cases z
theorem TyN.kpi {H H2 : Hp} {v : V} {kd : Kd} {h C dx : Addr} {fs : List (Str × V)} (t : TyN H v kd) (k : Kp [h] H H2) (e : H h = some (.ins C dx fs)) : TyN H2 v kd := by
  cases t with
  | non => exact .non
  | bl => exact .bl
  | int => exact .int
  | str => exact .str
  | lst x => exact .lst (k.get1 x (ne_of x e (by intro z; cases z)))
  | tup x => exact .tup (k.get1 x (ne_of x e (by intro z; cases z)))
  | dic x => exact .dic (k.get1 x (ne_of x e (by intro z; cases z)))
def sp_law_deed (K : PySem.W.Frag) : Sp := sp3 fun x y zz H Q _ => ∃ (p : Addr) (n : Nat) (l : Addr) (zs : List Str) (r : Addr) (s : S3), x = .ref p ∧ y = .ref l ∧ zz = .ref r ∧ Box H p n ∧ n ≤ 900000 ∧ H l = some (.lst (zs.map V.str)) ∧ zs.length = 4 ∧ (∀ z ∈ zs, SS z 20) ∧ OneR H r s ∧ 0 ≤ s.t ∧ s.t < 1000000 ∧
  ∀ (t : Addr) (w : Wd) (v : V) (kd : Kd) (H' : Hp), H t = none → H' t = some (.tup [.str w.s, v]) → TyN H' v kd → (w = .lock → ∃ z, v = .str z ∧ SS z 20) → Box H' p (n + 10) → Kp [p] H H' → Q (.ref t) H'
set_option maxHeartbeats 16000000 in
theorem ok_law_deed (T : Tx K mg) : FnOk P w K mg base (L2.CX P w) 2 T.a_law_deed T.d_law_deed ["_law_box_here", "_law_names_here", "_law_row"] (sp_law_deed K) := by
  have G_law_take := ok_law_take (P := P) (w := w) (base := base) T
  refine T.F_law_deed.okX sc_law_deed (fun vs H Q E h => ?_) (fun cd A o s H vs Q E hr h => ?_)
  · obtain ⟨v0, v1, v2, rfl, h⟩ := h; rfl
  obtain ⟨v0, v1, v2, rfl, h⟩ := h
  obtain ⟨p, n, l, zs, r, s, rfl, rfl, rfl, hB, hn, hl, hz4, hzs, hO, h0, h1, k⟩ := h
  refine ⟨_, (pss_cons (ps_set (i := 3) sc_law_deed.nd rfl (Or.inl rfl) (pe_ix (ix_u (K := K) rfl) (pe_lst (pa_cons pe_str (pa_cons pe_str (pa_cons pe_str (pa_cons pe_str (pa_cons pe_str (pa_cons pe_str pa_nil))))))) (pe_co G_law_take (hr.mono (by decide)) rfl T.m_law_take T.F_law_take.kp T.B_law_take (takes_of (E := E) rfl rfl rfl rfl) (pa_cons (pv 0) (pa_cons pe_int pa_nil))) (fun _ _ => rfl)))
    (pss_cons (ps_set (i := 4) sc_law_deed.nd rfl (Or.inl rfl) (pe_co G_law_take (hr.mono (by decide)) rfl T.m_law_take T.F_law_take.kp T.B_law_take (takes_of (E := E) rfl rfl rfl rfl) (pa_cons (pv 0) (pa_cons pe_int pa_nil))))
    (pss_cons (ps_set (i := 5) sc_law_deed.nd rfl (Or.inl rfl) (pe_lst (pa_cons (pe_op (o_add (K := K) rfl) (pe_ix (ix_u (K := K) rfl) (pv 2) pe_int (fun _ _ => rfl)) pe_int) (pa_cons (pe_op o_sub (pe_ix (ix_u (K := K) rfl) (pv 2) pe_int (fun _ _ => rfl)) pe_int) (pa_cons pe_int (pa_cons pe_int (pa_cons (pe_co G_law_take (hr.mono (by decide)) rfl T.m_law_take T.F_law_take.kp T.B_law_take (takes_of (E := E) rfl rfl rfl rfl) (pa_cons (pv 0) (pa_cons pe_int pa_nil))) (pa_cons pe_bl (pa_cons (pe_callTy c_str rfl T.z_str bt_str (pa_cons (pe_ix (ix_u (K := K) rfl) (pv 2) pe_int (fun _ _ => rfl)) pa_nil)) (pa_cons pe_non (pa_cons (pe_lst (pa_cons (pe_ix (ix_u (K := K) rfl) (pv 2) pe_int (fun _ _ => rfl)) pa_nil)) (pa_cons (pe_un un_neg (pe_ix (ix_u (K := K) rfl) (pv 2) pe_int (fun _ _ => rfl))) (pa_cons (pe_op o_sub (pe_op o_pow pe_int pe_int) pe_int) pa_nil)))))))))))))
    (pss_cons (ps_if (pt_cmpR (o_eq (K := K) rfl hr) (pv 3) pe_str (nomark _))
    (pss_one (ps_ret (pe_tup (pa_cons (pv 3) (pa_cons (pe_ix (ix_u (K := K) rfl) (pv 1) (pe_co G_law_take (hr.mono (by decide)) rfl T.m_law_take T.F_law_take.kp T.B_law_take (takes_of (E := E) rfl rfl rfl rfl) (pa_cons (pv 0) (pa_cons pe_int pa_nil))) (fun _ _ => rfl)) pa_nil)))))
    pss_nil)
    (pss_one (ps_ret (pe_tup (pa_cons (pv 3) (pa_cons (pe_ifExp (pt_cmpR (o_eq (K := K) rfl hr) (pe_co G_law_take (hr.mono (by decide)) rfl T.m_law_take T.F_law_take.kp T.B_law_take (takes_of (E := E) rfl rfl rfl rfl) (pa_cons (pv 0) (pa_cons pe_int pa_nil))) pe_int (nomark _)) (pe_ix (ix_u (K := K) rfl) (pe_op (o_add (K := K) rfl) (pv 5) (pe_lst (pa_cons (pe_ix (ix_u (K := K) rfl) (pv 2) pe_int (fun _ _ => rfl)) pa_nil))) (pv 4) (fun _ _ => rfl)) (pe_ix (ix_u (K := K) rfl) (pv 2) pe_int (fun _ _ => rfl))) pa_nil))))))))), ?_⟩
  have nr := hB.ner hO
  have nl : l ≠ p := by
    obtain ⟨x1, x2, x3, x4, _⟩ := hB.ex
    refine ne_of hl x4 fun e => ?_
    injection e with e
    have := congrArg List.length e
    simp [hz4] at this
  obtain ⟨R, er, hR⟩ := hO
  walk_at "u"
  walk_at "na"
  intro a1 H1 f1 e1 k1
  have B1 := hB.kp k1
  have na1 := hB.ne f1
  walk_at "u"
  refine c_take B1 (by omega) (by decide) (by decide) fun d2 H2 d20 d21 B2 k2 => ?_
  obtain ⟨v, g1, g2⟩ := at_int (xs := [V.str "lock", V.str "lock", V.str "opens", V.str "opens", V.str "ended", V.str "unlock"]) d20 (by simpa using d21)
  obtain ⟨w, rfl⟩ : ∃ w : Wd, v = .str w.s := by
    have g1 := List.mem_of_getElem? g1
    simp only [List.mem_cons, List.mem_nil_iff, or_false] at g1
    rcases g1 with rfl | rfl | rfl | rfl | rfl | rfl
    · exact ⟨.lock, rfl⟩
    · exact ⟨.lock, rfl⟩
    · exact ⟨.opens, rfl⟩
    · exact ⟨.opens, rfl⟩
    · exact ⟨.ended, rfl⟩
    · exact ⟨.unlock, rfl⟩
  refine s_ixl (k2.get1 e1 na1) g2 ?_
  have k02 : Kp [p] H H2 := k1.nil.trans k2
  walk_at "u"
  refine c_take B2 (by omega) (by decide) (by decide) fun way H3 w0 w1 B3 k3 => ?_
  have k03 := k02.trans k3
  have er3 := k03.get1 er nr
  walk_at "u"
  refine c_take B3 (by omega) (by decide) (by decide) fun d4 H4 d40 d41 B4 k4 => ?_
  have k04 := k03.trans k4
  have er4 := k04.get1 er nr
  walk_at "u"
  refine s_str (log2s (Nat.lt_of_le_of_lt (show s.t.natAbs ≤ 1000000 by omega) (by decide +kernel))) ?_
  walk_at "u"
  walk_at "na"
  intro a5 H5 f5 e5 k5
  have na5 := B4.ne f5
  have er5 := k5.get0 er4
  walk_at "u"
  walk_at "na"
  intro a6 H6 f6 e6 k6
  have k46 := k5.trans k6
  have B6 := B4.kp k46
  have k06 := k04.trans k46.nil
  have er6 := k46.get0 er4
  have na6 := (B4.kp k5).ne f6
  have e56 := k6.get0 e5
  have fin : ∀ {H7 : Hp} {t : Addr}, Kp [p] H H7 → H7 t = none → Box H7 p (n + 9) → H t = none := fun k7 ft B7 => k7.fresh ft (by simpa using B7.ne ft)
  walk_at "u"
  refine s_itb (fun hc => ?_) (fun hc => ?_)
  · have hw : w = .lock := by
      cases w with
      | lock => rfl
      | opens => exact absurd hc (by decide +kernel)
      | ended => exact absurd hc (by decide +kernel)
      | unlock => exact absurd hc (by decide +kernel)
    subst hw
    walk_at "u"
    refine c_take B6 (by omega) (by decide) (by decide) fun d7 H7 d70 d71 B7 k7 => ?_
    have k07 := k06.trans k7
    obtain ⟨v, g3, g4⟩ := at_int (xs := zs.map V.str) d70 (by rw [List.length_map, hz4]; exact d71)
    rw [List.getElem?_map] at g3
    obtain ⟨z, g3', rfl⟩ := Option.map_eq_some_iff.mp g3
    have hz := hzs z (List.mem_of_getElem? g3')
    refine s_ixl (k07.get1 hl nl) g4 ?_
    walk_at "u"
    walk_at "na"
    intro t H8 ft et jt
    walk_at "u"
    exact k t .lock _ _ _ (fin k07 ft (B7.more (by omega))) et .str (fun _ => ⟨z, rfl, hz⟩) ((B7.kp jt).more (by omega)) (k07.trans jt.nil)
  · have hw : w ≠ .lock := fun e => by
      subst e
      exact absurd hc (by decide +kernel)
    walk_at "u"
    refine c_take B6 (by omega) (by decide) (by decide) fun d7 H7 d70 d71 B7 k7 => ?_
    have k07 := k06.trans k7
    have er7 := k07.get1 er nr
    have e67 := k7.get1 e6 na6
    have e57 := k7.get1 e56 na5
    walk_at "u"
    refine s_ite (fun h7 => ?_) (fun h7 => ?_)
    · walk_at "u"
      walk_at "na"
      intro a8 H8 f8 e8 k8
      walk_at "u"
      refine s_addl (k8.get0 e67) e8 (zle (by simp)) fun a9 H9 f9 e9 k9 => ?_
      have k79 := k8.trans k9
      walk_at "u"
      obtain ⟨v, g5, g6⟩ := at_int (xs := [V.int (s.t + 1), V.int (s.t - 1), V.int 0, V.int 1, V.int d4, V.bl true, V.str (Str.ofString (toString s.t)), V.non, V.ref a5, V.int (-s.t), V.int (1000000000000000000000000000000 - 1)] ++ [V.int s.t]) w0 (by simpa using w1)
      have hv : ∃ kd, TyN H9 v kd := by
        have g5 := List.mem_of_getElem? g5
        simp only [List.cons_append, List.nil_append, List.mem_cons, List.mem_nil_iff, or_false] at g5
        rcases g5 with rfl | rfl | rfl | rfl | rfl | rfl | rfl | rfl | rfl | rfl | rfl | rfl
        · exact ⟨_, .int⟩
        · exact ⟨_, .int⟩
        · exact ⟨_, .int⟩
        · exact ⟨_, .int⟩
        · exact ⟨_, .int⟩
        · exact ⟨_, .bl⟩
        · exact ⟨_, .str⟩
        · exact ⟨_, .non⟩
        · exact ⟨_, .lst (k79.get0 e57)⟩
        · exact ⟨_, .int⟩
        · exact ⟨_, .int⟩
        · exact ⟨_, .int⟩
      obtain ⟨kd, hv⟩ := hv
      refine s_ixl e9 g6 ?_
      walk_at "u"
      walk_at "na"
      intro t H10 ft et jt
      walk_at "u"
      have k09 := k07.trans k79.nil
      have B9 := B7.kp k79
      exact k t w v kd _ (fin k09 ft (B9.more (by omega))) et (hv.kp jt) (fun e => absurd e hw) ((B9.kp jt).more (by omega)) (k09.trans jt.nil)
    · walk_at "u"
      walk_at "na"
      intro t H10 ft et jt
      walk_at "u"
      exact k t w _ _ _ (fin k07 ft (B7.more (by omega))) et .int (fun e => absurd e hw) ((B7.kp jt).more (by omega)) (k07.trans jt.nil)
structure Ok (b : Int) (s : S3) : Prop where
  t0 : 0 ≤ s.t
  t1 : s.t ≤ b
  s : ∀ q, s.s = some q → 1 ≤ q.1 ∧ q.1 ≤ s.t ∧ SS q.2 20
theorem Ok.okp {b : Int} {s : S3} (h : Ok b s) (hb : b ≤ 1000000) : okp s.s := fun q e => by
  obtain ⟨h1, h2, h3⟩ := h.s q e
  have := h.t1
  exact ⟨h1, by omega, h3⟩
theorem Ok.more {b b' : Int} {s : S3} (h : Ok b s) (e : b ≤ b') : Ok b' s := ⟨h.t0, by have := h.t1; omega, h.s⟩
theorem Ok.step {b : Int} {s : S3} {w : Wd} {v : V} (h : Ok b s) (hv : w = .lock → ∃ z, v = .str z ∧ SS z 20) : Ok (b + 1) (step s w v).1 := by
  have h' : Ok (b + 1) s := h.more (by omega)
  have h0 : Ok (b + 1) ⟨s.t, none, false⟩ := ⟨h'.t0, h'.t1, fun q e => by cases e⟩
  cases w with
  | lock =>
    obtain ⟨z, rfl, hz⟩ := hv rfl
    unfold K21.step
    cases e : s.s with
    | some q => simp only []; exact h'
    | none =>
      have := h.t0
      have := h.t1
      exact ⟨by simp only []; omega, by simp only []; omega, fun q e => by cases e; exact ⟨by simp only []; omega, by simp only []; omega, hz⟩⟩
  | opens =>
    unfold K21.step
    simp only []
    split
    · exact h'
    · exact ⟨h'.t0, h'.t1, h'.s⟩
  | ended =>
    unfold K21.step
    cases e : s.s with
    | none => simp only []; exact h'
    | some q =>
      simp only []
      split
      · exact h0
      · exact h'
  | unlock =>
    unfold K21.step
    cases e : s.s with
    | none => simp only []; exact h'
    | some q =>
      simp only []
      split
      · exact h0
      · exact h'
theorem nat_small {i : Int} (h0 : 0 ≤ i) (h1 : i ≤ 1000001) : i.natAbs < 10 ^ 100 := by
  have : i.natAbs ≤ 1000001 := by omega
  exact Nat.lt_of_le_of_lt this (by decide +kernel)
theorem step_sh {b : Int} {s : S3} {w : Wd} {v : V} (h : Ok b s) (hb : b ≤ 1000000) : SS (step s w v).2.1 100 ∧ ∃ d, (∀ H, Dn K H (step s w v).2.2 d) ∧ good d ∧ d.depth ≤ 50 ∧ sz d ≤ 10000 := by
  have h1 : SS ("told" : Str) 100 := SS.mk' (by decide +kernel)
  have h2 : SS ("shut" : Str) 100 := SS.mk' (by decide +kernel)
  have h3 : SS ("no right" : Str) 100 := SS.mk' (by decide +kernel)
  have h4 : SS ("not shut" : Str) 100 := SS.mk' (by decide +kernel)
  have h5 : SS ("" : Str) 100 := SS.mk' (by decide +kernel)
  have t0 := h.t0
  have t1 := h.t1
  have pN : ∃ d, (∀ H, Dn K H V.non d) ∧ good d ∧ d.depth ≤ 50 ∧ sz d ≤ 10000 := ⟨_, fun _ => .non, by simp [good], by simp [PyData.depth], by simp [sz]⟩
  have pB : ∀ c : Bool, ∃ d, (∀ H, Dn K H (V.bl c) d) ∧ good d ∧ d.depth ≤ 50 ∧ sz d ≤ 10000 := fun c => ⟨_, fun _ => .bl c, by simp [good], by simp [PyData.depth], by simp [sz]⟩
  have pI : ∀ c : Int, 0 ≤ c → c ≤ 1000001 → ∃ d, (∀ H, Dn K H (V.int c) d) ∧ good d ∧ d.depth ≤ 50 ∧ sz d ≤ 10000 := fun c c0 c1 => ⟨_, fun _ => .int c, nat_small c0 c1, by simp [PyData.depth], by simp [sz]⟩
  have pS : ∀ z : Str, SS z 20 → ∃ d, (∀ H, Dn K H (V.str z) d) ∧ good d ∧ d.depth ≤ 50 ∧ sz d ≤ 10000 := fun z hz => ⟨_, fun _ => .str z, fun c hc => Nat.lt_trans (hz.ok c hc) (by decide), by simp [PyData.depth], by have := hz.len; simp only [sz]; omega⟩
  cases w with
  | lock =>
    unfold step
    cases e : s.s with
    | some q => exact ⟨h2, pS _ (h.s q e).2.2⟩
    | none =>
      simp only []
      split
      · exact ⟨h1, pI _ (by omega) (by omega)⟩
      · exact ⟨h5, pN⟩
  | opens =>
    unfold step
    simp only []
    split
    · exact ⟨h1, pB _⟩
    · exact ⟨h1, pB _⟩
  | ended =>
    unfold step
    cases e : s.s with
    | none => exact ⟨h4, pN⟩
    | some q =>
      have := h.s q e
      simp only []
      split
      · exact ⟨h1, pN⟩
      · exact ⟨h3, pI _ (by omega) (by omega)⟩
  | unlock =>
    unfold step
    cases e : s.s with
    | none => exact ⟨h4, pN⟩
    | some q =>
      have := h.s q e
      simp only []
      split
      · exact ⟨h1, pN⟩
      · exact ⟨h3, pI _ (by omega) (by omega)⟩
def dD : Option Pair → PyData
  | none => .none
  | some q => .tuple [.int q.1, .str q.2]
def rowD (s : S3) : PyData := .list [.int s.t, dD s.s, .bool s.b]
theorem VisO.dn {H : Hp} {v : V} {o : Option Pair} (h : VisO H v o) : Dn K H v (dD o) := by
  cases o with
  | none => rw [show v = .non from h]; exact .non
  | some q => obtain ⟨b, rfl, e⟩ := h; exact .tup (SqT.of e) (.cons (.int _) (.cons (.str _) .nil))
theorem OneR.dn {H : Hp} {r : Addr} {s : S3} (h : OneR H r s) : Dn K H (.ref r) (rowD s) := by
  obtain ⟨R, e, a⟩ := h
  exact .lst (Or.inl e) (.cons (.int _) (.cons a.dn (.cons (.bl _) .nil)))
theorem dD_ok {o : Option Pair} (h : okp o) : good (dD o) ∧ (dD o).depth ≤ 2 ∧ sz (dD o) ≤ 400 := by
  cases o with
  | none => exact ⟨by simp [dD, good], by simp [dD, PyData.depth], by simp [dD, sz]⟩
  | some q =>
    obtain ⟨h1, h2, h3⟩ := h q rfl
    have := h3.len
    refine ⟨?_, by simp [dD, PyData.depth, PyData.depthAll], by simp [dD, sz, szA]; omega⟩
    simp only [dD, good, goodA, and_true]
    exact ⟨nat_small (by omega) (by omega), fun c hc => Nat.lt_trans (h3.ok c hc) (by decide)⟩
theorem rowD_ok {b : Int} {s : S3} (h : Ok b s) (hb : b ≤ 1000000) : good (rowD s) ∧ (rowD s).depth ≤ 3 ∧ sz (rowD s) ≤ 1000 := by
  obtain ⟨a1, a2, a3⟩ := dD_ok (h.okp hb)
  refine ⟨?_, ?_, ?_⟩
  · simp only [rowD, good, goodA, and_true]
    exact ⟨nat_small h.t0 (by have := h.t1; omega), a1⟩
  · simp only [rowD, PyData.depth, PyData.depthAll]
    omega
  · simp only [rowD, sz, szA]
    omega
theorem rows_ok {b : Int} (hb : b ≤ 1000000) : ∀ {sts : List S3}, (∀ s ∈ sts, Ok b s) → goodA (sts.map rowD) ∧ PyData.depthAll (sts.map rowD) ≤ 3 ∧ szA (sts.map rowD) ≤ 1002 * sts.length
  | [], _ => ⟨trivial, by simp [PyData.depthAll], by simp [szA]⟩
  | s :: r, h => by
    obtain ⟨a1, a2, a3⟩ := rowD_ok (h s (by simp)) hb
    obtain ⟨b1, b2, b3⟩ := rows_ok hb (sts := r) fun x hx => h x (by simp [hx])
    refine ⟨⟨a1, b1⟩, ?_, ?_⟩
    · simp only [List.map_cons, PyData.depthAll]; omega
    · simp only [List.map_cons, szA, List.length_cons]; omega
theorem rows_dn {H : Hp} : ∀ {rs : List Addr} {sts : List S3}, rs.length = sts.length → (∀ (i : Nat) r s, rs[i]? = some r → sts[i]? = some s → OneR H r s) → DnA K H (rs.map V.ref) (sts.map rowD)
  | [], [], _, _ => .nil
  | r :: rs, s :: sts, hl, h => .cons (h 0 r s rfl rfl).dn (rows_dn (by simpa using hl) fun i r' s' e1 e2 => h (i + 1) r' s' e1 e2)
theorem rows_sh {b : Int} {H : Hp} {p : Addr} {rs : List Addr} {sts : List S3} (e : H p = some (.lst (rs.map V.ref))) (hl : rs.length = sts.length) (h : ∀ (i : Nat) r s, rs[i]? = some r → sts[i]? = some s → OneR H r s) (ok : ∀ s ∈ sts, Ok b s) (hb : b ≤ 1000000) (l6 : sts.length ≤ 6) : Sh K H (.ref p) (.list (sts.map rowD)) := by
  obtain ⟨a1, a2, a3⟩ := rows_ok hb ok
  exact ⟨.lst (Or.inl e) (rows_dn hl h), a1, by simp only [PyData.depth]; omega, by simp only [sz]; omega⟩
/-- all that is between the turns -/
structure All (T : Tx K mg) (H0 H : Hp) (l : Addr) (zs : List Str) (hl rl : Addr) (hs rs : List Addr) (sts : List S3) (b : Int) : Prop where
  kz : Kp [] H0 H
  el : H l = some (.lst (zs.map V.str))
  z4 : zs.length = 4
  zok : ∀ z ∈ zs, SS z 20
  eh : H hl = some (.lst (hs.map V.ref))
  er : H rl = some (.lst (rs.map V.ref))
  lh : hs.length = sts.length
  lr : rs.length = sts.length
  l2 : 2 ≤ sts.length
  l6 : sts.length ≤ 6
  oh : ∀ (i : Nat) h s, hs[i]? = some h → sts[i]? = some s → OneH T H h s
  or : ∀ (i : Nat) r s, rs[i]? = some r → sts[i]? = some s → OneR H r s
  ok : ∀ s ∈ sts, Ok b s
  hb : b ≤ 1000000
  nd : (l :: hl :: rl :: (hs ++ rs)).Nodup
  fr : ∀ q ∈ hl :: rl :: (hs ++ rs), H0 q = none
theorem All.kpn {T : Tx K mg} {H0 H H2 : Hp} {l hl rl : Addr} {zs : List Str} {hs rs : List Addr} {sts : List S3} {b : Int} {ps : List Addr} (h : All T H0 H l zs hl rl hs rs sts b) (k : Kp ps H H2) (kz : Kp [] H0 H2) (n : ∀ q ∈ l :: hl :: rl :: (hs ++ rs), q ∉ ps) (nt : ∀ q ∈ ps, Nt H q) : All T H0 H2 l zs hl rl hs rs sts b :=
  ⟨kz, k.get h.el (n _ (by simp)), h.z4, h.zok, k.get h.eh (n _ (by simp)), k.get h.er (n _ (by simp)), h.lh, h.lr, h.l2, h.l6,
    fun i x s e1 e2 => (h.oh i x s e1 e2).kpn k (n _ (by simp [List.mem_of_getElem? e1])) nt, fun i x s e1 e2 => (h.or i x s e1 e2).kpn k (n _ (by simp [List.mem_of_getElem? e1])) nt, h.ok, h.hb, h.nd, h.fr⟩
theorem All.kp {T : Tx K mg} {H0 H H2 : Hp} {l hl rl : Addr} {zs : List Str} {hs rs : List Addr} {sts : List S3} {b : Int} (h : All T H0 H l zs hl rl hs rs sts b) (k : Kp [] H H2) : All T H0 H2 l zs hl rl hs rs sts b :=
  h.kpn k (h.kz.trans k) (by simp) (by simp)
def sp_law_same (T : Tx K mg) : Sp := sp2 fun x y H Q _ => ∃ H0 l zs hl rl hs rs sts b, x = .ref hl ∧ y = .ref rl ∧ All T H0 H l zs hl rl hs rs sts b ∧ ∀ H', Kp [] H H' → Q (.bl true) H'
set_option maxHeartbeats 16000000 in
theorem ok_law_same (T : Tx K mg) (hs : ∃ mm, base.Ns sysModules mm) : FnG P w K mg base (L2.CX P w) 2 T.a_law_same T.d_law_same ["_law_keepers", "_law_rows"] (sp_law_same T) := by
  have G_Keeper_times := ok_Keeper_times (P := P) (w := w) (base := base) T
  have G_Keeper_locked := ok_Keeper_locked (P := P) (w := w) (base := base) T
  have G_Keeper_is_open := ok_Keeper_is_open (P := P) (w := w) (base := base) T
  refine okG T.F_law_same sc_law_same (fun vs H Q E h => ?_) (fun cd A o s H vs Q E hg hr h => ?_)
  · obtain ⟨v0, v1, rfl, h⟩ := h; rfl
  obtain ⟨v0, v1, rfl, h⟩ := h
  obtain ⟨H0, l, zs, hl, rl, hs', rs, sts, b, rfl, rfl, hA, k⟩ := h
  refine ⟨_, (pss_cons (ps_setLc (i := 2) (own := [("_law_keeper", 3)]) rfl sc_law_same.nd rfl rfl (sw_true rfl rfl rfl (by decide +kernel)) (pi_lst (K := K) rfl (pv 0)) (blkOk_by (own := [("_law_keeper", 3)]) (N := N_law_same) (sc := defScope s_law_same) (by decide +kernel)) (fun _ _ _ _ _ => (pg_name (i := 3) sc_law_same.nd rfl (Or.inl rfl))) (fun _ _ _ _ _ => pts_nil) (fun _ _ _ _ _ => (pe_lst (pa_cons (pe_mo0 T.cl_Keeper T.M_Keeper_times G_Keeper_times (hr.mono (by decide)) T.B_Keeper_times takes0 (pv 3)) (pa_cons (pe_mo0 T.cl_Keeper T.M_Keeper_locked G_Keeper_locked (hr.mono (by decide)) T.B_Keeper_locked takes0 (pv 3)) (pa_cons (pe_mo0 T.cl_Keeper T.M_Keeper_is_open G_Keeper_is_open (hr.mono (by decide)) T.B_Keeper_is_open takes0 (pv 3)) pa_nil))))))
    (pss_one (ps_ret (pe_cmpR (o_eq (K := K) rfl hr) (pe_callB (c_repr (K := K) rfl hg hr hs) rfl T.z_repr bt_repr (pa_cons (pv 2) pa_nil)) (pe_callB (c_repr (K := K) rfl hg hr hs) rfl T.z_repr bt_repr (pa_cons (pv 1) pa_nil)) (nomark _))))), ?_⟩
  have eh := hA.eh
  walk_at "u"
  refine s_ilst (SqL.of eh) ?_
  intro D hD
  refine lc_it (walk_list (xs := hs'.map V.ref)) (PvD D fun i acc H' => Kp [D] H H' ∧ ∃ cs : List Addr, acc = cs.map V.ref ∧ cs.length = i ∧ D ∉ cs ∧ ∀ (j : Nat) c s, cs[j]? = some c → sts[j]? = some s → OneR H' c s)
    (PvD.start ⟨Kp.refl.new hD, [], rfl, rfl, by simp, fun j c s e => by simp at e⟩) (fun _ _ _ h => by obtain ⟨acc, _, kk, _⟩ := h; exact SqL.of (kk.get1 eh (ne_of_none eh hD))) ?_ ?_
  · rintro i x H2 H3 hi ⟨acc, e, kk, cs, rfl, hl', nD, ho⟩ ⟨rfl, ex⟩
    rw [List.getElem?_map] at ex
    obtain ⟨h, eh', rfl⟩ := Option.map_eq_some_iff.mp ex
    have hi' : i < sts.length := by rw [← hA.lh]; exact (List.getElem?_eq_some_iff.mp eh').1
    have es : sts[i]? = some sts[i] := List.getElem?_eq_getElem hi'
    obtain ⟨R, a1, a2⟩ := (hA.oh i h _ eh' es)
    have nt : ∀ q ∈ [D], Nt H q := nt1 (Nt.none hD)
    have b1 := a1.kpn kk (by simpa using (a1.ne hD).symm)
    have b2 := a2.kpn kk nt
    walk_at "u"
    refine ⟨rfl, ?_⟩
    walk_at "u"
    refine ⟨_, rfl, h, _, R, _, rfl, b1, ?_⟩
    walk_at "u"
    refine ⟨_, rfl, h, _, R, _, rfl, b1, ?_⟩
    walk_at "u"
    refine ⟨_, rfl, h, _, R, _, rfl, b1, ?_⟩
    walk_at "u"
    walk_at "na"
    intro c H4 fc ec jc
    have e4 := jc.get0 e
    have nc : c ≠ D := (ne_of_none e fc).symm
    refine PvD.more e4 (zlt ?_) ⟨((kk.trans jc.nil).put (by simp)), cs ++ [c], by rw [List.map_append]; rfl, by simp [hl'], by simp; exact ⟨nD, nc.symm⟩, ?_⟩
    · rw [List.length_map, hl']
      have := hA.l6
      omega
    · intro j c' s' q1 q2
      have jp : ∀ {r s}, r ≠ D → OneR H4 r s → OneR (upd H4 D (.lst (cs.map V.ref ++ [.ref c]))) r s := fun n o => o.kpn (ps := [D]) (Kp.refl.put (by simp)) (by simpa using n) (nt1 (Nt.lst e4))
      rcases Nat.lt_or_ge j cs.length with hj | hj
      · rw [List.getElem?_append_left hj] at q1
        exact jp (fun z => nD (z ▸ List.mem_of_getElem? q1)) ((ho j c' s' q1 q2).kpn jc (by simp) (by simp))
      · rw [List.getElem?_append_right hj] at q1
        have hj0 : j - cs.length = 0 := by
          have := (List.getElem?_eq_some_iff.mp q1).1
          simp at this
          omega
        rw [hj0] at q1
        obtain rfl : c = c' := by simpa using q1
        obtain rfl : j = i := by omega
        rw [es] at q2
        obtain rfl : sts[j] = s' := by simpa using q2
        exact jp nc ⟨R, ec, b2.kpn jc (by simp)⟩
  · rintro H2 ⟨acc, e, kk, cs, rfl, hl', nD, ho⟩
    have k2 : Kp [] H H2 := kk.drop hD
    have hA2 := hA.kp k2
    walk_at "u"
    refine s_rep (rows_sh e (by rw [hl', List.length_map]; exact hA.lh) ho hA.ok hA.hb hA.l6) ?_
    walk_at "u"
    refine s_rep (rows_sh hA2.er hA2.lr hA2.or hA.ok hA.hb hA.l6) ?_
    walk_at "u"
    rw [decide_eq_true rfl]
    exact k _ k2
theorem nd_inj {α : Type} {xs : List α} {i j : Nat} {x y : α} (nd : xs.Nodup) (h1 : xs[i]? = some x) (h2 : xs[j]? = some y) (n : i ≠ j) : x ≠ y := fun e => by
  subst e
  exact n ((List.getElem?_inj (List.getElem?_eq_some_iff.mp h1).1 nd).mp (h1.trans h2.symm))
theorem set_at {α : Type} {xs : List α} {i j : Nat} {x y : α} (h : (xs.set j y)[i]? = some x) (n : i ≠ j) : xs[i]? = some x := by
  rwa [List.getElem?_set_ne (Ne.symm n)] at h
theorem set_here {α : Type} {xs : List α} {j : Nat} {x y : α} (h : (xs.set j y)[j]? = some x) : x = y := by
  obtain ⟨h1, h2⟩ := List.getElem?_eq_some_iff.mp h
  rw [List.getElem_set_self] at h2
  exact h2.symm
theorem app_at {α : Type} {xs : List α} {i : Nat} {x y : α} (h : (xs ++ [y])[i]? = some x) : (i < xs.length ∧ xs[i]? = some x) ∨ (i = xs.length ∧ x = y) := by
  rcases Nat.lt_or_ge i xs.length with hj | hj
  · rw [List.getElem?_append_left hj] at h; exact Or.inl ⟨hj, h⟩
  · rw [List.getElem?_append_right hj] at h
    have hj0 : i - xs.length = 0 := by
      have := (List.getElem?_eq_some_iff.mp h).1
      simp at this
      omega
    rw [hj0] at h
    exact Or.inr ⟨by omega, by simpa using h.symm⟩
section
variable {T : Tx K mg} {H0 H H2 : Hp} {l hl rl : Addr} {zs : List Str} {hs rs : List Addr} {sts : List S3} {b : Int}
theorem All.nh (h : All T H0 H l zs hl rl hs rs sts b) : hs.Nodup ∧ rs.Nodup ∧ (∀ x ∈ hs, ∀ y ∈ rs, x ≠ y) ∧ (∀ x ∈ hs ++ rs, l ≠ x ∧ hl ≠ x ∧ rl ≠ x) ∧ l ≠ hl ∧ l ≠ rl ∧ hl ≠ rl := by
  have := h.nd
  simp only [List.nodup_cons, List.mem_cons, not_or] at this
  obtain ⟨⟨a1, a2, a3⟩, ⟨b1, b2⟩, c1, d⟩ := this
  obtain ⟨d1, d2, d3⟩ := List.nodup_append.mp d
  refine ⟨d1, d2, fun x hx y hy => d3 x hx y hy, fun x hx => ⟨?_, ?_, ?_⟩, a1, a2, b1⟩
  · rintro rfl; exact a3 hx
  · rintro rfl; exact b2 hx
  · rintro rfl; exact c1 hx
theorem All.set {j : Nat} {b' : Int} {hh r : Addr} {s' : S3} (h : All T H0 H l zs hl rl hs rs sts b) (e1 : hs[j]? = some hh) (e2 : rs[j]? = some r) (k : Kp [hh, r] H H2) (nt : ∀ q ∈ [hh, r], Nt H q) (kz : Kp [] H0 H2) (oh : OneH T H2 hh s') (or : OneR H2 r s') (ok : Ok b' s') (bb : b ≤ b') (hb' : b' ≤ 1000000) : All T H0 H2 l zs hl rl hs rs (sts.set j s') b' := by
  obtain ⟨n1, n2, n3, n4, n5, n6, n7⟩ := h.nh
  have m1 := List.mem_of_getElem? e1
  have m2 := List.mem_of_getElem? e2
  have x1 := n4 hh (by simp [m1])
  have x2 := n4 r (by simp [m2])
  refine ⟨kz, k.get h.el (by simp; exact ⟨x1.1, x2.1⟩), h.z4, h.zok, k.get h.eh (by simp; exact ⟨x1.2.1, x2.2.1⟩), k.get h.er (by simp; exact ⟨x1.2.2, x2.2.2⟩), by rw [List.length_set]; exact h.lh, by rw [List.length_set]; exact h.lr, by rw [List.length_set]; exact h.l2, by rw [List.length_set]; exact h.l6, ?_, ?_, ?_, hb', h.nd, h.fr⟩
  · intro i x s0 q1 q2
    by_cases e : i = j
    · subst e
      rw [q1] at e1; cases e1
      rw [set_here q2]; exact oh
    · have q2 := set_at q2 e
      exact (h.oh i x s0 q1 q2).kpn k (by simp; exact ⟨nd_inj n1 q1 e1 e, n3 x (List.mem_of_getElem? q1) r m2⟩) nt
  · intro i x s0 q1 q2
    by_cases e : i = j
    · subst e
      rw [q1] at e2; cases e2
      rw [set_here q2]; exact or
    · have q2 := set_at q2 e
      exact (h.or i x s0 q1 q2).kpn k (by simp; exact ⟨(n3 hh m1 x (List.mem_of_getElem? q1)).symm, nd_inj n2 q1 e2 e⟩) nt
  · intro s0 hs0
    rcases List.mem_or_eq_of_mem_set hs0 with h0 | h0
    · exact (h.ok s0 h0).more bb
    · rw [h0]; exact ok
theorem All.more {b' : Int} (h : All T H0 H l zs hl rl hs rs sts b) (e : b ≤ b') (e2 : b' ≤ 1000000) : All T H0 H l zs hl rl hs rs sts b' :=
  ⟨h.kz, h.el, h.z4, h.zok, h.eh, h.er, h.lh, h.lr, h.l2, h.l6, h.oh, h.or, fun s hs => (h.ok s hs).more e, e2, h.nd, h.fr⟩
theorem All.there (h : All T H0 H l zs hl rl hs rs sts b) : ∀ q ∈ l :: hl :: rl :: (hs ++ rs), ∃ o, H q = some o := by
  intro q hq
  simp only [List.mem_cons, List.mem_append] at hq
  rcases hq with rfl | rfl | rfl | hq | hq
  · exact ⟨_, h.el⟩
  · exact ⟨_, h.eh⟩
  · exact ⟨_, h.er⟩
  · obtain ⟨i, hi, e⟩ := List.getElem_of_mem hq
    obtain ⟨R, ⟨dx, e2⟩, _⟩ := h.oh i q (sts[i]'(by rw [← h.lh]; exact hi)) (by rw [List.getElem?_eq_getElem hi, e]) (List.getElem?_eq_getElem _)
    exact ⟨_, e2⟩
  · obtain ⟨i, hi, e⟩ := List.getElem_of_mem hq
    obtain ⟨R, e2, _⟩ := h.or i q (sts[i]'(by rw [← h.lr]; exact hi)) (by rw [List.getElem?_eq_getElem hi, e]) (List.getElem?_eq_getElem _)
    exact ⟨_, e2⟩
theorem All.push {x y : Addr} {s : S3} (h : All T H0 H l zs hl rl hs rs sts b) (k : Kp [hl, rl] H H2) (kz : Kp [] H0 H2) (fx : H x = none) (fy : H y = none) (nxy : x ≠ y) (e1 : H2 hl = some (.lst ((hs ++ [x]).map V.ref))) (e2 : H2 rl = some (.lst ((rs ++ [y]).map V.ref)))
    (ox : OneH T H2 x s) (oy : OneR H2 y s) (ok : Ok b s) (l6 : sts.length < 6) : All T H0 H2 l zs hl rl (hs ++ [x]) (rs ++ [y]) (sts ++ [s]) b := by
  obtain ⟨n1, n2, n3, n4, n5, n6, n7⟩ := h.nh
  have nt : ∀ q ∈ [hl, rl], Nt H q := by
    intro q hq
    simp only [List.mem_cons, List.mem_nil_iff, or_false] at hq
    rcases hq with rfl | rfl
    · exact Nt.lst h.eh
    · exact Nt.lst h.er
  have sx : ∀ q ∈ l :: hl :: rl :: (hs ++ rs), q ≠ x := fun q hq e => by obtain ⟨o, eo⟩ := h.there q hq; rw [e, fx] at eo; cases eo
  have sy : ∀ q ∈ l :: hl :: rl :: (hs ++ rs), q ≠ y := fun q hq e => by obtain ⟨o, eo⟩ := h.there q hq; rw [e, fy] at eo; cases eo
  refine ⟨kz, k.get h.el (by simp; exact ⟨n5, n6⟩), h.z4, h.zok, e1, e2, by simp [h.lh], by simp [h.lr], by have := h.l2; simp; omega, by simp; omega, ?_, ?_, ?_, h.hb, ?_, ?_⟩
  · intro i z s0 q1 q2
    rcases app_at q1 with ⟨hi, q1⟩ | ⟨hi, rfl⟩
    · rcases app_at q2 with ⟨_, q2⟩ | ⟨hi2, rfl⟩
      · have := n4 z (by simp [List.mem_of_getElem? q1])
        exact (h.oh i z s0 q1 q2).kpn k (by simp; exact ⟨this.2.1.symm, this.2.2.symm⟩) nt
      · have := h.lh; omega
    · rcases app_at q2 with ⟨hi2, q2⟩ | ⟨hi2, rfl⟩
      · have := h.lh; omega
      · exact ox
  · intro i z s0 q1 q2
    rcases app_at q1 with ⟨hi, q1⟩ | ⟨hi, rfl⟩
    · rcases app_at q2 with ⟨_, q2⟩ | ⟨hi2, rfl⟩
      · have := n4 z (by simp [List.mem_of_getElem? q1])
        exact (h.or i z s0 q1 q2).kpn k (by simp; exact ⟨this.2.1.symm, this.2.2.symm⟩) nt
      · have := h.lr; omega
    · rcases app_at q2 with ⟨hi2, q2⟩ | ⟨hi2, rfl⟩
      · have := h.lr; omega
      · exact oy
  · intro s0 hs0
    rcases List.mem_append.mp hs0 with h0 | h0
    · exact h.ok s0 h0
    · rw [List.mem_singleton.mp h0]; exact ok
  · have nd := h.nd
    simp only [List.nodup_cons, List.mem_cons, List.mem_append, List.nodup_append, not_or, List.mem_singleton, List.mem_nil_iff, or_false] at nd sx sy ⊢
    grind
  · intro q hq
    have kzz := h.kz
    have fx0 := kzz.fresh0 fx
    have fy0 := kzz.fresh0 fy
    have := h.fr
    simp only [List.mem_cons, List.mem_append, List.mem_nil_iff, or_false] at hq this
    rcases hq with rfl | rfl | (hq | rfl) | (hq | rfl)
    · exact this _ (by simp)
    · exact this _ (by simp)
    · exact this _ (by simp [hq])
    · exact fx0
    · exact this _ (by simp [hq])
    · exact fy0
end
theorem sh2 {H : Hp} {p : Addr} {x : Str} {v : V} {d : PyData} (e : H p = some (.tup [.str x, v])) (hx : SS x 100) (h : Dn K H v d) (g : good d) (dp : d.depth ≤ 50) (s : sz d ≤ 10000) : Sh K H (.ref p) (.tuple [.str x, d]) := by
  have := hx.len
  refine ⟨.tup (SqT.of e) (.cons (.str _) (.cons h .nil)), ?_, by simp [PyData.depth, PyData.depthAll]; omega, by simp [sz, szA]; omega⟩
  simp only [good, goodA, and_true]
  exact ⟨fun c hc => Nat.lt_trans (hx.ok c hc) (by decide), g⟩
def sp_law (K : PySem.W.Frag) : Sp := sp1 fun x H Q _ => ∃ (a : Addr) (ns : List Int), x = .ref a ∧ SqL K H a (ns.map V.int) ∧ ns.length ≤ 63 ∧ ∀ H', Q (.bl true) H'
set_option maxHeartbeats 16000000 in
theorem ok_law (T : Tx K mg) (hs : ∃ mm, base.Ns sysModules mm) : FnG P w K mg base (L2.CX P w) 5 T.a_law T.d_law ["_law_script"] (sp_law K) := by
  have G_law_box := ok_law_box (P := P) (w := w) (base := base) T
  have G_law_names := ok_law_names (P := P) (w := w) (base := base) T
  have G_law_cell := ok_law_cell (P := P) (w := w) (base := base) T
  have G_Keeper_init := ok_Keeper_init (P := P) (w := w) (base := base) T
  have G_law_take := ok_law_take (P := P) (w := w) (base := base) T
  have G_law_deed := ok_law_deed (P := P) (w := w) (base := base) T
  have G_law_said := ok_law_said (P := P) (w := w) (base := base) T
  have G_law_same := ok_law_same (P := P) (w := w) (base := base) T hs
  have G_Keeper_twin := ok_Keeper_twin (P := P) (w := w) (base := base) T
  have G_law_done := ok_law_done (P := P) (w := w) (base := base) T
  refine okG T.F_law sc_law (fun vs H Q E h => ?_) (fun cd A o s H vs Q E hg hr h => ?_)
  · obtain ⟨v0, rfl, h⟩ := h; rfl
  obtain ⟨v0, rfl, h⟩ := h
  obtain ⟨a, ns, rfl, hS, hl63, k⟩ := h
  refine ⟨_, (pss_cons (ps_set (i := 1) sc_law.nd rfl (Or.inl rfl) (pe_co G_law_box (hr.mono (by decide)) rfl T.m_law_box T.F_law_box.kp T.B_law_box (takes_of (E := E) rfl rfl rfl rfl) (pa_cons (pe_co G_law_cell (hr.mono (by decide)) rfl T.m_law_cell T.F_law_cell.kp T.B_law_cell (takes_of (E := E) rfl rfl rfl rfl) (pa_cons (pv 0) (pa_cons pe_int pa_nil))) pa_nil)))
    (pss_cons (ps_set (i := 2) sc_law.nd rfl (Or.inl rfl) (pe_co G_law_names (hr.mono (by decide)) rfl T.m_law_names T.F_law_names.kp T.B_law_names (takes_of (E := E) rfl rfl rfl rfl) (pa_cons (pv 1) (pa_cons pe_int pa_nil))))
    (pss_cons (ps_set (i := 3) sc_law.nd rfl (Or.inl rfl) (pe_lst (pa_cons (pe_nw0 T.mk_Keeper G_Keeper_init (hr.mono (by decide)) rfl T.m_Keeper T.B_Keeper_init (takes_of (E := E) rfl rfl rfl rfl)) (pa_cons (pe_nw0 T.mk_Keeper G_Keeper_init (hr.mono (by decide)) rfl T.m_Keeper T.B_Keeper_init (takes_of (E := E) rfl rfl rfl rfl)) pa_nil))))
    (pss_cons (ps_set (i := 4) sc_law.nd rfl (Or.inl rfl) (pe_lst (pa_cons (pe_lst (pa_cons pe_int (pa_cons pe_non (pa_cons pe_bl pa_nil)))) (pa_cons (pe_lst (pa_cons pe_int (pa_cons pe_non (pa_cons pe_bl pa_nil)))) pa_nil))))
    (pss_cons (ps_for PassesOwn.leaving rfl (pi_range2 rfl T.z_range (pa_cons pe_int (pa_cons (pe_callB (c_max rfl) rfl T.z_max bt_max (pa_cons pe_int (pa_cons (pe_callB (c_min rfl) rfl T.z_min bt_min (pa_cons (pe_callB (c_len (K := K) rfl) rfl T.z_len bt_len (pa_cons (pv 0) pa_nil)) (pa_cons pe_int pa_nil))) pa_nil))) pa_nil))) (pg_name (i := 5) sc_law.nd rfl (Or.inl rfl))
    (pss_cons (ps_set (i := 1) sc_law.nd rfl (Or.inl rfl) (pe_co G_law_box (hr.mono (by decide)) rfl T.m_law_box T.F_law_box.kp T.B_law_box (takes_of (E := E) rfl rfl rfl rfl) (pa_cons (pe_co G_law_cell (hr.mono (by decide)) rfl T.m_law_cell T.F_law_cell.kp T.B_law_cell (takes_of (E := E) rfl rfl rfl rfl) (pa_cons (pv 0) (pa_cons (pv 5) pa_nil))) pa_nil)))
    (pss_cons (ps_set (i := 6) sc_law.nd rfl (Or.inl rfl) (pe_co G_law_take (hr.mono (by decide)) rfl T.m_law_take T.F_law_take.kp T.B_law_take (takes_of (E := E) rfl rfl rfl rfl) (pa_cons (pv 1) (pa_cons (pe_callB (c_len (K := K) rfl) rfl T.z_len bt_len (pa_cons (pv 3) pa_nil)) pa_nil))))
    (pss_cons (ps_for PassesOwn.leaving rfl (pi_range1 rfl T.z_range (pa_cons (pe_op (o_add (K := K) rfl) pe_int (pe_co G_law_take (hr.mono (by decide)) rfl T.m_law_take T.F_law_take.kp T.B_law_take (takes_of (E := E) rfl rfl rfl rfl) (pa_cons (pv 1) (pa_cons pe_int pa_nil)))) pa_nil)) (pg_name (i := 7) sc_law.nd rfl (Or.inl rfl))
    (pss_cons (ps_set (i := 8) sc_law.nd rfl (Or.inl rfl) (pe_co G_law_deed (hr.mono (by decide)) rfl T.m_law_deed T.F_law_deed.kp T.B_law_deed (takes_of (E := E) rfl rfl rfl rfl) (pa_cons (pv 1) (pa_cons (pv 2) (pa_cons (pe_ix (ix_u (K := K) rfl) (pv 4) (pv 6) (fun _ _ => rfl)) pa_nil)))))
    (pss_cons (ps_set (i := 9) sc_law.nd rfl (Or.inl rfl) (pe_co G_law_said (hr.mono (by decide)) rfl T.m_law_said T.F_law_said.kp T.B_law_said (takes_of (E := E) rfl rfl rfl rfl) (pa_cons (pe_ix (ix_u (K := K) rfl) (pv 3) (pv 6) (fun _ _ => rfl)) (pa_cons (pv 8) pa_nil))))
    (pss_one (ps_if (PW.pt (pw_or (pt_cmpR (o_ne (K := K) rfl hr) (pe_callB (c_repr (K := K) rfl hg hr hs) rfl T.z_repr bt_repr (pa_cons (pv 9) pa_nil)) (pe_callB (c_repr (K := K) rfl hg hr hs) rfl T.z_repr bt_repr (pa_cons (pe_co G_law_done (hr.mono (by decide)) rfl T.m_law_done T.F_law_done.kp T.B_law_done (takes_of (E := E) rfl rfl rfl rfl) (pa_cons (pe_ix (ix_u (K := K) rfl) (pv 4) (pv 6) (fun _ _ => rfl)) (pa_cons (pv 8) pa_nil))) pa_nil)) (nomark _)) (pw_or1 (pt_not (pt_val (pe_cg G_law_same hg (hr.mono (by decide)) rfl T.m_law_same T.F_law_same.kp T.B_law_same (takes_of (E := E) rfl rfl rfl rfl) (pa_cons (pv 3) (pa_cons (pv 4) pa_nil))))))))
    (pss_one (ps_ret pe_bl))
    pss_nil)))))
    (pss_cons (ps_if (PW.pt (pw_and (pt_cmpR (o_eq (K := K) rfl hr) (pe_co G_law_take (hr.mono (by decide)) rfl T.m_law_take T.F_law_take.kp T.B_law_take (takes_of (E := E) rfl rfl rfl rfl) (pa_cons (pv 1) (pa_cons pe_int pa_nil))) pe_int (nomark _)) (pw_and1 (pt_cmpR o_lt (pe_callB (c_len (K := K) rfl) rfl T.z_len bt_len (pa_cons (pv 3) pa_nil)) pe_int (nomark _)))))
    (pss_cons (ps_expr (pe_bm PySem.F.plainAttrs_list PySem.F.slot_list_append PySem.F.type_list_append mt_append (pv 3) (pa_cons (pe_mo0 T.cl_Keeper T.M_Keeper_twin G_Keeper_twin (hr.mono (by decide)) T.B_Keeper_twin (takes_of (E := E) rfl rfl rfl rfl) (pe_ix (ix_u (K := K) rfl) (pv 3) (pv 6) (fun _ _ => rfl))) pa_nil)))
    (pss_one (ps_expr (pe_bm PySem.F.plainAttrs_list PySem.F.slot_list_append PySem.F.type_list_append mt_append (pv 4) (pa_cons (pe_callTy (c_list (K := K) rfl) rfl T.z_list bt_list (pa_cons (pe_ix (ix_u (K := K) rfl) (pv 4) (pv 6) (fun _ _ => rfl)) pa_nil)) pa_nil)))))
    pss_nil)
    (pss_one (ps_if (pt_not (pt_val (pe_cg G_law_same hg (hr.mono (by decide)) rfl T.m_law_same T.F_law_same.kp T.B_law_same (takes_of (E := E) rfl rfl rfl rfl) (pa_cons (pv 3) (pa_cons (pv 4) pa_nil)))))
    (pss_one (ps_ret pe_bl))
    pss_nil)))))))
    (pss_one (ps_ret pe_bl))))))), ?_⟩
  walk_at "u"
  refine c_cell hS (by omega) (by omega) fun q0 => ?_
  walk_at "u"
  refine c_box fun p0 H1 f1 k1 B1 => ?_
  walk_at "u"
  refine ⟨_, _, rfl, p0, 0, rfl, rfl, B1, by omega, fun l zs H2 fl el hz4 hzs B2 k2 => ?_⟩
  have k02 : Kp [] H H2 := (k1.nil.trans k2).drop f1
  have fl0 : H l = none := k1.fresh0 fl
  walk_at "u"
  intro h1 dx1 H3 f3 e3 k3
  refine ⟨_, rfl, h1, dx1, rfl, e3, fun H4 a4 k4 => ⟨rfl, ?_⟩⟩
  have k24 : Kp [] H2 H4 := (k3.nil.trans k4).drop f3
  walk_at "u"
  intro h2 dx2 H5 f5 e5 k5
  refine ⟨_, rfl, h2, dx2, rfl, e5, fun H6 a6 k6 => ⟨rfl, ?_⟩⟩
  have k46 : Kp [] H4 H6 := (k5.nil.trans k6).drop f5
  walk_at "u"
  walk_at "na"
  intro hl H7 f7 e7 k7
  walk_at "u"
  walk_at "na"
  intro r1 H8 f8 e8 k8
  walk_at "u"
  walk_at "na"
  intro r2 H9 f9 e9 k9
  walk_at "u"
  walk_at "na"
  intro rl H10 f10 e10 k10
  have k04 := k02.trans k24
  have k06 := k04.trans k46
  have k07 := k06.trans k7
  have k08 := k07.trans k8
  have k09 := k08.trans k9
  have k010 := k09.trans k10
  have nd1 := ne_of_none el f3
  have A10 : All T H H10 l zs hl rl [h1, h2] [r1, r2] [⟨0, none, false⟩, ⟨0, none, false⟩] 0 := by
    refine ⟨k010, ((((((k24.trans k46).trans k7).trans k8).trans k9).trans k10).get0 el), hz4, hzs, (((k8.trans k9).trans k10).get0 e7), e10, rfl, rfl, by simp, by simp, ?_, ?_, ?_, by omega, ?_, ?_⟩
    · intro i x s q1 q2
      have o1 : OneH T H10 h1 ⟨0, none, false⟩ := ⟨.non, a4.kp ((((k46.trans k7).trans k8).trans k9).trans k10), rfl⟩
      have o2 : OneH T H10 h2 ⟨0, none, false⟩ := ⟨.non, a6.kp (((k7.trans k8).trans k9).trans k10), rfl⟩
      rcases i with _ | _ | i
      · cases q1; cases q2; exact o1
      · cases q1; cases q2; exact o2
      · simp at q1
    · intro i x s q1 q2
      have o1 : OneR H10 r1 ⟨0, none, false⟩ := ⟨.non, (k9.trans k10).get0 e8, rfl⟩
      have o2 : OneR H10 r2 ⟨0, none, false⟩ := ⟨.non, k10.get0 e9, rfl⟩
      rcases i with _ | _ | i
      · cases q1; cases q2; exact o1
      · cases q1; cases q2; exact o2
      · simp at q1
    · intro s hs
      have : s = ⟨0, none, false⟩ := by simpa using hs
      rw [this]
      exact ⟨by simp, by simp, fun q e => by cases e⟩
    · have l4 := k24.get0 el
      have l6 := k46.get0 l4
      have l7 := k7.get0 l6
      have l8 := k8.get0 l7
      have l9 := k9.get0 l8
      have x1 := ne_of_none l4 f5
      have x2 := ne_of_none l6 f7
      have x3 := ne_of_none l7 f8
      have x4 := ne_of_none l8 f9
      have x5 := ne_of_none l9 f10
      have b6 := a4.kp k46
      have b7 := b6.kp k7
      have b8 := b7.kp k8
      have b9 := b8.kp k9
      have c7 := a6.kp k7
      have c8 := c7.kp k8
      have c9 := c8.kp k9
      have y1 := a4.ne f5
      have y2 := b6.ne f7
      have y3 := b7.ne f8
      have y4 := b8.ne f9
      have y5 := b9.ne f10
      have z2 := a6.ne f7
      have z3 := c7.ne f8
      have z4 := c8.ne f9
      have z5 := c9.ne f10
      have w3 := ne_of_none e7 f8
      have w4 := ne_of_none (k8.get0 e7) f9
      have w5 := ne_of_none (k9.get0 (k8.get0 e7)) f10
      have v4 := ne_of_none e8 f9
      have v5 := ne_of_none (k9.get0 e8) f10
      have u5 := ne_of_none e9 f10
      simp only [List.nodup_cons, List.cons_append, List.nil_append, List.mem_cons, List.mem_nil_iff, or_false, not_or, not_false_eq_true, List.nodup_nil, and_true]
      grind
    · intro q hq
      simp only [List.cons_append, List.nil_append, List.mem_cons, List.mem_nil_iff, or_false] at hq
      rcases hq with rfl | rfl | rfl | rfl | rfl | rfl
      · exact k06.fresh0 f7
      · exact k09.fresh0 f10
      · exact k02.fresh0 f3
      · exact k04.fresh0 f5
      · exact k07.fresh0 f8
      · exact k08.fresh0 f9
  clear nd1 k010 k09 k08 k07 k06 k04 k10 e10 f10 k9 e9 f9 k8 e8 f8 k7 e7 f7 k46 k6 a6 k5 e5 f5 k24 k4 a4 k3 e3 f3 fl0 k02 B2 k2 fl B1 f1 el hz4 hzs k1
  generalize [h1, h2] = hs' at A10
  generalize [r1, r2] = rs at A10
  generalize ([⟨0, none, false⟩, ⟨0, none, false⟩] : List S3) = sts at A10
  walk_at "u"
  refine s_lenL (A10.kz.sql hS) ?_
  walk_at "u"
  rw [List.length_map]
  have hj : ∃ j : Nat, (if (if (41 : Int) < (ns.length : Int) then 41 else (ns.length : Int)) > 3 then if (41 : Int) < (ns.length : Int) then 41 else (ns.length : Int) else 3) = (j : Int) ∧ 3 ≤ j ∧ j ≤ 41 := by
    refine ⟨(if (if (41 : Int) < (ns.length : Int) then 41 else (ns.length : Int)) > 3 then if (41 : Int) < (ns.length : Int) then 41 else (ns.length : Int) else 3).toNat, ?_, ?_, ?_⟩ <;> (split <;> split <;> omega)
  obtain ⟨j, ej, hj2, hj⟩ := hj
  rw [ej]
  refine s_rn2 (by omega) ?_
  refine for_it walk_range (fun i σ H' => (∃ hs' rs sts, All T H H' l zs hl rl hs' rs sts (4 * i)) ∧ ∃ u1 u5 u6 u7 u8 u9, σ = [some (.ref a), u1, some (.ref l), some (.ref hl), some (.ref rl), u5, u6, u7, u8, u9]) ⟨⟨_, _, _, by simpa using A10⟩, _, none, none, none, none, none, rfl⟩ (fun _ _ _ _ _ => trivial) ?_ ?_
  · clear A10 hs' rs sts
    rintro i x σ H1 H2 hi ⟨⟨hs', rs, sts, A1⟩, u1, u5, u6, u7, u8, u9, rfl⟩ ⟨rfl, rfl⟩
    walk_at "u"
    refine c_cell (A1.kz.sql hS) (by omega) (by omega) fun q1 => ?_
    walk_at "u"
    refine c_box fun p H3 f3 k3 B3 => ?_
    have fp : H p = none := A1.kz.fresh0 f3
    have np : ∀ q ∈ l :: hl :: rl :: (hs' ++ rs), q ∉ [p] := fun q hq => by
      obtain ⟨o, eo⟩ := A1.there q hq
      simpa using ne_of_none eo f3
    have A3 := A1.kp k3
    have eh3 := A3.eh
    walk_at "u"
    refine s_lenl eh3 ?_
    walk_at "u"
    have l2 := A3.l2
    have l6 := A3.l6
    have lh := A3.lh
    have lr := A3.lr
    refine c_take B3 (by omega) (by rw [List.length_map]; omega) (by rw [List.length_map]; omega) fun d H4 d0 d1 B4 k4 => ?_
    have A4 := A3.kpn k4 ((A3.kz.nil.trans k4).drop fp) np (nt1 B3.nt)
    rw [List.length_map] at d1
    obtain ⟨jn, rfl⟩ : ∃ jn : Nat, d = (jn : Int) := ⟨d.toNat, by omega⟩
    have hjn : jn < hs'.length := by omega
    have hjr : jn < rs.length := by omega
    obtain ⟨h, eh⟩ : ∃ h, hs'[jn]? = some h := ⟨_, List.getElem?_eq_getElem hjn⟩
    obtain ⟨r, er⟩ : ∃ r, rs[jn]? = some r := ⟨_, List.getElem?_eq_getElem hjr⟩
    have gh : atI (hs'.map V.ref) (jn : Int) = some (.ref h) := at_nat (by rw [List.getElem?_map, eh]; rfl)
    have gr : atI (rs.map V.ref) (jn : Int) = some (.ref r) := at_nat (by rw [List.getElem?_map, er]; rfl)
    have mh := List.mem_of_getElem? eh
    have mr := List.mem_of_getElem? er
    obtain ⟨n1, n2, n3, n4, n5, n6, n7⟩ := A4.nh
    have xh := n4 h (by simp [mh])
    have xr := n4 r (by simp [mr])
    walk_at "u"
    refine c_take B4 (by omega) (by decide) (by decide) fun d5 H5 d50 d51 B5 k5 => ?_
    have A5 := A4.kpn k5 ((A4.kz.nil.trans k5).drop fp) np (nt1 B4.nt)
    walk_at "u"
    refine s_rng (by omega) (by omega) ?_
    refine for_it walk_range (fun i' σ H' => (∃ sts, All T H H' l zs hl rl hs' rs sts (4 * i + i')) ∧ Box H' p (2 + 10 * i') ∧ ∃ u7 u8 u9, σ = [some (.ref a), some (.ref p), some (.ref l), some (.ref hl), some (.ref rl), some (.int (1 + (i : Int))), some (.int (jn : Int)), u7, u8, u9]) ⟨⟨_, by simpa using A5⟩, B5.more (by omega), _, _, _, rfl⟩ (fun _ _ _ _ _ => trivial) ?_ ?_
    · clear A5 A4 A3 A1 l2 l6 lh lr
      rintro i' x σ H6 H7 hi' ⟨⟨sts, A6⟩, B6, u7', u8', u9', rfl⟩ ⟨rfl, rfl⟩
      have er6 := A6.er
      obtain ⟨s, es⟩ : ∃ s, sts[jn]? = some s := ⟨_, List.getElem?_eq_getElem (by rw [← A6.lh]; exact hjn)⟩
      have oks := A6.ok s (List.mem_of_getElem? es)
      have hbb := A6.hb
      have t1 := oks.t1
      have oR6 := A6.or jn r s er es
      walk_at "u"
      refine s_ixl er6 gr ?_
      walk_at "u"
      refine ⟨_, _, _, rfl, p, _, l, zs, r, s, rfl, rfl, rfl, B6, by omega, A6.el, A6.z4, A6.zok, oR6, oks.t0, by omega, fun t w v kd H8 ft et hk hv B8 k8 => ?_⟩
      have A8 := A6.kpn k8 ((A6.kz.nil.trans k8).drop fp) np (nt1 B6.nt)
      have oR8 := A8.or jn r s er es
      have oH8 := A8.oh jn h s eh es
      have hok := oks.okp hbb
      have hw : w = .lock → ∃ z, v = .str z := fun e => by obtain ⟨z, e1, _⟩ := hv e; exact ⟨z, e1⟩
      have ntH : Nt H8 h := by obtain ⟨_, ⟨_, e⟩, _⟩ := oH8; exact Nt.ins e
      walk_at "u"
      refine s_ixl A8.eh gh ?_
      walk_at "u"
      refine ⟨_, _, rfl, h, t, w, v, s, kd, rfl, rfl, et, hk, hw, hok, oH8, fun t1' H9 ft1 et1 oH9 k9 => ?_⟩
      have hk9 : TyN H9 v kd := by obtain ⟨_, ⟨_, e⟩, _⟩ := oH8; exact TyN.kpi hk k9 e
      have et9 := k9.tup (nt1 ntH) et
      have oR9 := oR8.kpn k9 (by simpa using (n3 h mh r mr).symm) (nt1 ntH)
      have er9 := k9.get1 A8.er (xh.2.2)
      have ntR : Nt H9 r := by obtain ⟨_, e, _⟩ := oR9; exact Nt.lst e
      obtain ⟨ss, d, c1, c3, c4, c5⟩ := step_sh (K := K) (w := w) (v := v) oks hbb
      walk_at "w"
      refine s_ifS (jT (fun c H12 => c = false ∧ (∃ sts, All T H H12 l zs hl rl hs' rs sts (4 * i + (i' + 1))) ∧ Box H12 p (12 + 10 * i')) (fun c H12 => ?_) (fun _ key => ?_))
      · rintro ⟨rfl, ⟨sts', A12⟩, B12⟩
        walk_at "u"
        exact ⟨⟨_, A12⟩, B12.more (by omega), _, _, _, rfl⟩
      · walk_at "u"
        refine s_rep (sh2 et1 ss (c1 _) c3 c4 c5) ?_
        walk_at "u"
        refine s_ixl er9 gr ?_
        walk_at "u"
        refine ⟨_, _, rfl, r, t, w, v, s, kd, rfl, rfl, et9, hk9, hw, hok, oR9, fun t2 H10 ft2 et2 oR10 k10 => ?_⟩
        have oH10 := oH9.kpn k10 (by simpa using n3 h mh r mr) (nt1 ntR)
        have k810 : Kp [h, r] H8 H10 := (k9.mono (by simp)).trans (k10.mono (by simp))
        have kz10 : Kp [] H H10 := ((A8.kz.nil.trans k810).drop (A8.fr h (by simp [mh]))).drop (A8.fr r (by simp [mr]))
        have ok' := oks.step hv
        have ntR8 : Nt H8 r := by obtain ⟨_, e, _⟩ := oR8; exact Nt.lst e
        have A10 := A8.set eh er k810 (by simp; exact ⟨ntH, ntR8⟩) kz10 oH10 oR10 ok' (by omega) (by omega)
        have nph : p ≠ h := fun z => np h (by simp [mh]) (by simp [z])
        have npr : p ≠ r := fun z => np r (by simp [mr]) (by simp [z])
        have B10 := B8.kpn k810 (by simp; exact ⟨nph, npr⟩)
        walk_at "u"
        refine s_rep (sh2 et2 ss (c1 _) c3 c4 c5) ?_
        walk_at "u"
        rw [decide_eq_true rfl]
        walk_at "u"
        refine ⟨_, _, rfl, H, l, zs, hl, rl, hs', rs, _, _, rfl, rfl, A10, fun H12 k12 => ?_⟩
        walk_at "u"
        exact key _ _ ⟨rfl, ⟨_, by simpa [Int.add_assoc] using A10.kp k12⟩, (B10.kp k12).more (by omega)⟩
    · clear A5 A4 A3 A1 l2 l6 lh lr B5 k5 B4 k4 B3 k3
      rintro σ H6 ⟨⟨sts, A6⟩, B6, u7', u8', u9', rfl⟩
      obtain ⟨s, es⟩ : ∃ s, sts[jn]? = some s := ⟨_, List.getElem?_eq_getElem (by rw [← A6.lh]; exact hjn)⟩
      have A6 := A6.more (b' := 4 * (i + 1)) (by omega) (by omega)
      walk_at "s"
      refine jS (fun σ1 H7 => σ1 = [some (.ref a), some (.ref p), some (.ref l), some (.ref hl), some (.ref rl), some (.int (1 + (i : Int))), some (.int (jn : Int)), u7', u8', u9'] ∧ ∃ hs' rs sts, All T H H7 l zs hl rl hs' rs sts (4 * (i + 1))) (fun σ1 H7 => ?_) (fun _ key => ?_)
      · rintro ⟨rfl, hs2, rs2, sts2, A7⟩
        walk_at "w"
        refine s_ifS (jT (fun b H12 => b = false ∧ Kp [] H7 H12) (fun b H12 => ?_) (fun _ key => ?_))
        · rintro ⟨rfl, k12⟩
          walk_at "u"
          exact ⟨⟨_, _, _, by simpa using A7.kp k12⟩, _, _, _, _, _, _, rfl⟩
        · walk_at "u"
          refine ⟨_, _, rfl, H, l, zs, hl, rl, hs2, rs2, _, _, rfl, rfl, A7, fun H12 k12 => ?_⟩
          walk_at "u"
          exact key _ _ ⟨rfl, k12⟩
      · refine s_ifS (jT (fun b H8 => All T H H8 l zs hl rl hs' rs sts (4 * (i + 1)) ∧ (b = true → sts.length < 6)) (fun b H8 => ?_) (fun _ key2 => ?_))
        · rintro ⟨A8, hb⟩
          cases b with
          | false =>
            walk_at "u"
            exact key _ _ ⟨rfl, _, _, _, A8⟩
          | true =>
            have h6 := hb rfl
            have eh8 := A8.eh
            have er8 := A8.er
            obtain ⟨R, aH, vR⟩ := A8.oh jn h s eh es
            obtain ⟨R', aR, vR'⟩ := A8.or jn r s er es
            walk_at "u"
            refine s_ixl eh8 gh ?_
            walk_at "u"
            refine ⟨_, rfl, h, _, R, _, rfl, aH, fun x H9 fx ax kx => ?_⟩
            walk_at "u"
            refine s_app (kx.get0 eh8) (zlt (by rw [List.length_map, A8.lh]; omega)) fun H10 e10 k10 => ?_
            have er10 := k10.get1 (kx.get0 er8) n7.symm
            walk_at "u"
            refine s_ixl er10 gr ?_
            walk_at "u"
            refine s_list (SqL.of (k10.get1 (kx.get0 aR) xr.2.1.symm)) fun y H11 fy ey ky => ?_
            walk_at "u"
            refine s_app (ky.get0 er10) (zlt (by rw [List.length_map, A8.lr]; omega)) fun H12 e12 k12 => ?_
            walk_at "u"
            have fy8 : H8 y = none := (kx.nil.trans k10).fresh fy (by simpa using (ne_of_none e10 fy).symm)
            have k812 : Kp [hl, rl] H8 H12 := ((kx.nil.trans (k10.mono (by simp))).trans ky.nil).trans (k12.mono (by simp))
            have kz12 : Kp [] H H12 := ((A8.kz.nil.trans k812).drop (A8.fr hl (by simp))).drop (A8.fr rl (by simp))
            have ntl : ∀ q ∈ [hl, rl], Nt H8 q := by
              intro q hq
              simp only [List.mem_cons, List.mem_nil_iff, or_false] at hq
              rcases hq with rfl | rfl
              · exact Nt.lst eh8
              · exact Nt.lst er8
            have nxy : x ≠ y := by
              obtain ⟨dx, ex⟩ := ax
              exact ne_of_none (k10.get1 ex (ne_of_none eh8 fx).symm) fy
            refine key _ _ ⟨rfl, hs' ++ [x], rs ++ [y], sts ++ [s], A8.push k812 kz12 fx fy8 nxy ?_ ?_ ⟨R, ((ax.kpn k10 (by simpa using (ne_of_none eh8 fx).symm)).kp ky).kpn k12 (by simpa using (ne_of_none er8 fx).symm), vR.kpn k812 ntl⟩ ⟨R', k12.get1 ey (ne_of_none er8 fy8).symm, vR'.kpn k812 ntl⟩ (A8.ok s (List.mem_of_getElem? es)) h6⟩
            · rw [List.map_append]; exact k12.get1 (ky.get0 e10) n7
            · rw [List.map_append]; exact e12
        · walk_at "u"
          refine c_take B6 (by omega) (by decide) (by decide) fun d7 H7 d70 d71 B7 k7 => ?_
          have A7 := A6.kpn k7 ((A6.kz.nil.trans k7).drop fp) np (nt1 B6.nt)
          have eh7 := A7.eh
          walk_at "u"
          refine s_ite (fun h7 => ?_) (fun h7 => ?_)
          · walk_at "u"
            refine s_lenl eh7 ?_
            walk_at "u"
            refine key2 _ _ ⟨A7, fun e => ?_⟩
            rw [List.length_map, A7.lh] at e
            have := of_decide_eq_true e
            omega
          · exact key2 _ _ ⟨A7, fun e => (by cases e)⟩
  · rintro σ H1 ⟨_, u1, u5, u6, u7, u8, u9, rfl⟩
    walk_at "u"
    exact k H1
theorem all_mk {l : PySem.W.OpenLaw} {w : World} {K : PySem.W.Frag} {h : Heap} {mg : Str → Option Value} {fa : Addr} (X : K.In h) (G : h.Ns mainGlobals mg) (hfa : mg "law" = some (.ref fa))
    {C_Keeper : Addr} (n_Keeper : PySem.W.nsIn K mainGlobals "Keeper" = some (some (.ref C_Keeper)))
    {C_Shut : Addr} (n_Shut : PySem.W.nsIn K mainGlobals "Shut" = some (some (.ref C_Shut)))
    {C_NoRight : Addr} (n_NoRight : PySem.W.nsIn K mainGlobals "NoRight" = some (some (.ref C_NoRight)))
    {C_NotShut : Addr} (n_NotShut : PySem.W.nsIn K mainGlobals "NotShut" = some (some (.ref C_NotShut)))
    {C_StaffError : Addr} (n_StaffError : PySem.W.nsIn K mainGlobals "StaffError" = some (some (.ref C_StaffError)))
    {f1 : Addr} {od1 an1 : Option Addr} {sl1 : Array (Option Value)} {oc1 kV1 dc1 pm1 cd1 ct1 : Value}
    (a1 : PySem.W.findIn K (.ref C_Shut) "__init__" = some (some (.ref f1)))
    (l1 : K.lookup f1 = some ⟨oc1, od1, .func (PySem.W.fnOf "__init__" "Shut.__init__" (defArgs s_Shut_init) (defBody s_Shut_init) (defScope s_Shut_init) .none kV1 dc1 pm1 an1 cd1 ct1), sl1⟩) (c1 : PySem.W.codeIn K cd1 "Shut.__init__" = true) (k1 : PySem.W.keepIn K (.ref f1) = true)
    {f2 : Addr} {od2 an2 : Option Addr} {sl2 : Array (Option Value)} {oc2 kV2 dc2 pm2 cd2 ct2 : Value}
    (a2 : PySem.W.findIn K (.ref C_NoRight) "__init__" = some (some (.ref f2)))
    (l2 : K.lookup f2 = some ⟨oc2, od2, .func (PySem.W.fnOf "__init__" "NoRight.__init__" (defArgs s_NoRight_init) (defBody s_NoRight_init) (defScope s_NoRight_init) .none kV2 dc2 pm2 an2 cd2 ct2), sl2⟩) (c2 : PySem.W.codeIn K cd2 "NoRight.__init__" = true) (k2 : PySem.W.keepIn K (.ref f2) = true)
    {f3 : Addr} {od3 an3 : Option Addr} {sl3 : Array (Option Value)} {oc3 kV3 dc3 pm3 cd3 ct3 : Value}
    (a3 : PySem.W.findIn K (.ref C_NotShut) "__init__" = some (some (.ref f3)))
    (l3 : K.lookup f3 = some ⟨oc3, od3, .func (PySem.W.fnOf "__init__" "NotShut.__init__" (defArgs s_NotShut_init) (defBody s_NotShut_init) (defScope s_NotShut_init) .none kV3 dc3 pm3 an3 cd3 ct3), sl3⟩) (c3 : PySem.W.codeIn K cd3 "NotShut.__init__" = true) (k3 : PySem.W.keepIn K (.ref f3) = true)
    {f4 : Addr} {od4 an4 : Option Addr} {sl4 : Array (Option Value)} {oc4 kV4 dc4 pm4 cd4 ct4 : Value}
    (a4 : PySem.W.nsIn K mainGlobals "is_whole" = some (some (.ref f4)))
    (l4 : K.lookup f4 = some ⟨oc4, od4, .func (PySem.W.fnOf "is_whole" "is_whole" (defArgs s_is_whole) (defBody s_is_whole) (defScope s_is_whole) .none kV4 dc4 pm4 an4 cd4 ct4), sl4⟩) (c4 : PySem.W.codeIn K cd4 "is_whole" = true) (k4 : PySem.W.keepIn K (.ref f4) = true)
    {f5 : Addr} {od5 an5 : Option Addr} {sl5 : Array (Option Value)} {oc5 kV5 dc5 pm5 cd5 ct5 : Value}
    (a5 : PySem.W.findIn K (.ref C_Keeper) "__init__" = some (some (.ref f5)))
    (l5 : K.lookup f5 = some ⟨oc5, od5, .func (PySem.W.fnOf "__init__" "Keeper.__init__" (defArgs s_Keeper_init) (defBody s_Keeper_init) (defScope s_Keeper_init) .none kV5 dc5 pm5 an5 cd5 ct5), sl5⟩) (c5 : PySem.W.codeIn K cd5 "Keeper.__init__" = true) (k5 : PySem.W.keepIn K (.ref f5) = true)
    {f6 : Addr} {od6 an6 : Option Addr} {sl6 : Array (Option Value)} {oc6 kV6 dc6 pm6 cd6 ct6 : Value}
    (a6 : PySem.W.findIn K (.ref C_Keeper) "lock" = some (some (.ref f6)))
    (l6 : K.lookup f6 = some ⟨oc6, od6, .func (PySem.W.fnOf "lock" "Keeper.lock" (defArgs s_Keeper_lock) (defBody s_Keeper_lock) (defScope s_Keeper_lock) .none kV6 dc6 pm6 an6 cd6 ct6), sl6⟩) (c6 : PySem.W.codeIn K cd6 "Keeper.lock" = true) (k6 : PySem.W.keepIn K (.ref f6) = true)
    {f7 : Addr} {od7 an7 : Option Addr} {sl7 : Array (Option Value)} {oc7 kV7 dc7 pm7 cd7 ct7 : Value}
    (a7 : PySem.W.findIn K (.ref C_Keeper) "locked" = some (some (.ref f7)))
    (l7 : K.lookup f7 = some ⟨oc7, od7, .func (PySem.W.fnOf "locked" "Keeper.locked" (defArgs s_Keeper_locked) (defBody s_Keeper_locked) (defScope s_Keeper_locked) .none kV7 dc7 pm7 an7 cd7 ct7), sl7⟩) (c7 : PySem.W.codeIn K cd7 "Keeper.locked" = true) (k7 : PySem.W.keepIn K (.ref f7) = true)
    {f8 : Addr} {od8 an8 : Option Addr} {sl8 : Array (Option Value)} {oc8 kV8 dc8 pm8 cd8 ct8 : Value}
    (a8 : PySem.W.findIn K (.ref C_Keeper) "is_this" = some (some (.ref f8)))
    (l8 : K.lookup f8 = some ⟨oc8, od8, .func (PySem.W.fnOf "is_this" "Keeper.is_this" (defArgs s_Keeper_is_this) (defBody s_Keeper_is_this) (defScope s_Keeper_is_this) .none kV8 dc8 pm8 an8 cd8 ct8), sl8⟩) (c8 : PySem.W.codeIn K cd8 "Keeper.is_this" = true) (k8 : PySem.W.keepIn K (.ref f8) = true)
    {f9 : Addr} {od9 an9 : Option Addr} {sl9 : Array (Option Value)} {oc9 kV9 dc9 pm9 cd9 ct9 : Value}
    (a9 : PySem.W.findIn K (.ref C_Keeper) "opens" = some (some (.ref f9)))
    (l9 : K.lookup f9 = some ⟨oc9, od9, .func (PySem.W.fnOf "opens" "Keeper.opens" (defArgs s_Keeper_opens) (defBody s_Keeper_opens) (defScope s_Keeper_opens) .none kV9 dc9 pm9 an9 cd9 ct9), sl9⟩) (c9 : PySem.W.codeIn K cd9 "Keeper.opens" = true) (k9 : PySem.W.keepIn K (.ref f9) = true)
    {f10 : Addr} {od10 an10 : Option Addr} {sl10 : Array (Option Value)} {oc10 kV10 dc10 pm10 cd10 ct10 : Value}
    (a10 : PySem.W.findIn K (.ref C_Keeper) "is_open" = some (some (.ref f10)))
    (l10 : K.lookup f10 = some ⟨oc10, od10, .func (PySem.W.fnOf "is_open" "Keeper.is_open" (defArgs s_Keeper_is_open) (defBody s_Keeper_is_open) (defScope s_Keeper_is_open) .none kV10 dc10 pm10 an10 cd10 ct10), sl10⟩) (c10 : PySem.W.codeIn K cd10 "Keeper.is_open" = true) (k10 : PySem.W.keepIn K (.ref f10) = true)
    {f11 : Addr} {od11 an11 : Option Addr} {sl11 : Array (Option Value)} {oc11 kV11 dc11 pm11 cd11 ct11 : Value}
    (a11 : PySem.W.findIn K (.ref C_Keeper) "let_go" = some (some (.ref f11)))
    (l11 : K.lookup f11 = some ⟨oc11, od11, .func (PySem.W.fnOf "let_go" "Keeper.let_go" (defArgs s_Keeper_let_go) (defBody s_Keeper_let_go) (defScope s_Keeper_let_go) .none kV11 dc11 pm11 an11 cd11 ct11), sl11⟩) (c11 : PySem.W.codeIn K cd11 "Keeper.let_go" = true) (k11 : PySem.W.keepIn K (.ref f11) = true)
    {f12 : Addr} {od12 an12 : Option Addr} {sl12 : Array (Option Value)} {oc12 kV12 dc12 pm12 cd12 ct12 : Value}
    (a12 : PySem.W.findIn K (.ref C_Keeper) "unlock" = some (some (.ref f12)))
    (l12 : K.lookup f12 = some ⟨oc12, od12, .func (PySem.W.fnOf "unlock" "Keeper.unlock" (defArgs s_Keeper_unlock) (defBody s_Keeper_unlock) (defScope s_Keeper_unlock) .none kV12 dc12 pm12 an12 cd12 ct12), sl12⟩) (c12 : PySem.W.codeIn K cd12 "Keeper.unlock" = true) (k12 : PySem.W.keepIn K (.ref f12) = true)
    {f13 : Addr} {od13 an13 : Option Addr} {sl13 : Array (Option Value)} {oc13 kV13 dc13 pm13 cd13 ct13 : Value}
    (a13 : PySem.W.findIn K (.ref C_Keeper) "ended" = some (some (.ref f13)))
    (l13 : K.lookup f13 = some ⟨oc13, od13, .func (PySem.W.fnOf "ended" "Keeper.ended" (defArgs s_Keeper_ended) (defBody s_Keeper_ended) (defScope s_Keeper_ended) .none kV13 dc13 pm13 an13 cd13 ct13), sl13⟩) (c13 : PySem.W.codeIn K cd13 "Keeper.ended" = true) (k13 : PySem.W.keepIn K (.ref f13) = true)
    {f14 : Addr} {od14 an14 : Option Addr} {sl14 : Array (Option Value)} {oc14 kV14 dc14 pm14 cd14 ct14 : Value}
    (a14 : PySem.W.findIn K (.ref C_Keeper) "times" = some (some (.ref f14)))
    (l14 : K.lookup f14 = some ⟨oc14, od14, .func (PySem.W.fnOf "times" "Keeper.times" (defArgs s_Keeper_times) (defBody s_Keeper_times) (defScope s_Keeper_times) .none kV14 dc14 pm14 an14 cd14 ct14), sl14⟩) (c14 : PySem.W.codeIn K cd14 "Keeper.times" = true) (k14 : PySem.W.keepIn K (.ref f14) = true)
    {f15 : Addr} {od15 an15 : Option Addr} {sl15 : Array (Option Value)} {oc15 kV15 dc15 pm15 cd15 ct15 : Value}
    (a15 : PySem.W.findIn K (.ref C_Keeper) "twin" = some (some (.ref f15)))
    (l15 : K.lookup f15 = some ⟨oc15, od15, .func (PySem.W.fnOf "twin" "Keeper.twin" (defArgs s_Keeper_twin) (defBody s_Keeper_twin) (defScope s_Keeper_twin) .none kV15 dc15 pm15 an15 cd15 ct15), sl15⟩) (c15 : PySem.W.codeIn K cd15 "Keeper.twin" = true) (k15 : PySem.W.keepIn K (.ref f15) = true)
    {f16 : Addr} {od16 an16 : Option Addr} {sl16 : Array (Option Value)} {oc16 kV16 dc16 pm16 cd16 ct16 : Value}
    (a16 : PySem.W.nsIn K mainGlobals "_law_cell" = some (some (.ref f16)))
    (l16 : K.lookup f16 = some ⟨oc16, od16, .func (PySem.W.fnOf "_law_cell" "_law_cell" (defArgs s_law_cell) (defBody s_law_cell) (defScope s_law_cell) .none kV16 dc16 pm16 an16 cd16 ct16), sl16⟩) (c16 : PySem.W.codeIn K cd16 "_law_cell" = true) (k16 : PySem.W.keepIn K (.ref f16) = true)
    {f17 : Addr} {od17 an17 : Option Addr} {sl17 : Array (Option Value)} {oc17 kV17 dc17 pm17 cd17 ct17 : Value}
    (a17 : PySem.W.nsIn K mainGlobals "_law_box" = some (some (.ref f17)))
    (l17 : K.lookup f17 = some ⟨oc17, od17, .func (PySem.W.fnOf "_law_box" "_law_box" (defArgs s_law_box) (defBody s_law_box) (defScope s_law_box) .none kV17 dc17 pm17 an17 cd17 ct17), sl17⟩) (c17 : PySem.W.codeIn K cd17 "_law_box" = true) (k17 : PySem.W.keepIn K (.ref f17) = true)
    {f18 : Addr} {od18 an18 : Option Addr} {sl18 : Array (Option Value)} {oc18 kV18 dc18 pm18 cd18 ct18 : Value}
    (a18 : PySem.W.nsIn K mainGlobals "_law_take" = some (some (.ref f18)))
    (l18 : K.lookup f18 = some ⟨oc18, od18, .func (PySem.W.fnOf "_law_take" "_law_take" (defArgs s_law_take) (defBody s_law_take) (defScope s_law_take) .none kV18 dc18 pm18 an18 cd18 ct18), sl18⟩) (c18 : PySem.W.codeIn K cd18 "_law_take" = true) (k18 : PySem.W.keepIn K (.ref f18) = true)
    {f19 : Addr} {od19 an19 : Option Addr} {sl19 : Array (Option Value)} {oc19 kV19 dc19 pm19 cd19 ct19 : Value}
    (a19 : PySem.W.nsIn K mainGlobals "_law_names" = some (some (.ref f19)))
    (l19 : K.lookup f19 = some ⟨oc19, od19, .func (PySem.W.fnOf "_law_names" "_law_names" (defArgs s_law_names) (defBody s_law_names) (defScope s_law_names) .none kV19 dc19 pm19 an19 cd19 ct19), sl19⟩) (c19 : PySem.W.codeIn K cd19 "_law_names" = true) (k19 : PySem.W.keepIn K (.ref f19) = true)
    {f20 : Addr} {od20 an20 : Option Addr} {sl20 : Array (Option Value)} {oc20 kV20 dc20 pm20 cd20 ct20 : Value}
    (a20 : PySem.W.nsIn K mainGlobals "_law_said" = some (some (.ref f20)))
    (l20 : K.lookup f20 = some ⟨oc20, od20, .func (PySem.W.fnOf "_law_said" "_law_said" (defArgs s_law_said) (defBody s_law_said) (defScope s_law_said) .none kV20 dc20 pm20 an20 cd20 ct20), sl20⟩) (c20 : PySem.W.codeIn K cd20 "_law_said" = true) (k20 : PySem.W.keepIn K (.ref f20) = true)
    {f21 : Addr} {od21 an21 : Option Addr} {sl21 : Array (Option Value)} {oc21 kV21 dc21 pm21 cd21 ct21 : Value}
    (a21 : PySem.W.nsIn K mainGlobals "_law_done" = some (some (.ref f21)))
    (l21 : K.lookup f21 = some ⟨oc21, od21, .func (PySem.W.fnOf "_law_done" "_law_done" (defArgs s_law_done) (defBody s_law_done) (defScope s_law_done) .none kV21 dc21 pm21 an21 cd21 ct21), sl21⟩) (c21 : PySem.W.codeIn K cd21 "_law_done" = true) (k21 : PySem.W.keepIn K (.ref f21) = true)
    {f22 : Addr} {od22 an22 : Option Addr} {sl22 : Array (Option Value)} {oc22 kV22 dc22 pm22 cd22 ct22 : Value}
    (a22 : PySem.W.nsIn K mainGlobals "_law_deed" = some (some (.ref f22)))
    (l22 : K.lookup f22 = some ⟨oc22, od22, .func (PySem.W.fnOf "_law_deed" "_law_deed" (defArgs s_law_deed) (defBody s_law_deed) (defScope s_law_deed) .none kV22 dc22 pm22 an22 cd22 ct22), sl22⟩) (c22 : PySem.W.codeIn K cd22 "_law_deed" = true) (k22 : PySem.W.keepIn K (.ref f22) = true)
    {f23 : Addr} {od23 an23 : Option Addr} {sl23 : Array (Option Value)} {oc23 kV23 dc23 pm23 cd23 ct23 : Value}
    (a23 : PySem.W.nsIn K mainGlobals "_law_same" = some (some (.ref f23)))
    (l23 : K.lookup f23 = some ⟨oc23, od23, .func (PySem.W.fnOf "_law_same" "_law_same" (defArgs s_law_same) (defBody s_law_same) (defScope s_law_same) .none kV23 dc23 pm23 an23 cd23 ct23), sl23⟩) (c23 : PySem.W.codeIn K cd23 "_law_same" = true) (k23 : PySem.W.keepIn K (.ref f23) = true)
    {f24 : Addr} {od24 an24 : Option Addr} {sl24 : Array (Option Value)} {oc24 kV24 dc24 pm24 cd24 ct24 : Value}
    (a24 : PySem.W.nsIn K mainGlobals "law" = some (some (.ref f24)))
    (l24 : K.lookup f24 = some ⟨oc24, od24, .func (PySem.W.fnOf "law" "law" (defArgs s_law) (defBody s_law) (defScope s_law) .none kV24 dc24 pm24 an24 cd24 ct24), sl24⟩) (c24 : PySem.W.codeIn K cd24 "law" = true) (k24 : PySem.W.keepIn K (.ref f24) = true)
    (pg_Keeper : PySem.W.plainGet K C_Keeper Str.empty = true) (hd_Keeper : PySem.W.hasDictIn K C_Keeper = true) (po_Keeper : PySem.W.plainOver K C_Keeper = true) (sa_Keeper : PySem.W.findIn K (.ref C_Keeper) "__setattr__" = some (some (.builtin "object.__setattr__"))) (mk_Keeper : PySem.W.makesIn K C_Keeper = true) (kc_Keeper : PySem.W.keepIn K (.ref C_Keeper) = true)
    (if_Keeper : PySem.W.isFn K (.ref f5) = true)
    (na_Keeper_kept_times : PySem.W.findIn K (.ref C_Keeper) "kept_times" = some none)
    (na_Keeper_kept_shut : PySem.W.findIn K (.ref C_Keeper) "kept_shut" = some none)
    (na_Keeper_kept_open : PySem.W.findIn K (.ref C_Keeper) "kept_open" = some none)
    (fn_Keeper_lock : PySem.W.isFn K (.ref f6) = true)
    (fn_Keeper_locked : PySem.W.isFn K (.ref f7) = true)
    (fn_Keeper_is_this : PySem.W.isFn K (.ref f8) = true)
    (fn_Keeper_opens : PySem.W.isFn K (.ref f9) = true)
    (fn_Keeper_is_open : PySem.W.isFn K (.ref f10) = true)
    (fn_Keeper_let_go : PySem.W.isFn K (.ref f11) = true)
    (fn_Keeper_unlock : PySem.W.isFn K (.ref f12) = true)
    (fn_Keeper_ended : PySem.W.isFn K (.ref f13) = true)
    (fn_Keeper_times : PySem.W.isFn K (.ref f14) = true)
    (fn_Keeper_twin : PySem.W.isFn K (.ref f15) = true)
    {nm_Shut q_Shut : Str} {N_Shut : Addr} {bs_Shut bm_Shut sub_Shut : List Value} {sn_Shut : List Str} {ab_Shut : Bool} {col_Shut : Option Bool} {dd_Shut : Option Addr} {e0_Shut e1_Shut e2_Shut e3_Shut e5_Shut : Option Value}
    (xL_Shut : K.lookup C_Shut = some (excClassObj nm_Shut q_Shut C_Shut N_Shut bs_Shut bm_Shut true sn_Shut sub_Shut ab_Shut col_Shut dd_Shut e0_Shut e1_Shut e2_Shut e3_Shut e5_Shut "ValueError.__new__")) (ve_Shut : PySem.HandSPX.refsVE bm_Shut = true)
    (sa_Shut : PySem.W.findIn K (.ref C_Shut) "__setattr__" = some (some (.builtin "object.__setattr__")))
    (ga_Shut : PySem.W.findIn K (.ref C_Shut) "__getattribute__" = some (some (.builtin "BaseException.__getattribute__")))
    (gg_Shut : PySem.W.findIn K (.ref C_Shut) "__getattr__" = some none)
    (no_Shut : PySem.W.findIn K (.ref C_Shut) "found" = some none)
    (ex_Shut : PySem.W.subIn K (.ref C_Shut) (.type "BaseException") = some true)
    (ty_Shut : PySem.W.typeIn K (.ref C_Shut) = some (.type "type"))
    (kC_Shut : PySem.W.keepIn K (.ref C_Shut) = true)
    (hd_Shut : PySem.W.hasDictIn K C_Shut = true)
    (ha_Shut : PySem.W.findIn K (.ref C_Shut) "__class__" = some (some (.builtin "object.__class__")))
    (hm_Shut : PySem.W.mroIn K C_Shut (.type "object") = some true)
    (ti_Shut : PySem.W.typeIn K (.ref f1) = some (.type "function"))
    {nm_NoRight q_NoRight : Str} {N_NoRight : Addr} {bs_NoRight bm_NoRight sub_NoRight : List Value} {sn_NoRight : List Str} {ab_NoRight : Bool} {col_NoRight : Option Bool} {dd_NoRight : Option Addr} {e0_NoRight e1_NoRight e2_NoRight e3_NoRight e5_NoRight : Option Value}
    (xL_NoRight : K.lookup C_NoRight = some (excClassObj nm_NoRight q_NoRight C_NoRight N_NoRight bs_NoRight bm_NoRight true sn_NoRight sub_NoRight ab_NoRight col_NoRight dd_NoRight e0_NoRight e1_NoRight e2_NoRight e3_NoRight e5_NoRight "ValueError.__new__")) (ve_NoRight : PySem.HandSPX.refsVE bm_NoRight = true)
    (sa_NoRight : PySem.W.findIn K (.ref C_NoRight) "__setattr__" = some (some (.builtin "object.__setattr__")))
    (ga_NoRight : PySem.W.findIn K (.ref C_NoRight) "__getattribute__" = some (some (.builtin "BaseException.__getattribute__")))
    (gg_NoRight : PySem.W.findIn K (.ref C_NoRight) "__getattr__" = some none)
    (no_NoRight : PySem.W.findIn K (.ref C_NoRight) "found" = some none)
    (ex_NoRight : PySem.W.subIn K (.ref C_NoRight) (.type "BaseException") = some true)
    (ty_NoRight : PySem.W.typeIn K (.ref C_NoRight) = some (.type "type"))
    (kC_NoRight : PySem.W.keepIn K (.ref C_NoRight) = true)
    (hd_NoRight : PySem.W.hasDictIn K C_NoRight = true)
    (ha_NoRight : PySem.W.findIn K (.ref C_NoRight) "__class__" = some (some (.builtin "object.__class__")))
    (hm_NoRight : PySem.W.mroIn K C_NoRight (.type "object") = some true)
    (ti_NoRight : PySem.W.typeIn K (.ref f2) = some (.type "function"))
    {nm_NotShut q_NotShut : Str} {N_NotShut : Addr} {bs_NotShut bm_NotShut sub_NotShut : List Value} {sn_NotShut : List Str} {ab_NotShut : Bool} {col_NotShut : Option Bool} {dd_NotShut : Option Addr} {e0_NotShut e1_NotShut e2_NotShut e3_NotShut e5_NotShut : Option Value}
    (xL_NotShut : K.lookup C_NotShut = some (excClassObj nm_NotShut q_NotShut C_NotShut N_NotShut bs_NotShut bm_NotShut true sn_NotShut sub_NotShut ab_NotShut col_NotShut dd_NotShut e0_NotShut e1_NotShut e2_NotShut e3_NotShut e5_NotShut "ValueError.__new__")) (ve_NotShut : PySem.HandSPX.refsVE bm_NotShut = true)
    (sa_NotShut : PySem.W.findIn K (.ref C_NotShut) "__setattr__" = some (some (.builtin "object.__setattr__")))
    (ga_NotShut : PySem.W.findIn K (.ref C_NotShut) "__getattribute__" = some (some (.builtin "BaseException.__getattribute__")))
    (gg_NotShut : PySem.W.findIn K (.ref C_NotShut) "__getattr__" = some none)
    (no_NotShut : PySem.W.findIn K (.ref C_NotShut) "found" = some none)
    (ex_NotShut : PySem.W.subIn K (.ref C_NotShut) (.type "BaseException") = some true)
    (ty_NotShut : PySem.W.typeIn K (.ref C_NotShut) = some (.type "type"))
    (kC_NotShut : PySem.W.keepIn K (.ref C_NotShut) = true)
    (hd_NotShut : PySem.W.hasDictIn K C_NotShut = true)
    (ha_NotShut : PySem.W.findIn K (.ref C_NotShut) "__class__" = some (some (.builtin "object.__class__")))
    (hm_NotShut : PySem.W.mroIn K C_NotShut (.type "object") = some true)
    (ti_NotShut : PySem.W.typeIn K (.ref f3) = some (.type "function"))
    (rd_StaffError : PySem.W.readsIn K C_StaffError (.type "type") = true) (rg_StaffError : PySem.W.specialIn K (.ref C_StaffError) "__getattribute__" = some (some (.builtin "type.__getattribute__"))) (vi_StaffError : PySem.W.findCls K (.ref C_StaffError) (.type "type") "__init__" = some (.val (.builtin "ValueError.__init__")))
    (oc_get : PySem.W.specialIn K (.builtin "object.__class__") "__get__" = some (some (.builtin "getset_descriptor.__get__"))) (oc_take : PySem.W.takesIn K (.builtin "object.__class__") = some true)
    (ex_Shut_Shut : PySem.W.exmOne K (.ref C_Shut) (.ref C_Shut) = some true)
    (ex_NotShut_Shut : PySem.W.exmOne K (.ref C_NotShut) (.ref C_Shut) = some false)
    (ex_NotShut_NotShut : PySem.W.exmOne K (.ref C_NotShut) (.ref C_NotShut) = some true)
    (ex_NoRight_Shut : PySem.W.exmOne K (.ref C_NoRight) (.ref C_Shut) = some false)
    (ex_NoRight_NotShut : PySem.W.exmOne K (.ref C_NoRight) (.ref C_NotShut) = some false)
    (ex_NoRight_NoRight : PySem.W.exmOne K (.ref C_NoRight) (.ref C_NoRight) = some true)
    {u_GREATEST : Value} (g_GREATEST : PySem.W.nsIn K mainGlobals "GREATEST" = some (some u_GREATEST)) (r_GREATEST : RelV (V.int 1000000000000000000000000000000) u_GREATEST)
    (z_bool : PySem.W.nsIn K mainGlobals "bool" = some none)
    (z_int : PySem.W.nsIn K mainGlobals "int" = some none)
    (z_isinstance : PySem.W.nsIn K mainGlobals "isinstance" = some none)
    (z_len : PySem.W.nsIn K mainGlobals "len" = some none)
    (z_list : PySem.W.nsIn K mainGlobals "list" = some none)
    (z_max : PySem.W.nsIn K mainGlobals "max" = some none)
    (z_min : PySem.W.nsIn K mainGlobals "min" = some none)
    (z_range : PySem.W.nsIn K mainGlobals "range" = some none)
    (z_repr : PySem.W.nsIn K mainGlobals "repr" = some none)
    (z_str : PySem.W.nsIn K mainGlobals "str" = some none) :
    ∃ fd : FuncData, (∀ (s : Shared) (v : Value), BindsTo s fd ⟨[v], []⟩ [("_law_script", v)]) ∧ ∀ base : Heap, K.In base → base.Ns mainGlobals mg → (∃ mm, base.Ns sysModules mm) → FnG l.prog w K mg base (L2.CX l.prog w) 5 fa fd ["_law_script"] (sp_law K) := by
  have e : fa = f24 := by
    have z := hfa.symm.trans (PySem.W.mg_of X G a24)
    injection z with z; injection z
  let T : Tx K mg := {
    C_Keeper := C_Keeper, m_Keeper := PySem.W.mg_of X G n_Keeper,
    C_Shut := C_Shut, m_Shut := PySem.W.mg_of X G n_Shut,
    C_NoRight := C_NoRight, m_NoRight := PySem.W.mg_of X G n_NoRight,
    C_NotShut := C_NotShut, m_NotShut := PySem.W.mg_of X G n_NotShut,
    C_StaffError := C_StaffError, m_StaffError := PySem.W.mg_of X G n_StaffError,
    a_Shut_init := f1, d_Shut_init := _, F_Shut_init := fun_mk (st := s_Shut_init) l1 c1 k1, B_Shut_init := (fun_mk (st := s_Shut_init) l1 c1 k1).binds (ps := ["self", "found"]) (fun _ _ _ _ _ _ us hl => match us, hl with | [_, _], _ => rfl),
    a_NoRight_init := f2, d_NoRight_init := _, F_NoRight_init := fun_mk (st := s_NoRight_init) l2 c2 k2, B_NoRight_init := (fun_mk (st := s_NoRight_init) l2 c2 k2).binds (ps := ["self", "found"]) (fun _ _ _ _ _ _ us hl => match us, hl with | [_, _], _ => rfl),
    a_NotShut_init := f3, d_NotShut_init := _, F_NotShut_init := fun_mk (st := s_NotShut_init) l3 c3 k3, B_NotShut_init := (fun_mk (st := s_NotShut_init) l3 c3 k3).binds (ps := ["self", "found"]) (fun _ _ _ _ _ _ us hl => match us, hl with | [_, _], _ => rfl),
    a_is_whole := f4, d_is_whole := _, F_is_whole := fun_mk (st := s_is_whole) l4 c4 k4, B_is_whole := (fun_mk (st := s_is_whole) l4 c4 k4).binds (ps := ["thing", "low", "high"]) (fun _ _ _ _ _ _ us hl => match us, hl with | [_, _, _], _ => rfl), m_is_whole := PySem.W.mg_of X G a4,
    a_Keeper_init := f5, d_Keeper_init := _, F_Keeper_init := fun_mk (st := s_Keeper_init) l5 c5 k5, B_Keeper_init := (fun_mk (st := s_Keeper_init) l5 c5 k5).binds (ps := ["self"]) (fun _ _ _ _ _ _ us hl => match us, hl with | [_], _ => rfl),
    a_Keeper_lock := f6, d_Keeper_lock := _, F_Keeper_lock := fun_mk (st := s_Keeper_lock) l6 c6 k6, B_Keeper_lock := (fun_mk (st := s_Keeper_lock) l6 c6 k6).binds (ps := ["self", "to"]) (fun _ _ _ _ _ _ us hl => match us, hl with | [_, _], _ => rfl),
    a_Keeper_locked := f7, d_Keeper_locked := _, F_Keeper_locked := fun_mk (st := s_Keeper_locked) l7 c7 k7, B_Keeper_locked := (fun_mk (st := s_Keeper_locked) l7 c7 k7).binds (ps := ["self"]) (fun _ _ _ _ _ _ us hl => match us, hl with | [_], _ => rfl),
    a_Keeper_is_this := f8, d_Keeper_is_this := _, F_Keeper_is_this := fun_mk (st := s_Keeper_is_this) l8 c8 k8, B_Keeper_is_this := (fun_mk (st := s_Keeper_is_this) l8 c8 k8).binds (ps := ["self", "number"]) (fun _ _ _ _ _ _ us hl => match us, hl with | [_, _], _ => rfl),
    a_Keeper_opens := f9, d_Keeper_opens := _, F_Keeper_opens := fun_mk (st := s_Keeper_opens) l9 c9 k9, B_Keeper_opens := (fun_mk (st := s_Keeper_opens) l9 c9 k9).binds (ps := ["self", "number"]) (fun _ _ _ _ _ _ us hl => match us, hl with | [_, _], _ => rfl),
    a_Keeper_is_open := f10, d_Keeper_is_open := _, F_Keeper_is_open := fun_mk (st := s_Keeper_is_open) l10 c10 k10, B_Keeper_is_open := (fun_mk (st := s_Keeper_is_open) l10 c10 k10).binds (ps := ["self"]) (fun _ _ _ _ _ _ us hl => match us, hl with | [_], _ => rfl),
    a_Keeper_let_go := f11, d_Keeper_let_go := _, F_Keeper_let_go := fun_mk (st := s_Keeper_let_go) l11 c11 k11, B_Keeper_let_go := (fun_mk (st := s_Keeper_let_go) l11 c11 k11).binds (ps := ["self"]) (fun _ _ _ _ _ _ us hl => match us, hl with | [_], _ => rfl),
    a_Keeper_unlock := f12, d_Keeper_unlock := _, F_Keeper_unlock := fun_mk (st := s_Keeper_unlock) l12 c12 k12, B_Keeper_unlock := (fun_mk (st := s_Keeper_unlock) l12 c12 k12).binds (ps := ["self"]) (fun _ _ _ _ _ _ us hl => match us, hl with | [_], _ => rfl),
    a_Keeper_ended := f13, d_Keeper_ended := _, F_Keeper_ended := fun_mk (st := s_Keeper_ended) l13 c13 k13, B_Keeper_ended := (fun_mk (st := s_Keeper_ended) l13 c13 k13).binds (ps := ["self", "number"]) (fun _ _ _ _ _ _ us hl => match us, hl with | [_, _], _ => rfl),
    a_Keeper_times := f14, d_Keeper_times := _, F_Keeper_times := fun_mk (st := s_Keeper_times) l14 c14 k14, B_Keeper_times := (fun_mk (st := s_Keeper_times) l14 c14 k14).binds (ps := ["self"]) (fun _ _ _ _ _ _ us hl => match us, hl with | [_], _ => rfl),
    a_Keeper_twin := f15, d_Keeper_twin := _, F_Keeper_twin := fun_mk (st := s_Keeper_twin) l15 c15 k15, B_Keeper_twin := (fun_mk (st := s_Keeper_twin) l15 c15 k15).binds (ps := ["self"]) (fun _ _ _ _ _ _ us hl => match us, hl with | [_], _ => rfl),
    a_law_cell := f16, d_law_cell := _, F_law_cell := fun_mk (st := s_law_cell) l16 c16 k16, B_law_cell := (fun_mk (st := s_law_cell) l16 c16 k16).binds (ps := ["_law_script", "_law_k"]) (fun _ _ _ _ _ _ us hl => match us, hl with | [_, _], _ => rfl), m_law_cell := PySem.W.mg_of X G a16,
    a_law_box := f17, d_law_box := _, F_law_box := fun_mk (st := s_law_box) l17 c17 k17, B_law_box := (fun_mk (st := s_law_box) l17 c17 k17).binds (ps := ["_law_cell_here"]) (fun _ _ _ _ _ _ us hl => match us, hl with | [_], _ => rfl), m_law_box := PySem.W.mg_of X G a17,
    a_law_take := f18, d_law_take := _, F_law_take := fun_mk (st := s_law_take) l18 c18 k18, B_law_take := (fun_mk (st := s_law_take) l18 c18 k18).binds (ps := ["_law_box_here", "_law_many"]) (fun _ _ _ _ _ _ us hl => match us, hl with | [_, _], _ => rfl), m_law_take := PySem.W.mg_of X G a18,
    a_law_names := f19, d_law_names := _, F_law_names := fun_mk (st := s_law_names) l19 c19 k19, B_law_names := (fun_mk (st := s_law_names) l19 c19 k19).binds (ps := ["_law_box_here", "_law_many"]) (fun _ _ _ _ _ _ us hl => match us, hl with | [_, _], _ => rfl), m_law_names := PySem.W.mg_of X G a19,
    a_law_said := f20, d_law_said := _, F_law_said := fun_mk (st := s_law_said) l20 c20 k20, B_law_said := (fun_mk (st := s_law_said) l20 c20 k20).binds (ps := ["_law_keeper", "_law_deed_here"]) (fun _ _ _ _ _ _ us hl => match us, hl with | [_, _], _ => rfl), m_law_said := PySem.W.mg_of X G a20,
    a_law_done := f21, d_law_done := _, F_law_done := fun_mk (st := s_law_done) l21 c21 k21, B_law_done := (fun_mk (st := s_law_done) l21 c21 k21).binds (ps := ["_law_row", "_law_deed_here"]) (fun _ _ _ _ _ _ us hl => match us, hl with | [_, _], _ => rfl), m_law_done := PySem.W.mg_of X G a21,
    a_law_deed := f22, d_law_deed := _, F_law_deed := fun_mk (st := s_law_deed) l22 c22 k22, B_law_deed := (fun_mk (st := s_law_deed) l22 c22 k22).binds (ps := ["_law_box_here", "_law_names_here", "_law_row"]) (fun _ _ _ _ _ _ us hl => match us, hl with | [_, _, _], _ => rfl), m_law_deed := PySem.W.mg_of X G a22,
    a_law_same := f23, d_law_same := _, F_law_same := fun_mk (st := s_law_same) l23 c23 k23, B_law_same := (fun_mk (st := s_law_same) l23 c23 k23).binds (ps := ["_law_keepers", "_law_rows"]) (fun _ _ _ _ _ _ us hl => match us, hl with | [_, _], _ => rfl), m_law_same := PySem.W.mg_of X G a23,
    a_law := f24, d_law := _, F_law := fun_mk (st := s_law) l24 c24 k24, B_law := (fun_mk (st := s_law) l24 c24 k24).binds (ps := ["_law_script"]) (fun _ _ _ _ _ _ us hl => match us, hl with | [_], _ => rfl), m_law := PySem.W.mg_of X G a24,
    cl_Keeper := ⟨pg_Keeper, hd_Keeper, po_Keeper, sa_Keeper⟩,
    mk_Keeper := ⟨mk_Keeper, a5, if_Keeper, kc_Keeper⟩,
    na_Keeper_kept_times := na_Keeper_kept_times,
    na_Keeper_kept_shut := na_Keeper_kept_shut,
    na_Keeper_kept_open := na_Keeper_kept_open,
    M_Keeper_lock := ⟨a6, fn_Keeper_lock, k6⟩,
    M_Keeper_locked := ⟨a7, fn_Keeper_locked, k7⟩,
    M_Keeper_is_this := ⟨a8, fn_Keeper_is_this, k8⟩,
    M_Keeper_opens := ⟨a9, fn_Keeper_opens, k9⟩,
    M_Keeper_is_open := ⟨a10, fn_Keeper_is_open, k10⟩,
    M_Keeper_let_go := ⟨a11, fn_Keeper_let_go, k11⟩,
    M_Keeper_unlock := ⟨a12, fn_Keeper_unlock, k12⟩,
    M_Keeper_ended := ⟨a13, fn_Keeper_ended, k13⟩,
    M_Keeper_times := ⟨a14, fn_Keeper_times, k14⟩,
    M_Keeper_twin := ⟨a15, fn_Keeper_twin, k15⟩,
    er_Shut := ⟨⟨⟨_, _, _, _, _, _, _, _, _, _, _, _, _, _, _, xL_Shut, ve_Shut⟩, sa_Shut, ex_Shut, ty_Shut, kC_Shut⟩, ⟨ga_Shut, gg_Shut, ex_Shut, hd_Shut⟩, no_Shut, a1, ti_Shut, ha_Shut, hm_Shut⟩,
    er_NoRight := ⟨⟨⟨_, _, _, _, _, _, _, _, _, _, _, _, _, _, _, xL_NoRight, ve_NoRight⟩, sa_NoRight, ex_NoRight, ty_NoRight, kC_NoRight⟩, ⟨ga_NoRight, gg_NoRight, ex_NoRight, hd_NoRight⟩, no_NoRight, a2, ti_NoRight, ha_NoRight, hm_NoRight⟩,
    er_NotShut := ⟨⟨⟨_, _, _, _, _, _, _, _, _, _, _, _, _, _, _, xL_NotShut, ve_NotShut⟩, sa_NotShut, ex_NotShut, ty_NotShut, kC_NotShut⟩, ⟨ga_NotShut, gg_NotShut, ex_NotShut, hd_NotShut⟩, no_NotShut, a3, ti_NotShut, ha_NotShut, hm_NotShut⟩,
    rd_StaffError := ⟨rd_StaffError, rg_StaffError⟩, vi_StaffError := vi_StaffError,
    oc_get := oc_get, oc_take := oc_take,
    ex_Shut_Shut := ex_Shut_Shut,
    ex_NotShut_Shut := ex_NotShut_Shut,
    ex_NotShut_NotShut := ex_NotShut_NotShut,
    ex_NoRight_Shut := ex_NoRight_Shut,
    ex_NoRight_NotShut := ex_NoRight_NotShut,
    ex_NoRight_NoRight := ex_NoRight_NoRight,
    c_GREATEST := u_GREATEST, mc_GREATEST := PySem.W.mg_of X G g_GREATEST, rc_GREATEST := r_GREATEST,
    z_bool := PySem.W.mg_none_of X G z_bool,
    z_int := PySem.W.mg_none_of X G z_int,
    z_isinstance := PySem.W.mg_none_of X G z_isinstance,
    z_len := PySem.W.mg_none_of X G z_len,
    z_list := PySem.W.mg_none_of X G z_list,
    z_max := PySem.W.mg_none_of X G z_max,
    z_min := PySem.W.mg_none_of X G z_min,
    z_range := PySem.W.mg_none_of X G z_range,
    z_repr := PySem.W.mg_none_of X G z_repr,
    z_str := PySem.W.mg_none_of X G z_str }
  rw [e]
  exact ⟨T.d_law, fun s v => .of_eq rfl, fun base _ _ hs => ok_law T hs⟩
theorem walk {l : PySem.W.OpenLaw} {q : Program} {lo : List Str} {XP : (Str → Option Value) → Heap → Prop} {YP : World → Heap → Prop} {d : DefRec} {K : Params → PySem.W.Frag} (hn : l.most = some 63) (hdf : d.params.defaults = []) (hi : PyProof.Rows.importsNone q = true)
    (hY : ∀ (w : World) (h : Heap), YP w h → (K w.params).In h)
    (F : ∀ (w : World) (mg : Str → Option Value) (fa : Addr) (h : Heap), (K w.params).In h → h.Ns mainGlobals mg → mg d.name = some (.ref fa) →
      ∃ fd : FuncData, (∀ (s : Shared) (u : Value), BindsTo s fd ⟨[u], []⟩ [("_law_script", u)]) ∧ ∀ base : Heap, (K w.params).In base → base.Ns mainGlobals mg → (∃ mm, base.Ns sysModules mm) → FnG l.prog w (K w.params) mg base (L2.CX l.prog w) 5 fa fd ["_law_script"] (sp_law (K w.params))) :
    PySem.W.WalkO q lo XP YP l.row.toRowW d [] (fun f vs => PySem.call f vs) :=
  walkG (n := 63) (k := 5) (x := "_law_script") (cx := fun w => L2.CX l.prog w) (sp := fun w => sp_law (K w.params)) hn (by decide) hdf ⟨rfl, by decide, by decide⟩ hi hY F (fun _ _ a ns hl _ hS => ⟨_, rfl, a, ns, rfl, hS, hl, fun _ => rfl⟩) fun _ _ _ _ _ z => by obtain ⟨_, _, _, _, _, _, _, _, _, _, _, _, y⟩ := z; exact y
end K21
open PySem PySem.W PyProof.Rows
set_option maxRecDepth 100000 in
set_option maxHeartbeats 0 in
theorem PySem.Challenge.cw_onestaff_k21_locks_of_staffs_holds : PySem.Challenge.rw_onestaff_k21_locks_of_staffs.Holds := by
  w_on; o_law; k_head; (case hw => w_witness2)
  k_fill
  refine K21.walk (l := PySem.Challenge.rw_onestaff_k21_locks_of_staffs) rfl rfl rfl (fun w h Y => PySem.W.kIn_of Y) ?F
  case F =>
    intro w mg fa h KX G hmg
    refine' K21.all_mk KX G hmg ?n_Keeper ?n_Shut ?n_NoRight ?n_NotShut ?n_StaffError ?a1 ?l1 ?c1 ?k1 ?a2 ?l2 ?c2 ?k2 ?a3 ?l3 ?c3 ?k3 ?a4 ?l4 ?c4 ?k4 ?a5 ?l5 ?c5 ?k5 ?a6 ?l6 ?c6 ?k6 ?a7 ?l7 ?c7 ?k7 ?a8 ?l8 ?c8 ?k8 ?a9 ?l9 ?c9 ?k9 ?a10 ?l10 ?c10 ?k10 ?a11 ?l11 ?c11 ?k11 ?a12 ?l12 ?c12 ?k12 ?a13 ?l13 ?c13 ?k13 ?a14 ?l14 ?c14 ?k14 ?a15 ?l15 ?c15 ?k15 ?a16 ?l16 ?c16 ?k16 ?a17 ?l17 ?c17 ?k17 ?a18 ?l18 ?c18 ?k18 ?a19 ?l19 ?c19 ?k19 ?a20 ?l20 ?c20 ?k20 ?a21 ?l21 ?c21 ?k21 ?a22 ?l22 ?c22 ?k22 ?a23 ?l23 ?c23 ?k23 ?a24 ?l24 ?c24 ?k24 ?pg_Keeper ?hd_Keeper ?po_Keeper ?sa_Keeper ?mk_Keeper ?kc_Keeper ?if_Keeper ?na_Keeper_kept_times ?na_Keeper_kept_shut ?na_Keeper_kept_open ?fn_Keeper_lock ?fn_Keeper_locked ?fn_Keeper_is_this ?fn_Keeper_opens ?fn_Keeper_is_open ?fn_Keeper_let_go ?fn_Keeper_unlock ?fn_Keeper_ended ?fn_Keeper_times ?fn_Keeper_twin ?xL_Shut ?ve_Shut ?sa_Shut ?ga_Shut ?gg_Shut ?no_Shut ?ex_Shut ?ty_Shut ?kC_Shut ?hd_Shut ?ha_Shut ?hm_Shut ?ti_Shut ?xL_NoRight ?ve_NoRight ?sa_NoRight ?ga_NoRight ?gg_NoRight ?no_NoRight ?ex_NoRight ?ty_NoRight ?kC_NoRight ?hd_NoRight ?ha_NoRight ?hm_NoRight ?ti_NoRight ?xL_NotShut ?ve_NotShut ?sa_NotShut ?ga_NotShut ?gg_NotShut ?no_NotShut ?ex_NotShut ?ty_NotShut ?kC_NotShut ?hd_NotShut ?ha_NotShut ?hm_NotShut ?ti_NotShut ?rd_StaffError ?rg_StaffError ?vi_StaffError ?oc_get ?oc_take ?ex_Shut_Shut ?ex_NotShut_Shut ?ex_NotShut_NotShut ?ex_NoRight_Shut ?ex_NoRight_NotShut ?ex_NoRight_NoRight ?g_GREATEST ?r_GREATEST ?z_bool ?z_int ?z_isinstance ?z_len ?z_list ?z_max ?z_min ?z_range ?z_repr ?z_str
    (case n_Keeper => k_is)
    (case n_Shut => k_is)
    (case n_NoRight => k_is)
    (case n_NotShut => k_is)
    (case n_StaffError => k_is)
    (case a1 => k_is)
    (case l1 => k_is)
    (case c1 => k_is)
    (case k1 => k_is)
    (case a2 => k_is)
    (case l2 => k_is)
    (case c2 => k_is)
    (case k2 => k_is)
    (case a3 => k_is)
    (case l3 => k_is)
    (case c3 => k_is)
    (case k3 => k_is)
    (case a4 => k_is)
    (case l4 => k_is)
    (case c4 => k_is)
    (case k4 => k_is)
    (case a5 => k_is)
    (case l5 => k_is)
    (case c5 => k_is)
    (case k5 => k_is)
    (case a6 => k_is)
    (case l6 => k_is)
    (case c6 => k_is)
    (case k6 => k_is)
    (case a7 => k_is)
    (case l7 => k_is)
    (case c7 => k_is)
    (case k7 => k_is)
    (case a8 => k_is)
    (case l8 => k_is)
    (case c8 => k_is)
    (case k8 => k_is)
    (case a9 => k_is)
    (case l9 => k_is)
    (case c9 => k_is)
    (case k9 => k_is)
    (case a10 => k_is)
    (case l10 => k_is)
    (case c10 => k_is)
    (case k10 => k_is)
    (case a11 => k_is)
    (case l11 => k_is)
    (case c11 => k_is)
    (case k11 => k_is)
    (case a12 => k_is)
    (case l12 => k_is)
    (case c12 => k_is)
    (case k12 => k_is)
    (case a13 => k_is)
    (case l13 => k_is)
    (case c13 => k_is)
    (case k13 => k_is)
    (case a14 => k_is)
    (case l14 => k_is)
    (case c14 => k_is)
    (case k14 => k_is)
    (case a15 => k_is)
    (case l15 => k_is)
    (case c15 => k_is)
    (case k15 => k_is)
    (case a16 => k_is)
    (case l16 => k_is)
    (case c16 => k_is)
    (case k16 => k_is)
    (case a17 => k_is)
    (case l17 => k_is)
    (case c17 => k_is)
    (case k17 => k_is)
    (case a18 => k_is)
    (case l18 => k_is)
    (case c18 => k_is)
    (case k18 => k_is)
    (case a19 => k_is)
    (case l19 => k_is)
    (case c19 => k_is)
    (case k19 => k_is)
    (case a20 => k_is)
    (case l20 => k_is)
    (case c20 => k_is)
    (case k20 => k_is)
    (case a21 => k_is)
    (case l21 => k_is)
    (case c21 => k_is)
    (case k21 => k_is)
    (case a22 => k_is)
    (case l22 => k_is)
    (case c22 => k_is)
    (case k22 => k_is)
    (case a23 => k_is)
    (case l23 => k_is)
    (case c23 => k_is)
    (case k23 => k_is)
    (case a24 => k_is)
    (case l24 => k_is)
    (case c24 => k_is)
    (case k24 => k_is)
    (case pg_Keeper => k_is)
    (case hd_Keeper => k_is)
    (case po_Keeper => k_is)
    (case sa_Keeper => k_is)
    (case mk_Keeper => k_is)
    (case kc_Keeper => k_is)
    (case if_Keeper => k_is)
    (case na_Keeper_kept_times => k_is)
    (case na_Keeper_kept_shut => k_is)
    (case na_Keeper_kept_open => k_is)
    (case fn_Keeper_lock => k_is)
    (case fn_Keeper_locked => k_is)
    (case fn_Keeper_is_this => k_is)
    (case fn_Keeper_opens => k_is)
    (case fn_Keeper_is_open => k_is)
    (case fn_Keeper_let_go => k_is)
    (case fn_Keeper_unlock => k_is)
    (case fn_Keeper_ended => k_is)
    (case fn_Keeper_times => k_is)
    (case fn_Keeper_twin => k_is)
    (case xL_Shut => k_is)
    (case ve_Shut => rfl)
    (case sa_Shut => k_is)
    (case ga_Shut => k_is)
    (case gg_Shut => k_is)
    (case no_Shut => k_is)
    (case ex_Shut => k_is)
    (case ty_Shut => k_is)
    (case kC_Shut => k_is)
    (case hd_Shut => k_is)
    (case ha_Shut => k_is)
    (case hm_Shut => k_is)
    (case ti_Shut => k_is)
    (case xL_NoRight => k_is)
    (case ve_NoRight => rfl)
    (case sa_NoRight => k_is)
    (case ga_NoRight => k_is)
    (case gg_NoRight => k_is)
    (case no_NoRight => k_is)
    (case ex_NoRight => k_is)
    (case ty_NoRight => k_is)
    (case kC_NoRight => k_is)
    (case hd_NoRight => k_is)
    (case ha_NoRight => k_is)
    (case hm_NoRight => k_is)
    (case ti_NoRight => k_is)
    (case xL_NotShut => k_is)
    (case ve_NotShut => rfl)
    (case sa_NotShut => k_is)
    (case ga_NotShut => k_is)
    (case gg_NotShut => k_is)
    (case no_NotShut => k_is)
    (case ex_NotShut => k_is)
    (case ty_NotShut => k_is)
    (case kC_NotShut => k_is)
    (case hd_NotShut => k_is)
    (case ha_NotShut => k_is)
    (case hm_NotShut => k_is)
    (case ti_NotShut => k_is)
    (case rd_StaffError => k_is)
    (case rg_StaffError => k_is)
    (case vi_StaffError => k_is)
    (case oc_get => k_is)
    (case oc_take => k_is)
    (case ex_Shut_Shut => kts_exm)
    (case ex_NotShut_Shut => kts_exm)
    (case ex_NotShut_NotShut => kts_exm)
    (case ex_NoRight_Shut => kts_exm)
    (case ex_NoRight_NotShut => kts_exm)
    (case ex_NoRight_NoRight => kts_exm)
    (case g_GREATEST => k_is)
    (case r_GREATEST => exact ⟨_, rfl⟩)
    (case z_bool => k_is)
    (case z_int => k_is)
    (case z_isinstance => k_is)
    (case z_len => k_is)
    (case z_list => k_is)
    (case z_max => k_is)
    (case z_min => k_is)
    (case z_range => k_is)
    (case z_repr => k_is)
    (case z_str => k_is)
#print axioms PySem.Challenge.cw_onestaff_k21_locks_of_staffs_holds

