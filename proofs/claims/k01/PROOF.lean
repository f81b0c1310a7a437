import PyProof.Rows.All
import Wide.All
import OpenK.AllK
import Wide.FinOn
import HandS.ForMost
import PyProof.ReprRoads
import HandS.EndBits
import PyProof.ReprBulk
import PyProof.StrLaws
import HandS.Wide
import HandS.IsInst
import HandS.TupAny
import HandS.Walk
import HandS.Small
import PySem.Challenge.RW_onestaff_k01_words_of_anything
set_option Elab.async false
set_option linter.all false
set_option maxRecDepth 100000
set_option maxHeartbeats 4000000

namespace U
open PySem L2 PySem.Spec PyProof.Rows

/-! a def's promise where no repr is under way around it -/
section
variable (P : Program) (w : World) (K : PySem.W.Frag) (mg : Str → Option Value) (base : Heap)
structure FnG (cx : CXT) (k : Nat) (f : Addr) (fd : FuncData) (ps : List Str) (sp : Sp) : Prop where
  len : ∀ vs H Q E, sp vs H Q E → vs.length = ps.length
  run : ∀ (A : Around) (o : List Env) (s : Shared) (H : Hp) (ar : Args) (us : List Value) (vs : List V) (Q : VK) (E : XK),
    A.guards = some [] → Room k A → Env0 P w K mg base A o s H → BindsTo s fd ar (ps.zip us) → Vals vs us → sp vs H Q E →
    codeAny (model P w) A (.call (.ref f) ar) (CR cx o P w H s Q E) s
end
section
variable {P : Program} {w : World} {K : PySem.W.Frag} {mg : Str → Option Value} {base : Heap} {cx : CXT} {k : Nat} {f : Addr} {fd : FuncData} {ps : List Str} {sp : Sp}
theorem FnG.of (F : FnOk P w K mg base cx k f fd ps sp) : FnG P w K mg base cx k f fd ps sp :=
  ⟨F.len, fun A o s H ar us vs Q E _ => F.run A o s H ar us vs Q E⟩
theorem FnG.mono {j : Nat} (F : FnG P w K mg base cx j f fd ps sp) (h : j ≤ k) : FnG P w K mg base cx k f fd ps sp :=
  ⟨F.len, fun A o s H ar us vs Q E g r => F.run A o s H ar us vs Q E g (r.mono h)⟩

theorem fnG_of {nm ql : Str} {pr : Arguments} {bd : List Stmt} {sc : Scope} {dV kV dc pm cd ct oc : Value} {an od : Option Addr} {os : Array (Option Value)} {N : List Str}
    (lk : K.lookup f = some ⟨oc, od, .func (PySem.W.fnOf nm ql pr bd sc dV kV dc pm an cd ct), os⟩) (hc : PySem.W.codeIn K cd ql = true) (S : FnScope N ps sc)
    (len : ∀ vs H Q E, sp vs H Q E → vs.length = ps.length)
    (hb : ∀ (A : Around) (o : List Env) (s : Shared) (H : Hp) (vs : List V) (Q : VK) (E : XK), A.guards = some [] → Room k (A.deeper (envOfC ql sc s.heap.objs.size f cd)) → sp vs H Q E →
      ∃ t, PSs (cxOf cx P w K mg base N ql sc f cd A o s H E) bd t ∧ t { nx := fun _ H' => Q .non H', rt := Q } (start N vs) H) :
    FnG P w K mg base cx (k + 1) f (PySem.W.fnOf nm ql pr bd sc dV kV dc pm an cd ct) ps sp where
  len := len
  run := by
    intro A o s H ar us vs Q E hg hr e0 bi vv q
    have hl := len vs H Q E q
    have kp : ∀ b ob, base.get? b = some ob → s.heap.get? b = some ob := fun b ob e => (e0.bs b ob e).1
    have KX : K.In s.heap := e0.mod.kin.keeps kp
    have nl : s.heap.NoLimit := e0.mod.nolimit.keeps kp
    refine codeAny_call_function hr.depth (KX f _ lk) rfl S.co S.gen rfl (PySem.W.codeRec_of KX hc) (bi _ _ _ _ ?_)
    refine wpAny_newFunctionEnv_cells S.kind (fun y hy => ?_) fun ev he s1 x => ?_
    · obtain ⟨n, v⟩ := y
      rcases S.par n (List.of_mem_zip hy).1 with e | e
      · exact Or.inl e
      · exact Or.inr ⟨e, PySem.W.cellsFrom_some _ _ _ (Or.inl e)⟩
    · subst he
      obtain ⟨t, ht, z⟩ := hb A o s H vs Q E hg (hr.deeper _) q
      have J0 : Inv (cxOf cx P w K mg base N ql sc f cd A o s H E) [] (start N vs) H s1 := inv_start S hr.hd e0 hl vv x
      refine ⟨nl.keeps x.toInCall.keep, codeAny_func (wpAny_mono (ht.run [] s1 (start N vs) H _ J0 z) (fun fl s2 h2 => ?_) fun _ _ h2 => h2)⟩
      cases fl with
      | brk => obtain ⟨_, _, _, z⟩ := h2; exact z.elim
      | cont => obtain ⟨_, _, _, z⟩ := h2; exact z.elim
      | next =>
        obtain ⟨σ2, H2, J, z⟩ := h2
        exact ⟨V.non, H2, J.os, J.bare, J.base, J.hok, rfl, z⟩
      | ret u =>
        obtain ⟨v, σ2, H2, J, rv, z⟩ := h2
        exact ⟨v, H2, J.os, J.bare, J.base, J.hok, rv, z⟩
theorem okG {nm ql : Str} {st : Stmt} {N : List Str} (F : Fun K nm ql st f fd) (S : FnScope N ps (defScope st)) (len : ∀ vs H Q E, sp vs H Q E → vs.length = ps.length)
    (hb : ∀ (cd : Value) (A : Around) (o : List Env) (s : Shared) (H : Hp) (vs : List V) (Q : VK) (E : XK), A.guards = some [] → Room k (A.deeper (envOfC ql (defScope st) s.heap.objs.size f cd)) → sp vs H Q E →
      ∃ t, PSs (cxOf cx P w K mg base N ql (defScope st) f cd A o s H E) (defBody st) t ∧ t { nx := fun _ H' => Q .non H', rt := Q } (start N vs) H) :
    FnG P w K mg base cx (k + 1) f fd ps sp := by
  obtain ⟨_, _, _, _, _, _, cd, _, _, rfl, lk, hc⟩ := F.ex
  exact fnG_of lk hc S len fun A o s H vs Q E g r q => hb cd A o s H vs Q E g r q
theorem okG0 {nm ql : Str} {st : Stmt} {N : List Str} (F : Fun K nm ql st f fd) (S : FnScope N ps (defScope st)) (len : ∀ vs H Q E, sp vs H Q E → vs.length = ps.length)
    (hb : ∀ (cd : Value) (A : Around) (o : List Env) (s : Shared) (H : Hp) (vs : List V) (Q : VK) (E : XK), A.guards = some [] → Room k (A.deeper (envOfC ql (defScope st) s.heap.objs.size f cd)) → sp vs H Q E →
      ∃ t, PSs (cxOf CX0 P w K mg base N ql (defScope st) f cd A o s H E).nox (defBody st) t ∧ t { nx := fun _ H' => Q .non H', rt := Q } (start N vs) H) :
    FnG P w K mg base CX0 (k + 1) f fd ps sp :=
  okG F S len fun cd A o s H vs Q E g r q => by
    obtain ⟨t, h, z⟩ := hb cd A o s H vs Q E g r q
    exact ⟨t, h.nox, z⟩
end

section
variable {X : Cx} {cx : CXT} {k : Nat} {f : Addr} {fd : FuncData} {ps : List Str} {sp : Sp} {E : XK} {x : Str} {p pos : Pos} {e : Expr} {es : List Expr} {t : TA}
theorem run_fnG {pins : List (Addr × Obj)} {σ : L2.St} {H : Hp} {s : Shared} {Q : VK} {us : List Value} {vs : List V} (F : FnG X.prog X.w X.K X.mg X.base cx k f fd ps sp) (hg : X.A.guards = some []) (hr : Room k X.A) (hb : Binds X.K fd ps [])
    (hx : Passes cx X E) (I : Inv X pins σ H s) (r : Vals vs us) (h : sp vs H Q E) : wpAny (model X.prog X.w) X.A (call (.ref f) us) (EP X pins σ Q) X.xe s := by
  have e1 : us ++ [] = us := List.append_nil us
  have hl : (us ++ []).length = ps.length := by rw [e1, ← r.length]; exact F.len _ _ _ _ h
  have b1 := hb s us I.kIn hl
  rw [e1] at b1
  refine wpAny_call (codeAny_mono (F.run X.A X.stack s H ⟨us, []⟩ us vs Q E hg hr I.env0 b1 r h) fun rr s' hq => ?_)
  match rr, hq with
  | .error er, hq => exact hx pins σ H s er s' I hq
  | .ok (.ret u), hq => exact I.after hq
  | .ok .next, hq => exact False.elim hq
  | .ok .brk, hq => exact False.elim hq
  | .ok .cont, hq => exact False.elim hq
def tGo (sp : Sp) (E : XK) (t : TA) : TE := fun σ H Q => t σ H fun vs H1 => sp vs H1 Q E
/-- f(e, ..) -/
theorem pe_go (F : FnG X.prog X.w X.K X.mg X.base cx k f fd ps sp) (hg : X.A.guards = some []) (hr : Room k X.A) (gl : Gl X x) (hm : X.mg x = some (.ref f)) (hk : PySem.W.keepIn X.K (.ref f) = true) (hb : Binds X.K fd ps []) (hx : Passes cx X E)
    (ha : PA X (e :: es) t) (h1 : (x == ("__debug__" : Str)) = false := by decide) (h2 : starEach (e :: es) X.env = (false, eval e X.env) :: starEach es X.env := by rfl) (h3 : (backTo pos (starEach es X.env)).any (·.1) = false := by rfl) :
    PE X (.Call (.Name x p) (e :: es) [] pos) (tGo sp E t) := by
  refine ⟨fun pi s σ H Q I h => wpAny_Call_Name_kw (ld_glob I gl hm ?_ h1)⟩
  refine PySem.W.callWith_K (h₀ := X.base) I.ok.mod.kin hk (thn (ha.run pos pi s σ H _ I h) ?_) h2 h3
  rintro us s1 ⟨vs, H1, I1, r, q⟩
  exact ⟨I1.kIn, run_fnG F hg hr hb hx I1 r q⟩
theorem pe_go0 (F : FnG X.prog X.w X.K X.mg X.base cx k f fd ps sp) (hg : X.A.guards = some []) (hr : Room k X.A) (gl : Gl X x) (hm : X.mg x = some (.ref f)) (hk : PySem.W.keepIn X.K (.ref f) = true) (hb : Binds X.K fd ps []) (hx : Passes cx X E)
    (h1 : (x == ("__debug__" : Str)) = false := by decide) : PE X (.Call (.Name x p) [] [] pos) (tGo sp E tNil) := by
  refine ⟨fun pi s σ H Q I h => wpAny_Call_Name_kw (ld_glob I gl hm ?_ h1)⟩
  exact PySem.W.callWith_K0 I.kIn hk (run_fnG (us := []) F hg hr hb hx I .nil h)
end

/-! the law's own call -/
section
variable {P : Program} {w : World} {K : PySem.W.Frag} {mg mb : Str → Option Value} {cx : CXT} {k : Nat} {fa a : Addr} {fd : FuncData} {x : Str} {sp : Sp} {s1 : Shared} {vs : List Value} {ns : List Int}
/-- the heap at the entry: the script alone is tracked, as it stands -/
def Hin (K : PySem.W.Frag) (a : Addr) (o : Obj) (ns : List Int) : Hp := fun b => if b = a ∧ K.lookup a = none then some (.frz o (.lst (ns.map V.int))) else none
theorem law_callG (KX : K.In s1.heap) (hns : s1.heap.Ns mainGlobals mg) (hb : s1.heap.Ns builtinsNs mb) (hbb : ∀ x : Str, x ≠ "__name__" → mb x = bootBuiltins x) (hlim : s1.heap.NoLimit) (hsy : ∃ mm, s1.heap.Ns sysModules mm) (hg : s1.gens = #[])
    (ha : s1.heap.get? a = some { cls := .type "list", data := .seq vs.toArray }) (hi : IntsAre vs ns) (hl : ns.length ≤ sizeLine) (hr : Room k callerA)
    (F : ∀ base : Heap, K.In base → base.Ns mainGlobals mg → (∃ mm, base.Ns sysModules mm) → FnG P w K mg base cx k fa fd [x] sp)
    (hbind : ∀ (s : Shared) (u : Value), BindsTo s fd ⟨[u], []⟩ [(x, u)])
    (hsp : ∀ H : Hp, SqL K H a (ns.map V.int) → sp [.ref a] H (fun v _ => v = .bl true) fun _ _ _ => False)
    (hcx : ∀ H e s', cx [] H s1 (fun _ _ _ => False) e s' → False) :
    codeAny (model P w) callerA (.call (.ref fa) ⟨[.ref a], []⟩) (fun r s' => r = .ok (.ret (.bool true)) ∧ OldK s1.heap s'.heap ∧ s'.os = s1.os ∧ AllBare s'.gens) s1 := by
  generalize ho : ({ cls := .type "list", data := .seq vs.toArray } : Obj) = o at ha
  have rv := vals_ints hi
  have hlen := hi.length
  have hH : ∀ b u, Hin K a o ns b = some u → b = a ∧ K.lookup a = none ∧ u = .frz o (.lst (ns.map V.int)) := fun b u e => by
    unfold Hin at e
    by_cases c : b = a ∧ K.lookup a = none
    · rw [if_pos c] at e; exact ⟨c.1, c.2, (Option.some.inj e).symm⟩
    · rw [if_neg c] at e; cases e
  have hok : HOk P w (Hin K a o ns) s1.heap := fun b u e => by
    obtain ⟨rfl, _, rfl⟩ := hH b u e
    exact ⟨ha, by rw [List.length_map]; exact hl, vs, _, rv, by rw [ha, ← ho]⟩
  have hS : SqL K (Hin K a o ns) a (ns.map V.int) := by
    cases hk : K.lookup a with
    | none => exact Or.inl (Or.inr ⟨o, if_pos ⟨rfl, hk⟩⟩)
    | some o2 =>
      have e := KX a o2 hk
      rw [ha] at e
      cases e
      exact Or.inr ⟨_, vs.toArray, 0, hk, by rw [← ho], by rw [← ho], by rw [← ho], by rw [List.size_toArray, hlen]; exact hl, rv⟩
  have toB : ∀ {b : Addr} {ob : Obj}, s1.heap.get? b = some ob → Hin K a o ns b = none → (hidT s1.heap (Hin K a o ns)).get? b = some ob := fun e n => hidT_get e n
  have dictN : ∀ {b : Addr} {ob : Obj}, s1.heap.get? b = some ob → (∀ it n, ob.data ≠ .seq it n) → Hin K a o ns b = none := fun {b ob} e d => by
    cases q : Hin K a o ns b with
    | none => rfl
    | some u =>
      obtain ⟨rfl, _, _⟩ := hH b u q
      rw [ha] at e
      cases e
      exact (d vs.toArray 0 (by rw [← ho])).elim
  have nsB : ∀ {b : Addr} {m : Str → Option Value}, s1.heap.Ns b m → (hidT s1.heap (Hin K a o ns)).Ns b m := fun {b m} h => by
    obtain ⟨ob, es, ep, e, d, r⟩ := h
    exact ⟨ob, es, ep, toB e (dictN e fun it n z => by rw [d] at z; cases z), d, r⟩
  have KB : K.In (hidT s1.heap (Hin K a o ns)) := fun b ob e => toB (KX b ob e) (by
    cases q : Hin K a o ns b with
    | none => rfl
    | some u =>
      obtain ⟨rfl, z, _⟩ := hH b u q
      rw [z] at e; cases e)
  have lim : (hidT s1.heap (Hin K a o ns)).NoLimit := by
    obtain ⟨mc, h1, h2⟩ := hlim
    exact ⟨mc, nsB h1, h2⟩
  have M : Mod K mg (hidT s1.heap (Hin K a o ns)) := ⟨KB, nsB hns, ⟨mb, nsB hb, hbb⟩, lim⟩
  have e0 : Env0 P w K mg (hidT s1.heap (Hin K a o ns)) callerA [] s1 (Hin K a o ns) :=
    ⟨rfl, M, fun b ob e => of_hidT e, Nat.le_of_eq (hidT_size _ _), trivial, fun b z => (nomatch z), hok, .of_eq hg⟩
  have G := F _ KB (nsB hns) (by obtain ⟨mm, z⟩ := hsy; exact ⟨mm, nsB z⟩)
  refine codeAny_mono (G.run callerA [] s1 _ ⟨[.ref a], []⟩ [.ref a] [.ref a] _ _ rfl hr e0 (hbind s1 (.ref a)) (.cons rfl .nil) (hsp _ hS)) fun r s2 h => ?_
  match r, h with
  | .error er, h => exact (hcx _ er s2 h).elim
  | .ok .next, h => exact False.elim h
  | .ok .brk, h => exact False.elim h
  | .ok .cont, h => exact False.elim h
  | .ok (.ret u), h =>
    obtain ⟨v, H2, os, br, un, hok2, r2, q⟩ := h
    have q2 : v = .bl true := q
    subst q2
    obtain rfl : u = Value.bool true := r2
    refine ⟨rfl, OldK.of_keep fun b ob e => ?_, os, br⟩
    cases z : Hin K a o ns b with
    | none => exact un.keep b ob e z (fun m => nomatch m) (fun m => nomatch m)
    | some u =>
      obtain ⟨rfl, _, rfl⟩ := hH b u z
      obtain ⟨y, _⟩ := hok2 b _ (un.frzs b _ _ z)
      rw [ha] at e
      cases e
      exact y
end
/-- the end of a law: what k_head leaves, from the law's promise -/
theorem walkG {l : PySem.W.OpenLaw} {n k : Nat} {q : Program} {lo : List Str} {XP : (Str → Option Value) → Heap → Prop} {YP : World → Heap → Prop} {d : DefRec} {K : Params → PySem.W.Frag} {cx : World → CXT} {sp : World → Sp} {x : Str}
    (hn : l.most = some n) (hn2 : n ≤ sizeLine) (hdf : d.params.defaults = []) (hr : Room k callerA) (him : importsNone q = true)
    (hY : ∀ (w : World) (h : Heap), YP w h → (K w.params).In h)
    (F : ∀ (w : World) (mg : Str → Option Value) (fa : Addr) (h : Heap), (K w.params).In h → h.Ns mainGlobals mg → mg d.name = some (.ref fa) →
      ∃ fd : FuncData, (∀ (s : Shared) (u : Value), BindsTo s fd ⟨[u], []⟩ [(x, u)]) ∧
        ∀ base : Heap, (K w.params).In base → base.Ns mainGlobals mg → (∃ mm, base.Ns sysModules mm) → FnG l.prog w (K w.params) mg base (cx w) k fa fd [x] (sp w))
    (hsp : ∀ (w : World) (H : Hp) (a : Addr) (ns : List Int), ns.length ≤ n → (∀ z ∈ ns, Builtin.Int.intBits z ≤ 1048576) → SqL (K w.params) H a (ns.map V.int) → sp w [.ref a] H (fun v _ => v = .bl true) fun _ _ _ => False)
    (hcx : ∀ (w : World) (H : Hp) (s : Shared) (e : Value) (s' : Shared), cx w [] H s (fun _ _ _ => False) e s' → False) :
    PySem.W.WalkO q lo XP YP l.row.toRowW d [] (fun f vs => PySem.call f vs) := by
  refine Att.attach_callB hn hdf ?_
  intro w s0 s1 mg mb fa o pm cd doc a vs ns G Y ho hd hcd hmg hob hin hle hbi hge
  obtain ⟨fd, hb, hF⟩ := F w mg fa _ (hY w _ Y) G.T.g hmg
  have hsy : ∃ mm, s1.heap.Ns sysModules mm := by
    obtain ⟨mm, z, _⟩ := (G.T.seer him).mods
    exact ⟨mm, z⟩
  exact law_callG (hY w _ Y) G.T.g G.T.b G.T.builtins G.T.nolimit hsy hge hob hin (Nat.le_trans hle hn2) hr hF hb (fun H hS => hsp w H a ns hle hbi hS) fun H e s' => hcx w H s1 e s'

/-! data, by what repr shows -/
def keyD (k : Key) : PyData := match k with | .inl i => PyData.int i | .inr x => PyData.str x
mutual
inductive Dn (K : PySem.W.Frag) (H : Hp) : V → PyData → Prop
  | non : Dn K H .non .none
  | bl (b : Bool) : Dn K H (.bl b) (.bool b)
  | int (i : Int) : Dn K H (.int i) (.int i)
  | str (x : Str) : Dn K H (.str x) (.str x)
  | lst {a : Addr} {xs : List V} {ds : List PyData} : Rd H a (.lst xs) → DnA K H xs ds → Dn K H (.ref a) (.list ds)
  | tup {a : Addr} {xs : List V} {ds : List PyData} : SqT K H a xs → DnA K H xs ds → Dn K H (.ref a) (.tuple ds)
  | dic {a : Addr} {kvs : List (Key × V)} {ds : List PyData} : Rd H a (.dK kvs) → DnA K H (kvs.map (·.2)) ds → Dn K H (.ref a) (.dict ((kvs.map fun p => keyD p.1).zip ds))
inductive DnA (K : PySem.W.Frag) (H : Hp) : List V → List PyData → Prop
  | nil : DnA K H [] []
  | cons {v : V} {vs : List V} {d : PyData} {ds : List PyData} : Dn K H v d → DnA K H vs ds → DnA K H (v :: vs) (d :: ds)
end
end U

namespace U
open PySem L2 PySem.Spec PyProof.Rows

section
variable {X : Cx} {pins : List (Addr × Obj)} {σ : L2.St} {H : Hp} {s : Shared}
theorem rd_low (I : Inv X pins σ H s) (hs : ∃ mm, X.base.Ns sysModules mm) {a : Addr} {u : HO} (r : Rd H a u) : a ≠ sysModules := by
  rintro rfl
  obtain ⟨mm, ob, es, ep, e, _⟩ := hs
  have n := (I.bs _ ob e).2
  rcases r with r | ⟨o, r⟩ <;> (rw [n] at r; cases r)
theorem pairs_reads {P : Program} {w : World} {h : Heap} : ∀ {es : List DictEntry} {kvs : List (Key × V)} {vs : List (Key × Value)}, Pairs (mixKind P w) es vs → KV kvs vs →
    ReadsAll h (es.map (·.key)) (kvs.map fun p => keyD p.1) [] ∧ Vals (kvs.map (·.2)) (es.map (·.val))
  | _, _, _, .nil, .nil => ⟨.nil, .nil⟩
  | e :: es, (k, v) :: kvs, (k2, u) :: vs, .cons h1 h2 h3, .cons ⟨q1, q2⟩ h4 => by
    obtain ⟨r1, r2⟩ := pairs_reads (h := h) h3 h4
    have q1 : k = k2 := q1
    subst q1
    refine ⟨?_, .cons (show RelV v e.val by rw [h2]; exact q2) r2⟩
    show ReadsAll h (e.key :: _) (keyD k :: _) ([] ++ [])
    refine .cons ?_ r1
    rcases keyIs_shape h1 with ⟨i, t, z, y⟩ | ⟨x, t, z, y⟩
    · have z : k = Sum.inl i := z
      rw [y, z]; exact Reads.int i t
    · have z : k = Sum.inr x := z
      rw [y, z]; exact Reads.str x t
mutual
theorem Dn.reads (I : Inv X pins σ H s) (hs : ∃ mm, X.base.Ns sysModules mm) : ∀ {v : V} {d : PyData} {u : Value}, Dn X.K H v d → RelV v u → ∃ as, Reads s.heap u d as ∧ sysModules ∉ as
  | _, _, _, .non, r => by cases r; exact ⟨[], Reads.none, by simp⟩
  | _, _, _, .bl b, r => by cases r; exact ⟨[], Reads.bool b, by simp⟩
  | _, _, _, .int i, r => by obtain ⟨t, rfl⟩ := r; exact ⟨[], Reads.int i t, by simp⟩
  | _, _, _, .str x, r => by obtain ⟨t, rfl⟩ := r; exact ⟨[], Reads.str x t, by simp⟩
  | _, _, _, .lst h1 h2, r => by
    cases r
    obtain ⟨its, rv, ⟨o, n, ho, hc, _, hd⟩, _⟩ := I.list (Or.inl h1)
    obtain ⟨as, q1, q2⟩ := DnA.reads I hs h2 rv
    exact ⟨_, Reads.list ho hc hd q1, fun m => (List.mem_cons.mp m).elim (fun e => rd_low I hs h1 e.symm) q2⟩
  | _, _, _, .tup h1 h2, r => by
    cases r
    obtain ⟨its, rv, ⟨o, ho, hc, n, hd⟩, _⟩ := I.tuple h1
    obtain ⟨as, q1, q2⟩ := DnA.reads I hs h2 rv
    exact ⟨_, Reads.tuple ho hc hd q1, q2⟩
  | _, _, _, .dic (kvs := kvs) (ds := ds) h1 h2, r => by
    cases r
    obtain ⟨_, low, vs, kv, o, es, ep, ho, hc, hd, _, hp, _⟩ := h1.ok I.hok
    obtain ⟨q1, q2⟩ := pairs_reads (h := s.heap) hp kv
    obtain ⟨as, q3, q4⟩ := DnA.reads I hs h2 q2
    have el : ds.length = kvs.length := by
      have e1 := DnA.len h2
      rw [List.length_map] at e1
      exact e1.symm
    have z1 : ((kvs.map fun p => keyD p.1).zip ds).map (·.1) = kvs.map fun p => keyD p.1 := by
      rw [List.map_fst_zip]; rw [List.length_map]; omega
    have z2 : ((kvs.map fun p => keyD p.1).zip ds).map (·.2) = ds := by
      rw [List.map_snd_zip]; rw [List.length_map]; omega
    refine ⟨_, Reads.dict ho hc.1 hd (kvs := (kvs.map fun p => keyD p.1).zip ds) (as := []) (bs := as) ?_ ?_, ?_⟩
    · rw [z1]; exact q1
    · rw [z2]; exact q3
    · intro m
      rcases List.mem_cons.mp m with e | e
      · exact rd_low I hs h1 e.symm
      · exact q4 (by simpa using e)
theorem DnA.reads (I : Inv X pins σ H s) (hs : ∃ mm, X.base.Ns sysModules mm) : ∀ {vs : List V} {ds : List PyData} {us : List Value}, DnA X.K H vs ds → Vals vs us → ∃ as, ReadsAll s.heap us ds as ∧ sysModules ∉ as
  | _, _, _, .nil, r => by cases r; exact ⟨[], ReadsAll.nil, by simp⟩
  | _, _, _, .cons h1 h2, r => by
    cases r with
    | cons r1 r2 =>
      obtain ⟨as, q1, q2⟩ := Dn.reads I hs h1 r1
      obtain ⟨bs, q3, q4⟩ := DnA.reads I hs h2 r2
      exact ⟨_, ReadsAll.cons q1 q3, fun m => (List.mem_append.mp m).elim q2 q4⟩
theorem DnA.len {K : PySem.W.Frag} : ∀ {vs : List V} {ds : List PyData}, DnA K H vs ds → vs.length = ds.length
  | _, _, .nil => rfl
  | _, _, .cons _ h => by rw [List.length_cons, List.length_cons, DnA.len h]
end
end
/-! what may be shown, and how long it is -/
mutual
def good : PyData → Prop
  | .none => True
  | .bool _ => True
  | .int i => i.natAbs < 10 ^ 100
  | .str x => ∀ c ∈ x.cps.toList, c < 4294967296
  | .list xs => goodA xs
  | .tuple xs => goodA xs
  | .dict kvs => goodK kvs
def goodA : List PyData → Prop
  | [] => True
  | x :: xs => good x ∧ goodA xs
def goodK : List (PyData × PyData) → Prop
  | [] => True
  | (k, v) :: r => good k ∧ good v ∧ goodK r
end
mutual
def sz : PyData → Nat
  | .none => 4
  | .bool _ => 5
  | .int _ => 102
  | .str x => 10 * x.length + 2
  | .list xs => szA xs + 3
  | .tuple xs => szA xs + 3
  | .dict kvs => szK kvs + 3
def szA : List PyData → Nat
  | [] => 0
  | x :: xs => sz x + 2 + szA xs
def szK : List (PyData × PyData) → Nat
  | [] => 0
  | (k, v) :: r => sz k + sz v + 4 + szK r
end
theorem int_len {i : Int} (h : i.natAbs < 10 ^ 100) : (Str.ofString (toString i)).length ≤ 102 := by
  have e := int_text_length_le10 (k := 100) (by decide) h
  rw [PySem.ofString_length]
  omega
mutual
theorem good_show : ∀ {d : PyData}, good d → d.showable = true ∧ d.shown.length ≤ sz d
  | .none, _ => ⟨rfl, by decide +kernel⟩
  | .bool b, _ => ⟨rfl, by cases b <;> decide +kernel⟩
  | .int i, h => by
    refine ⟨?_, ?_⟩
    · simp only [PyData.showable, decide_eq_true_eq]
      have h : i.natAbs < 10 ^ 100 := by simpa only [good] using h
      refine log2_small (Nat.lt_of_lt_of_le h ?_)
      decide +kernel
    · have h : i.natAbs < 10 ^ 100 := by simpa only [good] using h
      exact int_len h
  | .str x, h => by
    refine ⟨rfl, ?_⟩
    have h : ∀ c ∈ x.cps.toList, c < 4294967296 := by simpa only [good] using h
    simp only [PyData.shown, sz]
    exact StrLaws.reprText_len x h
  | .list xs, h => by
    have q := goodA_show (ds := xs) (by simpa only [good] using h)
    refine ⟨by simpa only [PyData.showable] using q.1, ?_⟩
    simp only [PyData.shown, sz]
    have := listText_len_le (PyData.shownAll xs)
    have e : (PyData.shownAll xs).length = xs.length := q.2.2
    omega
  | .tuple xs, h => by
    have q := goodA_show (ds := xs) (by simpa only [good] using h)
    refine ⟨by simpa only [PyData.showable] using q.1, ?_⟩
    simp only [PyData.shown, sz]
    have := tupleText_len_le (PyData.shownAll xs)
    have e : (PyData.shownAll xs).length = xs.length := q.2.2
    omega
  | .dict kvs, h => by
    have q := goodK_show (ds := kvs) (by simpa only [good] using h)
    refine ⟨by simpa only [PyData.showable] using q.1, ?_⟩
    simp only [PyData.shown, sz]
    have := dictText_len_le (PyData.shownKv kvs)
    have e : (PyData.shownKv kvs).length = kvs.length := q.2.2
    omega
theorem goodA_show : ∀ {ds : List PyData}, goodA ds → PyData.showableAll ds = true ∧ ((PyData.shownAll ds).map (·.length)).sum + 2 * ds.length ≤ szA ds ∧ (PyData.shownAll ds).length = ds.length
  | [], _ => ⟨rfl, by simp [PyData.shownAll, szA], rfl⟩
  | x :: xs, h => by
    obtain ⟨h1, h2⟩ : good x ∧ goodA xs := by simpa only [goodA] using h
    obtain ⟨a1, a2⟩ := good_show h1
    obtain ⟨b1, b2, b3⟩ := goodA_show h2
    refine ⟨by simp only [PyData.showableAll, a1, b1, Bool.and_self], ?_, by simp only [PyData.shownAll, List.length_cons, b3]⟩
    simp only [PyData.shownAll, szA, List.map_cons, List.sum_cons, List.length_cons]
    omega
theorem goodK_show : ∀ {ds : List (PyData × PyData)}, goodK ds → PyData.showableKv ds = true ∧ ((PyData.shownKv ds).map (·.length)).sum + 2 * ds.length ≤ szK ds ∧ (PyData.shownKv ds).length = ds.length
  | [], _ => ⟨rfl, by simp [PyData.shownKv, szK], rfl⟩
  | (k, v) :: r, h => by
    obtain ⟨h1, h2, h3⟩ : good k ∧ good v ∧ goodK r := by simpa only [goodK] using h
    obtain ⟨a1, a2⟩ := good_show h1
    obtain ⟨c1, c2⟩ := good_show h2
    obtain ⟨b1, b2, b3⟩ := goodK_show h3
    refine ⟨by simp only [PyData.showableKv, a1, c1, b1, Bool.and_self], ?_, by simp only [PyData.shownKv, List.length_cons, b3]⟩
    have e : (": " : Str).length = 2 := by decide +kernel
    simp only [PyData.shownKv, szK, List.map_cons, List.sum_cons, List.length_cons, Str.length_append]
    have e : (Str.ofString ": ").length = 2 := by decide +kernel
    omega
end
/-- repr -/
def rRepr (K : PySem.W.Frag) : List V → Hp → VK → Prop := fun xs H Q => ∃ v d, xs = [v] ∧ Dn K H v d ∧ good d ∧ d.depth ≤ 100 ∧ sz d ≤ 16000000 ∧ Q (.str d.shown) H
theorem call_repr {X : Cx} {k : Nat} (hg : X.A.guards = some []) (hr : Room k X.A) (hs : ∃ mm, X.base.Ns sysModules mm) : CallR X (.builtin "repr") (rRepr X.K) := by
  rintro pi s σ H xs us Q I vv ⟨v, d, rfl, hd, g, dp, zz, q⟩
  obtain ⟨u, rfl, rv⟩ := Vals.one vv
  obtain ⟨sh, le⟩ := good_show g
  have le2 : d.shown.length ≤ sizeLine := Nat.le_trans (Nat.le_trans le zz) (by decide)
  have hu := hr.un
  cases hd with
  | non => cases rv; exact PySem.P.repr_of_none ⟨.str _, H, I.tok _, ⟨_, rfl⟩, q⟩
  | bl b => cases rv; exact PySem.P.repr_of_bool ⟨.str _, H, I.tok _, ⟨_, rfl⟩, q⟩
  | int i =>
    obtain ⟨t, rfl⟩ := rv
    simp only [PyData.showable, decide_eq_true_eq] at sh
    exact PySem.P.repr_of_int sh ⟨.str _, H, I.tok _, ⟨_, rfl⟩, q⟩
  | str x =>
    obtain ⟨t, rfl⟩ := rv
    exact PySem.P.repr_of_str ⟨.str _, H, I.tok _, ⟨_, rfl⟩, q⟩ le2
  | lst h1 h2 =>
    obtain ⟨as, r1, r2⟩ := Dn.reads I hs (.lst h1 h2) rv
    cases rv
    exact repr_of_reads' r1 sh (fun _ => r2) hg (by omega) (fun _ _ e => e) (fun h' u tk hk => ⟨.str _, H, I.kept hk, ⟨_, rfl⟩, q⟩) le2
  | tup h1 h2 =>
    obtain ⟨as, r1, r2⟩ := Dn.reads I hs (.tup h1 h2) rv
    cases rv
    exact repr_of_reads' r1 sh (fun _ => r2) hg (by omega) (fun _ _ e => e) (fun h' u tk hk => ⟨.str _, H, I.kept hk, ⟨_, rfl⟩, q⟩) le2
  | dic h1 h2 =>
    obtain ⟨as, r1, r2⟩ := Dn.reads I hs (.dic h1 h2) rv
    cases rv
    exact repr_of_reads' r1 sh (fun _ => r2) hg (by omega) (fun _ _ e => e) (fun h' u tk hk => ⟨.str _, H, I.kept hk, ⟨_, rfl⟩, q⟩) le2
end U

namespace U
open PySem L2 PySem.Spec PyProof.Rows

/-! operators, whatever the values -/
def rStrCat : R2 := fun x y H Q => ∃ i j, x = .str i ∧ y = .str j ∧ i.length + j.length ≤ sizeLine ∧ Q (.str (i ++ j)) H
def uAdd (K : PySem.W.Frag) : R2 := fun x y H Q => (rI0 fun i j => .int (i + j)) x y H Q ∨ rStrCat x y H Q ∨ rCat x y H Q ∨ rCatA K x y H Q
def uSub : R2 := rI0 fun i j => .int (i - j)
def uMul : R2 := fun x y H Q => (rI CMul fun i j => .int (i * j)) x y H Q ∨ rRep x y H Q
def uMod : R2 := rI (fun _ j => 0 < j) fun i j => .int (i % j)
def uDiv : R2 := rI CDivW fun i j => .int (i / j)
def uPow : R2 := rI CPow fun i j => .int (i ^ j.toNat)
def uLt : R2 := rI0 fun i j => .bl (decide (i < j))
def uLe : R2 := rI0 fun i j => .bl (decide (i ≤ j))
def uGt : R2 := rI0 fun i j => .bl (decide (j < i))
def uGe : R2 := rI0 fun i j => .bl (decide (j ≤ i))
def uEq (K : PySem.W.Frag) : R2 := fun x y H Q => rEq x y H Q ∨ rEqD K x y H Q
def uNe (K : PySem.W.Frag) : R2 := fun x y H Q => rNe x y H Q ∨ rNeD K x y H Q
def rInSign (ng : Bool) : R2 := fun x y H Q => ∃ (c : Nat) (z : Str), x = .str ⟨#[c]⟩ ∧ y = .str z ∧ Q (.bl (if ng then !decide (c ∈ z.cps.toList) else decide (c ∈ z.cps.toList))) H
def uIn (K : PySem.W.Frag) (ng : Bool) : R2 := fun x y H Q => rInSign ng x y H Q ∨ rIn K ng x y H Q
def uIs : R2 := fun x y H Q => y = .non ∧ Q (.bl (decide (x = .non))) H
def uIsNot : R2 := fun x y H Q => y = .non ∧ Q (.bl (!decide (x = .non))) H
section
variable {X : Cx} {k : Nat} {K : PySem.W.Frag}
theorem o_add (hK : X.K = K) : OpR X (binaryOp .Add) (uAdd K) := hK ▸ op_add.or (op_add_str.or (op_cat.or op_catA))
theorem o_sub : OpR X (binaryOp .Sub) uSub := op_sub
theorem o_mul : OpR X (binaryOp .Mult) uMul := op_mul.or op_rep
theorem o_mod : OpR X (binaryOp .Mod) uMod := op_mod
theorem o_div : OpR X (binaryOp .FloorDiv) uDiv := op_fdivW
theorem o_pow : OpR X (binaryOp .Pow) uPow := op_pow
theorem o_lt : OpR X (compareOp .Lt) uLt := op_lt
theorem o_le : OpR X (compareOp .LtE) uLe := op_le
theorem o_gt : OpR X (compareOp .Gt) uGt := op_gt
theorem o_ge : OpR X (compareOp .GtE) uGe := op_ge
theorem o_eq (hK : X.K = K) (hr : Room k X.A) : OpR X (compareOp .Eq) (uEq K) := hK ▸ op_eq.or (op_eqD hr.units)
theorem o_ne (hK : X.K = K) (hr : Room k X.A) : OpR X (compareOp .NotEq) (uNe K) := hK ▸ op_ne.or (op_neD hr.units)
theorem o_in (hK : X.K = K) : OpR X (compareOp .In) (uIn K false) := hK ▸ op_in_sign.or op_in_seq
theorem o_notin (hK : X.K = K) : OpR X (compareOp .NotIn) (uIn K true) := hK ▸ op_notIn_sign.or op_notIn_seq
theorem o_is : OpR X (compareOp .Is) uIs := op_isN
theorem o_isnot : OpR X (compareOp .IsNot) uIsNot := op_notN
/-- a built-in type's name as a value -/
theorem pe_ty {x : Str} {n : String} {pos : Pos} (hg : Gl X x) (hm : X.mg x = none) (hv : bootBuiltins x = some (.type n)) (hn : x ≠ "__name__" := by decide) (hd : (x == ("__debug__" : Str)) = false := by decide) : PE X (.Name x pos) (tC (.ty n)) :=
  pe_bltn hg hm hv rfl hn hd
def uSl (K : PySem.W.Frag) : V → Option Int → Option Int → Hp → VK → Prop := fun x lo hi H Q => rSlL K x lo hi H Q ∨ rSlS x lo hi H Q ∨ rSlA K x lo hi H Q
theorem ix_u (hK : X.K = K) : IxR X (rIx K) := hK ▸ ix_seq
theorem sl_u (hK : X.K = K) : SlR X (uSl K) := hK ▸ sl_list.or (sl_str.or sl_tupA)
end

/-! steps -/
section
variable {K : PySem.W.Frag} {σ : L2.St} {H : Hp} {Q : VK} {D : Ends} {t u : TS} {ta tb tc te : TE} {tA tB' : TT} {r r' : R2} {x y v : V} {i : Nat} {n m : Int} {a b : Str}
theorem s_seq (h : t { D with nx := u D } σ H) : tSeq t u D σ H := h
theorem s_next (h : D.nx σ H) : tNext D σ H := h
theorem s_brk (h : D.bk σ H) : tBreak D σ H := h
theorem s_cnt (h : D.ct σ H) : tCont D σ H := h
theorem s_retN (h : D.rt .non H) : tRetN D σ H := h
theorem s_var (h : σ[i]? = some (some v)) (q : Q v H) : tVar i σ H Q := ⟨v, h, q⟩
theorem s_c (q : Q v H) : tC v σ H Q := q
theorem s_op (h : ta σ H fun x H1 => tb σ H1 fun y H2 => r x y H2 Q) : tOp r ta tb σ H Q := h
theorem s_un {r : V → Hp → VK → Prop} (h : ta σ H fun x H1 => r x H1 Q) : tUn r ta σ H Q := h
theorem s_neg (q : Q (.int (-n)) H) : (rU fun i => .int (-i)) (.int n) H Q := ⟨n, rfl, q⟩
theorem s_test {Q : Bool → Hp → Prop} (h : te σ H fun x H' => ∃ k, x = .bl k ∧ Q k H') : tTest te σ H Q := h
theorem s_B {Q : Bool → Hp → Prop} (h : te σ H fun x H' => ∃ k, x = .bl k ∧ Q k H') : tB te σ H Q := h
theorem s_bl {P : Bool → Prop} {k : Bool} (q : P k) : ∃ c, V.bl k = .bl c ∧ P c := ⟨k, rfl, q⟩
theorem s_chain (h : ta σ H fun x H1 => tb σ H1 fun y H2 => r x y H2 fun z H3 => ∃ k, z = .bl k ∧ (if k = true then tc σ H3 fun w' H4 => r' y w' H4 Q else Q (.bl false) H3)) : tChain r r' ta tb tc σ H Q := h
theorem s_asg {g : TG} (h : te σ H fun x H1 => g x σ H1 D.nx) : tAsg te g D σ H := h
theorem s_name {R : L2.St → Hp → Prop} (h : R (σ.set i (some v)) H) : gName i v σ H R := h
theorem s_ret (h : te σ H D.rt) : tRet te D σ H := h
theorem s_drop (h : te σ H fun _ H1 => D.nx σ H1) : tDrop te D σ H := h
theorem s_ifS (h : tA σ H fun b H1 => if b = true then t D σ H1 else u D σ H1) : tIfS tA t u D σ H := h
theorem s_and {Q : Bool → Hp → Prop} (h : tA σ H fun c H1 => if c = true then tB' σ H1 Q else Q false H1) : tAnd tA tB' σ H Q := h
theorem s_or {Q : Bool → Hp → Prop} (h : tA σ H fun c H1 => if c = true then Q true H1 else tB' σ H1 Q) : tOr tA tB' σ H Q := h
theorem s_not {Q : Bool → Hp → Prop} (h : tA σ H fun c H1 => Q (!c) H1) : tNot tA σ H Q := h
theorem s_andV (h : ta σ H fun x H1 => ∃ c, x = .bl c ∧ if c = true then tb σ H1 Q else Q (.bl false) H1) : tAndV ta tb σ H Q := h
theorem s_orV (h : ta σ H fun x H1 => ∃ c, x = .bl c ∧ if c = true then Q (.bl true) H1 else tb σ H1 Q) : tOrV ta tb σ H Q := h
theorem s_notV (h : ta σ H fun x H1 => ∃ c, x = .bl c ∧ Q (.bl (!c)) H1) : tNotV ta σ H Q := h
theorem s_if (h : tA σ H fun c H1 => if c = true then ta σ H1 Q else tb σ H1 Q) : tIf tA ta tb σ H Q := h
theorem s_add (q : Q (.int (n + m)) H) : uAdd K (.int n) (.int m) H Q := Or.inl ⟨n, m, rfl, rfl, q⟩
theorem s_adds (h : a.length + b.length ≤ sizeLine) (q : Q (.str (a ++ b)) H) : uAdd K (.str a) (.str b) H Q := Or.inr (Or.inl ⟨a, b, rfl, rfl, h, q⟩)
theorem s_sub (q : Q (.int (n - m)) H) : uSub (.int n) (.int m) H Q := ⟨n, m, rfl, rfl, q⟩
theorem s_mul (h : CMul n m) (q : Q (.int (n * m)) H) : uMul (.int n) (.int m) H Q := Or.inl ⟨n, m, rfl, rfl, h, q⟩
theorem s_mod (h : 0 < m) (q : Q (.int (n % m)) H) : uMod (.int n) (.int m) H Q := ⟨n, m, rfl, rfl, h, q⟩
theorem s_div (h : CDivW n m) (q : Q (.int (n / m)) H) : uDiv (.int n) (.int m) H Q := ⟨n, m, rfl, rfl, h, q⟩
theorem s_pow {r : Int} (h : CPow n m) (e : n ^ m.toNat = r) (q : Q (.int r) H) : uPow (.int n) (.int m) H Q := ⟨n, m, rfl, rfl, h, (show Q (.int (n ^ m.toNat)) H by rw [e]; exact q)⟩
theorem cpow {i j : Int} (h0 : 0 ≤ i) (h1 : i < 9223372036854775808) (h2 : 0 ≤ j) (h3 : j ≤ 1000000) : CPow i j := ⟨h2, h3, by omega⟩
theorem cdiv {i j : Int} (h0 : 0 < j) (h1 : j < 100000000000000000000000000000000000000000) : CDivW i j := wide_div (b := 200) h0 (by
  have e : ((j.natAbs : Nat) : Int) < ((2 ^ 200 : Nat) : Int) := by
    rw [Int.natAbs_of_nonneg (by omega)]
    exact Int.lt_trans h1 (by decide)
  exact Int.ofNat_lt.mp e) (by decide) (by decide)
theorem cmulL {i j : Int} (h1 : -9223372036854775808 < i) (h2 : i < 9223372036854775808) : CMul i j := Or.inl ⟨by omega, by omega⟩
theorem cmulR {i j : Int} (h1 : -9223372036854775808 < j) (h2 : j < 9223372036854775808) : CMul i j := Or.inr ⟨by omega, by omega⟩
theorem s_lt (q : Q (.bl (decide (n < m))) H) : uLt (.int n) (.int m) H Q := ⟨n, m, rfl, rfl, q⟩
theorem s_le (q : Q (.bl (decide (n ≤ m))) H) : uLe (.int n) (.int m) H Q := ⟨n, m, rfl, rfl, q⟩
theorem s_gt (q : Q (.bl (decide (m < n))) H) : uGt (.int n) (.int m) H Q := ⟨n, m, rfl, rfl, q⟩
theorem s_ge (q : Q (.bl (decide (m ≤ n))) H) : uGe (.int n) (.int m) H Q := ⟨n, m, rfl, rfl, q⟩
theorem dec_int {n m : Int} : decide (V.int n = V.int m) = decide (n = m) := by
  by_cases h : n = m
  · subst h; simp
  · rw [decide_eq_false h]; exact decide_eq_false fun q => h (V.int.inj q)
theorem dec_str {n m : Str} : decide (V.str n = V.str m) = decide (n = m) := by
  by_cases h : n = m
  · subst h; simp
  · rw [decide_eq_false h]; exact decide_eq_false fun q => h (V.str.inj q)
theorem s_eqi (q : Q (.bl (decide (n = m))) H) : uEq K (.int n) (.int m) H Q := Or.inl ⟨rfl, by rw [dec_int]; exact q⟩
theorem s_nei (q : Q (.bl (!decide (n = m))) H) : uNe K (.int n) (.int m) H Q := Or.inl ⟨rfl, by rw [dec_int]; exact q⟩
theorem s_eqs (q : Q (.bl (decide (a = b))) H) : uEq K (.str a) (.str b) H Q := Or.inl ⟨rfl, by rw [dec_str]; exact q⟩
theorem s_nes (q : Q (.bl (!decide (a = b))) H) : uNe K (.str a) (.str b) H Q := Or.inl ⟨rfl, by rw [dec_str]; exact q⟩
theorem s_in1 {c : Nat} {z : Str} (q : Q (.bl (decide (c ∈ z.cps.toList))) H) : uIn K false (.str ⟨#[c]⟩) (.str z) H Q := Or.inl ⟨c, z, rfl, rfl, q⟩
theorem s_notin1 {c : Nat} {z : Str} (q : Q (.bl (!decide (c ∈ z.cps.toList))) H) : uIn K true (.str ⟨#[c]⟩) (.str z) H Q := Or.inl ⟨c, z, rfl, rfl, q⟩
theorem s_is (q : Q (.bl (decide (x = .non))) H) : uIs x .non H Q := ⟨rfl, q⟩
theorem s_isnot (q : Q (.bl (!decide (x = .non))) H) : uIsNot x .non H Q := ⟨rfl, q⟩
/-- items of lists -/
theorem s_nil {Q : List V → Hp → Prop} (q : Q [] H) : tNil σ H Q := q
theorem s_cons {Q : List V → Hp → Prop} {tr : TA} (h : te σ H fun x H1 => tr σ H1 fun xs H2 => Q (x :: xs) H2) : tCons te tr σ H Q := h
def LstK (Q : VK) (xs : List V) (H : Hp) : Prop := xs.length ≤ sizeLine ∧ ∀ p, H p = none → Q (.ref p) (upd H p (.lst xs))
def TupK (Q : VK) (xs : List V) (H : Hp) : Prop := xs.length ≤ sizeLine ∧ ∀ p, H p = none → Q (.ref p) (upd H p (.tup xs))
theorem s_lst {t : TA} (h : t σ H (LstK Q)) : tLst t σ H Q := h
theorem s_tup {t : TA} (h : t σ H (TupK Q)) : tTup t σ H Q := h
theorem s_cb {r : List V → Hp → VK → Prop} {t : TA} (h : t σ H fun vs H1 => r vs H1 Q) : tCB r t σ H Q := h
theorem s_go {sp : Sp} {E : XK} {t : TA} (h : t σ H fun vs H1 => sp vs H1 Q E) : tGo sp E t σ H Q := h
theorem s_max (q : Q (.int (if m > n then m else n)) H) : (fun xs H Q => ∃ i j, xs = [V.int i, V.int j] ∧ Q (.int (if j > i then j else i)) H : List V → Hp → VK → Prop) [.int n, .int m] H Q := ⟨n, m, rfl, q⟩
theorem at_nat {α : Type} {xs : List α} {j : Nat} {z : α} (h : xs[j]? = some z) : atI xs (j : Int) = some z := by
  have hj : j < xs.length := (List.getElem?_eq_some_iff.mp h).1
  unfold atI ixN
  rw [if_pos (by omega), if_pos (by omega)]
  simpa using h
theorem at_int {α : Type} {xs : List α} {j : Int} (h0 : 0 ≤ j) (h1 : j < xs.length) : ∃ z, xs[j.toNat]? = some z ∧ atI xs j = some z := by
  refine ⟨xs[j.toNat]'(by omega), by simp, ?_⟩
  have := at_nat (xs := xs) (j := j.toNat) (z := xs[j.toNat]'(by omega)) (by simp)
  rwa [Int.toNat_of_nonneg h0] at this
theorem s_ixL {p : Addr} {xs : List V} (h : SqL K H p xs) (ha : atI xs n = some v) (q : Q v H) : rIx K (.ref p) (.int n) H Q := Or.inl ⟨p, xs, n, v, rfl, rfl, h, ha, q⟩
theorem s_ixl {p : Addr} {xs : List V} (h : H p = some (.lst xs)) (ha : atI xs n = some v) (q : Q v H) : rIx K (.ref p) (.int n) H Q := Or.inl ⟨p, xs, n, v, rfl, rfl, SqL.of h, ha, q⟩
theorem s_ixt {p : Addr} {xs : List V} (h : H p = some (.tup xs)) (ha : atI xs n = some v) (q : Q v H) : rIx K (.ref p) (.int n) H Q := Or.inr (Or.inl ⟨p, xs, n, v, rfl, rfl, SqT.of h, ha, q⟩)
theorem s_ixs {z : Str} {c : Nat} (hz : z.length ≤ sizeLine) (ha : atI z.cps.toList n = some c) (q : Q (.str ⟨#[c]⟩) H) : rIx K (.str z) (.int n) H Q := Or.inr (Or.inr ⟨z, n, c, rfl, rfl, hz, ha, q⟩)
theorem s_sub2 {to ti : TE} {t : V → V → V → Hp → (Hp → Prop) → Prop} {R : L2.St → Hp → Prop} (h : to σ H fun o H1 => ti σ H1 fun i H2 => t o i v H2 fun H3 => R σ H3) : gSub to ti t v σ H R := h
theorem s_setl {p : Addr} {xs ys : List V} {j : Nat} {R : Hp → Prop} (h : H p = some (.lst xs)) (hj : ixN xs.length n = some j) (e : xs.set j v = ys) (q : R (upd H p (.lst ys))) : rSetL (.ref p) (.int n) v H R := ⟨p, xs, n, j, rfl, rfl, h, hj, by rw [e]; exact q⟩
theorem s_ite {p : Prop} [Decidable p] {A B : Prop} (h1 : p → A) (h2 : ¬p → B) : if decide p = true then A else B := by
  by_cases h : p
  · rw [decide_eq_true h, if_pos rfl]; exact h1 h
  · rw [decide_eq_false h, if_neg Bool.false_ne_true]; exact h2 h
theorem s_itn {p : Prop} [Decidable p] {A B : Prop} (h1 : ¬p → A) (h2 : p → B) : if (!decide p) = true then A else B := by
  by_cases h : p
  · rw [decide_eq_true h]; exact h2 h
  · rw [decide_eq_false h]; exact h1 h
theorem s_itt {A B : Prop} (h : A) : if true = true then A else B := h
theorem s_itf {A B : Prop} (h : B) : if false = true then A else B := h
theorem s_itb {k : Bool} {A B : Prop} (h1 : k = true → A) (h2 : k = false → B) : if k = true then A else B := by
  cases k with
  | true => exact h1 rfl
  | false => exact h2 rfl
end

/-! heaps: what stands still stands -/
/-- all that stood, but at the places ps, stands as it stood -/
def Kp (ps : List Addr) (H H' : Hp) : Prop := ∀ b o, H b = some o → b ∉ ps → H' b = some o
section
variable {K : PySem.W.Frag} {H H1 H2 : Hp} {ps qs : List Addr} {a b p : Addr} {o u : HO}
theorem Kp.refl : Kp ps H H := fun _ _ e _ => e
theorem Kp.trans (h : Kp ps H H1) (g : Kp ps H1 H2) : Kp ps H H2 := fun b o e n => g b o (h b o e n) n
theorem Kp.mono (h : Kp ps H H1) (g : ∀ a ∈ ps, a ∈ qs) : Kp qs H H1 := fun b o e n => h b o e fun m => n (g b m)
theorem Kp.nil (h : Kp [] H H1) : Kp ps H H1 := h.mono fun _ m => nomatch m
theorem Kp.get (h : Kp ps H H1) (e : H b = some o) (n : b ∉ ps) : H1 b = some o := h b o e n
theorem Kp.get0 (h : Kp [] H H1) (e : H b = some o) : H1 b = some o := h b o e (by simp)
theorem Kp.get1 (h : Kp [p] H H1) (e : H b = some o) (n : b ≠ p) : H1 b = some o := h b o e (by simpa using n)
theorem Kp.new (h : Kp ps H H1) (n : H1 p = none) : Kp ps H (upd H1 p u) := fun b o e m => by
  have e1 := h b o e m
  rw [upd_ne (ne_of_none e1 n)]
  exact e1
theorem Kp.put (h : Kp ps H H1) (m : p ∈ ps) : Kp ps H (upd H1 p u) := fun b o e n => by
  rw [upd_ne (fun z => n (by rw [z]; exact m))]
  exact h b o e n
theorem Kp.fresh (h : Kp ps H H1) (n : H1 p = none) (m : p ∉ ps) : H p = none := by
  cases e : H p with
  | none => rfl
  | some z => rw [h p z e m] at n; cases n
theorem Kp.fresh0 (h : Kp [] H H1) (n : H1 p = none) : H p = none := h.fresh n (by simp)
/-- a place that did not stand may have changed -/
theorem Kp.drop (h : Kp (p :: ps) H H1) (n : H p = none) : Kp ps H H1 := fun b o e m => h b o e (by
  intro z
  rcases List.mem_cons.mp z with z | z
  · subst z; rw [n] at e; cases e
  · exact m z)
/-- a new object, the heap behind it as a letter -/
theorem new_abs {o : HO} {R : Addr → Hp → Prop} (h : ∀ p H', H p = none → H' p = some o → Kp [] H H' → R p H') : ∀ p, H p = none → R p (upd H p o) :=
  fun p f => h p _ f upd_same (Kp.refl.new f)
theorem s_newl {Q : VK} {xs : List V} (hz : xs.length ≤ sizeLine) (h : ∀ p H', H p = none → H' p = some (.lst xs) → Kp [] H H' → Q (.ref p) H') : LstK Q xs H := ⟨hz, new_abs h⟩
theorem s_newt {Q : VK} {xs : List V} (hz : xs.length ≤ sizeLine) (h : ∀ p H', H p = none → H' p = some (.tup xs) → Kp [] H H' → Q (.ref p) H') : TupK Q xs H := ⟨hz, new_abs h⟩
theorem s_addl {Q : VK} {p q : Addr} {xs ys : List V} (h1 : H p = some (.lst xs)) (h2 : H q = some (.lst ys)) (h : xs.length + ys.length ≤ sizeLine)
    (z : ∀ p' H', H p' = none → H' p' = some (.lst (xs ++ ys)) → Kp [] H H' → Q (.ref p') H') : uAdd K (.ref p) (.ref q) H Q :=
  Or.inr (Or.inr (Or.inl ⟨p, q, xs, ys, rfl, rfl, h1, h2, h, new_abs z⟩))
theorem Kp.rd (h : Kp [] H H1) (e : Rd H a u) : Rd H1 a u := by
  rcases e with e | ⟨o, e⟩
  · exact Or.inl (h.get0 e)
  · exact Or.inr ⟨o, h.get0 e⟩
theorem Kp.sql {xs : List V} (h : Kp [] H H1) (e : SqL K H a xs) : SqL K H1 a xs := by
  rcases e with e | e
  · exact Or.inl (h.rd e)
  · exact Or.inr e
theorem Kp.sqt {xs : List V} (h : Kp [] H H1) (e : SqT K H a xs) : SqT K H1 a xs := by
  rcases e with e | e
  · exact Or.inl (h.rd e)
  · exact Or.inr e
end
end U

namespace U
open PySem L2 PySem.Spec PyProof.Rows

/-! promises by the number of arguments -/
abbrev P0 := Hp → VK → XK → Prop
def sp0 (F : P0) : Sp := fun vs H Q E => vs = [] ∧ F H Q E
def sp1 (F : V → P0) : Sp := fun vs H Q E => ∃ a, vs = [a] ∧ F a H Q E
def sp2 (F : V → V → P0) : Sp := fun vs H Q E => ∃ a b, vs = [a, b] ∧ F a b H Q E
def sp3 (F : V → V → V → P0) : Sp := fun vs H Q E => ∃ a b c, vs = [a, b, c] ∧ F a b c H Q E
def sp4 (F : V → V → V → V → P0) : Sp := fun vs H Q E => ∃ a b c d, vs = [a, b, c, d] ∧ F a b c d H Q E
def sp5 (F : V → V → V → V → V → P0) : Sp := fun vs H Q E => ∃ a b c d e, vs = [a, b, c, d, e] ∧ F a b c d e H Q E
def sp6 (F : V → V → V → V → V → V → P0) : Sp := fun vs H Q E => ∃ a b c d e f, vs = [a, b, c, d, e, f] ∧ F a b c d e f H Q E
section
variable {H : Hp} {Q : VK} {E : XK} {a b c d e f : V}
theorem s_sp0 {F : P0} (h : F H Q E) : sp0 F [] H Q E := ⟨rfl, h⟩
theorem s_sp1 {F : V → P0} (h : F a H Q E) : sp1 F [a] H Q E := ⟨a, rfl, h⟩
theorem s_sp2 {F : V → V → P0} (h : F a b H Q E) : sp2 F [a, b] H Q E := ⟨a, b, rfl, h⟩
theorem s_sp3 {F : V → V → V → P0} (h : F a b c H Q E) : sp3 F [a, b, c] H Q E := ⟨a, b, c, rfl, h⟩
theorem s_sp4 {F : V → V → V → V → P0} (h : F a b c d H Q E) : sp4 F [a, b, c, d] H Q E := ⟨a, b, c, d, rfl, h⟩
theorem s_sp5 {F : V → V → V → V → V → P0} (h : F a b c d e H Q E) : sp5 F [a, b, c, d, e] H Q E := ⟨a, b, c, d, e, rfl, h⟩
theorem s_sp6 {F : V → V → V → V → V → V → P0} (h : F a b c d e f H Q E) : sp6 F [a, b, c, d, e, f] H Q E := ⟨a, b, c, d, e, f, rfl, h⟩
end

/-! built-in names -/
theorem bt_len : bootBuiltins "len" = some (.builtin "len") := by decide +kernel
theorem bt_max : bootBuiltins "max" = some (.builtin "max") := by decide +kernel
theorem bt_min : bootBuiltins "min" = some (.builtin "min") := by decide +kernel
theorem bt_all : bootBuiltins "all" = some (.builtin "all") := by decide +kernel
theorem bt_any : bootBuiltins "any" = some (.builtin "any") := by decide +kernel
theorem bt_repr : bootBuiltins "repr" = some (.builtin "repr") := by decide +kernel
theorem bt_sorted : bootBuiltins "sorted" = some (.builtin "sorted") := by decide +kernel
theorem bt_sum : bootBuiltins "sum" = some (.builtin "sum") := by decide +kernel
theorem bt_isinstance : bootBuiltins "isinstance" = some (.builtin "isinstance") := by decide +kernel
theorem bt_int : bootBuiltins "int" = some (.type "int") := by decide +kernel
theorem bt_bool : bootBuiltins "bool" = some (.type "bool") := by decide +kernel
theorem bt_str : bootBuiltins "str" = some (.type "str") := by decide +kernel
theorem bt_list : bootBuiltins "list" = some (.type "list") := by decide +kernel
theorem bt_tuple : bootBuiltins "tuple" = some (.type "tuple") := by decide +kernel
theorem bt_dict : bootBuiltins "dict" = some (.type "dict") := by decide +kernel
theorem bt_set : bootBuiltins "set" = some (.type "set") := by decide +kernel
theorem bt_range : bootBuiltins "range" = some (.type "range") := by decide +kernel

section
variable {X : Cx} {K : PySem.W.Frag}
def uLen (K : PySem.W.Frag) : List V → Hp → VK → Prop := fun xs H Q => (∃ x n, xs = [x] ∧ LenV K x H n ∧ Q (.int n) H) ∨ ∃ a kvs, xs = [V.ref a] ∧ H a = some (.dK kvs) ∧ Q (.int kvs.length) H
theorem c_len (hK : X.K = K) : CallR X (.builtin "len") (uLen K) := hK ▸ call_len.or call_lenD
def uMax : List V → Hp → VK → Prop := fun xs H Q => ∃ i j, xs = [.int i, .int j] ∧ Q (.int (if j > i then j else i)) H
def uMin : List V → Hp → VK → Prop := fun xs H Q => ∃ i j, xs = [.int i, .int j] ∧ Q (.int (if j < i then j else i)) H
theorem c_max (hc : X.calm = true) : CallR X (.builtin "max") uMax := call_max2 hc
theorem c_min (hc : X.calm = true) : CallR X (.builtin "min") uMin := call_min2 hc
def uStr : List V → Hp → VK → Prop := fun xs H Q => ∃ i, xs = [.int i] ∧ i.natAbs.log2 < 1920 ∧ Q (.str (toString i)) H
theorem c_isi (hK : X.K = K) : CallR X (.builtin "isinstance") (rIsi K) := hK ▸ call_isi
theorem c_all (hK : X.K = K) (hc : X.calm = true) : CallR X (.builtin "all") (rAll K) := hK ▸ cr_all hc
theorem c_any (hK : X.K = K) (hc : X.calm = true) : CallR X (.builtin "any") (rAny K) := hK ▸ cr_any hc
theorem c_repr {k : Nat} (hK : X.K = K) (hg : X.A.guards = some []) (hr : Room k X.A) (hs : ∃ mm, X.base.Ns sysModules mm) : CallR X (.builtin "repr") (rRepr K) := hK ▸ call_repr hg hr hs
theorem c_str : CallR X (.type "str") uStr := call_str_int
end

def uJoin (K : PySem.W.Frag) : V → List V → Hp → VK → Prop := fun x xs H Q => ∃ a p, ∃ ys : List Str, x = .str a ∧ xs = [.ref p] ∧ (SqL K H p (ys.map V.str) ∨ SqT K H p (ys.map V.str)) ∧
  (ys.map (·.length)).sum + ys.length * a.length ≤ 16777216 ∧ Q (.str (Txt.join a ys)) H
theorem pe_joinU {X : Cx} {K : PySem.W.Frag} {o e : Expr} {to te : TE} {ap pos : Pos} (hK : X.K = K) (ho : PE X o to) (he : PE X e te) (h1 : starEach [e] X.env = [(false, eval e X.env)] := by rfl) (h2 : attributeBase o "join" X.env (eval o X.env) = eval o X.env := by rfl)
    (h3 : (ap.endLine == pos.line) = true := by rfl) : PE X (.Call (.Attribute o "join" ap) [e] [] pos) (tM1 (uJoin K) to te) := hK ▸ pe_join ho he h1 h2 h3

theorem pi_lst {X : Cx} {K : PySem.W.Frag} {tg l : Expr} {tl : TE} (hK : X.K = K) (hl : PE X l tl) : PI X tg l (iList K tl) := hK ▸ pi_list hl
theorem pi_tpl {X : Cx} {K : PySem.W.Frag} {tg l : Expr} {tl : TE} (hK : X.K = K) (hl : PE X l tl) : PI X tg l (iTup K tl) := hK ▸ pi_tup hl

/-! more steps -/
theorem zle {n : Nat} (h : n ≤ 1000000) : n ≤ sizeLine := Nat.le_trans h (by decide)
/-- what kind of thing a value is -/
inductive Kd | non | bl | int | str | lst | tup | dic
def Kd.nm : Kd → String
  | .non => "NoneType" | .bl => "bool" | .int => "int" | .str => "str" | .lst => "list" | .tup => "tuple" | .dic => "dict"
inductive TyN (H : Hp) : V → Kd → Prop
  | non : TyN H .non .non
  | bl {b : Bool} : TyN H (.bl b) .bl
  | int {i : Int} : TyN H (.int i) .int
  | str {z : Str} : TyN H (.str z) .str
  | lst {a : Addr} {xs : List V} : H a = some (.lst xs) → TyN H (.ref a) .lst
  | tup {a : Addr} {xs : List V} : H a = some (.tup xs) → TyN H (.ref a) .tup
  | dic {a : Addr} {kvs : List (Key × V)} : H a = some (.dK kvs) → TyN H (.ref a) .dic
theorem TyN.ty {K : PySem.W.Frag} {H : Hp} {v : V} {n : Kd} (h : TyN H v n) : TyX K H v (.type n.nm) := by
  cases h with
  | non => exact .base .non
  | bl => exact .base (.bl _)
  | int => exact .base (.int _)
  | str => exact .base (.str _)
  | lst e => exact .base (.lst e)
  | tup e => exact .base (.tup e)
  | dic e => exact .base (.dK e)
theorem TyN.kp {H H' : Hp} {v : V} {n : Kd} (h : TyN H v n) (k : Kp [] H H') : TyN H' v n := by
  cases h with
  | non => exact .non
  | bl => exact .bl
  | int => exact .int
  | str => exact .str
  | lst e => exact .lst (k.get0 e)
  | tup e => exact .tup (k.get0 e)
  | dic e => exact .dic (k.get0 e)
def Kd.isInt : Kd → Bool | .int => true | .bl => true | _ => false
def Kd.isBool : Kd → Bool | .bl => true | _ => false
def Kd.isStr : Kd → Bool | .str => true | _ => false
def Kd.isList : Kd → Bool | .lst => true | _ => false
def Kd.isTup : Kd → Bool | .tup => true | _ => false
def Kd.isDict : Kd → Bool | .dic => true | _ => false
theorem kb_int (t : Kd) : kitB t.nm "int" = some t.isInt := by cases t <;> decide +kernel
theorem kb_bool (t : Kd) : kitB t.nm "bool" = some t.isBool := by cases t <;> decide +kernel
theorem kb_str (t : Kd) : kitB t.nm "str" = some t.isStr := by cases t <;> decide +kernel
theorem kb_list (t : Kd) : kitB t.nm "list" = some t.isList := by cases t <;> decide +kernel
theorem kb_tup (t : Kd) : kitB t.nm "tuple" = some t.isTup := by cases t <;> decide +kernel
theorem kb_dict (t : Kd) : kitB t.nm "dict" = some t.isDict := by cases t <;> decide +kernel
section
variable {K : PySem.W.Frag} {σ : L2.St} {H : Hp} {Q : VK} {D : Ends} {x y v : V} {i : Nat} {n m : Int} {a b : Str}
theorem s_max2 (q : Q (.int (if m > n then m else n)) H) : uMax [.int n, .int m] H Q := ⟨n, m, rfl, q⟩
theorem s_min2 (q : Q (.int (if m < n then m else n)) H) : uMin [.int n, .int m] H Q := ⟨n, m, rfl, q⟩
theorem s_lens (h : a.length ≤ sizeLine) (q : Q (.int a.length) H) : uLen K [.str a] H Q := Or.inl ⟨_, a.length, rfl, ⟨h, rfl⟩, q⟩
theorem s_lenL {p : Addr} {xs : List V} (h : SqL K H p xs) (q : Q (.int xs.length) H) : uLen K [.ref p] H Q := Or.inl ⟨_, xs.length, rfl, Or.inl ⟨xs, h, rfl⟩, q⟩
theorem s_lenl {p : Addr} {xs : List V} (h : H p = some (.lst xs)) (q : Q (.int xs.length) H) : uLen K [.ref p] H Q := s_lenL (SqL.of h) q
theorem s_lent {p : Addr} {xs : List V} (h : H p = some (.tup xs)) (q : Q (.int xs.length) H) : uLen K [.ref p] H Q := Or.inl ⟨_, xs.length, rfl, Or.inr ⟨xs, SqT.of h, rfl⟩, q⟩
theorem s_lend {p : Addr} {xs : List (Key × V)} (h : H p = some (.dK xs)) (q : Q (.int xs.length) H) : uLen K [.ref p] H Q := Or.inr ⟨p, xs, rfl, h, q⟩
theorem s_str (h : n.natAbs.log2 < 1920) (q : Q (.str (toString n)) H) : uStr [.int n] H Q := ⟨n, rfl, h, q⟩
theorem s_isi0 {s t : String} {k : Bool} (h : TyX K H v (.type s)) (hk : kitB s t = some k) (q : Q (.bl k) H) : rIsi K [v, .ty t] H Q := ⟨v, .ty t, .type s, .type t, k, rfl, .ty t, h, kit_ty hk, q⟩
theorem s_isInt {t : Kd} (h : TyN H v t) (q : Q (.bl t.isInt) H) : rIsi K [v, .ty "int"] H Q := s_isi0 h.ty (kb_int t) q
theorem s_isBool {t : Kd} (h : TyN H v t) (q : Q (.bl t.isBool) H) : rIsi K [v, .ty "bool"] H Q := s_isi0 h.ty (kb_bool t) q
theorem s_isStr {t : Kd} (h : TyN H v t) (q : Q (.bl t.isStr) H) : rIsi K [v, .ty "str"] H Q := s_isi0 h.ty (kb_str t) q
theorem s_isList {t : Kd} (h : TyN H v t) (q : Q (.bl t.isList) H) : rIsi K [v, .ty "list"] H Q := s_isi0 h.ty (kb_list t) q
theorem s_isTup {t : Kd} (h : TyN H v t) (q : Q (.bl t.isTup) H) : rIsi K [v, .ty "tuple"] H Q := s_isi0 h.ty (kb_tup t) q
theorem s_isDict {t : Kd} (h : TyN H v t) (q : Q (.bl t.isDict) H) : rIsi K [v, .ty "dict"] H Q := s_isi0 h.ty (kb_dict t) q
theorem s_itT {k : Bool} {A B : Prop} (e : k = true) (h : A) : if k = true then A else B := by subst e; exact h
theorem s_itF {k : Bool} {A B : Prop} (e : k = false) (h : B) : if k = true then A else B := by subst e; exact h
theorem s_sl {r : V → Option Int → Option Int → Hp → VK → Prop} {te : TE} {tl th : TO} (h : te σ H fun x H1 => tl σ H1 fun l H2 => th σ H2 fun u H3 => r x l u H3 Q) : tSl r te tl th σ H Q := h
theorem s_nopart {Q : Option Int → Hp → Prop} (q : Q none H) : tNoPart σ H Q := q
theorem s_part {Q : Option Int → Hp → Prop} {t : TE} (h : t σ H fun x H1 => ∃ i, x = .int i ∧ Q (some i) H1) : tPart t σ H Q := h
theorem s_int {P : Int → Prop} (q : P n) : ∃ i, V.int n = .int i ∧ P i := ⟨n, rfl, q⟩
theorem s_sls {lo hi : Option Int} (h : a.length ≤ sizeLine) (q : Q (.str (cutS a lo hi)) H) : uSl K (.str a) lo hi H Q := Or.inr (Or.inl ⟨a, rfl, h, q⟩)
theorem s_sll {lo hi : Option Int} {p : Addr} {xs : List V} (h : SqL K H p xs) (q : ∀ p' H', H p' = none → H' p' = some (.lst (cutV xs lo hi)) → Kp [] H H' → Q (.ref p') H') : uSl K (.ref p) lo hi H Q := Or.inl ⟨p, xs, rfl, h, new_abs q⟩
theorem s_m1 {r : V → List V → Hp → VK → Prop} {to te : TE} (h : to σ H fun x H1 => (∃ a, x = .str a) ∧ te σ H1 fun y H2 => r x [y] H2 Q) : tM1 r to te σ H Q := h
theorem s_isstr {R : Prop} (h : R) : (∃ b, V.str a = .str b) ∧ R := ⟨⟨a, rfl⟩, h⟩
theorem s_join {p : Addr} {ys : List Str} (h : H p = some (.lst (ys.map V.str))) (hz : (ys.map (·.length)).sum + ys.length * a.length ≤ 16777216) (q : Q (.str (Txt.join a ys)) H) : uJoin K (.str a) [.ref p] H Q :=
  ⟨a, p, ys, rfl, rfl, Or.inl (SqL.of h), hz, q⟩
theorem s_rng1 {ta : TA} {R : It → Hp → Prop} (h : ta σ H fun vs H1 => ∃ j : Int, vs = [.int j] ∧ -(2 ^ 62) ≤ j ∧ j < 2 ^ 62 ∧ R (Itr 0 j.toNat) H1) : iRng1 ta σ H R := h
theorem s_rng {R : Int → Prop} (h1 : -(2 ^ 62) ≤ n) (h2 : n < 2 ^ 62) (q : R n) : ∃ j : Int, [V.int n] = [.int j] ∧ -(2 ^ 62) ≤ j ∧ j < 2 ^ 62 ∧ R j := ⟨n, rfl, h1, h2, q⟩
theorem s_ilist {tl : TE} {R : It → Hp → Prop} (h : tl σ H fun x H1 => ∃ a, x = .ref a ∧ (∃ xs, SqL K H1 a xs) ∧ R (Itl K a) H1) : iList K tl σ H R := h
theorem s_ilst {p : Addr} {xs : List V} {R : Addr → Prop} (h : SqL K H p xs) (q : R p) : ∃ a, V.ref p = .ref a ∧ (∃ xs, SqL K H a xs) ∧ R a := ⟨p, rfl, ⟨xs, h⟩, q⟩
theorem s_istr {te : TE} {R : It → Hp → Prop} (h : te σ H fun v H1 => ∃ x, v = .str x ∧ R (Its x) H1) : iStr te σ H R := h
theorem s_istr1 {R : Str → Prop} (q : R a) : ∃ x, V.str a = .str x ∧ R x := ⟨a, rfl, q⟩
theorem s_dnew (h : ∀ d H', H d = none → H' d = some (.dK []) → Kp [] H H' → Q (.ref d) H') : tDNewK σ H Q := new_abs (R := fun d H' => Q (.ref d) H') h
theorem s_all {p : Addr} {bs : List Bool} (h : H p = some (.lst (bs.map V.bl))) (q : Q (.bl (bs.all id)) H) : rAll K [.ref p] H Q := ⟨p, bs, rfl, SqL.of h, q⟩
theorem s_yes {Q : Bool → Hp → Prop} (q : Q true H) : tYes σ H Q := q
theorem dpa_strs : ∀ zs : List Str, DpAll K H (zs.map V.str) (zs.map PyData.str)
  | [] => .nil
  | z :: zs => .cons (.str z) (dpa_strs zs)
theorem lay_strs : ∀ {zs : List Str}, (∀ z ∈ zs, ∀ c ∈ z.cps.toList, c < 1114112) → PyData.canLayAll0 (zs.map PyData.str) = true ∧ PyData.depthAll (zs.map PyData.str) ≤ 1
  | [], _ => ⟨rfl, by simp [PyData.depthAll]⟩
  | z :: zs, h => by
    obtain ⟨h1, h2⟩ := lay_strs (zs := zs) fun y hy => h y (List.mem_cons_of_mem _ hy)
    refine ⟨?_, ?_⟩
    · simp only [List.map_cons, PyData.canLayAll0, PyData.canLay0, h1, Bool.and_true, PyData.strOk, Array.all_eq_true', decide_eq_true_eq]
      intro c hc
      exact h z List.mem_cons_self c (by simpa using hc)
    · simp only [List.map_cons, PyData.depthAll, PyData.depth]
      omega
theorem shp_strs {zs : List Str} (h : ∀ z ∈ zs, ∀ c ∈ z.cps.toList, c < 1114112) : SeqAt.shaped (.list (zs.map PyData.str)) = true := by
  obtain ⟨h1, h2⟩ := lay_strs h
  unfold SeqAt.shaped
  rw [Bool.and_eq_true]
  refine ⟨by simpa only [PyData.canLay0] using h1, decide_eq_true ?_⟩
  simp only [PyData.depth]
  omega
theorem s_eqNil {p q : Addr} {zs : List Str} (h1 : H p = some (.lst (zs.map V.str))) (h2 : H q = some (.lst [])) (ok : ∀ z ∈ zs, ∀ c ∈ z.cps.toList, c < 1114112) (k : Q (.bl zs.isEmpty) H) : uEq K (.ref p) (.ref q) H Q := by
  refine Or.inr ⟨_, _, .lst (SqL.of h1) (dpa_strs zs), .lst (SqL.of h2) .nil, shp_strs ok, by decide +kernel, ?_⟩
  have e : PyData.eqv (.list (zs.map PyData.str)) (.list []) = zs.isEmpty := by
    cases zs <;> simp [PyData.eqv, PyData.eqvAll]
  rw [e]
  exact k
/-- a comprehension -/
theorem s_lc {wi : TI} {g : TG} {tt : TT} {te : TE} {vs : List Nat} (h : wi σ H fun J H1 => ∀ D, H1 D = none → ∃ W : Nat → Nat → Hp → Prop, (∃ m, W 0 m (upd H1 D (.lst []))) ∧ ∀ i m H, W i m H →
    (J.stop i H ∧ Q (.ref D) H) ∨ (J.go i H ∧ ∃ Nx : Hp → Prop, (∀ H', Nx H' → ∃ m', m' < m ∧ W (i + 1) m' H') ∧ ∀ x H', J.yld i H x H' → g x (wipe σ vs) H' fun σ2 H2 => wipe σ2 vs = wipe σ vs ∧ tt σ2 H2 fun b H3 =>
      if b = true then te σ2 H3 fun y H4 => ∃ acc, H4 D = some (.lst acc) ∧ acc.length < sizeLine ∧ Nx (upd H4 D (.lst (acc ++ [y]))) else Nx H3)) : tLc wi g tt te vs σ H Q := h
/-- a loop -/
theorem s_for {wi : TI} {g : TG} {tb : TS} (h : wi σ H fun J H1 => ∃ W : Nat → Nat → L2.St → Hp → Prop, (∃ m, W 0 m σ H1) ∧ ∀ i m σ H, W i m σ H →
    (J.stop i H ∧ D.nx σ H) ∨ (J.go i H ∧ ∃ N : L2.St → Hp → Prop, (∀ σ' H', N σ' H' → ∃ m', m' < m ∧ W (i + 1) m' σ' H') ∧ ∀ x H', J.yld i H x H' → g x σ H' fun σ2 H2 => tb { D with nx := N, ct := N, bk := D.nx } σ2 H2)) : tFor wi g tb D σ H := h
/-- a comprehension's invariant, by the items made so far -/
def PvD (D : Addr) (Pv : Nat → List V → Hp → Prop) (i : Nat) (H : Hp) : Prop := ∃ acc, H D = some (.lst acc) ∧ Pv i acc H
theorem PvD.start {D : Addr} {Pv : Nat → List V → Hp → Prop} (h : Pv 0 [] (upd H D (.lst []))) : PvD D Pv 0 (upd H D (.lst [])) := ⟨[], upd_same, h⟩
theorem PvD.more {D : Addr} {Pv : Nat → List V → Hp → Prop} {acc : List V} (e : H D = some (.lst acc)) (hz : acc.length < sizeLine) (h : Pv i (acc ++ [y]) (upd H D (.lst (acc ++ [y])))) :
    ∃ acc, H D = some (.lst acc) ∧ acc.length < sizeLine ∧ PvD D Pv i (upd H D (.lst (acc ++ [y]))) := ⟨acc, e, hz, acc ++ [y], upd_same, h⟩
theorem PvD.skip {D : Addr} {Pv : Nat → List V → Hp → Prop} {acc : List V} (e : H D = some (.lst acc)) (h : Pv i acc H) : PvD D Pv i H := ⟨acc, e, h⟩
end
end U

namespace U
open PySem L2 PySem.Spec PyProof.Rows
theorem log2s {m : Nat} (h : m < 10 ^ 100) : m.log2 < 1920 := log2_small (Nat.lt_of_lt_of_le h (by decide +kernel))
/-- a text of at most n signs -/
structure SS (z : Str) (n : Nat) : Prop where
  len : z.length ≤ n
  ok : ∀ c ∈ z.cps.toList, c < 1114112
theorem SS.mono {z : Str} {n m : Nat} (h : SS z n) (e : n ≤ m) : SS z m := ⟨Nat.le_trans h.len e, h.ok⟩
theorem SS.app {a b : Str} {n m : Nat} (h : SS a n) (g : SS b m) : SS (a ++ b) (n + m) := by
  refine ⟨by rw [Str.length_append]; have := h.len; have := g.len; omega, fun c hc => ?_⟩
  rw [Str.cps_append, Array.toList_append, List.mem_append] at hc
  rcases hc with hc | hc
  · exact h.ok c hc
  · exact g.ok c hc
theorem SS.cut {a : Str} {n : Nat} {lo hi : Option Int} (h : SS a n) : SS (cutS a lo hi) n := by
  refine ⟨?_, fun c hc => ?_⟩
  · show (List.toArray _).size ≤ n
    rw [List.size_toArray, List.length_take, List.length_drop, Array.length_toList]
    have : a.cps.size ≤ n := h.len
    omega
  · have hc : c ∈ (List.take (HT.sIx a.length a.length hi - HT.sIx a.length 0 lo) (List.drop (HT.sIx a.length 0 lo) a.cps.toList)) := by simpa [cutS] using hc
    exact h.ok c (List.mem_of_mem_drop (List.mem_of_mem_take hc))
theorem SS.one {c : Nat} (h : c < 1114112) : SS ⟨#[c]⟩ 1 := ⟨by simp [Str.length], fun d hd => by
  have : d = c := by simpa using hd
  subst this; exact h⟩
theorem SS.mk' {z : Str} {n : Nat} (h : z.length ≤ n ∧ ∀ c ∈ z.cps.toList, c < 1114112) : SS z n := ⟨h.1, h.2⟩
theorem join_ones : ∀ cs : List Nat, Txt.join (Str.ofString "") (cs.map fun c => ⟨#[c]⟩) = ⟨cs.toArray⟩ := fun cs => by
  rw [show ∀ y l, Txt.join y l = Str.join y l from fun y l => StrLaws.glued_eq_join y l]
  have e0 : Str.ofString "" = Str.empty := by decide +kernel
  rw [e0]
  induction cs with
  | nil => rfl
  | cons c cs ih =>
    cases cs with
    | nil => rfl
    | cons d cs =>
      show (⟨#[c]⟩ : Str) ++ Str.empty ++ Str.join Str.empty ((d :: cs).map fun c => ⟨#[c]⟩) = _
      rw [ih]
      refine Str.ext' ?_
      simp [Str.cps_append, Str.empty]
theorem SS.ones {cs : List Nat} (h : ∀ c ∈ cs, c < 1114112) : SS (Txt.join (Str.ofString "") (cs.map fun c => ⟨#[c]⟩)) cs.length := by
  rw [join_ones]
  exact ⟨by simp [Str.length], by simpa using h⟩
theorem SS.num {i : Int} (h : i.natAbs < 10 ^ 100) : SS (Str.ofString (toString i)) 102 := by
  refine ⟨int_len h, fun c hc => ?_⟩
  rw [Str.ofString_eq_toList] at hc
  have hc : c ∈ (toString i).toList.map Char.toNat := by simpa using hc
  obtain ⟨d, _, rfl⟩ := List.mem_map.mp hc
  have h2 : d.toNat.isValidChar := d.valid
  unfold Nat.isValidChar at h2
  omega
theorem SS.at {z : Str} {n : Nat} {i : Int} (h : SS z n) (h0 : 0 ≤ i) (h1 : i < z.length) : ∃ c, atI z.cps.toList i = some c ∧ c < 1114112 ∧ c ∈ z.cps.toList := by
  obtain ⟨c, e1, e2⟩ := at_int (xs := z.cps.toList) h0 (by rw [Array.length_toList]; exact h1)
  have m := List.mem_of_getElem? e1
  exact ⟨c, e2, h.ok c m, m⟩
theorem ones_len (cs : List Nat) : ((cs.map fun c => (⟨#[c]⟩ : Str)).map (·.length)).sum = cs.length := by
  induction cs with
  | nil => rfl
  | cons c cs ih =>
    rw [List.map_cons, List.map_cons, List.sum_cons, ih, List.length_cons]
    simp [Str.length]
    omega
end U

local macro_rules | `(tactic| walk_at "u1") => `(tactic| first
  | with_reducible refine' U.s_seq ?_
  | with_reducible refine' U.s_asg ?_
  | with_reducible refine' U.s_name ?_
  | with_reducible refine' U.s_ret ?_
  | with_reducible refine' U.s_next ?_
  | ((with_reducible show L2.Ends.nx _ _ _); dsimp only)
  | ((with_reducible show L2.Ends.rt _ _ _); dsimp only)
  | ((with_reducible show L2.Ends.bk _ _ _); dsimp only)
  | ((with_reducible show L2.Ends.ct _ _ _); dsimp only)
  | with_reducible refine' U.s_brk ?_
  | with_reducible refine' U.s_cnt ?_
  | with_reducible refine' U.s_retN ?_
  | with_reducible refine' U.s_drop ?_
  | with_reducible refine' U.s_ifS ?_
  | with_reducible refine' U.s_op ?_
  | with_reducible refine' U.s_c ?_
  | ((with_reducible refine' U.s_var ?uvh ?_); (case uvh => exact rfl))
  | with_reducible refine' U.s_un ?_
  | with_reducible refine' U.s_neg ?_
  | with_reducible refine' U.s_test ?_
  | with_reducible refine' U.s_B ?_
  | with_reducible refine' U.s_bl ?_
  | with_reducible refine' U.s_chain ?_
  | with_reducible refine' U.s_and ?_
  | with_reducible refine' U.s_or ?_
  | with_reducible refine' U.s_not ?_
  | with_reducible refine' U.s_andV ?_
  | with_reducible refine' U.s_orV ?_
  | with_reducible refine' U.s_notV ?_
  | with_reducible refine' U.s_if ?_
  | with_reducible refine' U.s_add ?_
  | with_reducible refine' U.s_sub ?_
  | with_reducible refine' U.s_lt ?_
  | with_reducible refine' U.s_le ?_
  | with_reducible refine' U.s_gt ?_
  | with_reducible refine' U.s_ge ?_
  | with_reducible refine' U.s_eqi ?_
  | with_reducible refine' U.s_nei ?_
  | with_reducible refine' U.s_eqs ?_
  | with_reducible refine' U.s_nes ?_
  | with_reducible refine' U.s_in1 ?_
  | with_reducible refine' U.s_notin1 ?_
  | with_reducible refine' U.s_is ?_
  | with_reducible refine' U.s_isnot ?_
  | with_reducible refine' U.s_nil ?_
  | with_reducible refine' U.s_cons ?_
  | with_reducible refine' U.s_lst ?_
  | with_reducible refine' U.s_tup ?_
  | with_reducible refine' U.s_cb ?_
  | with_reducible refine' U.s_go ?_
  | with_reducible refine' U.s_max2 ?_
  | with_reducible refine' U.s_min2 ?_
  | with_reducible refine' U.s_sub2 ?_
  | with_reducible refine' U.s_sl ?_
  | with_reducible refine' U.s_nopart ?_
  | with_reducible refine' U.s_part ?_
  | with_reducible refine' U.s_int ?_
  | with_reducible refine' U.s_m1 ?_
  | with_reducible refine' U.s_isstr ?_
  | with_reducible refine' U.s_rng1 ?_
  | with_reducible refine' U.s_ilist ?_
  | with_reducible refine' U.s_istr ?_
  | with_reducible refine' U.s_lc ?_
  | with_reducible refine' U.s_for ?_
  | with_reducible refine' U.s_istr1 ?_
  | with_reducible refine' U.s_yes ?_
  | with_reducible refine' U.s_itt ?_
  | with_reducible refine' U.s_itf ?_
  | ((with_reducible refine' U.s_ixl ?uih ?uia ?_); (case uih => assumption); (case uia => exact rfl))
  | ((with_reducible refine' U.s_ixl ?uih ?uia ?_); (case uih => exact L2.upd_same); (case uia => exact rfl))
  | ((with_reducible refine' U.s_mod ?umh ?_); (case umh => first | decide | assumption | omega))
  | ((with_reducible refine' U.s_isInt ?uty ?_); (case uty => first | assumption | exact U.TyN.int | exact U.TyN.str | exact U.TyN.non | exact U.TyN.bl | exact U.TyN.lst (by assumption) | exact U.TyN.tup (by assumption) | exact U.TyN.dic (by assumption)))
  | ((with_reducible refine' U.s_isBool ?uty ?_); (case uty => first | assumption | exact U.TyN.int | exact U.TyN.str | exact U.TyN.non | exact U.TyN.bl | exact U.TyN.lst (by assumption) | exact U.TyN.tup (by assumption) | exact U.TyN.dic (by assumption)))
  | ((with_reducible refine' U.s_isStr ?uty ?_); (case uty => first | assumption | exact U.TyN.int | exact U.TyN.str | exact U.TyN.non | exact U.TyN.bl | exact U.TyN.lst (by assumption) | exact U.TyN.tup (by assumption) | exact U.TyN.dic (by assumption)))
  | ((with_reducible refine' U.s_isList ?uty ?_); (case uty => first | assumption | exact U.TyN.int | exact U.TyN.str | exact U.TyN.non | exact U.TyN.bl | exact U.TyN.lst (by assumption) | exact U.TyN.tup (by assumption) | exact U.TyN.dic (by assumption)))
  | ((with_reducible refine' U.s_isTup ?uty ?_); (case uty => first | assumption | exact U.TyN.int | exact U.TyN.str | exact U.TyN.non | exact U.TyN.bl | exact U.TyN.lst (by assumption) | exact U.TyN.tup (by assumption) | exact U.TyN.dic (by assumption)))
  | ((with_reducible refine' U.s_isDict ?uty ?_); (case uty => first | assumption | exact U.TyN.int | exact U.TyN.str | exact U.TyN.non | exact U.TyN.bl | exact U.TyN.lst (by assumption) | exact U.TyN.tup (by assumption) | exact U.TyN.dic (by assumption)))
  | ((with_reducible refine' U.s_itT ?uit ?_); (case uit => exact rfl))
  | ((with_reducible refine' U.s_itF ?uit ?_); (case uit => exact rfl))
  | ((with_reducible refine' U.s_mul ?umh ?_); (case umh => first | exact U.cmulL (by omega) (by omega) | exact U.cmulR (by omega) (by omega)))
  | ((with_reducible refine' U.s_pow ?umh ?ume ?_); (case umh => exact U.cpow (by omega) (by omega) (by omega) (by omega)); (case ume => simp only [Int.reduceToNat, Int.reducePow]; exact rfl))
  | ((with_reducible refine' U.s_div ?umh ?_); (case umh => exact U.cdiv (by omega) (by omega)))
  | ((with_reducible refine' U.s_setl ?uih ?uia ?uie ?_); (case uih => first | assumption | exact L2.upd_same); (case uia => exact rfl); (case uie => simp only [Int.reduceToNat, List.set_cons_succ, List.set_cons_zero]; exact rfl)))
local macro_rules | `(tactic| walk_at "u") => `(tactic| repeat walk_at "u1")
local macro_rules | `(tactic| walk_at "na") => `(tactic| first
  | ((with_reducible refine' U.s_newl (U.zle ?unz) ?_); (case unz => simp))
  | ((with_reducible refine' U.s_newt (U.zle ?unz) ?_); (case unz => simp)))

namespace K01
open PySem L2 U
def top (i : Nat) : Stmt := PySem.Challenge.pw_onestaff_k01_words_of_anything.main.body.getD i (.Pass ⟨0, 0, 0, 0⟩)
abbrev s_is_whole : Stmt := top 3
abbrev N_is_whole : List Str := ["thing", "low", "high"]
theorem sc_is_whole : FnScope N_is_whole ["thing", "low", "high"] (defScope s_is_whole) := ⟨rfl, rfl, rfl, by decide +kernel, rfl, by decide +kernel, by decide +kernel⟩
abbrev s_is_name : Stmt := top 4
abbrev N_is_name : List Str := ["thing", "sign"]
theorem sc_is_name : FnScope N_is_name ["thing"] (defScope s_is_name) := ⟨rfl, rfl, rfl, by decide +kernel, rfl, by decide +kernel, by decide +kernel⟩
abbrev s_law_cell : Stmt := top 6
abbrev N_law_cell : List Str := ["_law_script", "_law_k"]
theorem sc_law_cell : FnScope N_law_cell ["_law_script", "_law_k"] (defScope s_law_cell) := ⟨rfl, rfl, rfl, by decide +kernel, rfl, by decide +kernel, by decide +kernel⟩
abbrev s_law_box : Stmt := top 7
abbrev N_law_box : List Str := ["_law_cell_here"]
theorem sc_law_box : FnScope N_law_box ["_law_cell_here"] (defScope s_law_box) := ⟨rfl, rfl, rfl, by decide +kernel, rfl, by decide +kernel, by decide +kernel⟩
abbrev s_law_take : Stmt := top 8
abbrev N_law_take : List Str := ["_law_box_here", "_law_many", "_law_number", "_law_digit"]
theorem sc_law_take : FnScope N_law_take ["_law_box_here", "_law_many"] (defScope s_law_take) := ⟨rfl, rfl, rfl, by decide +kernel, rfl, by decide +kernel, by decide +kernel⟩
abbrev s_law_signs : Stmt := top 9
abbrev N_law_signs : List Str := ["_law_some"]
theorem sc_law_signs : FnScope N_law_signs [] (defScope s_law_signs) := ⟨rfl, rfl, rfl, by decide +kernel, rfl, by decide +kernel, by decide +kernel⟩
abbrev s_law_text : Stmt := top 10
abbrev N_law_text : List Str := ["_law_box_here", "_law_letters", "_law_found", "_law_at", "_law_sign", "_law_k"]
theorem sc_law_text : FnScope N_law_text ["_law_box_here"] (defScope s_law_text) := ⟨rfl, rfl, rfl, by decide +kernel, rfl, by decide +kernel, by decide +kernel⟩
abbrev s_law_is_name : Stmt := top 11
abbrev N_law_is_name : List Str := ["_law_thing", "_law_letters", "_law_sign"]
theorem sc_law_is_name : FnScope N_law_is_name ["_law_thing"] (defScope s_law_is_name) := ⟨rfl, rfl, rfl, by decide +kernel, rfl, by decide +kernel, by decide +kernel⟩
abbrev s_law_things : Stmt := top 12
abbrev N_law_things : List Str := ["_law_box_here", "_law_low", "_law_high", "_law_far", "_law_text_here", "_law_some", "_law_more", "_law_turn"]
theorem sc_law_things : FnScope N_law_things ["_law_box_here", "_law_low", "_law_high"] (defScope s_law_things) := ⟨rfl, rfl, rfl, by decide +kernel, rfl, by decide +kernel, by decide +kernel⟩
abbrev s_law : Stmt := top 13
abbrev N_law : List Str := ["_law_script", "_law_k", "_law_box_here", "_law_low", "_law_high", "_law_thing", "_law_whole"]
theorem sc_law : FnScope N_law ["_law_script"] (defScope s_law) := ⟨rfl, rfl, rfl, by decide +kernel, rfl, by decide +kernel, by decide +kernel⟩
structure Tx (K : PySem.W.Frag) (mg : Str → Option Value) where
  a_is_whole : Addr
  d_is_whole : FuncData
  F_is_whole : Fun K "is_whole" "is_whole" s_is_whole a_is_whole d_is_whole
  B_is_whole : Binds K d_is_whole ["thing", "low", "high"] []
  m_is_whole : mg "is_whole" = some (.ref a_is_whole)
  a_is_name : Addr
  d_is_name : FuncData
  F_is_name : Fun K "is_name" "is_name" s_is_name a_is_name d_is_name
  B_is_name : Binds K d_is_name ["thing"] []
  m_is_name : mg "is_name" = some (.ref a_is_name)
  a_law_cell : Addr
  d_law_cell : FuncData
  F_law_cell : Fun K "_law_cell" "_law_cell" s_law_cell a_law_cell d_law_cell
  B_law_cell : Binds K d_law_cell ["_law_script", "_law_k"] []
  m_law_cell : mg "_law_cell" = some (.ref a_law_cell)
  a_law_box : Addr
  d_law_box : FuncData
  F_law_box : Fun K "_law_box" "_law_box" s_law_box a_law_box d_law_box
  B_law_box : Binds K d_law_box ["_law_cell_here"] []
  m_law_box : mg "_law_box" = some (.ref a_law_box)
  a_law_take : Addr
  d_law_take : FuncData
  F_law_take : Fun K "_law_take" "_law_take" s_law_take a_law_take d_law_take
  B_law_take : Binds K d_law_take ["_law_box_here", "_law_many"] []
  m_law_take : mg "_law_take" = some (.ref a_law_take)
  a_law_signs : Addr
  d_law_signs : FuncData
  F_law_signs : Fun K "_law_signs" "_law_signs" s_law_signs a_law_signs d_law_signs
  B_law_signs : Binds K d_law_signs [] []
  m_law_signs : mg "_law_signs" = some (.ref a_law_signs)
  a_law_text : Addr
  d_law_text : FuncData
  F_law_text : Fun K "_law_text" "_law_text" s_law_text a_law_text d_law_text
  B_law_text : Binds K d_law_text ["_law_box_here"] []
  m_law_text : mg "_law_text" = some (.ref a_law_text)
  a_law_is_name : Addr
  d_law_is_name : FuncData
  F_law_is_name : Fun K "_law_is_name" "_law_is_name" s_law_is_name a_law_is_name d_law_is_name
  B_law_is_name : Binds K d_law_is_name ["_law_thing"] []
  m_law_is_name : mg "_law_is_name" = some (.ref a_law_is_name)
  a_law_things : Addr
  d_law_things : FuncData
  F_law_things : Fun K "_law_things" "_law_things" s_law_things a_law_things d_law_things
  B_law_things : Binds K d_law_things ["_law_box_here", "_law_low", "_law_high"] []
  m_law_things : mg "_law_things" = some (.ref a_law_things)
  a_law : Addr
  d_law : FuncData
  F_law : Fun K "law" "law" s_law a_law d_law
  B_law : Binds K d_law ["_law_script"] []
  m_law : mg "law" = some (.ref a_law)
  c_LONGEST : Value
  mc_LONGEST : mg "LONGEST" = some c_LONGEST
  rc_LONGEST : RelV (V.int 6) c_LONGEST
  c_LETTERS : Value
  mc_LETTERS : mg "LETTERS" = some c_LETTERS
  rc_LETTERS : RelV (V.str "abcdefghijklmnopqrstuvwxyz") c_LETTERS
  z_all : mg "all" = none
  z_bool : mg "bool" = none
  z_int : mg "int" = none
  z_isinstance : mg "isinstance" = none
  z_len : mg "len" = none
  z_max : mg "max" = none
  z_min : mg "min" = none
  z_range : mg "range" = none
  z_repr : mg "repr" = none
  z_str : mg "str" = none
variable {P : Program} {w : World} {K : PySem.W.Frag} {mg : Str → Option Value} {base : Heap}
/-- the box: a list of three numbers, the last one at most n -/
structure Box (H : Hp) (p : Addr) (n : Nat) : Prop where
  ex : ∃ a b c : Int, H p = some (.lst [.int a, .int b, .int c]) ∧ 0 ≤ a ∧ 0 ≤ b ∧ b < 2147483629 ∧ 0 ≤ c ∧ c ≤ n
/-- take: a number below many -/
def sp_law_take : Sp := sp2 fun x y H Q _ => ∃ (p : Addr) (m : Int) (n : Nat), x = .ref p ∧ y = .int m ∧ Box H p n ∧ n ≤ 1000000 ∧ 0 < m ∧ m < 10 ^ 40 ∧
  ∀ (d : Int) (H' : Hp), 0 ≤ d → d < m → Box H' p (n + 1) → Kp [p] H H' → Q (.int d) H'
set_option maxHeartbeats 16000000 in
theorem ok_law_take (T : Tx K mg) (hs : ∃ mm, base.Ns sysModules mm) : FnG P w K mg base CX0 1 T.a_law_take T.d_law_take ["_law_box_here", "_law_many"] (sp_law_take) := by
  refine okG0 T.F_law_take sc_law_take (fun vs H Q E h => ?_) (fun cd A o s H vs Q E hg hr h => ?_)
  · obtain ⟨v0, v1, rfl, h⟩ := h; rfl
  obtain ⟨v0, v1, rfl, h⟩ := h
  obtain ⟨p, m, n, rfl, rfl, ⟨a, b, c, hp, ha, hb, hb2, hc, hc2⟩, hn, hm, hm2, k⟩ := h
  refine ⟨_, (pss_cons (ps_if (pt_cmpR o_gt (pe_ix (ix_u (K := K) rfl) (pv 0) pe_int (fun _ _ => rfl)) pe_int (nomark _))
    (pss_cons (ps_set (i := 3) sc_law_take.nd rfl (Or.inl rfl) (pe_op o_mod (pe_ix (ix_u (K := K) rfl) (pv 0) pe_int (fun _ _ => rfl)) (pv 1)))
    (pss_cons (ps_asg (pe_op o_div (pe_ix (ix_u (K := K) rfl) (pv 0) pe_int (fun _ _ => rfl)) (pv 1)) (pg_sub (pv 0) pe_int set_list))
    (pss_one (ps_ret (pv 3)))))
    pss_nil)
    (pss_cons (ps_asg (pe_op (o_add (K := K) rfl) (pe_ix (ix_u (K := K) rfl) (pv 0) pe_int (fun _ _ => rfl)) pe_int) (pg_sub (pv 0) pe_int set_list))
    (pss_cons (ps_set (i := 2) sc_law_take.nd rfl (Or.inl rfl) (pe_op o_mod (pe_op o_pow (pe_op (o_add (K := K) rfl) (pe_op (o_add (K := K) rfl) (pe_ix (ix_u (K := K) rfl) (pv 0) pe_int (fun _ _ => rfl)) (pe_op o_mul pe_int (pe_ix (ix_u (K := K) rfl) (pv 0) pe_int (fun _ _ => rfl)))) pe_int) pe_int) pe_int))
    (pss_cons (ps_set (i := 2) sc_law_take.nd rfl (Or.inl rfl) (pe_op o_mod (pe_op o_pow (pe_op (o_add (K := K) rfl) (pv 2) (pe_op o_mul pe_int (pe_ix (ix_u (K := K) rfl) (pv 0) pe_int (fun _ _ => rfl)))) pe_int) pe_int))
    (pss_one (ps_ret (pe_op o_mod (pe_op o_div (pv 2) pe_int) (pv 1)))))))), ?_⟩
  walk_at "u"
  refine s_ite (fun h0 => ?_) (fun h0 => ?_)
  · walk_at "u"
    refine k _ _ (Int.emod_nonneg _ (by omega)) (Int.emod_lt_of_pos _ hm) ⟨_, _, _, upd_same, Int.ediv_nonneg ha (by omega), hb, hb2, hc, by omega⟩ (Kp.refl.put (by simp))
  · walk_at "u"
    have h1 : (0 : Int) ≤ (b + 7919 * (c + 1) + 11) ^ 5 % 2147483647 := Int.emod_nonneg _ (by omega)
    have h2 : (b + 7919 * (c + 1) + 11) ^ 5 % 2147483647 < 2147483647 := Int.emod_lt_of_pos _ (by omega)
    generalize (b + 7919 * (c + 1) + 11) ^ 5 % 2147483647 = y at h1 h2 ⊢
    walk_at "u"
    refine k _ _ (Int.emod_nonneg _ (by omega)) (Int.emod_lt_of_pos _ hm) ⟨_, _, _, upd_same, ha, hb, hb2, by omega, by omega⟩ (Kp.refl.put (by simp))
theorem c_take {p : Addr} {m : Int} {n : Nat} {H : Hp} {Q : VK} {E : XK} (hB : Box H p n) (hn : n ≤ 1000000) (h0 : 0 < m) (h1 : m < 10 ^ 40)
    (k : ∀ (d : Int) (H' : Hp), 0 ≤ d → d < m → Box H' p (n + 1) → Kp [p] H H' → Q (.int d) H') : sp_law_take [.ref p, .int m] H Q E := ⟨_, _, rfl, p, m, n, rfl, rfl, hB, hn, h0, h1, k⟩
theorem Box.new {H : Hp} {p l : Addr} {n : Nat} {o : HO} (h : Box H p n) (hl : H l = none) : Box (upd H l o) p n := by
  obtain ⟨a, b, c, e, r⟩ := h.ex
  exact ⟨a, b, c, by rw [upd_ne (ne_of_none e hl)]; exact e, r⟩
theorem Box.kp {H H' : Hp} {p : Addr} {n : Nat} (h : Box H p n) (k : Kp [] H H') : Box H' p n := by
  obtain ⟨a, b, c, e, r⟩ := h.ex
  exact ⟨a, b, c, k.get0 e, r⟩
theorem Box.ne {H : Hp} {p l : Addr} {n : Nat} (h : Box H p n) (hl : H l = none) : l ≠ p := by
  obtain ⟨a, b, c, e, r⟩ := h.ex
  exact (ne_of_none e hl).symm
/-- what a thing is -/
def isWhole (v : V) (lo hi : Int) : Bool := match v with | .int i => decide (lo ≤ i) && decide (i ≤ hi) | _ => false
def letters : Str := "abcdefghijklmnopqrstuvwxyz"
def isName (v : V) : Bool := match v with | .str z => decide (1 ≤ z.length ∧ z.length ≤ 6) && z.cps.toList.all (fun c => decide (c ∈ letters.cps.toList)) | _ => false
def Small (v : V) : Prop := match v with | .str z => SS z 1000 | _ => True
def sp_is_whole : Sp := sp3 fun x y z H Q _ => ∃ (lo hi : Int) (t : Kd), y = .int lo ∧ z = .int hi ∧ TyN H x t ∧ Q (.bl (isWhole x lo hi)) H
set_option maxHeartbeats 16000000 in
theorem ok_is_whole (T : Tx K mg) (hs : ∃ mm, base.Ns sysModules mm) : FnG P w K mg base CX0 1 T.a_is_whole T.d_is_whole ["thing", "low", "high"] (sp_is_whole) := by
  refine okG0 T.F_is_whole sc_is_whole (fun vs H Q E h => ?_) (fun cd A o s H vs Q E hg hr h => ?_)
  · obtain ⟨v0, v1, v2, rfl, h⟩ := h; rfl
  obtain ⟨v0, v1, v2, rfl, h⟩ := h
  obtain ⟨lo, hi, t, rfl, rfl, ht, k⟩ := h
  refine ⟨_, (pss_one (ps_ret (pe_and (pe_callB (c_isi (K := K) rfl) rfl T.z_isinstance bt_isinstance (pa_cons (pv 0) (pa_cons (pe_ty rfl T.z_int bt_int) pa_nil))) (pe_and (pe_not (pe_callB (c_isi (K := K) rfl) rfl T.z_isinstance bt_isinstance (pa_cons (pv 0) (pa_cons (pe_ty rfl T.z_bool bt_bool) pa_nil)))) (pe_one (pe_chain o_le o_le (pv 1) (pv 0) (pv 2))))))), ?_⟩
  cases ht <;> walk_at "u"
  all_goals try exact k
  rename_i i
  refine s_ite (fun h1 => ?_) (fun h1 => ?_)
  · walk_at "u"
    have e : isWhole (V.int i) lo hi = (decide (lo ≤ i) && decide (i ≤ hi)) := rfl
    rw [e, decide_eq_true h1, Bool.true_and] at k
    exact k
  · have e : isWhole (V.int i) lo hi = (decide (lo ≤ i) && decide (i ≤ hi)) := rfl
    rw [e, decide_eq_false h1, Bool.false_and] at k
    exact k
def sp_law_cell (K : PySem.W.Frag) : Sp := sp2 fun x y H Q _ => ∃ (a : Addr) (ns : List Int) (k : Int), x = .ref a ∧ y = .int k ∧ SqL K H a (ns.map V.int) ∧ 0 ≤ k ∧ k < 1000 ∧ ∀ c : Int, Q (.int c) H
set_option maxHeartbeats 16000000 in
theorem ok_law_cell (T : Tx K mg) (hs : ∃ mm, base.Ns sysModules mm) : FnG P w K mg base CX0 1 T.a_law_cell T.d_law_cell ["_law_script", "_law_k"] (sp_law_cell K) := by
  refine okG0 T.F_law_cell sc_law_cell (fun vs H Q E h => ?_) (fun cd A o s H vs Q E hg hr h => ?_)
  · obtain ⟨v0, v1, rfl, h⟩ := h; rfl
  obtain ⟨v0, v1, rfl, h⟩ := h
  obtain ⟨a, ns, k, rfl, rfl, hS, h0, h1, q⟩ := h
  refine ⟨_, (pss_cons (ps_if (pt_cmpR o_lt (pv 1) (pe_callB (c_len (K := K) rfl) rfl T.z_len bt_len (pa_cons (pv 0) pa_nil)) (nomark _))
    (pss_one (ps_ret (pe_ix (ix_u (K := K) rfl) (pv 0) (pv 1) (fun _ _ => rfl))))
    pss_nil)
    (pss_one (ps_ret (pe_op (o_add (K := K) rfl) (pe_op o_mul pe_int (pv 1)) pe_int)))), ?_⟩
  walk_at "u"
  refine s_lenL hS ?_
  walk_at "u"
  rw [List.length_map]
  refine s_ite (fun h2 => ?_) (fun h2 => ?_)
  · walk_at "u"
    obtain ⟨z, e1, e2⟩ := at_int (xs := ns.map V.int) h0 (by rw [List.length_map]; exact h2)
    rw [List.getElem?_map] at e1
    obtain ⟨c, _, rfl⟩ := Option.map_eq_some_iff.mp e1
    refine s_ixL hS e2 ?_
    walk_at "u"
    exact q c
  · walk_at "u"
    exact q _
def sp_law_box : Sp := sp1 fun x H Q _ => ∃ (c : Int), x = .int c ∧ ∀ p, H p = none → ∀ H', Kp [] H H' → Box H' p 0 → Q (.ref p) H'
set_option maxHeartbeats 16000000 in
theorem ok_law_box (T : Tx K mg) (hs : ∃ mm, base.Ns sysModules mm) : FnG P w K mg base CX0 1 T.a_law_box T.d_law_box ["_law_cell_here"] (sp_law_box) := by
  refine okG0 T.F_law_box sc_law_box (fun vs H Q E h => ?_) (fun cd A o s H vs Q E hg hr h => ?_)
  · obtain ⟨v0, rfl, h⟩ := h; rfl
  obtain ⟨v0, rfl, h⟩ := h
  obtain ⟨c, rfl, k⟩ := h
  refine ⟨_, (pss_one (ps_ret (pe_lst (pa_cons (pe_callB (c_max rfl) rfl T.z_max bt_max (pa_cons pe_int (pa_cons (pe_op o_sub (pv 0) (pe_op o_pow pe_int pe_int)) pa_nil))) (pa_cons (pe_op o_mod (pv 0) pe_int) (pa_cons pe_int pa_nil)))))), ?_⟩
  walk_at "u"
  refine s_newl (zle (by simp)) fun p H1 hp e1 k1 => k p hp _ k1 ⟨_, _, _, e1, ?_, Int.emod_nonneg _ (by decide), Int.emod_lt_of_pos _ (by decide), Int.le_refl _, Int.le_refl _⟩
  split <;> omega
def signs : Str := " !\"#$&'()*+,-./0123456789:;<=>?@ABCDEFGHIJKLMNOPQRSTUVWXYZ[\\]^_`" ++ "abcdefghijklmnopqrstuvwxyz{|}~"
def sp_law_signs : Sp := sp0 fun H Q _ => Q (.str signs) H
set_option maxHeartbeats 16000000 in
theorem ok_law_signs (T : Tx K mg) (hs : ∃ mm, base.Ns sysModules mm) : FnG P w K mg base CX0 1 T.a_law_signs T.d_law_signs [] (sp_law_signs) := by
  refine okG0 T.F_law_signs sc_law_signs (fun vs H Q E h => ?_) (fun cd A o s H vs Q E hg hr h => ?_)
  · obtain ⟨rfl, h⟩ := h; rfl
  obtain ⟨rfl, h⟩ := h
  refine ⟨_, (pss_cons (ps_set (i := 0) sc_law_signs.nd rfl (Or.inl rfl) pe_str)
    (pss_one (ps_ret (pe_op (o_add (K := K) rfl) (pv 0) pe_str)))), ?_⟩
  walk_at "u"
  exact s_adds (by decide +kernel) h
def sp_is_name : Sp := sp1 fun x H Q _ => ∃ t, TyN H x t ∧ Small x ∧ ∀ H', Kp [] H H' → Q (.bl (isName x)) H'
theorem take_one {α : Type} {xs : List α} {i : Nat} {x : α} (h : xs[i]? = some x) : xs.take (i + 1) = xs.take i ++ [x] := by
  rw [List.take_add_one, h]; rfl
set_option maxHeartbeats 16000000 in
theorem ok_is_name (T : Tx K mg) (hs : ∃ mm, base.Ns sysModules mm) : FnG P w K mg base CX0 1 T.a_is_name T.d_is_name ["thing"] (sp_is_name) := by
  refine okG0 T.F_is_name sc_is_name (fun vs H Q E h => ?_) (fun cd A o s H vs Q E hg hr h => ?_)
  · obtain ⟨v0, rfl, h⟩ := h; rfl
  obtain ⟨v0, rfl, h⟩ := h
  obtain ⟨t, ht, hz, k⟩ := h
  refine ⟨_, (pss_cons (ps_if (PW.pt (pw_or (pt_not (pt_val (pe_callB (c_isi (K := K) rfl) rfl T.z_isinstance bt_isinstance (pa_cons (pv 0) (pa_cons (pe_ty rfl T.z_str bt_str) pa_nil))))) (pw_or1 (pt_not (pt_chain o_le o_le pe_int (pe_callB (c_len (K := K) rfl) rfl T.z_len bt_len (pa_cons (pv 0) pa_nil)) (pe_glob rfl T.mc_LONGEST T.rc_LONGEST))))))
    (pss_one (ps_ret pe_bl))
    pss_nil)
    (pss_one (ps_ret (pe_callB (c_all (K := K) rfl rfl) rfl T.z_all bt_all (pa_cons (pe_lc (own := [("sign", 1)]) rfl sc_is_name.nd (pi_str (pv 0)) (blkOk_by (own := [("sign", 1)]) (N := N_is_name) (sc := defScope s_is_name) (by decide +kernel)) (fun _ _ _ _ _ => (pg_name (i := 1) sc_is_name.nd rfl (Or.inl rfl))) (fun _ _ _ _ _ => pts_nil) (fun _ _ _ _ _ => (pe_cmpR (o_in (K := K) rfl) (pv 1) (pe_glob rfl T.mc_LETTERS T.rc_LETTERS) rfl))) pa_nil))))), ?_⟩
  cases ht <;> walk_at "u"
  all_goals try exact k _ Kp.refl
  rename_i z
  obtain ⟨hz, hz2⟩ : SS z 1000 := hz
  refine s_lens (zle (by omega)) ?_
  walk_at "u"
  have key : ∀ b : Bool, (decide (1 ≤ (z.length : Int)) && decide ((z.length : Int) ≤ 6)) = b → (b = true → ∀ H', Kp [] H H' → Q (.bl (z.cps.toList.all fun c => decide (c ∈ letters.cps.toList))) H') ∧ (b = false → ∀ H', Kp [] H H' → Q (.bl false) H') := by
    intro b hb
    refine ⟨fun e H' kp => ?_, fun e H' kp => ?_⟩
    · subst e
      have q := k H' kp
      have e2 : isName (V.str z) = (decide (1 ≤ z.length ∧ z.length ≤ 6) && z.cps.toList.all fun c => decide (c ∈ letters.cps.toList)) := rfl
      rw [Bool.and_eq_true, decide_eq_true_eq, decide_eq_true_eq] at hb
      rw [e2, decide_eq_true (by omega), Bool.true_and] at q
      exact q
    · subst e
      have q := k H' kp
      have e2 : isName (V.str z) = (decide (1 ≤ z.length ∧ z.length ≤ 6) && z.cps.toList.all fun c => decide (c ∈ letters.cps.toList)) := rfl
      have hb : ¬ (1 ≤ z.length ∧ z.length ≤ 6) := fun h => by
        rw [decide_eq_true (by omega), decide_eq_true (by omega)] at hb
        cases hb
      rw [e2, decide_eq_false hb, Bool.false_and] at q
      exact q
  refine s_ite (fun h1 => ?_) (fun h1 => ?_)
  · walk_at "u"
    refine s_itn (fun h2 => ?_) (fun h2 => ?_)
    · walk_at "u"
      exact (key false (by rw [decide_eq_true h1, decide_eq_false h2]; rfl)).2 rfl _ Kp.refl
    · walk_at "u"
      intro D hD
      refine lc_it walk_str (PvD D fun i acc H' => Kp [D] H H' ∧ acc = (z.cps.toList.take i).map fun c => V.bl (decide (c ∈ letters.cps.toList))) (PvD.start ⟨Kp.refl.new hD, rfl⟩) (fun _ _ _ _ => trivial) ?_ ?_
      · rintro i x H1 H2 hi ⟨acc, e, kp, rfl⟩ ⟨rfl, c, hc, rfl⟩
        walk_at "u"
        refine ⟨rfl, ?_⟩
        walk_at "u"
        refine PvD.more e ?_ ⟨kp.put (by simp), ?_⟩
        · rw [List.length_map, List.length_take]
          exact Nat.lt_of_le_of_lt (Nat.min_le_left _ _) (Nat.lt_of_lt_of_le hi (zle (show z.length ≤ _ by omega)))
        · rw [take_one (x := c) (by simpa using hc), List.map_append]
          rfl
      · rintro H2 ⟨acc, e, kp, rfl⟩
        walk_at "u"
        rw [List.take_of_length_le (by simp)] at e
        refine s_all (bs := z.cps.toList.map fun c => decide (c ∈ letters.cps.toList)) (by rw [List.map_map]; exact e) ?_
        rw [List.all_map]
        exact (key true (by rw [decide_eq_true h1, decide_eq_true h2]; rfl)).1 rfl _ (kp.drop hD)
  · walk_at "u"
    exact (key false (by rw [decide_eq_false h1]; rfl)).2 rfl _ Kp.refl
def sp_law_is_name : Sp := sp1 fun x H Q _ => ∃ t, TyN H x t ∧ Small x ∧ ∀ H', Kp [] H H' → Q (.bl (isName x)) H'
set_option maxHeartbeats 16000000 in
theorem ok_law_is_name (T : Tx K mg) (hs : ∃ mm, base.Ns sysModules mm) : FnG P w K mg base CX0 1 T.a_law_is_name T.d_law_is_name ["_law_thing"] (sp_law_is_name) := by
  refine okG0 T.F_law_is_name sc_law_is_name (fun vs H Q E h => ?_) (fun cd A o s H vs Q E hg hr h => ?_)
  · obtain ⟨v0, rfl, h⟩ := h; rfl
  obtain ⟨v0, rfl, h⟩ := h
  obtain ⟨t, ht, hz, k⟩ := h
  refine ⟨_, (pss_cons (ps_set (i := 1) sc_law_is_name.nd rfl (Or.inr rfl) pe_str)
    (pss_one (ps_ret (pe_and (pe_callB (c_isi (K := K) rfl) rfl T.z_isinstance bt_isinstance (pa_cons (pv 0) (pa_cons (pe_ty rfl T.z_str bt_str) pa_nil))) (pe_and (pe_chain o_lt o_lt pe_int (pe_callB (c_len (K := K) rfl) rfl T.z_len bt_len (pa_cons (pv 0) pa_nil)) pe_int) (pe_one (pe_cmpR (o_eq (K := K) rfl hr) (pe_lc (own := [("_law_sign", 2)]) rfl sc_law_is_name.nd (pi_str (pv 0)) (blkOk_by (own := [("_law_sign", 2)]) (N := N_law_is_name) (sc := defScope s_law_is_name) (by decide +kernel)) (fun _ _ _ _ _ => (pg_name (i := 2) sc_law_is_name.nd rfl (Or.inl rfl))) (fun _ _ _ _ _ => (pts_one (pt_cmpR (o_notin (K := K) rfl) (pv 2) (pv 1) rfl))) (fun _ _ _ _ _ => (pv 2))) (pe_lst pa_nil) (nomark _)))))))), ?_⟩
  cases ht <;> walk_at "u"
  all_goals try exact k _ Kp.refl
  rename_i z
  obtain ⟨hz, hz2⟩ : SS z 1000 := hz
  refine s_lens (zle (by omega)) ?_
  walk_at "u"
  have e2 : isName (V.str z) = (decide (1 ≤ z.length ∧ z.length ≤ 6) && z.cps.toList.all fun c => decide (c ∈ letters.cps.toList)) := rfl
  rw [e2] at k
  refine s_ite (fun h1 => ?_) (fun h1 => ?_)
  · walk_at "u"
    refine s_ite (fun h2 => ?_) (fun h2 => ?_)
    · walk_at "u"
      intro D hD
      refine lc_it walk_str (PvD D fun i acc H' => Kp [D] H H' ∧ acc = ((z.cps.toList.take i).filter fun c => !decide (c ∈ letters.cps.toList)).map fun c => V.str ⟨#[c]⟩) (PvD.start ⟨Kp.refl.new hD, rfl⟩) (fun _ _ _ _ => trivial) ?_ ?_
      · rintro i x H1 H2 hi ⟨acc, e, kp, rfl⟩ ⟨rfl, c, hc, rfl⟩
        have tk : z.cps.toList.take (i + 1) = z.cps.toList.take i ++ [c] := take_one (by simpa using hc)
        walk_at "u"
        refine ⟨rfl, ?_⟩
        walk_at "u"
        refine s_itb (fun h3 => ?_) (fun h3 => ?_)
        · walk_at "u"
          refine PvD.more e ?_ ⟨kp.put (by simp), ?_⟩
          · rw [List.length_map]
            refine Nat.lt_of_le_of_lt (List.length_filter_le _ _) ?_
            rw [List.length_take]
            exact Nat.lt_of_le_of_lt (Nat.min_le_left _ _) (Nat.lt_of_lt_of_le hi (zle (show z.length ≤ _ by omega)))
          · have h3 : (!decide (c ∈ letters.cps.toList)) = true := h3
            rw [tk, List.filter_append, List.map_append, List.filter_cons_of_pos (by rw [h3])]
            rfl
        · refine PvD.skip e ⟨kp, ?_⟩
          have h3 : (!decide (c ∈ letters.cps.toList)) = false := h3
          rw [tk, List.filter_append, List.filter_cons_of_neg (by rw [h3]; decide)]
          simp
      · rintro H2 ⟨acc, e, kp, rfl⟩
        rw [List.take_of_length_le (by simp)] at e
        walk_at "u"
        walk_at "na"
        intro p H3 hp e2p k3
        have e3 : (List.map (fun c => V.str ⟨#[c]⟩) (List.filter (fun c => !decide (c ∈ letters.cps.toList)) z.cps.toList)) = (List.map (fun c => (⟨#[c]⟩ : Str)) (List.filter (fun c => !decide (c ∈ letters.cps.toList)) z.cps.toList)).map V.str := by
          rw [List.map_map]; rfl
        refine s_eqNil (by rw [k3.get0 e, e3]) e2p ?_ ?_
        · intro y hy c hc
          obtain ⟨c2, h4, rfl⟩ := List.mem_map.mp hy
          have : c = c2 := by simpa using hc
          subst this
          exact hz2 c ((List.mem_filter.mp h4).1)
        · walk_at "u"
          have q := k _ ((kp.drop hD).trans k3)
          rw [decide_eq_true (by omega), Bool.true_and] at q
          rw [List.isEmpty_map, show (List.filter (fun c => !decide (c ∈ letters.cps.toList)) z.cps.toList).isEmpty = z.cps.toList.all fun c => decide (c ∈ letters.cps.toList) from ?_]
          · exact q
          · rw [Bool.eq_iff_iff, List.isEmpty_iff, List.filter_eq_nil_iff, List.all_eq_true]
            simp
    · walk_at "u"
      have q := k H Kp.refl
      rw [decide_eq_false (by omega), Bool.false_and] at q
      exact q
  · walk_at "u"
    have q := k H Kp.refl
    rw [decide_eq_false (by omega), Bool.false_and] at q
    exact q
theorem letters_ss : SS letters 26 := SS.mk' (by decide +kernel)
theorem letters_at {i : Int} (h0 : 0 ≤ i) (h1 : i < 26) : ∃ c, atI letters.cps.toList i = some c ∧ c < 1114112 := by
  obtain ⟨c, e, h, _⟩ := letters_ss.at h0 (by rw [show letters.length = 26 by decide +kernel]; exact h1)
  exact ⟨c, e, h⟩
theorem signs_ss : SS (signs ++ Str.ofString "\n") 95 := SS.mk' (by decide +kernel)
theorem signs_len : (signs ++ Str.ofString "\n").length = 95 := by decide +kernel
def sp_law_text : Sp := sp1 fun x H Q _ => ∃ (p : Addr) (n : Nat), x = .ref p ∧ Box H p n ∧ n ≤ 900000 ∧ ∀ (z : Str) (H' : Hp), SS z 20 → Box H' p (n + 20) → Kp [p] H H' → Q (.str z) H'
theorem Box.more {H : Hp} {p : Addr} {n m : Nat} (h : Box H p n) (e : n ≤ m) : Box H p m := by
  obtain ⟨a, b, c, e1, h1, h2, h3, h4, h5⟩ := h.ex
  exact ⟨a, b, c, e1, h1, h2, h3, h4, by omega⟩
theorem Box.put {H : Hp} {p l : Addr} {n : Nat} {o : HO} (h : Box H p n) (hl : l ≠ p) : Box (upd H l o) p n := by
  obtain ⟨a, b, c, e, r⟩ := h.ex
  exact ⟨a, b, c, by rw [upd_ne hl.symm]; exact e, r⟩
set_option maxHeartbeats 16000000 in
theorem ok_law_text (T : Tx K mg) (hs : ∃ mm, base.Ns sysModules mm) : FnG P w K mg base CX0 2 T.a_law_text T.d_law_text ["_law_box_here"] (sp_law_text) := by
  have G_law_take := ok_law_take (P := P) (w := w) (base := base) T hs
  have G_law_signs := ok_law_signs (P := P) (w := w) (base := base) T hs
  refine okG0 T.F_law_text sc_law_text (fun vs H Q E h => ?_) (fun cd A o s H vs Q E hg hr h => ?_)
  · obtain ⟨v0, rfl, h⟩ := h; rfl
  obtain ⟨v0, rfl, h⟩ := h
  obtain ⟨p, n, rfl, hB, hn, k⟩ := h
  refine ⟨_, (pss_cons (ps_set (i := 1) sc_law_text.nd rfl (Or.inr rfl) pe_str)
    (pss_cons (ps_set (i := 2) sc_law_text.nd rfl (Or.inl rfl) (pe_joinU (K := K) rfl pe_str (pe_lc (own := [("_law_k", 5)]) rfl sc_law_text.nd (pi_range1 rfl T.z_range (pa_cons (pe_go G_law_take hg (hr.mono (by decide)) rfl T.m_law_take T.F_law_take.kp T.B_law_take pass0 (pa_cons (pv 0) (pa_cons pe_int pa_nil))) pa_nil)) (blkOk_by (own := [("_law_k", 5)]) (N := N_law_text) (sc := defScope s_law_text) (by decide +kernel)) (fun _ _ _ _ _ => (pg_name (i := 5) sc_law_text.nd rfl (Or.inl rfl))) (fun _ _ _ _ _ => pts_nil) (fun _ _ _ _ _ => (pe_ix (ix_u (K := K) rfl) (pv 1) (pe_go G_law_take hg (hr.mono (by decide)) rfl T.m_law_take T.F_law_take.kp T.B_law_take pass0 (pa_cons (pv 0) (pa_cons pe_int pa_nil))) (fun _ _ => rfl))))))
    (pss_cons (ps_if (pt_cmpR (o_eq (K := K) rfl hr) (pe_go G_law_take hg (hr.mono (by decide)) rfl T.m_law_take T.F_law_take.kp T.B_law_take pass0 (pa_cons (pv 0) (pa_cons pe_int pa_nil))) pe_int (nomark _))
    (pss_cons (ps_set (i := 3) sc_law_text.nd rfl (Or.inl rfl) (pe_go G_law_take hg (hr.mono (by decide)) rfl T.m_law_take T.F_law_take.kp T.B_law_take pass0 (pa_cons (pv 0) (pa_cons (pe_op (o_add (K := K) rfl) (pe_callB (c_len (K := K) rfl) rfl T.z_len bt_len (pa_cons (pv 2) pa_nil)) pe_int) pa_nil))))
    (pss_cons (ps_set (i := 4) sc_law_text.nd rfl (Or.inl rfl) (pe_ix (ix_u (K := K) rfl) (pe_op (o_add (K := K) rfl) (pe_go0 G_law_signs hg (hr.mono (by decide)) rfl T.m_law_signs T.F_law_signs.kp T.B_law_signs pass0) pe_str) (pe_go G_law_take hg (hr.mono (by decide)) rfl T.m_law_take T.F_law_take.kp T.B_law_take pass0 (pa_cons (pv 0) (pa_cons pe_int pa_nil))) (fun _ _ => rfl)))
    (pss_one (ps_set (i := 2) sc_law_text.nd rfl (Or.inl rfl) (pe_op (o_add (K := K) rfl) (pe_op (o_add (K := K) rfl) (pe_slice (sl_u (K := K) rfl) (pv 2) po_none (po_some (pv 3))) (pv 4)) (pe_slice (sl_u (K := K) rfl) (pv 2) (po_some (pe_op (o_add (K := K) rfl) (pv 3) (pe_go G_law_take hg (hr.mono (by decide)) rfl T.m_law_take T.F_law_take.kp T.B_law_take pass0 (pa_cons (pv 0) (pa_cons pe_int pa_nil))))) po_none))))))
    pss_nil)
    (pss_one (ps_ret (pv 2)))))), ?_⟩
  walk_at "u"
  refine c_take hB (by omega) (by decide) (by decide) fun d H1 d0 d1 B1 k1 => ?_
  walk_at "u"
  refine s_rng (by omega) (by omega) ?_
  intro D hD
  have nD := B1.ne hD
  have fD := k1.fresh hD (by simpa using nD)
  refine lc_it walk_range (PvD D fun i acc H' => Kp [p, D] H H' ∧ Box H' p (n + 1 + i) ∧ ∃ cs : List Nat, (∀ c ∈ cs, c < 1114112) ∧ cs.length = i ∧ acc = cs.map fun c => V.str ⟨#[c]⟩)
    (PvD.start ⟨(k1.mono (by simp)).new hD, B1.new hD, [], by simp, rfl, rfl⟩) (fun _ _ _ _ => trivial) ?_ ?_
  · rintro i x H2 H3 hi ⟨acc, e, kp, Bi, cs, hcs, hl, rfl⟩ ⟨rfl, rfl⟩
    walk_at "u"
    refine ⟨rfl, ?_⟩
    walk_at "u"
    refine c_take Bi (by omega) (by decide) (by decide) fun d2 H4 d20 d21 B4 k4 => ?_
    walk_at "u"
    obtain ⟨c, hc, hc2⟩ := letters_at d20 d21
    refine s_ixs (by decide +kernel) hc ?_
    have e4 := k4.get1 e nD
    refine PvD.more e4 (by rw [List.length_map]; exact Nat.lt_of_lt_of_le (show _ < 100 by omega) (by decide)) ⟨((kp.trans (k4.mono (by simp))).put (by simp)), B4.put nD, cs ++ [c], ?_, by simp [hl], by simp⟩
    intro y hy
    rcases List.mem_append.mp hy with hy | hy
    · exact hcs y hy
    · rw [List.mem_singleton.mp hy]; exact hc2
  · rintro H2 ⟨acc, e, kp, Bi, cs, hcs, hl, rfl⟩
    walk_at "u"
    refine s_join (ys := cs.map fun c => ⟨#[c]⟩) (by rw [List.map_map]; exact e) ?_ ?_
    · rw [ones_len, List.length_map, show (Str.ofString "").length = 0 by decide +kernel]
      omega
    have hS : SS (Txt.join (Str.ofString "") (cs.map fun c => ⟨#[c]⟩)) 9 := (SS.ones hcs).mono (by omega)
    generalize Txt.join (Str.ofString "") (cs.map fun c => ⟨#[c]⟩) = z at hS ⊢
    have kp1 : Kp [p] H H2 := (kp.mono (qs := [D, p]) (by simp)).drop fD
    walk_at "u"
    refine c_take Bi (by omega) (by decide) (by decide) fun d2 H3 d20 d21 B3 k3 => ?_
    have kp3 := kp1.trans k3
    walk_at "u"
    refine s_ite (fun h1 => ?_) (fun h1 => ?_)
    · walk_at "u"
      refine s_lens (zle (by have := hS.len; omega)) ?_
      walk_at "u"
      have hz := hS.len
      refine c_take B3 (by omega) (by omega) (by omega) fun d4 H4 d40 d41 B4 k4 => ?_
      have kp4 := kp3.trans k4
      walk_at "u"
      refine s_sp0 ?_
      walk_at "u"
      refine s_adds (by decide +kernel) ?_
      walk_at "u"
      refine c_take B4 (by omega) (by decide) (by decide) fun d5 H5 d50 d51 B5 k5 => ?_
      have kp5 := kp4.trans k5
      obtain ⟨c, hc, hc2, _⟩ := signs_ss.at d50 (by rw [signs_len]; exact d51)
      refine s_ixs (by rw [signs_len]; decide) hc ?_
      walk_at "u"
      refine s_sls (zle (by omega)) ?_
      walk_at "u"
      have S1 : SS (cutS z none (some d4)) 9 := hS.cut
      refine s_adds (zle (by have := S1.len; simp [Str.length] at this ⊢; omega)) ?_
      walk_at "u"
      refine c_take B5 (by omega) (by decide) (by decide) fun d6 H6 d60 d61 B6 k6 => ?_
      have kp6 := kp5.trans k6
      walk_at "u"
      refine s_sls (zle (by omega)) ?_
      walk_at "u"
      have S2 : SS (cutS z (some (d4 + d6)) none) 9 := hS.cut
      have S3 := (S1.app (SS.one hc2)).app S2
      refine s_adds (zle ?_) ?_
      · have := S3.len
        rw [Str.length_append] at this
        omega
      walk_at "u"
      exact k _ _ (S3.mono (by decide)) (B6.more (by omega)) kp6
    · walk_at "u"
      exact k _ _ (hS.mono (by decide)) (B3.more (by omega)) kp3
/-- the things -/
def Thing (H : Hp) (v : V) : Prop := ∃ t, TyN H v t ∧ Small v
def sp_law_things : Sp := sp3 fun x y z H Q _ => ∃ (p : Addr) (n : Nat) (lo hi : Int), x = .ref p ∧ y = .int lo ∧ z = .int hi ∧ Box H p n ∧ n ≤ 800000 ∧ lo.natAbs < 10 ^ 40 ∧
  ∀ (l : Addr) (vs : List V) (H' : Hp), H' l = some (.lst vs) → vs.length ≤ 4 → (∀ v ∈ vs, Thing H' v) → Kp [p] H H' → Q (.ref l) H'
theorem Thing.kp {H H' : Hp} {v : V} (h : Thing H v) (k : Kp [] H H') : Thing H' v := by
  obtain ⟨t, h1, h2⟩ := h
  exact ⟨t, h1.kp k, h2⟩
theorem Thing.kp1 {H H' : Hp} {v : V} {p : Addr} {n : Nat} (h : Thing H v) (k : Kp [p] H H') (hp : v ≠ .ref p) : Thing H' v := by
  obtain ⟨t, h1, h2⟩ := h
  refine ⟨t, ?_, h2⟩
  cases h1 with
  | non => exact .non
  | bl => exact .bl
  | int => exact .int
  | str => exact .str
  | lst e => exact .lst (k.get1 e fun z => hp (by rw [z]))
  | tup e => exact .tup (k.get1 e fun z => hp (by rw [z]))
  | dic e => exact .dic (k.get1 e fun z => hp (by rw [z]))
set_option maxHeartbeats 16000000 in
theorem ok_law_things (T : Tx K mg) (hs : ∃ mm, base.Ns sysModules mm) : FnG P w K mg base CX0 3 T.a_law_things T.d_law_things ["_law_box_here", "_law_low", "_law_high"] (sp_law_things) := by
  have G_law_take := ok_law_take (P := P) (w := w) (base := base) T hs
  have G_law_text := ok_law_text (P := P) (w := w) (base := base) T hs
  refine okG0 T.F_law_things sc_law_things (fun vs H Q E h => ?_) (fun cd A o s H vs Q E hg hr h => ?_)
  · obtain ⟨v0, v1, v2, rfl, h⟩ := h; rfl
  obtain ⟨v0, v1, v2, rfl, h⟩ := h
  obtain ⟨p, n, lo, hi, rfl, rfl, rfl, hB, hn, hlo, k⟩ := h
  refine ⟨_, (pss_cons (ps_set (i := 3) sc_law_things.nd rfl (Or.inl rfl) (pe_go G_law_take hg (hr.mono (by decide)) rfl T.m_law_take T.F_law_take.kp T.B_law_take pass0 (pa_cons (pv 0) (pa_cons (pe_op o_pow pe_int pe_int) pa_nil))))
    (pss_cons (ps_set (i := 4) sc_law_things.nd rfl (Or.inl rfl) (pe_go G_law_text hg (hr.mono (by decide)) rfl T.m_law_text T.F_law_text.kp T.B_law_text pass0 (pa_cons (pv 0) pa_nil)))
    (pss_cons (ps_set (i := 5) sc_law_things.nd rfl (Or.inl rfl) (pe_lst (pa_cons (pv 1) (pa_cons (pv 2) (pa_cons (pe_op o_sub (pv 1) pe_int) (pa_cons (pe_op (o_add (K := K) rfl) (pv 2) pe_int) (pa_cons (pe_op o_div (pe_op (o_add (K := K) rfl) (pv 1) (pv 2)) pe_int) (pa_cons (pv 3) (pa_cons (pe_op o_sub pe_int (pv 3)) (pa_cons pe_int (pa_cons pe_int pa_nil)))))))))))
    (pss_cons (ps_set (i := 6) sc_law_things.nd rfl (Or.inl rfl) (pe_lst (pa_cons pe_non (pa_cons pe_bl (pa_cons pe_bl (pa_cons (pv 4) (pa_cons (pe_lst (pa_cons (pv 4) pa_nil)) (pa_cons (pe_tup (pa_cons (pv 1) pa_nil)) (pa_cons pe_dnewK (pa_cons (pe_callTy c_str rfl T.z_str bt_str (pa_cons (pv 1) pa_nil)) (pa_cons pe_str pa_nil)))))))))))
    (pss_cons (ps_set (i := 7) sc_law_things.nd rfl (Or.inl rfl) (pe_go G_law_take hg (hr.mono (by decide)) rfl T.m_law_take T.F_law_take.kp T.B_law_take pass0 (pa_cons (pv 0) (pa_cons pe_int pa_nil))))
    (pss_one (ps_ret (pe_lst (pa_cons (pe_ix (ix_u (K := K) rfl) (pv 5) (pv 7) (fun _ _ => rfl)) (pa_cons (pe_ix (ix_u (K := K) rfl) (pv 5) (pe_op o_mod (pe_op (o_add (K := K) rfl) (pe_op (o_add (K := K) rfl) (pv 7) pe_int) (pe_go G_law_take hg (hr.mono (by decide)) rfl T.m_law_take T.F_law_take.kp T.B_law_take pass0 (pa_cons (pv 0) (pa_cons pe_int pa_nil)))) pe_int) (fun _ _ => rfl)) (pa_cons (pe_ix (ix_u (K := K) rfl) (pv 6) (pe_go G_law_take hg (hr.mono (by decide)) rfl T.m_law_take T.F_law_take.kp T.B_law_take pass0 (pa_cons (pv 0) (pa_cons pe_int pa_nil))) (fun _ _ => rfl)) (pa_cons (pv 4) pa_nil)))))))))))), ?_⟩
  walk_at "u"
  refine c_take hB (by omega) (by decide) (by decide) fun d H1 d0 d1 B1 k1 => ?_
  walk_at "u"
  refine ⟨_, rfl, p, n + 1, rfl, B1, by omega, fun z H2 hz B2 k2 => ?_⟩
  have kp2 := k1.trans k2
  walk_at "u"
  walk_at "na"
  intro l1 H3 f1 e3 k3
  have B3 := B2.kp k3
  have kp3 := kp2.trans k3.nil
  walk_at "u"
  walk_at "na"
  intro l2 H4 f2 e4 k4
  walk_at "u"
  walk_at "na"
  intro l3 H5 f3 e5 k5
  walk_at "u"
  refine s_dnew fun l4 H6 f4 e6 k6 => ?_
  walk_at "u"
  refine s_str ?_ ?_
  · exact log2s (Nat.lt_of_lt_of_le hlo (by decide +kernel))
  walk_at "u"
  walk_at "na"
  intro l5 H7 f5 e7 k7
  have kk : Kp [] H3 H7 := ((k4.trans k5).trans k6).trans k7
  have B7 := B3.kp kk
  have kp7 := kp3.trans kk.nil
  have a1 := kk.get0 e3
  have a2 := (k5.trans (k6.trans k7)).get0 e4
  have a3 := (k6.trans k7).get0 e5
  have a4 := k7.get0 e6
  have n1 : l1 ≠ p := B2.ne f1
  have n2 : l2 ≠ p := B3.ne f2
  have n3 : l3 ≠ p := (B3.kp k4).ne f3
  have n4 : l4 ≠ p := (B3.kp (k4.trans k5)).ne f4
  have n5 : l5 ≠ p := (B3.kp ((k4.trans k5).trans k6)).ne f5
  have th7 : ∀ H', Kp [p] H7 H' → ∀ v ∈ [V.non, V.bl true, V.bl false, V.str z, V.ref l2, V.ref l3, V.ref l4, V.str (Str.ofString (toString lo)), V.str (Str.ofString "")], Thing H' v := by
    intro H' k' v hv
    simp only [List.mem_cons, List.mem_nil_iff, or_false] at hv
    rcases hv with rfl | rfl | rfl | rfl | rfl | rfl | rfl | rfl | rfl
    · exact ⟨_, .non, trivial⟩
    · exact ⟨_, .bl, trivial⟩
    · exact ⟨_, .bl, trivial⟩
    · exact ⟨_, .str, hz.mono (by decide)⟩
    · exact ⟨_, .lst (k'.get1 a2 n2), trivial⟩
    · exact ⟨_, .tup (k'.get1 a3 n3), trivial⟩
    · exact ⟨_, .dic (k'.get1 a4 n4), trivial⟩
    · exact ⟨_, .str, (SS.num (Nat.lt_of_lt_of_le hlo (by decide +kernel))).mono (by decide)⟩
    · exact ⟨_, .str, SS.mk' (by decide +kernel)⟩
  walk_at "u"
  refine c_take B7 (by omega) (by decide) (by decide) fun d8 H8 d80 d81 B8 k8 => ?_
  have kp8 := kp7.trans k8
  have b1 := k8.get1 a1 n1
  walk_at "u"
  obtain ⟨u1, g1, g2⟩ := at_int (xs := [V.int lo, V.int hi, V.int (lo - 1), V.int (hi + 1), V.int ((lo + hi) / 2), V.int d, V.int (0 - d), V.int 0, V.int 1]) d80 (by simpa using d81)
  refine s_ixl b1 g2 ?_
  walk_at "u"
  refine c_take B8 (by omega) (by decide) (by decide) fun d9 H9 d90 d91 B9 k9 => ?_
  have kp9 := kp8.trans k9
  walk_at "u"
  obtain ⟨u2, g3, g4⟩ := at_int (xs := [V.int lo, V.int hi, V.int (lo - 1), V.int (hi + 1), V.int ((lo + hi) / 2), V.int d, V.int (0 - d), V.int 0, V.int 1]) (j := (d8 + 1 + d9) % 9) (Int.emod_nonneg _ (by decide)) (by simpa using Int.emod_lt_of_pos _ (by decide))
  refine s_ixl (k9.get1 b1 n1) g4 ?_
  walk_at "u"
  refine c_take B9 (by omega) (by decide) (by decide) fun d10 H10 d100 d101 B10 k10 => ?_
  have kp10 := kp9.trans k10
  obtain ⟨u3, g5, g6⟩ := at_int (xs := [V.non, V.bl true, V.bl false, V.str z, V.ref l2, V.ref l3, V.ref l4, V.str (Str.ofString (toString lo)), V.str (Str.ofString "")]) d100 (by simpa using d101)
  refine s_ixl (k10.get1 (k9.get1 (k8.get1 e7 n5) n5) n5) g6 ?_
  walk_at "u"
  walk_at "na"
  intro l H11 f11 e11 k11
  have hint : ∀ u ∈ [V.int lo, V.int hi, V.int (lo - 1), V.int (hi + 1), V.int ((lo + hi) / 2), V.int d, V.int (0 - d), V.int 0, V.int 1], Thing H11 u := by
    intro u hu
    simp only [List.mem_cons, List.mem_nil_iff, or_false] at hu
    rcases hu with rfl | rfl | rfl | rfl | rfl | rfl | rfl | rfl | rfl <;> exact ⟨_, .int, trivial⟩
  refine k l _ H11 e11 (by simp) ?_ (kp10.trans k11.nil)
  intro v hv
  simp only [List.mem_cons, List.mem_nil_iff, or_false] at hv
  rcases hv with rfl | rfl | rfl | rfl
  · exact hint _ (List.mem_of_getElem? g1)
  · exact hint _ (List.mem_of_getElem? g3)
  · exact (th7 _ ((k8.trans k9).trans k10) _ (List.mem_of_getElem? g5)).kp k11
  · exact ⟨_, .str, hz.mono (by decide)⟩
theorem whole_read {K : PySem.W.Frag} {σ : L2.St} {H : Hp} {Q : VK} {v : V} {lo hi : Int} {t : Kd} (h5 : σ[5]? = some (some v)) (h3 : σ[3]? = some (some (.int lo))) (h4 : σ[4]? = some (some (.int hi))) (ht : TyN H v t) (q : Q (.bl (isWhole v lo hi)) H) :
    tAndV (tCB (rIsi K) (tCons (tVar 5) (tCons (tC (V.ty "int")) tNil))) (tAndV (tNotV (tCB (rIsi K) (tCons (tVar 5) (tCons (tC (V.ty "bool")) tNil)))) (tChain uLe uLe (tVar 3) (tVar 5) (tVar 4))) σ H Q := by
  refine s_andV (s_cb (s_cons (s_var h5 (s_cons (s_c (s_nil ?_))))))
  cases ht
  all_goals
    walk_at "u"
    try exact q
  all_goals refine s_var h5 ?_
  all_goals walk_at "u"
  all_goals try exact q
  refine s_var h3 (s_var h5 ?_)
  walk_at "u"
  rename_i i
  refine s_ite (fun h1 => ?_) (fun h1 => ?_)
  · refine s_var h4 ?_
    walk_at "u"
    have e : isWhole (V.int i) lo hi = (decide (lo ≤ i) && decide (i ≤ hi)) := rfl
    rw [e, decide_eq_true h1, Bool.true_and] at q
    exact q
  · have e : isWhole (V.int i) lo hi = (decide (lo ≤ i) && decide (i ≤ hi)) := rfl
    rw [e, decide_eq_false h1, Bool.false_and] at q
    exact q
def sp_law (K : PySem.W.Frag) : Sp := sp1 fun x H Q _ => ∃ (a : Addr) (ns : List Int), x = .ref a ∧ SqL K H a (ns.map V.int) ∧ ns.length ≤ 63 ∧ ∀ H', Q (.bl true) H'
set_option maxHeartbeats 16000000 in
theorem ok_law (T : Tx K mg) (hs : ∃ mm, base.Ns sysModules mm) : FnG P w K mg base CX0 4 T.a_law T.d_law ["_law_script"] (sp_law K) := by
  have G_law_box := ok_law_box (P := P) (w := w) (base := base) T hs
  have G_law_things := ok_law_things (P := P) (w := w) (base := base) T hs
  have G_law_cell := ok_law_cell (P := P) (w := w) (base := base) T hs
  have G_law_take := ok_law_take (P := P) (w := w) (base := base) T hs
  have G_is_whole := ok_is_whole (P := P) (w := w) (base := base) T hs
  have G_is_name := ok_is_name (P := P) (w := w) (base := base) T hs
  have G_law_is_name := ok_law_is_name (P := P) (w := w) (base := base) T hs
  refine okG0 T.F_law sc_law (fun vs H Q E h => ?_) (fun cd A o s H vs Q E hg hr h => ?_)
  · obtain ⟨v0, rfl, h⟩ := h; rfl
  obtain ⟨v0, rfl, h⟩ := h
  obtain ⟨a, ns, rfl, hS, hl, k⟩ := h
  refine ⟨_, (pss_cons (ps_for PassesOwn.never rfl (pi_range1 rfl T.z_range (pa_cons (pe_callB (c_max rfl) rfl T.z_max bt_max (pa_cons pe_int (pa_cons (pe_callB (c_min rfl) rfl T.z_min bt_min (pa_cons pe_int (pa_cons (pe_callB (c_len (K := K) rfl) rfl T.z_len bt_len (pa_cons (pv 0) pa_nil)) pa_nil))) pa_nil))) pa_nil)) (pg_name (i := 1) sc_law.nd rfl (Or.inl rfl))
    (pss_cons (ps_set (i := 2) sc_law.nd rfl (Or.inl rfl) (pe_go G_law_box hg (hr.mono (by decide)) rfl T.m_law_box T.F_law_box.kp T.B_law_box pass0 (pa_cons (pe_go G_law_cell hg (hr.mono (by decide)) rfl T.m_law_cell T.F_law_cell.kp T.B_law_cell pass0 (pa_cons (pv 0) (pa_cons (pv 1) pa_nil))) pa_nil)))
    (pss_cons (ps_set (i := 3) sc_law.nd rfl (Or.inl rfl) (pe_ix (ix_u (K := K) rfl) (pe_lst (pa_cons (pe_op o_sub (pe_go G_law_take hg (hr.mono (by decide)) rfl T.m_law_take T.F_law_take.kp T.B_law_take pass0 (pa_cons (pv 2) (pa_cons pe_int pa_nil))) pe_int) (pa_cons (pe_op o_sub (pe_go G_law_take hg (hr.mono (by decide)) rfl T.m_law_take T.F_law_take.kp T.B_law_take pass0 (pa_cons (pv 2) (pa_cons (pe_op o_pow pe_int pe_int) pa_nil))) (pe_op o_mul pe_int (pe_op o_pow pe_int pe_int))) pa_nil))) (pe_go G_law_take hg (hr.mono (by decide)) rfl T.m_law_take T.F_law_take.kp T.B_law_take pass0 (pa_cons (pv 2) (pa_cons pe_int pa_nil))) (fun _ _ => rfl)))
    (pss_cons (ps_set (i := 4) sc_law.nd rfl (Or.inl rfl) (pe_op (o_add (K := K) rfl) (pv 3) (pe_ix (ix_u (K := K) rfl) (pe_lst (pa_cons (pe_op o_sub (pe_go G_law_take hg (hr.mono (by decide)) rfl T.m_law_take T.F_law_take.kp T.B_law_take pass0 (pa_cons (pv 2) (pa_cons pe_int pa_nil))) pe_int) (pa_cons (pe_go G_law_take hg (hr.mono (by decide)) rfl T.m_law_take T.F_law_take.kp T.B_law_take pass0 (pa_cons (pv 2) (pa_cons (pe_op o_pow pe_int pe_int) pa_nil))) pa_nil))) (pe_go G_law_take hg (hr.mono (by decide)) rfl T.m_law_take T.F_law_take.kp T.B_law_take pass0 (pa_cons (pv 2) (pa_cons pe_int pa_nil))) (fun _ _ => rfl))))
    (pss_one (ps_for PassesOwn.never rfl (pi_lst (K := K) rfl (pe_go G_law_things hg (hr.mono (by decide)) rfl T.m_law_things T.F_law_things.kp T.B_law_things pass0 (pa_cons (pv 2) (pa_cons (pv 3) (pa_cons (pv 4) pa_nil))))) (pg_name (i := 5) sc_law.nd rfl (Or.inl rfl))
    (pss_cons (ps_set (i := 6) sc_law.nd rfl (Or.inl rfl) (pe_and (pe_callB (c_isi (K := K) rfl) rfl T.z_isinstance bt_isinstance (pa_cons (pv 5) (pa_cons (pe_ty rfl T.z_int bt_int) pa_nil))) (pe_and (pe_not (pe_callB (c_isi (K := K) rfl) rfl T.z_isinstance bt_isinstance (pa_cons (pv 5) (pa_cons (pe_ty rfl T.z_bool bt_bool) pa_nil)))) (pe_one (pe_chain o_le o_le (pv 3) (pv 5) (pv 4))))))
    (pss_one (ps_if (pt_cmpR (o_ne (K := K) rfl hr) (pe_callB (c_repr (K := K) rfl hg hr hs) rfl T.z_repr bt_repr (pa_cons (pe_lst (pa_cons (pe_go G_is_whole hg (hr.mono (by decide)) rfl T.m_is_whole T.F_is_whole.kp T.B_is_whole pass0 (pa_cons (pv 5) (pa_cons (pv 3) (pa_cons (pv 4) pa_nil)))) (pa_cons (pe_go G_is_name hg (hr.mono (by decide)) rfl T.m_is_name T.F_is_name.kp T.B_is_name pass0 (pa_cons (pv 5) pa_nil)) pa_nil))) pa_nil)) (pe_callB (c_repr (K := K) rfl hg hr hs) rfl T.z_repr bt_repr (pa_cons (pe_lst (pa_cons (pv 6) (pa_cons (pe_go G_law_is_name hg (hr.mono (by decide)) rfl T.m_law_is_name T.F_law_is_name.kp T.B_law_is_name pass0 (pa_cons (pv 5) pa_nil)) pa_nil))) pa_nil)) (nomark _))
    (pss_one (ps_ret pe_bl))
    pss_nil)))))))))
    (pss_one (ps_ret pe_bl))), ?_⟩
  walk_at "u"
  refine s_lenL hS ?_
  walk_at "u"
  rw [List.length_map]
  have hj : ∃ j : Nat, (if (if (ns.length : Int) < 30 then (ns.length : Int) else 30) > 2 then if (ns.length : Int) < 30 then (ns.length : Int) else 30 else 2) = (j : Int) ∧ j ≤ 30 := by
    refine ⟨(if (if (ns.length : Int) < 30 then (ns.length : Int) else 30) > 2 then if (ns.length : Int) < 30 then (ns.length : Int) else 30 else 2).toNat, ?_, ?_⟩ <;> (split <;> split <;> omega)
  obtain ⟨j, ej, hj⟩ := hj
  rw [ej]
  refine s_rng (by omega) (by omega) ?_
  rw [Int.toNat_natCast]
  refine for_it walk_range (fun i σ H' => Kp [] H H' ∧ ∃ u1 u2 u3 u4 u5 u6, σ = [some (.ref a), u1, u2, u3, u4, u5, u6]) ⟨Kp.refl, none, none, none, none, none, none, rfl⟩ (fun _ _ _ _ _ => trivial) ?_ ?_
  · rintro i x σ H1 H2 hi ⟨k1, u1, u2, u3, u4, u5, u6, rfl⟩ ⟨rfl, rfl⟩
    walk_at "u"
    refine ⟨_, _, rfl, a, ns, _, rfl, rfl, k1.sql hS, by omega, by omega, fun c => ?_⟩
    walk_at "u"
    refine ⟨_, rfl, c, rfl, fun p fp H3 k3 B3 => ?_⟩
    have kp3 : Kp [p] _ H3 := k3.nil
    walk_at "u"
    refine c_take B3 (by omega) (by decide) (by decide) fun d4 H4 d40 d41 B4 k4 => ?_
    walk_at "u"
    refine c_take B4 (by omega) (by decide) (by decide) fun d5 H5 d50 d51 B5 k5 => ?_
    walk_at "u"
    walk_at "na"
    intro l6 H6 f6 e6 k6
    have B6 := B5.kp k6
    walk_at "u"
    refine c_take B6 (by omega) (by decide) (by decide) fun d7 H7 d70 d71 B7 k7 => ?_
    have n6 := B5.ne f6
    obtain ⟨lo, elo, hlo⟩ : ∃ lo : Int, atI [V.int (d4 - 4), V.int (d5 - 5 * 10000000000000000000000000000)] d7 = some (.int lo) ∧ lo.natAbs < 10 ^ 40 := by
      have : d7 = 0 ∨ d7 = 1 := by omega
      rcases this with rfl | rfl
      · exact ⟨_, rfl, by omega⟩
      · exact ⟨_, rfl, by omega⟩
    refine s_ixl (k7.get1 e6 n6) elo ?_
    walk_at "u"
    refine c_take B7 (by omega) (by decide) (by decide) fun d8 H8 d80 d81 B8 k8 => ?_
    walk_at "u"
    refine c_take B8 (by omega) (by decide) (by decide) fun d9 H9 d90 d91 B9 k9 => ?_
    walk_at "u"
    walk_at "na"
    intro l10 H10 f10 e10 k10
    have B10 := B9.kp k10
    have n10 := B9.ne f10
    walk_at "u"
    refine c_take B10 (by omega) (by decide) (by decide) fun d11 H11 d110 d111 B11 k11 => ?_
    obtain ⟨dh, edh⟩ : ∃ dh : Int, atI [V.int (d8 - 3), V.int d9] d11 = some (.int dh) := by
      have : d11 = 0 ∨ d11 = 1 := by omega
      rcases this with rfl | rfl
      · exact ⟨_, rfl⟩
      · exact ⟨_, rfl⟩
    refine s_ixl (k11.get1 e10 n10) edh ?_
    walk_at "u"
    refine ⟨_, _, _, rfl, p, _, lo, lo + dh, rfl, rfl, rfl, B11, by omega, hlo, fun l vs H12 e12 h12 t12 k12 => ?_⟩
    have kk : Kp [p] _ H12 := (((((((kp3.trans k4).trans k5).trans k6.nil).trans k7).trans k8).trans k9).trans k10.nil).trans (k11.trans k12)
    have kk1 : Kp [] H H12 := k1.trans (kk.drop fp)
    refine s_ilst (SqL.of e12) ?_
    refine for_it (walk_list (xs := vs)) (fun i' σ H' => Kp [] H12 H' ∧ ∃ u5 u6, σ = [some (.ref a), some (.int (0 + (i : Int))), some (.ref p), some (.int lo), some (.int (lo + dh)), u5, u6]) ⟨Kp.refl, _, _, rfl⟩ (fun _ _ _ _ h => SqL.of (h.1.get0 e12)) ?_ ?_
    · rintro i' v σ H13 H14 hi' ⟨k13, u5', u6', rfl⟩ ⟨rfl, ev⟩
      obtain ⟨t, ht, hsm⟩ := (t12 v (List.mem_of_getElem? ev)).kp k13
      walk_at "u1"
      walk_at "u1"
      walk_at "u1"
      refine whole_read rfl rfl rfl ht ?_
      walk_at "u"
      refine ⟨_, _, _, rfl, lo, lo + dh, t, rfl, rfl, ht, ?_⟩
      walk_at "u"
      refine ⟨_, rfl, t, ht, hsm, fun H15 k15 => ?_⟩
      walk_at "u"
      walk_at "na"
      intro l16 H16 f16 e16 k16
      refine ⟨_, .list [.bool (isWhole v lo (lo + dh)), .bool (isName v)], rfl, .lst (Or.inl e16) (.cons (.bl _) (.cons (.bl _) .nil)), by simp [good, goodA], by simp [PyData.depth, PyData.depthAll], by simp [sz, szA], ?_⟩
      walk_at "u"
      refine ⟨_, rfl, t, (ht.kp k15).kp k16, hsm, fun H17 k17 => ?_⟩
      walk_at "u"
      walk_at "na"
      intro l18 H18 f18 e18 k18
      refine ⟨_, .list [.bool (isWhole v lo (lo + dh)), .bool (isName v)], rfl, .lst (Or.inl e18) (.cons (.bl _) (.cons (.bl _) .nil)), by simp [good, goodA], by simp [PyData.depth, PyData.depthAll], by simp [sz, szA], ?_⟩
      walk_at "u"
      refine s_itn (fun h => absurd rfl h) fun _ => ?_
      walk_at "u"
      exact ⟨(((k13.trans k15).trans k16).trans k17).trans k18, _, _, rfl⟩
    · rintro σ H13 ⟨k13, u5', u6', rfl⟩
      exact ⟨kk1.trans k13, _, _, _, _, _, _, rfl⟩
  · rintro σ H1 ⟨k1, u1, u2, u3, u4, u5, u6, rfl⟩
    walk_at "u"
    exact k H1
theorem all_mk {l : PySem.W.OpenLaw} {w : World} {K : PySem.W.Frag} {h : Heap} {mg : Str → Option Value} {fa : Addr} (X : K.In h) (G : h.Ns mainGlobals mg) (hfa : mg "law" = some (.ref fa))
    {f1 : Addr} {od1 an1 : Option Addr} {sl1 : Array (Option Value)} {oc1 kV1 dc1 pm1 cd1 ct1 : Value}
    (a1 : PySem.W.nsIn K mainGlobals "is_whole" = some (some (.ref f1))) (l1 : K.lookup f1 = some ⟨oc1, od1, .func (PySem.W.fnOf "is_whole" "is_whole" (defArgs s_is_whole) (defBody s_is_whole) (defScope s_is_whole) .none kV1 dc1 pm1 an1 cd1 ct1), sl1⟩) (c1 : PySem.W.codeIn K cd1 "is_whole" = true) (k1 : PySem.W.keepIn K (.ref f1) = true)
    {f2 : Addr} {od2 an2 : Option Addr} {sl2 : Array (Option Value)} {oc2 kV2 dc2 pm2 cd2 ct2 : Value}
    (a2 : PySem.W.nsIn K mainGlobals "is_name" = some (some (.ref f2))) (l2 : K.lookup f2 = some ⟨oc2, od2, .func (PySem.W.fnOf "is_name" "is_name" (defArgs s_is_name) (defBody s_is_name) (defScope s_is_name) .none kV2 dc2 pm2 an2 cd2 ct2), sl2⟩) (c2 : PySem.W.codeIn K cd2 "is_name" = true) (k2 : PySem.W.keepIn K (.ref f2) = true)
    {f3 : Addr} {od3 an3 : Option Addr} {sl3 : Array (Option Value)} {oc3 kV3 dc3 pm3 cd3 ct3 : Value}
    (a3 : PySem.W.nsIn K mainGlobals "_law_cell" = some (some (.ref f3))) (l3 : K.lookup f3 = some ⟨oc3, od3, .func (PySem.W.fnOf "_law_cell" "_law_cell" (defArgs s_law_cell) (defBody s_law_cell) (defScope s_law_cell) .none kV3 dc3 pm3 an3 cd3 ct3), sl3⟩) (c3 : PySem.W.codeIn K cd3 "_law_cell" = true) (k3 : PySem.W.keepIn K (.ref f3) = true)
    {f4 : Addr} {od4 an4 : Option Addr} {sl4 : Array (Option Value)} {oc4 kV4 dc4 pm4 cd4 ct4 : Value}
    (a4 : PySem.W.nsIn K mainGlobals "_law_box" = some (some (.ref f4))) (l4 : K.lookup f4 = some ⟨oc4, od4, .func (PySem.W.fnOf "_law_box" "_law_box" (defArgs s_law_box) (defBody s_law_box) (defScope s_law_box) .none kV4 dc4 pm4 an4 cd4 ct4), sl4⟩) (c4 : PySem.W.codeIn K cd4 "_law_box" = true) (k4 : PySem.W.keepIn K (.ref f4) = true)
    {f5 : Addr} {od5 an5 : Option Addr} {sl5 : Array (Option Value)} {oc5 kV5 dc5 pm5 cd5 ct5 : Value}
    (a5 : PySem.W.nsIn K mainGlobals "_law_take" = some (some (.ref f5))) (l5 : K.lookup f5 = some ⟨oc5, od5, .func (PySem.W.fnOf "_law_take" "_law_take" (defArgs s_law_take) (defBody s_law_take) (defScope s_law_take) .none kV5 dc5 pm5 an5 cd5 ct5), sl5⟩) (c5 : PySem.W.codeIn K cd5 "_law_take" = true) (k5 : PySem.W.keepIn K (.ref f5) = true)
    {f6 : Addr} {od6 an6 : Option Addr} {sl6 : Array (Option Value)} {oc6 kV6 dc6 pm6 cd6 ct6 : Value}
    (a6 : PySem.W.nsIn K mainGlobals "_law_signs" = some (some (.ref f6))) (l6 : K.lookup f6 = some ⟨oc6, od6, .func (PySem.W.fnOf "_law_signs" "_law_signs" (defArgs s_law_signs) (defBody s_law_signs) (defScope s_law_signs) .none kV6 dc6 pm6 an6 cd6 ct6), sl6⟩) (c6 : PySem.W.codeIn K cd6 "_law_signs" = true) (k6 : PySem.W.keepIn K (.ref f6) = true)
    {f7 : Addr} {od7 an7 : Option Addr} {sl7 : Array (Option Value)} {oc7 kV7 dc7 pm7 cd7 ct7 : Value}
    (a7 : PySem.W.nsIn K mainGlobals "_law_text" = some (some (.ref f7))) (l7 : K.lookup f7 = some ⟨oc7, od7, .func (PySem.W.fnOf "_law_text" "_law_text" (defArgs s_law_text) (defBody s_law_text) (defScope s_law_text) .none kV7 dc7 pm7 an7 cd7 ct7), sl7⟩) (c7 : PySem.W.codeIn K cd7 "_law_text" = true) (k7 : PySem.W.keepIn K (.ref f7) = true)
    {f8 : Addr} {od8 an8 : Option Addr} {sl8 : Array (Option Value)} {oc8 kV8 dc8 pm8 cd8 ct8 : Value}
    (a8 : PySem.W.nsIn K mainGlobals "_law_is_name" = some (some (.ref f8))) (l8 : K.lookup f8 = some ⟨oc8, od8, .func (PySem.W.fnOf "_law_is_name" "_law_is_name" (defArgs s_law_is_name) (defBody s_law_is_name) (defScope s_law_is_name) .none kV8 dc8 pm8 an8 cd8 ct8), sl8⟩) (c8 : PySem.W.codeIn K cd8 "_law_is_name" = true) (k8 : PySem.W.keepIn K (.ref f8) = true)
    {f9 : Addr} {od9 an9 : Option Addr} {sl9 : Array (Option Value)} {oc9 kV9 dc9 pm9 cd9 ct9 : Value}
    (a9 : PySem.W.nsIn K mainGlobals "_law_things" = some (some (.ref f9))) (l9 : K.lookup f9 = some ⟨oc9, od9, .func (PySem.W.fnOf "_law_things" "_law_things" (defArgs s_law_things) (defBody s_law_things) (defScope s_law_things) .none kV9 dc9 pm9 an9 cd9 ct9), sl9⟩) (c9 : PySem.W.codeIn K cd9 "_law_things" = true) (k9 : PySem.W.keepIn K (.ref f9) = true)
    {f10 : Addr} {od10 an10 : Option Addr} {sl10 : Array (Option Value)} {oc10 kV10 dc10 pm10 cd10 ct10 : Value}
    (a10 : PySem.W.nsIn K mainGlobals "law" = some (some (.ref f10))) (l10 : K.lookup f10 = some ⟨oc10, od10, .func (PySem.W.fnOf "law" "law" (defArgs s_law) (defBody s_law) (defScope s_law) .none kV10 dc10 pm10 an10 cd10 ct10), sl10⟩) (c10 : PySem.W.codeIn K cd10 "law" = true) (k10 : PySem.W.keepIn K (.ref f10) = true)
    {u_LONGEST : Value} (g_LONGEST : PySem.W.nsIn K mainGlobals "LONGEST" = some (some u_LONGEST)) (r_LONGEST : RelV (V.int 6) u_LONGEST)
    {u_LETTERS : Value} (g_LETTERS : PySem.W.nsIn K mainGlobals "LETTERS" = some (some u_LETTERS)) (r_LETTERS : RelV (V.str "abcdefghijklmnopqrstuvwxyz") u_LETTERS)
    (z_all : PySem.W.nsIn K mainGlobals "all" = some none)
    (z_bool : PySem.W.nsIn K mainGlobals "bool" = some none)
    (z_int : PySem.W.nsIn K mainGlobals "int" = some none)
    (z_isinstance : PySem.W.nsIn K mainGlobals "isinstance" = some none)
    (z_len : PySem.W.nsIn K mainGlobals "len" = some none)
    (z_max : PySem.W.nsIn K mainGlobals "max" = some none)
    (z_min : PySem.W.nsIn K mainGlobals "min" = some none)
    (z_range : PySem.W.nsIn K mainGlobals "range" = some none)
    (z_repr : PySem.W.nsIn K mainGlobals "repr" = some none)
    (z_str : PySem.W.nsIn K mainGlobals "str" = some none) :
    ∃ fd : FuncData, (∀ (s : Shared) (v : Value), BindsTo s fd ⟨[v], []⟩ [("_law_script", v)]) ∧ ∀ base : Heap, K.In base → base.Ns mainGlobals mg → (∃ mm, base.Ns sysModules mm) → FnG l.prog w K mg base CX0 4 fa fd ["_law_script"] (sp_law K) := by
  have e : fa = f10 := by
    have z := hfa.symm.trans (PySem.W.mg_of X G a10)
    injection z with z; injection z
  let T : Tx K mg := {
    a_is_whole := f1, d_is_whole := _, F_is_whole := fun_mk (st := s_is_whole) l1 c1 k1, B_is_whole := (fun_mk (st := s_is_whole) l1 c1 k1).binds (ps := ["thing", "low", "high"]) (fun _ _ _ _ _ _ us hl => match us, hl with | [_, _, _], _ => rfl), m_is_whole := PySem.W.mg_of X G a1,
    a_is_name := f2, d_is_name := _, F_is_name := fun_mk (st := s_is_name) l2 c2 k2, B_is_name := (fun_mk (st := s_is_name) l2 c2 k2).binds (ps := ["thing"]) (fun _ _ _ _ _ _ us hl => match us, hl with | [_], _ => rfl), m_is_name := PySem.W.mg_of X G a2,
    a_law_cell := f3, d_law_cell := _, F_law_cell := fun_mk (st := s_law_cell) l3 c3 k3, B_law_cell := (fun_mk (st := s_law_cell) l3 c3 k3).binds (ps := ["_law_script", "_law_k"]) (fun _ _ _ _ _ _ us hl => match us, hl with | [_, _], _ => rfl), m_law_cell := PySem.W.mg_of X G a3,
    a_law_box := f4, d_law_box := _, F_law_box := fun_mk (st := s_law_box) l4 c4 k4, B_law_box := (fun_mk (st := s_law_box) l4 c4 k4).binds (ps := ["_law_cell_here"]) (fun _ _ _ _ _ _ us hl => match us, hl with | [_], _ => rfl), m_law_box := PySem.W.mg_of X G a4,
    a_law_take := f5, d_law_take := _, F_law_take := fun_mk (st := s_law_take) l5 c5 k5, B_law_take := (fun_mk (st := s_law_take) l5 c5 k5).binds (ps := ["_law_box_here", "_law_many"]) (fun _ _ _ _ _ _ us hl => match us, hl with | [_, _], _ => rfl), m_law_take := PySem.W.mg_of X G a5,
    a_law_signs := f6, d_law_signs := _, F_law_signs := fun_mk (st := s_law_signs) l6 c6 k6, B_law_signs := (fun_mk (st := s_law_signs) l6 c6 k6).binds (ps := []) (fun _ _ _ _ _ _ us hl => match us, hl with | [], _ => rfl), m_law_signs := PySem.W.mg_of X G a6,
    a_law_text := f7, d_law_text := _, F_law_text := fun_mk (st := s_law_text) l7 c7 k7, B_law_text := (fun_mk (st := s_law_text) l7 c7 k7).binds (ps := ["_law_box_here"]) (fun _ _ _ _ _ _ us hl => match us, hl with | [_], _ => rfl), m_law_text := PySem.W.mg_of X G a7,
    a_law_is_name := f8, d_law_is_name := _, F_law_is_name := fun_mk (st := s_law_is_name) l8 c8 k8, B_law_is_name := (fun_mk (st := s_law_is_name) l8 c8 k8).binds (ps := ["_law_thing"]) (fun _ _ _ _ _ _ us hl => match us, hl with | [_], _ => rfl), m_law_is_name := PySem.W.mg_of X G a8,
    a_law_things := f9, d_law_things := _, F_law_things := fun_mk (st := s_law_things) l9 c9 k9, B_law_things := (fun_mk (st := s_law_things) l9 c9 k9).binds (ps := ["_law_box_here", "_law_low", "_law_high"]) (fun _ _ _ _ _ _ us hl => match us, hl with | [_, _, _], _ => rfl), m_law_things := PySem.W.mg_of X G a9,
    a_law := f10, d_law := _, F_law := fun_mk (st := s_law) l10 c10 k10, B_law := (fun_mk (st := s_law) l10 c10 k10).binds (ps := ["_law_script"]) (fun _ _ _ _ _ _ us hl => match us, hl with | [_], _ => rfl), m_law := PySem.W.mg_of X G a10,
    c_LONGEST := u_LONGEST, mc_LONGEST := PySem.W.mg_of X G g_LONGEST, rc_LONGEST := r_LONGEST,
    c_LETTERS := u_LETTERS, mc_LETTERS := PySem.W.mg_of X G g_LETTERS, rc_LETTERS := r_LETTERS,
    z_all := PySem.W.mg_none_of X G z_all,
    z_bool := PySem.W.mg_none_of X G z_bool,
    z_int := PySem.W.mg_none_of X G z_int,
    z_isinstance := PySem.W.mg_none_of X G z_isinstance,
    z_len := PySem.W.mg_none_of X G z_len,
    z_max := PySem.W.mg_none_of X G z_max,
    z_min := PySem.W.mg_none_of X G z_min,
    z_range := PySem.W.mg_none_of X G z_range,
    z_repr := PySem.W.mg_none_of X G z_repr,
    z_str := PySem.W.mg_none_of X G z_str }
  rw [e]
  exact ⟨T.d_law, fun s v => .of_eq rfl, fun base _ _ hs => ok_law T hs⟩
theorem walk {l : PySem.W.OpenLaw} {q : Program} {lo : List Str} {XP : (Str → Option Value) → Heap → Prop} {YP : World → Heap → Prop} {d : DefRec} {K : Params → PySem.W.Frag} (hn : l.most = some 63) (hdf : d.params.defaults = []) (hi : PyProof.Rows.importsNone q = true)
    (hY : ∀ (w : World) (h : Heap), YP w h → (K w.params).In h)
    (F : ∀ (w : World) (mg : Str → Option Value) (fa : Addr) (h : Heap), (K w.params).In h → h.Ns mainGlobals mg → mg d.name = some (.ref fa) →
      ∃ fd : FuncData, (∀ (s : Shared) (u : Value), BindsTo s fd ⟨[u], []⟩ [("_law_script", u)]) ∧ ∀ base : Heap, (K w.params).In base → base.Ns mainGlobals mg → (∃ mm, base.Ns sysModules mm) → FnG l.prog w (K w.params) mg base CX0 4 fa fd ["_law_script"] (sp_law (K w.params))) :
    PySem.W.WalkO q lo XP YP l.row.toRowW d [] (fun f vs => PySem.call f vs) :=
  walkG (n := 63) (k := 4) (x := "_law_script") (cx := fun _ => CX0) (sp := fun w => sp_law (K w.params)) hn (by decide) hdf ⟨rfl, by decide, by decide⟩ hi hY F (fun _ _ a ns hl _ hS => ⟨_, rfl, a, ns, rfl, hS, hl, fun _ => rfl⟩) fun _ _ _ _ _ z => z
end K01
open PySem PySem.W PyProof.Rows
set_option maxRecDepth 100000 in
set_option maxHeartbeats 0 in
theorem PySem.Challenge.cw_onestaff_k01_words_of_anything_holds : PySem.Challenge.rw_onestaff_k01_words_of_anything.Holds := by
  w_on; o_law; k_head; (case hw => w_witness2)
  k_fill
  refine K01.walk (l := PySem.Challenge.rw_onestaff_k01_words_of_anything) rfl rfl rfl (fun w h Y => PySem.W.kIn_of Y) ?F
  case F =>
    intro w mg fa h KX G hmg
    refine' K01.all_mk KX G hmg ?a1 ?l1 ?c1 ?k1 ?a2 ?l2 ?c2 ?k2 ?a3 ?l3 ?c3 ?k3 ?a4 ?l4 ?c4 ?k4 ?a5 ?l5 ?c5 ?k5 ?a6 ?l6 ?c6 ?k6 ?a7 ?l7 ?c7 ?k7 ?a8 ?l8 ?c8 ?k8 ?a9 ?l9 ?c9 ?k9 ?a10 ?l10 ?c10 ?k10 ?g_LONGEST ?r_LONGEST ?g_LETTERS ?r_LETTERS ?z_all ?z_bool ?z_int ?z_isinstance ?z_len ?z_max ?z_min ?z_range ?z_repr ?z_str
    (case a1 => k_is)
    (case l1 => k_is)
    (case c1 => k_is)
    (case k1 => k_is)
    (case a2 => k_is)
    (case l2 => k_is)
    (case c2 => k_is)
    (case k2 => k_is)
    (case a3 => k_is)
    (case l3 => k_is)
    (case c3 => k_is)
    (case k3 => k_is)
    (case a4 => k_is)
    (case l4 => k_is)
    (case c4 => k_is)
    (case k4 => k_is)
    (case a5 => k_is)
    (case l5 => k_is)
    (case c5 => k_is)
    (case k5 => k_is)
    (case a6 => k_is)
    (case l6 => k_is)
    (case c6 => k_is)
    (case k6 => k_is)
    (case a7 => k_is)
    (case l7 => k_is)
    (case c7 => k_is)
    (case k7 => k_is)
    (case a8 => k_is)
    (case l8 => k_is)
    (case c8 => k_is)
    (case k8 => k_is)
    (case a9 => k_is)
    (case l9 => k_is)
    (case c9 => k_is)
    (case k9 => k_is)
    (case a10 => k_is)
    (case l10 => k_is)
    (case c10 => k_is)
    (case k10 => k_is)
    (case g_LONGEST => k_is)
    (case r_LONGEST => exact ⟨_, rfl⟩)
    (case g_LETTERS => k_is)
    (case r_LETTERS => exact ⟨_, rfl⟩)
    (case z_all => k_is)
    (case z_bool => k_is)
    (case z_int => k_is)
    (case z_isinstance => k_is)
    (case z_len => k_is)
    (case z_max => k_is)
    (case z_min => k_is)
    (case z_range => k_is)
    (case z_repr => k_is)
    (case z_str => k_is)
#print axioms PySem.Challenge.cw_onestaff_k01_words_of_anything_holds

