import PyProof.Rows.All
import Wide.All
import OpenK.AllK
import Wide.FinOn
import HandS.ForMost
import KE.RegKTryMore
import KE.RegKIsAll
import PyProof.ReprRoads
import HandS.EndBits
import PyProof.ReprBulk
import PyProof.StrLaws
import HandS.Wide
import HandS.IsInst
import HandS.TupAny
import HandS.Walk
import HandS.Small
import HandS.ForExc
import HandS.ExcInit
import HandS.ExcField
import HandS.ClsMeth
import HandS.Codes
import KE.KExcIs
import HandS.SortInts
import PyProof.P3Eq
import HandS.TupLe
import HandS.Defaults
import HandS.Iter
import KE.GoesEnum
import HandS.TryOnly
import HandS.Conv
import HandS.Sort
import PyProof.RangeFor
import PyProof.EqKinds
import HandS.Deep
import HandS.Text
import HandS.FStr
import HandS.Strs
import PyProof.StrLawsTight
import PySem.Challenge.RW_onestaff_k07_lines_as_texts
set_option Elab.async false
set_option linter.all false
set_option maxRecDepth 100000
set_option maxHeartbeats 4000000

namespace U
open PySem L2 PySem.Spec PyProof.Rows

/-! a def's promise where no repr is under way around it -/
section
variable (P : Program) (w : World) (K : PySem.W.Frag) (mg : Str → Option Value) (base : Heap)
structure FnG (cx : CXT) (k : Nat) (f : Addr) (fd : FuncData) (ps : List Str) (sp : Sp) : Prop where
  len : ∀ vs H Q E, sp vs H Q E → vs.length = ps.length
  run : ∀ (A : Around) (o : List Env) (s : Shared) (H : Hp) (ar : Args) (us : List Value) (vs : List V) (Q : VK) (E : XK),
    A.guards = some [] → Room k A → Env0 P w K mg base A o s H → BindsTo s fd ar (ps.zip us) → Vals vs us → sp vs H Q E →
    codeAny (model P w) A (.call (.ref f) ar) (CR cx o P w H s Q E) s
end
section
variable {P : Program} {w : World} {K : PySem.W.Frag} {mg : Str → Option Value} {base : Heap} {cx : CXT} {k : Nat} {f : Addr} {fd : FuncData} {ps : List Str} {sp : Sp}
theorem FnG.of (F : FnOk P w K mg base cx k f fd ps sp) : FnG P w K mg base cx k f fd ps sp :=
  ⟨F.len, fun A o s H ar us vs Q E _ => F.run A o s H ar us vs Q E⟩
theorem FnG.mono {j : Nat} (F : FnG P w K mg base cx j f fd ps sp) (h : j ≤ k) : FnG P w K mg base cx k f fd ps sp :=
  ⟨F.len, fun A o s H ar us vs Q E g r => F.run A o s H ar us vs Q E g (r.mono h)⟩

theorem fnG_of {nm ql : Str} {pr : Arguments} {bd : List Stmt} {sc : Scope} {dV kV dc pm cd ct oc : Value} {an od : Option Addr} {os : Array (Option Value)} {N : List Str}
    (lk : K.lookup f = some ⟨oc, od, .func (PySem.W.fnOf nm ql pr bd sc dV kV dc pm an cd ct), os⟩) (hc : PySem.W.codeIn K cd ql = true) (S : FnScope N ps sc)
    (len : ∀ vs H Q E, sp vs H Q E → vs.length = ps.length)
    (hb : ∀ (A : Around) (o : List Env) (s : Shared) (H : Hp) (vs : List V) (Q : VK) (E : XK), A.guards = some [] → Room k (A.deeper (envOfC ql sc s.heap.objs.size f cd)) → sp vs H Q E →
      ∃ t, PSs (cxOf cx P w K mg base N ql sc f cd A o s H E) bd t ∧ t { nx := fun _ H' => Q .non H', rt := Q } (start N vs) H) :
    FnG P w K mg base cx (k + 1) f (PySem.W.fnOf nm ql pr bd sc dV kV dc pm an cd ct) ps sp where
  len := len
  run := by
    intro A o s H ar us vs Q E hg hr e0 bi vv q
    have hl := len vs H Q E q
    have kp : ∀ b ob, base.get? b = some ob → s.heap.get? b = some ob := fun b ob e => (e0.bs b ob e).1
    have KX : K.In s.heap := e0.mod.kin.keeps kp
    have nl : s.heap.NoLimit := e0.mod.nolimit.keeps kp
    refine codeAny_call_function hr.depth (KX f _ lk) rfl S.co S.gen rfl (PySem.W.codeRec_of KX hc) (bi _ _ _ _ ?_)
    refine wpAny_newFunctionEnv_cells S.kind (fun y hy => ?_) fun ev he s1 x => ?_
    · obtain ⟨n, v⟩ := y
      rcases S.par n (List.of_mem_zip hy).1 with e | e
      · exact Or.inl e
      · exact Or.inr ⟨e, PySem.W.cellsFrom_some _ _ _ (Or.inl e)⟩
    · subst he
      obtain ⟨t, ht, z⟩ := hb A o s H vs Q E hg (hr.deeper _) q
      have J0 : Inv (cxOf cx P w K mg base N ql sc f cd A o s H E) [] (start N vs) H s1 := inv_start S hr.hd e0 hl vv x
      refine ⟨nl.keeps x.toInCall.keep, codeAny_func (wpAny_mono (ht.run [] s1 (start N vs) H _ J0 z) (fun fl s2 h2 => ?_) fun _ _ h2 => h2)⟩
      cases fl with
      | brk => obtain ⟨_, _, _, z⟩ := h2; exact z.elim
      | cont => obtain ⟨_, _, _, z⟩ := h2; exact z.elim
      | next =>
        obtain ⟨σ2, H2, J, z⟩ := h2
        exact ⟨V.non, H2, J.os, J.bare, J.base, J.hok, rfl, z⟩
      | ret u =>
        obtain ⟨v, σ2, H2, J, rv, z⟩ := h2
        exact ⟨v, H2, J.os, J.bare, J.base, J.hok, rv, z⟩
theorem okG {nm ql : Str} {st : Stmt} {N : List Str} (F : Fun K nm ql st f fd) (S : FnScope N ps (defScope st)) (len : ∀ vs H Q E, sp vs H Q E → vs.length = ps.length)
    (hb : ∀ (cd : Value) (A : Around) (o : List Env) (s : Shared) (H : Hp) (vs : List V) (Q : VK) (E : XK), A.guards = some [] → Room k (A.deeper (envOfC ql (defScope st) s.heap.objs.size f cd)) → sp vs H Q E →
      ∃ t, PSs (cxOf cx P w K mg base N ql (defScope st) f cd A o s H E) (defBody st) t ∧ t { nx := fun _ H' => Q .non H', rt := Q } (start N vs) H) :
    FnG P w K mg base cx (k + 1) f fd ps sp := by
  obtain ⟨_, _, _, _, _, _, cd, _, _, rfl, lk, hc⟩ := F.ex
  exact fnG_of lk hc S len fun A o s H vs Q E g r q => hb cd A o s H vs Q E g r q
theorem okG0 {nm ql : Str} {st : Stmt} {N : List Str} (F : Fun K nm ql st f fd) (S : FnScope N ps (defScope st)) (len : ∀ vs H Q E, sp vs H Q E → vs.length = ps.length)
    (hb : ∀ (cd : Value) (A : Around) (o : List Env) (s : Shared) (H : Hp) (vs : List V) (Q : VK) (E : XK), A.guards = some [] → Room k (A.deeper (envOfC ql (defScope st) s.heap.objs.size f cd)) → sp vs H Q E →
      ∃ t, PSs (cxOf CX0 P w K mg base N ql (defScope st) f cd A o s H E).nox (defBody st) t ∧ t { nx := fun _ H' => Q .non H', rt := Q } (start N vs) H) :
    FnG P w K mg base CX0 (k + 1) f fd ps sp :=
  okG F S len fun cd A o s H vs Q E g r q => by
    obtain ⟨t, h, z⟩ := hb cd A o s H vs Q E g r q
    exact ⟨t, h.nox, z⟩
end

section
variable {X : Cx} {cx : CXT} {k : Nat} {f : Addr} {fd : FuncData} {ps : List Str} {sp : Sp} {E : XK} {x : Str} {p pos : Pos} {e : Expr} {es : List Expr} {t : TA}
theorem run_fnG {pins : List (Addr × Obj)} {σ : L2.St} {H : Hp} {s : Shared} {Q : VK} {us : List Value} {vs : List V} (F : FnG X.prog X.w X.K X.mg X.base cx k f fd ps sp) (hg : X.A.guards = some []) (hr : Room k X.A) (hb : Binds X.K fd ps [])
    (hx : Passes cx X E) (I : Inv X pins σ H s) (r : Vals vs us) (h : sp vs H Q E) : wpAny (model X.prog X.w) X.A (call (.ref f) us) (EP X pins σ Q) X.xe s := by
  have e1 : us ++ [] = us := List.append_nil us
  have hl : (us ++ []).length = ps.length := by rw [e1, ← r.length]; exact F.len _ _ _ _ h
  have b1 := hb s us I.kIn hl
  rw [e1] at b1
  refine wpAny_call (codeAny_mono (F.run X.A X.stack s H ⟨us, []⟩ us vs Q E hg hr I.env0 b1 r h) fun rr s' hq => ?_)
  match rr, hq with
  | .error er, hq => exact hx pins σ H s er s' I hq
  | .ok (.ret u), hq => exact I.after hq
  | .ok .next, hq => exact False.elim hq
  | .ok .brk, hq => exact False.elim hq
  | .ok .cont, hq => exact False.elim hq
def tGo (sp : Sp) (E : XK) (t : TA) : TE := fun σ H Q => t σ H fun vs H1 => sp vs H1 Q E
/-- f(e, ..) -/
theorem pe_go (F : FnG X.prog X.w X.K X.mg X.base cx k f fd ps sp) (hg : X.A.guards = some []) (hr : Room k X.A) (gl : Gl X x) (hm : X.mg x = some (.ref f)) (hk : PySem.W.keepIn X.K (.ref f) = true) (hb : Binds X.K fd ps []) (hx : Passes cx X E)
    (ha : PA X (e :: es) t) (h1 : (x == ("__debug__" : Str)) = false := by decide) (h2 : starEach (e :: es) X.env = (false, eval e X.env) :: starEach es X.env := by rfl) (h3 : (backTo pos (starEach es X.env)).any (·.1) = false := by rfl) :
    PE X (.Call (.Name x p) (e :: es) [] pos) (tGo sp E t) := by
  refine ⟨fun pi s σ H Q I h => wpAny_Call_Name_kw (ld_glob I gl hm ?_ h1)⟩
  refine PySem.W.callWith_K (h₀ := X.base) I.ok.mod.kin hk (thn (ha.run pos pi s σ H _ I h) ?_) h2 h3
  rintro us s1 ⟨vs, H1, I1, r, q⟩
  exact ⟨I1.kIn, run_fnG F hg hr hb hx I1 r q⟩
theorem pe_go0 (F : FnG X.prog X.w X.K X.mg X.base cx k f fd ps sp) (hg : X.A.guards = some []) (hr : Room k X.A) (gl : Gl X x) (hm : X.mg x = some (.ref f)) (hk : PySem.W.keepIn X.K (.ref f) = true) (hb : Binds X.K fd ps []) (hx : Passes cx X E)
    (h1 : (x == ("__debug__" : Str)) = false := by decide) : PE X (.Call (.Name x p) [] [] pos) (tGo sp E tNil) := by
  refine ⟨fun pi s σ H Q I h => wpAny_Call_Name_kw (ld_glob I gl hm ?_ h1)⟩
  exact PySem.W.callWith_K0 I.kIn hk (run_fnG (us := []) F hg hr hb hx I .nil h)
end

/-! the law's own call -/
section
variable {P : Program} {w : World} {K : PySem.W.Frag} {mg mb : Str → Option Value} {cx : CXT} {k : Nat} {fa a : Addr} {fd : FuncData} {x : Str} {sp : Sp} {s1 : Shared} {vs : List Value} {ns : List Int}
/-- the heap at the entry: the script alone is tracked, as it stands -/
def Hin (K : PySem.W.Frag) (a : Addr) (o : Obj) (ns : List Int) : Hp := fun b => if b = a ∧ K.lookup a = none then some (.frz o (.lst (ns.map V.int))) else none
theorem law_callG (KX : K.In s1.heap) (hns : s1.heap.Ns mainGlobals mg) (hb : s1.heap.Ns builtinsNs mb) (hbb : ∀ x : Str, x ≠ "__name__" → mb x = bootBuiltins x) (hlim : s1.heap.NoLimit) (hsy : ∃ mm, s1.heap.Ns sysModules mm) (hg : s1.gens = #[])
    (ha : s1.heap.get? a = some { cls := .type "list", data := .seq vs.toArray }) (hi : IntsAre vs ns) (hl : ns.length ≤ sizeLine) (hr : Room k callerA)
    (F : ∀ base : Heap, K.In base → base.Ns mainGlobals mg → (∃ mm, base.Ns sysModules mm) → FnG P w K mg base cx k fa fd [x] sp)
    (hbind : ∀ (s : Shared) (u : Value), BindsTo s fd ⟨[u], []⟩ [(x, u)])
    (hsp : ∀ H : Hp, SqL K H a (ns.map V.int) → sp [.ref a] H (fun v _ => v = .bl true) fun _ _ _ => False)
    (hcx : ∀ H e s', cx [] H s1 (fun _ _ _ => False) e s' → False) :
    codeAny (model P w) callerA (.call (.ref fa) ⟨[.ref a], []⟩) (fun r s' => r = .ok (.ret (.bool true)) ∧ OldK s1.heap s'.heap ∧ s'.os = s1.os ∧ AllBare s'.gens) s1 := by
  generalize ho : ({ cls := .type "list", data := .seq vs.toArray } : Obj) = o at ha
  have rv := vals_ints hi
  have hlen := hi.length
  have hH : ∀ b u, Hin K a o ns b = some u → b = a ∧ K.lookup a = none ∧ u = .frz o (.lst (ns.map V.int)) := fun b u e => by
    unfold Hin at e
    by_cases c : b = a ∧ K.lookup a = none
    · rw [if_pos c] at e; exact ⟨c.1, c.2, (Option.some.inj e).symm⟩
    · rw [if_neg c] at e; cases e
  have hok : HOk P w (Hin K a o ns) s1.heap := fun b u e => by
    obtain ⟨rfl, _, rfl⟩ := hH b u e
    exact ⟨ha, by rw [List.length_map]; exact hl, vs, _, rv, by rw [ha, ← ho]⟩
  have hS : SqL K (Hin K a o ns) a (ns.map V.int) := by
    cases hk : K.lookup a with
    | none => exact Or.inl (Or.inr ⟨o, if_pos ⟨rfl, hk⟩⟩)
    | some o2 =>
      have e := KX a o2 hk
      rw [ha] at e
      cases e
      exact Or.inr ⟨_, vs.toArray, 0, hk, by rw [← ho], by rw [← ho], by rw [← ho], by rw [List.size_toArray, hlen]; exact hl, rv⟩
  have toB : ∀ {b : Addr} {ob : Obj}, s1.heap.get? b = some ob → Hin K a o ns b = none → (hidT s1.heap (Hin K a o ns)).get? b = some ob := fun e n => hidT_get e n
  have dictN : ∀ {b : Addr} {ob : Obj}, s1.heap.get? b = some ob → (∀ it n, ob.data ≠ .seq it n) → Hin K a o ns b = none := fun {b ob} e d => by
    cases q : Hin K a o ns b with
    | none => rfl
    | some u =>
      obtain ⟨rfl, _, _⟩ := hH b u q
      rw [ha] at e
      cases e
      exact (d vs.toArray 0 (by rw [← ho])).elim
  have nsB : ∀ {b : Addr} {m : Str → Option Value}, s1.heap.Ns b m → (hidT s1.heap (Hin K a o ns)).Ns b m := fun {b m} h => by
    obtain ⟨ob, es, ep, e, d, r⟩ := h
    exact ⟨ob, es, ep, toB e (dictN e fun it n z => by rw [d] at z; cases z), d, r⟩
  have KB : K.In (hidT s1.heap (Hin K a o ns)) := fun b ob e => toB (KX b ob e) (by
    cases q : Hin K a o ns b with
    | none => rfl
    | some u =>
      obtain ⟨rfl, z, _⟩ := hH b u q
      rw [z] at e; cases e)
  have lim : (hidT s1.heap (Hin K a o ns)).NoLimit := by
    obtain ⟨mc, h1, h2⟩ := hlim
    exact ⟨mc, nsB h1, h2⟩
  have M : Mod K mg (hidT s1.heap (Hin K a o ns)) := ⟨KB, nsB hns, ⟨mb, nsB hb, hbb⟩, lim⟩
  have e0 : Env0 P w K mg (hidT s1.heap (Hin K a o ns)) callerA [] s1 (Hin K a o ns) :=
    ⟨rfl, M, fun b ob e => of_hidT e, Nat.le_of_eq (hidT_size _ _), trivial, fun b z => (nomatch z), hok, .of_eq hg⟩
  have G := F _ KB (nsB hns) (by obtain ⟨mm, z⟩ := hsy; exact ⟨mm, nsB z⟩)
  refine codeAny_mono (G.run callerA [] s1 _ ⟨[.ref a], []⟩ [.ref a] [.ref a] _ _ rfl hr e0 (hbind s1 (.ref a)) (.cons rfl .nil) (hsp _ hS)) fun r s2 h => ?_
  match r, h with
  | .error er, h => exact (hcx _ er s2 h).elim
  | .ok .next, h => exact False.elim h
  | .ok .brk, h => exact False.elim h
  | .ok .cont, h => exact False.elim h
  | .ok (.ret u), h =>
    obtain ⟨v, H2, os, br, un, hok2, r2, q⟩ := h
    have q2 : v = .bl true := q
    subst q2
    obtain rfl : u = Value.bool true := r2
    refine ⟨rfl, OldK.of_keep fun b ob e => ?_, os, br⟩
    cases z : Hin K a o ns b with
    | none => exact un.keep b ob e z (fun m => nomatch m) (fun m => nomatch m)
    | some u =>
      obtain ⟨rfl, _, rfl⟩ := hH b u z
      obtain ⟨y, _⟩ := hok2 b _ (un.frzs b _ _ z)
      rw [ha] at e
      cases e
      exact y
end
/-- the end of a law: what k_head leaves, from the law's promise -/
theorem walkG {l : PySem.W.OpenLaw} {n k : Nat} {q : Program} {lo : List Str} {XP : (Str → Option Value) → Heap → Prop} {YP : World → Heap → Prop} {d : DefRec} {K : Params → PySem.W.Frag} {cx : World → CXT} {sp : World → Sp} {x : Str}
    (hn : l.most = some n) (hn2 : n ≤ sizeLine) (hdf : d.params.defaults = []) (hr : Room k callerA) (him : importsNone q = true)
    (hY : ∀ (w : World) (h : Heap), YP w h → (K w.params).In h)
    (F : ∀ (w : World) (mg : Str → Option Value) (fa : Addr) (h : Heap), (K w.params).In h → h.Ns mainGlobals mg → mg d.name = some (.ref fa) →
      ∃ fd : FuncData, (∀ (s : Shared) (u : Value), BindsTo s fd ⟨[u], []⟩ [(x, u)]) ∧
        ∀ base : Heap, (K w.params).In base → base.Ns mainGlobals mg → (∃ mm, base.Ns sysModules mm) → FnG l.prog w (K w.params) mg base (cx w) k fa fd [x] (sp w))
    (hsp : ∀ (w : World) (H : Hp) (a : Addr) (ns : List Int), ns.length ≤ n → (∀ z ∈ ns, Builtin.Int.intBits z ≤ 1048576) → SqL (K w.params) H a (ns.map V.int) → sp w [.ref a] H (fun v _ => v = .bl true) fun _ _ _ => False)
    (hcx : ∀ (w : World) (H : Hp) (s : Shared) (e : Value) (s' : Shared), cx w [] H s (fun _ _ _ => False) e s' → False) :
    PySem.W.WalkO q lo XP YP l.row.toRowW d [] (fun f vs => PySem.call f vs) := by
  refine Att.attach_callB hn hdf ?_
  intro w s0 s1 mg mb fa o pm cd doc a vs ns G Y ho hd hcd hmg hob hin hle hbi hge
  obtain ⟨fd, hb, hF⟩ := F w mg fa _ (hY w _ Y) G.T.g hmg
  have hsy : ∃ mm, s1.heap.Ns sysModules mm := by
    obtain ⟨mm, z, _⟩ := (G.T.seer him).mods
    exact ⟨mm, z⟩
  exact law_callG (hY w _ Y) G.T.g G.T.b G.T.builtins G.T.nolimit hsy hge hob hin (Nat.le_trans hle hn2) hr hF hb (fun H hS => hsp w H a ns hle hbi hS) fun H e s' => hcx w H s1 e s'

/-! data, by what repr shows -/
def keyD (k : Key) : PyData := match k with | .inl i => PyData.int i | .inr x => PyData.str x
mutual
inductive Dn (K : PySem.W.Frag) (H : Hp) : V → PyData → Prop
  | non : Dn K H .non .none
  | bl (b : Bool) : Dn K H (.bl b) (.bool b)
  | int (i : Int) : Dn K H (.int i) (.int i)
  | str (x : Str) : Dn K H (.str x) (.str x)
  | lst {a : Addr} {xs : List V} {ds : List PyData} : Rd H a (.lst xs) → DnA K H xs ds → Dn K H (.ref a) (.list ds)
  | tup {a : Addr} {xs : List V} {ds : List PyData} : SqT K H a xs → DnA K H xs ds → Dn K H (.ref a) (.tuple ds)
  | dic {a : Addr} {kvs : List (Key × V)} {ds : List PyData} : Rd H a (.dK kvs) → DnA K H (kvs.map (·.2)) ds → Dn K H (.ref a) (.dict ((kvs.map fun p => keyD p.1).zip ds))
inductive DnA (K : PySem.W.Frag) (H : Hp) : List V → List PyData → Prop
  | nil : DnA K H [] []
  | cons {v : V} {vs : List V} {d : PyData} {ds : List PyData} : Dn K H v d → DnA K H vs ds → DnA K H (v :: vs) (d :: ds)
end
end U

namespace U
open PySem L2 PySem.Spec PyProof.Rows

section
variable {X : Cx} {pins : List (Addr × Obj)} {σ : L2.St} {H : Hp} {s : Shared}
theorem rd_low (I : Inv X pins σ H s) (hs : ∃ mm, X.base.Ns sysModules mm) {a : Addr} {u : HO} (r : Rd H a u) : a ≠ sysModules := by
  rintro rfl
  obtain ⟨mm, ob, es, ep, e, _⟩ := hs
  have n := (I.bs _ ob e).2
  rcases r with r | ⟨o, r⟩ <;> (rw [n] at r; cases r)
theorem pairs_reads {P : Program} {w : World} {h : Heap} : ∀ {es : List DictEntry} {kvs : List (Key × V)} {vs : List (Key × Value)}, Pairs (mixKind P w) es vs → KV kvs vs →
    ReadsAll h (es.map (·.key)) (kvs.map fun p => keyD p.1) [] ∧ Vals (kvs.map (·.2)) (es.map (·.val))
  | _, _, _, .nil, .nil => ⟨.nil, .nil⟩
  | e :: es, (k, v) :: kvs, (k2, u) :: vs, .cons h1 h2 h3, .cons ⟨q1, q2⟩ h4 => by
    obtain ⟨r1, r2⟩ := pairs_reads (h := h) h3 h4
    have q1 : k = k2 := q1
    subst q1
    refine ⟨?_, .cons (show RelV v e.val by rw [h2]; exact q2) r2⟩
    show ReadsAll h (e.key :: _) (keyD k :: _) ([] ++ [])
    refine .cons ?_ r1
    rcases keyIs_shape h1 with ⟨i, t, z, y⟩ | ⟨x, t, z, y⟩
    · have z : k = Sum.inl i := z
      rw [y, z]; exact Reads.int i t
    · have z : k = Sum.inr x := z
      rw [y, z]; exact Reads.str x t
mutual
theorem Dn.reads (I : Inv X pins σ H s) (hs : ∃ mm, X.base.Ns sysModules mm) : ∀ {v : V} {d : PyData} {u : Value}, Dn X.K H v d → RelV v u → ∃ as, Reads s.heap u d as ∧ sysModules ∉ as
  | _, _, _, .non, r => by cases r; exact ⟨[], Reads.none, by simp⟩
  | _, _, _, .bl b, r => by cases r; exact ⟨[], Reads.bool b, by simp⟩
  | _, _, _, .int i, r => by obtain ⟨t, rfl⟩ := r; exact ⟨[], Reads.int i t, by simp⟩
  | _, _, _, .str x, r => by obtain ⟨t, rfl⟩ := r; exact ⟨[], Reads.str x t, by simp⟩
  | _, _, _, .lst h1 h2, r => by
    cases r
    obtain ⟨its, rv, ⟨o, n, ho, hc, _, hd⟩, _⟩ := I.list (Or.inl h1)
    obtain ⟨as, q1, q2⟩ := DnA.reads I hs h2 rv
    exact ⟨_, Reads.list ho hc hd q1, fun m => (List.mem_cons.mp m).elim (fun e => rd_low I hs h1 e.symm) q2⟩
  | _, _, _, .tup h1 h2, r => by
    cases r
    obtain ⟨its, rv, ⟨o, ho, hc, n, hd⟩, _⟩ := I.tuple h1
    obtain ⟨as, q1, q2⟩ := DnA.reads I hs h2 rv
    exact ⟨_, Reads.tuple ho hc hd q1, q2⟩
  | _, _, _, .dic (kvs := kvs) (ds := ds) h1 h2, r => by
    cases r
    obtain ⟨_, low, vs, kv, o, es, ep, ho, hc, hd, _, hp, _⟩ := h1.ok I.hok
    obtain ⟨q1, q2⟩ := pairs_reads (h := s.heap) hp kv
    obtain ⟨as, q3, q4⟩ := DnA.reads I hs h2 q2
    have el : ds.length = kvs.length := by
      have e1 := DnA.len h2
      rw [List.length_map] at e1
      exact e1.symm
    have z1 : ((kvs.map fun p => keyD p.1).zip ds).map (·.1) = kvs.map fun p => keyD p.1 := by
      rw [List.map_fst_zip]; rw [List.length_map]; omega
    have z2 : ((kvs.map fun p => keyD p.1).zip ds).map (·.2) = ds := by
      rw [List.map_snd_zip]; rw [List.length_map]; omega
    refine ⟨_, Reads.dict ho hc.1 hd (kvs := (kvs.map fun p => keyD p.1).zip ds) (as := []) (bs := as) ?_ ?_, ?_⟩
    · rw [z1]; exact q1
    · rw [z2]; exact q3
    · intro m
      rcases List.mem_cons.mp m with e | e
      · exact rd_low I hs h1 e.symm
      · exact q4 (by simpa using e)
theorem DnA.reads (I : Inv X pins σ H s) (hs : ∃ mm, X.base.Ns sysModules mm) : ∀ {vs : List V} {ds : List PyData} {us : List Value}, DnA X.K H vs ds → Vals vs us → ∃ as, ReadsAll s.heap us ds as ∧ sysModules ∉ as
  | _, _, _, .nil, r => by cases r; exact ⟨[], ReadsAll.nil, by simp⟩
  | _, _, _, .cons h1 h2, r => by
    cases r with
    | cons r1 r2 =>
      obtain ⟨as, q1, q2⟩ := Dn.reads I hs h1 r1
      obtain ⟨bs, q3, q4⟩ := DnA.reads I hs h2 r2
      exact ⟨_, ReadsAll.cons q1 q3, fun m => (List.mem_append.mp m).elim q2 q4⟩
theorem DnA.len {K : PySem.W.Frag} : ∀ {vs : List V} {ds : List PyData}, DnA K H vs ds → vs.length = ds.length
  | _, _, .nil => rfl
  | _, _, .cons _ h => by rw [List.length_cons, List.length_cons, DnA.len h]
end
end
/-! what may be shown, and how long it is -/
mutual
def good : PyData → Prop
  | .none => True
  | .bool _ => True
  | .int i => i.natAbs < 10 ^ 100
  | .str x => ∀ c ∈ x.cps.toList, c < 4294967296
  | .list xs => goodA xs
  | .tuple xs => goodA xs
  | .dict kvs => goodK kvs
def goodA : List PyData → Prop
  | [] => True
  | x :: xs => good x ∧ goodA xs
def goodK : List (PyData × PyData) → Prop
  | [] => True
  | (k, v) :: r => good k ∧ good v ∧ goodK r
end
mutual
def sz : PyData → Nat
  | .none => 4
  | .bool _ => 5
  | .int _ => 102
  | .str x => 10 * x.length + 2
  | .list xs => szA xs + 3
  | .tuple xs => szA xs + 3
  | .dict kvs => szK kvs + 3
def szA : List PyData → Nat
  | [] => 0
  | x :: xs => sz x + 2 + szA xs
def szK : List (PyData × PyData) → Nat
  | [] => 0
  | (k, v) :: r => sz k + sz v + 4 + szK r
end
theorem int_len {i : Int} (h : i.natAbs < 10 ^ 100) : (Str.ofString (toString i)).length ≤ 102 := by
  have e := int_text_length_le10 (k := 100) (by decide) h
  rw [PySem.ofString_length]
  omega
mutual
theorem good_show : ∀ {d : PyData}, good d → d.showable = true ∧ d.shown.length ≤ sz d
  | .none, _ => ⟨rfl, by decide +kernel⟩
  | .bool b, _ => ⟨rfl, by cases b <;> decide +kernel⟩
  | .int i, h => by
    refine ⟨?_, ?_⟩
    · simp only [PyData.showable, decide_eq_true_eq]
      have h : i.natAbs < 10 ^ 100 := by simpa only [good] using h
      refine log2_small (Nat.lt_of_lt_of_le h ?_)
      decide +kernel
    · have h : i.natAbs < 10 ^ 100 := by simpa only [good] using h
      exact int_len h
  | .str x, h => by
    refine ⟨rfl, ?_⟩
    have h : ∀ c ∈ x.cps.toList, c < 4294967296 := by simpa only [good] using h
    simp only [PyData.shown, sz]
    exact StrLaws.reprText_len x h
  | .list xs, h => by
    have q := goodA_show (ds := xs) (by simpa only [good] using h)
    refine ⟨by simpa only [PyData.showable] using q.1, ?_⟩
    simp only [PyData.shown, sz]
    have := listText_len_le (PyData.shownAll xs)
    have e : (PyData.shownAll xs).length = xs.length := q.2.2
    omega
  | .tuple xs, h => by
    have q := goodA_show (ds := xs) (by simpa only [good] using h)
    refine ⟨by simpa only [PyData.showable] using q.1, ?_⟩
    simp only [PyData.shown, sz]
    have := tupleText_len_le (PyData.shownAll xs)
    have e : (PyData.shownAll xs).length = xs.length := q.2.2
    omega
  | .dict kvs, h => by
    have q := goodK_show (ds := kvs) (by simpa only [good] using h)
    refine ⟨by simpa only [PyData.showable] using q.1, ?_⟩
    simp only [PyData.shown, sz]
    have := dictText_len_le (PyData.shownKv kvs)
    have e : (PyData.shownKv kvs).length = kvs.length := q.2.2
    omega
theorem goodA_show : ∀ {ds : List PyData}, goodA ds → PyData.showableAll ds = true ∧ ((PyData.shownAll ds).map (·.length)).sum + 2 * ds.length ≤ szA ds ∧ (PyData.shownAll ds).length = ds.length
  | [], _ => ⟨rfl, by simp [PyData.shownAll, szA], rfl⟩
  | x :: xs, h => by
    obtain ⟨h1, h2⟩ : good x ∧ goodA xs := by simpa only [goodA] using h
    obtain ⟨a1, a2⟩ := good_show h1
    obtain ⟨b1, b2, b3⟩ := goodA_show h2
    refine ⟨by simp only [PyData.showableAll, a1, b1, Bool.and_self], ?_, by simp only [PyData.shownAll, List.length_cons, b3]⟩
    simp only [PyData.shownAll, szA, List.map_cons, List.sum_cons, List.length_cons]
    omega
theorem goodK_show : ∀ {ds : List (PyData × PyData)}, goodK ds → PyData.showableKv ds = true ∧ ((PyData.shownKv ds).map (·.length)).sum + 2 * ds.length ≤ szK ds ∧ (PyData.shownKv ds).length = ds.length
  | [], _ => ⟨rfl, by simp [PyData.shownKv, szK], rfl⟩
  | (k, v) :: r, h => by
    obtain ⟨h1, h2, h3⟩ : good k ∧ good v ∧ goodK r := by simpa only [goodK] using h
    obtain ⟨a1, a2⟩ := good_show h1
    obtain ⟨c1, c2⟩ := good_show h2
    obtain ⟨b1, b2, b3⟩ := goodK_show h3
    refine ⟨by simp only [PyData.showableKv, a1, c1, b1, Bool.and_self], ?_, by simp only [PyData.shownKv, List.length_cons, b3]⟩
    have e : (": " : Str).length = 2 := by decide +kernel
    simp only [PyData.shownKv, szK, List.map_cons, List.sum_cons, List.length_cons, Str.length_append]
    have e : (Str.ofString ": ").length = 2 := by decide +kernel
    omega
end
/-- repr -/
def rRepr (K : PySem.W.Frag) : List V → Hp → VK → Prop := fun xs H Q => ∃ v d, xs = [v] ∧ Dn K H v d ∧ good d ∧ d.depth ≤ 100 ∧ sz d ≤ 16000000 ∧ Q (.str d.shown) H
theorem call_repr {X : Cx} {k : Nat} (hg : X.A.guards = some []) (hr : Room k X.A) (hs : ∃ mm, X.base.Ns sysModules mm) : CallR X (.builtin "repr") (rRepr X.K) := by
  rintro pi s σ H xs us Q I vv ⟨v, d, rfl, hd, g, dp, zz, q⟩
  obtain ⟨u, rfl, rv⟩ := Vals.one vv
  obtain ⟨sh, le⟩ := good_show g
  have le2 : d.shown.length ≤ sizeLine := Nat.le_trans (Nat.le_trans le zz) (by decide)
  have hu := hr.un
  cases hd with
  | non => cases rv; exact PySem.P.repr_of_none ⟨.str _, H, I.tok _, ⟨_, rfl⟩, q⟩
  | bl b => cases rv; exact PySem.P.repr_of_bool ⟨.str _, H, I.tok _, ⟨_, rfl⟩, q⟩
  | int i =>
    obtain ⟨t, rfl⟩ := rv
    simp only [PyData.showable, decide_eq_true_eq] at sh
    exact PySem.P.repr_of_int sh ⟨.str _, H, I.tok _, ⟨_, rfl⟩, q⟩
  | str x =>
    obtain ⟨t, rfl⟩ := rv
    exact PySem.P.repr_of_str ⟨.str _, H, I.tok _, ⟨_, rfl⟩, q⟩ le2
  | lst h1 h2 =>
    obtain ⟨as, r1, r2⟩ := Dn.reads I hs (.lst h1 h2) rv
    cases rv
    exact repr_of_reads' r1 sh (fun _ => r2) hg (by omega) (fun _ _ e => e) (fun h' u tk hk => ⟨.str _, H, I.kept hk, ⟨_, rfl⟩, q⟩) le2
  | tup h1 h2 =>
    obtain ⟨as, r1, r2⟩ := Dn.reads I hs (.tup h1 h2) rv
    cases rv
    exact repr_of_reads' r1 sh (fun _ => r2) hg (by omega) (fun _ _ e => e) (fun h' u tk hk => ⟨.str _, H, I.kept hk, ⟨_, rfl⟩, q⟩) le2
  | dic h1 h2 =>
    obtain ⟨as, r1, r2⟩ := Dn.reads I hs (.dic h1 h2) rv
    cases rv
    exact repr_of_reads' r1 sh (fun _ => r2) hg (by omega) (fun _ _ e => e) (fun h' u tk hk => ⟨.str _, H, I.kept hk, ⟨_, rfl⟩, q⟩) le2
end U

namespace U
open PySem L2 PySem.Spec PyProof.Rows

/-! operators, whatever the values -/
def rStrCat : R2 := fun x y H Q => ∃ i j, x = .str i ∧ y = .str j ∧ i.length + j.length ≤ sizeLine ∧ Q (.str (i ++ j)) H
def uAdd (K : PySem.W.Frag) : R2 := fun x y H Q => (rI0 fun i j => .int (i + j)) x y H Q ∨ rStrCat x y H Q ∨ rCat x y H Q ∨ rCatA K x y H Q
def uSub : R2 := rI0 fun i j => .int (i - j)
def uMul : R2 := fun x y H Q => (rI CMul fun i j => .int (i * j)) x y H Q ∨ rRep x y H Q
def uMod : R2 := rI (fun _ j => 0 < j) fun i j => .int (i % j)
def uDiv : R2 := rI CDivW fun i j => .int (i / j)
def uPow : R2 := rI CPow fun i j => .int (i ^ j.toNat)
def uLt : R2 := rI0 fun i j => .bl (decide (i < j))
def uLe : R2 := rI0 fun i j => .bl (decide (i ≤ j))
def uGt : R2 := rI0 fun i j => .bl (decide (j < i))
def uGe : R2 := rI0 fun i j => .bl (decide (j ≤ i))
def uEq (K : PySem.W.Frag) : R2 := fun x y H Q => rEq x y H Q ∨ rEqD K x y H Q
def uNe (K : PySem.W.Frag) : R2 := fun x y H Q => rNe x y H Q ∨ rNeD K x y H Q
def rInSign (ng : Bool) : R2 := fun x y H Q => ∃ (c : Nat) (z : Str), x = .str ⟨#[c]⟩ ∧ y = .str z ∧ Q (.bl (if ng then !decide (c ∈ z.cps.toList) else decide (c ∈ z.cps.toList))) H
def uIn (K : PySem.W.Frag) (ng : Bool) : R2 := fun x y H Q => rInSign ng x y H Q ∨ rIn K ng x y H Q
def uIs : R2 := fun x y H Q => y = .non ∧ Q (.bl (decide (x = .non))) H
def uIsNot : R2 := fun x y H Q => y = .non ∧ Q (.bl (!decide (x = .non))) H
section
variable {X : Cx} {k : Nat} {K : PySem.W.Frag}
theorem o_add (hK : X.K = K) : OpR X (binaryOp .Add) (uAdd K) := hK ▸ op_add.or (op_add_str.or (op_cat.or op_catA))
theorem o_sub : OpR X (binaryOp .Sub) uSub := op_sub
theorem o_mul : OpR X (binaryOp .Mult) uMul := op_mul.or op_rep
theorem o_mod : OpR X (binaryOp .Mod) uMod := op_mod
theorem o_div : OpR X (binaryOp .FloorDiv) uDiv := op_fdivW
theorem o_pow : OpR X (binaryOp .Pow) uPow := op_pow
theorem o_lt : OpR X (compareOp .Lt) uLt := op_lt
theorem o_le : OpR X (compareOp .LtE) uLe := op_le
theorem o_gt : OpR X (compareOp .Gt) uGt := op_gt
theorem o_ge : OpR X (compareOp .GtE) uGe := op_ge
theorem o_eq (hK : X.K = K) (hr : Room k X.A) : OpR X (compareOp .Eq) (uEq K) := hK ▸ op_eq.or (op_eqD hr.units)
theorem o_ne (hK : X.K = K) (hr : Room k X.A) : OpR X (compareOp .NotEq) (uNe K) := hK ▸ op_ne.or (op_neD hr.units)
theorem o_in (hK : X.K = K) : OpR X (compareOp .In) (uIn K false) := hK ▸ op_in_sign.or op_in_seq
theorem o_notin (hK : X.K = K) : OpR X (compareOp .NotIn) (uIn K true) := hK ▸ op_notIn_sign.or op_notIn_seq
theorem o_is : OpR X (compareOp .Is) uIs := op_isN
theorem o_isnot : OpR X (compareOp .IsNot) uIsNot := op_notN
/-- a built-in type's name as a value -/
theorem pe_ty {x : Str} {n : String} {pos : Pos} (hg : Gl X x) (hm : X.mg x = none) (hv : bootBuiltins x = some (.type n)) (hn : x ≠ "__name__" := by decide) (hd : (x == ("__debug__" : Str)) = false := by decide) : PE X (.Name x pos) (tC (.ty n)) :=
  pe_bltn hg hm hv rfl hn hd
def uSl (K : PySem.W.Frag) : V → Option Int → Option Int → Hp → VK → Prop := fun x lo hi H Q => rSlL K x lo hi H Q ∨ rSlS x lo hi H Q ∨ rSlA K x lo hi H Q
theorem ix_u (hK : X.K = K) : IxR X (rIx K) := hK ▸ ix_seq
theorem sl_u (hK : X.K = K) : SlR X (uSl K) := hK ▸ sl_list.or (sl_str.or sl_tupA)
end

/-! steps -/
section
variable {K : PySem.W.Frag} {σ : L2.St} {H : Hp} {Q : VK} {D : Ends} {t u : TS} {ta tb tc te : TE} {tA tB' : TT} {r r' : R2} {x y v : V} {i : Nat} {n m : Int} {a b : Str}
theorem s_seq (h : t { D with nx := u D } σ H) : tSeq t u D σ H := h
theorem s_next (h : D.nx σ H) : tNext D σ H := h
theorem s_brk (h : D.bk σ H) : tBreak D σ H := h
theorem s_cnt (h : D.ct σ H) : tCont D σ H := h
theorem s_retN (h : D.rt .non H) : tRetN D σ H := h
theorem s_var (h : σ[i]? = some (some v)) (q : Q v H) : tVar i σ H Q := ⟨v, h, q⟩
theorem s_c (q : Q v H) : tC v σ H Q := q
theorem s_op (h : ta σ H fun x H1 => tb σ H1 fun y H2 => r x y H2 Q) : tOp r ta tb σ H Q := h
theorem s_un {r : V → Hp → VK → Prop} (h : ta σ H fun x H1 => r x H1 Q) : tUn r ta σ H Q := h
theorem s_neg (q : Q (.int (-n)) H) : (rU fun i => .int (-i)) (.int n) H Q := ⟨n, rfl, q⟩
theorem s_test {Q : Bool → Hp → Prop} (h : te σ H fun x H' => ∃ k, x = .bl k ∧ Q k H') : tTest te σ H Q := h
theorem s_B {Q : Bool → Hp → Prop} (h : te σ H fun x H' => ∃ k, x = .bl k ∧ Q k H') : tB te σ H Q := h
theorem s_bl {P : Bool → Prop} {k : Bool} (q : P k) : ∃ c, V.bl k = .bl c ∧ P c := ⟨k, rfl, q⟩
theorem s_chain (h : ta σ H fun x H1 => tb σ H1 fun y H2 => r x y H2 fun z H3 => ∃ k, z = .bl k ∧ (if k = true then tc σ H3 fun w' H4 => r' y w' H4 Q else Q (.bl false) H3)) : tChain r r' ta tb tc σ H Q := h
theorem s_asg {g : TG} (h : te σ H fun x H1 => g x σ H1 D.nx) : tAsg te g D σ H := h
theorem s_name {R : L2.St → Hp → Prop} (h : R (σ.set i (some v)) H) : gName i v σ H R := h
theorem s_ret (h : te σ H D.rt) : tRet te D σ H := h
theorem s_drop (h : te σ H fun _ H1 => D.nx σ H1) : tDrop te D σ H := h
theorem s_ifS (h : tA σ H fun b H1 => if b = true then t D σ H1 else u D σ H1) : tIfS tA t u D σ H := h
theorem s_and {Q : Bool → Hp → Prop} (h : tA σ H fun c H1 => if c = true then tB' σ H1 Q else Q false H1) : tAnd tA tB' σ H Q := h
theorem s_or {Q : Bool → Hp → Prop} (h : tA σ H fun c H1 => if c = true then Q true H1 else tB' σ H1 Q) : tOr tA tB' σ H Q := h
theorem s_not {Q : Bool → Hp → Prop} (h : tA σ H fun c H1 => Q (!c) H1) : tNot tA σ H Q := h
theorem s_andV (h : ta σ H fun x H1 => ∃ c, x = .bl c ∧ if c = true then tb σ H1 Q else Q (.bl false) H1) : tAndV ta tb σ H Q := h
theorem s_orV (h : ta σ H fun x H1 => ∃ c, x = .bl c ∧ if c = true then Q (.bl true) H1 else tb σ H1 Q) : tOrV ta tb σ H Q := h
theorem s_notV (h : ta σ H fun x H1 => ∃ c, x = .bl c ∧ Q (.bl (!c)) H1) : tNotV ta σ H Q := h
theorem s_if (h : tA σ H fun c H1 => if c = true then ta σ H1 Q else tb σ H1 Q) : tIf tA ta tb σ H Q := h
theorem s_add (q : Q (.int (n + m)) H) : uAdd K (.int n) (.int m) H Q := Or.inl ⟨n, m, rfl, rfl, q⟩
theorem s_adds (h : a.length + b.length ≤ sizeLine) (q : Q (.str (a ++ b)) H) : uAdd K (.str a) (.str b) H Q := Or.inr (Or.inl ⟨a, b, rfl, rfl, h, q⟩)
theorem s_sub (q : Q (.int (n - m)) H) : uSub (.int n) (.int m) H Q := ⟨n, m, rfl, rfl, q⟩
theorem s_mul (h : CMul n m) (q : Q (.int (n * m)) H) : uMul (.int n) (.int m) H Q := Or.inl ⟨n, m, rfl, rfl, h, q⟩
theorem s_mod (h : 0 < m) (q : Q (.int (n % m)) H) : uMod (.int n) (.int m) H Q := ⟨n, m, rfl, rfl, h, q⟩
theorem s_div (h : CDivW n m) (q : Q (.int (n / m)) H) : uDiv (.int n) (.int m) H Q := ⟨n, m, rfl, rfl, h, q⟩
theorem s_pow {r : Int} (h : CPow n m) (e : n ^ m.toNat = r) (q : Q (.int r) H) : uPow (.int n) (.int m) H Q := ⟨n, m, rfl, rfl, h, (show Q (.int (n ^ m.toNat)) H by rw [e]; exact q)⟩
theorem cpow {i j : Int} (h0 : 0 ≤ i) (h1 : i < 9223372036854775808) (h2 : 0 ≤ j) (h3 : j ≤ 1000000) : CPow i j := ⟨h2, h3, by omega⟩
theorem cdiv {i j : Int} (h0 : 0 < j) (h1 : j < 100000000000000000000000000000000000000000) : CDivW i j := wide_div (b := 200) h0 (by
  have e : ((j.natAbs : Nat) : Int) < ((2 ^ 200 : Nat) : Int) := by
    rw [Int.natAbs_of_nonneg (by omega)]
    exact Int.lt_trans h1 (by decide)
  exact Int.ofNat_lt.mp e) (by decide) (by decide)
theorem cmulL {i j : Int} (h1 : -9223372036854775808 < i) (h2 : i < 9223372036854775808) : CMul i j := Or.inl ⟨by omega, by omega⟩
theorem cmulR {i j : Int} (h1 : -9223372036854775808 < j) (h2 : j < 9223372036854775808) : CMul i j := Or.inr ⟨by omega, by omega⟩
theorem s_lt (q : Q (.bl (decide (n < m))) H) : uLt (.int n) (.int m) H Q := ⟨n, m, rfl, rfl, q⟩
theorem s_le (q : Q (.bl (decide (n ≤ m))) H) : uLe (.int n) (.int m) H Q := ⟨n, m, rfl, rfl, q⟩
theorem s_gt (q : Q (.bl (decide (m < n))) H) : uGt (.int n) (.int m) H Q := ⟨n, m, rfl, rfl, q⟩
theorem s_ge (q : Q (.bl (decide (m ≤ n))) H) : uGe (.int n) (.int m) H Q := ⟨n, m, rfl, rfl, q⟩
theorem dec_int {n m : Int} : decide (V.int n = V.int m) = decide (n = m) := by
  by_cases h : n = m
  · subst h; simp
  · rw [decide_eq_false h]; exact decide_eq_false fun q => h (V.int.inj q)
theorem dec_str {n m : Str} : decide (V.str n = V.str m) = decide (n = m) := by
  by_cases h : n = m
  · subst h; simp
  · rw [decide_eq_false h]; exact decide_eq_false fun q => h (V.str.inj q)
theorem s_eqi (q : Q (.bl (decide (n = m))) H) : uEq K (.int n) (.int m) H Q := Or.inl ⟨rfl, by rw [dec_int]; exact q⟩
theorem s_nei (q : Q (.bl (!decide (n = m))) H) : uNe K (.int n) (.int m) H Q := Or.inl ⟨rfl, by rw [dec_int]; exact q⟩
theorem s_eqs (q : Q (.bl (decide (a = b))) H) : uEq K (.str a) (.str b) H Q := Or.inl ⟨rfl, by rw [dec_str]; exact q⟩
theorem s_nes (q : Q (.bl (!decide (a = b))) H) : uNe K (.str a) (.str b) H Q := Or.inl ⟨rfl, by rw [dec_str]; exact q⟩
theorem s_in1 {c : Nat} {z : Str} (q : Q (.bl (decide (c ∈ z.cps.toList))) H) : uIn K false (.str ⟨#[c]⟩) (.str z) H Q := Or.inl ⟨c, z, rfl, rfl, q⟩
theorem s_notin1 {c : Nat} {z : Str} (q : Q (.bl (!decide (c ∈ z.cps.toList))) H) : uIn K true (.str ⟨#[c]⟩) (.str z) H Q := Or.inl ⟨c, z, rfl, rfl, q⟩
theorem s_is (q : Q (.bl (decide (x = .non))) H) : uIs x .non H Q := ⟨rfl, q⟩
theorem s_isnot (q : Q (.bl (!decide (x = .non))) H) : uIsNot x .non H Q := ⟨rfl, q⟩
/-- items of lists -/
theorem s_nil {Q : List V → Hp → Prop} (q : Q [] H) : tNil σ H Q := q
theorem s_cons {Q : List V → Hp → Prop} {tr : TA} (h : te σ H fun x H1 => tr σ H1 fun xs H2 => Q (x :: xs) H2) : tCons te tr σ H Q := h
def LstK (Q : VK) (xs : List V) (H : Hp) : Prop := xs.length ≤ sizeLine ∧ ∀ p, H p = none → Q (.ref p) (upd H p (.lst xs))
def TupK (Q : VK) (xs : List V) (H : Hp) : Prop := xs.length ≤ sizeLine ∧ ∀ p, H p = none → Q (.ref p) (upd H p (.tup xs))
theorem s_lst {t : TA} (h : t σ H (LstK Q)) : tLst t σ H Q := h
theorem s_tup {t : TA} (h : t σ H (TupK Q)) : tTup t σ H Q := h
theorem s_cb {r : List V → Hp → VK → Prop} {t : TA} (h : t σ H fun vs H1 => r vs H1 Q) : tCB r t σ H Q := h
theorem s_go {sp : Sp} {E : XK} {t : TA} (h : t σ H fun vs H1 => sp vs H1 Q E) : tGo sp E t σ H Q := h
theorem s_max (q : Q (.int (if m > n then m else n)) H) : (fun xs H Q => ∃ i j, xs = [V.int i, V.int j] ∧ Q (.int (if j > i then j else i)) H : List V → Hp → VK → Prop) [.int n, .int m] H Q := ⟨n, m, rfl, q⟩
theorem at_nat {α : Type} {xs : List α} {j : Nat} {z : α} (h : xs[j]? = some z) : atI xs (j : Int) = some z := by
  have hj : j < xs.length := (List.getElem?_eq_some_iff.mp h).1
  unfold atI ixN
  rw [if_pos (by omega), if_pos (by omega)]
  simpa using h
theorem at_int {α : Type} {xs : List α} {j : Int} (h0 : 0 ≤ j) (h1 : j < xs.length) : ∃ z, xs[j.toNat]? = some z ∧ atI xs j = some z := by
  refine ⟨xs[j.toNat]'(by omega), by simp, ?_⟩
  have := at_nat (xs := xs) (j := j.toNat) (z := xs[j.toNat]'(by omega)) (by simp)
  rwa [Int.toNat_of_nonneg h0] at this
theorem s_ixL {p : Addr} {xs : List V} (h : SqL K H p xs) (ha : atI xs n = some v) (q : Q v H) : rIx K (.ref p) (.int n) H Q := Or.inl ⟨p, xs, n, v, rfl, rfl, h, ha, q⟩
theorem s_ixl {p : Addr} {xs : List V} (h : H p = some (.lst xs)) (ha : atI xs n = some v) (q : Q v H) : rIx K (.ref p) (.int n) H Q := Or.inl ⟨p, xs, n, v, rfl, rfl, SqL.of h, ha, q⟩
theorem s_ixt {p : Addr} {xs : List V} (h : H p = some (.tup xs)) (ha : atI xs n = some v) (q : Q v H) : rIx K (.ref p) (.int n) H Q := Or.inr (Or.inl ⟨p, xs, n, v, rfl, rfl, SqT.of h, ha, q⟩)
theorem s_ixs {z : Str} {c : Nat} (hz : z.length ≤ sizeLine) (ha : atI z.cps.toList n = some c) (q : Q (.str ⟨#[c]⟩) H) : rIx K (.str z) (.int n) H Q := Or.inr (Or.inr ⟨z, n, c, rfl, rfl, hz, ha, q⟩)
theorem s_sub2 {to ti : TE} {t : V → V → V → Hp → (Hp → Prop) → Prop} {R : L2.St → Hp → Prop} (h : to σ H fun o H1 => ti σ H1 fun i H2 => t o i v H2 fun H3 => R σ H3) : gSub to ti t v σ H R := h
theorem s_setl {p : Addr} {xs ys : List V} {j : Nat} {R : Hp → Prop} (h : H p = some (.lst xs)) (hj : ixN xs.length n = some j) (e : xs.set j v = ys) (q : R (upd H p (.lst ys))) : rSetL (.ref p) (.int n) v H R := ⟨p, xs, n, j, rfl, rfl, h, hj, by rw [e]; exact q⟩
theorem s_ite {p : Prop} [Decidable p] {A B : Prop} (h1 : p → A) (h2 : ¬p → B) : if decide p = true then A else B := by
  by_cases h : p
  · rw [decide_eq_true h, if_pos rfl]; exact h1 h
  · rw [decide_eq_false h, if_neg Bool.false_ne_true]; exact h2 h
theorem s_itn {p : Prop} [Decidable p] {A B : Prop} (h1 : ¬p → A) (h2 : p → B) : if (!decide p) = true then A else B := by
  by_cases h : p
  · rw [decide_eq_true h]; exact h2 h
  · rw [decide_eq_false h]; exact h1 h
theorem s_itt {A B : Prop} (h : A) : if true = true then A else B := h
theorem s_itf {A B : Prop} (h : B) : if false = true then A else B := h
theorem s_itb {k : Bool} {A B : Prop} (h1 : k = true → A) (h2 : k = false → B) : if k = true then A else B := by
  cases k with
  | true => exact h1 rfl
  | false => exact h2 rfl
end

/-! heaps: what stands still stands -/
section
variable {K : PySem.W.Frag} {H H1 H2 : Hp} {ps qs : List Addr} {a b p : Addr} {o u : HO}
/-- the kind of what stands -/
def ko : HO → Nat
  | .lst _ => 0 | .tup _ => 1 | .dK _ => 2 | .dT _ => 3 | .set _ _ => 4 | .ins _ _ _ => 5 | .own _ => 6 | .xd _ => 7 | .met _ _ => 8 | .rng _ _ => 9 | .frz _ _ => 10 | .tbl _ => 11
  | _ => 12
def Th (H : Hp) (a : Addr) (i : Nat) : Prop := ∃ o, H a = some o ∧ ko o = i
theorem Th.of (h : H a = some o) : Th H a (ko o) := ⟨o, h, rfl⟩
theorem Th.lst {xs : List V} (h : H a = some (.lst xs)) : Th H a 0 := ⟨_, h, rfl⟩
theorem Th.tup {xs : List V} (h : H a = some (.tup xs)) : Th H a 1 := ⟨_, h, rfl⟩
theorem Th.dK {xs : List (Key × V)} (h : H a = some (.dK xs)) : Th H a 2 := ⟨_, h, rfl⟩
theorem Th.ins {C dx : Addr} {xs : List (Str × V)} (h : H a = some (.ins C dx xs)) : Th H a 5 := ⟨_, h, rfl⟩
theorem Th.xd {xs : List (Str × V)} (h : H a = some (.xd xs)) : Th H a 7 := ⟨_, h, rfl⟩
/-- all that stood, but at the places ps, stands as it stood; and what stood stands, of its kind -/
structure Kp (ps : List Addr) (H H' : Hp) : Prop where
  keep : ∀ b o, H b = some o → b ∉ ps → H' b = some o
  kd : ∀ b i, Th H b i → Th H' b i
  tp : ∀ b xs, H b = some (.tup xs) → H' b = some (.tup xs)
theorem Kp.dom (h : Kp ps H H1) (b : Addr) (n : H1 b = none) : H b = none := by
  cases e : H b with
  | none => rfl
  | some o =>
    obtain ⟨o', e', _⟩ := h.kd b _ (Th.of e)
    rw [e'] at n; cases n
theorem Kp.refl : Kp ps H H := ⟨fun _ _ e _ => e, fun _ _ e => e, fun _ _ e => e⟩
theorem Kp.trans (h : Kp ps H H1) (g : Kp ps H1 H2) : Kp ps H H2 := ⟨fun b o e n => g.keep b o (h.keep b o e n) n, fun b i e => g.kd b i (h.kd b i e), fun b xs e => g.tp b xs (h.tp b xs e)⟩
theorem Kp.mono (h : Kp ps H H1) (g : ∀ a ∈ ps, a ∈ qs) : Kp qs H H1 := ⟨fun b o e n => h.keep b o e fun m => n (g b m), h.kd, h.tp⟩
theorem Kp.nil (h : Kp [] H H1) : Kp ps H H1 := h.mono fun _ m => nomatch m
theorem Kp.get (h : Kp ps H H1) (e : H b = some o) (n : b ∉ ps) : H1 b = some o := h.keep b o e n
theorem Kp.get0 (h : Kp [] H H1) (e : H b = some o) : H1 b = some o := h.keep b o e (by simp)
theorem Kp.get1 (h : Kp [p] H H1) (e : H b = some o) (n : b ≠ p) : H1 b = some o := h.keep b o e (by simpa using n)
theorem Kp.new (h : Kp ps H H1) (n : H1 p = none) : Kp ps H (upd H1 p u) := ⟨fun b o e m => by
  have e1 := h.keep b o e m
  rw [upd_ne (ne_of_none e1 n)]
  exact e1, fun b i e => by
  obtain ⟨o, e1, r⟩ := h.kd b i e
  exact ⟨o, by rw [upd_ne (ne_of_none e1 n)]; exact e1, r⟩, fun b xs e => by
  have e1 := h.tp b xs e
  rw [upd_ne (ne_of_none e1 n)]
  exact e1⟩
theorem Kp.put (h : Kp ps H H1) (m : p ∈ ps) (z : Th H1 p (ko u)) (y : Nat.beq (ko u) 1 = false := by rfl) : Kp ps H (upd H1 p u) := ⟨fun b o e n => by
  rw [upd_ne (fun z => n (by rw [z]; exact m))]
  exact h.keep b o e n, fun b i e => by
  by_cases y : b = p
  · subst y
    obtain ⟨o1, e1, r1⟩ := z
    obtain ⟨o2, e2, r2⟩ := h.kd b i e
    rw [e1] at e2
    cases e2
    exact ⟨u, upd_same, by rw [← r1, r2]⟩
  · obtain ⟨o2, e2, r2⟩ := h.kd b i e
    exact ⟨o2, by rw [upd_ne y]; exact e2, r2⟩, fun b xs e => by
  have e1 := h.tp b xs e
  have n : b ≠ p := fun x => by
    subst x
    obtain ⟨o1, e2, r1⟩ := z
    rw [e1] at e2
    cases e2
    rw [← r1] at y
    cases y
  rw [upd_ne n]
  exact e1⟩
theorem Kp.tgt {xs : List V} (h : Kp ps H H1) (e : H b = some (.tup xs)) : H1 b = some (.tup xs) := h.tp b xs e
theorem Kp.fresh (h : Kp ps H H1) (n : H1 p = none) : H p = none := h.dom p n
theorem Kp.fresh0 (h : Kp [] H H1) (n : H1 p = none) : H p = none := h.dom p n
/-- a place that did not stand may have changed -/
theorem Kp.drop (h : Kp (p :: ps) H H1) (n : H p = none) : Kp ps H H1 := ⟨fun b o e m => h.keep b o e (by
  intro z
  rcases List.mem_cons.mp z with z | z
  · subst z; rw [n] at e; cases e
  · exact m z), h.kd, h.tp⟩
/-- a new object, the heap behind it as a letter -/
theorem new_abs {o : HO} {R : Addr → Hp → Prop} (h : ∀ p H', H p = none → H' p = some o → Kp [] H H' → R p H') : ∀ p, H p = none → R p (upd H p o) :=
  fun p f => h p _ f upd_same (Kp.refl.new f)
theorem s_newl {Q : VK} {xs : List V} (hz : xs.length ≤ sizeLine) (h : ∀ p H', H p = none → H' p = some (.lst xs) → Kp [] H H' → Q (.ref p) H') : LstK Q xs H := ⟨hz, new_abs h⟩
theorem s_newt {Q : VK} {xs : List V} (hz : xs.length ≤ sizeLine) (h : ∀ p H', H p = none → H' p = some (.tup xs) → Kp [] H H' → Q (.ref p) H') : TupK Q xs H := ⟨hz, new_abs h⟩
theorem s_addl {Q : VK} {p q : Addr} {xs ys : List V} (h1 : H p = some (.lst xs)) (h2 : H q = some (.lst ys)) (h : xs.length + ys.length ≤ sizeLine)
    (z : ∀ p' H', H p' = none → H' p' = some (.lst (xs ++ ys)) → Kp [] H H' → Q (.ref p') H') : uAdd K (.ref p) (.ref q) H Q :=
  Or.inr (Or.inr (Or.inl ⟨p, q, xs, ys, rfl, rfl, h1, h2, h, new_abs z⟩))
theorem Kp.rd (h : Kp [] H H1) (e : Rd H a u) : Rd H1 a u := by
  rcases e with e | ⟨o, e⟩
  · exact Or.inl (h.get0 e)
  · exact Or.inr ⟨o, h.get0 e⟩
theorem Kp.sql {xs : List V} (h : Kp [] H H1) (e : SqL K H a xs) : SqL K H1 a xs := by
  rcases e with e | e
  · exact Or.inl (h.rd e)
  · exact Or.inr e
theorem Kp.sqt {xs : List V} (h : Kp [] H H1) (e : SqT K H a xs) : SqT K H1 a xs := by
  rcases e with e | e
  · exact Or.inl (h.rd e)
  · exact Or.inr e
end
end U

namespace U
open PySem L2 PySem.Spec PyProof.Rows

/-! promises by the number of arguments -/
abbrev P0 := Hp → VK → XK → Prop
def sp0 (F : P0) : Sp := fun vs H Q E => vs = [] ∧ F H Q E
def sp1 (F : V → P0) : Sp := fun vs H Q E => ∃ a, vs = [a] ∧ F a H Q E
def sp2 (F : V → V → P0) : Sp := fun vs H Q E => ∃ a b, vs = [a, b] ∧ F a b H Q E
def sp3 (F : V → V → V → P0) : Sp := fun vs H Q E => ∃ a b c, vs = [a, b, c] ∧ F a b c H Q E
def sp4 (F : V → V → V → V → P0) : Sp := fun vs H Q E => ∃ a b c d, vs = [a, b, c, d] ∧ F a b c d H Q E
def sp5 (F : V → V → V → V → V → P0) : Sp := fun vs H Q E => ∃ a b c d e, vs = [a, b, c, d, e] ∧ F a b c d e H Q E
def sp6 (F : V → V → V → V → V → V → P0) : Sp := fun vs H Q E => ∃ a b c d e f, vs = [a, b, c, d, e, f] ∧ F a b c d e f H Q E
section
variable {H : Hp} {Q : VK} {E : XK} {a b c d e f : V}
theorem s_sp0 {F : P0} (h : F H Q E) : sp0 F [] H Q E := ⟨rfl, h⟩
theorem s_sp1 {F : V → P0} (h : F a H Q E) : sp1 F [a] H Q E := ⟨a, rfl, h⟩
theorem s_sp2 {F : V → V → P0} (h : F a b H Q E) : sp2 F [a, b] H Q E := ⟨a, b, rfl, h⟩
theorem s_sp3 {F : V → V → V → P0} (h : F a b c H Q E) : sp3 F [a, b, c] H Q E := ⟨a, b, c, rfl, h⟩
theorem s_sp4 {F : V → V → V → V → P0} (h : F a b c d H Q E) : sp4 F [a, b, c, d] H Q E := ⟨a, b, c, d, rfl, h⟩
theorem s_sp5 {F : V → V → V → V → V → P0} (h : F a b c d e H Q E) : sp5 F [a, b, c, d, e] H Q E := ⟨a, b, c, d, e, rfl, h⟩
theorem s_sp6 {F : V → V → V → V → V → V → P0} (h : F a b c d e f H Q E) : sp6 F [a, b, c, d, e, f] H Q E := ⟨a, b, c, d, e, f, rfl, h⟩
end

/-! built-in names -/
theorem bt_len : bootBuiltins "len" = some (.builtin "len") := by decide +kernel
theorem bt_max : bootBuiltins "max" = some (.builtin "max") := by decide +kernel
theorem bt_min : bootBuiltins "min" = some (.builtin "min") := by decide +kernel
theorem bt_all : bootBuiltins "all" = some (.builtin "all") := by decide +kernel
theorem bt_any : bootBuiltins "any" = some (.builtin "any") := by decide +kernel
theorem bt_repr : bootBuiltins "repr" = some (.builtin "repr") := by decide +kernel
theorem bt_sorted : bootBuiltins "sorted" = some (.builtin "sorted") := by decide +kernel
theorem bt_sum : bootBuiltins "sum" = some (.builtin "sum") := by decide +kernel
theorem bt_isinstance : bootBuiltins "isinstance" = some (.builtin "isinstance") := by decide +kernel
theorem bt_int : bootBuiltins "int" = some (.type "int") := by decide +kernel
theorem bt_bool : bootBuiltins "bool" = some (.type "bool") := by decide +kernel
theorem bt_str : bootBuiltins "str" = some (.type "str") := by decide +kernel
theorem bt_list : bootBuiltins "list" = some (.type "list") := by decide +kernel
theorem bt_tuple : bootBuiltins "tuple" = some (.type "tuple") := by decide +kernel
theorem bt_dict : bootBuiltins "dict" = some (.type "dict") := by decide +kernel
theorem bt_set : bootBuiltins "set" = some (.type "set") := by decide +kernel
theorem bt_range : bootBuiltins "range" = some (.type "range") := by decide +kernel

section
variable {X : Cx} {K : PySem.W.Frag}
def uLen (K : PySem.W.Frag) : List V → Hp → VK → Prop := fun xs H Q => (∃ x n, xs = [x] ∧ LenV K x H n ∧ Q (.int n) H) ∨ ∃ a kvs, xs = [V.ref a] ∧ H a = some (.dK kvs) ∧ Q (.int kvs.length) H
theorem c_len (hK : X.K = K) : CallR X (.builtin "len") (uLen K) := hK ▸ call_len.or call_lenD
def uMax : List V → Hp → VK → Prop := fun xs H Q => ∃ i j, xs = [.int i, .int j] ∧ Q (.int (if j > i then j else i)) H
def uMin : List V → Hp → VK → Prop := fun xs H Q => ∃ i j, xs = [.int i, .int j] ∧ Q (.int (if j < i then j else i)) H
theorem c_max (hc : X.calm = true) : CallR X (.builtin "max") uMax := call_max2 hc
theorem c_min (hc : X.calm = true) : CallR X (.builtin "min") uMin := call_min2 hc
def uStr : List V → Hp → VK → Prop := fun xs H Q => ∃ i, xs = [.int i] ∧ i.natAbs.log2 < 1920 ∧ Q (.str (toString i)) H
theorem c_isi (hK : X.K = K) : CallR X (.builtin "isinstance") (rIsi K) := hK ▸ call_isi
theorem c_all (hK : X.K = K) (hc : X.calm = true) : CallR X (.builtin "all") (rAll K) := hK ▸ cr_all hc
theorem c_any (hK : X.K = K) (hc : X.calm = true) : CallR X (.builtin "any") (rAny K) := hK ▸ cr_any hc
theorem c_repr {k : Nat} (hK : X.K = K) (hg : X.A.guards = some []) (hr : Room k X.A) (hs : ∃ mm, X.base.Ns sysModules mm) : CallR X (.builtin "repr") (rRepr K) := hK ▸ call_repr hg hr hs
theorem c_str : CallR X (.type "str") uStr := call_str_int
end

def uJoin (K : PySem.W.Frag) : V → List V → Hp → VK → Prop := fun x xs H Q => ∃ a p, ∃ ys : List Str, x = .str a ∧ xs = [.ref p] ∧ (SqL K H p (ys.map V.str) ∨ SqT K H p (ys.map V.str)) ∧
  (ys.map (·.length)).sum + ys.length * a.length ≤ 16777216 ∧ Q (.str (Txt.join a ys)) H
theorem pe_joinU {X : Cx} {K : PySem.W.Frag} {o e : Expr} {to te : TE} {ap pos : Pos} (hK : X.K = K) (ho : PE X o to) (he : PE X e te) (h1 : starEach [e] X.env = [(false, eval e X.env)] := by rfl) (h2 : attributeBase o "join" X.env (eval o X.env) = eval o X.env := by rfl)
    (h3 : (ap.endLine == pos.line) = true := by rfl) : PE X (.Call (.Attribute o "join" ap) [e] [] pos) (tM1 (uJoin K) to te) := hK ▸ pe_join ho he h1 h2 h3

theorem pi_lst {X : Cx} {K : PySem.W.Frag} {tg l : Expr} {tl : TE} (hK : X.K = K) (hl : PE X l tl) : PI X tg l (iList K tl) := hK ▸ pi_list hl
theorem pi_tpl {X : Cx} {K : PySem.W.Frag} {tg l : Expr} {tl : TE} (hK : X.K = K) (hl : PE X l tl) : PI X tg l (iTup K tl) := hK ▸ pi_tup hl

/-! more steps -/
theorem zle {n : Nat} (h : n ≤ 1000000) : n ≤ sizeLine := Nat.le_trans h (by decide)
/-- what kind of thing a value is -/
inductive Kd | non | bl | int | str | lst | tup | dic
def Kd.nm : Kd → String
  | .non => "NoneType" | .bl => "bool" | .int => "int" | .str => "str" | .lst => "list" | .tup => "tuple" | .dic => "dict"
inductive TyN (H : Hp) : V → Kd → Prop
  | non : TyN H .non .non
  | bl {b : Bool} : TyN H (.bl b) .bl
  | int {i : Int} : TyN H (.int i) .int
  | str {z : Str} : TyN H (.str z) .str
  | lst {a : Addr} {xs : List V} : H a = some (.lst xs) → TyN H (.ref a) .lst
  | tup {a : Addr} {xs : List V} : H a = some (.tup xs) → TyN H (.ref a) .tup
  | dic {a : Addr} {kvs : List (Key × V)} : H a = some (.dK kvs) → TyN H (.ref a) .dic
theorem TyN.ty {K : PySem.W.Frag} {H : Hp} {v : V} {n : Kd} (h : TyN H v n) : TyX K H v (.type n.nm) := by
  cases h with
  | non => exact .base .non
  | bl => exact .base (.bl _)
  | int => exact .base (.int _)
  | str => exact .base (.str _)
  | lst e => exact .base (.lst e)
  | tup e => exact .base (.tup e)
  | dic e => exact .base (.dK e)
theorem TyN.kp {H H' : Hp} {v : V} {n : Kd} (h : TyN H v n) (k : Kp [] H H') : TyN H' v n := by
  cases h with
  | non => exact .non
  | bl => exact .bl
  | int => exact .int
  | str => exact .str
  | lst e => exact .lst (k.get0 e)
  | tup e => exact .tup (k.get0 e)
  | dic e => exact .dic (k.get0 e)
def Kd.isInt : Kd → Bool | .int => true | .bl => true | _ => false
def Kd.isBool : Kd → Bool | .bl => true | _ => false
def Kd.isStr : Kd → Bool | .str => true | _ => false
def Kd.isList : Kd → Bool | .lst => true | _ => false
def Kd.isTup : Kd → Bool | .tup => true | _ => false
def Kd.isDict : Kd → Bool | .dic => true | _ => false
theorem kb_int (t : Kd) : kitB t.nm "int" = some t.isInt := by cases t <;> decide +kernel
theorem kb_bool (t : Kd) : kitB t.nm "bool" = some t.isBool := by cases t <;> decide +kernel
theorem kb_str (t : Kd) : kitB t.nm "str" = some t.isStr := by cases t <;> decide +kernel
theorem kb_list (t : Kd) : kitB t.nm "list" = some t.isList := by cases t <;> decide +kernel
theorem kb_tup (t : Kd) : kitB t.nm "tuple" = some t.isTup := by cases t <;> decide +kernel
theorem kb_dict (t : Kd) : kitB t.nm "dict" = some t.isDict := by cases t <;> decide +kernel
section
variable {K : PySem.W.Frag} {σ : L2.St} {H : Hp} {Q : VK} {D : Ends} {x y v : V} {i : Nat} {n m : Int} {a b : Str}
theorem s_max2 (q : Q (.int (if m > n then m else n)) H) : uMax [.int n, .int m] H Q := ⟨n, m, rfl, q⟩
theorem s_min2 (q : Q (.int (if m < n then m else n)) H) : uMin [.int n, .int m] H Q := ⟨n, m, rfl, q⟩
theorem s_lens (h : a.length ≤ sizeLine) (q : Q (.int a.length) H) : uLen K [.str a] H Q := Or.inl ⟨_, a.length, rfl, ⟨h, rfl⟩, q⟩
theorem s_lenL {p : Addr} {xs : List V} (h : SqL K H p xs) (q : Q (.int xs.length) H) : uLen K [.ref p] H Q := Or.inl ⟨_, xs.length, rfl, Or.inl ⟨xs, h, rfl⟩, q⟩
theorem s_lenl {p : Addr} {xs : List V} (h : H p = some (.lst xs)) (q : Q (.int xs.length) H) : uLen K [.ref p] H Q := s_lenL (SqL.of h) q
theorem s_lent {p : Addr} {xs : List V} (h : H p = some (.tup xs)) (q : Q (.int xs.length) H) : uLen K [.ref p] H Q := Or.inl ⟨_, xs.length, rfl, Or.inr ⟨xs, SqT.of h, rfl⟩, q⟩
theorem s_lend {p : Addr} {xs : List (Key × V)} (h : H p = some (.dK xs)) (q : Q (.int xs.length) H) : uLen K [.ref p] H Q := Or.inr ⟨p, xs, rfl, h, q⟩
theorem s_str (h : n.natAbs.log2 < 1920) (q : Q (.str (toString n)) H) : uStr [.int n] H Q := ⟨n, rfl, h, q⟩
theorem s_isi0 {s t : String} {k : Bool} (h : TyX K H v (.type s)) (hk : kitB s t = some k) (q : Q (.bl k) H) : rIsi K [v, .ty t] H Q := ⟨v, .ty t, .type s, .type t, k, rfl, .ty t, h, kit_ty hk, q⟩
theorem s_isInt {t : Kd} (h : TyN H v t) (q : Q (.bl t.isInt) H) : rIsi K [v, .ty "int"] H Q := s_isi0 h.ty (kb_int t) q
theorem s_isBool {t : Kd} (h : TyN H v t) (q : Q (.bl t.isBool) H) : rIsi K [v, .ty "bool"] H Q := s_isi0 h.ty (kb_bool t) q
theorem s_isStr {t : Kd} (h : TyN H v t) (q : Q (.bl t.isStr) H) : rIsi K [v, .ty "str"] H Q := s_isi0 h.ty (kb_str t) q
theorem s_isList {t : Kd} (h : TyN H v t) (q : Q (.bl t.isList) H) : rIsi K [v, .ty "list"] H Q := s_isi0 h.ty (kb_list t) q
theorem s_isTup {t : Kd} (h : TyN H v t) (q : Q (.bl t.isTup) H) : rIsi K [v, .ty "tuple"] H Q := s_isi0 h.ty (kb_tup t) q
theorem s_isDict {t : Kd} (h : TyN H v t) (q : Q (.bl t.isDict) H) : rIsi K [v, .ty "dict"] H Q := s_isi0 h.ty (kb_dict t) q
theorem s_itT {k : Bool} {A B : Prop} (e : k = true) (h : A) : if k = true then A else B := by subst e; exact h
theorem s_itF {k : Bool} {A B : Prop} (e : k = false) (h : B) : if k = true then A else B := by subst e; exact h
theorem s_sl {r : V → Option Int → Option Int → Hp → VK → Prop} {te : TE} {tl th : TO} (h : te σ H fun x H1 => tl σ H1 fun l H2 => th σ H2 fun u H3 => r x l u H3 Q) : tSl r te tl th σ H Q := h
theorem s_nopart {Q : Option Int → Hp → Prop} (q : Q none H) : tNoPart σ H Q := q
theorem s_part {Q : Option Int → Hp → Prop} {t : TE} (h : t σ H fun x H1 => ∃ i, x = .int i ∧ Q (some i) H1) : tPart t σ H Q := h
theorem s_int {P : Int → Prop} (q : P n) : ∃ i, V.int n = .int i ∧ P i := ⟨n, rfl, q⟩
theorem s_sls {lo hi : Option Int} (h : a.length ≤ sizeLine) (q : Q (.str (cutS a lo hi)) H) : uSl K (.str a) lo hi H Q := Or.inr (Or.inl ⟨a, rfl, h, q⟩)
theorem s_sll {lo hi : Option Int} {p : Addr} {xs : List V} (h : SqL K H p xs) (q : ∀ p' H', H p' = none → H' p' = some (.lst (cutV xs lo hi)) → Kp [] H H' → Q (.ref p') H') : uSl K (.ref p) lo hi H Q := Or.inl ⟨p, xs, rfl, h, new_abs q⟩
theorem s_m1 {r : V → List V → Hp → VK → Prop} {to te : TE} (h : to σ H fun x H1 => (∃ a, x = .str a) ∧ te σ H1 fun y H2 => r x [y] H2 Q) : tM1 r to te σ H Q := h
theorem s_isstr {R : Prop} (h : R) : (∃ b, V.str a = .str b) ∧ R := ⟨⟨a, rfl⟩, h⟩
theorem s_join {p : Addr} {ys : List Str} (h : H p = some (.lst (ys.map V.str))) (hz : (ys.map (·.length)).sum + ys.length * a.length ≤ 16777216) (q : Q (.str (Txt.join a ys)) H) : uJoin K (.str a) [.ref p] H Q :=
  ⟨a, p, ys, rfl, rfl, Or.inl (SqL.of h), hz, q⟩
theorem s_rng1 {ta : TA} {R : It → Hp → Prop} (h : ta σ H fun vs H1 => ∃ j : Int, vs = [.int j] ∧ -(2 ^ 62) ≤ j ∧ j < 2 ^ 62 ∧ R (Itr 0 j.toNat) H1) : iRng1 ta σ H R := h
theorem s_rng {R : Int → Prop} (h1 : -(2 ^ 62) ≤ n) (h2 : n < 2 ^ 62) (q : R n) : ∃ j : Int, [V.int n] = [.int j] ∧ -(2 ^ 62) ≤ j ∧ j < 2 ^ 62 ∧ R j := ⟨n, rfl, h1, h2, q⟩
theorem s_ilist {tl : TE} {R : It → Hp → Prop} (h : tl σ H fun x H1 => ∃ a, x = .ref a ∧ (∃ xs, SqL K H1 a xs) ∧ R (Itl K a) H1) : iList K tl σ H R := h
theorem s_ilst {p : Addr} {xs : List V} {R : Addr → Prop} (h : SqL K H p xs) (q : R p) : ∃ a, V.ref p = .ref a ∧ (∃ xs, SqL K H a xs) ∧ R a := ⟨p, rfl, ⟨xs, h⟩, q⟩
theorem s_istr {te : TE} {R : It → Hp → Prop} (h : te σ H fun v H1 => ∃ x, v = .str x ∧ R (Its x) H1) : iStr te σ H R := h
theorem s_istr1 {R : Str → Prop} (q : R a) : ∃ x, V.str a = .str x ∧ R x := ⟨a, rfl, q⟩
theorem s_dnew (h : ∀ d H', H d = none → H' d = some (.dK []) → Kp [] H H' → Q (.ref d) H') : tDNewK σ H Q := new_abs (R := fun d H' => Q (.ref d) H') h
theorem s_all {p : Addr} {bs : List Bool} (h : H p = some (.lst (bs.map V.bl))) (q : Q (.bl (bs.all id)) H) : rAll K [.ref p] H Q := ⟨p, bs, rfl, SqL.of h, q⟩
theorem s_yes {Q : Bool → Hp → Prop} (q : Q true H) : tYes σ H Q := q
theorem dpa_strs : ∀ zs : List Str, DpAll K H (zs.map V.str) (zs.map PyData.str)
  | [] => .nil
  | z :: zs => .cons (.str z) (dpa_strs zs)
theorem lay_strs : ∀ {zs : List Str}, (∀ z ∈ zs, ∀ c ∈ z.cps.toList, c < 1114112) → PyData.canLayAll0 (zs.map PyData.str) = true ∧ PyData.depthAll (zs.map PyData.str) ≤ 1
  | [], _ => ⟨rfl, by simp [PyData.depthAll]⟩
  | z :: zs, h => by
    obtain ⟨h1, h2⟩ := lay_strs (zs := zs) fun y hy => h y (List.mem_cons_of_mem _ hy)
    refine ⟨?_, ?_⟩
    · simp only [List.map_cons, PyData.canLayAll0, PyData.canLay0, h1, Bool.and_true, PyData.strOk, Array.all_eq_true', decide_eq_true_eq]
      intro c hc
      exact h z List.mem_cons_self c (by simpa using hc)
    · simp only [List.map_cons, PyData.depthAll, PyData.depth]
      omega
theorem shp_strs {zs : List Str} (h : ∀ z ∈ zs, ∀ c ∈ z.cps.toList, c < 1114112) : SeqAt.shaped (.list (zs.map PyData.str)) = true := by
  obtain ⟨h1, h2⟩ := lay_strs h
  unfold SeqAt.shaped
  rw [Bool.and_eq_true]
  refine ⟨by simpa only [PyData.canLay0] using h1, decide_eq_true ?_⟩
  simp only [PyData.depth]
  omega
theorem s_eqNil {p q : Addr} {zs : List Str} (h1 : H p = some (.lst (zs.map V.str))) (h2 : H q = some (.lst [])) (ok : ∀ z ∈ zs, ∀ c ∈ z.cps.toList, c < 1114112) (k : Q (.bl zs.isEmpty) H) : uEq K (.ref p) (.ref q) H Q := by
  refine Or.inr ⟨_, _, .lst (SqL.of h1) (dpa_strs zs), .lst (SqL.of h2) .nil, shp_strs ok, by decide +kernel, ?_⟩
  have e : PyData.eqv (.list (zs.map PyData.str)) (.list []) = zs.isEmpty := by
    cases zs <;> simp [PyData.eqv, PyData.eqvAll]
  rw [e]
  exact k
/-- a comprehension -/
theorem s_lc {wi : TI} {g : TG} {tt : TT} {te : TE} {vs : List Nat} (h : wi σ H fun J H1 => ∀ D, H1 D = none → ∃ W : Nat → Nat → Hp → Prop, (∃ m, W 0 m (upd H1 D (.lst []))) ∧ ∀ i m H, W i m H →
    (J.stop i H ∧ Q (.ref D) H) ∨ (J.go i H ∧ ∃ Nx : Hp → Prop, (∀ H', Nx H' → ∃ m', m' < m ∧ W (i + 1) m' H') ∧ ∀ x H', J.yld i H x H' → g x (wipe σ vs) H' fun σ2 H2 => wipe σ2 vs = wipe σ vs ∧ tt σ2 H2 fun b H3 =>
      if b = true then te σ2 H3 fun y H4 => ∃ acc, H4 D = some (.lst acc) ∧ acc.length < sizeLine ∧ Nx (upd H4 D (.lst (acc ++ [y]))) else Nx H3)) : tLc wi g tt te vs σ H Q := h
/-- a loop -/
theorem s_for {wi : TI} {g : TG} {tb : TS} (h : wi σ H fun J H1 => ∃ W : Nat → Nat → L2.St → Hp → Prop, (∃ m, W 0 m σ H1) ∧ ∀ i m σ H, W i m σ H →
    (J.stop i H ∧ D.nx σ H) ∨ (J.go i H ∧ ∃ N : L2.St → Hp → Prop, (∀ σ' H', N σ' H' → ∃ m', m' < m ∧ W (i + 1) m' σ' H') ∧ ∀ x H', J.yld i H x H' → g x σ H' fun σ2 H2 => tb { D with nx := N, ct := N, bk := D.nx } σ2 H2)) : tFor wi g tb D σ H := h
/-- a comprehension's invariant, by the items made so far -/
def PvD (D : Addr) (Pv : Nat → List V → Hp → Prop) (i : Nat) (H : Hp) : Prop := ∃ acc, H D = some (.lst acc) ∧ Pv i acc H
theorem PvD.start {D : Addr} {Pv : Nat → List V → Hp → Prop} (h : Pv 0 [] (upd H D (.lst []))) : PvD D Pv 0 (upd H D (.lst [])) := ⟨[], upd_same, h⟩
theorem PvD.more {D : Addr} {Pv : Nat → List V → Hp → Prop} {acc : List V} (e : H D = some (.lst acc)) (hz : acc.length < sizeLine) (h : Pv i (acc ++ [y]) (upd H D (.lst (acc ++ [y])))) :
    ∃ acc, H D = some (.lst acc) ∧ acc.length < sizeLine ∧ PvD D Pv i (upd H D (.lst (acc ++ [y]))) := ⟨acc, e, hz, acc ++ [y], upd_same, h⟩
theorem PvD.skip {D : Addr} {Pv : Nat → List V → Hp → Prop} {acc : List V} (e : H D = some (.lst acc)) (h : Pv i acc H) : PvD D Pv i H := ⟨acc, e, h⟩
end
end U

namespace U
open PySem L2 PySem.Spec PyProof.Rows
theorem log2s {m : Nat} (h : m < 10 ^ 100) : m.log2 < 1920 := log2_small (Nat.lt_of_lt_of_le h (by decide +kernel))
/-- a text of at most n signs -/
structure SS (z : Str) (n : Nat) : Prop where
  len : z.length ≤ n
  ok : ∀ c ∈ z.cps.toList, c < 1114112
theorem SS.mono {z : Str} {n m : Nat} (h : SS z n) (e : n ≤ m) : SS z m := ⟨Nat.le_trans h.len e, h.ok⟩
theorem SS.app {a b : Str} {n m : Nat} (h : SS a n) (g : SS b m) : SS (a ++ b) (n + m) := by
  refine ⟨by rw [Str.length_append]; have := h.len; have := g.len; omega, fun c hc => ?_⟩
  rw [Str.cps_append, Array.toList_append, List.mem_append] at hc
  rcases hc with hc | hc
  · exact h.ok c hc
  · exact g.ok c hc
theorem SS.cut {a : Str} {n : Nat} {lo hi : Option Int} (h : SS a n) : SS (cutS a lo hi) n := by
  refine ⟨?_, fun c hc => ?_⟩
  · show (List.toArray _).size ≤ n
    rw [List.size_toArray, List.length_take, List.length_drop, Array.length_toList]
    have : a.cps.size ≤ n := h.len
    omega
  · have hc : c ∈ (List.take (HT.sIx a.length a.length hi - HT.sIx a.length 0 lo) (List.drop (HT.sIx a.length 0 lo) a.cps.toList)) := by simpa [cutS] using hc
    exact h.ok c (List.mem_of_mem_drop (List.mem_of_mem_take hc))
theorem SS.one {c : Nat} (h : c < 1114112) : SS ⟨#[c]⟩ 1 := ⟨by simp [Str.length], fun d hd => by
  have : d = c := by simpa using hd
  subst this; exact h⟩
theorem SS.mk' {z : Str} {n : Nat} (h : z.length ≤ n ∧ ∀ c ∈ z.cps.toList, c < 1114112) : SS z n := ⟨h.1, h.2⟩
theorem join_ones : ∀ cs : List Nat, Txt.join (Str.ofString "") (cs.map fun c => ⟨#[c]⟩) = ⟨cs.toArray⟩ := fun cs => by
  rw [show ∀ y l, Txt.join y l = Str.join y l from fun y l => StrLaws.glued_eq_join y l]
  have e0 : Str.ofString "" = Str.empty := by decide +kernel
  rw [e0]
  induction cs with
  | nil => rfl
  | cons c cs ih =>
    cases cs with
    | nil => rfl
    | cons d cs =>
      show (⟨#[c]⟩ : Str) ++ Str.empty ++ Str.join Str.empty ((d :: cs).map fun c => ⟨#[c]⟩) = _
      rw [ih]
      refine Str.ext' ?_
      simp [Str.cps_append, Str.empty]
theorem SS.ones {cs : List Nat} (h : ∀ c ∈ cs, c < 1114112) : SS (Txt.join (Str.ofString "") (cs.map fun c => ⟨#[c]⟩)) cs.length := by
  rw [join_ones]
  exact ⟨by simp [Str.length], by simpa using h⟩
theorem SS.num {i : Int} (h : i.natAbs < 10 ^ 100) : SS (Str.ofString (toString i)) 102 := by
  refine ⟨int_len h, fun c hc => ?_⟩
  rw [Str.ofString_eq_toList] at hc
  have hc : c ∈ (toString i).toList.map Char.toNat := by simpa using hc
  obtain ⟨d, _, rfl⟩ := List.mem_map.mp hc
  have h2 : d.toNat.isValidChar := d.valid
  unfold Nat.isValidChar at h2
  omega
theorem SS.at {z : Str} {n : Nat} {i : Int} (h : SS z n) (h0 : 0 ≤ i) (h1 : i < z.length) : ∃ c, atI z.cps.toList i = some c ∧ c < 1114112 ∧ c ∈ z.cps.toList := by
  obtain ⟨c, e1, e2⟩ := at_int (xs := z.cps.toList) h0 (by rw [Array.length_toList]; exact h1)
  have m := List.mem_of_getElem? e1
  exact ⟨c, e2, h.ok c m, m⟩
theorem ones_len (cs : List Nat) : ((cs.map fun c => (⟨#[c]⟩ : Str)).map (·.length)).sum = cs.length := by
  induction cs with
  | nil => rfl
  | cons c cs ih =>
    rw [List.map_cons, List.map_cons, List.sum_cons, ih, List.length_cons]
    simp [Str.length]
    omega
end U

namespace U
open PySem L2 PySem.Spec PyProof.Rows

theorem peImp {X : Cx} {e : Expr} {t u : TE} (h : PE X e t) (w : ∀ σ H (Q : VK), u σ H Q → ∃ Q0 : VK, t σ H Q0 ∧ ∀ x H1, Q0 x H1 → Q x H1) : PE X e u :=
  ⟨fun pi s σ H Q I q => by
    obtain ⟨Q0, q0, z⟩ := w σ H Q q
    exact thn (h.run pi s σ H Q0 I q0) fun a s1 ⟨x, H1, I1, r1, q1⟩ => ⟨x, H1, I1, r1, z x H1 q1⟩⟩
def tMo (t : TE) : TE := fun σ H Q => ∃ Q0 : VK, t σ H Q0 ∧ ∀ x H1, Q0 x H1 → Q x H1
theorem peMo {X : Cx} {e : Expr} {t : TE} (h : PE X e t) : PE X e (tMo t) := peImp h fun _ _ _ q => q
def tMa (t : TA) : TA := fun σ H Q => ∃ Q0 : List V → Hp → Prop, t σ H Q0 ∧ ∀ x H1, Q0 x H1 → Q x H1
theorem paMo {X : Cx} {es : List Expr} {t : TA} (h : PA X es t) : PA X es (tMa t) :=
  ⟨fun pos pi s σ H Q I ⟨Q0, q0, z⟩ => thn (h.run pos pi s σ H Q0 I q0) fun a s1 ⟨x, H1, I1, r1, q1⟩ => ⟨x, H1, I1, r1, z x H1 q1⟩⟩
theorem psImp {X : Cx} {st : Stmt} {t u : TS} (h : PS X st t) (w : ∀ D σ H, u D σ H → t D σ H) : PS X st u :=
  ⟨fun pi s σ H D I q => h.run pi s σ H D I (w D σ H q)⟩

/-! what is raised passes -/
section
variable {X : Cx} {E : XK}
theorem passF : Passes (L2.CX X.prog X.w) X (fun _ _ _ => False) := fun _ _ _ _ _ _ _ c => by
  obtain ⟨_, _, _, _, _, _, _, _, _, _, _, _, z⟩ := c
  exact z.elim
/-- the wish of a def's body -/
abbrev wE (E : XK) : WX := fun cls d _ H => E cls d H
abbrev wNo : WX := fun _ _ _ _ => False
end

/-! calls -/
section
variable {X : Cx} {k : Nat} {f C : Addr} {fd : FuncData} {ps : List Str} {sp : Sp} {W : WX} {x m : Str} {p ap pos : Pos} {e o : Expr} {es : List Expr} {t : TA} {ta : TE} {K : PySem.W.Frag}
variable {pi : List (Addr × Obj)} {σ : L2.St} {H : Hp} {s : Shared} {Q : VK} {us : List Value} {vs : List V}
theorem bind0 (hb : Binds X.K fd ps []) (I : Inv X pi σ H s) (r : Vals vs us) (l : vs.length = ps.length) : BindsTo s fd ⟨us, []⟩ (ps.zip us) := by
  have e1 : us ++ [] = us := List.append_nil us
  have b1 := hb s us I.kIn (by rw [e1, ← r.length]; exact l)
  rw [e1] at b1
  exact b1
theorem run_o (F : FnOk X.prog X.w X.K X.mg X.base (L2.CX X.prog X.w) k f fd ps sp) (hr : Room k X.A) (hb : Binds X.K fd ps []) (tk : Takes X W) (I : Inv X pi σ H s) (r : Vals vs us) (h : sp vs H Q (fun cls d H' => W cls d σ H')) :
    wpAny (model X.prog X.w) X.A (call (.ref f) us) (EP X pi σ Q) X.xe s := by
  refine wpAny_call (codeAny_mono (F.run X.A X.stack s H ⟨us, []⟩ us vs Q _ hr I.env0 (bind0 hb I r (F.len _ _ _ _ h)) r h) fun rr s' hq => ?_)
  match rr, hq with
  | .error er, z => exact tk er s' (XE.of_call I (fun _ _ _ y => y) z)
  | .ok (.ret u), z => exact I.after z
  | .ok .next, z => exact z.elim
  | .ok .brk, z => exact z.elim
  | .ok .cont, z => exact z.elim
theorem run_g (F : FnG X.prog X.w X.K X.mg X.base (L2.CX X.prog X.w) k f fd ps sp) (hg : X.A.guards = some []) (hr : Room k X.A) (hb : Binds X.K fd ps []) (tk : Takes X W) (I : Inv X pi σ H s) (r : Vals vs us) (h : sp vs H Q (fun cls d H' => W cls d σ H')) :
    wpAny (model X.prog X.w) X.A (call (.ref f) us) (EP X pi σ Q) X.xe s := by
  refine wpAny_call (codeAny_mono (F.run X.A X.stack s H ⟨us, []⟩ us vs Q _ hg hr I.env0 (bind0 hb I r (F.len _ _ _ _ h)) r h) fun rr s' hq => ?_)
  match rr, hq with
  | .error er, z => exact tk er s' (XE.of_call I (fun _ _ _ y => y) z)
  | .ok (.ret u), z => exact I.after z
  | .ok .next, z => exact z.elim
  | .ok .brk, z => exact z.elim
  | .ok .cont, z => exact z.elim
def tCo (sp : Sp) (W : WX) (t : TA) : TE := fun σ H Q => t σ H fun vs H1 => sp vs H1 Q fun cls d H' => W cls d σ H'
/-- f(e, ..), f of a promise that asks nothing of what is around -/
theorem pe_co (F : FnOk X.prog X.w X.K X.mg X.base (L2.CX X.prog X.w) k f fd ps sp) (hr : Room k X.A) (gl : Gl X x) (hm : X.mg x = some (.ref f)) (hk : PySem.W.keepIn X.K (.ref f) = true) (hb : Binds X.K fd ps []) (tk : Takes X W)
    (ha : PA X (e :: es) t) (h1 : (x == ("__debug__" : Str)) = false := by decide) (h2 : starEach (e :: es) X.env = (false, eval e X.env) :: starEach es X.env := by rfl) (h3 : (backTo pos (starEach es X.env)).any (·.1) = false := by rfl) :
    PE X (.Call (.Name x p) (e :: es) [] pos) (tCo sp W t) := by
  refine ⟨fun pi s σ H Q I h => wpAny_Call_Name_kw (ld_glob I gl hm ?_ h1)⟩
  refine PySem.W.callWith_K (h₀ := X.base) I.ok.mod.kin hk (thn (ha.run pos pi s σ H _ I h) ?_) h2 h3
  rintro us s1 ⟨vs, H1, I1, r, q⟩
  exact ⟨I1.kIn, run_o F hr hb tk I1 r q⟩
theorem pe_co0 (F : FnOk X.prog X.w X.K X.mg X.base (L2.CX X.prog X.w) k f fd ps sp) (hr : Room k X.A) (gl : Gl X x) (hm : X.mg x = some (.ref f)) (hk : PySem.W.keepIn X.K (.ref f) = true) (hb : Binds X.K fd ps []) (tk : Takes X W)
    (h1 : (x == ("__debug__" : Str)) = false := by decide) : PE X (.Call (.Name x p) [] [] pos) (tCo sp W tNil) :=
  ⟨fun pi s σ H Q I h => wpAny_Call_Name_kw (ld_glob I gl hm (PySem.W.callWith_K0 I.kIn hk (run_o (us := []) F hr hb tk I .nil h)) h1)⟩
/-- .. where no repr is under way -/
theorem pe_cg (F : FnG X.prog X.w X.K X.mg X.base (L2.CX X.prog X.w) k f fd ps sp) (hg : X.A.guards = some []) (hr : Room k X.A) (gl : Gl X x) (hm : X.mg x = some (.ref f)) (hk : PySem.W.keepIn X.K (.ref f) = true) (hb : Binds X.K fd ps []) (tk : Takes X W)
    (ha : PA X (e :: es) t) (h1 : (x == ("__debug__" : Str)) = false := by decide) (h2 : starEach (e :: es) X.env = (false, eval e X.env) :: starEach es X.env := by rfl) (h3 : (backTo pos (starEach es X.env)).any (·.1) = false := by rfl) :
    PE X (.Call (.Name x p) (e :: es) [] pos) (tCo sp W t) := by
  refine ⟨fun pi s σ H Q I h => wpAny_Call_Name_kw (ld_glob I gl hm ?_ h1)⟩
  refine PySem.W.callWith_K (h₀ := X.base) I.ok.mod.kin hk (thn (ha.run pos pi s σ H _ I h) ?_) h2 h3
  rintro us s1 ⟨vs, H1, I1, r, q⟩
  exact ⟨I1.kIn, run_g F hg hr hb tk I1 r q⟩
theorem pe_cg0 (F : FnG X.prog X.w X.K X.mg X.base (L2.CX X.prog X.w) k f fd ps sp) (hg : X.A.guards = some []) (hr : Room k X.A) (gl : Gl X x) (hm : X.mg x = some (.ref f)) (hk : PySem.W.keepIn X.K (.ref f) = true) (hb : Binds X.K fd ps []) (tk : Takes X W)
    (h1 : (x == ("__debug__" : Str)) = false := by decide) : PE X (.Call (.Name x p) [] [] pos) (tCo sp W tNil) :=
  ⟨fun pi s σ H Q I h => wpAny_Call_Name_kw (ld_glob I gl hm (PySem.W.callWith_K0 I.kIn hk (run_g (us := []) F hg hr hb tk I .nil h)) h1)⟩
/-- o.m(e, ..) -/
def MtK (C : Addr) (m : Str) (R : V → Hp → Prop) (x : V) (H : Hp) : Prop := ∃ a dx fs, x = .ref a ∧ H a = some (.ins C dx fs) ∧ fs.lookup m = none ∧ R x H
def tMt (C : Addr) (m : Str) (sp : Sp) (W : WX) (ta : TE) (t : TA) : TE := fun σ H Q => ta σ H (MtK C m fun x H1 => t σ H1 fun vs H2 => sp (x :: vs) H2 Q fun cls d H' => W cls d σ H')
theorem pe_mo {pl : Sem Bool} (c : Cls X.K C) (hm : Meth X.K C m f) (F : FnOk X.prog X.w X.K X.mg X.base (L2.CX X.prog X.w) k f fd ps sp) (hr : Room k X.A) (hb : Binds X.K fd ps []) (tk : Takes X W) (he : PE X o ta) (ha : PA X (e :: es) t)
    (h2 : starEach (e :: es) X.env = (false, eval e X.env) :: starEach es X.env := by rfl) (h3 : (backTo pos (starEach es X.env)).any (·.1) = false := by rfl)
    (h4 : eval (.Call (.Attribute o m ap) (e :: es) [] pos) X.env = (do
      let ov ← eval o X.env
      standAt ap.atName
      let (f, first) ← holding [ov] (getMethod ov m pl)
      callWith pos f first (backTo pos (starEach (e :: es) X.env)) (backToKw pos (keywordEach [] X.env))) := by rfl) :
    PE X (.Call (.Attribute o m ap) (e :: es) [] pos) (tMt C m sp W ta t) := by
  refine ⟨fun pi s σ H Q I h => PySem.W.methodCall_KW (pl := pl) (thn (he.run pi s σ H _ I h) ?_) h4⟩
  rintro u s1 ⟨x, H1, I1, rx, a, dx, fs, rfl, ea, l, q⟩
  obtain rfl : u = Value.ref a := rx
  refine getmeth_ok I1 ea c hm l (PySem.W.callWith_K (first := [.ref a]) (h₀ := X.base) I.ok.mod.kin hm.kp (thn (ha.run pos pi s1 σ H1 _ I1 q) ?_) h2 h3)
  rintro us s2 ⟨vs, H2, I2, r, q2⟩
  exact ⟨I2.kIn, run_o (us := .ref a :: us) (vs := .ref a :: vs) F hr hb tk I2 (.cons rfl r) q2⟩
theorem pe_mo0 {pl : Sem Bool} (c : Cls X.K C) (hm : Meth X.K C m f) (F : FnOk X.prog X.w X.K X.mg X.base (L2.CX X.prog X.w) k f fd ps sp) (hr : Room k X.A) (hb : Binds X.K fd ps []) (tk : Takes X W) (he : PE X o ta)
    (h4 : eval (.Call (.Attribute o m ap) [] [] pos) X.env = (do
      let ov ← eval o X.env
      standAt ap.atName
      let (f, first) ← holding [ov] (getMethod ov m pl)
      callWith pos f first (backTo pos (starEach [] X.env)) (backToKw pos (keywordEach [] X.env))) := by rfl) :
    PE X (.Call (.Attribute o m ap) [] [] pos) (tMt C m sp W ta tNil) := by
  refine ⟨fun pi s σ H Q I h => PySem.W.methodCall_KW (pl := pl) (thn (he.run pi s σ H _ I h) ?_) h4⟩
  rintro u s1 ⟨x, H1, I1, rx, a, dx, fs, rfl, ea, l, q⟩
  obtain rfl : u = Value.ref a := rx
  exact getmeth_ok I1 ea c hm l (PySem.W.callWith_K0 (first := [.ref a]) I1.kIn hm.kp (run_o (us := [.ref a]) (vs := [.ref a]) F hr hb tk I1 (.cons rfl .nil) q))
/-- C(e, ..) -/
def NewK (C : Addr) (sp : Sp) (E : XK) (Q : VK) (vs : List V) (H : Hp) : Prop := ∀ x dx H', H x = none → H' x = some (.ins C dx []) → Kp [] H H' → sp (.ref x :: vs) H' (fun v H2 => v = .non ∧ Q (.ref x) H2) E
def tNw (C : Addr) (sp : Sp) (W : WX) (t : TA) : TE := fun σ H Q => t σ H (NewK C sp (fun cls d H' => W cls d σ H') Q)
theorem run_nw (M : Mk X.K C f) (F : FnOk X.prog X.w X.K X.mg X.base (L2.CX X.prog X.w) k f fd ps sp) (hr : Room (k + 1) X.A) (hb : Binds X.K fd ps []) (tk : Takes X W) (I : Inv X pi σ H s) (r : Vals vs us)
    (h : NewK C sp (fun cls d H' => W cls d σ H') Q vs H) : wpAny (model X.prog X.w) X.A (call (.ref C) us) (EP X pi σ Q) X.xe s := by
  have n1 : H (s.heap.objs.size + 1) = none := I.hok.fresh (Nat.le_succ _)
  have n0 : H s.heap.objs.size = none := I.hok.fresh (Nat.le_refl _)
  have hq := h (s.heap.objs.size + 1) s.heap.objs.size _ n1 upd_same ((Kp.refl.new (u := .own (s.heap.objs.size + 1)) n0).new (by rw [upd_ne (Nat.succ_ne_self _)]; exact n1))
  have I2 := Inv.made (C := C) I
  have r2 : Vals (V.ref (s.heap.objs.size + 1) :: vs) (Value.ref (s.heap.objs.size + 1) :: us) := .cons rfl r
  refine wpAny_call (make_map (f := f) I.kIn M.makes M.init (beq_iff_eq.mp M.fn) (codeAny_mono (F.run _ X.stack _ _ ⟨Value.ref (s.heap.objs.size + 1) :: us, []⟩ (Value.ref (s.heap.objs.size + 1) :: us) _ _ _ (hr.make C us [])
    (I2.env0.make C us []) (bind0 hb I2 r2 (F.len _ _ _ _ hq)) r2 hq) fun rr s' z => ?_))
  match rr, z with
  | .error er, z => exact tk er s' (XE.of_call I2 (fun _ _ _ y => y) z)
  | .ok (.ret u), z =>
    obtain ⟨v, H', I3, rv, ev, q3⟩ := I2.after z
    subst ev
    exact ⟨rv, ⟨V.ref (s.heap.objs.size + 1), H', I3, rfl, q3⟩⟩
  | .ok .next, z => exact z.elim
  | .ok .brk, z => exact z.elim
  | .ok .cont, z => exact z.elim
theorem pe_nw (M : Mk X.K C f) (F : FnOk X.prog X.w X.K X.mg X.base (L2.CX X.prog X.w) k f fd ps sp) (hr : Room (k + 1) X.A) (gl : Gl X x) (hm : X.mg x = some (.ref C)) (hb : Binds X.K fd ps []) (tk : Takes X W)
    (ha : PA X (e :: es) t) (h1 : (x == ("__debug__" : Str)) = false := by decide) (h2 : starEach (e :: es) X.env = (false, eval e X.env) :: starEach es X.env := by rfl) (h3 : (backTo pos (starEach es X.env)).any (·.1) = false := by rfl) :
    PE X (.Call (.Name x p) (e :: es) [] pos) (tNw C sp W t) := by
  refine ⟨fun pi s σ H Q I h => wpAny_Call_Name_kw (ld_glob I gl hm ?_ h1)⟩
  refine PySem.W.callWith_K (h₀ := X.base) I.ok.mod.kin M.kp (thn (ha.run pos pi s σ H _ I h) ?_) h2 h3
  rintro us s1 ⟨vs, H1, I1, r, q⟩
  exact ⟨I1.kIn, run_nw M F hr hb tk I1 r q⟩
theorem pe_nw0 (M : Mk X.K C f) (F : FnOk X.prog X.w X.K X.mg X.base (L2.CX X.prog X.w) k f fd ps sp) (hr : Room (k + 1) X.A) (gl : Gl X x) (hm : X.mg x = some (.ref C)) (hb : Binds X.K fd ps []) (tk : Takes X W)
    (h1 : (x == ("__debug__" : Str)) = false := by decide) : PE X (.Call (.Name x p) [] [] pos) (tNw C sp W tNil) :=
  ⟨fun pi s σ H Q I h => wpAny_Call_Name_kw (ld_glob I gl hm (PySem.W.callWith_K0 I.kIn M.kp (run_nw (us := []) M F hr hb tk I .nil h)) h1)⟩
/-- e.f -/
def FldK (K : PySem.W.Frag) (f : Str) (Q : VK) (x : V) (H : Hp) : Prop := ∃ a C dx fs v, x = .ref a ∧ H a = some (.ins C dx fs) ∧ Cls K C ∧ NoAttr K C f ∧ fs.lookup f = some v ∧ Q v H
def tFd (K : PySem.W.Frag) (ta : TE) (f : Str) : TE := fun σ H Q => ta σ H (FldK K f Q)
theorem pe_fd {f : Str} (hK : X.K = K) (he : PE X e ta) (hb : attributeBase e f X.env (eval e X.env) = eval e X.env) : PE X (.Attribute e f pos) (tFd K ta f) := hK ▸ pe_fld he hb
/-- e.f = v -/
def SetK (K : PySem.W.Frag) (f : Str) (y : V) (R : Hp → Prop) (x : V) (H : Hp) : Prop := ∃ a C dx fs, x = .ref a ∧ H a = some (.ins C dx fs) ∧ Cls K C ∧ NoAttr K C f ∧ fs.length < 1000 ∧ R (upd H a (.ins C dx (putF f y fs)))
def tSd (K : PySem.W.Frag) (ta tv : TE) (f : Str) : TS := fun D σ H => tv σ H fun y H1 => ta σ H1 (SetK K f y (D.nx σ))
theorem ps_fd {f : Str} {value : Expr} {tv : TE} {pos' : Pos} (hK : X.K = K) (he : PE X o ta) (hv : PE X value tv) (hs : swapsWith value (some (.Attribute o f pos')) pos.line X.env = pure false) : PS X (.Assign [.Attribute o f pos'] value pos) (tSd K ta tv f) :=
  hK ▸ ps_fld he hv hs
end

/-! steps -/
section
variable {K : PySem.W.Frag} {σ : L2.St} {H : Hp} {Q : VK} {D : Ends} {x y v : V} {C p : Addr} {m f : Str} {ta tv : TE} {t : TA} {sp : Sp} {W : WX}
theorem s_co (h : t σ H fun vs H1 => sp vs H1 Q fun cls d H' => W cls d σ H') : tCo sp W t σ H Q := h
theorem s_mt (h : ta σ H (MtK C m fun x H1 => t σ H1 fun vs H2 => sp (x :: vs) H2 Q fun cls d H' => W cls d σ H')) : tMt C m sp W ta t σ H Q := h
theorem s_mtk {R : V → Hp → Prop} {dx : Addr} {fs : List (Str × V)} (h : H p = some (.ins C dx fs)) (l : fs.lookup m = none) (q : R (.ref p) H) : MtK C m R (.ref p) H := ⟨p, dx, fs, rfl, h, l, q⟩
theorem s_nw (h : t σ H (NewK C sp (fun cls d H' => W cls d σ H') Q)) : tNw C sp W t σ H Q := h
theorem s_fd (h : ta σ H (FldK K f Q)) : tFd K ta f σ H Q := h
theorem s_fdk {dx : Addr} {fs : List (Str × V)} (h : H p = some (.ins C dx fs)) (c : Cls K C) (n : NoAttr K C f) (l : fs.lookup f = some v) (q : Q v H) : FldK K f Q (.ref p) H := ⟨p, C, dx, fs, v, rfl, h, c, n, l, q⟩
theorem s_sd (h : tv σ H fun y H1 => ta σ H1 (SetK K f y (D.nx σ))) : tSd K ta tv f D σ H := h
/-- an object is changed, the heap behind it as a letter -/
theorem put_abs {o o0 : HO} {R : Hp → Prop} (e : H p = some o0) (z : ko o0 = ko o) (h : ∀ H', H' p = some o → Kp [p] H H' → R H') (y : Nat.beq (ko o) 1 = false := by rfl) : R (upd H p o) := h _ upd_same (Kp.refl.put (by simp) ⟨o0, e, z⟩ y)
theorem s_sdk {dx : Addr} {fs gs : List (Str × V)} {R : Hp → Prop} (h : H p = some (.ins C dx fs)) (c : Cls K C) (n : NoAttr K C f) (z : fs.length < 1000) (e : putF f y fs = gs) (q : ∀ H', H' p = some (.ins C dx gs) → Kp [p] H H' → R H') : SetK K f y R (.ref p) H :=
  ⟨p, C, dx, fs, rfl, h, c, n, z, by rw [e]; exact put_abs h rfl q⟩
end

/-! an error with one field -/
/-- __init__ of an error: its field, the class's -/
def spE (C : Addr) (f : Str) : Sp := sp2 fun x y H Q _ => ∃ a, x = .ref a ∧ H a = some (exo a C none) ∧ ∀ dx, H dx = none → dx ≠ a → Q .non (upd (upd H dx (exd dx [(f, y)])) a (exo a C (some dx)))
section
variable {X : Cx} {C S fI : Addr} {f x : Str} {e : Expr} {es : List Expr} {ta : TA} {te to : TE} {p p1 p2 pos pos' : Pos} {K : PySem.W.Frag}
/-- a class that is read -/
structure RdC (K : PySem.W.Frag) (C : Addr) : Prop where
  rd : PySem.W.readsIn K C (.type "type") = true
  ga : PySem.W.specialIn K (.ref C) "__getattribute__" = some (some (.builtin "type.__getattribute__"))
/-- S.__init__(self, ..), S a class over ValueError without an __init__ of its own -/
def SeK (K : PySem.W.Frag) (Q : VK) (vs : List V) (H : Hp) : Prop := ∃ (a C : Addr) (ws : List V), vs = .ref a :: ws ∧ ws.length ≤ 1000 ∧ OexC K C ∧ H a = some (exo a C none) ∧ Q .non H
def tSe (K : PySem.W.Frag) (ta : TA) : TE := fun σ H Q => ta σ H (SeK K Q)
theorem pe_se {pl : Sem Bool} (hK : X.K = K) (gl : Gl X x) (hm : X.mg x = some (.ref S)) (r : RdC X.K S) (vV : PySem.W.findCls X.K (.ref S) (.type "type") "__init__" = some (.val (.builtin "ValueError.__init__"))) (ha : PA X (e :: es) ta)
    (h1 : (x == ("__debug__" : Str)) = false := by decide)
    (hc : eval (.Call (.Attribute (.Name x p1) "__init__" p2) (e :: es) [] pos) X.env = (do
      let ov ← eval (.Name x p1) X.env
      standAt p2.atName
      let (f, first) ← holding [ov] (getMethod ov "__init__" pl)
      callWith pos f first (backTo pos (starEach (e :: es) X.env)) (backToKw pos (keywordEach [] X.env))) := by rfl)
    (h2 : starEach (e :: es) X.env = (false, eval e X.env) :: starEach es X.env := by rfl) (h3 : (backTo pos (starEach es X.env)).any (·.1) = false := by rfl) :
    PE X (.Call (.Attribute (.Name x p1) "__init__" p2) (e :: es) [] pos) (tSe K ta) := by
  subst hK
  refine ⟨fun pi s σ H Q I h => PySem.W.methodCall_KW (ld_glob I gl hm ?_ h1) hc⟩
  refine PySem.W.method_cls I.kIn r.ga (PySem.W.cls_value I.kIn r.rd vV (by decide +kernel) ?_)
  refine PyProof.Rows.callWith_method1 (thn (ha.run pos pi _ σ H _ (I.tok _) h) ?_) h2 h3
  rintro us s1 ⟨vs, H1, I1, r1, a, D, ws, rfl, hl, T, ea, q⟩
  cases r1 with
  | @cons _ u0 _ ur ra rw' =>
    obtain rfl : u0 = Value.ref a := ra
    have z := Paired.length rw'
    exact oinit_ok T I1 ea (by rw [sizeLine_eq]; omega) fun s' J => ⟨.non, H1, J, rfl, q⟩
/-- self.f = e in such an __init__ -/
def OsK (K : PySem.W.Frag) (f : Str) (y : V) (R : Hp → Prop) (x : V) (H : Hp) : Prop := ∃ a C : Addr, x = .ref a ∧ OexC K C ∧ PySem.W.findIn K (.ref C) f = some none ∧ H a = some (exo a C none) ∧ ∀ dx, H dx = none → dx ≠ a → R (upd (upd H dx (exd dx [(f, y)])) a (exo a C (some dx)))
def tOs (K : PySem.W.Frag) (f : Str) (to te : TE) : TS := fun D σ H => te σ H fun y H1 => to σ H1 (OsK K f y (D.nx σ))
theorem ps_os {o : Expr} (hK : X.K = K) (ho : PE X o to) (he : PE X e te) (hs : swapsWith e (some (.Attribute o f p')) pos.line X.env = pure false := by rfl) : PS X (.Assign [.Attribute o f p'] e pos) (tOs K f to te) := by
  subst hK
  refine psImp (ps_ost (f := f) (peMo ho) (peMo he) hs) fun D σ H q => ⟨_, q, fun y H1 z => ⟨_, z, fun x H2 w => ?_⟩⟩
  obtain ⟨a, C, rfl, h1, h2, h3, h4⟩ := w
  exact ⟨a, C, rfl, h1, h2, Or.inl ⟨h3, h4⟩⟩
/-- raise C(e) -/
def RzK (C : Addr) (f : Str) (R : Value → Option Addr → Hp → Prop) (v : V) (H : Hp) : Prop := ∀ d H', H d = none → H' d = some (.xd [(f, v)]) → Kp [] H H' → R (.ref C) (some d) H'
def tRz (C : Addr) (f : Str) (W : WX) (te : TE) : TS := fun _ σ H => te σ H (RzK C f fun cls d H' => W cls d σ H')
theorem ps_rz {k : Nat} {fd : FuncData} {ps : List Str} {W : WX} (hc : X.calm = true) (T : OexC X.K C) (iC : PySem.W.findIn X.K (.ref C) "__init__" = some (some (.ref fI))) (tI : PySem.W.typeIn X.K (.ref fI) = some (.type "function"))
    (F : FnOk X.prog X.w X.K X.mg X.base (L2.CX X.prog X.w) k fI fd ps (spE C f)) (hr : Room (k + 1) X.A) (hb : Binds X.K fd ps []) (gl : Gl X x) (hm : X.mg x = some (.ref C)) (tk : Takes X W) (he : PE X e te)
    (h1 : (x == ("__debug__" : Str)) = false := by decide) (h2 : starEach [e] X.env = [(false, eval e X.env)] := by rfl) :
    PS X (.Raise (some (.Call (.Name x p) [e] [] pos)) none pos') (tRz C f W te) := by
  refine psImp (ps_raise hc tk (pmk_oex T iC tI F hr hb .nil passF gl hm (pa_cons (peMo he) pa_nil h2) h1 h2 rfl)) fun D σ H q => ?_
  refine ⟨_, q, fun v H1 z => ⟨by simp, fun a na => ⟨_, _, rfl, a, rfl, upd_same, fun dx nd ne => ⟨rfl, dx, [(f, v)], upd_same, ?_, ?_, ?_⟩⟩⟩⟩
  · rw [upd_ne ne, upd_same]
  · rw [upd_ne ne] at nd; exact nd
  · rw [upd_ne ne] at nd
    refine z dx _ nd upd_same ⟨fun b o eb _ => ?_, fun b i eb => ?_, fun b xs eb => ?_⟩
    · have nb : b ≠ dx := ne_of_none eb nd
      have nb2 : b ≠ a := ne_of_none eb na
      rw [upd_ne nb, del_ne nb2, upd_ne nb2, upd_ne nb, upd_ne nb2]
      exact eb
    · obtain ⟨o1, e1, r1⟩ := eb
      have nb : b ≠ dx := ne_of_none e1 nd
      have nb2 : b ≠ a := ne_of_none e1 na
      refine ⟨o1, ?_, r1⟩
      rw [upd_ne nb, del_ne nb2, upd_ne nb2, upd_ne nb, upd_ne nb2]
      exact e1
    · have nb : b ≠ dx := ne_of_none eb nd
      have nb2 : b ≠ a := ne_of_none eb na
      rw [upd_ne nb, del_ne nb2, upd_ne nb2, upd_ne nb, upd_ne nb2]
      exact eb
end
end U

namespace U
open PySem L2 PySem.Spec PyProof.Rows
/-! try with clauses of any number, with names or without -/
/-- a clause: its class, the slot of its name, its suite's reading -/
abbrev Clause := Value × Option Nat × (Addr → Value → Option Addr → TS)
def dropS (i : Option Nat) (σ : L2.St) : L2.St := match i with | none => σ | some i => σ.set i none
def putS (i : Option Nat) (a : Addr) (σ : L2.St) : L2.St := match i with | none => σ | some i => σ.set i (some (.ref a))
def endS (i : Option Nat) (D : Ends) : Ends := { nx := fun σ H => D.nx (dropS i σ) H, rt := D.rt, bk := fun σ H => D.bk (dropS i σ) H, ct := fun σ H => D.ct (dropS i σ) H }
def wCl (K : PySem.W.Frag) (Wout : WX) (D : Ends) : List Clause → WX
  | [] => Wout
  | (c, i, ts) :: r => fun cls d σ H => ∃ b, PySem.W.exmOne K cls c = some b ∧ (b = true → ∀ a, H a = none → ts a cls d (endS i D) (putS i a σ) H) ∧ (b = false → wCl K Wout D r cls d σ H)
inductive ClOk (X : Cx) : List ExceptHandler → List Clause → Prop
  | nil : ClOk X [] []
  | only {x : Str} {c : Value} {ts : Addr → Value → Option Addr → TS} {b0 : Stmt} {su : List Stmt} {np p' : Pos} {hds : List ExceptHandler} {l : List Clause} (hc : Names X x c)
      (hsu : ∀ (a : Addr) (oe : Obj) (cls : Value) (d : Option Addr) (pn : List (Addr × Obj)), Zc cls d oe → (∃ vs, oe.data = .fields vs) → PSs (X.suite a ((a, oe) :: pn)) (b0 :: su) (ts a cls d)) (r : ClOk X hds l) :
      ClOk X (.ExceptHandler (some (.Name x np)) none (b0 :: su) p' :: hds) ((c, none, ts) :: l)
  | as {x n : Str} {i : Nat} {c : Value} {ts : Addr → Value → Option Addr → TS} {b0 : Stmt} {su : List Stmt} {np p' : Pos} {hds : List ExceptHandler} {l : List Clause} (hc : Names X x c) (hi : X.N[i]? = some n) (hln : X.env.kindOf n = some .local)
      (hsu : ∀ (a : Addr) (oe : Obj) (cls : Value) (d : Option Addr) (pn : List (Addr × Obj)), Zc cls d oe → (∃ vs, oe.data = .fields vs) → PSs (X.suite a ((a, oe) :: pn)) (b0 :: su) (ts a cls d)) (r : ClOk X hds l) :
      ClOk X (.ExceptHandler (some (.Name x np)) (some n) (b0 :: su) p' :: hds) ((c, some i, ts) :: l)
section
variable {X : Cx} {body : List Stmt} {h0 : ExceptHandler} {hds : List ExceptHandler} {l : List Clause} {pos : Pos} {tb : WX → TS} {Wout : WX} {K : PySem.W.Frag}
def tTry (K : PySem.W.Frag) (Wout : WX) (l : List Clause) (tb : WX → TS) : TS := fun D σ H => tb (wCl K Wout D l) D σ H
theorem ps_try (hK : X.K = K) (hs : X.stack = X.env :: X.outer) (hf : X.env.frame = some X.env.locals) (hN : X.N.Nodup) (tk : Takes X Wout)
    (hb : ∀ (W : WX) (pn : List (Addr × Obj)) (xe : Value → Shared → Prop), Takes (X.tr pn xe) W → PassesOwn (model X.prog X.w) X.A X.env xe → PSs (X.tr pn xe) body (tb W))
    (hh : ClOk X (h0 :: hds) l) : PS X (.Try body (h0 :: hds) [] [] pos) (tTry K Wout l tb) := by
  subst hK
  refine ⟨fun pi s σ H D I h => wpAny_Try_except ?_⟩
  have ok := I.ok
  have hfr : X.A.frames = some (X.env :: X.outer) := by rw [ok.frames, hs]
  let xe : Value → Shared → Prop := fun e s1 => wpAny (model X.prog X.w) X.A (noteFrame e X.env) (fun _ s2 => wpAny (model X.prog X.w) X.A (setFlight e none)
    (fun _ s3 => wpAny (model X.prog X.w) X.A (handleBy e X.env (h0 :: hds)) (SP X pi D) X.xe s3) X.xe s2) X.xe s1
  have tkx : Takes (X.tr (X.pn ++ pi) xe) (wCl X.K Wout D l) := by
    rintro u s1 ⟨a, B, sI, pins1, σ1, H1, cls, d, rfl, J1, nb, up, sky, na, os, ag, w⟩
    have J : Inv X pi σ1 H1 sI := J1.ofTry ok
    have sky1 : Sky B (X.env :: X.outer) a (Zc cls d) X.env.locals s1.heap := hs ▸ sky
    show wpAny (model X.prog X.w) X.A (noteFrame (.ref a) X.env) _ _ _
    refine Sky.land Zc.steady hfr hf sky1 fun h3 f3 u3 => ?_
    have J3 : Inv X pi σ1 H1 { s1 with heap := h3 } := J.landed nb f3.1 (up.trans u3) os ag
    obtain ⟨oe3, vs3, he3, hz3, hd3⟩ := f3.there
    have nfr : a ∉ frs (X.env :: X.outer) := fun hm => by
      obtain ⟨_, o', e', hnf⟩ := f3.2.2.1.mem hm
      rw [he3] at e'; cases e'
      exact hnf _ hd3
    have nL : a ≠ X.env.locals := fun z => nfr (List.mem_filterMap.mpr ⟨X.env, List.mem_cons_self, by rw [hf, z]⟩)
    have nF : a ∉ X.fs := fun hm => by
      obtain ⟨e, he, q⟩ := List.mem_filterMap.mp hm
      exact nfr (List.mem_filterMap.mpr ⟨e, List.mem_cons_of_mem _ he, q⟩)
    have S3 := J3.suite he3 hd3 na nL nF
    have LT : PySem.W.Looks (model X.prog X.w) h3 (typeOf (.ref a)) cls := fun A Q E s k q => wpAny_typeOf_ref (k _ _ he3) (by rw [hz3.1]; exact q)
    have test : ∀ {x : Str} {c : Value} {np : Pos} {Q : Value → Shared → Prop} {E : Value → Shared → Prop}, Names X x c → Q c { s1 with heap := h3 } →
        wpAny (model X.prog X.w) (X.A.mark (some (.ref a))) (eval (.Name x np) X.env) Q E { s1 with heap := h3 } := fun {x c np Q E} hc q => by
      obtain ⟨hg, hdb, hm | ⟨hm, hv, hnn⟩⟩ := hc
      · exact ld_glob (X := X.suite a ((a, oe3) :: (X.pn ++ pi))) S3 hg hm q hdb
      · exact ld_blt (X := X.suite a ((a, oe3) :: (X.pn ++ pi))) S3 hg hm hv q hnn hdb
    have go : ∀ {hds' : List ExceptHandler} {l' : List Clause}, ClOk X hds' l' → wCl X.K Wout D l' cls d σ1 H1 →
        wpAny (model X.prog X.w) X.A (handleBy (.ref a) X.env hds') (SP X pi D) X.xe { s1 with heap := h3 } := by
      intro hds' l' hk
      induction hk with
      | nil =>
        intro w
        refine wpAny_handleBy_nil ?_
        obtain ⟨_, _, _, oe, vs, T, oT, ts', he, hz, hd, h1, hr⟩ := id f3
        unfold PySem.passOn
        refine wpAny_bind (wpAny_field he hd h1 ?_)
        rw [if_neg (show ¬ ((Value.ref T == Value.none) = true) from by simp)]
        have fin : wpAny (model X.prog X.w) X.A (setFlight (.ref a) X.env.frame) (fun _ s4 => wpAny (model X.prog X.w) X.A (throw (.ref a) : Sem Flow) (SP X pi D) X.xe s4) X.xe { s1 with heap := h3 } := by
          rw [hf]
          refine HandSPX.setFlight_upZ f3 fun h4 hh4 up4 => wpAny_throw (tk _ _ ?_)
          exact ⟨a, B, sI, pi, σ1, H1, cls, d, rfl, J, nb, (up.trans u3).trans up4, Or.inr (Or.inr (by rw [hs]; exact hh4)), na, os, ag, w⟩
        first
          | exact wpAny_bind (wpAny_pure (wpAny_bind fin))
          | exact wpAny_bind fin
      | @only x c ts b0 su np p' hds2 l2 hc hsu r ih =>
        rintro ⟨b, hb1, yes, no⟩
        refine wpAny_handleBy_cons (codeAny_handlers_test (test hc ((PySem.W.exm_one (M := model X.prog X.w) J3.kIn LT hb1).here ?_))) (by intro q; cases q)
        cases b with
        | false => exact ih (no rfl)
        | true =>
          refine codeAny_handlers_suite (HandSPX.lands_againZ f3 fun h4 fl4 up4 => ?_)
          have J4 : Inv X pi σ1 H1 { s1 with heap := h4 } := J.landed nb fl4.1 ((up.trans u3).trans up4) os ag
          obtain ⟨oe4, vs4, he4, hz4, hd4⟩ := fl4.there
          refine wpAny_mono ((hsu a oe4 cls d (X.pn ++ pi) hz4 ⟨_, hd4⟩).run [] _ _ H1 _ (J4.suite he4 hd4 na nL nF) (yes rfl a na)) (fun f s6 hsp => ?_) (fun _ _ z => False.elim z)
          match f, hsp with
          | .next, ⟨_, _, S6, q6⟩ => exact ⟨_, _, S6.unsuite ok, q6⟩
          | .brk, ⟨_, _, S6, q6⟩ => exact ⟨_, _, S6.unsuite ok, q6⟩
          | .cont, ⟨_, _, S6, q6⟩ => exact ⟨_, _, S6.unsuite ok, q6⟩
          | .ret u, ⟨_, _, _, S6, r6, q6⟩ => exact ⟨_, _, _, S6.unsuite ok, r6, q6⟩
      | @as x n i c ts b0 su np p' hds2 l2 hc hi hln hsu r ih =>
        rintro ⟨b, hb1, yes, no⟩
        refine wpAny_handleBy_cons (codeAny_handlers_test (test hc ((PySem.W.exm_one (M := model X.prog X.w) J3.kIn LT hb1).here ?_))) (by intro q; cases q)
        cases b with
        | false => exact ih (no rfl)
        | true =>
          refine codeAny_handlers_suite_as (HandSPX.lands_againZ f3 fun h4 fl4 up4 => ?_)
          have J4 : Inv X pi σ1 H1 { s1 with heap := h4 } := J.landed nb fl4.1 ((up.trans u3).trans up4) os ag
          obtain ⟨oe4, vs4, he4, hz4, hd4⟩ := fl4.there
          refine store_ok (X := X.suite a ((a, oe4) :: (X.pn ++ pi))) (v := .ref a) (J4.suite he4 hd4 na nL nF) hN hi (Or.inl hln) rfl (fun s5 S5 => ?_) (Or.inr hln)
          refine wpAny_mono ((hsu a oe4 cls d (X.pn ++ pi) hz4 ⟨_, hd4⟩).run [] s5 _ H1 _ S5 (yes rfl a na)) (fun f s6 hsp => ?_) (fun _ _ z => False.elim z)
          have gone : ∀ {σ6 : L2.St} {H6 : Hp} {Q : Shared → Prop}, Inv (X.suite a ((a, oe4) :: (X.pn ++ pi))) [] σ6 H6 s6 → (∀ s7, Inv X pi (σ6.set i none) H6 s7 → Q s7) →
              wpAny (model X.prog X.w) X.A (do bindName X.env n .none; unbindBehindTheSuite X.env n p') (fun _ s7 => Q s7) X.xe s6 := fun S6 hq => gone_ok (S6.unsuite ok) hN hi hln hq
          match f, hsp with
          | .next, ⟨_, _, S6, q6⟩ => exact gone S6 fun s7 J7 => ⟨_, _, J7, q6⟩
          | .brk, ⟨_, _, S6, q6⟩ => exact gone S6 fun s7 J7 => ⟨_, _, J7, q6⟩
          | .cont, ⟨_, _, S6, q6⟩ => exact gone S6 fun s7 J7 => ⟨_, _, J7, q6⟩
          | .ret u, ⟨_, _, _, S6, r6, q6⟩ => exact gone S6 fun s7 J7 => ⟨_, _, _, J7, r6, q6⟩
    exact go hh w
  refine wpAny_mono ((hb _ (X.pn ++ pi) xe tkx PassesOwn.looking).run [] s σ H D (I.toTry _) h) (fun f s1 hsp => ?_) (fun e s1 he => he)
  match f, hsp with
  | .next, ⟨σ1, H1, J1, q⟩ => exact wpAny_execs_nil ⟨σ1, H1, J1.ofTry ok, q⟩
  | .brk, ⟨σ1, H1, J1, q⟩ => exact ⟨σ1, H1, J1.ofTry ok, q⟩
  | .cont, ⟨σ1, H1, J1, q⟩ => exact ⟨σ1, H1, J1.ofTry ok, q⟩
  | .ret u, ⟨v, σ1, H1, J1, r, q⟩ => exact ⟨v, σ1, H1, J1.ofTry ok, r, q⟩
end
end U

namespace U
open PySem L2 PySem.Spec PyProof.Rows
/-- what the written part says of an error's class at C, its __init__ at fI, its field f -/
structure ErrC (K : PySem.W.Frag) (C fI : Addr) (f : Str) : Prop where
  oex : OexC K C
  xf : XfC K C
  no : PySem.W.findIn K (.ref C) f = some none
  iC : PySem.W.findIn K (.ref C) "__init__" = some (some (.ref fI))
  tI : PySem.W.typeIn K (.ref fI) = some (.type "function")
  ha : PySem.W.findIn K (.ref C) "__class__" = some (some (.builtin "object.__class__"))
  hm : PySem.W.mroIn K C (.type "object") = some true
section
variable {X : Cx} {a C fI : Addr} {oe : Obj} {cls : Value} {d : Option Addr} {pn : List (Addr × Obj)} {e : Expr} {te : TE} {pos : Pos} {f : Str} {K : PySem.W.Frag}
/-- e.f += v -/
def FaK (K : PySem.W.Frag) (f : Str) (R : Addr → Addr → V → Hp → Prop) (x : V) (H : Hp) : Prop := ∃ a C dx fs v, x = .ref a ∧ H a = some (.ins C dx fs) ∧ Cls K C ∧ NoAttr K C f ∧ fs.lookup f = some v ∧ R a C v H
def FbK (f : Str) (a C : Addr) (R : Hp → Prop) (z : V) (H : Hp) : Prop := ∃ dx fs, H a = some (.ins C dx fs) ∧ fs.length < 1000 ∧ R (upd H a (.ins C dx (putF f z fs)))
def tFa (K : PySem.W.Frag) (ta tv : TE) (rd : V → V → Hp → VK → Prop) (f : Str) : TS := fun D σ H => ta σ H (FaK K f fun a C v H1 => tv σ H1 fun y H2 => rd v y H2 (FbK f a C (D.nx σ)))
theorem ps_fa {o value : Expr} {op : Operator} {ta tv : TE} {rd : V → V → Hp → VK → Prop} {tp : Pos} (hK : X.K = K) (ha : PE X o ta) (hv : PE X value tv) (hop : InOp X op rd) : PS X (.AugAssign (.Attribute o f tp) op value pos) (tFa K ta tv rd f) :=
  hK ▸ ps_fldaug ha hv hop
/-- err.f in its suite -/
def XfK (a : Addr) (cls : Value) (d : Option Addr) (C : Addr) (f : Str) (Q : VK) (x : V) (H : Hp) : Prop := x = .ref a ∧ cls = .ref C ∧ ∃ (dd : Addr) (fs : List (Str × V)) (v : V), d = some dd ∧ H dd = some (.xd fs) ∧ fs.lookup f = some v ∧ Q v H
def tXe (a : Addr) (cls : Value) (d : Option Addr) (C : Addr) (f : Str) (te : TE) : TE := fun σ H Q => te σ H (XfK a cls d C f Q)
theorem pe_xe (T : ErrC X.K C fI f) (hz : Zc cls d oe) (hf : ∃ vs, oe.data = .fields vs) (he : PE (X.suite a ((a, oe) :: pn)) e te) (hb : attributeBase e f X.env (eval e X.env) = eval e X.env := by rfl) :
    PE (X.suite a ((a, oe) :: pn)) (.Attribute e f pos) (tXe a cls d C f te) := pe_xf T.xf T.no hz hf he hb
/-- isinstance(err, T) in its suite -/
def rIsX (K : PySem.W.Frag) (a : Addr) (cls : Value) (d : Option Addr) (C : Addr) : List V → Hp → VK → Prop := fun xs H Q => ∃ (c : V) (cv : Value) (b : Bool) (dd : Addr) (fs : List (Str × V)), xs = [.ref a, c] ∧ ClsV c cv ∧ cls = .ref C ∧ d = some dd ∧ H dd = some (.xd fs) ∧
  PySem.W.kitOne K (.ref C) cv = some b ∧ Q (.bl b) H
theorem c_isx (hK : X.K = K) (T : ErrC X.K C fI f) (hn : PySem.W.specialIn X.K (.builtin "object.__class__") "__get__" = some (some (.builtin "getset_descriptor.__get__"))) (ht : PySem.W.takesIn X.K (.builtin "object.__class__") = some true)
    (hz : Zc cls d oe) (hf : ∃ vs, oe.data = .fields vs) : CallR (X.suite a ((a, oe) :: pn)) (.builtin "isinstance") (rIsX K a cls d C) := by
  subst hK
  rintro pi s σ H xs us Q I vv ⟨c, cv, b, dd, fs, rfl, hc, rfl, rfl, hd, e, q⟩
  cases vv with
  | cons rx rr =>
    cases rr with
    | cons rt rr =>
      cases rr
      cases rx
      obtain rfl := hc.eq rt
      obtain ⟨hget, _⟩ := I.pin (a, oe) (List.mem_append.mpr (Or.inl List.mem_cons_self))
      obtain ⟨vs, hv⟩ := hf
      have hx : ObjOk X.prog X.w H s.heap dd (.xd fs) := I.hok dd _ hd
      obtain ⟨mA, hns, _⟩ := hx
      obtain ⟨od, ho, _⟩ := lookIn_ns hns
      have J : PySem.W.InstAt s.heap a oe C (some od) := ⟨hget, hz.1, by unfold PySem.W.notCls; rw [hv] <;> rfl, by rw [hz.2]; exact ho⟩
      have hcl : (PySem.W.clsIn X.K C).isSome = true := by
        have z := T.xf.hdC
        unfold PySem.W.hasDictIn at z
        cases y : PySem.W.clsIn X.K C with
        | none => rw [y] at z; simp at z
        | some _ => rfl
      exact PySem.W.kia_one (PySem.W.kitx_exc hcl T.xf.ga T.xf.gg T.xf.exC T.ha hn ht T.hm) I.kIn J e (fun z => nomatch z) fun tk => ⟨.bl b, H, I.kept (t' := tk) fun _ _ z => z, rfl, q⟩
end
section
variable {K : PySem.W.Frag} {σ : L2.St} {H : Hp} {Q : VK} {D : Ends} {a C dd : Addr} {f : Str} {v : V} {te to : TE} {t : TA}
theorem s_fa {tv : TE} {rd : V → V → Hp → VK → Prop} (h : te σ H (FaK K f fun a C v H1 => tv σ H1 fun y H2 => rd v y H2 (FbK f a C (D.nx σ)))) : tFa K te tv rd f D σ H := h
theorem s_fak {R : Addr → Addr → V → Hp → Prop} {dx : Addr} {fs : List (Str × V)} (h : H a = some (.ins C dx fs)) (c : Cls K C) (n : NoAttr K C f) (l : fs.lookup f = some v) (q : R a C v H) : FaK K f R (.ref a) H := ⟨a, C, dx, fs, v, rfl, h, c, n, l, q⟩
theorem s_fbk {R : Hp → Prop} {dx : Addr} {fs gs : List (Str × V)} (h : H a = some (.ins C dx fs)) (z : fs.length < 1000) (e : putF f v fs = gs) (q : ∀ H', H' a = some (.ins C dx gs) → Kp [a] H H' → R H') : FbK f a C R v H := ⟨dx, fs, h, z, by rw [e]; exact put_abs h rfl q⟩
theorem s_radd {n m : Int} (q : Q (.int (n + m)) H) : rAdd (.int n) (.int m) H Q := ⟨n, m, rfl, rfl, q⟩
theorem s_rsub {n m : Int} (q : Q (.int (n - m)) H) : rSub (.int n) (.int m) H Q := ⟨n, m, rfl, rfl, q⟩
theorem s_xe {cls : Value} {d : Option Addr} (h : te σ H (XfK a cls d C f Q)) : tXe a cls d C f te σ H Q := h
theorem s_xek {fs : List (Str × V)} (h : H dd = some (.xd fs)) (l : fs.lookup f = some v) (q : Q v H) : XfK a (.ref C) (some dd) C f Q (.ref a) H := ⟨rfl, rfl, dd, fs, v, rfl, h, l, q⟩
theorem s_isx {C2 : Addr} {b : Bool} {fs : List (Str × V)} (h : H dd = some (.xd fs)) (e : PySem.W.kitOne K (.ref C) (.ref C2) = some b) (q : Q (.bl b) H) : rIsX K a (.ref C) (some dd) C [.ref a, .ref C2] H Q := ⟨.ref C2, .ref C2, b, dd, fs, rfl, .own C2, rfl, rfl, h, e, q⟩
theorem s_se (h : t σ H (SeK K Q)) : tSe K t σ H Q := h
theorem s_sek {z : V} (T : OexC K C) (h : H a = some (exo a C none)) (q : Q .non H) : SeK K Q [.ref a, z] H := ⟨a, C, [z], rfl, by simp, T, h, q⟩
theorem s_os (h : te σ H fun y H1 => to σ H1 (OsK K f y (D.nx σ))) : tOs K f to te D σ H := h
theorem s_rz {W : WX} (h : te σ H (RzK C f fun cls d H' => W cls d σ H')) : tRz C f W te D σ H := h
theorem s_try {Wout : WX} {l : List Clause} {tb : WX → TS} (h : tb (wCl K Wout D l) D σ H) : tTry K Wout l tb D σ H := h
end
end U

namespace U
open PySem L2 PySem.Spec PyProof.Rows
/-! dicts -/
section
variable {X : Cx} {k : Nat} {K : PySem.W.Frag} {o i e value : Expr} {pos p' ap : Pos} {td ty tv : TE} {trs : List (TE × TE)} {keys : List (Option Expr)} {values : List Expr}
def DdK (Q : VK) (p : Addr) (ps : List (V × V)) (H : Hp) : Prop := H p = some (.dK []) ∧ ∃ kvs : List (Key × V), ps = kvs.map (fun kv => (kV kv.1, kv.2)) ∧ kvs.length ≤ 15 ∧ Q (.ref p) (upd H p (.dK (mergeK [] kvs)))
def tDd (trs : List (TE × TE)) : TE := fun σ H Q => ∀ p, H p = none → tPairs trs σ (upd H p (.dK [])) (DdK Q p)
theorem pe_dd (h : PPs X pos keys values trs) (h1 : keys.all (·.isSome) = true) (h2 : keys.length = values.length) (h3 : keys ≠ []) (h4 : keys.length ≤ 15) : PE X (.Dict keys values pos) (tDd trs) := pe_disp h h1 h2 h3 h4
def DgK (x : V) (Q : VK) (y : V) (H : Hp) : Prop := ∃ a v, x = .ref a ∧ DGet H a y (some v) ∧ Q v H
def tDg (td ty : TE) : TE := fun σ H Q => td σ H fun x H1 => ty σ H1 (DgK x Q)
theorem pe_dg (hr : Room k X.A) (ho : PE X o td) (hi : PE X i ty) (hs : NoSl i) : PE X (.Subscript o i pos) (tDg td ty) := pe_dget (hu_of hr) ho hi hs
def DnK (ng : Bool) (y : V) (Q : VK) (x : V) (H : Hp) : Prop := ∃ a r, x = .ref a ∧ DGet H a y r ∧ Q (.bl (if ng then !r.isSome else r.isSome)) H
def tDn (ng : Bool) (ty td : TE) : TE := fun σ H Q => ty σ H fun y H1 => td σ H1 (DnK ng y Q)
theorem pc_in (hr : Room k X.A) (hi : PE X i ty) (ho : PE X o td) : PC X .In i o (tDn false ty td) := pc_din (hu_of hr) hi ho
theorem pc_nin (hr : Room k X.A) (hi : PE X i ty) (ho : PE X o td) : PC X .NotIn i o (tDn true ty td) := pc_dnotin (hu_of hr) hi ho
/-- o[i] = v, of a list or a dict -/
def uSet : V → V → V → Hp → (Hp → Prop) → Prop := fun o i v H Q => rSetL o i v H Q ∨ rSetD o i v H Q
theorem set_u (hr : Room k X.A) : PSet X uSet := by
  intro pi s σ H o i v ov iv u Q I ro ri rv h
  rcases h with h | h
  · exact set_list pi s σ H o i v ov iv u Q I ro ri rv h
  · exact set_dict (hu_of hr) pi s σ H o i v ov iv u Q I ro ri rv h
def PopK (a : Addr) (Q : VK) (y : V) (H : Hp) : Prop := ∃ kvs k v, H a = some (.dK kvs) ∧ y = kV k ∧ valV kvs k = some v ∧ Q v (upd H a (.dK (dropK kvs k)))
def PopJ (ty : TE) (σ : L2.St) (Q : VK) (x : V) (H : Hp) : Prop := ∃ a, x = .ref a ∧ IsD H a ∧ ty σ H (PopK a Q)
def tPop (td ty : TE) : TE := fun σ H Q => td σ H (PopJ ty σ Q)
theorem pe_pop (ho : PE X o td) (he : PE X e ty) (m : M1 X o "pop" ap e pos) : PE X (.Call (.Attribute o "pop" ap) [e] [] pos) (tPop td ty) := pe_dpop1 ho he m
def uDict : List V → Hp → VK → Prop := fun xs H Q => ∃ (a : Addr) (kvs : List (Key × V)), xs = [.ref a] ∧ Rd H a (.dK kvs) ∧ ∀ p, H p = none → Q (.ref p) (upd H p (.dK kvs))
theorem c_dict : CallR X (.type "dict") uDict := call_dictD
def uList (K : PySem.W.Frag) : List V → Hp → VK → Prop := fun xs H Q => ∃ p ys, xs = [.ref p] ∧ (SqL K H p ys ∨ SqT K H p ys) ∧ ∀ l, H l = none → Q (.ref l) (upd H l (.lst ys))
end
section
variable {K : PySem.W.Frag} {σ : L2.St} {H : Hp} {Q : VK} {D : Ends} {x y v : V} {p : Addr} {n : Int} {z : Str} {kvs ks : List (Key × V)} {td ty : TE} {trs : List (TE × TE)}
theorem s_dd (h : ∀ p H', H p = none → H' p = some (.dK []) → Kp [] H H' → tPairs trs σ H' (DdK Q p)) : tDd trs σ H Q := fun p f => h p _ f upd_same (Kp.refl.new f)
theorem s_ddk {ps : List (V × V)} (h : H p = some (.dK [])) (e : ps = kvs.map (fun kv => (kV kv.1, kv.2))) (hl : kvs.length ≤ 15) (m : mergeK [] kvs = ks) (q : ∀ H', H' p = some (.dK ks) → Kp [p] H H' → Q (.ref p) H') : DdK Q p ps H :=
  ⟨h, kvs, e, hl, by rw [m]; exact put_abs h rfl (R := fun H' => Q (.ref p) H') q⟩
theorem s_dg (h : td σ H fun x H1 => ty σ H1 (DgK x Q)) : tDg td ty σ H Q := h
theorem s_dgi (h : H p = some (.dK kvs)) (e : valV kvs (Sum.inl n : Key) = some v) (q : Q v H) : DgK (.ref p) Q (.int n) H := ⟨p, v, rfl, by rw [← e]; exact DGet.k (k := Sum.inl n) h, q⟩
theorem s_dgs (h : H p = some (.dK kvs)) (e : valV kvs (Sum.inr z : Key) = some v) (q : Q v H) : DgK (.ref p) Q (.str z) H := ⟨p, v, rfl, by rw [← e]; exact DGet.k (k := Sum.inr z) h, q⟩
theorem s_dn {ng : Bool} (h : ty σ H fun y H1 => td σ H1 (DnK ng y Q)) : tDn ng ty td σ H Q := h
theorem s_dni {ng : Bool} (h : H p = some (.dK kvs)) (q : Q (.bl (if ng then !(valV kvs (Sum.inl n : Key)).isSome else (valV kvs (Sum.inl n : Key)).isSome)) H) : DnK ng (.int n) Q (.ref p) H := ⟨p, _, rfl, DGet.k (k := Sum.inl n) h, q⟩
theorem s_dns {ng : Bool} (h : H p = some (.dK kvs)) (q : Q (.bl (if ng then !(valV kvs (Sum.inr z : Key)).isSome else (valV kvs (Sum.inr z : Key)).isSome)) H) : DnK ng (.str z) Q (.ref p) H := ⟨p, _, rfl, DGet.k (k := Sum.inr z) h, q⟩
theorem s_ul {xs ys : List V} {j : Nat} {R : Hp → Prop} (h : H p = some (.lst xs)) (hj : ixN xs.length n = some j) (e : xs.set j v = ys) (q : ∀ H', H' p = some (.lst ys) → Kp [p] H H' → R H') : uSet (.ref p) (.int n) v H R := Or.inl ⟨p, xs, n, j, rfl, rfl, h, hj, by rw [e]; exact put_abs h rfl q⟩
theorem s_uds {R : Hp → Prop} (h : H p = some (.dK kvs)) (hl : kvs.length < sizeLine) (e : putK kvs (Sum.inr z : Key) v = ks) (q : ∀ H', H' p = some (.dK ks) → Kp [p] H H' → R H') : uSet (.ref p) (.str z) v H R :=
  Or.inr ⟨p, _, rfl, DPut.k (k := Sum.inr z) h hl, by rw [e]; exact put_abs h rfl q⟩
theorem s_udi {R : Hp → Prop} (h : H p = some (.dK kvs)) (hl : kvs.length < sizeLine) (e : putK kvs (Sum.inl n : Key) v = ks) (q : ∀ H', H' p = some (.dK ks) → Kp [p] H H' → R H') : uSet (.ref p) (.int n) v H R :=
  Or.inr ⟨p, _, rfl, DPut.k (k := Sum.inl n) h hl, by rw [e]; exact put_abs h rfl q⟩
theorem s_pop (h : td σ H (PopJ ty σ Q)) : tPop td ty σ H Q := h
theorem s_popj (h : H p = some (.dK kvs)) (q : ty σ H (PopK p Q)) : PopJ ty σ Q (.ref p) H := ⟨p, rfl, Or.inl ⟨kvs, Or.inl h⟩, q⟩
theorem s_popk (h : H p = some (.dK kvs)) (e : valV kvs (Sum.inl n : Key) = some v) (m : dropK kvs (Sum.inl n : Key) = ks) (q : ∀ H', H' p = some (.dK ks) → Kp [p] H H' → Q v H') : PopK p Q (.int n) H :=
  ⟨kvs, Sum.inl n, v, h, rfl, e, by rw [m]; exact put_abs h rfl (R := fun H' => Q v H') q⟩
theorem s_dict (h : H p = some (.dK kvs)) (q : ∀ l H', H l = none → H' l = some (.dK kvs) → Kp [] H H' → Q (.ref l) H') : uDict [.ref p] H Q := ⟨p, kvs, rfl, Or.inl h, fun l f => q l _ f upd_same (Kp.refl.new f)⟩
theorem s_list {ys : List V} (h : SqL K H p ys) (q : ∀ l H', H l = none → H' l = some (.lst ys) → Kp [] H H' → Q (.ref l) H') : uList K [.ref p] H Q := ⟨p, ys, rfl, Or.inl h, fun l f => q l _ f upd_same (Kp.refl.new f)⟩
end
theorem c_list {X : Cx} {K : PySem.W.Frag} (hK : X.K = K) : CallR X (.type "list") (uList K) := hK ▸ call_list_of
end U

namespace U
open PySem L2 PySem.Spec PyProof.Rows
/-- may be shown -/
structure Sh (K : PySem.W.Frag) (H : Hp) (v : V) (d : PyData) : Prop where
  dn : Dn K H v d
  good : U.good d
  depth : d.depth ≤ 100
  sz : U.sz d ≤ 16000000
section
variable {K : PySem.W.Frag} {σ : L2.St} {H : Hp} {Q : VK} {D : Ends} {x y v : V} {p : Addr} {n : Int} {z : Str} {to te : TE} {t : TA} {r : V → List V → Hp → VK → Prop} {T : String} {xs : List V}
theorem s_rep {d : PyData} (h : Sh K H v d) (q : Q (.str d.shown) H) : rRepr K [v] H Q := ⟨v, d, rfl, h.dn, h.good, h.depth, h.sz, q⟩
theorem s_bm (h : to σ H fun x H1 => tyV K T x H1 ∧ t σ H1 fun xs H2 => r x xs H2 Q) : tBM K T r to t σ H Q := h
theorem s_bm0 (h : to σ H fun x H1 => tyV K T x H1 ∧ r x [] H1 Q) : tBM0 K T r to σ H Q := h
theorem s_tyl {R : Prop} (h : H p = some (.lst xs)) (q : R) : tyV K "list" (.ref p) H ∧ R := ⟨Or.inl ⟨rfl, xs, SqL.of h⟩, q⟩
theorem s_tys {R : Prop} (q : R) : tyV K "str" (.str z) H ∧ R := ⟨rfl, q⟩
theorem s_tyd {R : Prop} {kvs : List (Key × V)} (h : H p = some (.dK kvs)) (q : R) : tyV K "dict" (.ref p) H ∧ R := ⟨Or.inr (Or.inr (Or.inl ⟨rfl, Or.inl ⟨kvs, h⟩⟩)), q⟩
theorem s_app (h : H p = some (.lst xs)) (hz : xs.length < sizeLine) (q : ∀ H', H' p = some (.lst (xs ++ [y])) → Kp [p] H H' → Q .non H') : rAppend (.ref p) [y] H Q :=
  ⟨p, xs, y, rfl, rfl, h, hz, put_abs h rfl (R := fun H' => Q .non H') q⟩
theorem s_pnil {Q : List (V × V) → Hp → Prop} (q : Q [] H) : tPairs [] σ H Q := q
theorem s_pcons {Q : List (V × V) → Hp → Prop} {tk tv : TE} {r : List (TE × TE)} (h : tk σ H fun x H1 => tv σ H1 fun y H2 => tPairs r σ H2 fun ps H3 => Q ((x, y) :: ps) H3) : tPairs ((tk, tv) :: r) σ H Q := h
/-! a meeting of ways -/
theorem meetT {tt : TT} {Q : Bool → Hp → Prop} (R : Bool → Hp → Prop) (key : ∀ b H1, R b H1 → Q b H1) (w : (∀ b H1, R b H1 → Q b H1) → tt σ H Q) : tt σ H Q := w key
theorem meetE (R : V → Hp → Prop) (key : ∀ b H1, R b H1 → Q b H1) (w : (∀ b H1, R b H1 → Q b H1) → te σ H Q) : te σ H Q := w key
theorem meetS {t u : TS} (R : L2.St → Hp → Prop) (key : ∀ σ1 H1, R σ1 H1 → u D σ1 H1) (w : (∀ σ1 H1, R σ1 H1 → u D σ1 H1) → t { D with nx := u D } σ H) : tSeq t u D σ H := w key
theorem zlt {n : Nat} (h : n ≤ 1000000) : n < sizeLine := Nat.lt_of_le_of_lt h (by decide)
end
section
variable {K : PySem.W.Frag} {H H' : Hp}
mutual
theorem Dn.kp (k : Kp [] H H') : ∀ {v : V} {d : PyData}, Dn K H v d → Dn K H' v d
  | _, _, .non => .non
  | _, _, .bl b => .bl b
  | _, _, .int i => .int i
  | _, _, .str x => .str x
  | _, _, .lst r a => .lst (k.rd r) (DnA.kp k a)
  | _, _, .tup r a => .tup (k.sqt r) (DnA.kp k a)
  | _, _, .dic r a => .dic (k.rd r) (DnA.kp k a)
theorem DnA.kp (k : Kp [] H H') : ∀ {vs : List V} {ds : List PyData}, DnA K H vs ds → DnA K H' vs ds
  | _, _, .nil => .nil
  | _, _, .cons a b => .cons (Dn.kp k a) (DnA.kp k b)
end
theorem Sh.kp (k : Kp [] H H') {v : V} {d : PyData} (h : Sh K H v d) : Sh K H' v d := ⟨h.dn.kp k, h.good, h.depth, h.sz⟩
end
end U

namespace U
open PySem L2 PySem.Spec PyProof.Rows
section
variable {K : PySem.W.Frag} {σ : L2.St} {H H' : Hp} {Q : VK} {D : Ends} {x y v : V} {p : Addr} {n : Int} {xs vs : List V} {ps : List Addr}
theorem s_gtu {R : L2.St → Hp → Prop} {t : TGs} {k : Nat} (h : H p = some (.tup xs)) (hl : xs.length = k) (q : t xs σ H R) : gTup K k t (.ref p) σ H R := ⟨p, xs, rfl, SqT.of h, hl, q⟩
theorem s_gn {R : L2.St → Hp → Prop} (q : R σ H) : gNil [] σ H R := ⟨rfl, q⟩
theorem s_gc {R : L2.St → Hp → Prop} {t : TG} {u : TGs} (q : t v σ H fun σ1 H1 => u vs σ1 H1 R) : gCons t u (v :: vs) σ H R := ⟨v, vs, rfl, q⟩
theorem s_rng2 {ta : TA} {R : It → Hp → Prop} (h : ta σ H fun vs H1 => ∃ i j : Int, vs = [.int i, .int j] ∧ (-(2 ^ 62) ≤ i ∧ i < 2 ^ 62 ∧ -(2 ^ 62) ≤ j ∧ j < 2 ^ 62) ∧ R (Itr i (j - i).toNat) H1) : iRng2 ta σ H R := h
theorem s_rn2 {i j : Int} {R : Int → Int → Prop} (h : -(2 ^ 62) ≤ i ∧ i < 2 ^ 62 ∧ -(2 ^ 62) ≤ j ∧ j < 2 ^ 62) (q : R i j) : ∃ i' j' : Int, [V.int i, V.int j] = [.int i', .int j'] ∧ (-(2 ^ 62) ≤ i' ∧ i' < 2 ^ 62 ∧ -(2 ^ 62) ≤ j' ∧ j' < 2 ^ 62) ∧ R i' j' := ⟨i, j, rfl, h, q⟩
/-! a meeting of ways, what is behind it a letter -/
theorem jT {tt : TT} {Q : Bool → Hp → Prop} (R : Bool → Hp → Prop) (key : ∀ b H1, R b H1 → Q b H1) (w : ∀ Q' : Bool → Hp → Prop, (∀ b H1, R b H1 → Q' b H1) → tt σ H Q') : tt σ H Q := w _ key
theorem jE {te : TE} (R : V → Hp → Prop) (key : ∀ b H1, R b H1 → Q b H1) (w : ∀ Q' : VK, (∀ b H1, R b H1 → Q' b H1) → te σ H Q') : te σ H Q := w _ key
theorem jS {t u : TS} (R : L2.St → Hp → Prop) (key : ∀ σ1 H1, R σ1 H1 → u D σ1 H1) (w : ∀ u' : L2.St → Hp → Prop, (∀ σ1 H1, R σ1 H1 → u' σ1 H1) → t { D with nx := u' } σ H) : tSeq t u D σ H := w _ key
/-- no tuple -/
def Nt (H : Hp) (p : Addr) : Prop := ∀ xs, H p ≠ some (.tup xs)
theorem Nt.lst (h : H p = some (.lst xs)) : Nt H p := fun ys e => by rw [h] at e; cases e
theorem Nt.ins {C dx : Addr} {fs : List (Str × V)} (h : H p = some (.ins C dx fs)) : Nt H p := fun ys e => by rw [h] at e; cases e
theorem Nt.none (h : H p = none) : Nt H p := fun ys e => by rw [h] at e; cases e
theorem Kp.tup (k : Kp ps H H') (n : ∀ q ∈ ps, Nt H q) (e : H p = some (.tup xs)) : H' p = some (.tup xs) := k.get e fun m => n p m xs e
/-- new since -/
theorem Kp.all (k : Kp ps H H') (f : ∀ q ∈ ps, H q = none) : Kp [] H H' := ⟨fun b o e _ => k.keep b o e fun m => (by rw [f b m] at e; cases e), k.kd, k.tp⟩
end
end U

namespace U
open PySem L2 PySem.Spec PyProof.Rows
/-! xs[a:] = ys -/
theorem bounds_tail {a n : Nat} (h : a ≤ n) : sliceBounds (some (a : Int)) none none n = ((a : Int), (n : Int), 1) := by
  simp only [sliceBounds, Option.getD_none]
  have h1 : ¬ ((a : Int) < 0) := by omega
  simp only [h1, if_false, show (1 : Int) > 0 by decide, if_true]
  congr 1
  omega
section
variable {prog : Program} {w : World} {A : Around} {s : Shared} {E : Value → Shared → Prop}
theorem setItem_tail {l b sl : Addr} {items new : Array Value} {n n2 : Nat} {vl : Value} {a : Nat} {Q : Unit → Shared → Prop}
    (e : s.heap.get? l = some { cls := .type "list", data := .seq items n }) (e2 : s.heap.get? b = some { cls := .type "list", data := .seq new n2 }) (hne : l ≠ b)
    (hs : s.heap.IsSliceOf sl vl .none .none) (pl : IsPart vl (some (a : Int))) (ha : a ≤ items.size) (hsz : items.size + new.size ≤ sizeLine)
    (h : Q () { s with heap := s.heap.update l (Obj.mapSeq fun xs => xs.extract 0 a ++ new ++ xs.extract items.size xs.size) }) :
    wpAny (model prog w) A (setItem (.ref l) (.ref sl) (.ref b)) Q E s := by
  have hl : s.heap.IsList l items := PySem.IsL.isList e
  have hb : s.heap.IsList b new := PySem.IsL.isList e2
  obtain ⟨os, hos, hcs, hds⟩ := id hs
  have hTs : s.TypeIs (.ref sl) "slice" := ⟨os, hos, hcs⟩
  have hsame : Builtin.List.listSameRef (.ref l) (.ref b) = false := by
    unfold Builtin.List.listSameRef
    exact beq_eq_false_iff_ne.mpr hne
  have hmax : (max (a : Int) (items.size : Int)).toNat = items.size := by omega
  have hz' : ((fun xs : Array Value => xs.extract 0 a ++ new ++ xs.extract items.size xs.size) items).size ≤ sizeLine + 1 := by
    simp only [Array.size_append, Array.size_extract]
    omega
  unfold setItem
  try with_reducible refine wpAny_holding ?_
  first | refine wpAny_bind (wpAny_pure ?_) | skip
  refine wpAny_bind (wpAny_sequenceKey hl.typeIs (by decide) ?_)
  refine wpAny_bind (wpAny_callSpecial?_slot (name := Str.ofString "__setitem__") hl.typeIs slot_list_setitem (wpAny_call_entry slot_list_setitem hl.typeIs entry_list_setitem ?_ (args_list_setitem _ _ _)))
  show wpAny _ _ (Builtin.List.listSubscript? (.ref sl) >>= _) _ _ s
  refine wpAny_bind ?_
  unfold Builtin.List.listSubscript?
  refine wpAny_bind (wpAny_specialOf hTs slice_no_index ?_)
  simp only [Option.isNone_none, if_true]
  refine wpAny_pure ?_
  show wpAny _ _ (typeOf (.ref sl) >>= _) _ _ s
  refine wpAny_bind (wpAny_typeOf hTs ?_)
  first
    | rw [if_neg (by decide)]
    | refine PySem.W.KFB.if_not (by decide) ?_
  rw [listSliceParts_eq]
  refine wpAny_bind (wpAny_bind (wpAny_field hos hds (x := .none) rfl (wpAny_bind (wpAny_listPart .none ?_))))
  rw [if_neg (show ¬ ((rawPart none == rawInt 0) = true) from Bool.false_ne_true)]
  refine wpAny_bind (wpAny_field hos hds (x := vl) rfl (wpAny_bind (wpAny_listPart pl ?_)))
  refine wpAny_bind (wpAny_field hos hds (x := .none) rfl (wpAny_bind (wpAny_listPart .none (wpAny_pure ?_))))
  first
    | simp only [hsame, Bool.false_eq_true, if_false]
    | refine PySem.W.KFB.if_not hsame ?_
    | (dsimp only
       rw [if_neg (by rw [hsame]; exact Bool.false_ne_true)])
  refine wpAny_bind (m := Builtin.List.listAllItems (.ref b) "must assign iterable to extended slice") ?_
  unfold Builtin.List.listAllItems
  refine wpAny_bind (wpAny_typeOf hb.typeIs ?_)
  first
    | refine PySem.W.KFB.if_so (by decide) ?_
    | rw [if_pos (by decide)]
    | simp only [beq_self_eq_true, Bool.true_or, if_true]
  unfold Builtin.List.listItems
  refine wpAny_bind (wpAny_seqItems e2 rfl (wpAny_pure ?_))
  refine wpAny_bind (wpAny_bind (wpAny_seqItems e rfl (wpAny_pure ?_)))
  refine wpAny_bind (wpAny_of_eq ((sliceIndices_raw (some (a : Int)) none none items.size (by simp)).trans (congrArg (pure : Int × Int × Int → Sem (Int × Int × Int)) (bounds_tail ha))) ?_)
  show wpAny _ _ (if ((1 : Int) == 1) = true then _ else _) _ _ s
  rw [if_pos (by decide)]
  refine wpAny_bind (wpAny_rule ?_)
  first
    | simp only [notLongL hsz, Bool.false_eq_true, if_false]
    | refine PySem.W.KFB.if_not (notLongL hsz) ?_
  first | refine wpAny_bind (wpAny_pure ?_) | skip
  show wpAny _ _ (updateSeq l (fun xs => xs.extract 0 ((a : Int)).toNat ++ new ++ xs.extract (max (a : Int) (items.size : Int)).toNat xs.size) >>= _) _ _ s
  rw [hmax, Int.toNat_natCast]
  refine wpAny_bind (wpAny_updateSeq (hz := Nat.le_trans (Nat.le_add_right _ _) hsz) (_hz' := hz') e rfl ?_)
  refine wpAny_bind (wpAny_letGo ?_)
  first
    | exact wpAny_bind (wpAny_pure (wpAny_pure ⟨.none, rfl, wpAny_pure h⟩))
    | exact wpAny_pure ⟨.none, rfl, wpAny_pure h⟩
end
section
variable {X : Cx} {o lo : Expr} {to tl : TE} {pos p2 : Pos}
def TlK (x v : V) (R : Hp → Prop) (y : V) (H : Hp) : Prop := ∃ (l b : Addr) (xs ys : List V) (a : Int), x = .ref l ∧ v = .ref b ∧ y = .int a ∧ H l = some (.lst xs) ∧ H b = some (.lst ys) ∧ l ≠ b ∧ 0 ≤ a ∧ a ≤ xs.length ∧ xs.length + ys.length ≤ sizeLine ∧ R (upd H l (.lst (xs.take a.toNat ++ ys)))
def gTl (to tl : TE) : TG := fun v σ H R => to σ H fun x H1 => tl σ H1 (TlK x v (R σ))
theorem pg_tail (ho : PE X o to) (hl : PE X lo tl)
    (ha : ∀ v, assign (.Subscript o (.Slice (some lo) none none p2) pos) X.env v = (do
      let ov ← holding [v] (eval o X.env)
      let iv ← holding [v, ov] (eval (.Slice (some lo) none none p2) X.env)
      standAt pos
      holding [v, ov, iv] (setItem ov iv v)
      release [iv, v, ov] []) := by intro _; rfl) : PG X (.Subscript o (.Slice (some lo) none none p2) pos) (gTl to tl) := by
  refine ⟨fun pins s σ H v u Q I r h => ?_⟩
  rw [ha]
  refine wpAny_bind (wpAny_holding (thn (ho.run pins s σ H _ I h) fun ov s1 ⟨x, H1, I1, r1, q1⟩ => ?_))
  have hpo := po_some (peMo hl)
  refine wpAny_bind (wpAny_holding (wpAny_Slice (thn (hpo.run pins s1 σ H1 (fun o H2 => ∃ a, o = some a ∧ TlK x v (Q σ) (.int a) H2) I1 ⟨_, q1, fun y H2 z => ?_⟩) fun vl s2 ⟨a0, H2, I2, pl, a, ea, q2⟩ => ?_)))
  · obtain ⟨l, b, xs, ys, a, e1, e2, rfl, z⟩ := z
    exact ⟨a, rfl, a, rfl, l, b, xs, ys, a, e1, e2, rfl, z⟩
  subst ea
  refine thn (po_none.run pins s2 σ H2 (fun o H3 => o = none ∧ H3 = H2) I2 ⟨rfl, rfl⟩) fun vu s3 ⟨u', H3, I3, pu, eu, e3⟩ => ?_
  subst eu
  subst e3
  cases pu
  rw [evalPart_none]
  refine wpAny_pure ?_
  have I4 : Inv X pins σ H3 { s3 with heap := s3.heap.push { cls := .type "slice", data := .fields #[vl, .none, .none] } } := I3.kept (t' := s3.toks) fun b ob q => Heap.get?_push_of_some _ q
  obtain ⟨l, b, xs, ys, a', rfl, rfl, ea, hH, hB, hne, h0, h1, hz, q⟩ := q2
  cases ea
  cases r1
  cases r
  obtain ⟨z, its, n, rr, hl', e⟩ := I4.lstM hH
  obtain ⟨z2, its2, n2, r2, hl2, e2⟩ := I4.lstM hB
  obtain ⟨a', rfl⟩ := Int.eq_ofNat_of_zero_le h0
  simp only [Int.toNat_natCast] at q
  refine wpAny_bind (wpAny_standAt (wpAny_bind (wpAny_holding (setItem_tail (a := a') e e2 hne (Heap.IsSliceOf.new ..) pl (by rw [List.size_toArray]; omega) (by rw [List.size_toArray, List.size_toArray]; omega) ?_))))
  refine wpAny_release ⟨σ, _, I4.lset (its' := its.take a' ++ its2) (t' := s3.toks) hH e ?_ ((rr.take _).append r2) ?_, q⟩
  · have := splice_eq its its2 a' its.length
    rw [List.drop_length, List.append_nil] at this
    rw [List.size_toArray]
    exact this
  · rw [List.length_append, List.length_take]
    omega
section
variable {σ : L2.St} {H : Hp} {v x y : V} {l b : Addr} {xs ys zs : List V} {a : Int}
theorem s_tl {R : L2.St → Hp → Prop} (h : to σ H fun x H1 => tl σ H1 (TlK x v (R σ))) : gTl to tl v σ H R := h
theorem s_tlk {R : Hp → Prop} (h1 : H l = some (.lst xs)) (h2 : H b = some (.lst ys)) (n : l ≠ b) (h0 : 0 ≤ a) (ha : a ≤ xs.length) (hz : xs.length + ys.length ≤ sizeLine) (e : xs.take a.toNat ++ ys = zs)
    (q : ∀ H', H' l = some (.lst zs) → Kp [l] H H' → R H') : TlK (.ref l) (.ref b) R (.int a) H := ⟨l, b, xs, ys, a, rfl, rfl, rfl, h1, h2, n, h0, ha, hz, by rw [e]; exact put_abs h1 rfl q⟩
end
end
end U

namespace U
open PySem L2 PySem.Spec PyProof.Rows
section
variable {X : Cx}
/-- sorted(d), a dict with int keys, any number of them -/
def uSortD : List V → Hp → VK → Prop := fun xs H Q => ∃ (a : Addr) (kvs : List (Key × V)) (ks : List Int), xs = [.ref a] ∧ Rd H a (.dK kvs) ∧ kvs.map (·.1) = ks.map Sum.inl ∧
    ∀ (ys : List Int) (p : Addr), ys.Perm ks → ys.Pairwise (· ≤ ·) → H p = none → Q (.ref p) (upd H p (.lst (ys.map V.int)))
theorem c_sortD (hcalm : X.calm = true) : CallR X (.builtin "sorted") uSortD := by
  intro pins s σ H xs us Q I r q
  obtain ⟨a, kvs, ks, ex, hd, hks, q⟩ := q
  subst ex
  obtain ⟨u, eu, rx⟩ := vals1 r
  subst eu
  cases rx
  obtain ⟨z, lo, vs, rel, dd⟩ := dk_rd I.hok hd
  obtain ⟨ep, hat⟩ := dd.dictAt
  have hkeys : vs.map (·.1) = ks.map Sum.inl := rel.keys.symm.trans hks
  have hl : vs.length = ks.length := by
    have e := congrArg List.length hkeys
    rwa [List.length_map, List.length_map] at e
  have h16 : vs.length ≤ sizeLine := by rw [← rel.length]; exact z
  refine Calls.call_function_entry PyProof.Rows.kind_sorted PyProof.Rows.plain_sorted PyProof.Rows.entry_sorted (PyProof.Rows.args_sorted1 _) ?_
  unfold Builtin.«sorted»
  refine wpAny_bind (m := checkCount "sorted" 1 1 _) (wpAny_pure ?_)
  refine wpAny_bind (PySem.W.kdu_collect (A := X.A.in1) (PySem.W.kdl_dict (knd := mixKind X.prog X.w) (kvs := vs) (ep := ep) lo) (I.ok.hd hcalm) hat h16 fun h' tk acc hk hacc => ?_)
  have hal : acc.toList.length = ks.length := by rw [Array.length_toList, hacc.1, hl]
  have hS : IntsAre acc.toList ks := ints_each hal fun j v e => by
    obtain ⟨k, x, e1, e2⟩ := hacc.2 j v (by rw [← Array.getElem?_toList]; exact e)
    have e3 : (vs.map (·.1))[j]? = some k := by rw [List.getElem?_map, e1]; rfl
    rw [hkeys, List.getElem?_map] at e3
    obtain ⟨y, e4, rfl⟩ := Option.map_eq_some_iff.mp e3
    rcases keyIs_shape (show keyIs (Sum.inl y) v = true from e2) with ⟨i, t, ek, ev⟩ | ⟨z, t, ek, ev⟩
    · cases ek
      exact ⟨_, t, e4, ev⟩
    · cases ek
  have I1 : Inv X pins σ H { s with heap := h', toks := tk } := I.kept hk
  refine wpAny_bind (wpAny_newList ?_ (by rw [hal, ← hl]; exact h16))
  have hoL : (h'.push (seqObj "list" acc.toList.toArray 0)).get? h'.objs.size = some (seqObj "list" acc.toList.toArray 0) := Heap.get?_push_size _ rfl
  show wpAny _ _ _ _ _ { s with heap := h'.push (seqObj "list" acc.toList.toArray 0), toks := tk }
  refine wpAny_bind (wpAny_holding (wpAny_call_entry PyProof.Rows.slot_list_sort ⟨_, hoL, rfl⟩ PyProof.Rows.entry_list_sort
    (SrtO.list_sort_ord (s := { s with heap := h'.push (seqObj "list" acc.toList.toArray 0), toks := tk }) SrtO.swo_int hoL (by rw [hal, ← hl]; exact h16) (fun h2 => SrtO.ints_sortable hS h2) fun out h1 h2 => ⟨_, rfl, ?_⟩) (PyProof.Rows.args_list_sort _)))
  obtain ⟨g1, g2, g3⟩ := SrtO.ints_out hS h1 h2
  obtain ⟨e', he'⟩ := PyProof.Rows.sortedHeap_at (vs := acc.toList) (out := out.toArray) hoL
  have hlen : ((out.map SrtO.iv).map V.int).length ≤ sizeLine := by
    rw [List.length_map, g2.length_eq, ← hl]
    exact h16
  refine wpAny_pure ⟨_, rfl, .ref h'.objs.size, upd H h'.objs.size (.lst ((out.map SrtO.iv).map V.int)), I1.laid (t' := tk) (fun b u e => ?_) (Nat.le_refl _)
    (show ObjOk X.prog X.w _ _ _ (.lst ((out.map SrtO.iv).map V.int)) from ⟨hlen, out, e', vals_of_ints g1, he'⟩), rfl, q _ _ g2 g3 (I1.hok.fresh (Nat.le_refl _))⟩
  have hb : b < h'.objs.size := Heap.lt_size e
  rw [PyProof.Rows.sortedHeap_old (Nat.ne_of_lt hb) (by rw [size_push']; exact Nat.lt_succ_of_lt hb)]
  exact Heap.get?_push_of_some _ e
end
/-! d.update(e), another dict -/
section
variable {X : Cx}
theorem merge_len : ∀ (more kvs : List (Key × V)), (mergeK kvs more).length ≤ kvs.length + more.length
  | [], kvs => by simp [mergeK]
  | p :: r, kvs => by
    have h1 := merge_len r (putK kvs p.1 p.2)
    have h2 := length_putK kvs p.1 p.2
    have e : mergeK kvs (p :: r) = mergeK (putK kvs p.1 p.2) r := rfl
    rw [e, List.length_cons]
    omega
def rUpd : V → List V → Hp → VK → Prop := fun x xs H Q => ∃ (a b : Addr) (kvs more : List (Key × V)), x = .ref a ∧ xs = [.ref b] ∧ H a = some (.dK kvs) ∧ H b = some (.dK more) ∧ a ≠ b ∧ kvs.length + more.length ≤ sizeLine ∧ Q .non (upd H a (.dK (mergeK kvs more)))
theorem mt_update : MtR X "dict.update" rUpd := by
  intro pins s σ H x xs v us Q I rx rxs h
  obtain ⟨a, b, kvs, more, rfl, rfl, ha, hb, hne, hz, q⟩ := h
  cases rx
  obtain rfl := Vals.ref1 rxs
  obtain ⟨z, hd, vs, rel, dd⟩ := dk_of I.hok ha
  obtain ⟨z2, hd2, rs, rel2, dd2⟩ := dk_of I.hok hb
  refine call_meetsIn PySem.F.slot_dict_update dd.typeIs PySem.F.entry_dict_update (PySem.F.args_dict_update_2 _ _) (meets_dict_update (mixKind X.prog X.w) a b hne hd2) ⟨vs, rs, dd, dd2, by rw [← rel.length, ← rel2.length]; exact hz, fun h' dd' _ hs => ?_⟩
  have he : ∃ q, h'.get? a = some q := let ⟨q, _, _, hq, _⟩ := dd'; ⟨q, hq⟩
  exact ⟨.non, _, d_write (t' := s.toks) I (by rw [ha]; exact True.intro) hs he (dk_new (Nat.le_trans (merge_len _ _) hz) hd (KV.merge rel2 rel) dd'), rfl, q⟩
end
section
variable {K : PySem.W.Frag} {σ : L2.St} {H : Hp} {Q : VK} {a b : Addr} {kvs more ks : List (Key × V)}
theorem s_upd (ha : H a = some (.dK kvs)) (hb : H b = some (.dK more)) (n : a ≠ b) (hz : kvs.length + more.length ≤ sizeLine) (e : mergeK kvs more = ks) (q : ∀ H', H' a = some (.dK ks) → Kp [a] H H' → Q .non H') : rUpd (.ref a) [.ref b] H Q :=
  ⟨a, b, kvs, more, rfl, rfl, ha, hb, n, hz, by rw [e]; exact put_abs ha rfl (R := fun H' => Q .non H') q⟩
end
section
variable {K : PySem.W.Frag} {σ : L2.St} {H : Hp} {Q : VK} {p : Addr} {kvs : List (Key × V)} {ks : List Int}
theorem s_sortD (h : H p = some (.dK kvs)) (e : kvs.map (·.1) = ks.map Sum.inl) (q : ∀ (ys : List Int) l H', ys.Perm ks → ys.Pairwise (· ≤ ·) → H l = none → H' l = some (.lst (ys.map V.int)) → Kp [] H H' → Q (.ref l) H') : uSortD [.ref p] H Q :=
  ⟨p, kvs, ks, rfl, Or.inl h, e, fun ys l hp hs f => q ys l _ hp hs f upd_same (Kp.refl.new f)⟩
end
end U

namespace U
open PySem L2 PySem.Spec PyProof.Rows
/-! what the stepping words lean on: where things stand, by search -/
section
variable {K : PySem.W.Frag} {H H1 H2 : Hp} {ps qs : List Addr} {a b p q : Addr} {o u : HO} {i j : Nat}
theorem Kp.step (h : Kp ps H H1) (k : Kp qs H1 H2) (n : ∀ q ∈ qs, q ∈ ps ∨ H q = none) : Kp ps H H2 := ⟨fun b o e m => by
  refine k.keep b o (h.keep b o e m) fun z => ?_
  rcases n b z with y | y
  · exact m y
  · (rw [y] at e; cases e), fun b i e => k.kd b i (h.kd b i e), fun b xs e => k.tp b xs (h.tp b xs e)⟩
/-- told of heaps that are further apart (no step of the search) -/
structure Kz (ps : List Addr) (H H' : Hp) : Prop where
  k : Kp ps H H'
/-- told for later: it did not stand -/
structure Fz (H : Hp) (p : Addr) : Prop where
  f : H p = none
theorem nt1 {H : Hp} {p : Addr} (h : Nt H p) : ∀ q ∈ [p], Nt H q := by simpa using h
theorem nm0 : a ∉ ([] : List Addr) := by simp
theorem nmc (h : a ≠ p) (g : a ∉ ps) : a ∉ p :: ps := by simp [h, g]
theorem al0 {P : Addr → Prop} : ∀ q ∈ ([] : List Addr), P q := by simp
theorem alc {P : Addr → Prop} (h : P p) (g : ∀ q ∈ ps, P q) : ∀ q ∈ p :: ps, P q := by simpa using ⟨h, g⟩
/-- what stands was none before -/
def Dm (H H1 : Hp) : Prop := ∀ b, H1 b = none → H b = none
theorem Dm.refl : Dm H H := fun _ e => e
theorem Dm.step (h : Dm H H1) (k : Kp ps H1 H2) : Dm H H2 := fun b e => h b (k.dom b e)
theorem Dm.fr (n : H1 p = none) (h : Dm H H1) : H p = none := h p n
theorem Th.kp (k : Kp ps H H1) (h : Th H a i) : Th H1 a i := k.kd a i h
theorem Th.ne (h : Th H a i) (f : H p = none) : a ≠ p := by obtain ⟨o, e, r⟩ := h; exact ne_of_none e f
theorem Th.nk (h : Th H a i) (g : Th H p j) (d : Nat.beq i j = false) : a ≠ p := fun z => by
  subst z
  obtain ⟨o, e, rfl⟩ := h
  obtain ⟨o', e', rfl⟩ := g
  rw [e] at e'
  cases e'
  exact Nat.ne_of_beq_eq_false d rfl
theorem Th.nt (h : Th H a i) (d : Nat.beq i 1 = false) : Nt H a := fun xs e => by
  obtain ⟨o, e2, rfl⟩ := h
  rw [e] at e2
  cases e2
  cases d
theorem SqL.kpn {xs : List V} (k : Kp ps H H1) (h : SqL K H a xs) (n : a ∉ ps) : SqL K H1 a xs := by
  rcases h with (e | ⟨o, e⟩) | e
  · exact Or.inl (Or.inl (k.get e n))
  · exact Or.inl (Or.inr ⟨o, k.get e n⟩)
  · exact Or.inr e
theorem TyN.kpn {v : V} {t : Kd} (h : TyN H v t) (k : Kp ps H H1) (n : ∀ q ∈ ps, v ≠ .ref q) : TyN H1 v t := by
  cases h with
  | non => exact .non
  | bl => exact .bl
  | int => exact .int
  | str => exact .str
  | lst e => exact .lst (k.get e fun m => n _ m rfl)
  | tup e => exact .tup (k.get e fun m => n _ m rfl)
  | dic e => exact .dic (k.get e fun m => n _ m rfl)
theorem kn {a b : Str} (h : decide (a = b) = false) : ¬ ((Sum.inr a : Key) = Sum.inr b) := fun z => by
  injection z with z
  exact absurd z (of_decide_eq_false h)
/-- the box: a list of three numbers, the last one at most n -/
structure Box (H : Hp) (p : Addr) (n : Nat) : Prop where
  ex : ∃ a b c : Int, H p = some (.lst [.int a, .int b, .int c]) ∧ 0 ≤ a ∧ 0 ≤ b ∧ b < 2147483629 ∧ 0 ≤ c ∧ c ≤ n
theorem Box.th {n : Nat} (h : Box H p n) : Th H p 0 := by obtain ⟨a, b, c, e, r⟩ := h.ex; exact .lst e
theorem Box.kp {n : Nat} (h : Box H p n) (k : Kp [] H H1) : Box H1 p n := by
  obtain ⟨a, b, c, e, r⟩ := h.ex
  exact ⟨a, b, c, k.get0 e, r⟩
theorem Box.kpn {n : Nat} (h : Box H p n) (k : Kp ps H H1) (z : p ∉ ps) : Box H1 p n := by
  obtain ⟨a, b, c, e, r⟩ := h.ex
  exact ⟨a, b, c, k.get e z, r⟩
theorem Box.ne {l : Addr} {n : Nat} (h : Box H p n) (hl : H l = none) : l ≠ p := (h.th.ne hl).symm
theorem Box.more {n m : Nat} (h : Box H p n) (e : n ≤ m) : Box H p m := by
  obtain ⟨a, b, c, e1, h1, h2, h3, h4, h5⟩ := h.ex
  exact ⟨a, b, c, e1, h1, h2, h3, h4, by omega⟩
theorem Box.nt {n : Nat} (h : Box H p n) : Nt H p := by
  obtain ⟨a, b, c, e, r⟩ := h.ex
  exact Nt.lst e
theorem PvD.begin {H : Hp} {D : Addr} {Pv : Nat → List V → Hp → Prop} (f : H D = none) (h : ∀ H', H' D = some (.lst []) → Kp [] H H' → Pv 0 [] H') : PvD D Pv 0 (upd H D (.lst [])) := ⟨[], upd_same, h _ upd_same (Kp.refl.new f)⟩
theorem PvD.add {H : Hp} {D : Addr} {Pv : Nat → List V → Hp → Prop} {acc : List V} {y : V} {i : Nat} (e : H D = some (.lst acc)) (hz : acc.length ≤ 1000000) (h : ∀ H', H' D = some (.lst (acc ++ [y])) → Kp [D] H H' → Pv i (acc ++ [y]) H') :
    ∃ acc, H D = some (.lst acc) ∧ acc.length < sizeLine ∧ PvD D Pv i (upd H D (.lst (acc ++ [y]))) := ⟨acc, e, zlt hz, acc ++ [y], upd_same, h _ upd_same (Kp.refl.put (by simp) (.lst e))⟩
theorem many_j (n : Nat) (lo hi : Int) (h0 : 0 ≤ lo) (h : lo ≤ hi) : ∃ j : Nat, (if (if (n : Int) < hi then (n : Int) else hi) > lo then (if (n : Int) < hi then (n : Int) else hi) else lo) = (j : Int) ∧ lo ≤ j ∧ j ≤ hi := by
  refine ⟨(if (if (n : Int) < hi then (n : Int) else hi) > lo then (if (n : Int) < hi then (n : Int) else hi) else lo).toNat, ?_, ?_, ?_⟩ <;> (split <;> split <;> omega)
end
end U

namespace U
open PySem L2 PySem.Spec PyProof.Rows
/-! == and != of data -/
section
variable {K : PySem.W.Frag} {H H1 : Hp} {Q : VK} {x y : V} {d e : PyData} {ps qs : List Addr}
mutual
theorem Dn.dp : ∀ {v : V} {d : PyData}, d.canLay0 = true → Dn K H v d → Dp K H v d
  | _, _, _, .non => .non
  | _, _, _, .bl b => .bl b
  | _, _, _, .int i => .int i
  | _, _, _, .str x => .str x
  | _, _, h, .lst r a => .lst (Or.inl r) (DnA.dp (by simpa only [PyData.canLay0] using h) a)
  | _, _, h, .tup r a => .tup r (DnA.dp (by simpa only [PyData.canLay0] using h) a)
  | _, _, h, .dic r a => by simp [PyData.canLay0] at h
theorem DnA.dp : ∀ {vs : List V} {ds : List PyData}, PyData.canLayAll0 ds = true → DnA K H vs ds → DpAll K H vs ds
  | _, _, _, .nil => .nil
  | _, _, h, .cons a b => by
    rw [PyData.canLayAll0, Bool.and_eq_true] at h
    exact .cons (Dn.dp h.1 a) (DnA.dp h.2 b)
end
theorem shp {d : PyData} (h : SeqAt.shaped d = true) : d.canLay0 = true := by
  unfold SeqAt.shaped at h
  rw [Bool.and_eq_true] at h
  exact h.1
theorem s_eqD (h1 : Dn K H x d) (h2 : Dn K H y e) (s1 : SeqAt.shaped d = true) (s2 : SeqAt.shaped e = true) (q : Q (.bl (PyData.eqv d e)) H) : uEq K x y H Q :=
  Or.inr ⟨d, e, h1.dp (shp s1), h2.dp (shp s2), s1, s2, q⟩
theorem s_neD (h1 : Dn K H x d) (h2 : Dn K H y e) (s1 : SeqAt.shaped d = true) (s2 : SeqAt.shaped e = true) (q : Q (.bl (!PyData.eqv d e)) H) : uNe K x y H Q :=
  Or.inr ⟨d, e, h1.dp (shp s1), h2.dp (shp s2), s1, s2, q⟩
theorem s_eqR (h1 : Dn K H x d) (h2 : Dn K H y d) (s1 : SeqAt.shaped d = true) (q : Q (.bl true) H) : uEq K x y H Q :=
  s_eqD h1 h2 s1 s1 (by rw [PySem.SeqAt.eqv_refl d (shp s1)]; exact q)
theorem s_neR (h1 : Dn K H x d) (h2 : Dn K H y d) (s1 : SeqAt.shaped d = true) (q : Q (.bl false) H) : uNe K x y H Q :=
  s_neD h1 h2 s1 s1 (by rw [PySem.SeqAt.eqv_refl d (shp s1)]; exact q)
/-- a list against [] -/
theorem s_neN {p r : Addr} {ds : List PyData} (h1 : Dn K H (.ref p) (.list ds)) (h2 : H r = some (.lst [])) (s1 : SeqAt.shaped (.list ds) = true) (q : Q (.bl (!ds.isEmpty)) H) : uNe K (.ref p) (.ref r) H Q := by
  refine s_neD h1 (.lst (Or.inl h2) .nil) s1 (by decide +kernel) ?_
  have e : PyData.eqv (.list ds) (.list []) = ds.isEmpty := by
    cases ds <;> simp [PyData.eqv, PyData.eqvAll]
  rw [e]
  exact q
theorem s_eqN {p r : Addr} {ds : List PyData} (h1 : Dn K H (.ref p) (.list ds)) (h2 : H r = some (.lst [])) (s1 : SeqAt.shaped (.list ds) = true) (q : Q (.bl ds.isEmpty) H) : uEq K (.ref p) (.ref r) H Q := by
  refine s_eqD h1 (.lst (Or.inl h2) .nil) s1 (by decide +kernel) ?_
  have e : PyData.eqv (.list ds) (.list []) = ds.isEmpty := by
    cases ds <;> simp [PyData.eqv, PyData.eqvAll]
  rw [e]
  exact q
/-! data of the part of the heap that is not at ps -/
def hid (ps : List Addr) (H : Hp) : Hp := fun a => if a ∈ ps then none else H a
theorem hid_some {a : Addr} {o : HO} (h : hid ps H a = some o) : H a = some o ∧ a ∉ ps := by
  unfold hid at h
  by_cases m : a ∈ ps
  · rw [if_pos m] at h; cases h
  · rw [if_neg m] at h; exact ⟨h, m⟩
theorem hid_of {a : Addr} {o : HO} (h : H a = some o) (m : a ∉ ps) : hid ps H a = some o := by
  unfold hid; rw [if_neg m]; exact h
theorem hid_kp (k : Kp qs H H1) (n : ∀ q ∈ qs, q ∈ ps ∨ H q = none) : Kp [] (hid ps H) (hid ps H1) := ⟨fun b o e _ => by
  obtain ⟨e1, m⟩ := hid_some e
  refine hid_of (k.get e1 fun z => ?_) m
  rcases n b z with y | y
  · exact m y
  · (rw [y] at e1; cases e1), fun b i e => by
  obtain ⟨o, e, r⟩ := e
  obtain ⟨e1, m⟩ := hid_some e
  obtain ⟨o', e', r'⟩ := k.kd b i ⟨o, e1, r⟩
  exact ⟨o', hid_of e' m, r'⟩, fun b xs e => by
  obtain ⟨e1, m⟩ := hid_some e
  exact hid_of (k.tp b xs e1) m⟩
/-- a thing that is data, no part of it at ps -/
def Dx (ps : List Addr) (K : PySem.W.Frag) (H : Hp) (v : V) (d : PyData) : Prop := Dn K (hid ps H) v d
theorem Dx.kpn (h : Dx ps K H x d) (k : Kp qs H H1) (n : ∀ q ∈ qs, q ∈ ps ∨ H q = none) : Dx ps K H1 x d := Dn.kp (hid_kp k n) h
theorem rdh {a : Addr} {u : HO} (r : Rd (hid ps H) a u) : Rd H a u := by
  rcases r with r | ⟨o, r⟩
  · exact Or.inl (hid_some r).1
  · exact Or.inr ⟨o, (hid_some r).1⟩
mutual
theorem Dn.unhid : ∀ {v : V} {d : PyData}, Dn K (hid ps H) v d → Dn K H v d
  | _, _, .non => .non
  | _, _, .bl b => .bl b
  | _, _, .int i => .int i
  | _, _, .str x => .str x
  | _, _, .lst r a => .lst (rdh r) (DnA.unhid a)
  | _, _, .tup r a => .tup (r.elim (fun z => Or.inl (rdh z)) Or.inr) (DnA.unhid a)
  | _, _, .dic r a => .dic (rdh r) (DnA.unhid a)
theorem DnA.unhid : ∀ {vs : List V} {ds : List PyData}, DnA K (hid ps H) vs ds → DnA K H vs ds
  | _, _, .nil => .nil
  | _, _, .cons a b => .cons (Dn.unhid a) (DnA.unhid b)
end
end
def uIsB : R2 := fun x y H Q => ∃ a b : Bool, x = .bl a ∧ y = .bl b ∧ Q (.bl (decide (a = b))) H
theorem o_isb {X : Cx} : OpR X (compareOp .Is) uIsB := op_is_bl
theorem s_isb {a b : Bool} {H : Hp} {Q : VK} (q : Q (.bl (decide (a = b))) H) : uIsB (.bl a) (.bl b) H Q := ⟨a, b, rfl, rfl, q⟩
section
variable {K : PySem.W.Frag} {σ : L2.St} {H : Hp} {Q : VK} {p : Addr} {xs : List V} {X : Cx}
def uTuple (K : PySem.W.Frag) : List V → Hp → VK → Prop := fun xs H Q => ∃ p ys, xs = [.ref p] ∧ ((SqL K H p ys ∧ ∀ l, H l = none → Q (.ref l) (upd H l (.tup ys))) ∨ (SqT K H p ys ∧ Q (.ref p) H))
theorem c_tuple (hK : X.K = K) : CallR X (.type "tuple") (uTuple K) := hK ▸ call_tuple_of
theorem s_tuple (h : SqL K H p xs) (q : ∀ l H', H l = none → H' l = some (.tup xs) → Kp [] H H' → Q (.ref l) H') : uTuple K [.ref p] H Q := ⟨p, xs, rfl, Or.inl ⟨h, new_abs (R := fun l H' => Q (.ref l) H') q⟩⟩
theorem s_tupleT (h : H p = some (.tup xs)) (q : Q (.ref p) H) : uTuple K [.ref p] H Q := ⟨p, xs, rfl, Or.inr ⟨SqT.of h, q⟩⟩
theorem s_rev (h : H p = some (.lst xs)) (q : ∀ H', H' p = some (.lst xs.reverse) → Kp [p] H H' → Q .non H') : rReverse (.ref p) [] H Q := ⟨p, xs, rfl, rfl, h, put_abs h rfl (R := fun H' => Q .non H') q⟩
end
theorem ix_mem {xs : List V} {i : Int} (h0 : 0 ≤ i) (h1 : i < xs.length) : ∃ v, v ∈ xs ∧ atI xs i = some v := by
  obtain ⟨v, e1, e2⟩ := at_int h0 h1
  exact ⟨v, List.mem_of_getElem? e1, e2⟩
theorem natAbs_lt {i : Int} {n : Nat} (h1 : -(n : Int) < i) (h2 : i < n) : i.natAbs < n := by omega
theorem s_par {i j : Nat} {ta : TA} {D : Ends} {σ : L2.St} {H : Hp} (h : ta σ H fun vs H1 => ∃ u v, vs = [u, v] ∧ D.nx ((σ.set i (some u)).set j (some v)) H1) : tPar i j ta D σ H := h
theorem s_two {u v : V} {R : V → V → Prop} (q : R u v) : ∃ u' v', [u, v] = [u', v'] ∧ R u' v' := ⟨u, v, rfl, q⟩
theorem at_last {α : Type} {xs : List α} (h : xs ≠ []) : ∃ v, v ∈ xs ∧ atI xs (-1) = some v := by
  have hp := List.length_pos_iff.mpr h
  refine ⟨xs[xs.length - 1]'(by omega), List.getElem_mem _, ?_⟩
  unfold atI ixN
  rw [if_neg (by omega), if_pos (by omega)]
  have e : (-1 + (xs.length : Int)).toNat = xs.length - 1 := by omega
  simp [e]
end U

namespace U
open PySem L2 PySem.Spec PyProof.Rows
/-! a def whose last parameter has the default None -/
section
variable {P : Program} {w : World} {K : PySem.W.Frag} {mg : Str → Option Value} {base : Heap} {x ql : Str} {st : Stmt} {f : Addr} {fd : FuncData} {N ps : List Str} {k : Nat} {sp : Sp}
abbrev FunN (K : PySem.W.Frag) (x ql : Str) (st : Stmt) (f : Addr) (fd : FuncData) : Prop := FunD K x ql (defArgs st) (defBody st) (defScope st) [.non] [] f fd
theorem funN_okX (F : FunN K x ql st f fd) (S : FnScope N ps (defScope st)) (len : ∀ vs H Q E, sp vs H Q E → vs.length = ps.length)
    (hb : ∀ (cdv : Value) (A : Around) (outer : List Env) (s : Shared) (H : Hp) (vs : List V) (Q : VK) (E : XK), Room k (A.deeper (envOfC ql (defScope st) s.heap.objs.size f cdv)) → sp vs H Q E →
      ∃ t, PSs (cxOf (L2.CX P w) P w K mg base N ql (defScope st) f cdv A outer s H E) (defBody st) t ∧ t { nx := fun _ H' => Q .non H', rt := Q } (start N vs) H) : FnOk P w K mg base (L2.CX P w) (k + 1) f fd ps sp :=
  F.ok S len hb
theorem funN_full (F : FunN K x ql st f fd) (n : Nat) (hn : n = ps.length)
    (h : ∀ (T : Addr) (kV doc pm : Value) (an : Option Addr) (cdv ct : Value) (us its : List Value), us.length = n → its.length = 1 →
      ∃ k, bindArgs (PySem.W.fnOf x ql (defArgs st) (defBody st) (defScope st) (.ref T) kV doc pm an cdv ct) ⟨us, []⟩ = seqItems? (.ref T) >>= k ∧ k (some its.toArray) = pure (ps.zip (us ++ its.drop 1))) : Binds K fd ps [] := by
  obtain ⟨ds, v, b⟩ := F.binds1 (ps := ps) n 1 (by simp) (by simp [hn]) h
  cases v
  exact b
theorem funN_part (F : FunN K x ql st f fd) (n : Nat) (hn : n + 1 = ps.length)
    (h : ∀ (T : Addr) (kV doc pm : Value) (an : Option Addr) (cdv ct : Value) (us its : List Value), us.length = n → its.length = 1 →
      ∃ k, bindArgs (PySem.W.fnOf x ql (defArgs st) (defBody st) (defScope st) (.ref T) kV doc pm an cdv ct) ⟨us, []⟩ = seqItems? (.ref T) >>= k ∧ k (some its.toArray) = pure (ps.zip (us ++ its.drop 0))) : Binds K fd ps [.none] := by
  obtain ⟨ds, v, b⟩ := F.binds1 (ps := ps) n 0 (by simp) (by simp [hn]) h
  cases v with
  | cons a r =>
    cases r
    cases a
    exact b
theorem funN_mk {oc : Value} {od an : Option Addr} {osl : Array (Option Value)} {kV doc pm cdv ct : Value} {T : Addr} {oT : Obj} {nT : Nat} (l : K.lookup f = some ⟨oc, od, .func (PySem.W.fnOf x ql (defArgs st) (defBody st) (defScope st) (.ref T) kV doc pm an cdv ct), osl⟩)
    (c : PySem.W.codeIn K cdv ql = true) (k : PySem.W.keepIn K (.ref f) = true) (lT : K.lookup T = some oT) (dT : oT.data = .seq #[Value.none] nT) : FunN K x ql st f (PySem.W.fnOf x ql (defArgs st) (defBody st) (defScope st) (.ref T) kV doc pm an cdv ct) :=
  ⟨⟨oc, od, _, kV, doc, pm, an, cdv, ct, osl, rfl, l, c, Or.inr ⟨by simp, T, oT, [.none], nT, rfl, lT, dT, .cons rfl .nil⟩, Or.inl rfl⟩, k⟩
end
/-! a walk over a list or a tuple -/
section
variable {X : Cx} {K : PySem.W.Frag} {tg l : Expr} {tl : TE}
def iSeq (K : PySem.W.Frag) (tl : TE) : TI := fun σ H R => tl σ H fun x H1 => ∃ a, x = .ref a ∧ (((∃ xs, SqL K H1 a xs) ∧ R (Itl K a) H1) ∨ ((∃ xs, SqT K H1 a xs) ∧ R (Itt K a) H1))
theorem pi_seq (hK : X.K = K) (hl : PE X l tl) : PI X tg l (iSeq K tl) := by
  subst hK
  refine ⟨fun pins s σ H R I h => ?_⟩
  refine thn (hl.run pins s σ H _ I h) fun v s1 ⟨x, H1, I1, r1, q1⟩ => ?_
  obtain ⟨a, e, q1⟩ := q1
  subst e
  cases r1
  rcases q1 with ⟨⟨xs, hq⟩, q⟩ | ⟨⟨xs, hq⟩, q⟩
  · obtain ⟨its, rv, p, hz⟩ := I1.list hq
    refine wpAny_pyIter_list p.isList ?_
    refine ⟨s1.heap.objs.size, [s1.heap.objs.size], _, _, H1, rfl, I1.kept (t' := s1.toks) fun b o e => Heap.get?_push_of_some _ e, turn_list a _, ⟨_, Heap.get?_push_size _ rfl, rfl, rfl⟩, fun b hb => ?_, q⟩
    have e : b = s1.heap.objs.size := by simpa using hb
    subst e
    exact I1.fpOk (Nat.le_refl _) (I1.hok.fresh (Nat.le_refl _))
  · obtain ⟨its, rv, p, hz⟩ := I1.tuple hq
    refine wpAny_pyIter_tuple (show s1.heap.IsTuple a its.toArray from p) ?_
    refine ⟨s1.heap.objs.size, [s1.heap.objs.size], _, _, H1, rfl, I1.kept (t' := s1.toks) fun b o e => Heap.get?_push_of_some _ e, turn_tuple a _, ⟨_, Heap.get?_push_size _ rfl, rfl, rfl⟩, fun b hb => ?_, q⟩
    have e : b = s1.heap.objs.size := by simpa using hb
    subst e
    exact I1.fpOk (Nat.le_refl _) (I1.hok.fresh (Nat.le_refl _))
variable {σ : L2.St} {H : Hp} {R : It → Hp → Prop}
theorem s_iseq (h : tl σ H fun x H1 => ∃ a, x = .ref a ∧ (((∃ xs, SqL K H1 a xs) ∧ R (Itl K a) H1) ∨ ((∃ xs, SqT K H1 a xs) ∧ R (Itt K a) H1))) : iSeq K tl σ H R := h
theorem s_isqT {p : Addr} {xs : List V} {S L : Addr → Prop} (h : H p = some (.tup xs)) (q : S p) : ∃ a, V.ref p = .ref a ∧ (((∃ xs, SqL K H a xs) ∧ L a) ∨ ((∃ xs, SqT K H a xs) ∧ S a)) := ⟨p, rfl, Or.inr ⟨⟨xs, SqT.of h⟩, q⟩⟩
theorem s_isqL {p : Addr} {xs : List V} {S L : Addr → Prop} (h : H p = some (.lst xs)) (q : L p) : ∃ a, V.ref p = .ref a ∧ (((∃ xs, SqL K H a xs) ∧ L a) ∨ ((∃ xs, SqT K H a xs) ∧ S a)) := ⟨p, rfl, Or.inl ⟨⟨xs, SqL.of h⟩, q⟩⟩
theorem s_itup (h : tl σ H fun x H1 => ∃ a, x = .ref a ∧ (∃ xs, SqT K H1 a xs) ∧ R (Itt K a) H1) : iTup K tl σ H R := h
theorem s_itp {p : Addr} {xs : List V} {S : Addr → Prop} (h : H p = some (.tup xs)) (q : S p) : ∃ a, V.ref p = .ref a ∧ (∃ xs, SqT K H a xs) ∧ S a := ⟨p, rfl, ⟨xs, SqT.of h⟩, q⟩
end
/-! isinstance(x, (list, tuple)) -/
section
variable {X : Cx} {K : PySem.W.Frag} {H : Hp} {Q : VK}
theorem c_isiT (hK : X.K = K) : CallR X (.builtin "isinstance") (rIsiT K) := hK ▸ call_isiT
def Kd.isSeq : Kd → Bool | .lst => true | .tup => true | _ => false
theorem kb_seq (t : Kd) : PySem.W.kitAny K (.type t.nm) [.type "list", .type "tuple"] = some t.isSeq := by cases t <;> rfl
theorem s_isSeq {v : V} {t : Kd} {tp : Addr} (h : TyN H v t) (e : H tp = some (.tup [.ty "list", .ty "tuple"])) (q : Q (.bl t.isSeq) H) : rIsiT K [v, .ref tp] H Q :=
  ⟨v, tp, _, _, _, _, rfl, e, .cons (.ty _) (.cons (.ty _) .nil), h.ty, kb_seq t, q⟩
def uAbs : List V → Hp → VK → Prop := fun xs H Q => ∃ i, xs = [.int i] ∧ Q (.int (if i < 0 then -i else i)) H
theorem c_abs : CallR X (.builtin "abs") uAbs := call_abs
theorem s_abs {i : Int} (q : Q (.int (if i < 0 then -i else i)) H) : uAbs [.int i] H Q := ⟨i, rfl, q⟩
theorem bt_abs : bootBuiltins "abs" = some (.builtin "abs") := by decide +kernel
theorem bt_enumerate : bootBuiltins "enumerate" = some (.type "enumerate") := by decide +kernel
end
end U

namespace U
open PySem L2 PySem.Spec PyProof.Rows
/-! enumerate(t), t a tuple -/
def IteT (K : PySem.W.Frag) (a : Addr) : It :=
  ⟨fun i H => ∃ (xs : List V) (x : V), SqT K H a xs ∧ xs[i]? = some x, fun i H v H' => ∃ T x, v = .ref T ∧ H T = none ∧ H' = upd H T (.tup [.int (i : Nat), x]) ∧ ∀ xs, SqT K H a xs → xs[i]? = some x, fun i H => ∃ xs : List V, SqT K H a xs ∧ xs.length ≤ i⟩
theorem turn_enumT {P : Program} {w : World} {K : PySem.W.Frag} {elts : List Expr} {kk : Nat} {tpos : Pos} (a e it : Addr) :
    Turn P w K (.Tuple elts kk tpos) (IteT K a) [e, it] e (fun i h => (∃ old, IsEnum h e it ((i : Nat) : Int) old) ∧ h.IsTupleIter it a i ∧ e ≠ it) where
  mem := by simp
  obj := fun i h st b hb => by
    obtain ⟨⟨old, he⟩, ⟨o, ho, hc, hd⟩, _⟩ := st
    have e' : b = e ∨ b = it := by simpa using hb
    rcases e' with z | z
    · rw [z]; exact ⟨_, he, fun v q => nomatch q⟩
    · rw [z]; exact ⟨o, ho, fun v q => by rw [hd] at q; cases q⟩
  keep := fun i h h' st k => let ⟨⟨old, he⟩, hi, hne⟩ := st; ⟨⟨old, k e (by simp) _ he⟩, hi.at fun o q => k it (by simp) o q, hne⟩
  item := by
    intro X hP hw hK hc i pins s σ H E I hf st hg
    subst hP hw hK
    obtain ⟨⟨old, he⟩, hit, hne⟩ := st
    obtain ⟨xs, x, hq, hx⟩ := hg
    obtain ⟨its, rv, p, hz⟩ := I.tuple hq
    obtain ⟨u, hu, ru⟩ := rv.get hx
    have p' : s.heap.IsTuple a its.toArray := p
    have nai : a ≠ it := fun z => by
      subst z
      obtain ⟨o1, e1, c1, _⟩ := p'
      obtain ⟨o2, e2, c2, _⟩ := hit
      rw [e1] at e2; cases e2
      rw [c1] at c2; exact absurd c2 (by simp)
    have nae : a ≠ e := fun z => by
      subst z
      obtain ⟨o1, e1, c1, _⟩ := p'
      have he' := he
      unfold IsEnum at he'
      rw [e1] at he'
      cases he'
      exact absurd c1 (by simp)
    have hel : e < s.heap.objs.size := Heap.lt_size he
    have hil : it < s.heap.objs.size := by obtain ⟨_, q, _⟩ := hit; exact Heap.lt_size q
    have hi : i < its.toArray.size := by
      rw [List.size_toArray]
      exact (List.getElem?_eq_some_iff.mp hu).1
    refine wpAny_pyNext_enum_itemD (Draws.tuple (A := X.A.in1) (show X.A.in1.handled = none from I.ok.hd hc) it a nai its.toArray) he ⟨hit, p'⟩ hi hne (by simp; exact ⟨hne, nae.symm⟩) fun x' h' tk hP ho hst' hT hsz hk => ?_
    obtain ⟨hit', _⟩ := hst'
    have ex : x' = u := by
      have hP' : its.toArray[i]? = some x' := hP
      rw [List.getElem?_toArray, hu] at hP'
      exact (Option.some.inj hP').symm
    subst ex
    refine ⟨_, rfl, wpAny_letOwnedTupleGo_enum (s := { s with heap := h', toks := tk + 1 }) ho fun h'' he' sb => ?_⟩
    have hT2 : h''.get? s.heap.objs.size = some { cls := .type "tuple", data := .seq #[.int i tk, x'] } := (sb.2 _ (Nat.ne_of_gt hel)).trans hT
    have new : ObjOk X.prog X.w (upd H s.heap.objs.size (.tup [.int (i : Nat), x])) h'' s.heap.objs.size (.tup [.int (i : Nat), x]) :=
      ⟨by show 2 ≤ sizeLine; decide, [.int i tk, x'], .cons ⟨_, rfl⟩ (.cons ru .nil), ⟨_, hT2, rfl, _, rfl⟩⟩
    have I1 : Inv X pins σ (upd H s.heap.objs.size (.tup [.int (i : Nat), x])) { s with heap := h'', toks := tk + 1 } :=
      I.turnedNew (ch := [e, it]) (fun b ob hb q => (sb.2 b (fun z => hb (by simp [z]))).trans (hk b ob (fun z => hb (by simp [z])) (fun z => hb (by simp [z])) q)) hf (Nat.le_refl _) new
    refine ⟨.ref s.heap.objs.size, _, I1, rfl, ⟨_, x, rfl, I.hok.fresh (Nat.le_refl _), rfl, fun ys hy => by rw [I.tuple_inj hy hq]; exact hx⟩, ⟨⟨x', ?_⟩, hit'.at fun o q => (sb.2 it (Ne.symm hne)).trans q, hne⟩, fun b hb => ?_⟩
    · have e1 : ((i + 1 : Nat) : Int) = (i : Int) + 1 := by omega
      rw [e1]; exact he'
    · have hb' : b < s.heap.objs.size := by
        have e' : b = e ∨ b = it := by simpa using hb
        rcases e' with z | z
        · rw [z]; exact hel
        · rw [z]; exact hil
      rw [upd_ne (Nat.ne_of_lt hb')]
      exact (hf b hb).1
  done := by
    intro X hP hw hK hc i pins s σ H E I hf st hg
    subst hP hw hK
    obtain ⟨⟨old, he⟩, hit, hne⟩ := st
    obtain ⟨xs, hq, hx⟩ := hg
    obtain ⟨its, rv, p, hz⟩ := I.tuple hq
    obtain ⟨f0, f1, f2, f3, f4, f5⟩ := hf it (by simp)
    have hl := rv.length
    have p' : s.heap.IsTuple a its.toArray := p
    refine (?_ : wpAny (model X.prog X.w) X.A (pyNext (.ref e)) _ _ s)
    have hT : s.TypeIs (.ref e) "enumerate" := ⟨_, he, rfl⟩
    unfold pyNext
    refine wpAny_bind (wpAny_attempt (wpAny_callSpecial?_slot (name := Str.ofString "__next__") hT F.slot_enumerate_next
      (wpAny_call_entry F.slot_enumerate_next hT F.entry_enumerate_next ?_ (F.args_enumerate_next_1 _))))
    show wpAny _ _ (field (.ref e) 2 >>= _) _ _ _
    refine wpAny_bind (wpAny_field he rfl (x := .ref it) rfl ?_)
    refine wpAny_bind (wpAny_nextOf_tuple_end (I.ok.hd hc) hit p' (by simp; omega) fun h' x he' hx' => ?_)
    obtain ⟨o, ho, hc'⟩ := hx'
    refine wpAny_bind (wpAny_isInstance (T := "StopIteration") (b := true) ⟨o, ho, hc'⟩ isSubtype_stop ?_)
    exact wpAny_pure ⟨rfl, I.turned (t' := s.toks) (fun b o hb q => he' b o hb q) f0 f1 f3 f4 f5⟩
  self := fun A i s Q E st h => let ⟨⟨_, he⟩, _⟩ := st; wpAny_pyIter_enum he h
theorem meets_enum1 {v : Value} {o : Obj} {H : Heap → Prop} (B : Begins v o H) :
    Meets (Builtin.«enumerate.__new__» ⟨[.type "enumerate", v], []⟩) (fun _ R s => H s.heap ∧
      R (.ok (.ret (.ref (s.heap.push o).objs.size))) { s with heap := (s.heap.push o).push { cls := .type "enumerate", data := .fields #[.none, .bool false, .ref s.heap.objs.size, rawInt 0, .none, .none] } }) :=
  .of_wp fun prog w A R s h => by
    obtain ⟨hp, g, d, tk, os⟩ := s; obtain ⟨h1, h⟩ := h
    have hsub := sub_enumerate
    have q1 : ∀ {A' : Around} {E : Value → Shared → Prop} {Q : Value → Shared → Prop}, Q (.ref hp.objs.size) ⟨hp.push o, g, d, tk, os⟩ → wpAny (model prog w) A' (pyIter v) Q E ⟨hp, g, d, tk, os⟩ :=
      fun q => B.iter prog w _ _ ⟨hp, g, d, tk, os⟩ _ h1 q
    wp_walk using q1
    refine wpAny_stack_any fun st => wpAny_pure ?_
    split
    · rename_i c _ _ _ _ _
      cases (c == Value.type "enumerate")
      · wp_walk using q1
        exact ⟨_, rfl, h⟩
      · wp_walk using q1
        exact ⟨_, rfl, h⟩
    · wp_walk using q1
      exact ⟨_, rfl, h⟩
section
variable {prog : Program} {w : World} {A : Around} {E : Value → Shared → Prop} {s : Shared}
theorem enum_begins1 {v : Value} {o : Obj} {H : Heap → Prop} {Q : Value → Shared → Prop} (B : Begins v o H) (h1 : H s.heap)
    (h : ∀ h', IsEnum h' (s.heap.objs.size + 1) s.heap.objs.size 0 .none → h'.get? s.heap.objs.size = some o → h'.objs.size = s.heap.objs.size + 2 →
      (∀ b o, s.heap.get? b = some o → h'.get? b = some o) → Q (.ref (s.heap.objs.size + 1)) { s with heap := h' }) :
    wpAny (model prog w) A (call (.type "enumerate") [v]) Q E s := by
  refine callType_new F.called_enumerate (by decide) (F.typeCall_enumerate_1 _) (F.newCall_enumerate_1 _) (fun obj => F.args_object_init_2 obj _) F.entry_enumerate_new
    (meets_enum1 B) ⟨h1, ?_⟩
  have hz : (s.heap.push o).objs.size = s.heap.objs.size + 1 := Heap.size_push ..
  show _ ∧ _
  rw [hz]
  have he : IsEnum ((s.heap.push o).push { cls := .type "enumerate", data := .fields #[.none, .bool false, .ref s.heap.objs.size, rawInt 0, .none, .none] }) (s.heap.objs.size + 1) s.heap.objs.size 0 .none := by
    have := Heap.get?_push_size (s.heap.push o) (o := { cls := .type "enumerate", data := .fields #[.none, .bool false, .ref s.heap.objs.size, rawInt 0, .none, .none] }) rfl
    rw [hz] at this; exact this
  refine ⟨⟨_, he, rfl⟩, h _ he (Heap.get?_push_of_some _ (Heap.get?_push_size _ B.free)) (by rw [Heap.size_push, hz]) fun b o x => Heap.get?_push_of_some _ (Heap.get?_push_of_some _ x)⟩
end
def iEnumT (K : PySem.W.Frag) (ta : TA) : TI := fun σ H R => ta σ H fun vs H1 => ∃ a xs, vs = [.ref a] ∧ SqT K H1 a xs ∧ R (IteT K a) H1
theorem pi_enumT {X : Cx} {K : PySem.W.Frag} {e : Expr} {ta : TA} {p pos tpos : Pos} {elts : List Expr} {kk : Nat} (hK : X.K = K) (hg : Gl X "enumerate") (hm : X.mg "enumerate" = none) (ha : PA X [e] ta) (hs : starEach [e] X.env = [(false, eval e X.env)] := by rfl) :
    PI X (.Tuple elts kk tpos) (.Call (.Name "enumerate" p) [e] [] pos) (iEnumT K ta) := by
  subst hK
  refine ⟨fun pins s σ H R I h => ?_⟩
  refine Call_ (ld_blt I hg hm boot_enumerate (PyProof.Rows.callWith_type1 (thn (ha.run pos pins s σ H _ I h) fun us s1 ⟨vs, H1, I1, r1, q1⟩ => ?_) hs rfl))
  obtain ⟨a, xs, ex, hq, q⟩ := q1
  subst ex
  cases r1 with
  | cons r rr =>
    cases rr
    cases r
    obtain ⟨its, rv, p', hz⟩ := I1.tuple hq
    refine enum_begins1 (begins_tuple a its.toArray) (show s1.heap.IsTuple a its.toArray from p') fun h' he hit hsz hk => wpAny_pyIter_enum he ?_
    have I2 : Inv X pins σ H1 { s1 with heap := h' } := I1.kept (t' := s1.toks) hk
    refine ⟨s1.heap.objs.size + 1, [s1.heap.objs.size + 1, s1.heap.objs.size], _, _, H1, rfl, I2, turn_enumT a (s1.heap.objs.size + 1) s1.heap.objs.size, ⟨⟨.none, he⟩, ⟨_, hit, rfl, rfl⟩, Nat.succ_ne_self _⟩, fun b hb => ?_, q⟩
    have e' : b = s1.heap.objs.size + 1 ∨ b = s1.heap.objs.size := by simpa using hb
    have hle : s1.heap.objs.size ≤ b := by
      rcases e' with z | z
      · rw [z]; exact Nat.le_add_right _ _
      · rw [z]; exact Nat.le_refl _
    exact I1.fpOk hle (I1.hok.fresh hle)
theorem walk_enumT {K : PySem.W.Frag} {a : Addr} {xs : List V} : Walk (IteT K a) xs.length (fun H => SqT K H a xs) (YPair (fun i => some (.int (i : Nat))) (fun i => xs[i]?)) := by
  refine ⟨fun i _ hi q => ⟨xs, xs[i], q, by simp [hi]⟩, fun _ q => ⟨xs, q, Nat.le_refl _⟩, fun i H v H' _ q y => ?_⟩
  obtain ⟨T, x, h1, h2, h3, h4⟩ := y
  exact ⟨T, .int (i : Nat), x, h1, h2, h3, rfl, h4 xs q⟩
theorem pi_enumL {X : Cx} {K : PySem.W.Frag} {e : Expr} {ta : TA} {p pos tpos : Pos} {elts : List Expr} {kk : Nat} (hK : X.K = K) (hg : Gl X "enumerate") (hm : X.mg "enumerate" = none) (ha : PA X [e] ta) (hs : starEach [e] X.env = [(false, eval e X.env)] := by rfl) :
    PI X (.Tuple elts kk tpos) (.Call (.Name "enumerate" p) [e] [] pos) (iEnum K ta) := hK ▸ pi_enum hg hm ha hs
section
variable {K : PySem.W.Frag} {σ : L2.St} {H : Hp} {R : It → Hp → Prop} {ta : TA} {a : Addr} {xs : List V}
theorem s_ienT (h : ta σ H fun vs H1 => ∃ a xs, vs = [.ref a] ∧ SqT K H1 a xs ∧ R (IteT K a) H1) : iEnumT K ta σ H R := h
theorem s_ienL (h : ta σ H fun vs H1 => ∃ a xs, vs = [.ref a] ∧ SqL K H1 a xs ∧ R (Ite K a) H1) : iEnum K ta σ H R := h
theorem s_eT {S : Addr → Prop} (h : H a = some (.tup xs)) (q : S a) : ∃ a' xs', [V.ref a] = [.ref a'] ∧ SqT K H a' xs' ∧ S a' := ⟨a, xs, rfl, SqT.of h, q⟩
theorem s_eL {S : Addr → Prop} (h : H a = some (.lst xs)) (q : S a) : ∃ a' xs', [V.ref a] = [.ref a'] ∧ SqL K H a' xs' ∧ S a' := ⟨a, xs, rfl, SqL.of h, q⟩
end
/-! lists of texts -/
section
variable {K : PySem.W.Frag} {H : Hp} {Q : VK} {p : Addr} {zs : List Str} {z : Str}
theorem flat_strs (zs : List Str) : (zs.map V.str).all flatV = true := by
  rw [List.all_eq_true]
  intro x hx
  obtain ⟨y, _, rfl⟩ := List.mem_map.mp hx
  rfl
theorem eqV_str {a b : Str} : eqV (.str a) (.str b) = decide (a = b) := by
  first
    | (show decide (V.str a = V.str b) = _; exact U.dec_str)
    | rfl
    | simp [eqV]
theorem inV_strs : inV (.str z) (zs.map V.str) = decide (z ∈ zs) := by
  induction zs with
  | nil => rfl
  | cons y zs ih =>
    unfold inV at ih ⊢
    rw [List.map_cons, List.any_cons, ih, eqV_str]
    by_cases h : y = z
    · subst h; simp
    · simp [h, Ne.symm h]
theorem s_inS (h : SqL K H p (zs.map V.str)) (q : Q (.bl (decide (z ∈ zs))) H) : uIn K false (.str z) (.ref p) H Q := Or.inr ⟨p, _, rfl, Or.inl h, rfl, flat_strs zs, by rw [inV_strs]; exact q⟩
theorem s_ninS (h : SqL K H p (zs.map V.str)) (q : Q (.bl (!decide (z ∈ zs))) H) : uIn K true (.str z) (.ref p) H Q := Or.inr ⟨p, _, rfl, Or.inl h, rfl, flat_strs zs, by rw [inV_strs]; exact q⟩
theorem s_inT (h : SqT K H p (zs.map V.str)) (q : Q (.bl (decide (z ∈ zs))) H) : uIn K false (.str z) (.ref p) H Q := Or.inr ⟨p, _, rfl, Or.inr h, rfl, flat_strs zs, by rw [inV_strs]; exact q⟩
theorem s_ninT (h : SqT K H p (zs.map V.str)) (q : Q (.bl (!decide (z ∈ zs))) H) : uIn K true (.str z) (.ref p) H Q := Or.inr ⟨p, _, rfl, Or.inr h, rfl, flat_strs zs, by rw [inV_strs]; exact q⟩
theorem mt_ix {X : Cx} (hK : X.K = K) : MtR X "list.index" (rIndex K) := hK ▸ mt_index
theorem s_indexS {j : Nat} (h : SqL K H p (zs.map V.str)) (e : zs[j]? = some z) (nd : zs.Nodup) (q : Q (.int j) H) : rIndex K (.ref p) [.str z] H Q := by
  refine ⟨p, _, .str z, j, .str z, rfl, rfl, h, rfl, flat_strs zs, by rw [List.getElem?_map, e]; rfl, by rw [eqV_str]; simp, fun m z' hm hz' => ?_, q⟩
  rw [List.getElem?_map] at hz'
  obtain ⟨y, ey, rfl⟩ := Option.map_eq_some_iff.mp hz'
  rw [eqV_str]
  refine decide_eq_false fun hy => ?_
  subst hy
  have := (List.getElem?_inj (List.getElem?_eq_some_iff.mp ey).1 nd).mp (ey.trans e.symm)
  omega
end
end U

namespace U
open PySem L2 PySem.Spec PyProof.Rows
section
variable {K : PySem.W.Frag} {σ : L2.St} {H : Hp} {a : Addr} {vs : List V} {g : TG} {tb : TS} {D : Ends}
/-- for x in a list or a tuple -/
theorem for_sq (e : H a = some (.lst vs) ∨ H a = some (.tup vs)) (Pv : Nat → L2.St → Hp → Prop) (h0 : Pv 0 σ H) (hG : ∀ i σ' H', Pv i σ' H' → ∀ o, H a = some o → H' a = some o)
    (hs : ∀ i x σ' H', vs[i]? = some x → Pv i σ' H' → g x σ' H' fun σ2 H2 => tb { D with nx := Pv (i + 1), ct := Pv (i + 1), bk := D.nx } σ2 H2) (hd : ∀ σ' H', Pv vs.length σ' H' → D.nx σ' H') :
    ∃ a', V.ref a = .ref a' ∧ (((∃ xs, SqL K H a' xs) ∧ ∃ W : Nat → Nat → L2.St → Hp → Prop, (∃ m, W 0 m σ H) ∧ ∀ i m σ H, W i m σ H →
      ((Itl K a').stop i H ∧ D.nx σ H) ∨ ((Itl K a').go i H ∧ ∃ N : L2.St → Hp → Prop, (∀ σ' H', N σ' H' → ∃ m', m' < m ∧ W (i + 1) m' σ' H') ∧ ∀ x H', (Itl K a').yld i H x H' → g x σ H' fun σ2 H2 => tb { D with nx := N, ct := N, bk := D.nx } σ2 H2)) ∨
      ((∃ xs, SqT K H a' xs) ∧ ∃ W : Nat → Nat → L2.St → Hp → Prop, (∃ m, W 0 m σ H) ∧ ∀ i m σ H, W i m σ H →
      ((Itt K a').stop i H ∧ D.nx σ H) ∨ ((Itt K a').go i H ∧ ∃ N : L2.St → Hp → Prop, (∀ σ' H', N σ' H' → ∃ m', m' < m ∧ W (i + 1) m' σ' H') ∧ ∀ x H', (Itt K a').yld i H x H' → g x σ H' fun σ2 H2 => tb { D with nx := N, ct := N, bk := D.nx } σ2 H2))) := by
  refine ⟨a, rfl, ?_⟩
  rcases e with e | e
  · refine Or.inl ⟨⟨vs, SqL.of e⟩, for_it (walk_list (xs := vs)) Pv h0 (fun i σ' H' _ p => SqL.of (hG i σ' H' p _ e)) (fun i x σ' H1 H2 hi p y => ?_) hd⟩
    obtain ⟨rfl, ex⟩ := y
    exact hs i x σ' H2 ex p
  · refine Or.inr ⟨⟨vs, SqT.of e⟩, for_it (walk_tup (xs := vs)) Pv h0 (fun i σ' H' _ p => SqT.of (hG i σ' H' p _ e)) (fun i x σ' H1 H2 hi p y => ?_) hd⟩
    obtain ⟨rfl, ex⟩ := y
    exact hs i x σ' H2 ex p
theorem for_L (e : H a = some (.lst vs)) (Pv : Nat → L2.St → Hp → Prop) (h0 : Pv 0 σ H) (hG : ∀ i σ' H', Pv i σ' H' → ∀ o, H a = some o → H' a = some o)
    (hs : ∀ i x σ' H', vs[i]? = some x → Pv i σ' H' → g x σ' H' fun σ2 H2 => tb { D with nx := Pv (i + 1), ct := Pv (i + 1), bk := D.nx } σ2 H2) (hd : ∀ σ' H', Pv vs.length σ' H' → D.nx σ' H') :
    ∃ W : Nat → Nat → L2.St → Hp → Prop, (∃ m, W 0 m σ H) ∧ ∀ i m σ H, W i m σ H →
      ((Itl K a).stop i H ∧ D.nx σ H) ∨ ((Itl K a).go i H ∧ ∃ N : L2.St → Hp → Prop, (∀ σ' H', N σ' H' → ∃ m', m' < m ∧ W (i + 1) m' σ' H') ∧ ∀ x H', (Itl K a).yld i H x H' → g x σ H' fun σ2 H2 => tb { D with nx := N, ct := N, bk := D.nx } σ2 H2) :=
  for_it (walk_list (xs := vs)) Pv h0 (fun i σ' H' _ p => SqL.of (hG i σ' H' p _ e)) (fun i x σ' H1 H2 hi p y => by
    obtain ⟨rfl, ex⟩ := y
    exact hs i x σ' H2 ex p) hd
/-- for j, x in enumerate(tuple): the pair T is new -/
theorem for_eT (e : H a = some (.tup vs)) (Pv : Nat → L2.St → Hp → Prop) (h0 : Pv 0 σ H) (hG : ∀ i σ' H', Pv i σ' H' → ∀ xs, H a = some (.tup xs) → H' a = some (.tup xs))
    (hs : ∀ i x σ' H' T H2, vs[i]? = some x → Pv i σ' H' → H' T = none → H2 T = some (.tup [.int (i : Nat), x]) → Kp [] H' H2 → g (.ref T) σ' H2 fun σ2 H3 => tb { D with nx := Pv (i + 1), ct := Pv (i + 1), bk := D.nx } σ2 H3) (hd : ∀ σ' H', Pv vs.length σ' H' → D.nx σ' H') :
    ∃ W : Nat → Nat → L2.St → Hp → Prop, (∃ m, W 0 m σ H) ∧ ∀ i m σ H, W i m σ H →
      ((IteT K a).stop i H ∧ D.nx σ H) ∨ ((IteT K a).go i H ∧ ∃ N : L2.St → Hp → Prop, (∀ σ' H', N σ' H' → ∃ m', m' < m ∧ W (i + 1) m' σ' H') ∧ ∀ x H', (IteT K a).yld i H x H' → g x σ H' fun σ2 H2 => tb { D with nx := N, ct := N, bk := D.nx } σ2 H2) :=
  for_it (walk_enumT (xs := vs)) Pv h0 (fun i σ' H' _ p => SqT.of (hG i σ' H' p _ e)) (fun i x σ' H1 H2 hi p y => by
    obtain ⟨T, x1, x2, rfl, f, rfl, e1, e2⟩ := y
    cases Option.some.inj e1
    exact hs i x2 σ' H1 T _ e2 p f upd_same (Kp.refl.new f)) hd
theorem for_eL (e : H a = some (.lst vs)) (Pv : Nat → L2.St → Hp → Prop) (h0 : Pv 0 σ H) (hG : ∀ i σ' H', Pv i σ' H' → ∀ o, H a = some o → H' a = some o)
    (hs : ∀ i x σ' H' T H2, vs[i]? = some x → Pv i σ' H' → H' T = none → H2 T = some (.tup [.int (i : Nat), x]) → Kp [] H' H2 → g (.ref T) σ' H2 fun σ2 H3 => tb { D with nx := Pv (i + 1), ct := Pv (i + 1), bk := D.nx } σ2 H3) (hd : ∀ σ' H', Pv vs.length σ' H' → D.nx σ' H') :
    ∃ W : Nat → Nat → L2.St → Hp → Prop, (∃ m, W 0 m σ H) ∧ ∀ i m σ H, W i m σ H →
      ((Ite K a).stop i H ∧ D.nx σ H) ∨ ((Ite K a).go i H ∧ ∃ N : L2.St → Hp → Prop, (∀ σ' H', N σ' H' → ∃ m', m' < m ∧ W (i + 1) m' σ' H') ∧ ∀ x H', (Ite K a).yld i H x H' → g x σ H' fun σ2 H2 => tb { D with nx := N, ct := N, bk := D.nx } σ2 H2) :=
  for_it (walk_enum (xs := vs)) Pv h0 (fun i σ' H' _ p => SqL.of (hG i σ' H' p _ e)) (fun i x σ' H1 H2 hi p y => by
    obtain ⟨T, x1, x2, rfl, f, rfl, e1, e2⟩ := y
    cases Option.some.inj e1
    exact hs i x2 σ' H1 T _ e2 p f upd_same (Kp.refl.new f)) hd
variable {tt : TT} {te : TE} {ns : List Nat} {A : Addr} {Qd : Hp → Prop} {Pv : Nat → List V → Hp → Prop}
/-- a comprehension over a tuple / a list -/
theorem lc_T (e : H a = some (.tup vs)) (hA : H A = none) (Pv : Nat → List V → Hp → Prop) (h0 : ∀ H', H' A = some (.lst []) → Kp [] H H' → Pv 0 [] H') (hG : ∀ i acc H', Pv i acc H' → ∀ xs, H a = some (.tup xs) → H' a = some (.tup xs))
    (hs : ∀ i x acc H', vs[i]? = some x → H' A = some (.lst acc) → Pv i acc H' → g x (wipe σ ns) H' fun σ2 H2 => wipe σ2 ns = wipe σ ns ∧ tt σ2 H2 fun b H3 =>
      if b = true then te σ2 H3 fun y H4 => ∃ acc, H4 A = some (.lst acc) ∧ acc.length < sizeLine ∧ PvD A Pv (i + 1) (upd H4 A (.lst (acc ++ [y]))) else PvD A Pv (i + 1) H3) (hd : ∀ acc H', H' A = some (.lst acc) → Pv vs.length acc H' → Qd H') :
    ∃ W : Nat → Nat → Hp → Prop, (∃ m, W 0 m (upd H A (.lst []))) ∧ ∀ i m H, W i m H →
      ((Itt K a).stop i H ∧ Qd H) ∨ ((Itt K a).go i H ∧ ∃ Nx : Hp → Prop, (∀ H', Nx H' → ∃ m', m' < m ∧ W (i + 1) m' H') ∧ ∀ x H', (Itt K a).yld i H x H' → g x (wipe σ ns) H' fun σ2 H2 => wipe σ2 ns = wipe σ ns ∧ tt σ2 H2 fun b H3 =>
        if b = true then te σ2 H3 fun y H4 => ∃ acc, H4 A = some (.lst acc) ∧ acc.length < sizeLine ∧ Nx (upd H4 A (.lst (acc ++ [y]))) else Nx H3) :=
  lc_it (walk_tup (xs := vs)) (PvD A Pv) (PvD.begin hA h0) (fun i H' _ p => by
    obtain ⟨acc, _, p⟩ := p
    exact SqT.of (hG i acc H' p _ e)) (fun i x H1 H2 hi p y => by
    obtain ⟨rfl, ex⟩ := y
    obtain ⟨acc, ea, p⟩ := p
    exact hs i x acc H2 ex ea p) (fun H' p => by
    obtain ⟨acc, ea, p⟩ := p
    exact hd acc H' ea p)
theorem lc_L (e : H a = some (.lst vs)) (hA : H A = none) (Pv : Nat → List V → Hp → Prop) (h0 : ∀ H', H' A = some (.lst []) → Kp [] H H' → Pv 0 [] H') (hG : ∀ i acc H', Pv i acc H' → ∀ o, H a = some o → H' a = some o)
    (hs : ∀ i x acc H', vs[i]? = some x → H' A = some (.lst acc) → Pv i acc H' → g x (wipe σ ns) H' fun σ2 H2 => wipe σ2 ns = wipe σ ns ∧ tt σ2 H2 fun b H3 =>
      if b = true then te σ2 H3 fun y H4 => ∃ acc, H4 A = some (.lst acc) ∧ acc.length < sizeLine ∧ PvD A Pv (i + 1) (upd H4 A (.lst (acc ++ [y]))) else PvD A Pv (i + 1) H3) (hd : ∀ acc H', H' A = some (.lst acc) → Pv vs.length acc H' → Qd H') :
    ∃ W : Nat → Nat → Hp → Prop, (∃ m, W 0 m (upd H A (.lst []))) ∧ ∀ i m H, W i m H →
      ((Itl K a).stop i H ∧ Qd H) ∨ ((Itl K a).go i H ∧ ∃ Nx : Hp → Prop, (∀ H', Nx H' → ∃ m', m' < m ∧ W (i + 1) m' H') ∧ ∀ x H', (Itl K a).yld i H x H' → g x (wipe σ ns) H' fun σ2 H2 => wipe σ2 ns = wipe σ ns ∧ tt σ2 H2 fun b H3 =>
        if b = true then te σ2 H3 fun y H4 => ∃ acc, H4 A = some (.lst acc) ∧ acc.length < sizeLine ∧ Nx (upd H4 A (.lst (acc ++ [y]))) else Nx H3) :=
  lc_it (walk_list (xs := vs)) (PvD A Pv) (PvD.begin hA h0) (fun i H' _ p => by
    obtain ⟨acc, _, p⟩ := p
    exact SqL.of (hG i acc H' p _ e)) (fun i x H1 H2 hi p y => by
    obtain ⟨rfl, ex⟩ := y
    obtain ⟨acc, ea, p⟩ := p
    exact hs i x acc H2 ex ea p) (fun H' p => by
    obtain ⟨acc, ea, p⟩ := p
    exact hd acc H' ea p)
theorem lc_eL (e : H a = some (.lst vs)) (hA : H A = none) (Pv : Nat → List V → Hp → Prop) (h0 : ∀ H', H' A = some (.lst []) → Kp [] H H' → Pv 0 [] H') (hG : ∀ i acc H', Pv i acc H' → ∀ o, H a = some o → H' a = some o)
    (hs : ∀ i x acc H' T H2, vs[i]? = some x → H' A = some (.lst acc) → Pv i acc H' → H' T = none → H2 T = some (.tup [.int (i : Nat), x]) → Kp [] H' H2 → g (.ref T) (wipe σ ns) H2 fun σ2 H2 => wipe σ2 ns = wipe σ ns ∧ tt σ2 H2 fun b H3 =>
      if b = true then te σ2 H3 fun y H4 => ∃ acc, H4 A = some (.lst acc) ∧ acc.length < sizeLine ∧ PvD A Pv (i + 1) (upd H4 A (.lst (acc ++ [y]))) else PvD A Pv (i + 1) H3) (hd : ∀ acc H', H' A = some (.lst acc) → Pv vs.length acc H' → Qd H') :
    ∃ W : Nat → Nat → Hp → Prop, (∃ m, W 0 m (upd H A (.lst []))) ∧ ∀ i m H, W i m H →
      ((Ite K a).stop i H ∧ Qd H) ∨ ((Ite K a).go i H ∧ ∃ Nx : Hp → Prop, (∀ H', Nx H' → ∃ m', m' < m ∧ W (i + 1) m' H') ∧ ∀ x H', (Ite K a).yld i H x H' → g x (wipe σ ns) H' fun σ2 H2 => wipe σ2 ns = wipe σ ns ∧ tt σ2 H2 fun b H3 =>
        if b = true then te σ2 H3 fun y H4 => ∃ acc, H4 A = some (.lst acc) ∧ acc.length < sizeLine ∧ Nx (upd H4 A (.lst (acc ++ [y]))) else Nx H3) :=
  lc_it (walk_enum (xs := vs)) (PvD A Pv) (PvD.begin hA h0) (fun i H' _ p => by
    obtain ⟨acc, _, p⟩ := p
    exact SqL.of (hG i acc H' p _ e)) (fun i x H1 H2 hi p y => by
    obtain ⟨T, x1, x2, rfl, f, rfl, e1, e2⟩ := y
    cases Option.some.inj e1
    obtain ⟨acc, ea, p⟩ := p
    exact hs i x2 acc H1 T _ e2 ea p f upd_same (Kp.refl.new f)) (fun H' p => by
    obtain ⟨acc, ea, p⟩ := p
    exact hd acc H' ea p)
/-- in range(n) -/
theorem lc_R {lo : Int} {n : Nat} (hA : H A = none) (Pv : Nat → List V → Hp → Prop) (h0 : ∀ H', H' A = some (.lst []) → Kp [] H H' → Pv 0 [] H')
    (hs : ∀ i acc H', i < n → H' A = some (.lst acc) → Pv i acc H' → g (.int (lo + i)) (wipe σ ns) H' fun σ2 H2 => wipe σ2 ns = wipe σ ns ∧ tt σ2 H2 fun b H3 =>
      if b = true then te σ2 H3 fun y H4 => ∃ acc, H4 A = some (.lst acc) ∧ acc.length < sizeLine ∧ PvD A Pv (i + 1) (upd H4 A (.lst (acc ++ [y]))) else PvD A Pv (i + 1) H3) (hd : ∀ acc H', H' A = some (.lst acc) → Pv n acc H' → Qd H') :
    ∃ W : Nat → Nat → Hp → Prop, (∃ m, W 0 m (upd H A (.lst []))) ∧ ∀ i m H, W i m H →
      ((Itr lo n).stop i H ∧ Qd H) ∨ ((Itr lo n).go i H ∧ ∃ Nx : Hp → Prop, (∀ H', Nx H' → ∃ m', m' < m ∧ W (i + 1) m' H') ∧ ∀ x H', (Itr lo n).yld i H x H' → g x (wipe σ ns) H' fun σ2 H2 => wipe σ2 ns = wipe σ ns ∧ tt σ2 H2 fun b H3 =>
        if b = true then te σ2 H3 fun y H4 => ∃ acc, H4 A = some (.lst acc) ∧ acc.length < sizeLine ∧ Nx (upd H4 A (.lst (acc ++ [y]))) else Nx H3) :=
  lc_it walk_range (PvD A Pv) (PvD.begin hA h0) (fun _ _ _ _ => trivial) (fun i x H1 H2 hi p y => by
    obtain ⟨rfl, rfl⟩ := y
    obtain ⟨acc, ea, p⟩ := p
    exact hs i acc H2 hi ea p) (fun H' p => by
    obtain ⟨acc, ea, p⟩ := p
    exact hd acc H' ea p)
theorem for_R {lo : Int} {n : Nat} (Pv : Nat → L2.St → Hp → Prop) (h0 : Pv 0 σ H)
    (hs : ∀ i σ' H', i < n → Pv i σ' H' → g (.int (lo + i)) σ' H' fun σ2 H2 => tb { D with nx := Pv (i + 1), ct := Pv (i + 1), bk := D.nx } σ2 H2) (hd : ∀ σ' H', Pv n σ' H' → D.nx σ' H') :
    ∃ W : Nat → Nat → L2.St → Hp → Prop, (∃ m, W 0 m σ H) ∧ ∀ i m σ H, W i m σ H →
      ((Itr lo n).stop i H ∧ D.nx σ H) ∨ ((Itr lo n).go i H ∧ ∃ N : L2.St → Hp → Prop, (∀ σ' H', N σ' H' → ∃ m', m' < m ∧ W (i + 1) m' σ' H') ∧ ∀ x H', (Itr lo n).yld i H x H' → g x σ H' fun σ2 H2 => tb { D with nx := N, ct := N, bk := D.nx } σ2 H2) :=
  for_it walk_range Pv h0 (fun _ _ _ _ _ => trivial) (fun i x σ' H1 H2 hi p y => by
    obtain ⟨rfl, rfl⟩ := y
    exact hs i σ' H2 hi p) hd
end
theorem pg_tupK {X : Cx} {K : PySem.W.Frag} {es : List Expr} {k n : Nat} {t : TGs} {pos : Pos} (hK : X.K = K) (hc : X.calm = true) (h : PGs X es t)
    (hn : (assignEach es X.env).length = n := by rfl) (hst : (assignEach es X.env).findIdx? (·.1) = none := by rfl) : PG X (.Tuple es k pos) (gTup K n t) := hK ▸ pg_tup hc h hn hst
theorem s_nameR {σ τ : L2.St} {H : Hp} {i : Nat} {v : V} {R : L2.St → Hp → Prop} (e : σ.set i (some v) = τ) (h : R τ H) : gName i v σ H R := by subst e; exact h
/-! rows: things that stand for tuples -/
inductive Rw (H : Hp) : List V → List (List V) → Prop
  | nil : Rw H [] []
  | cons {u : Addr} {r : List V} {vs : List V} {rs : List (List V)} : H u = some (.tup r) → Rw H vs rs → Rw H (.ref u :: vs) (r :: rs)
section
variable {H H1 : Hp} {vs ws : List V} {rs ss : List (List V)} {ps : List Addr}
theorem Rw.kp (h : Rw H vs rs) (k : Kp ps H H1) : Rw H1 vs rs := by
  induction h with
  | nil => exact .nil
  | cons e _ ih => exact .cons (k.tgt e) ih
theorem Rw.len (h : Rw H vs rs) : vs.length = rs.length := by
  induction h with
  | nil => rfl
  | cons e _ ih => simp [ih]
theorem Rw.app (h : Rw H vs rs) (g : Rw H ws ss) : Rw H (vs ++ ws) (rs ++ ss) := by
  induction h with
  | nil => exact g
  | cons e _ ih => exact .cons e ih
theorem Rw.one {u : Addr} {r : List V} (e : H u = some (.tup r)) : Rw H [.ref u] [r] := .cons e .nil
theorem Rw.at (h : Rw H vs rs) {i : Nat} {x : V} (e : vs[i]? = some x) : ∃ u r, x = .ref u ∧ rs[i]? = some r ∧ H u = some (.tup r) := by
  induction h generalizing i with
  | nil => simp at e
  | @cons u r vs rs e1 _ ih =>
    cases i with
    | zero => exact ⟨u, r, by simpa using e.symm, rfl, e1⟩
    | succ i => exact ih (by simpa using e)
theorem Rw.take (h : Rw H vs rs) (n : Nat) : Rw H (vs.take n) (rs.take n) := by
  induction h generalizing n with
  | nil => cases n <;> exact .nil
  | cons e _ ih => cases n with
    | zero => exact .nil
    | succ n => exact .cons e (ih n)
end
end U

namespace U
open PySem L2 PySem.Spec PyProof.Rows
theorem pg_lstK {X : Cx} {K : PySem.W.Frag} {es : List Expr} {k n : Nat} {t : TGs} {pos : Pos} (hK : X.K = K) (hc : X.calm = true) (h : PGs X es t)
    (hn : (assignEach es X.env).length = n := by rfl) (hst : (assignEach es X.env).findIdx? (·.1) = none := by rfl) : PG X (.Tuple es k pos) (gLst K n t) := hK ▸ pg_lst hc h hn hst
theorem s_glu {K : PySem.W.Frag} {σ : L2.St} {H : Hp} {p : Addr} {xs : List V} {R : L2.St → Hp → Prop} {t : TGs} {k : Nat} (h : H p = some (.lst xs)) (hl : xs.length = k) (q : t xs σ H R) : gLst K k t (.ref p) σ H R := ⟨p, xs, rfl, SqL.of h, hl, q⟩
theorem at_head {xs : List V} {v : V} : atI (xs ++ [v]) 0 = some (xs.head?.getD v) := by
  cases xs with
  | nil => rfl
  | cons x r =>
    unfold atI ixN
    rw [if_pos (by decide), if_pos (by simp; omega)]
    rfl
/-! texts by their signs -/
def S (cs : List Nat) : Str := ⟨cs.toArray⟩
theorem S_of (z : Str) : S z.cps.toList = z := by
  unfold S; simp
theorem S_len (cs : List Nat) : (S cs).length = cs.length := by simp [S, Str.length]
theorem S_app (a b : List Nat) : S a ++ S b = S (a ++ b) := Str.ext' (by simp [S, Str.cps_append])
theorem S_inj {a b : List Nat} (h : S a = S b) : a = b := by
  have := congrArg (fun z : Str => z.cps.toList) h
  simpa [S] using this
theorem S_cps (cs : List Nat) : (S cs).cps.toList = cs := by simp [S]
theorem S_cut (cs : List Nat) (lo hi : Option Int) : cutS (S cs) lo hi = S ((cs.drop (HT.sIx cs.length 0 lo)).take (HT.sIx cs.length cs.length hi - HT.sIx cs.length 0 lo)) := by
  unfold cutS
  rw [S_cps, S_len]
  rfl
theorem S_pre (cs : List Nat) {n : Int} (h0 : 0 ≤ n) : cutS (S cs) none (some n) = S (cs.take n.toNat) := by
  rw [S_cut]
  congr 1
  obtain ⟨k, rfl⟩ := Int.eq_ofNat_of_zero_le h0
  rw [HT.sIx_none, HT.sIx_nat, List.drop_zero]
  simp
theorem S_mid (cs : List Nat) {n m : Int} (h0 : 0 ≤ n) (h1 : 0 ≤ m) : cutS (S cs) (some n) (some m) = S ((cs.drop n.toNat).take (m.toNat - n.toNat)) := by
  rw [S_cut]
  congr 1
  obtain ⟨k, rfl⟩ := Int.eq_ofNat_of_zero_le h0
  obtain ⟨l, rfl⟩ := Int.eq_ofNat_of_zero_le h1
  rw [HT.sIx_nat, HT.sIx_nat]
  simp only [Int.toNat_natCast]
  apply List.ext_getElem?
  intro i
  simp only [List.getElem?_take, List.getElem?_drop]
  by_cases c : k + i < cs.length
  · have e1 : min k cs.length = k := by omega
    rw [e1]
    by_cases d : i < l - k
    · rw [if_pos (by omega), if_pos d]
    · rw [if_neg (by omega), if_neg d]
  · have e2 : cs[k + i]? = none := List.getElem?_eq_none (by omega)
    have e3 : cs[min k cs.length + i]? = none := List.getElem?_eq_none (by omega)
    rw [e2, e3]
    split <;> split <;> rfl
theorem S_join (cs : List Nat) : Txt.join (Str.ofString "") (cs.map fun c => ⟨#[c]⟩) = S cs := join_ones cs
theorem SS.S {cs : List Nat} {n : Nat} (h : cs.length ≤ n) (g : ∀ c ∈ cs, c < 1114112) : SS (S cs) n := ⟨by rw [S_len]; exact h, by rw [S_cps]; exact g⟩
theorem range_snoc {α : Type} (f : Nat → α) (i : Nat) : (List.range (i + 1)).map f = (List.range i).map f ++ [f i] := by
  rw [List.range_succ, List.map_append]
  rfl
theorem range_nodup {f : Nat → Str} {n : Nat} (h : ∀ i j, i < n → j < n → f i = f j → i = j) : ((List.range n).map f).Nodup := by
  rw [List.nodup_iff_pairwise_ne, List.pairwise_map]
  refine List.Pairwise.imp_of_mem ?_ (List.nodup_iff_pairwise_ne.mp List.nodup_range)
  intro a b ha hb hne e
  exact hne (h a b (List.mem_range.mp ha) (List.mem_range.mp hb) e)
section
variable {H : Hp} {ps : List Addr} {l : Addr} {vs : List V} {rs : List (List V)}
theorem hid_le : Kp [] (hid ps H) H := ⟨fun b o e _ => (hid_some e).1, fun b i ⟨o, e, r⟩ => ⟨o, (hid_some e).1, r⟩, fun b xs e => (hid_some e).1⟩
theorem hid_tup {b : Addr} {xs : List V} (e : H b = some (.tup xs)) (t : Th H l 0) : hid [l] H b = some (.tup xs) := hid_of e (by simpa using (Th.tup e).nk t rfl)
theorem Rw.hid (h : Rw H vs rs) (t : Th H l 0) : Rw (U.hid [l] H) vs rs := by
  induction h with
  | nil => exact .nil
  | cons e _ ih => exact .cons (hid_tup e t) ih
theorem cut_sub {lo hi : Option Int} {v : V} (h : v ∈ cutV vs lo hi) : v ∈ vs := List.mem_of_mem_drop (List.mem_of_mem_take h)
end
end U

namespace U
open PySem L2 PySem.Spec PyProof.Rows
/-! list(range(a, b)) -/
section
variable {X : Cx} {K : PySem.W.Frag} {H : Hp} {Q : VK} {p : Addr} {i j : Int}
def rngV (i : Int) (n : Nat) : List V := (List.range n).map fun k => V.int (i + (k : Nat))
def uRange : List V → Hp → VK → Prop := fun vs H Q => ∃ i j, vs = [V.int i, V.int j] ∧ ∀ p, H p = none → Q (.ref p) (upd H p (.rng i j))
theorem c_range2 : CallR X (.type "range") uRange := cr_range2
def uListR : List V → Hp → VK → Prop := fun xs H Q => ∃ p i j, xs = [.ref p] ∧ H p = some (.rng i j) ∧ -(2 ^ 30) ≤ i ∧ i < 2 ^ 30 ∧ -(2 ^ 30) ≤ j ∧ j < 2 ^ 30 ∧ (j - i).toNat ≤ 2 ^ 20 ∧ ∀ l, H l = none → Q (.ref l) (upd H l (.lst (rngV i (j - i).toNat)))
theorem c_listR (hc : X.calm = true) : CallR X (.type "list") uListR := by
  intro pins s σ H xs us Q I r h
  obtain ⟨p, i, j, rfl, hp, i0, i1, j0, j1, hn, q⟩ := h
  obtain ⟨u, eu, rx⟩ := vals1 r
  subst eu
  obtain rfl : u = Value.ref p := rx
  obtain ⟨t, u, v, e⟩ := (show ObjOk X.prog X.w H s.heap p (.rng i j) from I.hok p _ hp)
  have hsm : Builtin.Range.small i j 1 = true := small_one (by omega) (by omega) (by omega) (by omega)
  have hsz : Builtin.Range.rangeSize i j 1 = (j - i).toNat := by
    unfold Builtin.Range.rangeSize
    simp
    split <;> omega
  refine call_list_range (I.ok.hd hc) e hsm hsz (Nat.le_trans hn (by decide)) fun h' tk acc' c' hk hS hacc => ?_
  refine ⟨.ref s.heap.objs.size, upd H s.heap.objs.size (.lst (rngV i (j - i).toNat)), I.laid hk (Nat.le_refl _) (show ObjOk X.prog X.w _ _ _ (.lst (rngV i (j - i).toNat)) from ⟨?_, acc'.toList, c', ?_, ?_⟩), rfl, q _ (I.hok.fresh (Nat.le_refl _))⟩
  · rw [rngV, List.length_map, List.length_range]
    exact Nat.le_trans hn (by decide)
  · refine vals_of_at (by rw [rngV, List.length_map, List.length_range, Array.length_toList, hacc.1]) fun m x w h1 h2 => ?_
    obtain ⟨tk', ew⟩ := hacc.2 m w (by rw [← Array.getElem?_toList]; exact h2)
    rw [rngV, List.getElem?_map] at h1
    obtain ⟨m', e1, rfl⟩ := Option.map_eq_some_iff.mp h1
    have : m' = m := by
      have hm := (List.getElem?_eq_some_iff.mp e1)
      obtain ⟨h3, h4⟩ := hm
      rw [List.getElem_range] at h4
      exact h4.symm
    subst this
    refine ⟨tk', ?_⟩
    rw [ew]
    congr 1
    omega
  · simpa using hS
theorem s_rngN (q : ∀ p H', H p = none → H' p = some (.rng i j) → Kp [] H H' → Q (.ref p) H') : uRange [.int i, .int j] H Q := ⟨i, j, rfl, new_abs (R := fun p H' => Q (.ref p) H') q⟩
theorem s_listR (h : H p = some (.rng i j)) (b : -(2 ^ 30) ≤ i ∧ i < 2 ^ 30 ∧ -(2 ^ 30) ≤ j ∧ j < 2 ^ 30 ∧ (j - i).toNat ≤ 2 ^ 20) (q : ∀ l H', H l = none → H' l = some (.lst (rngV i (j - i).toNat)) → Kp [] H H' → Q (.ref l) H') : uListR [.ref p] H Q :=
  ⟨p, i, j, rfl, h, b.1, b.2.1, b.2.2.1, b.2.2.2.1, b.2.2.2.2, new_abs (R := fun p H' => Q (.ref p) H') q⟩
end
end U

namespace U
open PySem L2 PySem.Spec PyProof.Rows
/-! C(e, ..), the last one left out (its default is None) -/
section
variable {X : Cx} {k : Nat} {f C : Addr} {fd : FuncData} {ps : List Str} {sp : Sp} {W : WX} {x : Str} {p pos : Pos} {e : Expr} {es : List Expr} {t : TA}
variable {pi : List (Addr × Obj)} {σ : L2.St} {H : Hp} {s : Shared} {Q : VK} {us : List Value} {vs : List V}
def tNwD (C : Addr) (sp : Sp) (W : WX) (t : TA) : TE := fun σ H Q => t σ H fun vs H1 => NewK C sp (fun cls d H' => W cls d σ H') Q (vs ++ [.non]) H1
theorem run_nwD (M : Mk X.K C f) (F : FnOk X.prog X.w X.K X.mg X.base (L2.CX X.prog X.w) k f fd ps sp) (hr : Room (k + 1) X.A) (hb : Binds X.K fd ps [.none]) (tk : Takes X W) (I : Inv X pi σ H s) (r : Vals vs us)
    (h : NewK C sp (fun cls d H' => W cls d σ H') Q (vs ++ [.non]) H) : wpAny (model X.prog X.w) X.A (call (.ref C) us) (EP X pi σ Q) X.xe s := by
  have n1 : H (s.heap.objs.size + 1) = none := I.hok.fresh (Nat.le_succ _)
  have n0 : H s.heap.objs.size = none := I.hok.fresh (Nat.le_refl _)
  have hq := h (s.heap.objs.size + 1) s.heap.objs.size _ n1 upd_same ((Kp.refl.new (u := .own (s.heap.objs.size + 1)) n0).new (by rw [upd_ne (Nat.succ_ne_self _)]; exact n1))
  have I2 := Inv.made (C := C) I
  have r2 : Vals (V.ref (s.heap.objs.size + 1) :: (vs ++ [.non])) (Value.ref (s.heap.objs.size + 1) :: us ++ [.none]) := .cons rfl (r.append (.cons rfl .nil))
  have b : BindsTo _ fd ⟨Value.ref (s.heap.objs.size + 1) :: us, []⟩ (ps.zip (Value.ref (s.heap.objs.size + 1) :: us ++ [.none])) := hb _ (Value.ref (s.heap.objs.size + 1) :: us) I2.kIn (by rw [← r2.length]; exact F.len _ _ _ _ hq)
  refine wpAny_call (make_map (f := f) I.kIn M.makes M.init (beq_iff_eq.mp M.fn) (codeAny_mono (F.run _ X.stack _ _ ⟨Value.ref (s.heap.objs.size + 1) :: us, []⟩ (Value.ref (s.heap.objs.size + 1) :: us ++ [.none]) _ _ _ (hr.make C us [])
    (I2.env0.make C us []) b r2 hq) fun rr s' z => ?_))
  match rr, z with
  | .error er, z => exact tk er s' (XE.of_call I2 (fun _ _ _ y => y) z)
  | .ok (.ret u), z =>
    obtain ⟨v, H', I3, rv, ev, q3⟩ := I2.after z
    subst ev
    exact ⟨rv, ⟨V.ref (s.heap.objs.size + 1), H', I3, rfl, q3⟩⟩
  | .ok .next, z => exact z.elim
  | .ok .brk, z => exact z.elim
  | .ok .cont, z => exact z.elim
theorem pe_nwD (M : Mk X.K C f) (F : FnOk X.prog X.w X.K X.mg X.base (L2.CX X.prog X.w) k f fd ps sp) (hr : Room (k + 1) X.A) (gl : Gl X x) (hm : X.mg x = some (.ref C)) (hb : Binds X.K fd ps [.none]) (tk : Takes X W)
    (ha : PA X (e :: es) t) (h1 : (x == ("__debug__" : Str)) = false := by decide) (h2 : starEach (e :: es) X.env = (false, eval e X.env) :: starEach es X.env := by rfl) (h3 : (backTo pos (starEach es X.env)).any (·.1) = false := by rfl) :
    PE X (.Call (.Name x p) (e :: es) [] pos) (tNwD C sp W t) := by
  refine ⟨fun pi s σ H Q I h => wpAny_Call_Name_kw (ld_glob I gl hm ?_ h1)⟩
  refine PySem.W.callWith_K (h₀ := X.base) I.ok.mod.kin M.kp (thn (ha.run pos pi s σ H _ I h) ?_) h2 h3
  rintro us s1 ⟨vs, H1, I1, r, q⟩
  exact ⟨I1.kIn, run_nwD M F hr hb tk I1 r q⟩
theorem s_nwD {C : Addr} {sp : Sp} {W : WX} {t : TA} {σ : L2.St} {H : Hp} {Q : VK} (h : t σ H fun vs H1 => NewK C sp (fun cls d H' => W cls d σ H') Q (vs ++ [.non]) H1) : tNwD C sp W t σ H Q := h
end
theorem s_clear {H : Hp} {Q : VK} {p : Addr} {xs : List V} (h : H p = some (.lst xs)) (q : ∀ H', H' p = some (.lst []) → Kp [p] H H' → Q .non H') : rClear (.ref p) [] H Q := ⟨p, xs, rfl, rfl, h, put_abs h rfl (R := fun H' => Q .non H') q⟩
end U

namespace U
open PySem L2 PySem.Spec PyProof.Rows
/-! things that are data, by the places of their lists and dicts -/
section
variable {K : PySem.W.Frag} {H H1 H2 : Hp} {F G ps qs : List Addr} {a b p : Addr} {v y : V} {d e : PyData} {xs ys : List V} {ds : List PyData} {kvs : List (Key × V)}
def isTu : HO → Bool | .tup _ => true | _ => false
/-- the tuples, and what stands at F -/
def vis (F : List Addr) (H : Hp) : Hp := fun a => match H a with | none => none | some o => if isTu o = true ∨ a ∈ F then some o else none
theorem vis_some {o : HO} (h : vis F H a = some o) : H a = some o ∧ (isTu o = true ∨ a ∈ F) := by
  unfold vis at h
  cases e : H a with
  | none => rw [e] at h; cases h
  | some o' =>
    rw [e] at h
    simp only at h
    split at h
    · cases h; rename_i c; exact ⟨rfl, c⟩
    · cases h
theorem vis_of {o : HO} (h : H a = some o) (c : isTu o = true ∨ a ∈ F) : vis F H a = some o := by
  unfold vis
  rw [h]
  simp only
  rw [if_pos c]
theorem vis_tup (h : H a = some (.tup xs)) : vis F H a = some (.tup xs) := vis_of h (Or.inl rfl)
theorem ko_tu {o u : HO} (h : ko o = ko u) (c : isTu o = true) : isTu u = true := by
  cases o <;> simp [isTu] at c
  cases u <;> simp [ko, isTu] at h ⊢
theorem vis_kp (k : Kp ps H H1) (n : ∀ a ∈ ps, a ∉ F) : Kp [] (vis F H) (vis F H1) := ⟨fun b o e _ => by
  obtain ⟨e1, c⟩ := vis_some e
  rcases c with c | c
  · cases o <;> simp [isTu] at c
    exact vis_tup (k.tp b _ e1)
  · exact vis_of (k.get e1 fun m => n b m c) (Or.inr c), fun b i e => by
  obtain ⟨o, e, r⟩ := e
  obtain ⟨e1, c⟩ := vis_some e
  obtain ⟨o', e', r'⟩ := k.kd b i ⟨o, e1, r⟩
  exact ⟨o', vis_of e' (c.imp (fun z => ko_tu (r.trans r'.symm) z) id), r'⟩, fun b xs e => vis_tup (k.tp b xs (vis_some e).1)⟩
theorem vis_le : Kp [] (vis F H) H := ⟨fun b o e _ => (vis_some e).1, fun b i ⟨o, e, r⟩ => ⟨o, (vis_some e).1, r⟩, fun b xs e => (vis_some e).1⟩
theorem vis_mono (h : ∀ a ∈ F, a ∈ G) : Kp [] (vis F H) (vis G H) := ⟨fun b o e _ => by
  obtain ⟨e1, c⟩ := vis_some e
  exact vis_of e1 (c.imp id (h b)), fun b i ⟨o, e, r⟩ => by
  obtain ⟨e1, c⟩ := vis_some e
  exact ⟨o, vis_of e1 (c.imp id (h b)), r⟩, fun b xs e => vis_tup (vis_some e).1⟩
/-- a thing, its lists and dicts at F -/
inductive Od (K : PySem.W.Frag) (H : Hp) : V → PyData → List Addr → Prop
  | flat {v : V} {d : PyData} {F : List Addr} {kd : Kd} : Dn K (vis F H) v d → TyN H v kd → kd.isList = false → kd.isDict = false → Od K H v d F
  | lst {a : Addr} {xs : List V} {ds : List PyData} {F : List Addr} : H a = some (.lst xs) → a ∉ F → DnA K (vis F H) xs ds → Od K H (.ref a) (.list ds) (a :: F)
  | dic {a : Addr} {kvs : List (Key × V)} {ds : List PyData} {F : List Addr} : H a = some (.dK kvs) → a ∉ F → DnA K (vis F H) (kvs.map (·.2)) ds → Od K H (.ref a) (.dict ((kvs.map fun p => keyD p.1).zip ds)) (a :: F)
theorem TyN.kpt {kd : Kd} (h : TyN H v kd) (h1 : kd.isList = false) (h2 : kd.isDict = false) (k : Kp ps H H1) : TyN H1 v kd := by
  cases h with
  | non => exact .non
  | bl => exact .bl
  | int => exact .int
  | str => exact .str
  | lst e => cases h1
  | tup e => exact .tup (k.tp _ _ e)
  | dic e => cases h2
theorem Od.kpn (h : Od K H v d F) (k : Kp ps H H1) (n : ∀ a ∈ ps, a ∉ F) : Od K H1 v d F := by
  cases h with
  | flat a b c e => exact .flat (a.kp (vis_kp k n)) (b.kpt c e k) c e
  | lst a b c => exact .lst (k.get a fun m => n _ m List.mem_cons_self) b (c.kp (vis_kp k fun x m z => n x m (List.mem_cons_of_mem _ z)))
  | dic a b c => exact .dic (k.get a fun m => n _ m List.mem_cons_self) b (c.kp (vis_kp k fun x m z => n x m (List.mem_cons_of_mem _ z)))
theorem Od.kp (h : Od K H v d F) (k : Kp [] H H1) : Od K H1 v d F := h.kpn k (by simp)
theorem Od.dnv (h : Od K H v d F) : Dn K (vis F H) v d := by
  cases h with
  | flat a b c e => exact a
  | lst a b c => exact .lst (Or.inl (vis_of a (Or.inr List.mem_cons_self))) (c.kp (vis_mono fun x m => List.mem_cons_of_mem _ m))
  | dic a b c => exact .dic (Or.inl (vis_of a (Or.inr List.mem_cons_self))) (c.kp (vis_mono fun x m => List.mem_cons_of_mem _ m))
theorem Od.dn (h : Od K H v d F) : Dn K H v d := h.dnv.kp vis_le
theorem Od.ty (h : Od K H v d F) : ∃ kd, TyN H v kd := by
  cases h with
  | flat a b c e => exact ⟨_, b⟩
  | lst a b c => exact ⟨_, .lst a⟩
  | dic a b c => exact ⟨_, .dic a⟩
theorem Od.int {i : Int} : Od K H (.int i) (.int i) [] := .flat (.int _) .int rfl rfl
theorem Od.non : Od K H .non .none [] := .flat .non .non rfl rfl
theorem Od.bl {i : Bool} : Od K H (.bl i) (.bool i) [] := .flat (.bl _) .bl rfl rfl
theorem Od.str {i : Str} : Od K H (.str i) (.str i) [] := .flat (.str _) .str rfl rfl
theorem Od.tup (h : H a = some (.tup xs)) (g : DnA K (vis F H) xs ds) : Od K H (.ref a) (.tuple ds) F := .flat (.tup (SqT.of (vis_tup h)) g) (.tup h) rfl rfl
theorem DnA.app : ∀ {xs ys : List V} {ds es : List PyData}, DnA K H xs ds → DnA K H ys es → DnA K H (xs ++ ys) (ds ++ es)
  | _, _, _, _, .nil, h => h
  | _, _, _, _, .cons a b, h => .cons a (DnA.app b h)
theorem Od.more {dy : PyData} (e : H1 a = some (.lst (xs ++ [y]))) (n : a ∉ F) (c : DnA K (vis F H) xs ds) (k : Kp [a] H H1) (hy : ∀ H, Dn K H y dy) : Od K H1 (.ref a) (.list (ds ++ [dy])) (a :: F) :=
  .lst e n ((c.kp (vis_kp k (by simpa using n))).app (.cons (hy _) .nil))
/-- what repr may show -/
structure Bd (d : PyData) (n : Nat) : Prop where
  good : U.good d
  depth : d.depth ≤ 90
  sz : U.sz d ≤ n
theorem Bd.mono {n m : Nat} (h : Bd d n) (e : n ≤ m) : Bd d m := ⟨h.good, h.depth, Nat.le_trans h.sz e⟩
theorem Bd.sh {n : Nat} (h : Bd d n) (g : Dn K H v d) (e : n ≤ 16000000) : Sh K H v d := ⟨g, h.good, Nat.le_trans h.depth (by decide), Nat.le_trans h.sz e⟩
theorem good_app : ∀ {ds es : List PyData}, goodA ds → goodA es → goodA (ds ++ es)
  | [], _, _, h => h
  | _ :: _, _, ⟨a, b⟩, h => ⟨a, good_app b h⟩
theorem depth_app : ∀ (ds es : List PyData), PyData.depthAll (ds ++ es) = max (PyData.depthAll ds) (PyData.depthAll es)
  | [], es => by simp [PyData.depthAll]
  | d :: ds, es => by
    rw [List.cons_append, PyData.depthAll, PyData.depthAll, depth_app ds es]
    omega
theorem sz_app : ∀ (ds es : List PyData), szA (ds ++ es) = szA ds + szA es
  | [], es => by simp [szA]
  | d :: ds, es => by
    rw [List.cons_append, szA, szA, sz_app ds es]
    omega
theorem Bd.more {n m : Nat} (h : Bd (.list ds) n) (g : Bd e m) (z : e.depth ≤ 80) : Bd (.list (ds ++ [e])) (n + m + 2) := by
  obtain ⟨h1, h2, h3⟩ := h
  obtain ⟨g1, g2, g3⟩ := g
  refine ⟨good_app h1 ⟨g1, trivial⟩, ?_, ?_⟩
  · simp only [PyData.depth, depth_app, PyData.depthAll] at h2 ⊢
    omega
  · simp only [U.sz, sz_app, szA] at h3 ⊢
    omega
theorem Bd.int {i : Int} (h : i.natAbs < 10 ^ 100) : Bd (.int i) 102 := ⟨h, by simp [PyData.depth], by simp [U.sz]⟩
theorem Bd.non : Bd .none 4 := ⟨trivial, by simp [PyData.depth], by simp [U.sz]⟩
theorem Bd.bl {i : Bool} : Bd (.bool i) 5 := ⟨trivial, by simp [PyData.depth], by simp [U.sz]⟩
theorem Bd.str {z : Str} {n : Nat} (h : SS z n) : Bd (.str z) (10 * n + 2) := ⟨fun c hc => Nat.lt_trans (h.ok c hc) (by decide), by simp [PyData.depth], by have := h.len; simp only [U.sz]; omega⟩
end
end U

namespace U
open PySem L2 PySem.Spec PyProof.Rows
/-! range(n) as a value; whole numbers in lists -/
section
variable {X : Cx} {K : PySem.W.Frag} {H : Hp} {Q : VK} {p : Addr} {i j : Int} {ns : List Int}
def uRange1 : List V → Hp → VK → Prop := fun vs H Q => ∃ j, vs = [V.int j] ∧ ∀ p, H p = none → Q (.ref p) (upd H p (.rng 0 j))
theorem c_range1 : CallR X (.type "range") uRange1 := by
  intro pins s σ H vs us Q I r h
  obtain ⟨j, rfl, q⟩ := h
  obtain ⟨u1, rfl, rj⟩ := vals1 r
  obtain ⟨u, rfl⟩ := rj
  refine call_range_1 ⟨.ref s.heap.objs.size, upd H s.heap.objs.size (.rng 0 j), I.laid (t' := s.toks + 1 + 1) (fun b o e => Heap.get?_push_of_some _ e) (Nat.le_refl _) ?_, rfl, q _ (I.hok.fresh (Nat.le_refl _))⟩
  exact ⟨s.toks, u, s.toks + 1, Heap.get?_push_size _ rfl⟩
theorem s_rngN1 (q : ∀ p H', H p = none → H' p = some (.rng 0 j) → Kp [] H H' → Q (.ref p) H') : uRange1 [.int j] H Q := ⟨j, rfl, new_abs (R := fun p H' => Q (.ref p) H') q⟩
theorem flat_ints (ns : List Int) : (ns.map V.int).all flatV = true := by
  rw [List.all_eq_true]
  intro x hx
  obtain ⟨y, _, rfl⟩ := List.mem_map.mp hx
  rfl
theorem eqV_int {a b : Int} : eqV (.int a) (.int b) = decide (a = b) := by
  first
    | (show decide (V.int a = V.int b) = _; exact U.dec_int)
    | rfl
    | simp [eqV]
theorem inV_ints : inV (.int i) (ns.map V.int) = decide (i ∈ ns) := by
  induction ns with
  | nil => rfl
  | cons y zs ih =>
    unfold inV at ih ⊢
    rw [List.map_cons, List.any_cons, ih, eqV_int]
    by_cases h : y = i
    · subst h; simp
    · simp [h, Ne.symm h]
theorem s_inI (h : SqL K H p (ns.map V.int)) (q : Q (.bl (decide (i ∈ ns))) H) : uIn K false (.int i) (.ref p) H Q := Or.inr ⟨p, _, rfl, Or.inl h, rfl, flat_ints ns, by rw [inV_ints]; exact q⟩
theorem s_ninI (h : SqL K H p (ns.map V.int)) (q : Q (.bl (!decide (i ∈ ns))) H) : uIn K true (.int i) (.ref p) H Q := Or.inr ⟨p, _, rfl, Or.inl h, rfl, flat_ints ns, by rw [inV_ints]; exact q⟩
end
/-! a thing to which more may be added: an item to a list, an entry of one key to a dict -/
section
variable {K : PySem.W.Frag} {H H1 : Hp} {F ps : List Addr} {a : Addr} {kvs c : List (Key × V)} {ds es : List PyData} {key : Str} {v y : V} {d dv dy : PyData} {xs : List V} {n m : Nat}
def noKey (key : Str) (c : List (Key × V)) : Prop := (c.any fun kv => decide (kv.1 = (Sum.inr key : Key))) = false
theorem put_new (h : noKey key c) : putK c (Sum.inr key : Key) v = c ++ [(Sum.inr key, v)] := by
  unfold putK
  rw [if_neg (by rw [h]; exact Bool.false_ne_true)]
theorem put_old {w : V} (h : noKey key c) : putK (c ++ [((Sum.inr key : Key), w)]) (Sum.inr key : Key) v = c ++ [(Sum.inr key, v)] := by
  unfold putK
  rw [if_pos (by simp), List.map_append]
  congr 1
  · unfold noKey at h
    rw [List.any_eq_false] at h
    calc c.map _ = c.map id := List.map_congr_left fun kv hk => by
          have := h kv hk
          simp only [decide_eq_true_eq] at this
          rw [if_neg this]; rfl
      _ = c := List.map_id c
  · simp
inductive Ot (K : PySem.W.Frag) (H : Hp) (key : Str) : V → PyData → List Addr → Prop
  | od {v : V} {d : PyData} {F : List Addr} : Od K H v d F → (∀ a kvs, v = .ref a → H a = some (.dK kvs) → noKey key kvs) → Ot K H key v d F
  | put {a : Addr} {c : List (Key × V)} {ds : List PyData} {F : List Addr} {v : V} {dv : PyData} : H a = some (.dK (c ++ [(Sum.inr key, v)])) → noKey key c → a ∉ F → DnA K (vis F H) (c.map (·.2)) ds → (∀ H, Dn K H v dv) →
      Ot K H key (.ref a) (.dict (((c ++ [((Sum.inr key : Key), v)]).map fun p => keyD p.1).zip (ds ++ [dv]))) (a :: F)
theorem Ot.kpn (h : Ot K H key v d F) (k : Kp ps H H1) (n : ∀ a ∈ ps, a ∉ F) : Ot K H1 key v d F := by
  cases h with
  | od a b =>
    refine .od (a.kpn k n) fun x kvs e h1 => ?_
    subst e
    cases a with
    | flat z1 z2 z3 z4 =>
      cases z2 with
      | lst e => cases z3
      | dic e => cases z4
      | tup e => rw [k.tp _ _ e] at h1; cases h1
    | lst z1 z2 z3 => rw [k.get z1 fun m => n _ m List.mem_cons_self] at h1; cases h1
    | dic z1 z2 z3 =>
      rw [k.get z1 fun m => n _ m List.mem_cons_self] at h1
      cases h1
      exact b _ _ rfl z1
  | put a b c e f => exact .put (k.get a fun m => n _ m List.mem_cons_self) b c (e.kp (vis_kp k fun x m z => n x m (List.mem_cons_of_mem _ z))) f
theorem Ot.kp (h : Ot K H key v d F) (k : Kp [] H H1) : Ot K H1 key v d F := h.kpn k (by simp)
theorem Ot.dn (h : Ot K H key v d F) : Dn K H v d := by
  cases h with
  | od a b => exact a.dn
  | put a b c e f =>
    refine .dic (Or.inl a) ?_
    rw [List.map_append]
    exact (e.kp vis_le).app (.cons (f _) .nil)
theorem Ot.ty (h : Ot K H key v d F) : ∃ kd, TyN H v kd := by
  cases h with
  | od a b => exact a.ty
  | put a b c e f => exact ⟨_, .dic a⟩
theorem dna_len : ∀ {vs : List V} {ds : List PyData}, DnA K H vs ds → vs.length = ds.length
  | _, _, .nil => rfl
  | _, _, .cons _ b => by rw [List.length_cons, List.length_cons, dna_len b]
theorem sz_len : ∀ ds : List PyData, 2 * ds.length ≤ szA ds
  | [] => by simp [szA]
  | d :: ds => by
    have := sz_len ds
    rw [szA, List.length_cons]
    omega
theorem szK_len : ∀ ds : List (PyData × PyData), 4 * ds.length ≤ szK ds
  | [] => by simp [szK]
  | (k, d) :: ds => by
    have := szK_len ds
    rw [szK, List.length_cons]
    omega
theorem goodK_app : ∀ {ds es : List (PyData × PyData)}, goodK (ds ++ es) ↔ goodK ds ∧ goodK es
  | [], es => by simp [goodK]
  | (k, d) :: ds, es => by
    rw [List.cons_append, goodK, goodK, goodK_app (ds := ds) (es := es)]
    simp only [and_assoc]
theorem depthK_app : ∀ (ds es : List (PyData × PyData)), PyData.depthKv (ds ++ es) = max (PyData.depthKv ds) (PyData.depthKv es)
  | [], es => by simp [PyData.depthKv]
  | (k, d) :: ds, es => by
    rw [List.cons_append, PyData.depthKv, PyData.depthKv, depthK_app ds es]
    omega
theorem szK_app : ∀ (ds es : List (PyData × PyData)), szK (ds ++ es) = szK ds + szK es
  | [], es => by simp [szK]
  | (k, d) :: ds, es => by
    rw [List.cons_append, szK, szK, szK_app ds es]
    omega
theorem zip_snoc (hl : DnA K H (c.map (·.2)) ds) : ((c ++ [((Sum.inr key : Key), v)]).map fun p => keyD p.1).zip (ds ++ [dv]) = ((c.map fun p => keyD p.1).zip ds) ++ [(.str key, dv)] := by
  have e : ds.length = c.length := by
    have := dna_len hl
    rw [List.length_map] at this
    exact this.symm
  rw [List.map_append, List.zip_append (by rw [List.length_map, e])]
  rfl
theorem Bd.putK {l : List (PyData × PyData)} (h : Bd (.dict l) n) (g : Bd dy m) (z : dy.depth ≤ 80) (s : SS key 20) : Bd (.dict (l ++ [(.str key, dy)])) (n + m + 300) := by
  obtain ⟨h1, h2, h3⟩ := h
  obtain ⟨g1, g2, g3⟩ := g
  refine ⟨goodK_app.mpr ⟨h1, fun c hc => Nat.lt_trans (s.ok c hc) (by decide), g1, trivial⟩, ?_, ?_⟩
  · simp only [PyData.depth, depthK_app, PyData.depthKv] at h2 ⊢
    omega
  · have := s.len
    simp only [U.sz, szK_app, szK] at h3 ⊢
    omega
theorem Bd.dropK {l : List (PyData × PyData)} {x : PyData × PyData} (h : Bd (.dict (l ++ [x])) n) : Bd (.dict l) n := by
  obtain ⟨h1, h2, h3⟩ := h
  obtain ⟨x1, x2⟩ := x
  refine ⟨(goodK_app.mp h1).1, ?_, ?_⟩
  · simp only [PyData.depth, depthK_app, PyData.depthKv] at h2 ⊢
    omega
  · simp only [U.sz, szK_app, szK] at h3 ⊢
    omega
theorem Ot.cs (h : Ot K H key v d F) (s : SS key 20) : (∃ kd, TyN H v kd ∧ kd.isList = false ∧ kd.isDict = false) ∨
    (∃ a xs, v = .ref a ∧ a ∈ F ∧ H a = some (.lst xs) ∧ (∀ n, Bd d n → xs.length ≤ n) ∧ ∀ y dy H1, (∀ H, Dn K H y dy) → H1 a = some (.lst (xs ++ [y])) → Kp [a] H H1 → ∃ d', Ot K H1 key v d' F ∧ ∀ n m, Bd d n → Bd dy m → dy.depth ≤ 80 → Bd d' (n + m + 300)) ∨
    (∃ a kvs, v = .ref a ∧ a ∈ F ∧ H a = some (.dK kvs) ∧ (∀ n, Bd d n → kvs.length ≤ n) ∧ ∀ y dy H1, (∀ H, Dn K H y dy) → H1 a = some (.dK (L2.putK kvs (Sum.inr key : Key) y)) → Kp [a] H H1 → ∃ d', Ot K H1 key v d' F ∧ ∀ n m, Bd d n → Bd dy m → dy.depth ≤ 80 → Bd d' (n + m + 300)) := by
  cases h with
  | od a b =>
    cases a with
    | flat z1 z2 z3 z4 => exact Or.inl ⟨_, z2, z3, z4⟩
    | @lst a xs ds F z1 z2 z3 =>
      refine Or.inr (Or.inl ⟨a, xs, rfl, List.mem_cons_self, z1, fun n g => ?_, fun y dy H1 hy e k => ⟨_, .od (Od.more e z2 z3 k hy) (fun x kvs e1 e2 => ?_), fun n m g1 g2 g3 => (g1.more g2 g3).mono (by omega)⟩⟩)
      · have := sz_len ds
        have := g.sz
        simp only [U.sz] at this
        have := dna_len z3
        omega
      · cases e1
        rw [e] at e2
        cases e2
    | @dic a kvs ds F z1 z2 z3 =>
      refine Or.inr (Or.inr ⟨a, kvs, rfl, List.mem_cons_self, z1, fun n g => ?_, fun y dy H1 hy e k => ?_⟩)
      · have := szK_len ((kvs.map fun p => keyD p.1).zip ds)
        have := g.sz
        simp only [U.sz] at this
        have e := dna_len z3
        rw [List.length_map] at e
        have : ((kvs.map fun p => keyD p.1).zip ds).length = kvs.length := by rw [List.length_zip, List.length_map, ← e]; omega
        omega
      · have nk := b _ _ rfl z1
        rw [put_new nk] at e
        refine ⟨_, .put e nk z2 (z3.kp (vis_kp k (by simpa using z2))) hy, fun n m g1 g2 g3 => ?_⟩
        rw [zip_snoc z3]
        exact g1.putK g2 g3 s
  | @put a c ds F v dv z1 nk z2 z3 z4 =>
    refine Or.inr (Or.inr ⟨a, _, rfl, List.mem_cons_self, z1, fun n g => ?_, fun y dy H1 hy e k => ?_⟩)
    · rw [zip_snoc z3] at g
      have := szK_len ((c.map fun p => keyD p.1).zip ds ++ [(.str key, dv)])
      have := g.sz
      simp only [U.sz] at this
      have e := dna_len z3
      rw [List.length_map] at e
      have : ((c.map fun p => keyD p.1).zip ds).length = c.length := by rw [List.length_zip, List.length_map, ← e]; omega
      rw [List.length_append] at *
      simp only [List.length_cons, List.length_nil] at *
      omega
    · rw [put_old nk] at e
      refine ⟨_, .put e nk z2 (z3.kp (vis_kp k (by simpa using z2))) hy, fun n m g1 g2 g3 => ?_⟩
      rw [zip_snoc z3] at g1 ⊢
      exact g1.dropK.putK g2 g3 s
end
theorem s_slT {K : PySem.W.Frag} {H : Hp} {p : Addr} {xs ys : List V} {lo hi : Option Int} {Q : VK} (h : H p = some (.tup xs)) (ey : cutV xs lo hi = ys) (q : ∀ p' H', H' p' = some (.tup ys) → Kp [] H H' → Q (.ref p') H') : uSl K (.ref p) lo hi H Q := by
  subst ey
  refine Or.inr (Or.inr ⟨p, xs, rfl, SqT.of h, fun e => ?_, fun _ => new_abs (R := fun l H' => Q (.ref l) H') fun p' H' _ e k => q p' H' e k⟩)
  have : cutV xs lo hi = xs := by
    unfold cutV
    rw [e.1, e.2]
    simp
  exact q p H (by rw [this]; exact h) Kp.refl
theorem int_shw {K : PySem.W.Frag} {H : Hp} {i : Int} (h0 : 0 ≤ i) (h1 : i ≤ 1000000000) : Sh K H (.int i) (.int i) :=
  ⟨.int i, Nat.lt_of_le_of_lt (show i.natAbs ≤ 1000000000 by omega) (by decide +kernel), by simp [PyData.depth], by simp [sz]⟩
end U

namespace U
open PySem L2 PySem.Spec PyProof.Rows PySem.SeqAt
/-! a dict beside texts -/
theorem dict_eq_declines_str (l : Addr) (es : Array DictEntry) (n : Nat) (dd : Option Addr) (sl : Array (Option Value)) (b : Str) (u : Tok) :
    Meets (Builtin.«dict.__eq__» ⟨[.ref l, .str b u], []⟩) (fun _ R s => s.heap.get? l = some { cls := .type "dict", dict := dd, data := .dict es n, slots := sl } ∧ R (.ok (.ret .notImplemented)) s) :=
  .of_wp fun prog w A R s h => by obtain ⟨hp, g, d, tk, os⟩ := s; obtain ⟨hl, h⟩ := h; have f1 := F.sub_str_dict; wp_walk using wpAny_loadPart' hl; exact ⟨_, rfl, h⟩
theorem str_eq_declines_dict (b : Str) (u : Tok) (l : Addr) (c : Value) (es : Array DictEntry) (n : Nat) (dd : Option Addr) (sl : Array (Option Value)) :
    Meets (Builtin.«str.__eq__» ⟨[.str b u, .ref l], []⟩) (fun _ R s => s.heap.get? l = some { cls := c, dict := dd, data := .dict es n, slots := sl } ∧ R (.ok (.ret .notImplemented)) s) :=
  .of_wp fun prog w A R s h => by obtain ⟨hp, g, d, tk, os⟩ := s; obtain ⟨hl, h⟩ := h; wp_walk using wpAny_loadPart' hl, wpAny_load hl; exact ⟨_, rfl, h⟩
theorem eqAt_str_dict {A : Around} {s : Shared} {l : Addr} {o : Obj} {es : Array DictEntry} {n : Nat} (b : Str) (u : Tok) (ho : s.heap.get? l = some o) (hc : o.cls = .type "dict") (hd : o.data = .dict es n) (hu : A.units < cLine) : EqAt A s (.str b u) (.ref l) false := fun prog w E Q h => by
  obtain ⟨cls, dd, data, sl⟩ := o
  simp only at hc hd
  subst hc hd
  unfold eqBool
  refine wpAny_holding ?_
  refine wpAny_ite_split (fun hab => absurd (eq_of_beq hab) nofun) (fun _ => ?_)
  refine wpAny_bind (?_ : wpAny (model prog w) A (richCompare .Eq (.str b u) (.ref l)) _ E s)
  refine rc_eq_decline_or (k := false) (typeIs_str s b u) ⟨_, ho, rfl⟩ (by decide) F.sub_dict_str F.slot_str_eq F.slot_dict_eq_refl
    (fun _ hq => call_meets F.slot_str_eq (typeIs_str s b u) F.entry_str_eq (F.args_str_eq_2 _ _) (str_eq_declines_dict b u l (.type "dict") es n dd sl) ⟨ho, hq⟩)
    (fun _ hq => call_meets F.slot_dict_eq_refl ⟨_, ho, rfl⟩ F.entry_dict_eq (F.args_dict_eq_2 _ _) (dict_eq_declines_str l es n dd sl b u) ⟨ho, hq⟩)
    (fun _ hq => wpAny_of_eq (rfl : isSame (.str b u) (.ref l) = pure false) hq) (.inr hu) (wpAny_truthy_bool h)
/-! x in a list of texts, x any data -/
def rInX (K : PySem.W.Frag) (ng : Bool) : R2 := fun x y H Q => ∃ (p a : Addr) (zs : List Str) (kvs : List (Key × V)), x = .ref a ∧ H a = some (.dK kvs) ∧ y = .ref p ∧ SqL K H p (zs.map V.str) ∧ Q (.bl ng) H
def rInY (K : PySem.W.Frag) (ng : Bool) : R2 := fun x y H Q => ∃ d ds, Dp K H x d ∧ Dp K H y (.list ds) ∧ SeqAt.shaped d = true ∧ SeqAt.shaped (.list ds) = true ∧ Q (.bl (if ng then !ds.any fun z => PyData.eqv z d else ds.any fun z => PyData.eqv z d)) H
def uInX (K : PySem.W.Frag) (ng : Bool) : R2 := fun x y H Q => uIn K ng x y H Q ∨ rInX K ng x y H Q ∨ rInY K ng x y H Q
section
variable {X : Cx} {k : Nat} {K : PySem.W.Frag}
theorem strs_eqAt {A : Around} {s : Shared} {l : Addr} {o : Obj} {es : Array DictEntry} {n : Nat} (ho : s.heap.get? l = some o) (hc : o.cls = .type "dict") (hd : o.data = .dict es n) (hu : A.units < cLine) : ∀ {zs : List Str} {us : List Value}, Vals (zs.map V.str) us → ∀ u ∈ us, EqAt A s u (.ref l) false
  | [], _, .nil => fun u hu => by cases hu
  | z :: zs, _, .cons r t => fun u' hu' => by
    rcases List.mem_cons.mp hu' with rfl | hm
    · obtain ⟨tk, rfl⟩ := r
      exact eqAt_str_dict z tk ho hc hd hu
    · exact strs_eqAt ho hc hd hu t u' hm
theorem op_inX (hr : Room k X.A) : OpR X (compareOp .In) (rInX X.K false) := by
  intro pins s σ H x y v u Q I rx ry h
  obtain ⟨p, a, zs, kvs, rfl, ea, rfl, hq, q⟩ := h
  cases rx
  cases ry
  obtain ⟨z, hd, vs, rel, o, es, ep, h1, h2, h3, h4⟩ := dk_of I.hok ea
  obtain ⟨its, r, pl, hz⟩ := I.list hq
  refine SeqAt.in_listAt (fun _ => false) pl.isList (fun w hw => strs_eqAt h1 h2.1 h3 (hu_of hr) r w (by simpa using hw)) ⟨.bl _, H, I, rfl, ?_⟩
  rw [show its.toArray.any (fun _ => false) = false by simp]
  exact q
theorem op_notInX (hr : Room k X.A) : OpR X (compareOp .NotIn) (rInX X.K true) := by
  intro pins s σ H x y v u Q I rx ry h
  obtain ⟨p, a, zs, kvs, rfl, ea, rfl, hq, q⟩ := h
  cases rx
  cases ry
  obtain ⟨z, hd, vs, rel, o, es, ep, h1, h2, h3, h4⟩ := dk_of I.hok ea
  obtain ⟨its, r, pl, hz⟩ := I.list hq
  refine SeqAt.notIn_listAt (fun _ => false) pl.isList (fun w hw => strs_eqAt h1 h2.1 h3 (hu_of hr) r w (by simpa using hw)) ⟨.bl _, H, I, rfl, ?_⟩
  rw [show its.toArray.any (fun _ => false) = false by simp]
  exact q
theorem o_inX (hK : X.K = K) (hr : Room k X.A) : OpR X (compareOp .In) (uInX K false) := by
  subst hK
  exact (o_in rfl).or ((op_inX hr).or (op_inD (by have := hr.un; omega)))
theorem o_notinX (hK : X.K = K) (hr : Room k X.A) : OpR X (compareOp .NotIn) (uInX K true) := by
  subst hK
  exact (o_notin rfl).or ((op_notInX hr).or (op_notInD (by have := hr.un; omega)))
end
section
variable {K : PySem.W.Frag} {σ : L2.St} {H : Hp} {Q : VK} {p a : Addr} {zs : List Str} {ng : Bool} {x y : V} {d : PyData}
/-- a thing that is no text is in no list of texts -/
def noStr : PyData → Bool | .str _ => false | _ => true
theorem any_noStr (h : noStr d = true) : ∀ zs : List Str, ((zs.map PyData.str).any fun z => PyData.eqv z d) = false
  | [] => rfl
  | z :: zs => by
    rw [List.map_cons, List.any_cons, any_noStr h zs, Bool.or_false]
    cases d <;> first | rfl | (simp [noStr] at h) | simp [PyData.eqv]
theorem s_iX (h : uIn K ng x y H Q) : uInX K ng x y H Q := Or.inl h
theorem s_iXD {kvs : List (Key × V)} (h : H a = some (.dK kvs)) (g : SqL K H p (zs.map V.str)) (q : Q (.bl ng) H) : uInX K ng (.ref a) (.ref p) H Q := Or.inr (Or.inl ⟨p, a, zs, kvs, rfl, h, rfl, g, q⟩)
theorem s_iXY (h : Dn K H x d) (s : SeqAt.shaped d = true) (nd : noStr d = true) (g : SqL K H p (zs.map V.str)) (ok : ∀ z ∈ zs, ∀ c ∈ z.cps.toList, c < 1114112) (q : Q (.bl ng) H) : uInX K ng x (.ref p) H Q := by
  refine Or.inr (Or.inr ⟨d, zs.map PyData.str, h.dp (shp s), .lst g (dpa_strs zs), s, shp_strs ok, ?_⟩)
  rw [any_noStr nd zs]
  cases ng <;> exact q
theorem s_m0 {r : V → List V → Hp → VK → Prop} {to : TE} (h : to σ H fun x H1 => (∃ a, x = .str a) ∧ r x [] H1 Q) : tM0 r to σ H Q := h
theorem s_upper {z : Str} (h : z.length ≤ 5592405) (q : Q (.str (Txt.upper z)) H) : ∃ a, V.str z = .str a ∧ ([] : List V) = [] ∧ a.length ≤ 5592405 ∧ Q (.str (Txt.upper a)) H := ⟨z, rfl, rfl, h, q⟩
theorem up_let : ∀ c ∈ List.range' 97 26, Unicode.upperOf c = [c - 32] := by decide +kernel
theorem up_ss {z : Str} {n : Nat} (h : SS z n) (g : ∀ c ∈ z.cps.toList, 97 ≤ c ∧ c ≤ 122) : SS (Txt.upper z) (3 * n) := by
  refine ⟨Nat.le_trans (len_upper z) (by have := h.len; omega), fun c hc => ?_⟩
  have hc : c ∈ (PySem.placed z fun _ c => Unicode.upperOf c) := by simpa [Txt.upper] using hc
  unfold PySem.placed at hc
  obtain ⟨xs, hx, hc⟩ := Array.mem_flatten.mp hc
  obtain ⟨i, hi, rfl⟩ := Array.mem_mapIdx.mp hx
  have hm : z.cps[i] ∈ z.cps.toList := by simp
  have b := g _ hm
  simp only [] at hc
  rw [up_let _ (by rw [List.mem_range']; exact ⟨z.cps[i] - 97, by omega, by omega⟩)] at hc
  simp at hc
  omega
def uInt : List V → Hp → VK → Prop := fun xs H Q => (∃ i, xs = [.int i] ∧ Q (.int i) H) ∨ ∃ k : Bool, xs = [.bl k] ∧ Q (.int (if k then 1 else 0)) H
theorem c_int {X : Cx} : CallR X (.type "int") uInt := call_int1
theorem s_intB {k : Bool} (q : Q (.int (if k then 1 else 0)) H) : uInt [.bl k] H Q := Or.inr ⟨k, rfl, q⟩
end
end U

namespace U
open PySem L2 PySem.Spec PyProof.Rows
/-! enumerate(list, c) -/
def IteS (K : PySem.W.Frag) (a : Addr) (c : Int) : It :=
  ⟨fun i H => ∃ (xs : List V) (x : V), SqL K H a xs ∧ xs[i]? = some x, fun i H v H' => ∃ T x, v = .ref T ∧ H T = none ∧ H' = upd H T (.tup [.int (c + (i : Nat)), x]) ∧ ∀ xs, SqL K H a xs → xs[i]? = some x, fun i H => ∃ xs : List V, SqL K H a xs ∧ xs.length ≤ i⟩
theorem turn_enumS {P : Program} {w : World} {K : PySem.W.Frag} {elts : List Expr} {kk : Nat} {tpos : Pos} (a e it : Addr) (c : Int) :
    Turn P w K (.Tuple elts kk tpos) (IteS K a c) [e, it] e (fun i h => (∃ old, IsEnum h e it (c + ((i : Nat) : Int)) old) ∧ h.IsListIter it a i ∧ e ≠ it) where
  mem := by simp
  obj := fun i h st b hb => by
    obtain ⟨⟨old, he⟩, ⟨o, ho, hc, hd⟩, _⟩ := st
    have e' : b = e ∨ b = it := by simpa using hb
    rcases e' with z | z
    · rw [z]; exact ⟨_, he, fun v q => nomatch q⟩
    · rw [z]; exact ⟨o, ho, fun v q => by rw [hd] at q; cases q⟩
  keep := fun i h h' st k => let ⟨⟨old, he⟩, hi, hne⟩ := st; ⟨⟨old, k e (by simp) _ he⟩, hi.at fun o q => k it (by simp) o q, hne⟩
  item := by
    intro X hP hw hK hc i pins s σ H E I hf st hg
    subst hP hw hK
    obtain ⟨⟨old, he⟩, hit, hne⟩ := st
    obtain ⟨xs, x, hq, hx⟩ := hg
    obtain ⟨its, rv, p, hz⟩ := I.list hq
    obtain ⟨u, hu, ru⟩ := rv.get hx
    have p' : s.heap.IsList a its.toArray := p.isList
    have nai : a ≠ it := fun z => by
      subst z
      obtain ⟨o1, e1, c1, _⟩ := p'
      obtain ⟨o2, e2, c2, _⟩ := hit
      rw [e1] at e2; cases e2
      rw [c1] at c2; exact absurd c2 (by simp)
    have nae : a ≠ e := fun z => by
      subst z
      obtain ⟨o1, e1, c1, _⟩ := p'
      have he' := he
      unfold IsEnum at he'
      rw [e1] at he'
      cases he'
      exact absurd c1 (by simp)
    have hel : e < s.heap.objs.size := Heap.lt_size he
    have hil : it < s.heap.objs.size := by obtain ⟨_, q, _⟩ := hit; exact Heap.lt_size q
    have hi : i < its.toArray.size := by
      rw [List.size_toArray]
      exact (List.getElem?_eq_some_iff.mp hu).1
    refine wpAny_pyNext_enum_itemC (Draws.list (A := X.A.in1) (show X.A.in1.handled = none from I.ok.hd hc) it a nai its.toArray) he ⟨hit, p'⟩ hi hne (by simp; exact ⟨hne, nae.symm⟩) fun x' h' tk hP ho hst' hT hsz hk => ?_
    obtain ⟨hit', _⟩ := hst'
    have ex : x' = u := by
      have hP' : its.toArray[i]? = some x' := hP
      rw [List.getElem?_toArray, hu] at hP'
      exact (Option.some.inj hP').symm
    subst ex
    refine ⟨_, rfl, wpAny_letOwnedTupleGo_enum (s := { s with heap := h', toks := tk + 1 }) ho fun h'' he' sb => ?_⟩
    have hT2 : h''.get? s.heap.objs.size = some { cls := .type "tuple", data := .seq #[.int (c + i) tk, x'] } := (sb.2 _ (Nat.ne_of_gt hel)).trans hT
    have new : ObjOk X.prog X.w (upd H s.heap.objs.size (.tup [.int (c + (i : Nat)), x])) h'' s.heap.objs.size (.tup [.int (c + (i : Nat)), x]) :=
      ⟨by show 2 ≤ sizeLine; decide, [.int (c + i) tk, x'], .cons ⟨_, rfl⟩ (.cons ru .nil), ⟨_, hT2, rfl, _, rfl⟩⟩
    have I1 : Inv X pins σ (upd H s.heap.objs.size (.tup [.int (c + (i : Nat)), x])) { s with heap := h'', toks := tk + 1 } :=
      I.turnedNew (ch := [e, it]) (fun b ob hb q => (sb.2 b (fun z => hb (by simp [z]))).trans (hk b ob (fun z => hb (by simp [z])) (fun z => hb (by simp [z])) q)) hf (Nat.le_refl _) new
    refine ⟨.ref s.heap.objs.size, _, I1, rfl, ⟨_, x, rfl, I.hok.fresh (Nat.le_refl _), rfl, fun ys hy => by rw [I.list_inj hy hq]; exact hx⟩, ⟨⟨x', ?_⟩, hit'.at fun o q => (sb.2 it (Ne.symm hne)).trans q, hne⟩, fun b hb => ?_⟩
    · have e1 : c + ((i + 1 : Nat) : Int) = c + (i : Int) + 1 := by omega
      rw [e1]; exact he'
    · have hb' : b < s.heap.objs.size := by
        have e' : b = e ∨ b = it := by simpa using hb
        rcases e' with z | z
        · rw [z]; exact hel
        · rw [z]; exact hil
      rw [upd_ne (Nat.ne_of_lt hb')]
      exact (hf b hb).1
  done := by
    intro X hP hw hK hc i pins s σ H E I hf st hg
    subst hP hw hK
    obtain ⟨⟨old, he⟩, hit, hne⟩ := st
    obtain ⟨xs, hq, hx⟩ := hg
    obtain ⟨its, rv, p, hz⟩ := I.list hq
    obtain ⟨f0, f1, f2, f3, f4, f5⟩ := hf it (by simp)
    have hl := rv.length
    have p' : s.heap.IsList a its.toArray := p.isList
    refine (?_ : wpAny (model X.prog X.w) X.A (pyNext (.ref e)) _ _ s)
    have hT : s.TypeIs (.ref e) "enumerate" := ⟨_, he, rfl⟩
    unfold pyNext
    refine wpAny_bind (wpAny_attempt (wpAny_callSpecial?_slot (name := Str.ofString "__next__") hT F.slot_enumerate_next
      (wpAny_call_entry F.slot_enumerate_next hT F.entry_enumerate_next ?_ (F.args_enumerate_next_1 _))))
    show wpAny _ _ (field (.ref e) 2 >>= _) _ _ _
    refine wpAny_bind (wpAny_field he rfl (x := .ref it) rfl ?_)
    refine wpAny_bind (wpAny_nextOf_list_end (I.ok.hd hc) hit p' (by simp; omega) fun h' x he' hx' => ?_)
    obtain ⟨o, ho, hc'⟩ := hx'
    refine wpAny_bind (wpAny_isInstance (T := "StopIteration") (b := true) ⟨o, ho, hc'⟩ isSubtype_stop ?_)
    exact wpAny_pure ⟨rfl, I.turned (t' := s.toks) (fun b o hb q => he' b o hb q) f0 f1 f3 f4 f5⟩
  self := fun A i s Q E st h => let ⟨⟨_, he⟩, _⟩ := st; wpAny_pyIter_enum he h
def iEnumS (K : PySem.W.Frag) (ta : TA) : TI := fun σ H R => ta σ H fun vs H1 => ∃ a xs c, vs = [.ref a, .int c] ∧ SqL K H1 a xs ∧ (-(2 ^ 62) ≤ c ∧ c < 2 ^ 62) ∧ R (IteS K a c) H1
theorem pi_enumS {X : Cx} {K : PySem.W.Frag} {e e2 : Expr} {ta : TA} {p pos tpos : Pos} {elts : List Expr} {kk : Nat} (hK : X.K = K) (hg : Gl X "enumerate") (hm : X.mg "enumerate" = none) (ha : PA X [e, e2] ta) (hs : starEach [e, e2] X.env = (false, eval e X.env) :: starEach [e2] X.env := by rfl) (hs2 : (backTo pos (starEach [e2] X.env)).any (·.1) = false := by rfl) :
    PI X (.Tuple elts kk tpos) (.Call (.Name "enumerate" p) [e, e2] [] pos) (iEnumS K ta) := by
  subst hK
  refine ⟨fun pins s σ H R I h => ?_⟩
  refine Call_ (ld_blt I hg hm boot_enumerate (PyProof.Rows.callWith_type1 (thn (ha.run pos pins s σ H _ I h) fun us s1 ⟨vs, H1, I1, r1, q1⟩ => ?_) hs hs2))
  obtain ⟨a, xs, c, ex, hq, hc, q⟩ := q1
  subst ex
  cases r1 with
  | cons r rr =>
    cases rr with
    | cons r2 rr =>
      cases rr
      cases r
      obtain ⟨tk, rfl⟩ := r2
      obtain ⟨its, rv, p', hz⟩ := I1.list hq
      refine enum_begins (begins_list a its.toArray) (show s1.heap.IsList a its.toArray from p'.isList) (by omega) (by omega) fun h' he hit hsz hk => wpAny_pyIter_enum he ?_
      have I2 : Inv X pins σ H1 { s1 with heap := h' } := I1.kept (t' := s1.toks) hk
      refine ⟨s1.heap.objs.size + 1, [s1.heap.objs.size + 1, s1.heap.objs.size], _, _, H1, rfl, I2, turn_enumS a (s1.heap.objs.size + 1) s1.heap.objs.size c, ⟨⟨.none, by simpa using he⟩, ⟨_, hit, rfl, rfl⟩, Nat.succ_ne_self _⟩, fun b hb => ?_, q⟩
      have e' : b = s1.heap.objs.size + 1 ∨ b = s1.heap.objs.size := by simpa using hb
      have hle : s1.heap.objs.size ≤ b := by
        rcases e' with z | z
        · rw [z]; exact Nat.le_add_right _ _
        · rw [z]; exact Nat.le_refl _
      exact I1.fpOk hle (I1.hok.fresh hle)
theorem walk_enumS {K : PySem.W.Frag} {a : Addr} {xs : List V} {c : Int} : Walk (IteS K a c) xs.length (fun H => SqL K H a xs) (YPair (fun i => some (.int (c + (i : Nat)))) (fun i => xs[i]?)) := by
  refine ⟨fun i _ hi q => ⟨xs, xs[i], q, by simp [hi]⟩, fun _ q => ⟨xs, q, Nat.le_refl _⟩, fun i H v H' _ q y => ?_⟩
  obtain ⟨T, x, h1, h2, h3, h4⟩ := y
  exact ⟨T, .int (c + (i : Nat)), x, h1, h2, h3, rfl, h4 xs q⟩
section
variable {K : PySem.W.Frag} {σ : L2.St} {H : Hp} {a : Addr} {vs : List V} {g : TG} {tb : TS} {D : Ends} {c : Int} {R : It → Hp → Prop} {ta : TA} {xs : List V}
theorem for_eS (e : H a = some (.lst vs)) (Pv : Nat → L2.St → Hp → Prop) (h0 : Pv 0 σ H) (hG : ∀ i σ' H', Pv i σ' H' → ∀ o, H a = some o → H' a = some o)
    (hs : ∀ i x σ' H' T H2, vs[i]? = some x → Pv i σ' H' → H' T = none → H2 T = some (.tup [.int (c + (i : Nat)), x]) → Kp [] H' H2 → g (.ref T) σ' H2 fun σ2 H3 => tb { D with nx := Pv (i + 1), ct := Pv (i + 1), bk := D.nx } σ2 H3) (hd : ∀ σ' H', Pv vs.length σ' H' → D.nx σ' H') :
    ∃ W : Nat → Nat → L2.St → Hp → Prop, (∃ m, W 0 m σ H) ∧ ∀ i m σ H, W i m σ H →
      ((IteS K a c).stop i H ∧ D.nx σ H) ∨ ((IteS K a c).go i H ∧ ∃ N : L2.St → Hp → Prop, (∀ σ' H', N σ' H' → ∃ m', m' < m ∧ W (i + 1) m' σ' H') ∧ ∀ x H', (IteS K a c).yld i H x H' → g x σ H' fun σ2 H2 => tb { D with nx := N, ct := N, bk := D.nx } σ2 H2) :=
  for_it (walk_enumS (xs := vs)) Pv h0 (fun i σ' H' _ p => SqL.of (hG i σ' H' p _ e)) (fun i x σ' H1 H2 hi p y => by
    obtain ⟨T, x1, x2, rfl, f, rfl, e1, e2⟩ := y
    cases Option.some.inj e1
    exact hs i x2 σ' H1 T _ e2 p f upd_same (Kp.refl.new f)) hd
theorem s_ienS (h : ta σ H fun vs H1 => ∃ a xs c, vs = [.ref a, .int c] ∧ SqL K H1 a xs ∧ (-(2 ^ 62) ≤ c ∧ c < 2 ^ 62) ∧ R (IteS K a c) H1) : iEnumS K ta σ H R := h
theorem s_eS {S : Addr → Int → Prop} (h : H a = some (.lst xs)) (b : -(2 ^ 62) ≤ c ∧ c < 2 ^ 62) (q : S a c) : ∃ a' xs' c', [V.ref a, V.int c] = [.ref a', .int c'] ∧ SqL K H a' xs' ∧ (-(2 ^ 62) ≤ c' ∧ c' < 2 ^ 62) ∧ S a' c' := ⟨a, xs, c, rfl, SqL.of h, b, q⟩
end
end U

namespace U
open PySem L2 PySem.Spec PyProof.Rows
/-! texts that are joined, and split again -/
def jl (c : Nat) : List (List Nat) → List Nat
  | [] => []
  | [w] => w
  | w :: v :: r => w ++ c :: jl c (v :: r)
theorem app_inj {c : Nat} : ∀ {a b x y : List Nat}, c ∉ a → c ∉ b → a ++ c :: x = b ++ c :: y → a = b ∧ x = y
  | [], [], _, _, _, _, h => ⟨rfl, by simpa using h⟩
  | [], b :: bs, _, _, _, hb, h => by
    simp only [List.nil_append, List.cons_append, List.cons.injEq] at h
    exact (hb (by rw [h.1]; exact List.mem_cons_self)).elim
  | a :: as, [], _, _, ha, _, h => by
    simp only [List.nil_append, List.cons_append, List.cons.injEq] at h
    exact (ha (by rw [← h.1]; exact List.mem_cons_self)).elim
  | a :: as, b :: bs, x, y, ha, hb, h => by
    simp only [List.cons_append, List.cons.injEq] at h
    obtain ⟨h1, h2⟩ := app_inj (fun m => ha (List.mem_cons_of_mem _ m)) (fun m => hb (List.mem_cons_of_mem _ m)) h.2
    exact ⟨by rw [h.1, h1], h2⟩
theorem jl_inj {c : Nat} : ∀ {as bs : List (List Nat)}, as ≠ [] → bs ≠ [] → (∀ a ∈ as, c ∉ a) → (∀ b ∈ bs, c ∉ b) → jl c as = jl c bs → as = bs
  | [], _, h, _, _, _, _ => (h rfl).elim
  | _ :: _, [], _, h, _, _, _ => (h rfl).elim
  | [a], [b], _, _, _, _, h => by rw [show a = b from h]
  | [a], b :: b' :: r, _, _, ha, _, h => by
    have h : a = b ++ c :: jl c (b' :: r) := h
    exact (ha a List.mem_cons_self (by rw [h]; simp)).elim
  | a :: a' :: r, [b], _, _, _, hb, h => by
    have h : a ++ c :: jl c (a' :: r) = b := h
    exact (hb b List.mem_cons_self (by rw [← h]; simp)).elim
  | a :: a' :: r, b :: b' :: s, _, _, ha, hb, h => by
    have h : a ++ c :: jl c (a' :: r) = b ++ c :: jl c (b' :: s) := h
    obtain ⟨h1, h2⟩ := app_inj (ha a List.mem_cons_self) (hb b List.mem_cons_self) h
    rw [h1, jl_inj (by simp) (by simp) (fun x m => ha x (List.mem_cons_of_mem _ m)) (fun x m => hb x (List.mem_cons_of_mem _ m)) h2]
theorem join_jl (c : Nat) : ∀ ws : List Str, (Str.join ⟨#[c]⟩ ws).cps.toList = jl c (ws.map fun w => w.cps.toList)
  | [] => rfl
  | [w] => rfl
  | w :: v :: r => by
    have ih := join_jl c (v :: r)
    have e : Str.join ⟨#[c]⟩ (w :: v :: r) = w ++ ⟨#[c]⟩ ++ Str.join ⟨#[c]⟩ (v :: r) := rfl
    rw [e, Str.cps_append, Str.cps_append, Array.toList_append, Array.toList_append, ih]
    show (w.cps.toList ++ [c]) ++ _ = w.cps.toList ++ c :: _
    rw [List.append_assoc]
    rfl
theorem tj (y : Str) (l : List Str) : Txt.join y l = Str.join y l := StrLaws.glued_eq_join y l
theorem split_join {c : Nat} {ws : List Str} (hne : ws ≠ []) (h : ∀ w ∈ ws, c ∉ w.cps.toList) : Txt.split (Txt.join ⟨#[c]⟩ ws) ⟨#[c]⟩ = ws := by
  rw [tj]
  generalize hx : Str.join ⟨#[c]⟩ ws = x
  have h1 : Str.join ⟨#[c]⟩ (Txt.split x ⟨#[c]⟩) = Str.join ⟨#[c]⟩ ws := by rw [StrLaws.join_split, hx]
  have h2 := congrArg (fun z : Str => z.cps.toList) h1
  simp only [join_jl] at h2
  have h3 := jl_inj (by
    intro z
    have := PyProof.Rows.split_pos x ⟨#[c]⟩
    rw [List.map_eq_nil_iff] at z
    rw [z] at this
    simp at this) (by simpa using hne) (by
    intro a ha
    obtain ⟨p, hp, rfl⟩ := List.mem_map.mp ha
    exact StrLaws.split_free x c p hp) (by
    intro a ha
    obtain ⟨p, hp, rfl⟩ := List.mem_map.mp ha
    exact h p hp) h2
  exact (List.map_inj_right (fun a b (e : a.cps.toList = b.cps.toList) => Str.ext' (Array.toList_inj.mp e))).mp h3
theorem sp_eq : (" " : Str) = ⟨#[32]⟩ := by decide +kernel
theorem nl_eq : ("\n" : Str) = ⟨#[10]⟩ := by decide +kernel
section
variable {K : PySem.W.Frag} {σ : L2.St} {H : Hp} {Q : VK} {z sep acc y : Str} {ws : List Str} {p : Addr} {xs ys : List V} {n : Int} {v : V} {te : TE} {ts : List TE} {q : Str → Hp → Prop} {X : Cx}
theorem s_spl (h0 : (sep.length == 0) = false) (hz : z.length + 2 ≤ sizeLine) (e : Txt.split z sep = ws) (q : ∀ p H', H p = none → H' p = some (.lst (ws.map V.str)) → Kp [] H H' → Q (.ref p) H') :
    ∃ b, [V.str sep] = [V.str b] ∧ (b.length == 0) = false ∧ z.length + 2 ≤ sizeLine ∧ rNewStrs (Txt.split z b) H Q := by
  refine ⟨sep, rfl, h0, hz, ?_⟩
  rw [e]
  exact new_abs (R := fun l H' => Q (.ref l) H') q
/-! f-strings -/
def tJo (ts : List TE) : TE := fun σ H Q => tJs ts Str.empty σ H fun out H1 => Q (.str out) H1
theorem pe_jo {v1 v2 : Expr} {rest : List Expr} {pos : Pos} (h : PJ X (v1 :: v2 :: rest) ts) : PE X (.JoinedStr (v1 :: v2 :: rest) pos) (tJo ts) := pe_joined h
theorem s_jo (h : tJs ts Str.empty σ H fun out H1 => Q (.str out) H1) : tJo ts σ H Q := h
theorem s_js0 (h : q acc H) : tJs [] acc σ H q := h
theorem s_jsC (h : (acc ++ z).length ≤ sizeLine) (k : tJs ts (acc ++ z) σ H q) : tJs (tC (.str z) :: ts) acc σ H q := ⟨z, rfl, h, k⟩
def FmK (ts : List TE) (acc : Str) (σ : L2.St) (q : Str → Hp → Prop) : V → Hp → Prop := fun x H1 => (∃ y : Str, x = .str y ∧ y.length ≤ sizeLine ∧ ∃ y', V.str y = .str y' ∧ (acc ++ y').length ≤ sizeLine ∧ tJs ts (acc ++ y') σ H1 q) ∨
  ∃ i : Int, x = .int i ∧ i.natAbs.log2 < 1920 ∧ ∃ y', V.str (toString i) = .str y' ∧ (acc ++ y').length ≤ sizeLine ∧ tJs ts (acc ++ y') σ H1 q
theorem s_jsF (h : te σ H (FmK ts acc σ q)) : tJs (tFmt te :: ts) acc σ H q := h
theorem s_fmS (h : y.length ≤ sizeLine) (h2 : (acc ++ y).length ≤ sizeLine) (k : tJs ts (acc ++ y) σ H q) : FmK ts acc σ q (.str y) H := Or.inl ⟨y, rfl, h, y, rfl, h2, k⟩
theorem s_fmI (h : n.natAbs.log2 < 1920) (h2 : (acc ++ (toString n : Str)).length ≤ sizeLine) (k : tJs ts (acc ++ (toString n : Str)) σ H q) : FmK ts acc σ q (.int n) H := Or.inr ⟨n, rfl, h, _, rfl, h2, k⟩
/-! tuples of the module's top -/
structure KT (K : PySem.W.Frag) (a : Addr) (xs : List V) : Prop where
  ex : ∃ (o : Obj) (its : Array Value) (n : Nat), K.lookup a = some o ∧ (o.cls = .type "tuple" ∧ o.dict = none) ∧ o.data = .seq its n ∧ its.size ≤ sizeLine ∧ Vals xs its.toList
theorem KT.mk' {a : Addr} {o : Obj} (l : K.lookup a = some o) (h : (o.cls = .type "tuple" ∧ o.dict = none) ∧ ∃ (its : Array Value) (n : Nat), o.data = .seq its n ∧ its.size ≤ sizeLine ∧ Vals xs its.toList) : KT K a xs := by
  obtain ⟨h1, its, n, h2, h3, h4⟩ := h
  exact ⟨o, its, n, l, h1, h2, h3, h4⟩
theorem KT.sq (h : KT K p xs) : SqT K H p xs := by
  obtain ⟨o, its, n, l, h1, h2, h3, h4⟩ := h.ex
  exact Or.inr ⟨o, its, n, l, h1.1, h2, h3, h4⟩
theorem s_ixK (h : KT K p xs) (ha : atI xs n = some v) (q : Q v H) : rIx K (.ref p) (.int n) H Q := Or.inr (Or.inl ⟨p, xs, n, v, rfl, rfl, h.sq, ha, q⟩)
theorem s_tyK {R : Prop} (h : KT K p xs) (q : R) : tyV K "tuple" (.ref p) H ∧ R := by
  obtain ⟨o, its, n, l, h1, h2, h3, h4⟩ := h.ex
  exact ⟨Or.inr (Or.inl ⟨rfl, o, l, h1.1, h1.2⟩), q⟩
def rTIx (K : PySem.W.Frag) : V → List V → Hp → VK → Prop := fun x xs H Q => ∃ p, ∃ ys : List Str, ∃ z j, x = .ref p ∧ xs = [.str z] ∧ SqT K H p (ys.map V.str) ∧ ys[j]? = some z ∧ (∀ m, m < j → ys[m]? ≠ some z) ∧ Q (.int (j : Nat)) H
theorem mt_tix (hK : X.K = K) : MtR X "tuple.index" (rTIx K) := hK ▸ mt_tup_index
theorem s_tix {zs : List Str} {j : Nat} (h : KT K p (zs.map V.str)) (e : zs[j]? = some z) (nd : ∀ m, m < j → zs[m]? ≠ some z) (q : Q (.int (j : Nat)) H) : rTIx K (.ref p) [.str z] H Q := ⟨p, zs, z, j, rfl, rfl, h.sq, e, nd, q⟩
theorem s_ext {l b : Addr} (hl : H l = some (.lst xs)) (hb : H b = some (.lst ys)) (hz : xs.length + ys.length ≤ sizeLine) (q : ∀ H', H' l = some (.lst (xs ++ ys)) → Kp [l] H H' → Q .non H') : rExtend (.ref l) [.ref b] H Q :=
  ⟨l, b, xs, ys, rfl, rfl, hl, hb, hz, put_abs hl rfl (R := fun H' => Q .non H') q⟩
def uIntS : List V → Hp → VK → Prop := fun xs H Q => ∃ a n, xs = [.str a] ∧ PySem.intText? a = some n ∧ a.length ≤ 640 ∧ Q (.int n) H
theorem c_intS : CallR X (.type "int") uIntS := call_int_str
theorem s_intS (e : PySem.intText? z = some n) (h : z.length ≤ 640) (q : Q (.int n) H) : uIntS [.str z] H Q := ⟨z, n, rfl, e, h, q⟩
end
end U

namespace U
open PySem L2 PySem.Spec PyProof.Rows
section
variable {K : PySem.W.Frag} {H : Hp} {Q : VK} {p : Addr} {y : V} {d z : PyData} {ds : List PyData} {j : Nat} {X : Cx} {k : Nat} {ng : Bool}
/-- data in a list of data -/
theorem mt_ixD (hK : X.K = K) (hr : Room k X.A) : MtR X "list.index" (rIndexD K) := hK ▸ mt_indexD (by have := hr.un; omega)
theorem s_ixD (hl : Dn K H (.ref p) (.list ds)) (hy : Dn K H y d) (sl : SeqAt.shaped (.list ds) = true) (sd : SeqAt.shaped d = true) (e : ds[j]? = some z) (ez : PyData.eqv z d = true) (no : ∀ (m : Nat) (z' : PyData), m < j → ds[m]? = some z' → PyData.eqv z' d = false) (q : Q (.int (j : Nat)) H) : rIndexD K (.ref p) [y] H Q :=
  ⟨p, y, d, ds, j, z, rfl, rfl, hl.dp (shp sl), hy.dp (shp sd), sl, sd, e, ez, no, q⟩
theorem s_inD (hl : Dn K H (.ref p) (.list ds)) (hy : Dn K H y d) (sl : SeqAt.shaped (.list ds) = true) (sd : SeqAt.shaped d = true) (q : Q (.bl (ds.any fun z => PyData.eqv z d)) H) : uInX K false y (.ref p) H Q :=
  Or.inr (Or.inr ⟨d, ds, hy.dp (shp sd), hl.dp (shp sl), sd, sl, q⟩)
end
/-! texts are put together -/
theorem sa (a b c : Str) : a ++ b ++ c = a ++ (b ++ c) := Str.ext' (by simp [Str.cps_append])
theorem sj1 (a : Str) : Txt.join " " [a] = a := by rw [tj]; rfl
theorem sj2 (a b : Str) : Txt.join " " [a, b] = a ++ " " ++ b := by rw [tj]; rfl
theorem sj3 (a b c : Str) : Txt.join " " [a, b, c] = a ++ " " ++ (b ++ " " ++ c) := by rw [tj]; rfl
theorem sj4 (a b c d : Str) : Txt.join " " [a, b, c, d] = a ++ " " ++ (b ++ " " ++ (c ++ " " ++ d)) := by rw [tj]; rfl
theorem e_app (a : Str) : Str.empty ++ a = a := Str.ext' (by simp [Str.cps_append, Str.empty])
theorem join_len {a : Str} {ws : List Str} {n : Nat} (h : ∀ w ∈ ws, w.length ≤ n) : (Txt.join a ws).length ≤ ws.length * (n + a.length) := by
  rw [tj]
  refine Nat.le_trans (StrLaws.join_length_le a ws) ?_
  have : (ws.map (·.length)).sum ≤ ws.length * n := by
    induction ws with
    | nil => simp
    | cons w ws ih =>
      have h1 := h w List.mem_cons_self
      have h2 := ih fun x hx => h x (List.mem_cons_of_mem _ hx)
      rw [List.map_cons, List.sum_cons, List.length_cons, Nat.succ_mul]
      omega
  rw [Nat.mul_add]
  omega
theorem join_mem {c : Nat} {a : Str} : ∀ {ws : List Str}, c ∈ (Txt.join a ws).cps.toList → c ∈ a.cps.toList ∨ ∃ w ∈ ws, c ∈ w.cps.toList
  | [], h => by rw [tj] at h; simp [Str.join, Str.empty] at h
  | [w], h => by rw [tj] at h; exact Or.inr ⟨w, List.mem_cons_self, h⟩
  | w :: v :: r, h => by
    have e : Txt.join a (w :: v :: r) = w ++ a ++ Txt.join a (v :: r) := by rw [tj, tj]; rfl
    rw [e, Str.cps_append, Str.cps_append, Array.toList_append, Array.toList_append, List.mem_append, List.mem_append] at h
    rcases h with (h | h) | h
    · exact Or.inr ⟨w, List.mem_cons_self, h⟩
    · exact Or.inl h
    · rcases join_mem h with h | ⟨x, hx, h⟩
      · exact Or.inl h
      · exact Or.inr ⟨x, List.mem_cons_of_mem _ hx, h⟩
/-- what is said of a class whose instances isinstance is asked of -/
structure IsC (K : PySem.W.Frag) (C : Addr) : Prop where
  cl : Cls K C
  ha : PySem.W.findIn K (.ref C) "__class__" = some (some (.builtin "object.__class__"))
  hn : PySem.W.specialIn K (.builtin "object.__class__") "__get__" = some (some (.builtin "getset_descriptor.__get__"))
  tk : PySem.W.takesIn K (.builtin "object.__class__") = some true
  hm : PySem.W.mroIn K C (.type "object") = some true
theorem s_isO {K : PySem.W.Frag} {H : Hp} {Q : VK} {p C C2 dx : Addr} {fs : List (Str × V)} {b : Bool} (h : H p = some (.ins C dx fs)) (c : IsC K C) (ki : PySem.W.kitOne K (.ref C) (.ref C2) = some b) (q : Q (.bl b) H) : rIsi K [.ref p, .ref C2] H Q :=
  ⟨.ref p, .ref C2, .ref C, .ref C2, b, rfl, .own C2, .base (.ins h c.cl c.ha c.hn c.tk c.hm), ki, q⟩
section
variable {X : Cx} {K : PySem.W.Frag} {T id : String} {name : Str} {r : V → List V → Hp → VK → Prop} {o e : Expr} {es : List Expr} {to : TE} {t : TA} {apos cpos : Pos}
theorem pe_bmK (hK : X.K = K) (pa : PlainAttrs T) (slot : Slot T name id) (hty : typeOf (.builtin id) = pure (.type "method_descriptor")) (hm : MtR X id r) (ho : PE X o to) (ha : PA X (e :: es) t)
    (hbase : attributeBase o name X.env (eval o X.env) = eval o X.env := by rfl)
    (hfew : ((backTo cpos (starEach (e :: es) X.env)).all (fun x => !x.1) && (backToKw cpos (keywordEach [] X.env)).all (fun x => x.1.isSome)
      && decide ((e :: es).length + ([] : List Keyword).length + (if ([] : List Keyword).isEmpty then 0 else 1) < 30)) = true := by rfl)
    (hline : (apos.endLine == cpos.line) = true := by rfl) (hs : starEach (e :: es) X.env = (false, eval e X.env) :: starEach es X.env := by rfl) (hplain : (backTo cpos (starEach es X.env)).any (·.1) = false := by rfl) :
    PE X (.Call (.Attribute o name apos) (e :: es) [] cpos) (tBM K T r to t) := hK ▸ pe_bm pa slot hty hm ho ha hbase hfew hline hs hplain
theorem pe_bm0K (hK : X.K = K) (pa : PlainAttrs T) (slot : Slot T name id) (hty : typeOf (.builtin id) = pure (.type "method_descriptor")) (hm : MtR X id r) (ho : PE X o to)
    (hbase : attributeBase o name X.env (eval o X.env) = eval o X.env := by rfl) (hline : (apos.endLine == cpos.line) = true := by rfl) : PE X (.Call (.Attribute o name apos) [] [] cpos) (tBM0 K T r to) := hK ▸ pe_bm0 pa slot hty hm ho hbase hline
end
end U

local macro_rules | `(tactic| walk_at "b1") => `(tactic| first
  | with_reducible refine' U.s_asg ?_
  | ((with_reducible refine' U.s_nameR ?une ?_); (case une => (dsimp only [List.set]; try exact rfl)))
  | with_reducible refine' U.s_name ?_
  | with_reducible refine' U.s_ret ?_
  | with_reducible refine' U.s_next ?_
  | ((with_reducible show L2.Ends.nx _ _ _); dsimp only)
  | ((with_reducible show L2.Ends.rt _ _ _); dsimp only)
  | ((with_reducible show L2.Ends.bk _ _ _); dsimp only)
  | ((with_reducible show L2.Ends.ct _ _ _); dsimp only)
  | with_reducible refine' U.s_brk ?_
  | with_reducible refine' U.s_cnt ?_
  | with_reducible refine' U.s_retN ?_
  | with_reducible refine' U.s_drop ?_
  | with_reducible refine' U.s_op ?_
  | with_reducible refine' U.s_c ?_
  | ((with_reducible refine' U.s_var ?uvh ?_); (case uvh => exact rfl))
  | with_reducible refine' U.s_un ?_
  | with_reducible refine' U.s_neg ?_
  | with_reducible refine' U.s_test ?_
  | with_reducible refine' U.s_B ?_
  | with_reducible refine' U.s_bl ?_
  | with_reducible refine' U.s_not ?_
  | with_reducible refine' U.s_notV ?_
  | with_reducible refine' U.s_if ?_
  | with_reducible refine' U.s_add ?_
  | with_reducible refine' U.s_sub ?_
  | with_reducible refine' U.s_lt ?_
  | with_reducible refine' U.s_le ?_
  | with_reducible refine' U.s_gt ?_
  | with_reducible refine' U.s_ge ?_
  | with_reducible refine' U.s_eqi ?_
  | with_reducible refine' U.s_nei ?_
  | with_reducible refine' U.s_eqs ?_
  | with_reducible refine' U.s_nes ?_
  | with_reducible refine' U.s_in1 ?_
  | with_reducible refine' U.s_notin1 ?_
  | with_reducible refine' U.s_is ?_
  | with_reducible refine' U.s_isb ?_
  | with_reducible refine' U.s_isnot ?_
  | with_reducible refine' U.s_nil ?_
  | with_reducible refine' U.s_cons ?_
  | with_reducible refine' U.s_lst ?_
  | with_reducible refine' U.s_tup ?_
  | with_reducible refine' U.s_cb ?_
  | with_reducible refine' U.s_go ?_
  | with_reducible refine' U.s_co ?_
  | with_reducible refine' U.s_mt ?_
  | with_reducible refine' U.s_nw ?_
  | with_reducible refine' U.s_nwD ?_
  | with_reducible refine' U.s_fd ?_
  | with_reducible refine' U.s_sd ?_
  | with_reducible refine' U.s_fa ?_
  | with_reducible refine' U.s_radd ?_
  | with_reducible refine' U.s_rsub ?_
  | with_reducible refine' U.s_xe ?_
  | with_reducible refine' U.s_se ?_
  | with_reducible refine' U.s_os ?_
  | with_reducible refine' U.s_rz ?_
  | with_reducible refine' U.s_try ?_
  | with_reducible refine' U.s_dg ?_
  | with_reducible refine' U.s_dn ?_
  | with_reducible refine' U.s_pop ?_
  | with_reducible refine' U.s_bm ?_
  | with_reducible refine' U.s_gn ?_
  | with_reducible refine' U.s_tl ?_
  | with_reducible refine' U.s_gc ?_
  | with_reducible refine' U.s_rng2 ?_
  | ((with_reducible refine' U.s_gtu ?uth ?utl ?_); (case uth => walk_at "gt"); (case utl => exact rfl))
  | ((with_reducible refine' U.s_glu ?uth ?utl ?_); (case uth => walk_at "g"); (case utl => exact rfl))
  | ((with_reducible refine' U.s_ixt ?uih ?uia ?_); (case uih => walk_at "gt"); (case uia => exact rfl))
  | with_reducible refine' U.s_bm0 ?_
  | with_reducible refine' U.s_tys ?_
  | with_reducible refine' U.s_pnil ?_
  | with_reducible refine' U.s_pcons ?_
  | ((with_reducible refine' U.s_tyl ?uth ?_); (case uth => walk_at "g"))
  | ((with_reducible refine' U.s_tyd ?uth ?_); (case uth => walk_at "g"))
  | with_reducible refine' U.s_max2 ?_
  | with_reducible refine' U.s_min2 ?_
  | with_reducible refine' U.s_sub2 ?_
  | with_reducible refine' U.s_sl ?_
  | with_reducible refine' U.s_nopart ?_
  | with_reducible refine' U.s_part ?_
  | with_reducible refine' U.s_int ?_
  | with_reducible refine' U.s_m1 ?_
  | with_reducible refine' U.s_m0 ?_
  | with_reducible refine' U.s_isstr ?_
  | with_reducible refine' U.s_rng1 ?_
  | with_reducible refine' U.s_ilist ?_
  | with_reducible refine' U.s_istr ?_
  | with_reducible refine' U.s_lc ?_
  | with_reducible refine' U.s_for ?_
  | with_reducible refine' U.s_istr1 ?_
  | with_reducible refine' U.s_yes ?_
  | with_reducible refine' U.s_itt ?_
  | with_reducible refine' U.s_itf ?_
  | ((with_reducible refine' U.s_ixl ?uih ?uia ?_); (case uih => walk_at "g"); (case uia => exact rfl))
  | ((with_reducible refine' U.s_ixl ?uih ?uia ?_); (case uih => exact L2.upd_same); (case uia => exact rfl))
  | ((with_reducible refine' U.s_mod ?umh ?_); (case umh => first | decide | assumption | omega))
  | ((with_reducible refine' U.s_isInt ?uty ?_); (case uty => first | assumption | exact U.TyN.int | exact U.TyN.str | exact U.TyN.non | exact U.TyN.bl | exact U.TyN.lst (by walk_at "g") | exact U.TyN.tup (by walk_at "gt") | exact U.TyN.dic (by walk_at "g")))
  | ((with_reducible refine' U.s_isBool ?uty ?_); (case uty => first | assumption | exact U.TyN.int | exact U.TyN.str | exact U.TyN.non | exact U.TyN.bl | exact U.TyN.lst (by walk_at "g") | exact U.TyN.tup (by walk_at "gt") | exact U.TyN.dic (by walk_at "g")))
  | ((with_reducible refine' U.s_isStr ?uty ?_); (case uty => first | assumption | exact U.TyN.int | exact U.TyN.str | exact U.TyN.non | exact U.TyN.bl | exact U.TyN.lst (by walk_at "g") | exact U.TyN.tup (by walk_at "gt") | exact U.TyN.dic (by walk_at "g")))
  | ((with_reducible refine' U.s_isList ?uty ?_); (case uty => first | assumption | exact U.TyN.int | exact U.TyN.str | exact U.TyN.non | exact U.TyN.bl | exact U.TyN.lst (by walk_at "g") | exact U.TyN.tup (by walk_at "gt") | exact U.TyN.dic (by walk_at "g")))
  | ((with_reducible refine' U.s_isTup ?uty ?_); (case uty => first | assumption | exact U.TyN.int | exact U.TyN.str | exact U.TyN.non | exact U.TyN.bl | exact U.TyN.lst (by walk_at "g") | exact U.TyN.tup (by walk_at "gt") | exact U.TyN.dic (by walk_at "g")))
  | ((with_reducible refine' U.s_isDict ?uty ?_); (case uty => first | assumption | exact U.TyN.int | exact U.TyN.str | exact U.TyN.non | exact U.TyN.bl | exact U.TyN.lst (by walk_at "g") | exact U.TyN.tup (by walk_at "gt") | exact U.TyN.dic (by walk_at "g")))
  | ((with_reducible refine' U.s_itT ?uit ?_); (case uit => exact rfl))
  | ((with_reducible refine' U.s_itF ?uit ?_); (case uit => exact rfl))
  | ((with_reducible refine' U.s_itT ?uit ?_); (case uit => decide +kernel))
  | ((with_reducible refine' U.s_itF ?uit ?_); (case uit => decide +kernel))
  | ((with_reducible refine' U.s_mul ?umh ?_); (case umh => first | exact U.cmulL (by omega) (by omega) | exact U.cmulR (by omega) (by omega)))
  | ((with_reducible refine' U.s_pow ?umh ?ume ?_); (case umh => exact U.cpow (by omega) (by omega) (by omega) (by omega)); (case ume => simp only [Int.reduceToNat, Int.reducePow]; exact rfl))
  | ((with_reducible refine' U.s_div ?umh ?_); (case umh => exact U.cdiv (by omega) (by omega)))
  | ((with_reducible refine' U.s_dgs ?uih ?uia ?_); (case uih => walk_at "g"); (case uia => exact rfl))
  | ((with_reducible refine' U.s_dgs ?uih ?uia ?_); (case uih => walk_at "g"); (case uia => decide +kernel))
  | with_reducible refine' U.s_par ?_
  | with_reducible refine' U.s_two ?_
  | with_reducible refine' U.s_iseq ?_
  | with_reducible refine' U.s_itup ?_
  | with_reducible refine' U.s_ienT ?_
  | with_reducible refine' U.s_ienL ?_
  | with_reducible refine' U.s_ienS ?_
  | with_reducible refine' U.s_jo ?_
  | with_reducible refine' U.s_jsF ?_
  | with_reducible refine' U.s_abs ?_
  | ((with_reducible refine' U.s_inS ?uih ?_); (case uih => walk_at "g"))
  | ((with_reducible refine' U.s_ninS ?uih ?_); (case uih => walk_at "g"))
  | ((with_reducible refine' U.s_itp ?uih ?_); (case uih => walk_at "gt"))
  | ((with_reducible refine' U.s_eT ?uih ?_); (case uih => walk_at "gt"))
  | ((with_reducible refine' U.s_eL ?uih ?_); (case uih => walk_at "g")))
local macro_rules | `(tactic| walk_at "u1") => `(tactic| first
  | walk_at "b1"
  | with_reducible refine' U.s_seq ?_
  | with_reducible refine' U.s_ifS ?_
  | with_reducible refine' U.s_and ?_
  | with_reducible refine' U.s_or ?_
  | with_reducible refine' U.s_andV ?_
  | with_reducible refine' U.s_orV ?_
  | with_reducible refine' U.s_chain ?_)
local macro_rules | `(tactic| walk_at "v1") => `(tactic| first
  | walk_at "b1"
  | with_reducible refine' U.s_seq ?_
  | with_reducible refine' U.s_ifS ?_)
local macro_rules | `(tactic| walk_at "w1") => `(tactic| first
  | walk_at "b1"
  | with_reducible refine' U.s_seq ?_)
local macro_rules | `(tactic| walk_at "s1") => `(tactic| first
  | walk_at "b1")
local macro_rules | `(tactic| walk_at "u") => `(tactic| repeat (first | walk_at "u1" | walk_at "u2"))
local macro_rules | `(tactic| walk_at "v") => `(tactic| repeat (first | walk_at "v1" | walk_at "u2"))
local macro_rules | `(tactic| walk_at "w") => `(tactic| repeat (first | walk_at "w1" | walk_at "u2"))
local macro_rules | `(tactic| walk_at "s") => `(tactic| repeat (first | walk_at "s1" | walk_at "u2"))
local macro_rules | `(tactic| walk_at "na") => `(tactic| first
  | ((with_reducible refine' U.s_newl (U.zle ?unz) ?_); (case unz => simp))
  | ((with_reducible refine' U.s_newt (U.zle ?unz) ?_); (case unz => simp)))
local macro_rules | `(tactic| walk_at "g") => `(tactic| first
  | assumption
  | ((refine' U.Kp.get ?ugk ?ugm ?ugn); (case ugk => assumption); (case ugm => walk_at "g"); (case ugn => walk_at "n"))
  | ((refine' U.Box.kpn ?ugm ?ugk ?ugn); (case ugk => assumption); (case ugm => walk_at "g"); (case ugn => walk_at "n"))
  | ((refine' U.SqL.kpn ?ugk ?ugm ?ugn); (case ugk => assumption); (case ugm => walk_at "g"); (case ugn => walk_at "n"))
  | ((refine' L2.SqL.of ?ugm); (case ugm => walk_at "g"))
  | ((refine' U.Dx.kpn ?ugm ?ugk ?ugn); (case ugk => assumption); (case ugm => walk_at "g"); (case ugn => walk_at "q"))
  | walk_at "g2")
local macro_rules | `(tactic| walk_at "gt") => `(tactic| first
  | assumption
  | ((refine' U.Kp.tgt ?ugk ?ugm); (case ugk => assumption); (case ugm => walk_at "gt"))
  | fail)
local macro_rules | `(tactic| walk_at "g2") => `(tactic| fail)
local macro_rules | `(tactic| walk_at "n") => `(tactic| first
  | exact U.nm0
  | ((refine' U.nmc ?unh ?unr); (case unh => walk_at "ne"); (case unr => walk_at "n"))
  | assumption
  | fail)
local macro_rules | `(tactic| walk_at "ne") => `(tactic| first
  | assumption
  | exact Ne.symm (by assumption)
  | ((refine' U.Th.ne ?una ?unf); (case unf => assumption); (case una => walk_at "t"))
  | ((refine' Ne.symm (U.Th.ne ?una ?unf)); (case unf => assumption); (case una => walk_at "t"))
  | ((refine' U.Th.nk ?una ?unb ?unc); (case una => walk_at "t0"); (case unb => walk_at "t"); (case unc => exact rfl))
  | ((refine' Ne.symm (U.Th.nk ?una ?unb ?unc)); (case una => walk_at "t0"); (case unb => walk_at "t"); (case unc => exact rfl))
  | fail)
local macro_rules | `(tactic| walk_at "t0") => `(tactic| first
  | exact U.Th.lst (by assumption)
  | exact U.Th.tup (by assumption)
  | exact U.Th.dK (by assumption)
  | exact U.Th.ins (by assumption)
  | exact U.Th.xd (by assumption)
  | exact U.Box.th (by assumption)
  | walk_at "t2")
local macro_rules | `(tactic| walk_at "t2") => `(tactic| fail)
local macro_rules | `(tactic| walk_at "t") => `(tactic| first
  | walk_at "t0"
  | ((refine' U.Th.kp ?ugk ?ugm); (case ugk => assumption); (case ugm => walk_at "t"))
  | fail)
local macro_rules | `(tactic| walk_at "k") => `(tactic| first
  | exact U.Kp.refl
  | assumption
  | ((refine' U.Kp.step ?ukm ?ukk ?ukq); (case ukk => assumption); (case ukm => walk_at "k"); (case ukq => walk_at "q"))
  | fail)
local macro_rules | `(tactic| walk_at "q") => `(tactic| first
  | exact U.al0
  | ((refine' U.alc ?uqh ?uqr); (case uqh => first | (apply Or.inl; simp; done) | (apply Or.inr; walk_at "f")); (case uqr => walk_at "q"))
  | fail)
local macro_rules | `(tactic| walk_at "f") => `(tactic| first
  | assumption
  | exact U.Fz.f (by assumption)
  | ((refine' U.Dm.fr ?ufa ?ufm); (case ufa => assumption); (case ufm => walk_at "m"))
  | fail)
local macro_rules | `(tactic| walk_at "m") => `(tactic| first
  | exact U.Dm.refl
  | ((refine' U.Dm.step ?umm ?umk); (case umk => assumption); (case umm => walk_at "m"))
  | fail)
local macro_rules | `(tactic| walk_at "ud") => `(tactic| first
  | refine U.s_uds (by walk_at "g") (U.zlt (by simp)) rfl ?_
  | refine U.s_udi (by walk_at "g") (U.zlt (by simp)) rfl ?_
  | refine U.s_ul (by walk_at "g") rfl rfl ?_)

namespace K07
open PySem L2 U
def top (i : Nat) : Stmt := PySem.Challenge.pw_onestaff_k07_lines_as_texts.main.body.getD i (.Pass ⟨0, 0, 0, 0⟩)
abbrev s_NoName_init : Stmt := inClass (top 3) 0
abbrev N_NoName_init : List Str := ["self", "found"]
theorem sc_NoName_init : FnScope N_NoName_init ["self", "found"] (defScope s_NoName_init) := ⟨rfl, rfl, rfl, by decide +kernel, rfl, by decide +kernel, by decide +kernel⟩
theorem st_NoName_init {v0 v1 : V} : L2.start N_NoName_init [v0, v1] = [some v0, some v1] := rfl
abbrev s_NoPlace_init : Stmt := inClass (top 4) 0
abbrev N_NoPlace_init : List Str := ["self", "found"]
theorem sc_NoPlace_init : FnScope N_NoPlace_init ["self", "found"] (defScope s_NoPlace_init) := ⟨rfl, rfl, rfl, by decide +kernel, rfl, by decide +kernel, by decide +kernel⟩
theorem st_NoPlace_init {v0 v1 : V} : L2.start N_NoPlace_init [v0, v1] = [some v0, some v1] := rfl
abbrev s_NoStretch_init : Stmt := inClass (top 5) 0
abbrev N_NoStretch_init : List Str := ["self", "found"]
theorem sc_NoStretch_init : FnScope N_NoStretch_init ["self", "found"] (defScope s_NoStretch_init) := ⟨rfl, rfl, rfl, by decide +kernel, rfl, by decide +kernel, by decide +kernel⟩
theorem st_NoStretch_init {v0 v1 : V} : L2.start N_NoStretch_init [v0, v1] = [some v0, some v1] := rfl
abbrev s_NoLong_init : Stmt := inClass (top 6) 0
abbrev N_NoLong_init : List Str := ["self", "found"]
theorem sc_NoLong_init : FnScope N_NoLong_init ["self", "found"] (defScope s_NoLong_init) := ⟨rfl, rfl, rfl, by decide +kernel, rfl, by decide +kernel, by decide +kernel⟩
theorem st_NoLong_init {v0 v1 : V} : L2.start N_NoLong_init [v0, v1] = [some v0, some v1] := rfl
abbrev s_NoPlaces_init : Stmt := inClass (top 7) 0
abbrev N_NoPlaces_init : List Str := ["self", "found"]
theorem sc_NoPlaces_init : FnScope N_NoPlaces_init ["self", "found"] (defScope s_NoPlaces_init) := ⟨rfl, rfl, rfl, by decide +kernel, rfl, by decide +kernel, by decide +kernel⟩
theorem st_NoPlaces_init {v0 v1 : V} : L2.start N_NoPlaces_init [v0, v1] = [some v0, some v1] := rfl
abbrev s_NoStretches_init : Stmt := inClass (top 8) 0
abbrev N_NoStretches_init : List Str := ["self", "found"]
theorem sc_NoStretches_init : FnScope N_NoStretches_init ["self", "found"] (defScope s_NoStretches_init) := ⟨rfl, rfl, rfl, by decide +kernel, rfl, by decide +kernel, by decide +kernel⟩
theorem st_NoStretches_init {v0 v1 : V} : L2.start N_NoStretches_init [v0, v1] = [some v0, some v1] := rfl
abbrev s_NoLongs_init : Stmt := inClass (top 9) 0
abbrev N_NoLongs_init : List Str := ["self", "found"]
theorem sc_NoLongs_init : FnScope N_NoLongs_init ["self", "found"] (defScope s_NoLongs_init) := ⟨rfl, rfl, rfl, by decide +kernel, rfl, by decide +kernel, by decide +kernel⟩
theorem st_NoLongs_init {v0 v1 : V} : L2.start N_NoLongs_init [v0, v1] = [some v0, some v1] := rfl
abbrev s_NoNumber_init : Stmt := inClass (top 10) 0
abbrev N_NoNumber_init : List Str := ["self", "found"]
theorem sc_NoNumber_init : FnScope N_NoNumber_init ["self", "found"] (defScope s_NoNumber_init) := ⟨rfl, rfl, rfl, by decide +kernel, rfl, by decide +kernel, by decide +kernel⟩
theorem st_NoNumber_init {v0 v1 : V} : L2.start N_NoNumber_init [v0, v1] = [some v0, some v1] := rfl
abbrev s_Twice_init : Stmt := inClass (top 11) 0
abbrev N_Twice_init : List Str := ["self", "found"]
theorem sc_Twice_init : FnScope N_Twice_init ["self", "found"] (defScope s_Twice_init) := ⟨rfl, rfl, rfl, by decide +kernel, rfl, by decide +kernel, by decide +kernel⟩
theorem st_Twice_init {v0 v1 : V} : L2.start N_Twice_init [v0, v1] = [some v0, some v1] := rfl
abbrev s_NoText_init : Stmt := inClass (top 12) 0
abbrev N_NoText_init : List Str := ["self", "row"]
theorem sc_NoText_init : FnScope N_NoText_init ["self", "row"] (defScope s_NoText_init) := ⟨rfl, rfl, rfl, by decide +kernel, rfl, by decide +kernel, by decide +kernel⟩
theorem st_NoText_init {v0 v1 : V} : L2.start N_NoText_init [v0, v1] = [some v0, some v1] := rfl
abbrev s_is_whole : Stmt := top 16
abbrev N_is_whole : List Str := ["thing", "low", "high"]
theorem sc_is_whole : FnScope N_is_whole ["thing", "low", "high"] (defScope s_is_whole) := ⟨rfl, rfl, rfl, by decide +kernel, rfl, by decide +kernel, by decide +kernel⟩
theorem st_is_whole {v0 v1 v2 : V} : L2.start N_is_whole [v0, v1, v2] = [some v0, some v1, some v2] := rfl
abbrev s_is_name : Stmt := top 17
abbrev N_is_name : List Str := ["thing", "sign"]
theorem sc_is_name : FnScope N_is_name ["thing"] (defScope s_is_name) := ⟨rfl, rfl, rfl, by decide +kernel, rfl, by decide +kernel, by decide +kernel⟩
theorem st_is_name {v0 : V} : L2.start N_is_name [v0] = [some v0, none] := rfl
abbrev s_is_row : Stmt := top 23
abbrev N_is_row : List Str := ["thing", "size"]
theorem sc_is_row : FnScope N_is_row ["thing", "size"] (defScope s_is_row) := ⟨rfl, rfl, rfl, by decide +kernel, rfl, by decide +kernel, by decide +kernel⟩
theorem st_is_row {v0 v1 : V} : L2.start N_is_row [v0, v1] = [some v0, some v1] := rfl
abbrev s_good_places : Stmt := top 24
abbrev N_good_places : List Str := ["places", "names", "thing"]
theorem sc_good_places : FnScope N_good_places ["places"] (defScope s_good_places) := ⟨rfl, rfl, rfl, by decide +kernel, rfl, by decide +kernel, by decide +kernel⟩
theorem st_good_places {v0 : V} : L2.start N_good_places [v0] = [some v0, none, none] := rfl
abbrev s_is_stretch : Stmt := top 25
abbrev N_is_stretch : List Str := ["thing"]
theorem sc_is_stretch : FnScope N_is_stretch ["thing"] (defScope s_is_stretch) := ⟨rfl, rfl, rfl, by decide +kernel, rfl, by decide +kernel, by decide +kernel⟩
theorem st_is_stretch {v0 : V} : L2.start N_is_stretch [v0] = [some v0] := rfl
abbrev s_good_stretches : Stmt := top 26
abbrev N_good_stretches : List Str := ["stretches", "many", "thing"]
theorem sc_good_stretches : FnScope N_good_stretches ["stretches", "many"] (defScope s_good_stretches) := ⟨rfl, rfl, rfl, by decide +kernel, rfl, by decide +kernel, by decide +kernel⟩
theorem st_good_stretches {v0 v1 : V} : L2.start N_good_stretches [v0, v1] = [some v0, some v1, none] := rfl
abbrev s_is_long : Stmt := top 27
abbrev N_is_long : List Str := ["thing", "low", "high"]
theorem sc_is_long : FnScope N_is_long ["thing", "low", "high"] (defScope s_is_long) := ⟨rfl, rfl, rfl, by decide +kernel, rfl, by decide +kernel, by decide +kernel⟩
theorem st_is_long {v0 v1 v2 : V} : L2.start N_is_long [v0, v1, v2] = [some v0, some v1, some v2] := rfl
abbrev s_good_longs : Stmt := top 28
abbrev N_good_longs : List Str := ["longs", "many", "low", "thing"]
theorem sc_good_longs : FnScope N_good_longs ["longs", "many"] (defScope s_good_longs) := ⟨rfl, rfl, rfl, by decide +kernel, rfl, by decide +kernel, by decide +kernel⟩
theorem st_good_longs {v0 v1 : V} : L2.start N_good_longs [v0, v1] = [some v0, some v1, none, none] := rfl
abbrev s_Line_init : Stmt := inClass (top 29) 0
abbrev N_Line_init : List Str := ["self", "places", "stretches", "longs"]
theorem sc_Line_init : FnScope N_Line_init ["self", "places", "stretches", "longs"] (defScope s_Line_init) := ⟨rfl, rfl, rfl, by decide +kernel, rfl, by decide +kernel, by decide +kernel⟩
theorem st_Line_init {v0 v1 v2 v3 : V} : L2.start N_Line_init [v0, v1, v2, v3] = [some v0, some v1, some v2, some v3] := rfl
abbrev s_Line_names : Stmt := inClass (top 29) 1
abbrev N_Line_names : List Str := ["self", "name", "roads"]
theorem sc_Line_names : FnScope N_Line_names ["self"] (defScope s_Line_names) := ⟨rfl, rfl, rfl, by decide +kernel, rfl, by decide +kernel, by decide +kernel⟩
theorem st_Line_names {v0 : V} : L2.start N_Line_names [v0] = [some v0, none, none] := rfl
abbrev s_Line_number_of : Stmt := inClass (top 29) 2
abbrev N_Line_number_of : List Str := ["self", "name"]
theorem sc_Line_number_of : FnScope N_Line_number_of ["self", "name"] (defScope s_Line_number_of) := ⟨rfl, rfl, rfl, by decide +kernel, rfl, by decide +kernel, by decide +kernel⟩
theorem st_Line_number_of {v0 v1 : V} : L2.start N_Line_number_of [v0, v1] = [some v0, some v1] := rfl
abbrev s_Line_roads : Stmt := inClass (top 29) 3
abbrev N_Line_roads : List Str := ["self", "name"]
theorem sc_Line_roads : FnScope N_Line_roads ["self", "name"] (defScope s_Line_roads) := ⟨rfl, rfl, rfl, by decide +kernel, rfl, by decide +kernel, by decide +kernel⟩
theorem st_Line_roads {v0 v1 : V} : L2.start N_Line_roads [v0, v1] = [some v0, some v1] := rfl
abbrev s_Line_many_stretches : Stmt := inClass (top 29) 4
abbrev N_Line_many_stretches : List Str := ["self"]
theorem sc_Line_many_stretches : FnScope N_Line_many_stretches ["self"] (defScope s_Line_many_stretches) := ⟨rfl, rfl, rfl, by decide +kernel, rfl, by decide +kernel, by decide +kernel⟩
theorem st_Line_many_stretches {v0 : V} : L2.start N_Line_many_stretches [v0] = [some v0] := rfl
abbrev s_Line_need_stretch : Stmt := inClass (top 29) 5
abbrev N_Line_need_stretch : List Str := ["self", "k"]
theorem sc_Line_need_stretch : FnScope N_Line_need_stretch ["self", "k"] (defScope s_Line_need_stretch) := ⟨rfl, rfl, rfl, by decide +kernel, rfl, by decide +kernel, by decide +kernel⟩
theorem st_Line_need_stretch {v0 v1 : V} : L2.start N_Line_need_stretch [v0, v1] = [some v0, some v1] := rfl
abbrev s_Line_ends : Stmt := inClass (top 29) 6
abbrev N_Line_ends : List Str := ["self", "k"]
theorem sc_Line_ends : FnScope N_Line_ends ["self", "k"] (defScope s_Line_ends) := ⟨rfl, rfl, rfl, by decide +kernel, rfl, by decide +kernel, by decide +kernel⟩
theorem st_Line_ends {v0 v1 : V} : L2.start N_Line_ends [v0, v1] = [some v0, some v1] := rfl
abbrev s_Line_kind : Stmt := inClass (top 29) 7
abbrev N_Line_kind : List Str := ["self", "k"]
theorem sc_Line_kind : FnScope N_Line_kind ["self", "k"] (defScope s_Line_kind) := ⟨rfl, rfl, rfl, by decide +kernel, rfl, by decide +kernel, by decide +kernel⟩
theorem st_Line_kind {v0 v1 : V} : L2.start N_Line_kind [v0, v1] = [some v0, some v1] := rfl
abbrev s_Line_home : Stmt := inClass (top 29) 8
abbrev N_Line_home : List Str := ["self", "k"]
theorem sc_Line_home : FnScope N_Line_home ["self", "k"] (defScope s_Line_home) := ⟨rfl, rfl, rfl, by decide +kernel, rfl, by decide +kernel, by decide +kernel⟩
theorem st_Line_home {v0 v1 : V} : L2.start N_Line_home [v0, v1] = [some v0, some v1] := rfl
abbrev s_Line_between : Stmt := inClass (top 29) 9
abbrev N_Line_between : List Str := ["self", "one", "other", "first", "last"]
theorem sc_Line_between : FnScope N_Line_between ["self", "one", "other"] (defScope s_Line_between) := ⟨rfl, rfl, rfl, by decide +kernel, rfl, by decide +kernel, by decide +kernel⟩
theorem st_Line_between {v0 v1 v2 : V} : L2.start N_Line_between [v0, v1, v2] = [some v0, some v1, some v2, none, none] := rfl
abbrev s_Line_many_longs : Stmt := inClass (top 29) 10
abbrev N_Line_many_longs : List Str := ["self"]
theorem sc_Line_many_longs : FnScope N_Line_many_longs ["self"] (defScope s_Line_many_longs) := ⟨rfl, rfl, rfl, by decide +kernel, rfl, by decide +kernel, by decide +kernel⟩
theorem st_Line_many_longs {v0 : V} : L2.start N_Line_many_longs [v0] = [some v0] := rfl
abbrev s_Line_need_long : Stmt := inClass (top 29) 11
abbrev N_Line_need_long : List Str := ["self", "j"]
theorem sc_Line_need_long : FnScope N_Line_need_long ["self", "j"] (defScope s_Line_need_long) := ⟨rfl, rfl, rfl, by decide +kernel, rfl, by decide +kernel, by decide +kernel⟩
theorem st_Line_need_long {v0 v1 : V} : L2.start N_Line_need_long [v0, v1] = [some v0, some v1] := rfl
abbrev s_Line_long_ends : Stmt := inClass (top 29) 12
abbrev N_Line_long_ends : List Str := ["self", "j", "first", "last", "home"]
theorem sc_Line_long_ends : FnScope N_Line_long_ends ["self", "j"] (defScope s_Line_long_ends) := ⟨rfl, rfl, rfl, by decide +kernel, rfl, by decide +kernel, by decide +kernel⟩
theorem st_Line_long_ends {v0 v1 : V} : L2.start N_Line_long_ends [v0, v1] = [some v0, some v1, none, none, none] := rfl
abbrev s_Line_long_stretches : Stmt := inClass (top 29) 13
abbrev N_Line_long_stretches : List Str := ["self", "j"]
theorem sc_Line_long_stretches : FnScope N_Line_long_stretches ["self", "j"] (defScope s_Line_long_stretches) := ⟨rfl, rfl, rfl, by decide +kernel, rfl, by decide +kernel, by decide +kernel⟩
theorem st_Line_long_stretches {v0 v1 : V} : L2.start N_Line_long_stretches [v0, v1] = [some v0, some v1] := rfl
abbrev s_Line_long_home : Stmt := inClass (top 29) 14
abbrev N_Line_long_home : List Str := ["self", "j"]
theorem sc_Line_long_home : FnScope N_Line_long_home ["self", "j"] (defScope s_Line_long_home) := ⟨rfl, rfl, rfl, by decide +kernel, rfl, by decide +kernel, by decide +kernel⟩
theorem st_Line_long_home {v0 v1 : V} : L2.start N_Line_long_home [v0, v1] = [some v0, some v1] := rfl
abbrev s_Line_long_between : Stmt := inClass (top 29) 15
abbrev N_Line_long_between : List Str := ["self", "one", "other", "first", "last", "j", "row"]
theorem sc_Line_long_between : FnScope N_Line_long_between ["self", "one", "other"] (defScope s_Line_long_between) := ⟨rfl, rfl, rfl, by decide +kernel, rfl, by decide +kernel, by decide +kernel⟩
theorem st_Line_long_between {v0 v1 v2 : V} : L2.start N_Line_long_between [v0, v1, v2] = [some v0, some v1, some v2, none, none, none, none] := rfl
abbrev s_Line_long_of : Stmt := inClass (top 29) 16
abbrev N_Line_long_of : List Str := ["self", "k", "j", "row"]
theorem sc_Line_long_of : FnScope N_Line_long_of ["self", "k"] (defScope s_Line_long_of) := ⟨rfl, rfl, rfl, by decide +kernel, rfl, by decide +kernel, by decide +kernel⟩
theorem st_Line_long_of {v0 v1 : V} : L2.start N_Line_long_of [v0, v1] = [some v0, some v1, none, none] := rfl
abbrev s_Line_told : Stmt := inClass (top 29) 17
abbrev N_Line_told : List Str := ["self"]
theorem sc_Line_told : FnScope N_Line_told ["self"] (defScope s_Line_told) := ⟨rfl, rfl, rfl, by decide +kernel, rfl, by decide +kernel, by decide +kernel⟩
theorem st_Line_told {v0 : V} : L2.start N_Line_told [v0] = [some v0] := rfl
abbrev s_show_line : Stmt := top 33
abbrev N_show_line : List Str := ["line", "places", "stretches", "longs", "names", "rows", "name", "roads", "kind", "home", "first", "last"]
theorem sc_show_line : FnScope N_show_line ["line"] (defScope s_show_line) := ⟨rfl, rfl, rfl, by decide +kernel, rfl, by decide +kernel, by decide +kernel⟩
theorem st_show_line {v0 : V} : L2.start N_show_line [v0] = [some v0, none, none, none, none, none, none, none, none, none, none, none] := rfl
abbrev s_is_form : Stmt := top 34
abbrev N_is_form : List Str := ["words"]
theorem sc_is_form : FnScope N_is_form ["words"] (defScope s_is_form) := ⟨rfl, rfl, rfl, by decide +kernel, rfl, by decide +kernel, by decide +kernel⟩
theorem st_is_form {v0 : V} : L2.start N_is_form [v0] = [some v0] := rfl
abbrev s_rows_of : Stmt := top 35
abbrev N_rows_of : List Str := ["text", "found", "behind", "rows", "number", "row", "words"]
theorem sc_rows_of : FnScope N_rows_of ["text"] (defScope s_rows_of) := ⟨rfl, rfl, rfl, by decide +kernel, rfl, by decide +kernel, by decide +kernel⟩
theorem st_rows_of {v0 : V} : L2.start N_rows_of [v0] = [some v0, none, none, none, none, none, none] := rfl
abbrev s_read_line : Stmt := top 36
abbrev N_read_line : List Str := ["text", "rows", "places", "stretches", "line", "longs", "words"]
theorem sc_read_line : FnScope N_read_line ["text"] (defScope s_read_line) := ⟨rfl, rfl, rfl, by decide +kernel, rfl, by decide +kernel, by decide +kernel⟩
theorem st_read_line {v0 : V} : L2.start N_read_line [v0] = [some v0, none, none, none, none, none, none] := rfl
abbrev s_law_cell : Stmt := top 38
abbrev N_law_cell : List Str := ["_law_script", "_law_k"]
theorem sc_law_cell : FnScope N_law_cell ["_law_script", "_law_k"] (defScope s_law_cell) := ⟨rfl, rfl, rfl, by decide +kernel, rfl, by decide +kernel, by decide +kernel⟩
theorem st_law_cell {v0 v1 : V} : L2.start N_law_cell [v0, v1] = [some v0, some v1] := rfl
abbrev s_law_box : Stmt := top 39
abbrev N_law_box : List Str := ["_law_cell_here"]
theorem sc_law_box : FnScope N_law_box ["_law_cell_here"] (defScope s_law_box) := ⟨rfl, rfl, rfl, by decide +kernel, rfl, by decide +kernel, by decide +kernel⟩
theorem st_law_box {v0 : V} : L2.start N_law_box [v0] = [some v0] := rfl
abbrev s_law_take : Stmt := top 40
abbrev N_law_take : List Str := ["_law_box_here", "_law_many", "_law_number", "_law_digit"]
theorem sc_law_take : FnScope N_law_take ["_law_box_here", "_law_many"] (defScope s_law_take) := ⟨rfl, rfl, rfl, by decide +kernel, rfl, by decide +kernel, by decide +kernel⟩
theorem st_law_take {v0 v1 : V} : L2.start N_law_take [v0, v1] = [some v0, some v1, none, none] := rfl
abbrev s_law_names : Stmt := top 41
abbrev N_law_names : List Str := ["_law_box_here", "_law_many", "_law_letters", "_law_words", "_law_way", "_law_first", "_law_stem", "_law_at", "_law_k"]
theorem sc_law_names : FnScope N_law_names ["_law_box_here", "_law_many"] (defScope s_law_names) := ⟨rfl, rfl, rfl, by decide +kernel, rfl, by decide +kernel, by decide +kernel⟩
theorem st_law_names {v0 v1 : V} : L2.start N_law_names [v0, v1] = [some v0, some v1, none, none, none, none, none, none, none] := rfl
abbrev s_law_world : Stmt := top 42
abbrev N_law_world : List Str := ["_law_box_here", "_law_many", "_law_names_here", "_law_places", "_law_stretches", "_law_longs", "_law_low", "_law_turn", "_law_first", "_law_last", "_law_name", "_law_k"]
theorem sc_law_world : FnScope N_law_world ["_law_box_here"] (defScope s_law_world) := ⟨rfl, rfl, rfl, by decide +kernel, rfl, by decide +kernel, by decide +kernel⟩
theorem st_law_world {v0 : V} : L2.start N_law_world [v0] = [some v0, none, none, none, none, none, none, none, none, none, none, none] := rfl
abbrev s_law_rows : Stmt := top 43
abbrev N_law_rows : List Str := ["_law_world_here", "_law_places", "_law_stretches", "_law_longs", "_law_names_here", "_law_rows_here", "_law_name", "_law_roads", "_law_kind", "_law_home", "_law_low", "_law_high"]
theorem sc_law_rows : FnScope N_law_rows ["_law_world_here"] (defScope s_law_rows) := ⟨rfl, rfl, rfl, by decide +kernel, rfl, by decide +kernel, by decide +kernel⟩
theorem st_law_rows {v0 : V} : L2.start N_law_rows [v0] = [some v0, none, none, none, none, none, none, none, none, none, none, none] := rfl
abbrev s_law_stretches_asked_right : Stmt := top 44
abbrev N_law_stretches_asked_right : List Str := ["_law_line", "_law_world_here", "_law_names_here", "_law_k", "_law_kind", "_law_home", "_law_j", "_law_low", "_law_high", "_law_due", "_law_name", "_law_roads", "_law_one", "_law_at"]
theorem sc_law_stretches_asked_right : FnScope N_law_stretches_asked_right ["_law_line", "_law_world_here"] (defScope s_law_stretches_asked_right) := ⟨rfl, rfl, rfl, by decide +kernel, rfl, by decide +kernel, by decide +kernel⟩
theorem st_law_stretches_asked_right {v0 v1 : V} : L2.start N_law_stretches_asked_right [v0, v1] = [some v0, some v1, none, none, none, none, none, none, none, none, none, none, none, none] := rfl
abbrev s_law_asked_right : Stmt := top 45
abbrev N_law_asked_right : List Str := ["_law_line", "_law_world_here", "_law_names_here", "_law_ends", "_law_at", "_law_one", "_law_to", "_law_other", "_law_pair", "_law_due", "_law_name", "_law_roads", "_law_low", "_law_high", "_law_home"]
theorem sc_law_asked_right : FnScope N_law_asked_right ["_law_line", "_law_world_here"] (defScope s_law_asked_right) := ⟨rfl, rfl, rfl, by decide +kernel, rfl, by decide +kernel, by decide +kernel⟩
theorem st_law_asked_right {v0 v1 : V} : L2.start N_law_asked_right [v0, v1] = [some v0, some v1, none, none, none, none, none, none, none, none, none, none, none, none, none] := rfl
abbrev s_law_right : Stmt := top 46
abbrev N_law_right : List Str := ["_law_line", "_law_world_here", "_law_text", "_law_other", "_law_due"]
theorem sc_law_right : FnScope N_law_right ["_law_line", "_law_world_here"] (defScope s_law_right) := ⟨rfl, rfl, rfl, by decide +kernel, rfl, by decide +kernel, by decide +kernel⟩
theorem st_law_right {v0 v1 : V} : L2.start N_law_right [v0, v1] = [some v0, some v1, none, none, none] := rfl
abbrev s_law : Stmt := top 47
abbrev N_law : List Str := ["_law_script", "_law_kept", "_law_k", "_law_world_here", "_law_one", "_law_other"]
theorem sc_law : FnScope N_law ["_law_script"] (defScope s_law) := ⟨rfl, rfl, rfl, by decide +kernel, rfl, by decide +kernel, by decide +kernel⟩
theorem st_law {v0 : V} : L2.start N_law [v0] = [some v0, none, none, none, none, none] := rfl
structure Tx (K : PySem.W.Frag) (mg : Str → Option Value) where
  C_Line : Addr
  m_Line : mg "Line" = some (.ref C_Line)
  C_NoName : Addr
  m_NoName : mg "NoName" = some (.ref C_NoName)
  C_NoPlace : Addr
  m_NoPlace : mg "NoPlace" = some (.ref C_NoPlace)
  C_NoStretch : Addr
  m_NoStretch : mg "NoStretch" = some (.ref C_NoStretch)
  C_NoLong : Addr
  m_NoLong : mg "NoLong" = some (.ref C_NoLong)
  C_NoPlaces : Addr
  m_NoPlaces : mg "NoPlaces" = some (.ref C_NoPlaces)
  C_NoStretches : Addr
  m_NoStretches : mg "NoStretches" = some (.ref C_NoStretches)
  C_NoLongs : Addr
  m_NoLongs : mg "NoLongs" = some (.ref C_NoLongs)
  C_NoNumber : Addr
  m_NoNumber : mg "NoNumber" = some (.ref C_NoNumber)
  C_Twice : Addr
  m_Twice : mg "Twice" = some (.ref C_Twice)
  C_NoText : Addr
  m_NoText : mg "NoText" = some (.ref C_NoText)
  C_StaffError : Addr
  m_StaffError : mg "StaffError" = some (.ref C_StaffError)
  a_NoName_init : Addr
  d_NoName_init : FuncData
  F_NoName_init : Fun K "__init__" "NoName.__init__" s_NoName_init a_NoName_init d_NoName_init
  B_NoName_init : Binds K d_NoName_init ["self", "found"] []
  a_NoPlace_init : Addr
  d_NoPlace_init : FuncData
  F_NoPlace_init : Fun K "__init__" "NoPlace.__init__" s_NoPlace_init a_NoPlace_init d_NoPlace_init
  B_NoPlace_init : Binds K d_NoPlace_init ["self", "found"] []
  a_NoStretch_init : Addr
  d_NoStretch_init : FuncData
  F_NoStretch_init : Fun K "__init__" "NoStretch.__init__" s_NoStretch_init a_NoStretch_init d_NoStretch_init
  B_NoStretch_init : Binds K d_NoStretch_init ["self", "found"] []
  a_NoLong_init : Addr
  d_NoLong_init : FuncData
  F_NoLong_init : Fun K "__init__" "NoLong.__init__" s_NoLong_init a_NoLong_init d_NoLong_init
  B_NoLong_init : Binds K d_NoLong_init ["self", "found"] []
  a_NoPlaces_init : Addr
  d_NoPlaces_init : FuncData
  F_NoPlaces_init : Fun K "__init__" "NoPlaces.__init__" s_NoPlaces_init a_NoPlaces_init d_NoPlaces_init
  B_NoPlaces_init : Binds K d_NoPlaces_init ["self", "found"] []
  a_NoStretches_init : Addr
  d_NoStretches_init : FuncData
  F_NoStretches_init : Fun K "__init__" "NoStretches.__init__" s_NoStretches_init a_NoStretches_init d_NoStretches_init
  B_NoStretches_init : Binds K d_NoStretches_init ["self", "found"] []
  a_NoLongs_init : Addr
  d_NoLongs_init : FuncData
  F_NoLongs_init : Fun K "__init__" "NoLongs.__init__" s_NoLongs_init a_NoLongs_init d_NoLongs_init
  B_NoLongs_init : Binds K d_NoLongs_init ["self", "found"] []
  a_NoNumber_init : Addr
  d_NoNumber_init : FuncData
  F_NoNumber_init : Fun K "__init__" "NoNumber.__init__" s_NoNumber_init a_NoNumber_init d_NoNumber_init
  B_NoNumber_init : Binds K d_NoNumber_init ["self", "found"] []
  a_Twice_init : Addr
  d_Twice_init : FuncData
  F_Twice_init : Fun K "__init__" "Twice.__init__" s_Twice_init a_Twice_init d_Twice_init
  B_Twice_init : Binds K d_Twice_init ["self", "found"] []
  a_NoText_init : Addr
  d_NoText_init : FuncData
  F_NoText_init : Fun K "__init__" "NoText.__init__" s_NoText_init a_NoText_init d_NoText_init
  B_NoText_init : Binds K d_NoText_init ["self", "row"] []
  a_is_whole : Addr
  d_is_whole : FuncData
  F_is_whole : Fun K "is_whole" "is_whole" s_is_whole a_is_whole d_is_whole
  B_is_whole : Binds K d_is_whole ["thing", "low", "high"] []
  m_is_whole : mg "is_whole" = some (.ref a_is_whole)
  a_is_name : Addr
  d_is_name : FuncData
  F_is_name : Fun K "is_name" "is_name" s_is_name a_is_name d_is_name
  B_is_name : Binds K d_is_name ["thing"] []
  m_is_name : mg "is_name" = some (.ref a_is_name)
  a_is_row : Addr
  d_is_row : FuncData
  F_is_row : Fun K "is_row" "is_row" s_is_row a_is_row d_is_row
  B_is_row : Binds K d_is_row ["thing", "size"] []
  m_is_row : mg "is_row" = some (.ref a_is_row)
  a_good_places : Addr
  d_good_places : FuncData
  F_good_places : Fun K "good_places" "good_places" s_good_places a_good_places d_good_places
  B_good_places : Binds K d_good_places ["places"] []
  m_good_places : mg "good_places" = some (.ref a_good_places)
  a_is_stretch : Addr
  d_is_stretch : FuncData
  F_is_stretch : Fun K "is_stretch" "is_stretch" s_is_stretch a_is_stretch d_is_stretch
  B_is_stretch : Binds K d_is_stretch ["thing"] []
  m_is_stretch : mg "is_stretch" = some (.ref a_is_stretch)
  a_good_stretches : Addr
  d_good_stretches : FuncData
  F_good_stretches : Fun K "good_stretches" "good_stretches" s_good_stretches a_good_stretches d_good_stretches
  B_good_stretches : Binds K d_good_stretches ["stretches", "many"] []
  m_good_stretches : mg "good_stretches" = some (.ref a_good_stretches)
  a_is_long : Addr
  d_is_long : FuncData
  F_is_long : Fun K "is_long" "is_long" s_is_long a_is_long d_is_long
  B_is_long : Binds K d_is_long ["thing", "low", "high"] []
  m_is_long : mg "is_long" = some (.ref a_is_long)
  a_good_longs : Addr
  d_good_longs : FuncData
  F_good_longs : Fun K "good_longs" "good_longs" s_good_longs a_good_longs d_good_longs
  B_good_longs : Binds K d_good_longs ["longs", "many"] []
  m_good_longs : mg "good_longs" = some (.ref a_good_longs)
  a_Line_init : Addr
  d_Line_init : FuncData
  F_Line_init : FunN K "__init__" "Line.__init__" s_Line_init a_Line_init d_Line_init
  B_Line_init : Binds K d_Line_init ["self", "places", "stretches", "longs"] []
  Bp_Line_init : Binds K d_Line_init ["self", "places", "stretches", "longs"] [.none]
  a_Line_names : Addr
  d_Line_names : FuncData
  F_Line_names : Fun K "names" "Line.names" s_Line_names a_Line_names d_Line_names
  B_Line_names : Binds K d_Line_names ["self"] []
  a_Line_number_of : Addr
  d_Line_number_of : FuncData
  F_Line_number_of : Fun K "number_of" "Line.number_of" s_Line_number_of a_Line_number_of d_Line_number_of
  B_Line_number_of : Binds K d_Line_number_of ["self", "name"] []
  a_Line_roads : Addr
  d_Line_roads : FuncData
  F_Line_roads : Fun K "roads" "Line.roads" s_Line_roads a_Line_roads d_Line_roads
  B_Line_roads : Binds K d_Line_roads ["self", "name"] []
  a_Line_many_stretches : Addr
  d_Line_many_stretches : FuncData
  F_Line_many_stretches : Fun K "many_stretches" "Line.many_stretches" s_Line_many_stretches a_Line_many_stretches d_Line_many_stretches
  B_Line_many_stretches : Binds K d_Line_many_stretches ["self"] []
  a_Line_need_stretch : Addr
  d_Line_need_stretch : FuncData
  F_Line_need_stretch : Fun K "need_stretch" "Line.need_stretch" s_Line_need_stretch a_Line_need_stretch d_Line_need_stretch
  B_Line_need_stretch : Binds K d_Line_need_stretch ["self", "k"] []
  a_Line_ends : Addr
  d_Line_ends : FuncData
  F_Line_ends : Fun K "ends" "Line.ends" s_Line_ends a_Line_ends d_Line_ends
  B_Line_ends : Binds K d_Line_ends ["self", "k"] []
  a_Line_kind : Addr
  d_Line_kind : FuncData
  F_Line_kind : Fun K "kind" "Line.kind" s_Line_kind a_Line_kind d_Line_kind
  B_Line_kind : Binds K d_Line_kind ["self", "k"] []
  a_Line_home : Addr
  d_Line_home : FuncData
  F_Line_home : Fun K "home" "Line.home" s_Line_home a_Line_home d_Line_home
  B_Line_home : Binds K d_Line_home ["self", "k"] []
  a_Line_between : Addr
  d_Line_between : FuncData
  F_Line_between : Fun K "between" "Line.between" s_Line_between a_Line_between d_Line_between
  B_Line_between : Binds K d_Line_between ["self", "one", "other"] []
  a_Line_many_longs : Addr
  d_Line_many_longs : FuncData
  F_Line_many_longs : Fun K "many_longs" "Line.many_longs" s_Line_many_longs a_Line_many_longs d_Line_many_longs
  B_Line_many_longs : Binds K d_Line_many_longs ["self"] []
  a_Line_need_long : Addr
  d_Line_need_long : FuncData
  F_Line_need_long : Fun K "need_long" "Line.need_long" s_Line_need_long a_Line_need_long d_Line_need_long
  B_Line_need_long : Binds K d_Line_need_long ["self", "j"] []
  a_Line_long_ends : Addr
  d_Line_long_ends : FuncData
  F_Line_long_ends : Fun K "long_ends" "Line.long_ends" s_Line_long_ends a_Line_long_ends d_Line_long_ends
  B_Line_long_ends : Binds K d_Line_long_ends ["self", "j"] []
  a_Line_long_stretches : Addr
  d_Line_long_stretches : FuncData
  F_Line_long_stretches : Fun K "long_stretches" "Line.long_stretches" s_Line_long_stretches a_Line_long_stretches d_Line_long_stretches
  B_Line_long_stretches : Binds K d_Line_long_stretches ["self", "j"] []
  a_Line_long_home : Addr
  d_Line_long_home : FuncData
  F_Line_long_home : Fun K "long_home" "Line.long_home" s_Line_long_home a_Line_long_home d_Line_long_home
  B_Line_long_home : Binds K d_Line_long_home ["self", "j"] []
  a_Line_long_between : Addr
  d_Line_long_between : FuncData
  F_Line_long_between : Fun K "long_between" "Line.long_between" s_Line_long_between a_Line_long_between d_Line_long_between
  B_Line_long_between : Binds K d_Line_long_between ["self", "one", "other"] []
  a_Line_long_of : Addr
  d_Line_long_of : FuncData
  F_Line_long_of : Fun K "long_of" "Line.long_of" s_Line_long_of a_Line_long_of d_Line_long_of
  B_Line_long_of : Binds K d_Line_long_of ["self", "k"] []
  a_Line_told : Addr
  d_Line_told : FuncData
  F_Line_told : Fun K "told" "Line.told" s_Line_told a_Line_told d_Line_told
  B_Line_told : Binds K d_Line_told ["self"] []
  a_show_line : Addr
  d_show_line : FuncData
  F_show_line : Fun K "show_line" "show_line" s_show_line a_show_line d_show_line
  B_show_line : Binds K d_show_line ["line"] []
  m_show_line : mg "show_line" = some (.ref a_show_line)
  a_is_form : Addr
  d_is_form : FuncData
  F_is_form : Fun K "is_form" "is_form" s_is_form a_is_form d_is_form
  B_is_form : Binds K d_is_form ["words"] []
  m_is_form : mg "is_form" = some (.ref a_is_form)
  a_rows_of : Addr
  d_rows_of : FuncData
  F_rows_of : Fun K "rows_of" "rows_of" s_rows_of a_rows_of d_rows_of
  B_rows_of : Binds K d_rows_of ["text"] []
  m_rows_of : mg "rows_of" = some (.ref a_rows_of)
  a_read_line : Addr
  d_read_line : FuncData
  F_read_line : Fun K "read_line" "read_line" s_read_line a_read_line d_read_line
  B_read_line : Binds K d_read_line ["text"] []
  m_read_line : mg "read_line" = some (.ref a_read_line)
  a_law_cell : Addr
  d_law_cell : FuncData
  F_law_cell : Fun K "_law_cell" "_law_cell" s_law_cell a_law_cell d_law_cell
  B_law_cell : Binds K d_law_cell ["_law_script", "_law_k"] []
  m_law_cell : mg "_law_cell" = some (.ref a_law_cell)
  a_law_box : Addr
  d_law_box : FuncData
  F_law_box : Fun K "_law_box" "_law_box" s_law_box a_law_box d_law_box
  B_law_box : Binds K d_law_box ["_law_cell_here"] []
  m_law_box : mg "_law_box" = some (.ref a_law_box)
  a_law_take : Addr
  d_law_take : FuncData
  F_law_take : Fun K "_law_take" "_law_take" s_law_take a_law_take d_law_take
  B_law_take : Binds K d_law_take ["_law_box_here", "_law_many"] []
  m_law_take : mg "_law_take" = some (.ref a_law_take)
  a_law_names : Addr
  d_law_names : FuncData
  F_law_names : Fun K "_law_names" "_law_names" s_law_names a_law_names d_law_names
  B_law_names : Binds K d_law_names ["_law_box_here", "_law_many"] []
  m_law_names : mg "_law_names" = some (.ref a_law_names)
  a_law_world : Addr
  d_law_world : FuncData
  F_law_world : Fun K "_law_world" "_law_world" s_law_world a_law_world d_law_world
  B_law_world : Binds K d_law_world ["_law_box_here"] []
  m_law_world : mg "_law_world" = some (.ref a_law_world)
  a_law_rows : Addr
  d_law_rows : FuncData
  F_law_rows : Fun K "_law_rows" "_law_rows" s_law_rows a_law_rows d_law_rows
  B_law_rows : Binds K d_law_rows ["_law_world_here"] []
  m_law_rows : mg "_law_rows" = some (.ref a_law_rows)
  a_law_stretches_asked_right : Addr
  d_law_stretches_asked_right : FuncData
  F_law_stretches_asked_right : Fun K "_law_stretches_asked_right" "_law_stretches_asked_right" s_law_stretches_asked_right a_law_stretches_asked_right d_law_stretches_asked_right
  B_law_stretches_asked_right : Binds K d_law_stretches_asked_right ["_law_line", "_law_world_here"] []
  m_law_stretches_asked_right : mg "_law_stretches_asked_right" = some (.ref a_law_stretches_asked_right)
  a_law_asked_right : Addr
  d_law_asked_right : FuncData
  F_law_asked_right : Fun K "_law_asked_right" "_law_asked_right" s_law_asked_right a_law_asked_right d_law_asked_right
  B_law_asked_right : Binds K d_law_asked_right ["_law_line", "_law_world_here"] []
  m_law_asked_right : mg "_law_asked_right" = some (.ref a_law_asked_right)
  a_law_right : Addr
  d_law_right : FuncData
  F_law_right : Fun K "_law_right" "_law_right" s_law_right a_law_right d_law_right
  B_law_right : Binds K d_law_right ["_law_line", "_law_world_here"] []
  m_law_right : mg "_law_right" = some (.ref a_law_right)
  a_law : Addr
  d_law : FuncData
  F_law : Fun K "law" "law" s_law a_law d_law
  B_law : Binds K d_law ["_law_script"] []
  m_law : mg "law" = some (.ref a_law)
  cl_Line : Cls K C_Line
  mk_Line : Mk K C_Line a_Line_init
  na_Line_kept_places : NoAttr K C_Line "kept_places"
  na_Line_kept_stretches : NoAttr K C_Line "kept_stretches"
  na_Line_kept_longs : NoAttr K C_Line "kept_longs"
  M_Line_names : Meth K C_Line "names" a_Line_names
  M_Line_number_of : Meth K C_Line "number_of" a_Line_number_of
  M_Line_roads : Meth K C_Line "roads" a_Line_roads
  M_Line_many_stretches : Meth K C_Line "many_stretches" a_Line_many_stretches
  M_Line_need_stretch : Meth K C_Line "need_stretch" a_Line_need_stretch
  M_Line_ends : Meth K C_Line "ends" a_Line_ends
  M_Line_kind : Meth K C_Line "kind" a_Line_kind
  M_Line_home : Meth K C_Line "home" a_Line_home
  M_Line_between : Meth K C_Line "between" a_Line_between
  M_Line_many_longs : Meth K C_Line "many_longs" a_Line_many_longs
  M_Line_need_long : Meth K C_Line "need_long" a_Line_need_long
  M_Line_long_ends : Meth K C_Line "long_ends" a_Line_long_ends
  M_Line_long_stretches : Meth K C_Line "long_stretches" a_Line_long_stretches
  M_Line_long_home : Meth K C_Line "long_home" a_Line_long_home
  M_Line_long_between : Meth K C_Line "long_between" a_Line_long_between
  M_Line_long_of : Meth K C_Line "long_of" a_Line_long_of
  M_Line_told : Meth K C_Line "told" a_Line_told
  er_NoName : ErrC K C_NoName a_NoName_init "found"
  er_NoPlace : ErrC K C_NoPlace a_NoPlace_init "found"
  er_NoStretch : ErrC K C_NoStretch a_NoStretch_init "found"
  er_NoLong : ErrC K C_NoLong a_NoLong_init "found"
  er_NoPlaces : ErrC K C_NoPlaces a_NoPlaces_init "found"
  er_NoStretches : ErrC K C_NoStretches a_NoStretches_init "found"
  er_NoLongs : ErrC K C_NoLongs a_NoLongs_init "found"
  er_NoNumber : ErrC K C_NoNumber a_NoNumber_init "found"
  er_Twice : ErrC K C_Twice a_Twice_init "found"
  er_NoText : ErrC K C_NoText a_NoText_init "row"
  rd_StaffError : RdC K C_StaffError
  vi_StaffError : PySem.W.findCls K (.ref C_StaffError) (.type "type") "__init__" = some (.val (.builtin "ValueError.__init__"))
  oc_get : PySem.W.specialIn K (.builtin "object.__class__") "__get__" = some (some (.builtin "getset_descriptor.__get__"))
  oc_take : PySem.W.takesIn K (.builtin "object.__class__") = some true
  ic_Line : IsC K C_Line
  ki_Line_Line : PySem.W.kitOne K (.ref C_Line) (.ref C_Line) = some true
  c_LONGEST : Value
  mc_LONGEST : mg "LONGEST" = some c_LONGEST
  rc_LONGEST : RelV (V.int 6) c_LONGEST
  c_LETTERS : Value
  mc_LETTERS : mg "LETTERS" = some c_LETTERS
  rc_LETTERS : RelV (V.str "abcdefghijklmnopqrstuvwxyz") c_LETTERS
  c_FEWEST_PLACES : Value
  mc_FEWEST_PLACES : mg "FEWEST_PLACES" = some c_FEWEST_PLACES
  rc_FEWEST_PLACES : RelV (V.int 2) c_FEWEST_PLACES
  c_MOST_PLACES : Value
  mc_MOST_PLACES : mg "MOST_PLACES" = some c_MOST_PLACES
  rc_MOST_PLACES : RelV (V.int 6) c_MOST_PLACES
  c_MOST_ROADS : Value
  mc_MOST_ROADS : mg "MOST_ROADS" = some c_MOST_ROADS
  rc_MOST_ROADS : RelV (V.int 3) c_MOST_ROADS
  c_MOST_LONGS : Value
  mc_MOST_LONGS : mg "MOST_LONGS" = some c_MOST_LONGS
  rc_MOST_LONGS : RelV (V.int 2) c_MOST_LONGS
  t_HOMES : Addr
  mt_HOMES : mg "HOMES" = some (.ref t_HOMES)
  kt_HOMES : KT K t_HOMES [.str "low", .str "high"]
  t_SORTS : Addr
  mt_SORTS : mg "SORTS" = some (.ref t_SORTS)
  kt_SORTS : KT K t_SORTS [.str "place", .str "stretch", .str "long"]
  z_abs : mg "abs" = none
  z_all : mg "all" = none
  z_bool : mg "bool" = none
  z_enumerate : mg "enumerate" = none
  z_int : mg "int" = none
  z_isinstance : mg "isinstance" = none
  z_len : mg "len" = none
  z_list : mg "list" = none
  z_max : mg "max" = none
  z_min : mg "min" = none
  z_range : mg "range" = none
  z_repr : mg "repr" = none
  z_str : mg "str" = none
  z_tuple : mg "tuple" = none
variable {P : Program} {w : World} {K : PySem.W.Frag} {mg : Str → Option Value} {base : Heap}
def fl_Line (x0 x1 x2 : V) : List (Str × V) := [("kept_places", x0), ("kept_stretches", x1), ("kept_longs", x2)]
def At_Line (T : Tx K mg) (H : Hp) (p : Addr) (x0 x1 x2 : V) : Prop := ∃ dx, H p = some (.ins T.C_Line dx (fl_Line x0 x1 x2))
theorem At_Line.kp {T : Tx K mg} {H H2 : Hp} {p : Addr} {x0 x1 x2 : V} (h : At_Line T H p x0 x1 x2) (k : Kp [] H H2) : At_Line T H2 p x0 x1 x2 := by obtain ⟨dx, e⟩ := h; exact ⟨dx, k.get0 e⟩
theorem At_Line.kpn {T : Tx K mg} {H H2 : Hp} {p : Addr} {ps : List Addr} {x0 x1 x2 : V} (h : At_Line T H p x0 x1 x2) (k : Kp ps H H2) (n : p ∉ ps) : At_Line T H2 p x0 x1 x2 := by obtain ⟨dx, e⟩ := h; exact ⟨dx, k.get e n⟩
theorem At_Line.th {T : Tx K mg} {H : Hp} {p : Addr} {x0 x1 x2 : V} (h : At_Line T H p x0 x1 x2) : Th H p 5 := by obtain ⟨dx, e⟩ := h; exact .ins e
theorem At_Line.ne {T : Tx K mg} {H : Hp} {p l : Addr} {x0 x1 x2 : V} (h : At_Line T H p x0 x1 x2) (n : H l = none) : l ≠ p := by obtain ⟨dx, e⟩ := h; exact (ne_of_none e n).symm
theorem At_Line.nel {T : Tx K mg} {H : Hp} {p l : Addr} {x0 x1 x2 : V} {xs : List V} (h : At_Line T H p x0 x1 x2) (n : H l = some (.lst xs)) : l ≠ p := by obtain ⟨dx, e⟩ := h; exact ne_of n e (by intro z; cases z)
theorem g_Line_kept_places {T : Tx K mg} {H : Hp} {p : Addr} {x0 x1 x2 : V} {Q : VK} (h : At_Line T H p x0 x1 x2) (q : Q x0 H) : FldK K "kept_places" Q (.ref p) H := by obtain ⟨dx, e⟩ := h; exact s_fdk e T.cl_Line T.na_Line_kept_places rfl q
theorem p_Line_kept_places {T : Tx K mg} {H : Hp} {p : Addr} {x0 x1 x2 y : V} {R : Hp → Prop} (h : At_Line T H p x0 x1 x2) (q : ∀ H2, At_Line T H2 p y x1 x2 → Kp [p] H H2 → R H2) : SetK K "kept_places" y R (.ref p) H := by obtain ⟨dx, e⟩ := h; exact s_sdk e T.cl_Line T.na_Line_kept_places (by simp [fl_Line]) (gs := fl_Line y x1 x2) rfl fun H2 e2 k => q H2 ⟨dx, e2⟩ k
theorem u_Line_kept_places {T : Tx K mg} {H : Hp} {p : Addr} {x0 x1 x2 : V} {R : Addr → Addr → V → Hp → Prop} (h : At_Line T H p x0 x1 x2) (q : R p T.C_Line x0 H) : FaK K "kept_places" R (.ref p) H := by obtain ⟨dx, e⟩ := h; exact s_fak e T.cl_Line T.na_Line_kept_places rfl q
theorem w_Line_kept_places {T : Tx K mg} {H : Hp} {p : Addr} {x0 x1 x2 y : V} {R : Hp → Prop} (h : At_Line T H p x0 x1 x2) (q : ∀ H2, At_Line T H2 p y x1 x2 → Kp [p] H H2 → R H2) : FbK "kept_places" p T.C_Line R y H := by obtain ⟨dx, e⟩ := h; exact s_fbk e (by simp [fl_Line]) (gs := fl_Line y x1 x2) rfl fun H2 e2 k => q H2 ⟨dx, e2⟩ k
theorem g_Line_kept_stretches {T : Tx K mg} {H : Hp} {p : Addr} {x0 x1 x2 : V} {Q : VK} (h : At_Line T H p x0 x1 x2) (q : Q x1 H) : FldK K "kept_stretches" Q (.ref p) H := by obtain ⟨dx, e⟩ := h; exact s_fdk e T.cl_Line T.na_Line_kept_stretches rfl q
theorem p_Line_kept_stretches {T : Tx K mg} {H : Hp} {p : Addr} {x0 x1 x2 y : V} {R : Hp → Prop} (h : At_Line T H p x0 x1 x2) (q : ∀ H2, At_Line T H2 p x0 y x2 → Kp [p] H H2 → R H2) : SetK K "kept_stretches" y R (.ref p) H := by obtain ⟨dx, e⟩ := h; exact s_sdk e T.cl_Line T.na_Line_kept_stretches (by simp [fl_Line]) (gs := fl_Line x0 y x2) rfl fun H2 e2 k => q H2 ⟨dx, e2⟩ k
theorem u_Line_kept_stretches {T : Tx K mg} {H : Hp} {p : Addr} {x0 x1 x2 : V} {R : Addr → Addr → V → Hp → Prop} (h : At_Line T H p x0 x1 x2) (q : R p T.C_Line x1 H) : FaK K "kept_stretches" R (.ref p) H := by obtain ⟨dx, e⟩ := h; exact s_fak e T.cl_Line T.na_Line_kept_stretches rfl q
theorem w_Line_kept_stretches {T : Tx K mg} {H : Hp} {p : Addr} {x0 x1 x2 y : V} {R : Hp → Prop} (h : At_Line T H p x0 x1 x2) (q : ∀ H2, At_Line T H2 p x0 y x2 → Kp [p] H H2 → R H2) : FbK "kept_stretches" p T.C_Line R y H := by obtain ⟨dx, e⟩ := h; exact s_fbk e (by simp [fl_Line]) (gs := fl_Line x0 y x2) rfl fun H2 e2 k => q H2 ⟨dx, e2⟩ k
theorem g_Line_kept_longs {T : Tx K mg} {H : Hp} {p : Addr} {x0 x1 x2 : V} {Q : VK} (h : At_Line T H p x0 x1 x2) (q : Q x2 H) : FldK K "kept_longs" Q (.ref p) H := by obtain ⟨dx, e⟩ := h; exact s_fdk e T.cl_Line T.na_Line_kept_longs rfl q
theorem p_Line_kept_longs {T : Tx K mg} {H : Hp} {p : Addr} {x0 x1 x2 y : V} {R : Hp → Prop} (h : At_Line T H p x0 x1 x2) (q : ∀ H2, At_Line T H2 p x0 x1 y → Kp [p] H H2 → R H2) : SetK K "kept_longs" y R (.ref p) H := by obtain ⟨dx, e⟩ := h; exact s_sdk e T.cl_Line T.na_Line_kept_longs (by simp [fl_Line]) (gs := fl_Line x0 x1 y) rfl fun H2 e2 k => q H2 ⟨dx, e2⟩ k
theorem u_Line_kept_longs {T : Tx K mg} {H : Hp} {p : Addr} {x0 x1 x2 : V} {R : Addr → Addr → V → Hp → Prop} (h : At_Line T H p x0 x1 x2) (q : R p T.C_Line x2 H) : FaK K "kept_longs" R (.ref p) H := by obtain ⟨dx, e⟩ := h; exact s_fak e T.cl_Line T.na_Line_kept_longs rfl q
theorem w_Line_kept_longs {T : Tx K mg} {H : Hp} {p : Addr} {x0 x1 x2 y : V} {R : Hp → Prop} (h : At_Line T H p x0 x1 x2) (q : ∀ H2, At_Line T H2 p x0 x1 y → Kp [p] H H2 → R H2) : FbK "kept_longs" p T.C_Line R y H := by obtain ⟨dx, e⟩ := h; exact s_fbk e (by simp [fl_Line]) (gs := fl_Line x0 x1 y) rfl fun H2 e2 k => q H2 ⟨dx, e2⟩ k
theorem k_Line_names {T : Tx K mg} {H : Hp} {p : Addr} {x0 x1 x2 : V} {R : V → Hp → Prop} (h : At_Line T H p x0 x1 x2) (q : R (.ref p) H) : MtK T.C_Line "names" R (.ref p) H := by obtain ⟨dx, e⟩ := h; exact s_mtk e rfl q
theorem k_Line_number_of {T : Tx K mg} {H : Hp} {p : Addr} {x0 x1 x2 : V} {R : V → Hp → Prop} (h : At_Line T H p x0 x1 x2) (q : R (.ref p) H) : MtK T.C_Line "number_of" R (.ref p) H := by obtain ⟨dx, e⟩ := h; exact s_mtk e rfl q
theorem k_Line_roads {T : Tx K mg} {H : Hp} {p : Addr} {x0 x1 x2 : V} {R : V → Hp → Prop} (h : At_Line T H p x0 x1 x2) (q : R (.ref p) H) : MtK T.C_Line "roads" R (.ref p) H := by obtain ⟨dx, e⟩ := h; exact s_mtk e rfl q
theorem k_Line_many_stretches {T : Tx K mg} {H : Hp} {p : Addr} {x0 x1 x2 : V} {R : V → Hp → Prop} (h : At_Line T H p x0 x1 x2) (q : R (.ref p) H) : MtK T.C_Line "many_stretches" R (.ref p) H := by obtain ⟨dx, e⟩ := h; exact s_mtk e rfl q
theorem k_Line_need_stretch {T : Tx K mg} {H : Hp} {p : Addr} {x0 x1 x2 : V} {R : V → Hp → Prop} (h : At_Line T H p x0 x1 x2) (q : R (.ref p) H) : MtK T.C_Line "need_stretch" R (.ref p) H := by obtain ⟨dx, e⟩ := h; exact s_mtk e rfl q
theorem k_Line_ends {T : Tx K mg} {H : Hp} {p : Addr} {x0 x1 x2 : V} {R : V → Hp → Prop} (h : At_Line T H p x0 x1 x2) (q : R (.ref p) H) : MtK T.C_Line "ends" R (.ref p) H := by obtain ⟨dx, e⟩ := h; exact s_mtk e rfl q
theorem k_Line_kind {T : Tx K mg} {H : Hp} {p : Addr} {x0 x1 x2 : V} {R : V → Hp → Prop} (h : At_Line T H p x0 x1 x2) (q : R (.ref p) H) : MtK T.C_Line "kind" R (.ref p) H := by obtain ⟨dx, e⟩ := h; exact s_mtk e rfl q
theorem k_Line_home {T : Tx K mg} {H : Hp} {p : Addr} {x0 x1 x2 : V} {R : V → Hp → Prop} (h : At_Line T H p x0 x1 x2) (q : R (.ref p) H) : MtK T.C_Line "home" R (.ref p) H := by obtain ⟨dx, e⟩ := h; exact s_mtk e rfl q
theorem k_Line_between {T : Tx K mg} {H : Hp} {p : Addr} {x0 x1 x2 : V} {R : V → Hp → Prop} (h : At_Line T H p x0 x1 x2) (q : R (.ref p) H) : MtK T.C_Line "between" R (.ref p) H := by obtain ⟨dx, e⟩ := h; exact s_mtk e rfl q
theorem k_Line_many_longs {T : Tx K mg} {H : Hp} {p : Addr} {x0 x1 x2 : V} {R : V → Hp → Prop} (h : At_Line T H p x0 x1 x2) (q : R (.ref p) H) : MtK T.C_Line "many_longs" R (.ref p) H := by obtain ⟨dx, e⟩ := h; exact s_mtk e rfl q
theorem k_Line_need_long {T : Tx K mg} {H : Hp} {p : Addr} {x0 x1 x2 : V} {R : V → Hp → Prop} (h : At_Line T H p x0 x1 x2) (q : R (.ref p) H) : MtK T.C_Line "need_long" R (.ref p) H := by obtain ⟨dx, e⟩ := h; exact s_mtk e rfl q
theorem k_Line_long_ends {T : Tx K mg} {H : Hp} {p : Addr} {x0 x1 x2 : V} {R : V → Hp → Prop} (h : At_Line T H p x0 x1 x2) (q : R (.ref p) H) : MtK T.C_Line "long_ends" R (.ref p) H := by obtain ⟨dx, e⟩ := h; exact s_mtk e rfl q
theorem k_Line_long_stretches {T : Tx K mg} {H : Hp} {p : Addr} {x0 x1 x2 : V} {R : V → Hp → Prop} (h : At_Line T H p x0 x1 x2) (q : R (.ref p) H) : MtK T.C_Line "long_stretches" R (.ref p) H := by obtain ⟨dx, e⟩ := h; exact s_mtk e rfl q
theorem k_Line_long_home {T : Tx K mg} {H : Hp} {p : Addr} {x0 x1 x2 : V} {R : V → Hp → Prop} (h : At_Line T H p x0 x1 x2) (q : R (.ref p) H) : MtK T.C_Line "long_home" R (.ref p) H := by obtain ⟨dx, e⟩ := h; exact s_mtk e rfl q
theorem k_Line_long_between {T : Tx K mg} {H : Hp} {p : Addr} {x0 x1 x2 : V} {R : V → Hp → Prop} (h : At_Line T H p x0 x1 x2) (q : R (.ref p) H) : MtK T.C_Line "long_between" R (.ref p) H := by obtain ⟨dx, e⟩ := h; exact s_mtk e rfl q
theorem k_Line_long_of {T : Tx K mg} {H : Hp} {p : Addr} {x0 x1 x2 : V} {R : V → Hp → Prop} (h : At_Line T H p x0 x1 x2) (q : R (.ref p) H) : MtK T.C_Line "long_of" R (.ref p) H := by obtain ⟨dx, e⟩ := h; exact s_mtk e rfl q
theorem k_Line_told {T : Tx K mg} {H : Hp} {p : Addr} {x0 x1 x2 : V} {R : V → Hp → Prop} (h : At_Line T H p x0 x1 x2) (q : R (.ref p) H) : MtK T.C_Line "told" R (.ref p) H := by obtain ⟨dx, e⟩ := h; exact s_mtk e rfl q
theorem i_Line_kept_places {T : Tx K mg} {H : Hp} {p dx : Addr} {x0 : V} {R : Hp → Prop} (h : H p = some (.ins T.C_Line dx [])) (q : ∀ H2, H2 p = some (.ins T.C_Line dx [("kept_places", x0)]) → Kp [p] H H2 → R H2) : SetK K "kept_places" x0 R (.ref p) H := s_sdk h T.cl_Line T.na_Line_kept_places (by simp) rfl q
theorem i_Line_kept_stretches {T : Tx K mg} {H : Hp} {p dx : Addr} {x0 x1 : V} {R : Hp → Prop} (h : H p = some (.ins T.C_Line dx [("kept_places", x0)])) (q : ∀ H2, H2 p = some (.ins T.C_Line dx [("kept_places", x0), ("kept_stretches", x1)]) → Kp [p] H H2 → R H2) : SetK K "kept_stretches" x1 R (.ref p) H := s_sdk h T.cl_Line T.na_Line_kept_stretches (by simp) rfl q
theorem i_Line_kept_longs {T : Tx K mg} {H : Hp} {p dx : Addr} {x0 x1 x2 : V} {R : Hp → Prop} (h : H p = some (.ins T.C_Line dx [("kept_places", x0), ("kept_stretches", x1)])) (q : ∀ H2, H2 p = some (.ins T.C_Line dx [("kept_places", x0), ("kept_stretches", x1), ("kept_longs", x2)]) → Kp [p] H H2 → R H2) : SetK K "kept_longs" x2 R (.ref p) H := s_sdk h T.cl_Line T.na_Line_kept_longs (by simp) rfl q
local macro_rules | `(tactic| walk_at "u2") => `(tactic| first
  | ((with_reducible refine' g_Line_kept_places ?uat ?_); (case uat => walk_at "g"))
  | ((with_reducible refine' u_Line_kept_places ?uat ?_); (case uat => walk_at "g"))
  | ((with_reducible refine' g_Line_kept_stretches ?uat ?_); (case uat => walk_at "g"))
  | ((with_reducible refine' u_Line_kept_stretches ?uat ?_); (case uat => walk_at "g"))
  | ((with_reducible refine' g_Line_kept_longs ?uat ?_); (case uat => walk_at "g"))
  | ((with_reducible refine' u_Line_kept_longs ?uat ?_); (case uat => walk_at "g"))
  | ((with_reducible refine' k_Line_names ?uat ?_); (case uat => walk_at "g"))
  | ((with_reducible refine' k_Line_number_of ?uat ?_); (case uat => walk_at "g"))
  | ((with_reducible refine' k_Line_roads ?uat ?_); (case uat => walk_at "g"))
  | ((with_reducible refine' k_Line_many_stretches ?uat ?_); (case uat => walk_at "g"))
  | ((with_reducible refine' k_Line_need_stretch ?uat ?_); (case uat => walk_at "g"))
  | ((with_reducible refine' k_Line_ends ?uat ?_); (case uat => walk_at "g"))
  | ((with_reducible refine' k_Line_kind ?uat ?_); (case uat => walk_at "g"))
  | ((with_reducible refine' k_Line_home ?uat ?_); (case uat => walk_at "g"))
  | ((with_reducible refine' k_Line_between ?uat ?_); (case uat => walk_at "g"))
  | ((with_reducible refine' k_Line_many_longs ?uat ?_); (case uat => walk_at "g"))
  | ((with_reducible refine' k_Line_need_long ?uat ?_); (case uat => walk_at "g"))
  | ((with_reducible refine' k_Line_long_ends ?uat ?_); (case uat => walk_at "g"))
  | ((with_reducible refine' k_Line_long_stretches ?uat ?_); (case uat => walk_at "g"))
  | ((with_reducible refine' k_Line_long_home ?uat ?_); (case uat => walk_at "g"))
  | ((with_reducible refine' k_Line_long_between ?uat ?_); (case uat => walk_at "g"))
  | ((with_reducible refine' k_Line_long_of ?uat ?_); (case uat => walk_at "g"))
  | ((with_reducible refine' k_Line_told ?uat ?_); (case uat => walk_at "g")))
local macro_rules | `(tactic| walk_at "g2") => `(tactic| first
  | ((refine' At_Line.kpn ?ugm ?ugk ?ugn); (case ugk => assumption); (case ugm => walk_at "g"); (case ugn => walk_at "n")))
local macro_rules | `(tactic| walk_at "t2") => `(tactic| first
  | exact At_Line.th (by assumption))
theorem ok_NoName_init (T : Tx K mg) : FnOk P w K mg base (L2.CX P w) 1 T.a_NoName_init T.d_NoName_init ["self", "found"] (spE T.C_NoName "found") := by
  refine T.F_NoName_init.okX sc_NoName_init (fun vs H Q E h => ?_) (fun cd A o s H vs Q E hr h => ?_)
  · obtain ⟨v0, v1, rfl, h⟩ := h; rfl
  obtain ⟨v0, v1, rfl, a, rfl, ha, k⟩ := h
  refine ⟨_, (pss_cons (ps_expr (pe_se (K := K) rfl rfl T.m_StaffError T.rd_StaffError T.vi_StaffError (pa_cons (pv 0) (pa_cons pe_str pa_nil))))
    (pss_one (ps_os (K := K) rfl (pv 0) (pv 1)))), ?_⟩
  walk_at "u"
  refine s_sek T.er_NoName.oex ha ?_
  walk_at "u"
  exact ⟨a, T.C_NoName, rfl, T.er_NoName.oex, T.er_NoName.no, ha, k⟩
theorem ok_NoPlace_init (T : Tx K mg) : FnOk P w K mg base (L2.CX P w) 1 T.a_NoPlace_init T.d_NoPlace_init ["self", "found"] (spE T.C_NoPlace "found") := by
  refine T.F_NoPlace_init.okX sc_NoPlace_init (fun vs H Q E h => ?_) (fun cd A o s H vs Q E hr h => ?_)
  · obtain ⟨v0, v1, rfl, h⟩ := h; rfl
  obtain ⟨v0, v1, rfl, a, rfl, ha, k⟩ := h
  refine ⟨_, (pss_cons (ps_expr (pe_se (K := K) rfl rfl T.m_StaffError T.rd_StaffError T.vi_StaffError (pa_cons (pv 0) (pa_cons pe_str pa_nil))))
    (pss_one (ps_os (K := K) rfl (pv 0) (pv 1)))), ?_⟩
  walk_at "u"
  refine s_sek T.er_NoPlace.oex ha ?_
  walk_at "u"
  exact ⟨a, T.C_NoPlace, rfl, T.er_NoPlace.oex, T.er_NoPlace.no, ha, k⟩
theorem ok_NoStretch_init (T : Tx K mg) : FnOk P w K mg base (L2.CX P w) 1 T.a_NoStretch_init T.d_NoStretch_init ["self", "found"] (spE T.C_NoStretch "found") := by
  refine T.F_NoStretch_init.okX sc_NoStretch_init (fun vs H Q E h => ?_) (fun cd A o s H vs Q E hr h => ?_)
  · obtain ⟨v0, v1, rfl, h⟩ := h; rfl
  obtain ⟨v0, v1, rfl, a, rfl, ha, k⟩ := h
  refine ⟨_, (pss_cons (ps_expr (pe_se (K := K) rfl rfl T.m_StaffError T.rd_StaffError T.vi_StaffError (pa_cons (pv 0) (pa_cons pe_str pa_nil))))
    (pss_one (ps_os (K := K) rfl (pv 0) (pv 1)))), ?_⟩
  walk_at "u"
  refine s_sek T.er_NoStretch.oex ha ?_
  walk_at "u"
  exact ⟨a, T.C_NoStretch, rfl, T.er_NoStretch.oex, T.er_NoStretch.no, ha, k⟩
theorem ok_NoLong_init (T : Tx K mg) : FnOk P w K mg base (L2.CX P w) 1 T.a_NoLong_init T.d_NoLong_init ["self", "found"] (spE T.C_NoLong "found") := by
  refine T.F_NoLong_init.okX sc_NoLong_init (fun vs H Q E h => ?_) (fun cd A o s H vs Q E hr h => ?_)
  · obtain ⟨v0, v1, rfl, h⟩ := h; rfl
  obtain ⟨v0, v1, rfl, a, rfl, ha, k⟩ := h
  refine ⟨_, (pss_cons (ps_expr (pe_se (K := K) rfl rfl T.m_StaffError T.rd_StaffError T.vi_StaffError (pa_cons (pv 0) (pa_cons pe_str pa_nil))))
    (pss_one (ps_os (K := K) rfl (pv 0) (pv 1)))), ?_⟩
  walk_at "u"
  refine s_sek T.er_NoLong.oex ha ?_
  walk_at "u"
  exact ⟨a, T.C_NoLong, rfl, T.er_NoLong.oex, T.er_NoLong.no, ha, k⟩
theorem ok_NoPlaces_init (T : Tx K mg) : FnOk P w K mg base (L2.CX P w) 1 T.a_NoPlaces_init T.d_NoPlaces_init ["self", "found"] (spE T.C_NoPlaces "found") := by
  refine T.F_NoPlaces_init.okX sc_NoPlaces_init (fun vs H Q E h => ?_) (fun cd A o s H vs Q E hr h => ?_)
  · obtain ⟨v0, v1, rfl, h⟩ := h; rfl
  obtain ⟨v0, v1, rfl, a, rfl, ha, k⟩ := h
  refine ⟨_, (pss_cons (ps_expr (pe_se (K := K) rfl rfl T.m_StaffError T.rd_StaffError T.vi_StaffError (pa_cons (pv 0) (pa_cons pe_str pa_nil))))
    (pss_one (ps_os (K := K) rfl (pv 0) (pv 1)))), ?_⟩
  walk_at "u"
  refine s_sek T.er_NoPlaces.oex ha ?_
  walk_at "u"
  exact ⟨a, T.C_NoPlaces, rfl, T.er_NoPlaces.oex, T.er_NoPlaces.no, ha, k⟩
theorem ok_NoStretches_init (T : Tx K mg) : FnOk P w K mg base (L2.CX P w) 1 T.a_NoStretches_init T.d_NoStretches_init ["self", "found"] (spE T.C_NoStretches "found") := by
  refine T.F_NoStretches_init.okX sc_NoStretches_init (fun vs H Q E h => ?_) (fun cd A o s H vs Q E hr h => ?_)
  · obtain ⟨v0, v1, rfl, h⟩ := h; rfl
  obtain ⟨v0, v1, rfl, a, rfl, ha, k⟩ := h
  refine ⟨_, (pss_cons (ps_expr (pe_se (K := K) rfl rfl T.m_StaffError T.rd_StaffError T.vi_StaffError (pa_cons (pv 0) (pa_cons pe_str pa_nil))))
    (pss_one (ps_os (K := K) rfl (pv 0) (pv 1)))), ?_⟩
  walk_at "u"
  refine s_sek T.er_NoStretches.oex ha ?_
  walk_at "u"
  exact ⟨a, T.C_NoStretches, rfl, T.er_NoStretches.oex, T.er_NoStretches.no, ha, k⟩
theorem ok_NoLongs_init (T : Tx K mg) : FnOk P w K mg base (L2.CX P w) 1 T.a_NoLongs_init T.d_NoLongs_init ["self", "found"] (spE T.C_NoLongs "found") := by
  refine T.F_NoLongs_init.okX sc_NoLongs_init (fun vs H Q E h => ?_) (fun cd A o s H vs Q E hr h => ?_)
  · obtain ⟨v0, v1, rfl, h⟩ := h; rfl
  obtain ⟨v0, v1, rfl, a, rfl, ha, k⟩ := h
  refine ⟨_, (pss_cons (ps_expr (pe_se (K := K) rfl rfl T.m_StaffError T.rd_StaffError T.vi_StaffError (pa_cons (pv 0) (pa_cons pe_str pa_nil))))
    (pss_one (ps_os (K := K) rfl (pv 0) (pv 1)))), ?_⟩
  walk_at "u"
  refine s_sek T.er_NoLongs.oex ha ?_
  walk_at "u"
  exact ⟨a, T.C_NoLongs, rfl, T.er_NoLongs.oex, T.er_NoLongs.no, ha, k⟩
theorem ok_NoNumber_init (T : Tx K mg) : FnOk P w K mg base (L2.CX P w) 1 T.a_NoNumber_init T.d_NoNumber_init ["self", "found"] (spE T.C_NoNumber "found") := by
  refine T.F_NoNumber_init.okX sc_NoNumber_init (fun vs H Q E h => ?_) (fun cd A o s H vs Q E hr h => ?_)
  · obtain ⟨v0, v1, rfl, h⟩ := h; rfl
  obtain ⟨v0, v1, rfl, a, rfl, ha, k⟩ := h
  refine ⟨_, (pss_cons (ps_expr (pe_se (K := K) rfl rfl T.m_StaffError T.rd_StaffError T.vi_StaffError (pa_cons (pv 0) (pa_cons pe_str pa_nil))))
    (pss_one (ps_os (K := K) rfl (pv 0) (pv 1)))), ?_⟩
  walk_at "u"
  refine s_sek T.er_NoNumber.oex ha ?_
  walk_at "u"
  exact ⟨a, T.C_NoNumber, rfl, T.er_NoNumber.oex, T.er_NoNumber.no, ha, k⟩
theorem ok_Twice_init (T : Tx K mg) : FnOk P w K mg base (L2.CX P w) 1 T.a_Twice_init T.d_Twice_init ["self", "found"] (spE T.C_Twice "found") := by
  refine T.F_Twice_init.okX sc_Twice_init (fun vs H Q E h => ?_) (fun cd A o s H vs Q E hr h => ?_)
  · obtain ⟨v0, v1, rfl, h⟩ := h; rfl
  obtain ⟨v0, v1, rfl, a, rfl, ha, k⟩ := h
  refine ⟨_, (pss_cons (ps_expr (pe_se (K := K) rfl rfl T.m_StaffError T.rd_StaffError T.vi_StaffError (pa_cons (pv 0) (pa_cons pe_str pa_nil))))
    (pss_one (ps_os (K := K) rfl (pv 0) (pv 1)))), ?_⟩
  walk_at "u"
  refine s_sek T.er_Twice.oex ha ?_
  walk_at "u"
  exact ⟨a, T.C_Twice, rfl, T.er_Twice.oex, T.er_Twice.no, ha, k⟩
theorem ok_NoText_init (T : Tx K mg) : FnOk P w K mg base (L2.CX P w) 1 T.a_NoText_init T.d_NoText_init ["self", "row"] (spE T.C_NoText "row") := by
  refine T.F_NoText_init.okX sc_NoText_init (fun vs H Q E h => ?_) (fun cd A o s H vs Q E hr h => ?_)
  · obtain ⟨v0, v1, rfl, h⟩ := h; rfl
  obtain ⟨v0, v1, rfl, a, rfl, ha, k⟩ := h
  refine ⟨_, (pss_cons (ps_expr (pe_se (K := K) rfl rfl T.m_StaffError T.rd_StaffError T.vi_StaffError (pa_cons (pv 0) (pa_cons pe_str pa_nil))))
    (pss_one (ps_os (K := K) rfl (pv 0) (pv 1)))), ?_⟩
  walk_at "u"
  refine s_sek T.er_NoText.oex ha ?_
  walk_at "u"
  exact ⟨a, T.C_NoText, rfl, T.er_NoText.oex, T.er_NoText.no, ha, k⟩
/-- take: a number below many -/
def sp_law_take : Sp := sp2 fun x y H Q _ => ∃ (p : Addr) (m : Int) (n : Nat), x = .ref p ∧ y = .int m ∧ Box H p n ∧ n ≤ 1000000 ∧ 0 < m ∧ m < 10 ^ 40 ∧
  ∀ (d : Int) (H' : Hp), 0 ≤ d → d < m → Box H' p (n + 1) → Kp [p] H H' → Q (.int d) H'
set_option maxHeartbeats 16000000 in
theorem ok_law_take (T : Tx K mg) : FnOk P w K mg base (L2.CX P w) 1 T.a_law_take T.d_law_take ["_law_box_here", "_law_many"] (sp_law_take) := by
  refine T.F_law_take.okX sc_law_take (fun vs H Q E h => ?_) (fun cd A o s H vs Q E hr h => ?_)
  · obtain ⟨v0, v1, rfl, h⟩ := h; rfl
  obtain ⟨v0, v1, rfl, h⟩ := h
  obtain ⟨p, m, n, rfl, rfl, ⟨a, b, c, hp, ha, hb, hb2, hc, hc2⟩, hn, hm, hm2, k⟩ := h
  refine ⟨_, (pss_cons (ps_if (pt_cmpR o_gt (pe_ix (ix_u (K := K) rfl) (pv 0) pe_int (fun _ _ => rfl)) pe_int (nomark _))
    (pss_cons (ps_set (i := 3) sc_law_take.nd rfl (Or.inl rfl) (pe_op o_mod (pe_ix (ix_u (K := K) rfl) (pv 0) pe_int (fun _ _ => rfl)) (pv 1)))
    (pss_cons (ps_asg (pe_op o_div (pe_ix (ix_u (K := K) rfl) (pv 0) pe_int (fun _ _ => rfl)) (pv 1)) (pg_sub (pv 0) pe_int (set_u hr)))
    (pss_one (ps_ret (pv 3)))))
    pss_nil)
    (pss_cons (ps_asg (pe_op (o_add (K := K) rfl) (pe_ix (ix_u (K := K) rfl) (pv 0) pe_int (fun _ _ => rfl)) pe_int) (pg_sub (pv 0) pe_int (set_u hr)))
    (pss_cons (ps_set (i := 2) sc_law_take.nd rfl (Or.inl rfl) (pe_op o_mod (pe_op o_pow (pe_op (o_add (K := K) rfl) (pe_op (o_add (K := K) rfl) (pe_ix (ix_u (K := K) rfl) (pv 0) pe_int (fun _ _ => rfl)) (pe_op o_mul pe_int (pe_ix (ix_u (K := K) rfl) (pv 0) pe_int (fun _ _ => rfl)))) pe_int) pe_int) pe_int))
    (pss_cons (ps_set (i := 2) sc_law_take.nd rfl (Or.inl rfl) (pe_op o_mod (pe_op o_pow (pe_op (o_add (K := K) rfl) (pv 2) (pe_op o_mul pe_int (pe_ix (ix_u (K := K) rfl) (pv 0) pe_int (fun _ _ => rfl)))) pe_int) pe_int))
    (pss_one (ps_ret (pe_op o_mod (pe_op o_div (pv 2) pe_int) (pv 1)))))))), ?_⟩
  rw [st_law_take]
  walk_at "u"
  refine s_ite (fun h0 => ?_) (fun h0 => ?_)
  · walk_at "u"
    refine s_ul hp rfl rfl fun H1 e1 k1 => ?_
    walk_at "u"
    refine k _ _ (Int.emod_nonneg _ (by omega)) (Int.emod_lt_of_pos _ hm) ⟨_, _, _, e1, Int.ediv_nonneg ha (by omega), hb, hb2, hc, by omega⟩ k1
  · walk_at "u"
    refine s_ul hp rfl rfl fun H1 e1 k1 => ?_
    walk_at "u"
    have h1 : (0 : Int) ≤ (b + 7919 * (c + 1) + 31) ^ 5 % 2147483647 := Int.emod_nonneg _ (by omega)
    have h2 : (b + 7919 * (c + 1) + 31) ^ 5 % 2147483647 < 2147483647 := Int.emod_lt_of_pos _ (by omega)
    generalize (b + 7919 * (c + 1) + 31) ^ 5 % 2147483647 = y at h1 h2 ⊢
    walk_at "u"
    refine k _ _ (Int.emod_nonneg _ (by omega)) (Int.emod_lt_of_pos _ hm) ⟨_, _, _, e1, ha, hb, hb2, by omega, by omega⟩ k1
theorem c_take {p : Addr} {m : Int} {n : Nat} {H : Hp} {Q : VK} {E : XK} (hB : Box H p n) (hn : n ≤ 1000000) (h0 : 0 < m) (h1 : m < 10 ^ 40)
    (k : ∀ (d : Int) (H' : Hp), 0 ≤ d → d < m → Box H' p (n + 1) → Kp [p] H H' → Q (.int d) H') : sp_law_take [.ref p, .int m] H Q E := ⟨_, _, rfl, p, m, n, rfl, rfl, hB, hn, h0, h1, k⟩
def sp_law_cell (K : PySem.W.Frag) : Sp := sp2 fun x y H Q _ => ∃ (a : Addr) (ns : List Int) (k : Int), x = .ref a ∧ y = .int k ∧ SqL K H a (ns.map V.int) ∧ 0 ≤ k ∧ k < 1000 ∧ ∀ c : Int, Q (.int c) H
set_option maxHeartbeats 16000000 in
theorem ok_law_cell (T : Tx K mg) : FnOk P w K mg base (L2.CX P w) 1 T.a_law_cell T.d_law_cell ["_law_script", "_law_k"] (sp_law_cell K) := by
  refine T.F_law_cell.okX sc_law_cell (fun vs H Q E h => ?_) (fun cd A o s H vs Q E hr h => ?_)
  · obtain ⟨v0, v1, rfl, h⟩ := h; rfl
  obtain ⟨v0, v1, rfl, h⟩ := h
  obtain ⟨a, ns, k, rfl, rfl, hS, h0, h1, q⟩ := h
  refine ⟨_, (pss_cons (ps_if (pt_cmpR o_lt (pv 1) (pe_callB (c_len (K := K) rfl) rfl T.z_len bt_len (pa_cons (pv 0) pa_nil)) (nomark _))
    (pss_one (ps_ret (pe_ix (ix_u (K := K) rfl) (pv 0) (pv 1) (fun _ _ => rfl))))
    pss_nil)
    (pss_one (ps_ret (pe_op (o_add (K := K) rfl) (pe_op o_mul pe_int (pv 1)) pe_int)))), ?_⟩
  rw [st_law_cell]
  walk_at "u"
  refine s_lenL hS ?_
  walk_at "u"
  rw [List.length_map]
  refine s_ite (fun h2 => ?_) (fun h2 => ?_)
  · walk_at "u"
    obtain ⟨z, e1, e2⟩ := at_int (xs := ns.map V.int) h0 (by rw [List.length_map]; exact h2)
    rw [List.getElem?_map] at e1
    obtain ⟨c, _, rfl⟩ := Option.map_eq_some_iff.mp e1
    refine s_ixL hS e2 ?_
    walk_at "u"
    exact q c
  · walk_at "u"
    exact q _
theorem c_cell {K : PySem.W.Frag} {a : Addr} {ns : List Int} {k : Int} {H : Hp} {Q : VK} {E : XK} (hS : SqL K H a (ns.map V.int)) (h0 : 0 ≤ k) (h1 : k < 1000) (q : ∀ c : Int, Q (.int c) H) : sp_law_cell K [.ref a, .int k] H Q E := ⟨_, _, rfl, a, ns, k, rfl, rfl, hS, h0, h1, q⟩
def sp_law_box : Sp := sp1 fun x H Q _ => ∃ (c : Int), x = .int c ∧ ∀ p H', H p = none → Kp [] H H' → Box H' p 0 → Q (.ref p) H'
set_option maxHeartbeats 16000000 in
theorem ok_law_box (T : Tx K mg) : FnOk P w K mg base (L2.CX P w) 1 T.a_law_box T.d_law_box ["_law_cell_here"] (sp_law_box) := by
  refine T.F_law_box.okX sc_law_box (fun vs H Q E h => ?_) (fun cd A o s H vs Q E hr h => ?_)
  · obtain ⟨v0, rfl, h⟩ := h; rfl
  obtain ⟨v0, rfl, h⟩ := h
  obtain ⟨c, rfl, k⟩ := h
  refine ⟨_, (pss_one (ps_ret (pe_lst (pa_cons (pe_callB (c_max rfl) rfl T.z_max bt_max (pa_cons pe_int (pa_cons (pe_op o_sub (pv 0) (pe_op o_pow pe_int pe_int)) pa_nil))) (pa_cons (pe_op o_mod (pv 0) pe_int) (pa_cons pe_int pa_nil)))))), ?_⟩
  rw [st_law_box]
  walk_at "u"
  refine s_newl (zle (by simp)) fun p H1 hp e1 k1 => k p _ hp k1 ⟨_, _, _, e1, ?_, Int.emod_nonneg _ (by decide), Int.emod_lt_of_pos _ (by decide), Int.le_refl _, Int.le_refl _⟩
  split <;> omega
theorem c_box {c : Int} {H : Hp} {Q : VK} {E : XK} (q : ∀ p H', H p = none → Kp [] H H' → Box H' p 0 → Q (.ref p) H') : sp_law_box [.int c] H Q E := ⟨_, rfl, c, rfl, q⟩
local macro_rules | `(tactic| walk_at "tk") => `(tactic| (refine c_take (by walk_at "g") (by omega) (by first | decide | omega) (by first | decide | omega) ?_))
local macro_rules | `(tactic| walk_at "cl") => `(tactic| (refine c_cell (by walk_at "g") (by omega) (by omega) ?_))

def isWhole (v : V) (lo hi : Int) : Bool := match v with | .int i => decide (lo ≤ i) && decide (i ≤ hi) | _ => false
def sp_is_whole : Sp := sp3 fun x y z H Q _ => ∃ (lo hi : Int) (t : Kd), y = .int lo ∧ z = .int hi ∧ TyN H x t ∧ Q (.bl (isWhole x lo hi)) H
set_option maxHeartbeats 16000000 in
theorem ok_is_whole (T : Tx K mg) : FnOk P w K mg base (L2.CX P w) 1 T.a_is_whole T.d_is_whole ["thing", "low", "high"] (sp_is_whole) := by
  refine T.F_is_whole.okX sc_is_whole (fun vs H Q E h => ?_) (fun cd A o s H vs Q E hr h => ?_)
  · obtain ⟨v0, v1, v2, rfl, h⟩ := h; rfl
  obtain ⟨v0, v1, v2, rfl, h⟩ := h
  obtain ⟨lo, hi, t, rfl, rfl, ht, k⟩ := h
  refine ⟨_, (pss_one (ps_ret (pe_and (pe_callB (c_isi (K := K) rfl) rfl T.z_isinstance bt_isinstance (pa_cons (pv 0) (pa_cons (pe_ty rfl T.z_int bt_int) pa_nil))) (pe_and (pe_not (pe_callB (c_isi (K := K) rfl) rfl T.z_isinstance bt_isinstance (pa_cons (pv 0) (pa_cons (pe_ty rfl T.z_bool bt_bool) pa_nil)))) (pe_one (pe_chain o_le o_le (pv 1) (pv 0) (pv 2))))))), ?_⟩
  rw [st_is_whole]
  cases ht <;> walk_at "u"
  all_goals try exact k
  rename_i i
  refine s_ite (fun h1 => ?_) (fun h1 => ?_)
  · walk_at "u"
    have e : isWhole (V.int i) lo hi = (decide (lo ≤ i) && decide (i ≤ hi)) := rfl
    rw [e, decide_eq_true h1, Bool.true_and] at k
    exact k
  · have e : isWhole (V.int i) lo hi = (decide (lo ≤ i) && decide (i ≤ hi)) := rfl
    rw [e, decide_eq_false h1, Bool.false_and] at k
    exact k
theorem whole_int {v : V} {lo hi : Int} (h : isWhole v lo hi = true) : ∃ n, v = .int n ∧ lo ≤ n ∧ n ≤ hi := by
  cases v <;> simp_all [isWhole]

def letters : Str := "abcdefghijklmnopqrstuvwxyz"
def isName (v : V) : Bool := match v with | .str z => decide (1 ≤ z.length ∧ z.length ≤ 6) && z.cps.toList.all (fun c => decide (c ∈ letters.cps.toList)) | _ => false
def Small (v : V) : Prop := match v with | .str z => SS z 1000 | _ => True
def sp_is_name : Sp := sp1 fun x H Q _ => ∃ t, TyN H x t ∧ Small x ∧ ∀ H', Kp [] H H' → Q (.bl (isName x)) H'
theorem take_one {α : Type} {xs : List α} {i : Nat} {x : α} (h : xs[i]? = some x) : xs.take (i + 1) = xs.take i ++ [x] := by
  rw [List.take_add_one, h]; rfl
set_option maxHeartbeats 16000000 in
theorem ok_is_name (T : Tx K mg) : FnOk P w K mg base (L2.CX P w) 1 T.a_is_name T.d_is_name ["thing"] (sp_is_name) := by
  refine T.F_is_name.okX sc_is_name (fun vs H Q E h => ?_) (fun cd A o s H vs Q E hr h => ?_)
  · obtain ⟨v0, rfl, h⟩ := h; rfl
  obtain ⟨v0, rfl, h⟩ := h
  obtain ⟨t, ht, hz, k⟩ := h
  refine ⟨_, (pss_cons (ps_if (PW.pt (pw_or (pt_not (pt_val (pe_callB (c_isi (K := K) rfl) rfl T.z_isinstance bt_isinstance (pa_cons (pv 0) (pa_cons (pe_ty rfl T.z_str bt_str) pa_nil))))) (pw_or1 (pt_not (pt_chain o_le o_le pe_int (pe_callB (c_len (K := K) rfl) rfl T.z_len bt_len (pa_cons (pv 0) pa_nil)) (pe_glob rfl T.mc_LONGEST T.rc_LONGEST))))))
    (pss_one (ps_ret pe_bl))
    pss_nil)
    (pss_one (ps_ret (pe_callB (c_all (K := K) rfl rfl) rfl T.z_all bt_all (pa_cons (pe_lc (own := [("sign", 1)]) rfl sc_is_name.nd (pi_str (pv 0)) (blkOk_by (own := [("sign", 1)]) (N := N_is_name) (sc := defScope s_is_name) (by decide +kernel)) (fun _ _ _ _ _ => (pg_name (i := 1) sc_is_name.nd rfl (Or.inl rfl))) (fun _ _ _ _ _ => pts_nil) (fun _ _ _ _ _ => (pe_cmpR (o_in (K := K) rfl) (pv 1) (pe_glob rfl T.mc_LETTERS T.rc_LETTERS) rfl))) pa_nil))))), ?_⟩
  rw [st_is_name]
  cases ht <;> walk_at "u"
  all_goals try exact k _ Kp.refl
  rename_i z
  obtain ⟨hz, hz2⟩ : SS z 1000 := hz
  refine s_lens (zle (by omega)) ?_
  walk_at "u"
  have key : ∀ b : Bool, (decide (1 ≤ (z.length : Int)) && decide ((z.length : Int) ≤ 6)) = b → (b = true → ∀ H', Kp [] H H' → Q (.bl (z.cps.toList.all fun c => decide (c ∈ letters.cps.toList))) H') ∧ (b = false → ∀ H', Kp [] H H' → Q (.bl false) H') := by
    intro b hb
    refine ⟨fun e H' kp => ?_, fun e H' kp => ?_⟩
    · subst e
      have q := k H' kp
      have e2 : isName (V.str z) = (decide (1 ≤ z.length ∧ z.length ≤ 6) && z.cps.toList.all fun c => decide (c ∈ letters.cps.toList)) := rfl
      rw [Bool.and_eq_true, decide_eq_true_eq, decide_eq_true_eq] at hb
      rw [e2, decide_eq_true (by omega), Bool.true_and] at q
      exact q
    · subst e
      have q := k H' kp
      have e2 : isName (V.str z) = (decide (1 ≤ z.length ∧ z.length ≤ 6) && z.cps.toList.all fun c => decide (c ∈ letters.cps.toList)) := rfl
      have hb : ¬ (1 ≤ z.length ∧ z.length ≤ 6) := fun h => by
        rw [decide_eq_true (by omega), decide_eq_true (by omega)] at hb
        cases hb
      rw [e2, decide_eq_false hb, Bool.false_and] at q
      exact q
  refine s_ite (fun h1 => ?_) (fun h1 => ?_)
  · walk_at "u"
    refine s_itn (fun h2 => ?_) (fun h2 => ?_)
    · walk_at "u"
      exact (key false (by rw [decide_eq_true h1, decide_eq_false h2]; rfl)).2 rfl _ Kp.refl
    · walk_at "u"
      intro D hD
      refine lc_it walk_str (PvD D fun i acc H' => Kp [D] H H' ∧ acc = (z.cps.toList.take i).map fun c => V.bl (decide (c ∈ letters.cps.toList))) (PvD.begin hD fun H7 e7 k7 => ⟨by walk_at "k", rfl⟩) (fun _ _ _ _ => trivial) ?_ ?_
      · rintro i x H1 H2 hi ⟨acc, e, kp, rfl⟩ ⟨rfl, c, hc, rfl⟩
        walk_at "u"
        refine ⟨rfl, ?_⟩
        walk_at "u"
        refine PvD.add e ?_ fun H9 e9 k9 => ⟨by walk_at "k", ?_⟩
        · rw [List.length_map, List.length_take]
          have : i < z.length := hi
          omega
        · rw [take_one (x := c) (by simpa using hc), List.map_append]
          rfl
      · rintro H2 ⟨acc, e, kp, rfl⟩
        walk_at "u"
        rw [List.take_of_length_le (by simp)] at e
        refine s_all (bs := z.cps.toList.map fun c => decide (c ∈ letters.cps.toList)) (by rw [List.map_map]; exact e) ?_
        rw [List.all_map]
        exact (key true (by rw [decide_eq_true h1, decide_eq_true h2]; rfl)).1 rfl _ (kp.drop hD)
  · walk_at "u"
    exact (key false (by rw [decide_eq_false h1]; rfl)).2 rfl _ Kp.refl

theorem c_name {z : Str} {H : Hp} {Q : VK} {E : XK} (h : SS z 1000) (q : ∀ H', Kp [] H H' → Q (.bl (isName (.str z))) H') : sp_is_name [.str z] H Q E := ⟨_, rfl, _, .str, h, q⟩

def sp_is_row : Sp := sp2 fun x y H Q _ => ∃ (a : Addr) (xs : List V) (n : Int), x = .ref a ∧ y = .int n ∧ H a = some (.tup xs) ∧ Q (.bl (decide ((xs.length : Int) = n))) H
set_option maxHeartbeats 16000000 in
theorem ok_is_row (T : Tx K mg) : FnOk P w K mg base (L2.CX P w) 1 T.a_is_row T.d_is_row ["thing", "size"] (sp_is_row) := by
  refine T.F_is_row.okX sc_is_row (fun vs H Q E h => ?_) (fun cd A o s H vs Q E hr h => ?_)
  · obtain ⟨v0, v1, rfl, h⟩ := h; rfl
  obtain ⟨v0, v1, rfl, h⟩ := h
  obtain ⟨a, xs, n, rfl, rfl, h, k⟩ := h
  refine ⟨_, (pss_one (ps_ret (pe_and (pe_callB (c_isi (K := K) rfl) rfl T.z_isinstance bt_isinstance (pa_cons (pv 0) (pa_cons (pe_ty rfl T.z_tuple bt_tuple) pa_nil))) (pe_one (pe_cmpR (o_eq (K := K) rfl hr) (pe_callB (c_len (K := K) rfl) rfl T.z_len bt_len (pa_cons (pv 0) pa_nil)) (pv 1) (nomark _)))))), ?_⟩
  rw [st_is_row]
  walk_at "u"
  refine s_lent h ?_
  walk_at "u"
  exact k
theorem c_row {a : Addr} {xs : List V} {n : Int} {H : Hp} {Q : VK} {E : XK} (h : H a = some (.tup xs)) (e : (xs.length : Int) = n) (q : Q (.bl true) H) : sp_is_row [.ref a, .int n] H Q E :=
  ⟨_, _, rfl, a, xs, n, rfl, rfl, h, by rw [decide_eq_true e]; exact q⟩
abbrev Pl := List (Str × Int)
abbrev Lo := List (Int × Int × Int)
def rP (pl : Pl) : List (List V) := pl.map fun q => [V.str q.1, V.int q.2]
def rL (lo : Lo) : List (List V) := lo.map fun q => [V.int q.1, V.int q.2.1, V.int q.2.2]
theorem rP_at {pl : Pl} {i : Nat} {r : List V} (h : (rP pl)[i]? = some r) : ∃ q, pl[i]? = some q ∧ r = [V.str q.1, V.int q.2] := by
  unfold rP at h
  rw [List.getElem?_map] at h
  obtain ⟨q, e, rfl⟩ := Option.map_eq_some_iff.mp h
  exact ⟨q, e, rfl⟩
theorem rL_at {lo : Lo} {i : Nat} {r : List V} (h : (rL lo)[i]? = some r) : ∃ q, lo[i]? = some q ∧ r = [V.int q.1, V.int q.2.1, V.int q.2.2] := by
  unfold rL at h
  rw [List.getElem?_map] at h
  obtain ⟨q, e, rfl⟩ := Option.map_eq_some_iff.mp h
  exact ⟨q, e, rfl⟩
structure GoodP (pl : Pl) : Prop where
  l2 : 2 ≤ pl.length
  l6 : pl.length ≤ 6
  nm : ∀ q ∈ pl, isName (.str q.1) = true ∧ SS q.1 20
  nd : (pl.map (·.1)).Nodup
  rd : ∀ q ∈ pl, 1 ≤ q.2 ∧ q.2 ≤ 3
structure GoodS (st : Pl) (many : Nat) : Prop where
  ln : st.length = many
  ok : ∀ q ∈ st, (q.1 = "staff" ∨ q.1 = "ticket") ∧ (q.2 = 0 ∨ q.2 = 1)
/-- each one begins where the one ahead ends, or behind it -/
def GoodL : Int → Int → Lo → Prop
  | _, _, [] => True
  | low, high, q :: r => low ≤ q.1 ∧ q.1 + 2 ≤ q.2.1 ∧ q.2.1 ≤ high ∧ (q.2.2 = 0 ∨ q.2.2 = 1) ∧ GoodL q.2.1 high r
def lowAt (low : Int) (lo : Lo) (i : Nat) : Int := match i with | 0 => low | j + 1 => match lo[j]? with | some q => q.2.1 | none => low
theorem GoodL.at {high : Int} : ∀ {low : Int} {lo : Lo} {i : Nat} {q : Int × Int × Int}, GoodL low high lo → lo[i]? = some q → lowAt low lo i ≤ q.1 ∧ q.1 + 2 ≤ q.2.1 ∧ q.2.1 ≤ high ∧ (q.2.2 = 0 ∨ q.2.2 = 1)
  | low, p :: r, 0, q, h, e => by
    cases Option.some.inj e
    exact ⟨h.1, h.2.1, h.2.2.1, h.2.2.2.1⟩
  | low, p :: r, i + 1, q, h, e => by
    have := GoodL.at (low := p.2.1) (lo := r) (i := i) (q := q) h.2.2.2.2 (by simpa using e)
    cases i with
    | zero => simpa [lowAt] using this
    | succ i =>
      simp only [lowAt, List.getElem?_cons_succ] at this ⊢
      have hi : i < r.length := by
        have := (List.getElem?_eq_some_iff.mp e).1
        simp at this
        omega
      rw [List.getElem?_eq_getElem hi] at this ⊢
      exact this
def SqV (H : Hp) (v : V) (vs : List V) : Prop := ∃ a, v = V.ref a ∧ (H a = some (.lst vs) ∨ H a = some (.tup vs))
theorem SqV.ty {H : Hp} {a : Addr} {vs : List V} (h : H a = some (.lst vs) ∨ H a = some (.tup vs)) : ∃ kd, TyN H (.ref a) kd ∧ kd.isSeq = true := by
  rcases h with h | h
  · exact ⟨_, .lst h, rfl⟩
  · exact ⟨_, .tup h, rfl⟩
theorem s_lenq {H : Hp} {a : Addr} {vs : List V} {Q : VK} (h : H a = some (.lst vs) ∨ H a = some (.tup vs)) (q : Q (.int vs.length) H) : uLen K [.ref a] H Q := by
  rcases h with h | h
  · exact s_lenl h q
  · exact s_lent h q
theorem sq_kp {H H2 : Hp} {a : Addr} {vs : List V} (h : H a = some (.lst vs) ∨ H a = some (.tup vs)) (k : Kp [] H H2) : H2 a = some (.lst vs) ∨ H2 a = some (.tup vs) := h.imp k.get0 k.get0
theorem s_tupq {H : Hp} {a : Addr} {vs : List V} {Q : VK} (h : H a = some (.lst vs) ∨ H a = some (.tup vs)) (q : ∀ t H', H' t = some (.tup vs) → Kp [] H H' → Q (.ref t) H') : uTuple K [.ref a] H Q := by
  rcases h with h | h
  · exact s_tuple (SqL.of h) fun t H' _ e k => q t H' e k
  · exact s_tupleT h (q _ _ h Kp.refl)
def sp_good_places : Sp := sp1 fun x H Q _ => ∃ (vs : List V) (pl : Pl), SqV H x vs ∧ Rw H vs (rP pl) ∧ GoodP pl ∧ ∀ t H', H' t = some (.tup vs) → Kp [] H H' → Q (.ref t) H'
set_option maxHeartbeats 16000000 in
theorem ok_good_places (T : Tx K mg) : FnOk P w K mg base (L2.CX P w) 3 T.a_good_places T.d_good_places ["places"] (sp_good_places) := by
  have G_NoPlaces_init := ok_NoPlaces_init (P := P) (w := w) (base := base) T
  have G_is_row := ok_is_row (P := P) (w := w) (base := base) T
  have G_is_name := ok_is_name (P := P) (w := w) (base := base) T
  have G_NoName_init := ok_NoName_init (P := P) (w := w) (base := base) T
  have G_Twice_init := ok_Twice_init (P := P) (w := w) (base := base) T
  have G_is_whole := ok_is_whole (P := P) (w := w) (base := base) T
  have G_NoNumber_init := ok_NoNumber_init (P := P) (w := w) (base := base) T
  refine T.F_good_places.okX sc_good_places (fun vs H Q E h => ?_) (fun cd A o s H vs Q E hr h => ?_)
  · obtain ⟨v0, rfl, h⟩ := h; rfl
  obtain ⟨v0, rfl, h⟩ := h
  obtain ⟨vs, pl, ⟨a, rfl, ha⟩, hR, hG, k⟩ := h
  refine ⟨_, (pss_cons (ps_if (PW.pt (pw_or (pt_not (pt_val (pe_callB (c_isiT (K := K) rfl) rfl T.z_isinstance bt_isinstance (pa_cons (pv 0) (pa_cons (pe_tup (pa_cons (pe_ty rfl T.z_list bt_list) (pa_cons (pe_ty rfl T.z_tuple bt_tuple) pa_nil))) pa_nil))))) (pw_or1 (pt_not (pt_chain o_le o_le (pe_glob rfl T.mc_FEWEST_PLACES T.rc_FEWEST_PLACES) (pe_callB (c_len (K := K) rfl) rfl T.z_len bt_len (pa_cons (pv 0) pa_nil)) (pe_glob rfl T.mc_MOST_PLACES T.rc_MOST_PLACES))))))
    (pss_one (ps_rz rfl T.er_NoPlaces.oex T.er_NoPlaces.iC T.er_NoPlaces.tI G_NoPlaces_init (hr.mono (by decide)) T.B_NoPlaces_init rfl T.m_NoPlaces (takes_of (E := E) rfl rfl rfl rfl) (pv 0)))
    pss_nil)
    (pss_cons (ps_set (i := 1) sc_good_places.nd rfl (Or.inl rfl) (pe_lst pa_nil))
    (pss_cons (ps_for PassesOwn.leaving rfl (pi_seq (K := K) rfl (pv 0)) (pg_name (i := 2) sc_good_places.nd rfl (Or.inl rfl))
    (pss_cons (ps_if (pt_not (pt_val (pe_co G_is_row (hr.mono (by decide)) rfl T.m_is_row T.F_is_row.kp T.B_is_row (takes_of (E := E) rfl rfl rfl rfl) (pa_cons (pv 2) (pa_cons pe_int pa_nil)))))
    (pss_one (ps_rz rfl T.er_NoPlaces.oex T.er_NoPlaces.iC T.er_NoPlaces.tI G_NoPlaces_init (hr.mono (by decide)) T.B_NoPlaces_init rfl T.m_NoPlaces (takes_of (E := E) rfl rfl rfl rfl) (pv 2)))
    pss_nil)
    (pss_cons (ps_if (pt_not (pt_val (pe_co G_is_name (hr.mono (by decide)) rfl T.m_is_name T.F_is_name.kp T.B_is_name (takes_of (E := E) rfl rfl rfl rfl) (pa_cons (pe_ix (ix_u (K := K) rfl) (pv 2) pe_int (fun _ _ => rfl)) pa_nil))))
    (pss_one (ps_rz rfl T.er_NoName.oex T.er_NoName.iC T.er_NoName.tI G_NoName_init (hr.mono (by decide)) T.B_NoName_init rfl T.m_NoName (takes_of (E := E) rfl rfl rfl rfl) (pe_ix (ix_u (K := K) rfl) (pv 2) pe_int (fun _ _ => rfl))))
    pss_nil)
    (pss_cons (ps_if (pt_cmpR (o_in (K := K) rfl) (pe_ix (ix_u (K := K) rfl) (pv 2) pe_int (fun _ _ => rfl)) (pv 1) rfl)
    (pss_one (ps_rz rfl T.er_Twice.oex T.er_Twice.iC T.er_Twice.tI G_Twice_init (hr.mono (by decide)) T.B_Twice_init rfl T.m_Twice (takes_of (E := E) rfl rfl rfl rfl) (pe_ix (ix_u (K := K) rfl) (pv 2) pe_int (fun _ _ => rfl))))
    pss_nil)
    (pss_cons (ps_if (pt_not (pt_val (pe_co G_is_whole (hr.mono (by decide)) rfl T.m_is_whole T.F_is_whole.kp T.B_is_whole (takes_of (E := E) rfl rfl rfl rfl) (pa_cons (pe_ix (ix_u (K := K) rfl) (pv 2) pe_int (fun _ _ => rfl)) (pa_cons pe_int (pa_cons (pe_glob rfl T.mc_MOST_ROADS T.rc_MOST_ROADS) pa_nil))))))
    (pss_one (ps_rz rfl T.er_NoNumber.oex T.er_NoNumber.iC T.er_NoNumber.tI G_NoNumber_init (hr.mono (by decide)) T.B_NoNumber_init rfl T.m_NoNumber (takes_of (E := E) rfl rfl rfl rfl) (pe_ix (ix_u (K := K) rfl) (pv 2) pe_int (fun _ _ => rfl))))
    pss_nil)
    (pss_one (ps_expr (pe_bm PySem.F.plainAttrs_list PySem.F.slot_list_append PySem.F.type_list_append mt_append (pv 1) (pa_cons (pe_ix (ix_u (K := K) rfl) (pv 2) pe_int (fun _ _ => rfl)) pa_nil)))))))))
    (pss_one (ps_ret (pe_callTy (c_tuple (K := K) rfl) rfl T.z_tuple bt_tuple (pa_cons (pv 0) pa_nil))))))), ?_⟩
  rw [st_good_places]
  have hl : vs.length = pl.length := by rw [hR.len]; simp [rP]
  have h2 := hG.l2
  have h6 := hG.l6
  walk_at "u"
  walk_at "na"
  intro t1 H1 f1 e1 k1
  walk_at "u"
  obtain ⟨kd, ty, ts⟩ := SqV.ty (sq_kp ha k1)
  refine s_isSeq ty e1 ?_
  rw [ts]
  walk_at "u"
  refine s_lenq (sq_kp ha k1) ?_
  walk_at "u"
  rw [decide_eq_true (show (2 : Int) ≤ (vs.length : Int) by omega)]
  walk_at "u"
  rw [decide_eq_true (show (vs.length : Int) ≤ 6 by omega)]
  walk_at "u"
  walk_at "na"
  intro l2 H2 f2 e2 k2
  walk_at "u"
  have ha2 := sq_kp (sq_kp ha k1) k2
  refine for_sq ha2 (fun i σ H' => Kp [l2] H2 H' ∧ H' l2 = some (.lst (((pl.take i).map (·.1)).map V.str)) ∧ ∃ u2, σ = [some (.ref a), some (.ref l2), u2]) ⟨Kp.refl, e2, none, rfl⟩ (fun i σ' H' p o e => p.1.get1 e ?_) ?_ ?_
  · rcases ha with e | e <;> walk_at "ne"
  · rintro i x σ H' ex ⟨k3, e3, u2, rfl⟩
    obtain ⟨u, r, rfl, er, eu⟩ := hR.at ex
    obtain ⟨q, eq, rfl⟩ := rP_at er
    have mq := List.mem_of_getElem? eq
    obtain ⟨n1, n2⟩ := hG.nm q mq
    have n3 := hG.rd q mq
    have eu3 : H' u = some (.tup [.str q.1, .int q.2]) := by walk_at "gt"
    walk_at "u"
    refine c_row eu3 rfl ?_
    walk_at "u"
    refine c_name (n2.mono (by omega)) fun H4 k4 => ?_
    rw [n1]
    walk_at "u"
    have nin : ¬ q.1 ∈ (pl.take i).map (·.1) := by
      intro hm
      have nd := hG.nd
      have hi := (List.getElem?_eq_some_iff.mp eq).1
      rw [← List.take_append_drop i pl, List.map_append, List.nodup_append] at nd
      refine nd.2.2 q.1 hm q.1 ?_ rfl
      refine List.mem_map.mpr ⟨q, ?_, rfl⟩
      have : pl.drop i = q :: pl.drop (i + 1) := by
        rw [List.drop_eq_getElem_cons hi]
        rw [List.getElem?_eq_getElem hi] at eq
        rw [Option.some.inj eq]
      rw [this]
      simp
    rw [decide_eq_false nin]
    walk_at "u"
    refine ⟨_, _, _, rfl, 1, 3, .int, rfl, rfl, .int, ?_⟩
    rw [show isWhole (V.int q.2) 1 3 = true by simp [isWhole]; omega]
    walk_at "u"
    refine s_app (by walk_at "g") (zlt (by simp; omega)) fun H5 e5 k5 => ?_
    walk_at "u"
    refine ⟨by walk_at "k", ?_, _, rfl⟩
    rw [take_one eq, List.map_append, List.map_append]
    exact e5
  · rintro σ H' ⟨k3, e3, u2, rfl⟩
    walk_at "u"
    have ha3 : H' a = some (.lst vs) ∨ H' a = some (.tup vs) := by
      rcases ha with e | e
      · exact Or.inl (by walk_at "g")
      · exact Or.inr (by walk_at "g")
    refine s_tupq ha3 fun t H4 e4 k4 => ?_
    walk_at "u"
    exact k t H4 e4 (by walk_at "k")
def sp_is_stretch : Sp := sp1 fun x H Q _ => ∃ (a : Addr) (q : Str × Int), x = .ref a ∧ H a = some (.tup [.str q.1, .int q.2]) ∧ (q.1 = "staff" ∨ q.1 = "ticket") ∧ (q.2 = 0 ∨ q.2 = 1) ∧ ∀ H', Kp [] H H' → Q (.bl true) H'
set_option maxHeartbeats 16000000 in
theorem ok_is_stretch (T : Tx K mg) : FnOk P w K mg base (L2.CX P w) 2 T.a_is_stretch T.d_is_stretch ["thing"] (sp_is_stretch) := by
  have G_is_whole := ok_is_whole (P := P) (w := w) (base := base) T
  have G_is_row := ok_is_row (P := P) (w := w) (base := base) T
  refine T.F_is_stretch.okX sc_is_stretch (fun vs H Q E h => ?_) (fun cd A o s H vs Q E hr h => ?_)
  · obtain ⟨v0, rfl, h⟩ := h; rfl
  obtain ⟨v0, rfl, h⟩ := h
  obtain ⟨a, q, rfl, h, h1, h2, k⟩ := h
  refine ⟨_, (pss_cons (ps_if (PW.pt (pw_or (pt_not (pt_val (pe_co G_is_row (hr.mono (by decide)) rfl T.m_is_row T.F_is_row.kp T.B_is_row (takes_of (E := E) rfl rfl rfl rfl) (pa_cons (pv 0) (pa_cons pe_int pa_nil))))) (pw_or1 (pt_not (pt_val (pe_callB (c_isi (K := K) rfl) rfl T.z_isinstance bt_isinstance (pa_cons (pe_ix (ix_u (K := K) rfl) (pv 0) pe_int (fun _ _ => rfl)) (pa_cons (pe_ty rfl T.z_str bt_str) pa_nil))))))))
    (pss_one (ps_ret pe_bl))
    pss_nil)
    (pss_one (ps_ret (pe_and (pe_cmpR (o_in (K := K) rfl) (pe_ix (ix_u (K := K) rfl) (pv 0) pe_int (fun _ _ => rfl)) (pe_tup (pa_cons pe_str (pa_cons pe_str pa_nil))) rfl) (pe_one (pe_co G_is_whole (hr.mono (by decide)) rfl T.m_is_whole T.F_is_whole.kp T.B_is_whole (takes_of (E := E) rfl rfl rfl rfl) (pa_cons (pe_ix (ix_u (K := K) rfl) (pv 0) pe_int (fun _ _ => rfl)) (pa_cons pe_int (pa_cons pe_int pa_nil))))))))), ?_⟩
  rw [st_is_stretch]
  walk_at "u"
  refine c_row h rfl ?_
  walk_at "u"
  walk_at "na"
  intro t1 H1 f1 e1 k1
  refine s_inT (zs := ["staff", "ticket"]) (SqT.of e1) ?_
  rw [decide_eq_true (by simpa using h1)]
  walk_at "u"
  refine ⟨_, _, _, rfl, 0, 1, .int, rfl, rfl, .int, ?_⟩
  rw [show isWhole (V.int q.2) 0 1 = true by simp [isWhole]; omega]
  walk_at "u"
  exact k _ k1
def sp_good_stretches : Sp := sp2 fun x y H Q _ => ∃ (vs : List V) (st : Pl) (many : Nat), y = .int many ∧ SqV H x vs ∧ Rw H vs (rP st) ∧ GoodS st many ∧ many ≤ 10 ∧ ∀ t H', H' t = some (.tup vs) → Kp [] H H' → Q (.ref t) H'
set_option maxHeartbeats 16000000 in
theorem ok_good_stretches (T : Tx K mg) : FnOk P w K mg base (L2.CX P w) 3 T.a_good_stretches T.d_good_stretches ["stretches", "many"] (sp_good_stretches) := by
  have G_NoStretches_init := ok_NoStretches_init (P := P) (w := w) (base := base) T
  have G_is_stretch := ok_is_stretch (P := P) (w := w) (base := base) T
  refine T.F_good_stretches.okX sc_good_stretches (fun vs H Q E h => ?_) (fun cd A o s H vs Q E hr h => ?_)
  · obtain ⟨v0, v1, rfl, h⟩ := h; rfl
  obtain ⟨v0, v1, rfl, h⟩ := h
  obtain ⟨vs, st, many, rfl, ⟨a, rfl, ha⟩, hR, hG, hm, k⟩ := h
  refine ⟨_, (pss_cons (ps_if (PW.pt (pw_or (pt_not (pt_val (pe_callB (c_isiT (K := K) rfl) rfl T.z_isinstance bt_isinstance (pa_cons (pv 0) (pa_cons (pe_tup (pa_cons (pe_ty rfl T.z_list bt_list) (pa_cons (pe_ty rfl T.z_tuple bt_tuple) pa_nil))) pa_nil))))) (pw_or1 (pt_cmpR (o_ne (K := K) rfl hr) (pe_callB (c_len (K := K) rfl) rfl T.z_len bt_len (pa_cons (pv 0) pa_nil)) (pv 1) (nomark _)))))
    (pss_one (ps_rz rfl T.er_NoStretches.oex T.er_NoStretches.iC T.er_NoStretches.tI G_NoStretches_init (hr.mono (by decide)) T.B_NoStretches_init rfl T.m_NoStretches (takes_of (E := E) rfl rfl rfl rfl) (pv 0)))
    pss_nil)
    (pss_cons (ps_for PassesOwn.leaving rfl (pi_seq (K := K) rfl (pv 0)) (pg_name (i := 2) sc_good_stretches.nd rfl (Or.inl rfl))
    (pss_one (ps_if (pt_not (pt_val (pe_co G_is_stretch (hr.mono (by decide)) rfl T.m_is_stretch T.F_is_stretch.kp T.B_is_stretch (takes_of (E := E) rfl rfl rfl rfl) (pa_cons (pv 2) pa_nil))))
    (pss_one (ps_rz rfl T.er_NoStretches.oex T.er_NoStretches.iC T.er_NoStretches.tI G_NoStretches_init (hr.mono (by decide)) T.B_NoStretches_init rfl T.m_NoStretches (takes_of (E := E) rfl rfl rfl rfl) (pv 2)))
    pss_nil)))
    (pss_one (ps_ret (pe_callTy (c_tuple (K := K) rfl) rfl T.z_tuple bt_tuple (pa_cons (pv 0) pa_nil)))))), ?_⟩
  rw [st_good_stretches]
  have hl : vs.length = st.length := by rw [hR.len]; simp [rP]
  have h2 := hG.ln
  walk_at "u"
  walk_at "na"
  intro t1 H1 f1 e1 k1
  walk_at "u"
  obtain ⟨kd, ty, ts⟩ := SqV.ty (sq_kp ha k1)
  refine s_isSeq ty e1 ?_
  rw [ts]
  walk_at "u"
  refine s_lenq (sq_kp ha k1) ?_
  walk_at "u"
  rw [decide_eq_true (show (vs.length : Int) = (many : Int) by omega)]
  walk_at "u"
  refine for_sq (sq_kp ha k1) (fun i σ H' => Kp [] H1 H' ∧ ∃ u2, σ = [some (.ref a), some (.int many), u2]) ⟨Kp.refl, none, rfl⟩ (fun i σ' H' p o e => p.1.get0 e) ?_ ?_
  · rintro i x σ H' ex ⟨k3, u2, rfl⟩
    obtain ⟨u, r, rfl, er, eu⟩ := hR.at ex
    obtain ⟨q, eq, rfl⟩ := rP_at er
    obtain ⟨n1, n2⟩ := hG.ok q (List.mem_of_getElem? eq)
    walk_at "u"
    refine ⟨_, rfl, u, q, rfl, by walk_at "gt", n1, n2, fun H4 k4 => ?_⟩
    walk_at "u"
    exact ⟨by walk_at "k", _, rfl⟩
  · rintro σ H' ⟨k3, u2, rfl⟩
    walk_at "u"
    refine s_tupq (sq_kp (sq_kp ha k1) k3) fun t H4 e4 k4 => ?_
    walk_at "u"
    exact k t H4 e4 (by walk_at "k")
def sp_is_long : Sp := sp3 fun x y z H Q _ => ∃ (a : Addr) (q : Int × Int × Int) (low high : Int), x = .ref a ∧ y = .int low ∧ z = .int high ∧ H a = some (.tup [.int q.1, .int q.2.1, .int q.2.2]) ∧ low ≤ q.1 ∧ q.1 + 2 ≤ q.2.1 ∧ q.2.1 ≤ high ∧ (q.2.2 = 0 ∨ q.2.2 = 1) ∧ Q (.bl true) H
set_option maxHeartbeats 16000000 in
theorem ok_is_long (T : Tx K mg) : FnOk P w K mg base (L2.CX P w) 2 T.a_is_long T.d_is_long ["thing", "low", "high"] (sp_is_long) := by
  have G_is_whole := ok_is_whole (P := P) (w := w) (base := base) T
  have G_is_row := ok_is_row (P := P) (w := w) (base := base) T
  refine T.F_is_long.okX sc_is_long (fun vs H Q E h => ?_) (fun cd A o s H vs Q E hr h => ?_)
  · obtain ⟨v0, v1, v2, rfl, h⟩ := h; rfl
  obtain ⟨v0, v1, v2, rfl, h⟩ := h
  obtain ⟨a, q, low, high, rfl, rfl, rfl, h, h1, h2, h3, h4, k⟩ := h
  refine ⟨_, (pss_cons (ps_if (PW.pt (pw_or (pt_not (pt_val (pe_co G_is_row (hr.mono (by decide)) rfl T.m_is_row T.F_is_row.kp T.B_is_row (takes_of (E := E) rfl rfl rfl rfl) (pa_cons (pv 0) (pa_cons pe_int pa_nil))))) (pw_or (pt_not (pt_val (pe_co G_is_whole (hr.mono (by decide)) rfl T.m_is_whole T.F_is_whole.kp T.B_is_whole (takes_of (E := E) rfl rfl rfl rfl) (pa_cons (pe_ix (ix_u (K := K) rfl) (pv 0) pe_int (fun _ _ => rfl)) (pa_cons (pv 1) (pa_cons (pv 2) pa_nil)))))) (pw_or1 (pt_not (pt_val (pe_co G_is_whole (hr.mono (by decide)) rfl T.m_is_whole T.F_is_whole.kp T.B_is_whole (takes_of (E := E) rfl rfl rfl rfl) (pa_cons (pe_ix (ix_u (K := K) rfl) (pv 0) pe_int (fun _ _ => rfl)) (pa_cons (pv 1) (pa_cons (pv 2) pa_nil))))))))))
    (pss_one (ps_ret pe_bl))
    pss_nil)
    (pss_one (ps_ret (pe_and (pe_cmpR o_le (pe_op (o_add (K := K) rfl) (pe_ix (ix_u (K := K) rfl) (pv 0) pe_int (fun _ _ => rfl)) pe_int) (pe_ix (ix_u (K := K) rfl) (pv 0) pe_int (fun _ _ => rfl)) (nomark _)) (pe_one (pe_co G_is_whole (hr.mono (by decide)) rfl T.m_is_whole T.F_is_whole.kp T.B_is_whole (takes_of (E := E) rfl rfl rfl rfl) (pa_cons (pe_ix (ix_u (K := K) rfl) (pv 0) pe_int (fun _ _ => rfl)) (pa_cons pe_int (pa_cons pe_int pa_nil))))))))), ?_⟩
  rw [st_is_long]
  walk_at "u"
  refine c_row h rfl ?_
  walk_at "u"
  refine ⟨_, _, _, rfl, _, _, .int, rfl, rfl, .int, ?_⟩
  rw [show isWhole (V.int q.1) low high = true by simp [isWhole]; omega]
  walk_at "u"
  refine ⟨_, _, _, rfl, _, _, .int, rfl, rfl, .int, ?_⟩
  rw [show isWhole (V.int q.2.1) low high = true by simp [isWhole]; omega]
  walk_at "u"
  rw [decide_eq_true h2]
  walk_at "u"
  refine ⟨_, _, _, rfl, 0, 1, .int, rfl, rfl, .int, ?_⟩
  rw [show isWhole (V.int q.2.2) 0 1 = true by simp [isWhole]; omega]
  walk_at "u"
  exact k
def sp_good_longs : Sp := sp2 fun x y H Q _ => ∃ (many : Nat) (lo : Lo), y = .int many ∧ many ≤ 10 ∧ lo.length ≤ 2 ∧ GoodL 0 (many - 1) lo ∧ ((x = .non ∧ lo = []) ∨ ∃ vs, SqV H x vs ∧ Rw H vs (rL lo)) ∧
  ∀ t vs H', H' t = some (.tup vs) → Rw H' vs (rL lo) → Kp [] H H' → Q (.ref t) H'
set_option maxHeartbeats 16000000 in
theorem ok_good_longs (T : Tx K mg) : FnOk P w K mg base (L2.CX P w) 3 T.a_good_longs T.d_good_longs ["longs", "many"] (sp_good_longs) := by
  have G_NoLongs_init := ok_NoLongs_init (P := P) (w := w) (base := base) T
  have G_is_long := ok_is_long (P := P) (w := w) (base := base) T
  refine T.F_good_longs.okX sc_good_longs (fun vs H Q E h => ?_) (fun cd A o s H vs Q E hr h => ?_)
  · obtain ⟨v0, v1, rfl, h⟩ := h; rfl
  obtain ⟨v0, v1, rfl, h⟩ := h
  obtain ⟨many, lo, rfl, hm, hl2, hG, hx, k⟩ := h
  refine ⟨_, (pss_cons (ps_if (pt_cmpR o_is (pv 0) pe_non (nomark _))
    (pss_one (ps_ret (pe_tup pa_nil)))
    pss_nil)
    (pss_cons (ps_if (PW.pt (pw_or (pt_not (pt_val (pe_callB (c_isiT (K := K) rfl) rfl T.z_isinstance bt_isinstance (pa_cons (pv 0) (pa_cons (pe_tup (pa_cons (pe_ty rfl T.z_list bt_list) (pa_cons (pe_ty rfl T.z_tuple bt_tuple) pa_nil))) pa_nil))))) (pw_or1 (pt_cmpR o_gt (pe_callB (c_len (K := K) rfl) rfl T.z_len bt_len (pa_cons (pv 0) pa_nil)) (pe_glob rfl T.mc_MOST_LONGS T.rc_MOST_LONGS) (nomark _)))))
    (pss_one (ps_rz rfl T.er_NoLongs.oex T.er_NoLongs.iC T.er_NoLongs.tI G_NoLongs_init (hr.mono (by decide)) T.B_NoLongs_init rfl T.m_NoLongs (takes_of (E := E) rfl rfl rfl rfl) (pv 0)))
    pss_nil)
    (pss_cons (ps_set (i := 2) sc_good_longs.nd rfl (Or.inl rfl) pe_int)
    (pss_cons (ps_for PassesOwn.leaving rfl (pi_seq (K := K) rfl (pv 0)) (pg_name (i := 3) sc_good_longs.nd rfl (Or.inl rfl))
    (pss_cons (ps_if (pt_not (pt_val (pe_co G_is_long (hr.mono (by decide)) rfl T.m_is_long T.F_is_long.kp T.B_is_long (takes_of (E := E) rfl rfl rfl rfl) (pa_cons (pv 3) (pa_cons (pv 2) (pa_cons (pe_op o_sub (pv 1) pe_int) pa_nil))))))
    (pss_one (ps_rz rfl T.er_NoLongs.oex T.er_NoLongs.iC T.er_NoLongs.tI G_NoLongs_init (hr.mono (by decide)) T.B_NoLongs_init rfl T.m_NoLongs (takes_of (E := E) rfl rfl rfl rfl) (pv 3)))
    pss_nil)
    (pss_one (ps_set (i := 2) sc_good_longs.nd rfl (Or.inl rfl) (pe_ix (ix_u (K := K) rfl) (pv 3) pe_int (fun _ _ => rfl))))))
    (pss_one (ps_ret (pe_callTy (c_tuple (K := K) rfl) rfl T.z_tuple bt_tuple (pa_cons (pv 0) pa_nil)))))))), ?_⟩
  rw [st_good_longs]
  rcases hx with ⟨rfl, rfl⟩ | ⟨vs, ⟨a, rfl, ha⟩, hR⟩
  · walk_at "u"
    walk_at "na"
    intro t1 H1 f1 e1 k1
    walk_at "u"
    exact k t1 [] H1 e1 .nil k1
  have hl : vs.length = lo.length := by rw [hR.len]; simp [rL]
  walk_at "u"
  walk_at "na"
  intro t1 H1 f1 e1 k1
  walk_at "u"
  obtain ⟨kd, ty, ts⟩ := SqV.ty (sq_kp ha k1)
  refine s_isSeq ty e1 ?_
  rw [ts]
  walk_at "u"
  refine s_lenq (sq_kp ha k1) ?_
  walk_at "u"
  rw [decide_eq_false (show ¬ (2 : Int) < (vs.length : Int) by omega)]
  walk_at "u"
  refine for_sq (sq_kp ha k1) (fun i σ H' => Kp [] H1 H' ∧ ∃ u3, σ = [some (.ref a), some (.int many), some (.int (lowAt 0 lo i)), u3]) ⟨Kp.refl, none, rfl⟩ (fun i σ' H' p o e => p.1.get0 e) ?_ ?_
  · rintro i x σ H' ex ⟨k3, u2, rfl⟩
    obtain ⟨u, r, rfl, er, eu⟩ := hR.at ex
    obtain ⟨q, eq, rfl⟩ := rL_at er
    obtain ⟨g1, g2, g3, g4⟩ := hG.at eq
    have eu3 : H' u = some (.tup [.int q.1, .int q.2.1, .int q.2.2]) := by walk_at "gt"
    walk_at "u"
    refine ⟨_, _, _, rfl, u, q, _, _, rfl, rfl, rfl, eu3, g1, g2, g3, g4, ?_⟩
    walk_at "u"
    have e0 : lowAt 0 lo (i + 1) = q.2.1 := by simp [lowAt, eq]
    rw [e0]
    exact ⟨k3, _, rfl⟩
  · rintro σ H' ⟨k3, u2, rfl⟩
    walk_at "u"
    refine s_tupq (sq_kp (sq_kp ha k1) k3) fun t H4 e4 k4 => ?_
    walk_at "u"
    exact k t vs H4 e4 (((hR.kp k1).kp k3).kp k4) (by walk_at "k")
/-- a line, as it is told -/
structure Wo where
  pl : Pl
  st : Pl
  lo : Lo
structure GoodW (w : Wo) : Prop where
  p : GoodP w.pl
  s : GoodS w.st (w.pl.length - 1)
  l : GoodL 0 ((w.pl.length : Int) - 1) w.lo
  l2 : w.lo.length ≤ 2
structure Ln (T : Tx K mg) (H : Hp) (p : Addr) (w : Wo) : Prop where
  ex : ∃ (tp ts tl : Addr) (vp vs vl : List V), At_Line T H p (.ref tp) (.ref ts) (.ref tl) ∧ H tp = some (.tup vp) ∧ H ts = some (.tup vs) ∧ H tl = some (.tup vl) ∧ Rw H vp (rP w.pl) ∧ Rw H vs (rP w.st) ∧ Rw H vl (rL w.lo)
  ok : GoodW w
theorem Ln.kpn {T : Tx K mg} {H H2 : Hp} {p : Addr} {w : Wo} {ps : List Addr} (h : Ln T H p w) (k : Kp ps H H2) (n : p ∉ ps) : Ln T H2 p w := by
  obtain ⟨tp, ts, tl, vp, vs, vl, a, e1, e2, e3, r1, r2, r3⟩ := h.ex
  exact ⟨⟨tp, ts, tl, vp, vs, vl, a.kpn k n, k.tgt e1, k.tgt e2, k.tgt e3, r1.kp k, r2.kp k, r3.kp k⟩, h.ok⟩
theorem Ln.th {T : Tx K mg} {H : Hp} {p : Addr} {w : Wo} (h : Ln T H p w) : Th H p 5 := by
  obtain ⟨tp, ts, tl, vp, vs, vl, a, _⟩ := h.ex
  exact a.th
local macro_rules | `(tactic| walk_at "g2") => `(tactic| ((refine' Ln.kpn ?ugm ?ugk ?ugn); (case ugk => assumption); (case ugm => walk_at "g"); (case ugn => walk_at "n")))
local macro_rules | `(tactic| walk_at "t2") => `(tactic| exact Ln.th (by assumption))
def sp_Line_init (T : Tx K mg) : Sp := sp4 fun x y z u H Q _ => ∃ (p dx : Addr) (w : Wo) (vp vs : List V), x = .ref p ∧ H p = some (.ins T.C_Line dx []) ∧ SqV H y vp ∧ Rw H vp (rP w.pl) ∧ SqV H z vs ∧ Rw H vs (rP w.st) ∧ ((u = .non ∧ w.lo = []) ∨ ∃ vl, SqV H u vl ∧ Rw H vl (rL w.lo)) ∧ GoodW w ∧
  ∀ H', Ln T H' p w → Kp [p] H H' → Q .non H'
set_option maxHeartbeats 16000000 in
theorem ok_Line_init (T : Tx K mg) : FnOk P w K mg base (L2.CX P w) 4 T.a_Line_init T.d_Line_init ["self", "places", "stretches", "longs"] (sp_Line_init T) := by
  have G_good_places := ok_good_places (P := P) (w := w) (base := base) T
  have G_good_stretches := ok_good_stretches (P := P) (w := w) (base := base) T
  have G_good_longs := ok_good_longs (P := P) (w := w) (base := base) T
  refine funN_okX T.F_Line_init sc_Line_init (fun vs H Q E h => ?_) (fun cd A o s H vs Q E hr h => ?_)
  · obtain ⟨v0, v1, v2, v3, rfl, h⟩ := h; rfl
  obtain ⟨v0, v1, v2, v3, rfl, h⟩ := h
  obtain ⟨p, dx, w', vp, vs, rfl, hp, ⟨a1, rfl, h1⟩, R1, ⟨a2, rfl, h2⟩, R2, h3, hG, k⟩ := h
  refine ⟨_, (pss_cons (ps_fd (K := K) rfl (pv 0) (pe_co G_good_places (hr.mono (by decide)) rfl T.m_good_places T.F_good_places.kp T.B_good_places (takes_of (E := E) rfl rfl rfl rfl) (pa_cons (pv 1) pa_nil)) rfl)
    (pss_cons (ps_fd (K := K) rfl (pv 0) (pe_co G_good_stretches (hr.mono (by decide)) rfl T.m_good_stretches T.F_good_stretches.kp T.B_good_stretches (takes_of (E := E) rfl rfl rfl rfl) (pa_cons (pv 2) (pa_cons (pe_op o_sub (pe_callB (c_len (K := K) rfl) rfl T.z_len bt_len (pa_cons (pe_fd (K := K) rfl (pv 0) rfl) pa_nil)) pe_int) pa_nil))) rfl)
    (pss_one (ps_fd (K := K) rfl (pv 0) (pe_co G_good_longs (hr.mono (by decide)) rfl T.m_good_longs T.F_good_longs.kp T.B_good_longs (takes_of (E := E) rfl rfl rfl rfl) (pa_cons (pv 3) (pa_cons (pe_callB (c_len (K := K) rfl) rfl T.z_len bt_len (pa_cons (pe_fd (K := K) rfl (pv 0) rfl) pa_nil)) pa_nil))) rfl)))), ?_⟩
  rw [st_Line_init]
  have lp : vp.length = w'.pl.length := by rw [R1.len]; simp [rP]
  have p2 := hG.p.l2
  have p6 := hG.p.l6
  have ne1 : ∀ {a : Addr} {vs : List V}, H a = some (.lst vs) ∨ H a = some (.tup vs) → a ≠ p := fun h => by
    rcases h with h | h <;> walk_at "ne"
  have n1 := ne1 h1
  have n2 := ne1 h2
  walk_at "u"
  refine ⟨_, rfl, vp, w'.pl, ⟨a1, rfl, h1⟩, R1, hG.p, fun t1 H1 e1 k1 => ?_⟩
  walk_at "u"
  refine i_Line_kept_places (by walk_at "g") fun H2 e2 k2 => ?_
  have g2 : ∀ {o}, H a2 = some o → H2 a2 = some o := fun e => by walk_at "g"
  walk_at "u"
  refine s_fdk e2 T.cl_Line T.na_Line_kept_places rfl ?_
  walk_at "u"
  refine s_lent (by walk_at "gt") ?_
  walk_at "u"
  refine ⟨_, _, rfl, vs, w'.st, vp.length - 1, congrArg V.int (by omega), ⟨a2, rfl, h2.imp g2 g2⟩, (R2.kp k1).kp k2, by rw [lp]; exact hG.s, by omega, fun t3 H3 e3 k3 => ?_⟩
  walk_at "u"
  refine i_Line_kept_stretches (by walk_at "g") fun H4 e4 k4 => ?_
  walk_at "u"
  refine s_fdk e4 T.cl_Line T.na_Line_kept_places rfl ?_
  walk_at "u"
  refine s_lent (by walk_at "gt") ?_
  walk_at "u"
  have h3' : (v3 = .non ∧ w'.lo = []) ∨ ∃ vl, SqV H4 v3 vl ∧ Rw H4 vl (rL w'.lo) := by
    rcases h3 with h3 | ⟨vl, ⟨a3, rfl, h3⟩, R3⟩
    · exact Or.inl h3
    · have n3 := ne1 h3
      have g4 : ∀ {o}, H a3 = some o → H4 a3 = some o := fun e => by walk_at "g"
      exact Or.inr ⟨vl, ⟨a3, rfl, h3.imp g4 g4⟩, (((R3.kp k1).kp k2).kp k3).kp k4⟩
  refine ⟨_, _, rfl, vp.length, w'.lo, rfl, by omega, hG.l2, by rw [lp]; exact hG.l, h3', fun t5 vl H5 e5 R5 k5 => ?_⟩
  walk_at "u"
  refine i_Line_kept_longs (by walk_at "g") fun H6 e6 k6 => ?_
  walk_at "u"
  exact k H6 ⟨⟨t1, t3, t5, vp, vs, vl, ⟨_, e6⟩, by walk_at "gt", by walk_at "gt", by walk_at "gt", (((((R1.kp k1).kp k2).kp k3).kp k4).kp k5).kp k6, (((((R2.kp k1).kp k2).kp k3).kp k4).kp k5).kp k6, R5.kp k6⟩, hG⟩ (by walk_at "k")
theorem c_Line {T : Tx K mg} {H : Hp} {y z u : V} {Q : VK} {E : XK} {w : Wo} {vp vs : List V} (h1 : SqV H y vp) (r1 : Rw H vp (rP w.pl)) (h2 : SqV H z vs) (r2 : Rw H vs (rP w.st)) (h3 : (u = .non ∧ w.lo = []) ∨ ∃ vl, SqV H u vl ∧ Rw H vl (rL w.lo)) (hG : GoodW w)
    (q : ∀ p H', H p = none → Ln T H' p w → Kp [] H H' → Q (.ref p) H') : NewK T.C_Line (sp_Line_init T) E Q [y, z, u] H := fun x dx H1 f e k => by
  have up : ∀ {v vs}, SqV H v vs → SqV H1 v vs := fun ⟨a, e, h⟩ => ⟨a, e, h.imp k.get0 k.get0⟩
  refine ⟨_, _, _, _, rfl, x, dx, w, vp, vs, rfl, e, up h1, r1.kp k, up h2, r2.kp k, h3.imp id fun ⟨vl, a, b⟩ => ⟨vl, up a, b.kp k⟩, hG, fun H2 l2 k2 => ⟨rfl, q x H2 f l2 ((k.nil.trans k2).drop f)⟩⟩
def nms (w : Wo) : List Str := w.pl.map (·.1)
def sp_Line_names (T : Tx K mg) : Sp := sp1 fun x H Q _ => ∃ (p : Addr) (w : Wo), x = .ref p ∧ Ln T H p w ∧ ∀ l H', H l = none → H' l = some (.lst ((nms w).map V.str)) → Kp [] H H' → Q (.ref l) H'
set_option maxHeartbeats 16000000 in
theorem ok_Line_names (T : Tx K mg) : FnOk P w K mg base (L2.CX P w) 1 T.a_Line_names T.d_Line_names ["self"] (sp_Line_names T) := by
  refine T.F_Line_names.okX sc_Line_names (fun vs H Q E h => ?_) (fun cd A o s H vs Q E hr h => ?_)
  · obtain ⟨v0, rfl, h⟩ := h; rfl
  obtain ⟨v0, rfl, h⟩ := h
  obtain ⟨p, w', rfl, hL, k⟩ := h
  refine ⟨_, (pss_one (ps_ret (pe_lc (own := [("name", 1), ("roads", 2)]) rfl sc_Line_names.nd (pi_tpl (K := K) rfl (pe_fd (K := K) rfl (pv 0) rfl)) (blkOk_by (own := [("name", 1), ("roads", 2)]) (N := N_Line_names) (sc := defScope s_Line_names) (by decide +kernel)) (fun _ _ _ _ _ => (pg_tupK (K := K) (n := 2) rfl rfl (pgs_cons (pg_name (i := 1) sc_Line_names.nd rfl (Or.inl rfl)) (pgs_cons (pg_name (i := 2) sc_Line_names.nd rfl (Or.inl rfl)) pgs_nil)))) (fun _ _ _ _ _ => pts_nil) (fun _ _ _ _ _ => (pv 1))))), ?_⟩
  rw [st_Line_names]
  obtain ⟨tp, ts, tl, vp, vs, vl, a, e1, e2, e3, r1, r2, r3⟩ := hL.ex
  have lp : vp.length = w'.pl.length := by rw [r1.len]; simp [rP]
  have p6 := hL.ok.p.l6
  walk_at "u"
  intro D hD
  refine lc_T e1 hD (fun i acc H' => Kp [D] H H' ∧ acc = ((nms w').take i).map V.str) (fun H1 e4 k1 => ⟨by walk_at "k", rfl⟩) (fun i acc H' p xs e => p.1.tgt e) ?_ ?_
  · rintro i x acc H' ex ea ⟨k1, rfl⟩
    obtain ⟨u, r, rfl, er, eu⟩ := r1.at ex
    obtain ⟨q, eq, rfl⟩ := rP_at er
    walk_at "u"
    refine ⟨rfl, ?_⟩
    walk_at "u"
    refine PvD.add ea (by simp [nms]; omega) fun H2 e2 k2 => ⟨by walk_at "k", ?_⟩
    rw [take_one (x := q.1) (by simp [nms, eq]), List.map_append]
    rfl
  · rintro acc H' ea ⟨k1, rfl⟩
    walk_at "u"
    rw [List.take_of_length_le (by simp [nms]; omega)] at ea
    exact k D H' hD ea (k1.drop hD)

/-- what is raised with a thing -/
def ErX (C : Addr) (y : V) (H : Hp) (E : XK) : Prop := ∀ d H', H d = none → H' d = some (.xd [("found", y)]) → Kp [] H H' → E (.ref C) (some d) H'
theorem ErX.kp {C : Addr} {y : V} {H H1 : Hp} {E : XK} (h : ErX C y H E) (k : Kp [] H H1) : ErX C y H1 E := fun d H' f e k' => h d H' (k.dom d f) e (k.trans k')
/-- no place's name -/
def Bad (w : Wo) (y : V) : Prop := ∀ z, y = .str z → z ∉ nms w
theorem ne0 {w : Wo} {z : Str} (h : Bad w (.str z)) {i : Nat} (e : (nms w)[i]? = some z) : False := h z rfl (List.mem_of_getElem? e)
def sp_Line_number_of (T : Tx K mg) : Sp := sp2 fun x y H Q E => ∃ (p : Addr) (w : Wo) (kd : Kd), x = .ref p ∧ Ln T H p w ∧ TyN H y kd ∧ Small y ∧ (∀ (i : Nat) z, y = .str z → (nms w)[i]? = some z → ∀ H', Kp [] H H' → Q (.int i) H') ∧ (Bad w y → ErX T.C_NoPlace y H E)
set_option maxHeartbeats 16000000 in
theorem ok_Line_number_of (T : Tx K mg) : FnOk P w K mg base (L2.CX P w) 3 T.a_Line_number_of T.d_Line_number_of ["self", "name"] (sp_Line_number_of T) := by
  have G_NoPlace_init := ok_NoPlace_init (P := P) (w := w) (base := base) T
  have G_is_name := ok_is_name (P := P) (w := w) (base := base) T
  have G_Line_names := ok_Line_names (P := P) (w := w) (base := base) T
  refine T.F_Line_number_of.okX sc_Line_number_of (fun vs H Q E h => ?_) (fun cd A o s H vs Q E hr h => ?_)
  · obtain ⟨v0, v1, rfl, h⟩ := h; rfl
  obtain ⟨v0, v1, rfl, h⟩ := h
  obtain ⟨p, w', kd, rfl, hL, hy, hs', k, kE⟩ := h
  refine ⟨_, (pss_cons (ps_if (PW.pt (pw_or (pt_not (pt_val (pe_co G_is_name (hr.mono (by decide)) rfl T.m_is_name T.F_is_name.kp T.B_is_name (takes_of (E := E) rfl rfl rfl rfl) (pa_cons (pv 1) pa_nil)))) (pw_or1 (pt_cmpR (o_notin (K := K) rfl) (pv 1) (pe_mo0 T.cl_Line T.M_Line_names G_Line_names (hr.mono (by decide)) T.B_Line_names (takes_of (E := E) rfl rfl rfl rfl) (pv 0)) rfl))))
    (pss_one (ps_rz rfl T.er_NoPlace.oex T.er_NoPlace.iC T.er_NoPlace.tI G_NoPlace_init (hr.mono (by decide)) T.B_NoPlace_init rfl T.m_NoPlace (takes_of (E := E) rfl rfl rfl rfl) (pv 1)))
    pss_nil)
    (pss_one (ps_ret (pe_bm PySem.F.plainAttrs_list PySem.F.slot_list_index PySem.F.type_list_index (mt_ix (K := K) rfl) (pe_mo0 T.cl_Line T.M_Line_names G_Line_names (hr.mono (by decide)) T.B_Line_names (takes_of (E := E) rfl rfl rfl rfl) (pv 0)) (pa_cons (pv 1) pa_nil))))), ?_⟩
  rw [st_Line_number_of]
  obtain ⟨tp, ts, tl, vp, vs, vl, a, _⟩ := hL.ex
  walk_at "u"
  refine ⟨_, rfl, kd, hy, hs', fun H1 k1 => ?_⟩
  cases e : isName v1 with
  | false =>
    walk_at "u"
    refine (kE fun z hz hm => ?_).kp k1
    subst hz
    obtain ⟨q, hq, rfl⟩ := List.mem_map.mp hm
    rw [(hL.ok.p.nm q hq).1] at e
    cases e
  | true =>
    obtain ⟨z, rfl⟩ : ∃ z, v1 = .str z := by
      cases v1 <;> simp [isName] at e
      exact ⟨_, rfl⟩
    walk_at "u"
    refine ⟨_, rfl, p, w', rfl, by walk_at "g", fun l H2 f2 e2 k2 => ?_⟩
    walk_at "u"
    by_cases mz : z ∈ nms w'
    · rw [decide_eq_true mz]
      walk_at "u"
      refine ⟨_, rfl, p, w', rfl, by walk_at "g", fun l3 H3 f3 e3 k3 => ?_⟩
      walk_at "u"
      obtain ⟨i, ez⟩ := List.getElem?_of_mem mz
      refine s_indexS (SqL.of e3) ez hL.ok.p.nd ?_
      walk_at "u"
      exact k i z rfl ez _ (by walk_at "k")
    · rw [decide_eq_false mz]
      walk_at "u"
      exact (kE fun z' hz hm => by cases hz; exact mz hm).kp (k1.trans k2)
theorem nms_ss {w : Wo} (h : GoodW w) {z : Str} (hm : z ∈ nms w) : isName (.str z) = true ∧ SS z 20 := by
  obtain ⟨q, hq, rfl⟩ := List.mem_map.mp hm
  exact h.p.nm q hq
theorem nms_inj {w : Wo} (h : GoodW w) {i j : Nat} {z : Str} (e : (nms w)[i]? = some z) (e' : (nms w)[j]? = some z) : i = j := (List.getElem?_inj (List.getElem?_eq_some_iff.mp e).1 h.p.nd).mp (e.trans e'.symm)
theorem sm_ss {w : Wo} (h : GoodW w) {i : Nat} {z : Str} (e : (nms w)[i]? = some z) : Small (.str z) := (nms_ss h (List.mem_of_getElem? e)).2.mono (by omega)
theorem c_number_of {T : Tx K mg} {H : Hp} {p : Addr} {w : Wo} {i : Nat} {z : Str} {Q : VK} {E : XK} (h : Ln T H p w) (e : (nms w)[i]? = some z) (q : ∀ H', Kp [] H H' → Q (.int i) H') : sp_Line_number_of T [.ref p, .str z] H Q E :=
  ⟨_, _, rfl, p, w, .str, rfl, h, .str, sm_ss h.ok e, fun j z' ez ej => by cases ez; cases nms_inj h.ok e ej; exact q, fun b => (ne0 b e).elim⟩
theorem s_slt {H : Hp} {p : Addr} {xs : List V} {lo hi : Option Int} {Q : VK} (h : H p = some (.tup xs)) (q : ∀ p' H', H' p' = some (.tup (cutV xs lo hi)) → Kp [] H H' → Q (.ref p') H') : uSl K (.ref p) lo hi H Q := by
  refine Or.inr (Or.inr ⟨p, xs, rfl, SqT.of h, fun e => ?_, fun _ => new_abs (R := fun l H' => Q (.ref l) H') fun p' H' _ e k => q p' H' e k⟩)
  have : cutV xs lo hi = xs := by
    unfold cutV
    rw [e.1, e.2]
    simp
  exact q p H (by rw [this]; exact h) Kp.refl
theorem rw_get {H : Hp} {vs : List V} {rs : List (List V)} {i : Nat} {r : List V} (h : Rw H vs rs) (e : rs[i]? = some r) : ∃ u, vs[i]? = some (.ref u) ∧ H u = some (.tup r) := by
  have hi : i < vs.length := by rw [h.len]; exact (List.getElem?_eq_some_iff.mp e).1
  obtain ⟨u, r', ex, er, eu⟩ := h.at (List.getElem?_eq_getElem hi)
  rw [e] at er
  cases er
  exact ⟨u, by rw [List.getElem?_eq_getElem hi, ex], eu⟩
theorem s_ixr {H : Hp} {p : Addr} {vs : List V} {rs : List (List V)} {i : Nat} {n : Int} {r : List V} {Q : VK} (h : H p = some (.tup vs)) (R : Rw H vs rs) (en : n = (i : Int)) (e : rs[i]? = some r) (q : ∀ u, H u = some (.tup r) → Q (.ref u) H) : rIx K (.ref p) (.int n) H Q := by
  obtain ⟨u, e1, e2⟩ := rw_get R e
  subst en
  exact s_ixt h (at_nat e1) (q u e2)
theorem rP_of {pl : Pl} {i : Nat} {q : Str × Int} (h : pl[i]? = some q) : (rP pl)[i]? = some [.str q.1, .int q.2] := by simp [rP, h]
theorem rL_of {lo : Lo} {i : Nat} {q : Int × Int × Int} (h : lo[i]? = some q) : (rL lo)[i]? = some [.int q.1, .int q.2.1, .int q.2.2] := by simp [rL, h]
theorem nms_at {w : Wo} {i : Nat} {z : Str} (h : (nms w)[i]? = some z) : ∃ q, w.pl[i]? = some q ∧ q.1 = z := by
  unfold nms at h
  rw [List.getElem?_map] at h
  exact Option.map_eq_some_iff.mp h
def sp_Line_roads (T : Tx K mg) : Sp := sp2 fun x y H Q E => ∃ (p : Addr) (w : Wo) (kd : Kd), x = .ref p ∧ Ln T H p w ∧ TyN H y kd ∧ Small y ∧ (∀ (i : Nat) q, y = .str q.1 → w.pl[i]? = some q → ∀ H', Kp [] H H' → Q (.int q.2) H') ∧ (Bad w y → ErX T.C_NoPlace y H E)
set_option maxHeartbeats 16000000 in
theorem ok_Line_roads (T : Tx K mg) : FnOk P w K mg base (L2.CX P w) 4 T.a_Line_roads T.d_Line_roads ["self", "name"] (sp_Line_roads T) := by
  have G_Line_number_of := ok_Line_number_of (P := P) (w := w) (base := base) T
  refine T.F_Line_roads.okX sc_Line_roads (fun vs H Q E h => ?_) (fun cd A o s H vs Q E hr h => ?_)
  · obtain ⟨v0, v1, rfl, h⟩ := h; rfl
  obtain ⟨v0, v1, rfl, h⟩ := h
  obtain ⟨p, w', kd, rfl, hL, hy, hs', k, kE⟩ := h
  refine ⟨_, (pss_one (ps_ret (pe_ix (ix_u (K := K) rfl) (pe_ix (ix_u (K := K) rfl) (pe_fd (K := K) rfl (pv 0) rfl) (pe_mo T.cl_Line T.M_Line_number_of G_Line_number_of (hr.mono (by decide)) T.B_Line_number_of (takes_of (E := E) rfl rfl rfl rfl) (pv 0) (pa_cons (pv 1) pa_nil)) (fun _ _ => rfl)) pe_int (fun _ _ => rfl)))), ?_⟩
  rw [st_Line_roads]
  obtain ⟨tp, ts, tl, vp, vs, vl, a, e1, e2, e3, r1, r2, r3⟩ := hL.ex
  walk_at "u"
  refine ⟨_, _, rfl, p, w', kd, rfl, hL, hy, hs', fun i z ez eq H1 k1 => ?_, kE⟩
  obtain ⟨q, eqq, rfl⟩ := nms_at eq
  refine s_ixr (i := i) (by walk_at "gt") (r1.kp k1) rfl (rP_of eqq) fun u eu => ?_
  walk_at "u"
  exact k i q ez eqq _ k1
theorem c_roads {T : Tx K mg} {H : Hp} {p : Addr} {w : Wo} {i : Nat} {q : Str × Int} {Q : VK} {E : XK} (h : Ln T H p w) (e : w.pl[i]? = some q) (k : ∀ H', Kp [] H H' → Q (.int q.2) H') : sp_Line_roads T [.ref p, .str q.1] H Q E := by
  have e0 : (nms w)[i]? = some q.1 := by simp [nms, e]
  refine ⟨_, _, rfl, p, w, .str, rfl, h, .str, sm_ss h.ok e0, fun j q' ez ej => ?_, fun b => (ne0 b e0).elim⟩
  have e1 : q'.1 = q.1 := by injection ez with ez; exact ez.symm
  have : j = i := nms_inj h.ok (z := q.1) (by simp [nms, ej, e1]) e0
  subst this
  rw [e] at ej
  cases ej
  exact k
def sp_Line_many_stretches (T : Tx K mg) : Sp := sp1 fun x H Q _ => ∃ (p : Addr) (w : Wo), x = .ref p ∧ Ln T H p w ∧ Q (.int w.st.length) H
set_option maxHeartbeats 16000000 in
theorem ok_Line_many_stretches (T : Tx K mg) : FnOk P w K mg base (L2.CX P w) 1 T.a_Line_many_stretches T.d_Line_many_stretches ["self"] (sp_Line_many_stretches T) := by
  refine T.F_Line_many_stretches.okX sc_Line_many_stretches (fun vs H Q E h => ?_) (fun cd A o s H vs Q E hr h => ?_)
  · obtain ⟨v0, rfl, h⟩ := h; rfl
  obtain ⟨v0, rfl, h⟩ := h
  obtain ⟨p, w', rfl, hL, k⟩ := h
  refine ⟨_, (pss_one (ps_ret (pe_callB (c_len (K := K) rfl) rfl T.z_len bt_len (pa_cons (pe_fd (K := K) rfl (pv 0) rfl) pa_nil)))), ?_⟩
  rw [st_Line_many_stretches]
  obtain ⟨tp, ts, tl, vp, vs, vl, a, e1, e2, e3, r1, r2, r3⟩ := hL.ex
  walk_at "u"
  refine s_lent e2 ?_
  rw [r2.len, rP, List.length_map]
  exact k
def sp_Line_many_longs (T : Tx K mg) : Sp := sp1 fun x H Q _ => ∃ (p : Addr) (w : Wo), x = .ref p ∧ Ln T H p w ∧ Q (.int w.lo.length) H
set_option maxHeartbeats 16000000 in
theorem ok_Line_many_longs (T : Tx K mg) : FnOk P w K mg base (L2.CX P w) 1 T.a_Line_many_longs T.d_Line_many_longs ["self"] (sp_Line_many_longs T) := by
  refine T.F_Line_many_longs.okX sc_Line_many_longs (fun vs H Q E h => ?_) (fun cd A o s H vs Q E hr h => ?_)
  · obtain ⟨v0, rfl, h⟩ := h; rfl
  obtain ⟨v0, rfl, h⟩ := h
  obtain ⟨p, w', rfl, hL, k⟩ := h
  refine ⟨_, (pss_one (ps_ret (pe_callB (c_len (K := K) rfl) rfl T.z_len bt_len (pa_cons (pe_fd (K := K) rfl (pv 0) rfl) pa_nil)))), ?_⟩
  rw [st_Line_many_longs]
  obtain ⟨tp, ts, tl, vp, vs, vl, a, e1, e2, e3, r1, r2, r3⟩ := hL.ex
  walk_at "u"
  refine s_lent e3 ?_
  rw [r3.len, rL, List.length_map]
  exact k
def sp_Line_need_stretch (T : Tx K mg) : Sp := sp2 fun x y H Q E => ∃ (p : Addr) (w : Wo) (kd : Kd), x = .ref p ∧ Ln T H p w ∧ TyN H y kd ∧ (isWhole y 0 ((w.st.length : Int) - 1) = true → Q .non H) ∧
  (isWhole y 0 ((w.st.length : Int) - 1) = false → ∀ d H', H d = none → H' d = some (.xd [("found", y)]) → Kp [] H H' → E (.ref T.C_NoStretch) (some d) H')
set_option maxHeartbeats 16000000 in
theorem ok_Line_need_stretch (T : Tx K mg) : FnOk P w K mg base (L2.CX P w) 3 T.a_Line_need_stretch T.d_Line_need_stretch ["self", "k"] (sp_Line_need_stretch T) := by
  have G_is_whole := ok_is_whole (P := P) (w := w) (base := base) T
  have G_NoStretch_init := ok_NoStretch_init (P := P) (w := w) (base := base) T
  refine T.F_Line_need_stretch.okX sc_Line_need_stretch (fun vs H Q E h => ?_) (fun cd A o s H vs Q E hr h => ?_)
  · obtain ⟨v0, v1, rfl, h⟩ := h; rfl
  obtain ⟨v0, v1, rfl, h⟩ := h
  obtain ⟨p, w', kd, rfl, hL, hy, k1, k2⟩ := h
  refine ⟨_, (pss_one (ps_if (pt_not (pt_val (pe_co G_is_whole (hr.mono (by decide)) rfl T.m_is_whole T.F_is_whole.kp T.B_is_whole (takes_of (E := E) rfl rfl rfl rfl) (pa_cons (pv 1) (pa_cons pe_int (pa_cons (pe_op o_sub (pe_callB (c_len (K := K) rfl) rfl T.z_len bt_len (pa_cons (pe_fd (K := K) rfl (pv 0) rfl) pa_nil)) pe_int) pa_nil))))))
    (pss_one (ps_rz rfl T.er_NoStretch.oex T.er_NoStretch.iC T.er_NoStretch.tI G_NoStretch_init (hr.mono (by decide)) T.B_NoStretch_init rfl T.m_NoStretch (takes_of (E := E) rfl rfl rfl rfl) (pv 1)))
    pss_nil)), ?_⟩
  rw [st_Line_need_stretch]
  obtain ⟨tp, ts, tl, vp, vs, vl, a, e1, e2, e3, r1, r2, r3⟩ := hL.ex
  walk_at "u"
  refine s_lent e2 ?_
  rw [r2.len, rP, List.length_map]
  walk_at "u"
  refine ⟨_, _, _, rfl, 0, _, kd, rfl, rfl, hy, ?_⟩
  cases e : isWhole v1 0 ((w'.st.length : Int) - 1) with
  | true =>
    walk_at "u"
    exact k1 e
  | false =>
    walk_at "u"
    exact fun d H' => k2 e d H'
def sp_Line_need_long (T : Tx K mg) : Sp := sp2 fun x y H Q E => ∃ (p : Addr) (w : Wo) (kd : Kd), x = .ref p ∧ Ln T H p w ∧ TyN H y kd ∧ (isWhole y 0 ((w.lo.length : Int) - 1) = true → Q .non H) ∧
  (isWhole y 0 ((w.lo.length : Int) - 1) = false → ∀ d H', H d = none → H' d = some (.xd [("found", y)]) → Kp [] H H' → E (.ref T.C_NoLong) (some d) H')
set_option maxHeartbeats 16000000 in
theorem ok_Line_need_long (T : Tx K mg) : FnOk P w K mg base (L2.CX P w) 3 T.a_Line_need_long T.d_Line_need_long ["self", "j"] (sp_Line_need_long T) := by
  have G_is_whole := ok_is_whole (P := P) (w := w) (base := base) T
  have G_NoLong_init := ok_NoLong_init (P := P) (w := w) (base := base) T
  refine T.F_Line_need_long.okX sc_Line_need_long (fun vs H Q E h => ?_) (fun cd A o s H vs Q E hr h => ?_)
  · obtain ⟨v0, v1, rfl, h⟩ := h; rfl
  obtain ⟨v0, v1, rfl, h⟩ := h
  obtain ⟨p, w', kd, rfl, hL, hy, k1, k2⟩ := h
  refine ⟨_, (pss_one (ps_if (pt_not (pt_val (pe_co G_is_whole (hr.mono (by decide)) rfl T.m_is_whole T.F_is_whole.kp T.B_is_whole (takes_of (E := E) rfl rfl rfl rfl) (pa_cons (pv 1) (pa_cons pe_int (pa_cons (pe_op o_sub (pe_callB (c_len (K := K) rfl) rfl T.z_len bt_len (pa_cons (pe_fd (K := K) rfl (pv 0) rfl) pa_nil)) pe_int) pa_nil))))))
    (pss_one (ps_rz rfl T.er_NoLong.oex T.er_NoLong.iC T.er_NoLong.tI G_NoLong_init (hr.mono (by decide)) T.B_NoLong_init rfl T.m_NoLong (takes_of (E := E) rfl rfl rfl rfl) (pv 1)))
    pss_nil)), ?_⟩
  rw [st_Line_need_long]
  obtain ⟨tp, ts, tl, vp, vs, vl, a, e1, e2, e3, r1, r2, r3⟩ := hL.ex
  walk_at "u"
  refine s_lent e3 ?_
  rw [r3.len, rL, List.length_map]
  walk_at "u"
  refine ⟨_, _, _, rfl, 0, _, kd, rfl, rfl, hy, ?_⟩
  cases e : isWhole v1 0 ((w'.lo.length : Int) - 1) with
  | true =>
    walk_at "u"
    exact k1 e
  | false =>
    walk_at "u"
    exact fun d H' => k2 e d H'
theorem c_need_stretch {T : Tx K mg} {H : Hp} {p : Addr} {w : Wo} {i : Nat} {Q : VK} {E : XK} (h : Ln T H p w) (hi : i < w.st.length) (q : Q .non H) : sp_Line_need_stretch T [.ref p, .int (i : Nat)] H Q E :=
  ⟨_, _, rfl, p, w, .int, rfl, h, .int, fun _ => q, fun z => by simp [isWhole] at z; omega⟩
theorem c_need_long {T : Tx K mg} {H : Hp} {p : Addr} {w : Wo} {i : Nat} {Q : VK} {E : XK} (h : Ln T H p w) (hi : i < w.lo.length) (q : Q .non H) : sp_Line_need_long T [.ref p, .int (i : Nat)] H Q E :=
  ⟨_, _, rfl, p, w, .int, rfl, h, .int, fun _ => q, fun z => by simp [isWhole] at z; omega⟩
def nmA (w : Wo) (i : Nat) : Str := (nms w).getD i ""
theorem nmA_at {w : Wo} {i : Nat} (h : i < w.pl.length) : ∃ q, w.pl[i]? = some q ∧ q.1 = nmA w i := by
  refine ⟨w.pl[i], List.getElem?_eq_getElem h, ?_⟩
  unfold nmA nms
  rw [List.getD_eq_getElem?_getD, List.getElem?_map, List.getElem?_eq_getElem h]
  rfl
theorem Ln.lens {T : Tx K mg} {H : Hp} {p : Addr} {w : Wo} (h : Ln T H p w) : w.st.length = w.pl.length - 1 ∧ 2 ≤ w.pl.length ∧ w.pl.length ≤ 6 := ⟨h.ok.s.ln, h.ok.p.l2, h.ok.p.l6⟩
theorem whole_nat {y : V} {n : Nat} (h : isWhole y 0 ((n : Int) - 1) = true) : ∃ i : Nat, y = .int i ∧ i < n := by
  obtain ⟨m, rfl, h0, h1⟩ := whole_int h
  exact ⟨m.toNat, congrArg V.int (by omega), by omega⟩
def sp_Line_ends (T : Tx K mg) : Sp := sp2 fun x y H Q E => ∃ (p : Addr) (w : Wo) (kd : Kd), x = .ref p ∧ Ln T H p w ∧ TyN H y kd ∧ (∀ i : Nat, y = .int (i : Nat) → i < w.st.length → ∀ t H', H t = none → H' t = some (.tup [.str (nmA w i), .str (nmA w (i + 1))]) → Kp [] H H' → Q (.ref t) H') ∧ (isWhole y 0 ((w.st.length : Int) - 1) = false → ErX T.C_NoStretch y H E)
set_option maxHeartbeats 16000000 in
theorem ok_Line_ends (T : Tx K mg) : FnOk P w K mg base (L2.CX P w) 4 T.a_Line_ends T.d_Line_ends ["self", "k"] (sp_Line_ends T) := by
  have G_Line_need_stretch := ok_Line_need_stretch (P := P) (w := w) (base := base) T
  refine T.F_Line_ends.okX sc_Line_ends (fun vs H Q E h => ?_) (fun cd A o s H vs Q E hr h => ?_)
  · obtain ⟨v0, v1, rfl, h⟩ := h; rfl
  obtain ⟨v0, v1, rfl, h⟩ := h
  obtain ⟨p, w', kd, rfl, hL, hy, k, kE⟩ := h
  refine ⟨_, (pss_cons (ps_expr (pe_mo T.cl_Line T.M_Line_need_stretch G_Line_need_stretch (hr.mono (by decide)) T.B_Line_need_stretch (takes_of (E := E) rfl rfl rfl rfl) (pv 0) (pa_cons (pv 1) pa_nil)))
    (pss_one (ps_ret (pe_tup (pa_cons (pe_ix (ix_u (K := K) rfl) (pe_ix (ix_u (K := K) rfl) (pe_fd (K := K) rfl (pv 0) rfl) (pv 1) (fun _ _ => rfl)) pe_int (fun _ _ => rfl)) (pa_cons (pe_ix (ix_u (K := K) rfl) (pe_ix (ix_u (K := K) rfl) (pe_fd (K := K) rfl (pv 0) rfl) (pe_op (o_add (K := K) rfl) (pv 1) pe_int) (fun _ _ => rfl)) pe_int (fun _ _ => rfl)) pa_nil)))))), ?_⟩
  rw [st_Line_ends]
  obtain ⟨tp, ts, tl, vp, vs, vl, a, e1, e2, e3, r1, r2, r3⟩ := hL.ex
  obtain ⟨ls, l2, l6⟩ := hL.lens
  walk_at "u"
  refine ⟨_, _, rfl, p, w', kd, rfl, hL, hy, fun e => ?_, kE⟩
  obtain ⟨i, rfl, hi⟩ := whole_nat e
  obtain ⟨q1, eq1, n1⟩ := nmA_at (w := w') (i := i) (by omega)
  obtain ⟨q2, eq2, n2⟩ := nmA_at (w := w') (i := i + 1) (by omega)
  walk_at "u"
  refine s_ixr (i := i) e1 r1 rfl (rP_of eq1) fun u eu => ?_
  walk_at "u"
  refine s_ixr (i := i + 1) e1 r1 (by omega) (rP_of eq2) fun u' eu' => ?_
  walk_at "u"
  walk_at "na"
  intro t H1 f1 e1' k1
  walk_at "u"
  exact k i rfl hi t H1 f1 (by rw [← n1, ← n2]; exact e1') k1
theorem nw {i n : Nat} (h : i < n) : isWhole (.int (i : Nat)) 0 ((n : Int) - 1) = false → False := fun z => by simp [isWhole] at z; omega
theorem c_ends {T : Tx K mg} {H : Hp} {p : Addr} {w : Wo} {i : Nat} {Q : VK} {E : XK} (h : Ln T H p w) (hi : i < w.st.length) (k : ∀ t H', H t = none → H' t = some (.tup [.str (nmA w i), .str (nmA w (i + 1))]) → Kp [] H H' → Q (.ref t) H') : sp_Line_ends T [.ref p, .int (i : Nat)] H Q E :=
  ⟨_, _, rfl, p, w, .int, rfl, h, .int, fun j ej hj => by cases ej; exact k, fun z => (nw hi z).elim⟩
def sp_Line_kind (T : Tx K mg) : Sp := sp2 fun x y H Q E => ∃ (p : Addr) (w : Wo) (kd : Kd), x = .ref p ∧ Ln T H p w ∧ TyN H y kd ∧ (∀ (i : Nat) q, y = .int (i : Nat) → w.st[i]? = some q → Q (.str q.1) H) ∧ (isWhole y 0 ((w.st.length : Int) - 1) = false → ErX T.C_NoStretch y H E)
set_option maxHeartbeats 16000000 in
theorem ok_Line_kind (T : Tx K mg) : FnOk P w K mg base (L2.CX P w) 4 T.a_Line_kind T.d_Line_kind ["self", "k"] (sp_Line_kind T) := by
  have G_Line_need_stretch := ok_Line_need_stretch (P := P) (w := w) (base := base) T
  refine T.F_Line_kind.okX sc_Line_kind (fun vs H Q E h => ?_) (fun cd A o s H vs Q E hr h => ?_)
  · obtain ⟨v0, v1, rfl, h⟩ := h; rfl
  obtain ⟨v0, v1, rfl, h⟩ := h
  obtain ⟨p, w', kd, rfl, hL, hy, k, kE⟩ := h
  refine ⟨_, (pss_cons (ps_expr (pe_mo T.cl_Line T.M_Line_need_stretch G_Line_need_stretch (hr.mono (by decide)) T.B_Line_need_stretch (takes_of (E := E) rfl rfl rfl rfl) (pv 0) (pa_cons (pv 1) pa_nil)))
    (pss_one (ps_ret (pe_ix (ix_u (K := K) rfl) (pe_ix (ix_u (K := K) rfl) (pe_fd (K := K) rfl (pv 0) rfl) (pv 1) (fun _ _ => rfl)) pe_int (fun _ _ => rfl))))), ?_⟩
  rw [st_Line_kind]
  obtain ⟨tp, ts, tl, vp, vs, vl, a, e1, e2, e3, r1, r2, r3⟩ := hL.ex
  walk_at "u"
  refine ⟨_, _, rfl, p, w', kd, rfl, hL, hy, fun e => ?_, kE⟩
  obtain ⟨i, rfl, hi⟩ := whole_nat e
  have eq := List.getElem?_eq_getElem hi
  walk_at "u"
  refine s_ixr (i := i) e2 r2 rfl (rP_of eq) fun u eu => ?_
  walk_at "u"
  exact k i _ rfl eq
theorem c_kind {T : Tx K mg} {H : Hp} {p : Addr} {w : Wo} {i : Nat} {q : Str × Int} {Q : VK} {E : XK} (h : Ln T H p w) (e : w.st[i]? = some q) (k : Q (.str q.1) H) : sp_Line_kind T [.ref p, .int (i : Nat)] H Q E :=
  ⟨_, _, rfl, p, w, .int, rfl, h, .int, fun j q' ej hj => by cases ej; rw [e] at hj; cases hj; exact k, fun z => (nw (List.getElem?_eq_some_iff.mp e).1 z).elim⟩
def sp_Line_home (T : Tx K mg) : Sp := sp2 fun x y H Q E => ∃ (p : Addr) (w : Wo) (kd : Kd), x = .ref p ∧ Ln T H p w ∧ TyN H y kd ∧ (∀ (i : Nat) q, y = .int (i : Nat) → w.st[i]? = some q → ∀ H', Kp [] H H' → Q (.str (nmA w (i + q.2.toNat))) H') ∧ (isWhole y 0 ((w.st.length : Int) - 1) = false → ErX T.C_NoStretch y H E)
set_option maxHeartbeats 16000000 in
theorem ok_Line_home (T : Tx K mg) : FnOk P w K mg base (L2.CX P w) 5 T.a_Line_home T.d_Line_home ["self", "k"] (sp_Line_home T) := by
  have G_Line_ends := ok_Line_ends (P := P) (w := w) (base := base) T
  refine T.F_Line_home.okX sc_Line_home (fun vs H Q E h => ?_) (fun cd A o s H vs Q E hr h => ?_)
  · obtain ⟨v0, v1, rfl, h⟩ := h; rfl
  obtain ⟨v0, v1, rfl, h⟩ := h
  obtain ⟨p, w', kd, rfl, hL, hy, k, kE⟩ := h
  refine ⟨_, (pss_one (ps_ret (pe_ix (ix_u (K := K) rfl) (pe_mo T.cl_Line T.M_Line_ends G_Line_ends (hr.mono (by decide)) T.B_Line_ends (takes_of (E := E) rfl rfl rfl rfl) (pv 0) (pa_cons (pv 1) pa_nil)) (pe_ix (ix_u (K := K) rfl) (pe_ix (ix_u (K := K) rfl) (pe_fd (K := K) rfl (pv 0) rfl) (pv 1) (fun _ _ => rfl)) pe_int (fun _ _ => rfl)) (fun _ _ => rfl)))), ?_⟩
  rw [st_Line_home]
  obtain ⟨tp, ts, tl, vp, vs, vl, a, e1, e2, e3, r1, r2, r3⟩ := hL.ex
  walk_at "u"
  refine ⟨_, _, rfl, p, w', kd, rfl, hL, hy, fun i ei hi t H1 f1 et k1 => ?_, kE⟩
  subst ei
  have eq := List.getElem?_eq_getElem hi
  have hq := (hL.ok.s.ok _ (List.mem_of_getElem? eq)).2
  walk_at "u"
  refine s_ixr (i := i) (by walk_at "gt") (r2.kp k1) rfl (rP_of eq) fun u eu => ?_
  walk_at "u"
  have z := k i _ rfl eq H1 k1
  rcases hq with hq | hq <;> (rw [hq] at z ⊢; exact s_ixt et rfl z)
theorem c_home {T : Tx K mg} {H : Hp} {p : Addr} {w : Wo} {i : Nat} {q : Str × Int} {Q : VK} {E : XK} (h : Ln T H p w) (e : w.st[i]? = some q) (k : ∀ H', Kp [] H H' → Q (.str (nmA w (i + q.2.toNat))) H') : sp_Line_home T [.ref p, .int (i : Nat)] H Q E :=
  ⟨_, _, rfl, p, w, .int, rfl, h, .int, fun j q' ej hj => by cases ej; rw [e] at hj; cases hj; exact k, fun z => (nw (List.getElem?_eq_some_iff.mp e).1 z).elim⟩
theorem low0 {lo : Lo} {high : Int} (h : GoodL 0 high lo) : ∀ (i : Nat) q, lo[i]? = some q → 0 ≤ lowAt 0 lo i ∧ 0 ≤ q.1 ∧ q.1 + 2 ≤ q.2.1 ∧ q.2.1 ≤ high ∧ (q.2.2 = 0 ∨ q.2.2 = 1)
  | 0, q, e => by
    have := h.at e
    simp only [lowAt] at this ⊢
    omega
  | i + 1, q, e => by
    have := h.at e
    have hi : i < lo.length := by
      have := (List.getElem?_eq_some_iff.mp e).1
      omega
    have p := low0 h i lo[i] (List.getElem?_eq_getElem hi)
    simp only [lowAt, List.getElem?_eq_getElem hi] at this ⊢
    omega
def sp_Line_long_ends (T : Tx K mg) : Sp := sp2 fun x y H Q E => ∃ (p : Addr) (w : Wo) (kd : Kd), x = .ref p ∧ Ln T H p w ∧ TyN H y kd ∧ (∀ (j : Nat) q, y = .int (j : Nat) → w.lo[j]? = some q → ∀ t H', H t = none → H' t = some (.tup [.str (nmA w q.1.toNat), .str (nmA w q.2.1.toNat)]) → Kp [] H H' → Q (.ref t) H') ∧ (isWhole y 0 ((w.lo.length : Int) - 1) = false → ErX T.C_NoLong y H E)
set_option maxHeartbeats 16000000 in
theorem ok_Line_long_ends (T : Tx K mg) : FnOk P w K mg base (L2.CX P w) 4 T.a_Line_long_ends T.d_Line_long_ends ["self", "j"] (sp_Line_long_ends T) := by
  have G_Line_need_long := ok_Line_need_long (P := P) (w := w) (base := base) T
  refine T.F_Line_long_ends.okX sc_Line_long_ends (fun vs H Q E h => ?_) (fun cd A o s H vs Q E hr h => ?_)
  · obtain ⟨v0, v1, rfl, h⟩ := h; rfl
  obtain ⟨v0, v1, rfl, h⟩ := h
  obtain ⟨p, w', kd, rfl, hL, hy, k, kE⟩ := h
  refine ⟨_, (pss_cons (ps_expr (pe_mo T.cl_Line T.M_Line_need_long G_Line_need_long (hr.mono (by decide)) T.B_Line_need_long (takes_of (E := E) rfl rfl rfl rfl) (pv 0) (pa_cons (pv 1) pa_nil)))
    (pss_cons (ps_asg (pe_ix (ix_u (K := K) rfl) (pe_fd (K := K) rfl (pv 0) rfl) (pv 1) (fun _ _ => rfl)) (pg_tupK (K := K) (n := 3) rfl rfl (pgs_cons (pg_name (i := 2) sc_Line_long_ends.nd rfl (Or.inl rfl)) (pgs_cons (pg_name (i := 3) sc_Line_long_ends.nd rfl (Or.inl rfl)) (pgs_cons (pg_name (i := 4) sc_Line_long_ends.nd rfl (Or.inl rfl)) pgs_nil)))))
    (pss_one (ps_ret (pe_tup (pa_cons (pe_ix (ix_u (K := K) rfl) (pe_ix (ix_u (K := K) rfl) (pe_fd (K := K) rfl (pv 0) rfl) (pv 2) (fun _ _ => rfl)) pe_int (fun _ _ => rfl)) (pa_cons (pe_ix (ix_u (K := K) rfl) (pe_ix (ix_u (K := K) rfl) (pe_fd (K := K) rfl (pv 0) rfl) (pv 3) (fun _ _ => rfl)) pe_int (fun _ _ => rfl)) pa_nil))))))), ?_⟩
  rw [st_Line_long_ends]
  obtain ⟨tp, ts, tl, vp, vs, vl, a, e1, e2, e3, r1, r2, r3⟩ := hL.ex
  obtain ⟨ls, l2, l6⟩ := hL.lens
  walk_at "u"
  refine ⟨_, _, rfl, p, w', kd, rfl, hL, hy, fun e => ?_, kE⟩
  obtain ⟨j, rfl, hj⟩ := whole_nat e
  have eq := List.getElem?_eq_getElem hj
  generalize w'.lo[j] = q at eq
  have b := low0 hL.ok.l j q eq
  obtain ⟨q1, eq1, n1⟩ := nmA_at (w := w') (i := q.1.toNat) (by omega)
  obtain ⟨q2, eq2, n2⟩ := nmA_at (w := w') (i := q.2.1.toNat) (by omega)
  walk_at "u"
  refine s_ixr (i := j) e3 r3 rfl (rL_of eq) fun u eu => ?_
  walk_at "u"
  refine s_ixr (i := q.1.toNat) e1 r1 (by omega) (rP_of eq1) fun u' eu' => ?_
  walk_at "u"
  refine s_ixr (i := q.2.1.toNat) e1 r1 (by omega) (rP_of eq2) fun u2 eu2 => ?_
  walk_at "u"
  walk_at "na"
  intro t H1 f1 e1' k1
  walk_at "u"
  exact k j q rfl eq t H1 f1 (by rw [← n1, ← n2]; exact e1') k1
theorem c_long_ends {T : Tx K mg} {H : Hp} {p : Addr} {w : Wo} {j : Nat} {q : Int × Int × Int} {Q : VK} {E : XK} (h : Ln T H p w) (e : w.lo[j]? = some q) (k : ∀ t H', H t = none → H' t = some (.tup [.str (nmA w q.1.toNat), .str (nmA w q.2.1.toNat)]) → Kp [] H H' → Q (.ref t) H') : sp_Line_long_ends T [.ref p, .int (j : Nat)] H Q E :=
  ⟨_, _, rfl, p, w, .int, rfl, h, .int, fun j' q' ej hj => by cases ej; rw [e] at hj; cases hj; exact k, fun z => (nw (List.getElem?_eq_some_iff.mp e).1 z).elim⟩
def sp_Line_long_home (T : Tx K mg) : Sp := sp2 fun x y H Q E => ∃ (p : Addr) (w : Wo) (kd : Kd), x = .ref p ∧ Ln T H p w ∧ TyN H y kd ∧ (∀ (j : Nat) q, y = .int (j : Nat) → w.lo[j]? = some q → ∀ H', Kp [] H H' → Q (.str (nmA w (if q.2.2 = 0 then q.1.toNat else q.2.1.toNat))) H') ∧ (isWhole y 0 ((w.lo.length : Int) - 1) = false → ErX T.C_NoLong y H E)
set_option maxHeartbeats 16000000 in
theorem ok_Line_long_home (T : Tx K mg) : FnOk P w K mg base (L2.CX P w) 5 T.a_Line_long_home T.d_Line_long_home ["self", "j"] (sp_Line_long_home T) := by
  have G_Line_long_ends := ok_Line_long_ends (P := P) (w := w) (base := base) T
  refine T.F_Line_long_home.okX sc_Line_long_home (fun vs H Q E h => ?_) (fun cd A o s H vs Q E hr h => ?_)
  · obtain ⟨v0, v1, rfl, h⟩ := h; rfl
  obtain ⟨v0, v1, rfl, h⟩ := h
  obtain ⟨p, w', kd, rfl, hL, hy, k, kE⟩ := h
  refine ⟨_, (pss_one (ps_ret (pe_ix (ix_u (K := K) rfl) (pe_mo T.cl_Line T.M_Line_long_ends G_Line_long_ends (hr.mono (by decide)) T.B_Line_long_ends (takes_of (E := E) rfl rfl rfl rfl) (pv 0) (pa_cons (pv 1) pa_nil)) (pe_ix (ix_u (K := K) rfl) (pe_ix (ix_u (K := K) rfl) (pe_fd (K := K) rfl (pv 0) rfl) (pv 1) (fun _ _ => rfl)) pe_int (fun _ _ => rfl)) (fun _ _ => rfl)))), ?_⟩
  rw [st_Line_long_home]
  obtain ⟨tp, ts, tl, vp, vs, vl, a, e1, e2, e3, r1, r2, r3⟩ := hL.ex
  walk_at "u"
  refine ⟨_, _, rfl, p, w', kd, rfl, hL, hy, fun j q ej eq t H1 f1 et k1 => ?_, kE⟩
  subst ej
  have b := low0 hL.ok.l j q eq
  walk_at "u"
  refine s_ixr (i := j) (by walk_at "gt") (r3.kp k1) rfl (rL_of eq) fun u eu => ?_
  walk_at "u"
  have z := k j q rfl eq H1 k1
  rcases b.2.2.2.2 with hq | hq <;> (rw [hq] at z ⊢; exact s_ixt et rfl z)
theorem c_long_home {T : Tx K mg} {H : Hp} {p : Addr} {w : Wo} {j : Nat} {q : Int × Int × Int} {Q : VK} {E : XK} (h : Ln T H p w) (e : w.lo[j]? = some q) (k : ∀ H', Kp [] H H' → Q (.str (nmA w (if q.2.2 = 0 then q.1.toNat else q.2.1.toNat))) H') : sp_Line_long_home T [.ref p, .int (j : Nat)] H Q E :=
  ⟨_, _, rfl, p, w, .int, rfl, h, .int, fun j' q' ej hj => by cases ej; rw [e] at hj; cases hj; exact k, fun z => (nw (List.getElem?_eq_some_iff.mp e).1 z).elim⟩
def sp_Line_told (T : Tx K mg) : Sp := sp1 fun x H Q _ => ∃ (p : Addr) (w : Wo), x = .ref p ∧ Ln T H p w ∧ ∀ (t tp ts tl : Addr) (vp vs vl : List V) H', H t = none → H' t = some (.tup [.ref tp, .ref ts, .ref tl]) → H' tp = some (.tup vp) → H' ts = some (.tup vs) → H' tl = some (.tup vl) → Rw H' vp (rP w.pl) → Rw H' vs (rP w.st) → Rw H' vl (rL w.lo) → Kp [] H H' → Q (.ref t) H'
set_option maxHeartbeats 16000000 in
theorem ok_Line_told (T : Tx K mg) : FnOk P w K mg base (L2.CX P w) 1 T.a_Line_told T.d_Line_told ["self"] (sp_Line_told T) := by
  refine T.F_Line_told.okX sc_Line_told (fun vs H Q E h => ?_) (fun cd A o s H vs Q E hr h => ?_)
  · obtain ⟨v0, rfl, h⟩ := h; rfl
  obtain ⟨v0, rfl, h⟩ := h
  obtain ⟨p, w', rfl, hL, k⟩ := h
  refine ⟨_, (pss_one (ps_ret (pe_tup (pa_cons (pe_fd (K := K) rfl (pv 0) rfl) (pa_cons (pe_fd (K := K) rfl (pv 0) rfl) (pa_cons (pe_fd (K := K) rfl (pv 0) rfl) pa_nil)))))), ?_⟩
  rw [st_Line_told]
  obtain ⟨tp, ts, tl, vp, vs, vl, a, e1, e2, e3, r1, r2, r3⟩ := hL.ex
  walk_at "u"
  walk_at "na"
  intro t H1 f1 et k1
  walk_at "u"
  exact k t tp ts tl vp vs vl H1 f1 et (k1.get0 e1) (k1.get0 e2) (k1.get0 e3) (r1.kp k1) (r2.kp k1) (r3.kp k1) k1
def optV (o : Option Nat) : V := match o with | some j => .int j | none => .non
def sp_Line_long_stretches (T : Tx K mg) : Sp := sp2 fun x y H Q E => ∃ (p : Addr) (w : Wo) (kd : Kd), x = .ref p ∧ Ln T H p w ∧ TyN H y kd ∧ (∀ (j : Nat) q, y = .int (j : Nat) → w.lo[j]? = some q → ∀ l H', H l = none → H' l = some (.lst (rngV q.1 (q.2.1 - q.1).toNat)) → Kp [] H H' → Q (.ref l) H') ∧ (isWhole y 0 ((w.lo.length : Int) - 1) = false → ErX T.C_NoLong y H E)
set_option maxHeartbeats 16000000 in
theorem ok_Line_long_stretches (T : Tx K mg) : FnOk P w K mg base (L2.CX P w) 4 T.a_Line_long_stretches T.d_Line_long_stretches ["self", "j"] (sp_Line_long_stretches T) := by
  have G_Line_need_long := ok_Line_need_long (P := P) (w := w) (base := base) T
  refine T.F_Line_long_stretches.okX sc_Line_long_stretches (fun vs H Q E h => ?_) (fun cd A o s H vs Q E hr h => ?_)
  · obtain ⟨v0, v1, rfl, h⟩ := h; rfl
  obtain ⟨v0, v1, rfl, h⟩ := h
  obtain ⟨p, w', kd, rfl, hL, hy, k, kE⟩ := h
  refine ⟨_, (pss_cons (ps_expr (pe_mo T.cl_Line T.M_Line_need_long G_Line_need_long (hr.mono (by decide)) T.B_Line_need_long (takes_of (E := E) rfl rfl rfl rfl) (pv 0) (pa_cons (pv 1) pa_nil)))
    (pss_one (ps_ret (pe_callTy (c_listR rfl) rfl T.z_list bt_list (pa_cons (pe_callTy c_range2 rfl T.z_range bt_range (pa_cons (pe_ix (ix_u (K := K) rfl) (pe_ix (ix_u (K := K) rfl) (pe_fd (K := K) rfl (pv 0) rfl) (pv 1) (fun _ _ => rfl)) pe_int (fun _ _ => rfl)) (pa_cons (pe_ix (ix_u (K := K) rfl) (pe_ix (ix_u (K := K) rfl) (pe_fd (K := K) rfl (pv 0) rfl) (pv 1) (fun _ _ => rfl)) pe_int (fun _ _ => rfl)) pa_nil))) pa_nil))))), ?_⟩
  rw [st_Line_long_stretches]
  obtain ⟨tp, ts, tl, vp, vs, vl, a, e1, e2, e3, r1, r2, r3⟩ := hL.ex
  obtain ⟨ls, l2, l6⟩ := hL.lens
  walk_at "u"
  refine ⟨_, _, rfl, p, w', kd, rfl, hL, hy, fun e => ?_, kE⟩
  obtain ⟨j, rfl, hj⟩ := whole_nat e
  have eq := List.getElem?_eq_getElem hj
  generalize w'.lo[j] = q at eq
  have b := low0 hL.ok.l j q eq
  walk_at "u"
  refine s_ixr (i := j) e3 r3 rfl (rL_of eq) fun u eu => ?_
  walk_at "u"
  refine s_ixr (i := j) e3 r3 rfl (rL_of eq) fun u' eu' => ?_
  walk_at "u"
  refine s_rngN fun r H1 f1 er k1 => ?_
  walk_at "u"
  refine s_listR er (by omega) fun l H2 f2 el k2 => ?_
  walk_at "u"
  exact k j q rfl eq l H2 (by walk_at "f") el (by walk_at "k")
theorem c_long_stretches {T : Tx K mg} {H : Hp} {p : Addr} {w : Wo} {j : Nat} {q : Int × Int × Int} {Q : VK} {E : XK} (h : Ln T H p w) (e : w.lo[j]? = some q) (k : ∀ l H', H l = none → H' l = some (.lst (rngV q.1 (q.2.1 - q.1).toNat)) → Kp [] H H' → Q (.ref l) H') : sp_Line_long_stretches T [.ref p, .int (j : Nat)] H Q E :=
  ⟨_, _, rfl, p, w, .int, rfl, h, .int, fun j' q' ej hj => by cases ej; rw [e] at hj; cases hj; exact k, fun z => (nw (List.getElem?_eq_some_iff.mp e).1 z).elim⟩
def loP (lo : Lo) (i : Nat) (j : Nat) : Bool := match lo[j]? with | some q => decide (q.1 ≤ (i : Int)) && decide ((i : Int) < q.2.1) | none => false
def loV (lo : Lo) (i : Nat) : V := optV ((List.range lo.length).find? (loP lo i))
def sp_Line_long_of (T : Tx K mg) : Sp := sp2 fun x y H Q E => ∃ (p : Addr) (w : Wo) (kd : Kd), x = .ref p ∧ Ln T H p w ∧ TyN H y kd ∧ (∀ i : Nat, y = .int (i : Nat) → i < w.st.length → ∀ H', Kp [] H H' → Q (loV w.lo i) H') ∧ (isWhole y 0 ((w.st.length : Int) - 1) = false → ErX T.C_NoStretch y H E)
set_option maxHeartbeats 16000000 in
theorem ok_Line_long_of (T : Tx K mg) : FnOk P w K mg base (L2.CX P w) 4 T.a_Line_long_of T.d_Line_long_of ["self", "k"] (sp_Line_long_of T) := by
  have G_Line_need_stretch := ok_Line_need_stretch (P := P) (w := w) (base := base) T
  refine T.F_Line_long_of.okX sc_Line_long_of (fun vs H Q E h => ?_) (fun cd A o s H vs Q E hr h => ?_)
  · obtain ⟨v0, v1, rfl, h⟩ := h; rfl
  obtain ⟨v0, v1, rfl, h⟩ := h
  obtain ⟨p, w', kd, rfl, hL, hy, k, kE⟩ := h
  refine ⟨_, (pss_cons (ps_expr (pe_mo T.cl_Line T.M_Line_need_stretch G_Line_need_stretch (hr.mono (by decide)) T.B_Line_need_stretch (takes_of (E := E) rfl rfl rfl rfl) (pv 0) (pa_cons (pv 1) pa_nil)))
    (pss_cons (ps_for PassesOwn.leaving rfl (pi_enumT (K := K) rfl rfl T.z_enumerate (pa_cons (pe_fd (K := K) rfl (pv 0) rfl) pa_nil)) (pg_tupK (K := K) (n := 2) rfl rfl (pgs_cons (pg_name (i := 2) sc_Line_long_of.nd rfl (Or.inl rfl)) (pgs_cons (pg_name (i := 3) sc_Line_long_of.nd rfl (Or.inl rfl)) pgs_nil)))
    (pss_one (ps_if (pt_chain o_le o_lt (pe_ix (ix_u (K := K) rfl) (pv 3) pe_int (fun _ _ => rfl)) (pv 1) (pe_ix (ix_u (K := K) rfl) (pv 3) pe_int (fun _ _ => rfl)))
    (pss_one (ps_ret (pv 2)))
    pss_nil)))
    (pss_one (ps_ret pe_non)))), ?_⟩
  rw [st_Line_long_of]
  obtain ⟨tp, ts, tl, vp, vs, vl, a, e1, e2, e3, r1, r2, r3⟩ := hL.ex
  have ll : vl.length = w'.lo.length := by rw [r3.len]; simp [rL]
  walk_at "u"
  refine ⟨_, _, rfl, p, w', kd, rfl, hL, hy, fun e => ?_, kE⟩
  obtain ⟨i, rfl, hi⟩ := whole_nat e
  replace k := k i rfl hi
  walk_at "u"
  refine for_eT e3 (fun m σ H' => Kp [] H H' ∧ (∀ m' < m, loP w'.lo i m' = false) ∧ ∃ u2 u3, σ = [some (.ref p), some (.int (i : Nat)), u2, u3]) ⟨Kp.refl, by simp, _, _, rfl⟩ (fun m σ' H' p xs e => p.1.tgt e) ?_ ?_
  · rintro m x σ H3 t H4 ex ⟨k3, hm, u2, u3, rfl⟩ f4 e4 k4
    obtain ⟨u, r, rfl, er, eu⟩ := r3.at ex
    obtain ⟨q, eq, rfl⟩ := rL_at er
    have eu4 : H4 u = some (.tup [.int q.1, .int q.2.1, .int q.2.2]) := by walk_at "gt"
    have ep : loP w'.lo i m = (decide (q.1 ≤ (i : Int)) && decide ((i : Int) < q.2.1)) := by unfold loP; rw [eq]
    have fin : loP w'.lo i m = true → Q (.int (m : Nat)) H4 := fun h => by
      have := k H4 (by walk_at "k")
      unfold loV at this
      rw [List.find?_range_eq_some.mpr ⟨h, by simpa using (List.getElem?_eq_some_iff.mp eq).1, fun j hj => by simpa using hm j hj⟩] at this
      exact this
    have go : loP w'.lo i m = false → ∀ m' < m + 1, loP w'.lo i m' = false := fun h m' hm' => by
      rcases Nat.lt_succ_iff_lt_or_eq.mp hm' with h' | rfl
      · exact hm m' h'
      · exact h
    walk_at "u"
    refine s_ite (fun h1 => ?_) (fun h1 => ?_)
    · walk_at "u"
      refine s_ite (fun h2 => ?_) (fun h2 => ?_)
      · walk_at "u"
        exact fin (by rw [ep, decide_eq_true h1, decide_eq_true h2]; rfl)
      · walk_at "u"
        exact ⟨by walk_at "k", go (by rw [ep, decide_eq_false h2, Bool.and_false]), _, _, rfl⟩
    · walk_at "u"
      exact ⟨by walk_at "k", go (by rw [ep, decide_eq_false h1, Bool.false_and]), _, _, rfl⟩
  · rintro σ H3 ⟨k3, hm, u2, u3, rfl⟩
    walk_at "u"
    have := k H3 (by walk_at "k")
    unfold loV at this
    rw [List.find?_eq_none.mpr (fun m hm' => by rw [hm m (by rw [ll]; simpa using hm')]; simp)] at this
    exact this
theorem c_long_of {T : Tx K mg} {H : Hp} {p : Addr} {w : Wo} {i : Nat} {Q : VK} {E : XK} (h : Ln T H p w) (hi : i < w.st.length) (k : ∀ H', Kp [] H H' → Q (loV w.lo i) H') : sp_Line_long_of T [.ref p, .int (i : Nat)] H Q E :=
  ⟨_, _, rfl, p, w, .int, rfl, h, .int, fun j ej hj => by cases ej; exact k, fun z => (nw hi z).elim⟩
def btw (i j : Nat) : V := if i + 1 = j ∨ j + 1 = i then .int (min i j : Nat) else .non
def Btw (T : Tx K mg) (f : Wo → Nat → Nat → V) : Sp := sp3 fun x y z H Q E => ∃ (p : Addr) (w : Wo) (kd kd2 : Kd), x = .ref p ∧ Ln T H p w ∧ TyN H y kd ∧ Small y ∧ TyN H z kd2 ∧ Small z ∧ (∀ (i j : Nat) (a b : Str), y = .str a → z = .str b → (nms w)[i]? = some a → (nms w)[j]? = some b → ∀ H', Kp [] H H' → Q (f w i j) H') ∧ (Bad w y → ErX T.C_NoPlace y H E) ∧ (∀ (i : Nat) (a : Str), y = .str a → (nms w)[i]? = some a → Bad w z → ErX T.C_NoPlace z H E)
theorem c_btw {T : Tx K mg} {f : Wo → Nat → Nat → V} {H : Hp} {p : Addr} {w : Wo} {i j : Nat} {a b : Str} {Q : VK} {E : XK} (h : Ln T H p w) (ea : (nms w)[i]? = some a) (eb : (nms w)[j]? = some b) (k : ∀ H', Kp [] H H' → Q (f w i j) H') : Btw T f [.ref p, .str a, .str b] H Q E :=
  ⟨_, _, _, rfl, p, w, .str, .str, rfl, h, .str, sm_ss h.ok ea, .str, sm_ss h.ok eb, fun i' j' a' b' e1 e2 e3 e4 => by cases e1; cases e2; cases nms_inj h.ok ea e3; cases nms_inj h.ok eb e4; exact k, fun z => (ne0 z ea).elim, fun _ _ e1 _ z => (ne0 z eb).elim⟩
def sp_Line_between (T : Tx K mg) : Sp := Btw T fun _ i j => btw i j
set_option maxHeartbeats 16000000 in
theorem ok_Line_between (T : Tx K mg) : FnOk P w K mg base (L2.CX P w) 4 T.a_Line_between T.d_Line_between ["self", "one", "other"] (sp_Line_between T) := by
  have G_Line_number_of := ok_Line_number_of (P := P) (w := w) (base := base) T
  refine T.F_Line_between.okX sc_Line_between (fun vs H Q E h => ?_) (fun cd A o s H vs Q E hr h => ?_)
  · obtain ⟨v0, v1, v2, rfl, h⟩ := h; rfl
  obtain ⟨v0, v1, v2, rfl, h⟩ := h
  obtain ⟨p, w', kd, kd2, rfl, hL, hy, hy2, hz, hz2, k, kE, kE2⟩ := h
  refine ⟨_, (pss_cons (ps_set (i := 3) sc_Line_between.nd rfl (Or.inl rfl) (pe_mo T.cl_Line T.M_Line_number_of G_Line_number_of (hr.mono (by decide)) T.B_Line_number_of (takes_of (E := E) rfl rfl rfl rfl) (pv 0) (pa_cons (pv 1) pa_nil)))
    (pss_cons (ps_set (i := 4) sc_Line_between.nd rfl (Or.inl rfl) (pe_mo T.cl_Line T.M_Line_number_of G_Line_number_of (hr.mono (by decide)) T.B_Line_number_of (takes_of (E := E) rfl rfl rfl rfl) (pv 0) (pa_cons (pv 2) pa_nil)))
    (pss_one (ps_ret (pe_ifExp (pt_cmpR (o_eq (K := K) rfl hr) (pe_callB c_abs rfl T.z_abs bt_abs (pa_cons (pe_op o_sub (pv 3) (pv 4)) pa_nil)) pe_int (nomark _)) (pe_callB (c_min rfl) rfl T.z_min bt_min (pa_cons (pv 3) (pa_cons (pv 4) pa_nil))) pe_non))))), ?_⟩
  rw [st_Line_between]
  obtain ⟨tp, ts, tl, vp, vs, vl, at', _⟩ := hL.ex
  walk_at "u"
  refine ⟨_, _, rfl, p, w', kd, rfl, hL, hy, hy2, fun i a e1' ea H1 k1 => ?_, kE⟩
  subst e1'
  walk_at "u"
  refine ⟨_, _, rfl, p, w', kd2, rfl, by walk_at "g", hz.kp k1, hz2, fun j b e2' eb H2 k2 => ?_, fun bz => (kE2 i a rfl ea bz).kp k1⟩
  subst e2'
  replace k : ∀ H', Kp [] H H' → Q (btw i j) H' := k i j a b rfl rfl ea eb
  walk_at "u"
  have q := k H2 (by walk_at "k")
  unfold btw at q
  refine s_ite (fun h => ?_) (fun h => ?_)
  · walk_at "u"
    rw [if_pos (by split at h <;> omega)] at q
    have e : (if (j : Int) < (i : Int) then (j : Int) else (i : Int)) = ((min i j : Nat) : Int) := by split <;> omega
    rw [e]
    exact q
  · walk_at "u"
    rw [if_neg (by split at h <;> omega)] at q
    exact q
/-- the first long one between two places -/
def lbP (lo : Lo) (a b : Int) (j : Nat) : Bool := match lo[j]? with | some q => decide (q.1 = a) && decide (q.2.1 = b) | none => false
def lbV (lo : Lo) (a b : Int) : V := optV ((List.range lo.length).find? (lbP lo a b))
theorem eqv2 {a b c d : Int} : PyData.eqv (.tuple [.int a, .int b]) (.tuple [.int c, .int d]) = (decide (a = c) && decide (b = d)) := by
  simp [PyData.eqv, PyData.eqvAll]
  rw [Bool.eq_iff_iff]
  simp
theorem shp2 {a b : Int} : SeqAt.shaped (.tuple [.int a, .int b]) = true := by
  unfold SeqAt.shaped
  simp only [PyData.canLay0, PyData.canLayAll0, PyData.depth, PyData.depthAll, Bool.and_true]
  rfl
theorem dn2 {H : Hp} {t : Addr} {a b : Int} (h : H t = some (.tup [.int a, .int b])) : Dn K H (.ref t) (.tuple [.int a, .int b]) := .tup (SqT.of h) (.cons (.int _) (.cons (.int _) .nil))
def sp_Line_long_between (T : Tx K mg) : Sp := Btw T fun w i j => lbV w.lo (min i j : Nat) (max i j : Nat)
set_option maxHeartbeats 16000000 in
theorem ok_Line_long_between (T : Tx K mg) : FnOk P w K mg base (L2.CX P w) 4 T.a_Line_long_between T.d_Line_long_between ["self", "one", "other"] (sp_Line_long_between T) := by
  have G_Line_number_of := ok_Line_number_of (P := P) (w := w) (base := base) T
  refine T.F_Line_long_between.okX sc_Line_long_between (fun vs H Q E h => ?_) (fun cd A o s H vs Q E hr h => ?_)
  · obtain ⟨v0, v1, v2, rfl, h⟩ := h; rfl
  obtain ⟨v0, v1, v2, rfl, h⟩ := h
  obtain ⟨p, w', kd, kd2, rfl, hL, hy, hy2, hz, hz2, k, kE, kE2⟩ := h
  refine ⟨_, (pss_cons (ps_set (i := 3) sc_Line_long_between.nd rfl (Or.inl rfl) (pe_mo T.cl_Line T.M_Line_number_of G_Line_number_of (hr.mono (by decide)) T.B_Line_number_of (takes_of (E := E) rfl rfl rfl rfl) (pv 0) (pa_cons (pv 1) pa_nil)))
    (pss_cons (ps_set (i := 4) sc_Line_long_between.nd rfl (Or.inl rfl) (pe_mo T.cl_Line T.M_Line_number_of G_Line_number_of (hr.mono (by decide)) T.B_Line_number_of (takes_of (E := E) rfl rfl rfl rfl) (pv 0) (pa_cons (pv 2) pa_nil)))
    (pss_cons (ps_for PassesOwn.leaving rfl (pi_enumT (K := K) rfl rfl T.z_enumerate (pa_cons (pe_fd (K := K) rfl (pv 0) rfl) pa_nil)) (pg_tupK (K := K) (n := 2) rfl rfl (pgs_cons (pg_name (i := 5) sc_Line_long_between.nd rfl (Or.inl rfl)) (pgs_cons (pg_name (i := 6) sc_Line_long_between.nd rfl (Or.inl rfl)) pgs_nil)))
    (pss_one (ps_if (pt_cmpR (o_eq (K := K) rfl hr) (pe_slice (sl_u (K := K) rfl) (pv 6) po_none (po_some pe_int)) (pe_tup (pa_cons (pe_callB (c_min rfl) rfl T.z_min bt_min (pa_cons (pv 3) (pa_cons (pv 4) pa_nil))) (pa_cons (pe_callB (c_max rfl) rfl T.z_max bt_max (pa_cons (pv 3) (pa_cons (pv 4) pa_nil))) pa_nil))) (nomark _))
    (pss_one (ps_ret (pv 5)))
    pss_nil)))
    (pss_one (ps_ret pe_non))))), ?_⟩
  rw [st_Line_long_between]
  obtain ⟨tp, ts, tl, vp, vs, vl, at', e1, e2, e3, r1, r2, r3⟩ := hL.ex
  have ll : vl.length = w'.lo.length := by rw [r3.len]; simp [rL]
  walk_at "u"
  refine ⟨_, _, rfl, p, w', kd, rfl, hL, hy, hy2, fun i a e1' ea H1 k1 => ?_, kE⟩
  subst e1'
  walk_at "u"
  refine ⟨_, _, rfl, p, w', kd2, rfl, by walk_at "g", hz.kp k1, hz2, fun j b e2' eb H2 k2 => ?_, fun bz => (kE2 i a rfl ea bz).kp k1⟩
  subst e2'
  replace k : ∀ H', Kp [] H H' → Q (lbV w'.lo (min i j : Nat) (max i j : Nat)) H' := k i j a b rfl rfl ea eb
  walk_at "u"
  have eT : H2 tl = some (.tup vl) := by walk_at "gt"
  refine for_eT eT (fun m σ H' => Kp [] H2 H' ∧ (∀ m' < m, lbP w'.lo (min i j : Nat) (max i j : Nat) m' = false) ∧ ∃ u5 u6, σ = [some (.ref p), some (.str a), some (.str b), some (.int i), some (.int j), u5, u6]) ⟨Kp.refl, by simp, _, _, rfl⟩ (fun m σ' H' p xs e => p.1.tgt e) ?_ ?_
  · rintro m x σ H3 t H4 ex ⟨k3, hm, u5, u6, rfl⟩ f4 e4 k4
    obtain ⟨u, r, rfl, er, eu⟩ := r3.at ex
    obtain ⟨q, eq, rfl⟩ := rL_at er
    have eu4 : H4 u = some (.tup [.int q.1, .int q.2.1, .int q.2.2]) := by walk_at "gt"
    walk_at "u"
    refine s_slt eu4 fun t5 H5 e5 k5 => ?_
    have e5 : H5 t5 = some (.tup [.int q.1, .int q.2.1]) := e5
    walk_at "u"
    walk_at "na"
    intro t6 H6 f6 e6 k6
    refine s_eqD (dn2 (by walk_at "gt")) (dn2 e6) shp2 shp2 ?_
    rw [eqv2]
    have em : (if (j : Int) < (i : Int) then (j : Int) else (i : Int)) = ((min i j : Nat) : Int) := by split <;> omega
    have ex' : (if (j : Int) > (i : Int) then (j : Int) else (i : Int)) = ((max i j : Nat) : Int) := by split <;> omega
    rw [em, ex']
    have ep : lbP w'.lo (min i j : Nat) (max i j : Nat) m = (decide (q.1 = ((min i j : Nat) : Int)) && decide (q.2.1 = ((max i j : Nat) : Int))) := by unfold lbP; rw [eq]
    rw [← ep]
    walk_at "u"
    refine s_itb (fun h => ?_) (fun h => ?_)
    · walk_at "u"
      have := k H6 (by walk_at "k")
      unfold lbV at this
      rw [List.find?_range_eq_some.mpr ⟨h, by simpa using (List.getElem?_eq_some_iff.mp eq).1, fun j hj => by simpa using hm j hj⟩] at this
      exact this
    · walk_at "u"
      refine ⟨by walk_at "k", fun m' hm' => ?_, _, _, rfl⟩
      rcases Nat.lt_succ_iff_lt_or_eq.mp hm' with h' | rfl
      · exact hm m' h'
      · exact h
  · rintro σ H3 ⟨k3, hm, u5, u6, rfl⟩
    walk_at "u"
    have := k H3 (by walk_at "k")
    unfold lbV at this
    rw [List.find?_eq_none.mpr (fun m hm' => by rw [hm m (by rw [ll]; simpa using hm')]; simp)] at this
    exact this

theorem let_ss : SS ("abcdefghijklmnopqrstuvwxyz" : Str) 26 := SS.mk' (by decide +kernel)
def letL : List Nat := [97, 98, 99, 100, 101, 102, 103, 104, 105, 106, 107, 108, 109, 110, 111, 112, 113, 114, 115, 116, 117, 118, 119, 120, 121, 122]
theorem let_eq : letters = S letL := by decide +kernel
theorem let_cps : letters.cps.toList = letL := by rw [let_eq, S_cps]
theorem let_nd : letL.Nodup := by decide
theorem let_small : ∀ c ∈ letL, c < 1114112 := by decide
def okW (cs : List Nat) : Prop := 1 ≤ cs.length ∧ cs.length ≤ 6 ∧ ∀ c ∈ cs, c ∈ letL
theorem okW.nm {cs : List Nat} (h : okW cs) : isName (.str (S cs)) = true ∧ SS (S cs) 20 := by
  obtain ⟨h1, h2, h3⟩ := h
  refine ⟨?_, SS.S (by omega) fun c hc => let_small c (h3 c hc)⟩
  unfold isName
  simp only [Bool.and_eq_true, decide_eq_true_eq, List.all_eq_true, S_len, S_cps, let_cps]
  exact ⟨⟨h1, h2⟩, fun c hc => h3 c hc⟩
structure NmsOk (zs : List Str) : Prop where
  nd : zs.Nodup
  ok : ∀ z ∈ zs, isName (.str z) = true ∧ SS z 20
theorem nms_of {F : Nat → List Nat} {n : Nat} (h : ∀ k, k < n → okW (F k)) (i : ∀ j k, j < n → k < n → F j = F k → j = k) : NmsOk ((List.range n).map fun k => S (F k)) :=
  ⟨range_nodup fun j k hj hk e => i j k hj hk (S_inj e), fun z hz => by
    obtain ⟨k, hk, rfl⟩ := List.mem_map.mp hz
    exact (h k (List.mem_range.mp hk)).nm⟩
theorem let_at {i : Int} (h0 : 0 ≤ i) (h1 : i < 26) : ∃ c, c ∈ letL ∧ letL[i.toNat]? = some c ∧ atI ("abcdefghijklmnopqrstuvwxyz" : Str).cps.toList i = some c := by
  have e : ("abcdefghijklmnopqrstuvwxyz" : Str).cps.toList = letL := let_cps
  rw [e]
  obtain ⟨c, e1, e2⟩ := at_int (xs := letL) h0 (by simpa [letL] using h1)
  exact ⟨c, List.mem_of_getElem? e1, e1, e2⟩
def wordsL : List Str := ["place", "staff", "ticket", "low", "high", "long", "pilot", "train", "at", "to", "in", "get", "a"]
theorem wordsL_ok : (wordsL.all fun z => decide (1 ≤ z.cps.toList.length) && decide (z.cps.toList.length ≤ 6) && z.cps.toList.all fun c => decide (c ∈ letL)) = true := by decide +kernel
theorem wordsL_nd : wordsL.Nodup := by decide +kernel
def sp_law_names : Sp := sp2 fun x y H Q _ => ∃ (p : Addr) (n many : Nat), x = .ref p ∧ y = .int many ∧ 1 ≤ many ∧ many ≤ 7 ∧ Box H p n ∧ n ≤ 900000 ∧
  ∀ (l : Addr) (zs : List Str) (H' : Hp), H l = none → H' l = some (.lst (zs.map V.str)) → zs.length = many → NmsOk zs → Box H' p (n + 10) → Kp [p] H H' → Q (.ref l) H'
set_option maxHeartbeats 16000000 in
theorem ok_law_names (T : Tx K mg) : FnOk P w K mg base (L2.CX P w) 2 T.a_law_names T.d_law_names ["_law_box_here", "_law_many"] (sp_law_names) := by
  have G_law_take := ok_law_take (P := P) (w := w) (base := base) T
  refine T.F_law_names.okX sc_law_names (fun vs H Q E h => ?_) (fun cd A o s H vs Q E hr h => ?_)
  · obtain ⟨v0, v1, rfl, h⟩ := h; rfl
  obtain ⟨v0, v1, rfl, h⟩ := h
  obtain ⟨p, n, many, rfl, rfl, hm1, hm7, hB, hn, k⟩ := h
  refine ⟨_, (pss_cons (ps_set (i := 2) sc_law_names.nd rfl (Or.inr rfl) pe_str)
    (pss_cons (ps_set (i := 3) sc_law_names.nd rfl (Or.inr rfl) (pe_lst (pa_cons pe_str (pa_cons pe_str (pa_cons pe_str (pa_cons pe_str (pa_cons pe_str (pa_cons pe_str (pa_cons pe_str (pa_cons pe_str (pa_cons pe_str (pa_cons pe_str (pa_cons pe_str (pa_cons pe_str (pa_cons pe_str pa_nil)))))))))))))))
    (pss_cons (ps_set (i := 4) sc_law_names.nd rfl (Or.inl rfl) (pe_co G_law_take (hr.mono (by decide)) rfl T.m_law_take T.F_law_take.kp T.B_law_take (takes_of (E := E) rfl rfl rfl rfl) (pa_cons (pv 0) (pa_cons pe_int pa_nil))))
    (pss_cons (ps_set (i := 5) sc_law_names.nd rfl (Or.inr rfl) (pe_co G_law_take (hr.mono (by decide)) rfl T.m_law_take T.F_law_take.kp T.B_law_take (takes_of (E := E) rfl rfl rfl rfl) (pa_cons (pv 0) (pa_cons pe_int pa_nil))))
    (pss_cons (ps_if (pt_cmpR (o_eq (K := K) rfl hr) (pv 4) pe_int (nomark _))
    (pss_one (ps_ret (pe_lc (own := [("_law_k", 8)]) rfl sc_law_names.nd (pi_range1 rfl T.z_range (pa_cons (pv 1) pa_nil)) (blkOk_by (own := [("_law_k", 8)]) (N := N_law_names) (sc := defScope s_law_names) (by decide +kernel)) (fun _ _ _ _ _ => (pg_name (i := 8) sc_law_names.nd rfl (Or.inl rfl))) (fun _ _ _ _ _ => pts_nil) (fun _ _ _ _ _ => (pe_ix (ix_u (K := K) rfl) (pv 3) (pe_op o_mod (pe_op (o_add (K := K) rfl) (pv 5) (pe_op o_mul pe_int (pv 8))) pe_int) (fun _ _ => rfl))))))
    pss_nil)
    (pss_cons (ps_set (i := 6) sc_law_names.nd rfl (Or.inr rfl) (pe_joinU (K := K) rfl pe_str (pe_lc (own := [("_law_k", 8)]) rfl sc_law_names.nd (pi_range1 rfl T.z_range (pa_cons pe_int pa_nil)) (blkOk_by (own := [("_law_k", 8)]) (N := N_law_names) (sc := defScope s_law_names) (by decide +kernel)) (fun _ _ _ _ _ => (pg_name (i := 8) sc_law_names.nd rfl (Or.inl rfl))) (fun _ _ _ _ _ => pts_nil) (fun _ _ _ _ _ => (pe_ix (ix_u (K := K) rfl) (pv 2) (pe_co G_law_take (hr.mono (by decide)) rfl T.m_law_take T.F_law_take.kp T.B_law_take takes0 (pa_cons (pv 0) (pa_cons pe_int pa_nil))) (fun _ _ => rfl))))))
    (pss_cons (ps_if (PW.pt (pw_and (pt_cmpR (o_eq (K := K) rfl hr) (pv 4) pe_int (nomark _)) (pw_and1 (pt_cmpR o_lt (pv 1) pe_int (nomark _)))))
    (pss_one (ps_ret (pe_lc (own := [("_law_k", 8)]) rfl sc_law_names.nd (pi_range1 rfl T.z_range (pa_cons (pv 1) pa_nil)) (blkOk_by (own := [("_law_k", 8)]) (N := N_law_names) (sc := defScope s_law_names) (by decide +kernel)) (fun _ _ _ _ _ => (pg_name (i := 8) sc_law_names.nd rfl (Or.inl rfl))) (fun _ _ _ _ _ => pts_nil) (fun _ _ _ _ _ => (pe_slice (sl_u (K := K) rfl) (pv 6) po_none (po_some (pe_op (o_add (K := K) rfl) pe_int (pe_op o_mod (pe_op (o_add (K := K) rfl) (pv 5) (pe_op o_mul pe_int (pv 8))) pe_int))))))))
    pss_nil)
    (pss_cons (ps_set (i := 7) sc_law_names.nd rfl (Or.inr rfl) (pe_co G_law_take (hr.mono (by decide)) rfl T.m_law_take T.F_law_take.kp T.B_law_take (takes_of (E := E) rfl rfl rfl rfl) (pa_cons (pv 0) (pa_cons pe_int pa_nil))))
    (pss_one (ps_ret (pe_lc (own := [("_law_k", 8)]) rfl sc_law_names.nd (pi_range1 rfl T.z_range (pa_cons (pv 1) pa_nil)) (blkOk_by (own := [("_law_k", 8)]) (N := N_law_names) (sc := defScope s_law_names) (by decide +kernel)) (fun _ _ _ _ _ => (pg_name (i := 8) sc_law_names.nd rfl (Or.inl rfl))) (fun _ _ _ _ _ => pts_nil) (fun _ _ _ _ _ => (pe_op (o_add (K := K) rfl) (pe_op (o_add (K := K) rfl) (pe_slice (sl_u (K := K) rfl) (pv 6) po_none (po_some (pv 7))) (pe_ix (ix_u (K := K) rfl) (pv 2) (pe_op o_mod (pe_op (o_add (K := K) rfl) (pv 5) (pe_op o_mul pe_int (pv 8))) pe_int) (fun _ _ => rfl))) (pe_slice (sl_u (K := K) rfl) (pv 6) (po_some (pv 7)) (po_some (pe_op (o_add (K := K) rfl) (pv 7) (pe_op o_mod (pe_op (o_add (K := K) rfl) (pv 5) (pv 8)) (pe_op o_sub pe_int (pv 7))))))))))))))))))), ?_⟩
  rw [st_law_names]
  have kf : ∀ {l : Addr} {F : Nat → List Nat} {H' : Hp}, H l = none → H' l = some (.lst ((List.range many).map fun k => V.str (S (F k)))) → (∀ k, k < many → okW (F k)) → (∀ j k, j < many → k < many → F j = F k → j = k) → Box H' p (n + 10) → Kp [p] H H' → Q (.ref l) H' := fun f e h1 h2 hB' k' => by
    refine k _ _ _ f ?_ ?_ (nms_of h1 h2) hB' k'
    · rw [List.map_map]; exact e
    · simp
  walk_at "u"
  walk_at "na"
  intro l1 H1 f1 e1 k1
  walk_at "u"
  walk_at "tk"
  intro way H2 w0 w1 B2 k2
  walk_at "u"
  walk_at "tk"
  intro first H3 i0 i1 B3 k3
  walk_at "u"
  refine s_ite (fun h => ?_) (fun h => ?_)
  · walk_at "u"
    refine s_rng (by omega) (by omega) ?_
    intro D hD
    let F : Nat → List Nat := fun k => (wordsL.getD ((first + 5 * (0 + (k : Int))) % 13).toNat "").cps.toList
    refine lc_R hD (fun i acc H' => Kp [D] H3 H' ∧ acc = (List.range i).map fun k => V.str (S (F k))) (fun H4 e4 k4 => ⟨by walk_at "k", rfl⟩) ?_ ?_
    · rintro i acc H4 hi ea ⟨k4, rfl⟩
      walk_at "u"
      refine ⟨rfl, ?_⟩
      walk_at "u"
      have j0 : 0 ≤ (first + 5 * (0 + (i : Int))) % 13 := Int.emod_nonneg _ (by decide)
      have j1 : (first + 5 * (0 + (i : Int))) % 13 < 13 := Int.emod_lt_of_pos _ (by decide)
      obtain ⟨v, hv, ev⟩ := at_int (xs := wordsL.map V.str) j0 (by simpa [wordsL] using j1)
      rw [List.getElem?_map] at hv
      obtain ⟨z, ez, rfl⟩ := Option.map_eq_some_iff.mp hv
      have e1' : H1 l1 = some (.lst (wordsL.map V.str)) := e1
      refine s_ixl (by walk_at "g") ev ?_
      refine PvD.add ea (by simp; omega) fun H5 e5 k5 => ⟨by walk_at "k", ?_⟩
      rw [range_snoc]
      congr 1
      show [V.str z] = [V.str (S (wordsL.getD _ "").cps.toList)]
      rw [S_of, List.getD_eq_getElem?_getD, ez]
      rfl
    · rintro acc H4 ea ⟨k4, rfl⟩
      walk_at "u"
      refine kf (F := F) (by walk_at "f") ea (fun k hk => ?_) (fun j k hj hk e => ?_) (Box.more (n := n + 2) (by walk_at "g") (by omega)) (by walk_at "k")
      · have j1 : ((first + 5 * (0 + (k : Int))) % 13).toNat < 13 := by omega
        have hm : wordsL.getD ((first + 5 * (0 + (k : Int))) % 13).toNat "" ∈ wordsL := by
          rw [List.getD_eq_getElem?_getD, List.getElem?_eq_getElem (show _ < wordsL.length by simpa [wordsL] using j1)]
          exact List.getElem_mem _
        have := List.all_eq_true.mp wordsL_ok _ hm
        simp only [Bool.and_eq_true, decide_eq_true_eq, List.all_eq_true] at this
        exact ⟨this.1.1, this.1.2, this.2⟩
      · have j1 : ((first + 5 * (0 + (j : Int))) % 13).toNat < wordsL.length := by simp only [wordsL, List.length_cons, List.length_nil]; omega
        have j2 : ((first + 5 * (0 + (k : Int))) % 13).toNat < wordsL.length := by simp only [wordsL, List.length_cons, List.length_nil]; omega
        have e' : wordsL.getD ((first + 5 * (0 + (j : Int))) % 13).toNat "" = wordsL.getD ((first + 5 * (0 + (k : Int))) % 13).toNat "" := by
          have := congrArg S e
          rwa [S_of, S_of] at this
        rw [List.getD_eq_getElem?_getD, List.getD_eq_getElem?_getD, List.getElem?_eq_getElem j1, List.getElem?_eq_getElem j2] at e'
        have := (List.getElem_inj wordsL_nd).mp (show wordsL[_] = wordsL[_] from e')
        omega
  · walk_at "u"
    refine s_rng (by omega) (by omega) ?_
    intro D hD
    refine lc_R hD (fun i acc H' => Kp [p, D] H3 H' ∧ Box H' p (n + 2 + i) ∧ ∃ cs : List Nat, (∀ c ∈ cs, c ∈ letL) ∧ cs.length = i ∧ acc = cs.map fun c => V.str ⟨#[c]⟩) (fun H4 e4 k4 => ⟨by walk_at "k", by walk_at "g", [], by simp, rfl, rfl⟩) ?_ ?_
    · rintro i acc H4 hi ea ⟨k4, B4, cs, hcs, hl, rfl⟩
      walk_at "u"
      refine ⟨rfl, ?_⟩
      walk_at "u"
      walk_at "tk"
      intro d5 H5 d50 d51 B5 k5
      walk_at "u"
      obtain ⟨c, hc, _, hc2⟩ := let_at d50 d51
      refine s_ixs (by decide +kernel) hc2 ?_
      refine PvD.add (acc := cs.map fun c => V.str ⟨#[c]⟩) (by walk_at "g") (by simp; omega) fun H6 e6 k6 => ⟨by walk_at "k", by walk_at "g", cs ++ [c], ?_, by simp [hl], by simp⟩
      intro y hy
      rcases List.mem_append.mp hy with hy | hy
      · exact hcs y hy
      · rw [List.mem_singleton.mp hy]; exact hc
    · rintro acc H4 ea ⟨k4, B4, cs, hcs, hl, rfl⟩
      walk_at "u"
      refine s_join (ys := cs.map fun c => ⟨#[c]⟩) (by rw [List.map_map]; exact ea) ?_ ?_
      · rw [ones_len, List.length_map, show (Str.ofString "").length = 0 by decide +kernel]
        omega
      rw [S_join]
      have hl6 : cs.length = 6 := by simpa using hl
      have sS : (S cs).length = 6 := by rw [S_len]; exact hl6
      clear hl
      walk_at "w"
      refine s_ifS (jT (fun b H' => H4 = H' ∧ (b = true → way = 1 ∧ many < 7)) (fun b H' => ?_) (fun _ key => ?_))
      rotate_left
      · walk_at "u"
        refine s_ite (fun h => ?_) (fun h => ?_)
        · walk_at "u"
          exact key _ _ ⟨rfl, fun e => ⟨h, by have := of_decide_eq_true e; omega⟩⟩
        · exact key _ _ ⟨rfl, fun e => by cases e⟩
      rintro ⟨rfl, hb⟩
      cases b with
      | true =>
        obtain ⟨hw1, hm6⟩ := hb rfl
        walk_at "u"
        refine s_rng (by omega) (by omega) ?_
        intro L hL
        let F : Nat → List Nat := fun k => cs.take (1 + (first + 5 * (0 + (k : Int))) % 6).toNat
        refine lc_R hL (fun i acc H' => Kp [L] H4 H' ∧ acc = (List.range i).map fun k => V.str (S (F k))) (fun H5 e5 k5 => ⟨by walk_at "k", rfl⟩) ?_ ?_
        · rintro i acc H5 hi ea5 ⟨k5, rfl⟩
          walk_at "u"
          refine ⟨rfl, ?_⟩
          walk_at "u"
          refine s_sls (zle (by omega)) ?_
          rw [S_pre cs (by omega)]
          refine PvD.add ea5 (by simp; omega) fun H6 e6 k6 => ⟨by walk_at "k", ?_⟩
          rw [range_snoc]
        · rintro acc H5 ea5 ⟨k5, rfl⟩
          walk_at "u"
          refine kf (F := F) (by walk_at "f") ea5 (fun k hk => ?_) (fun j k hj hk e => ?_) (Box.more (n := n + 2 + 6) (by walk_at "g") (by omega)) (by walk_at "k")
          · refine ⟨?_, ?_, fun c hc => hcs c (List.mem_of_mem_take hc)⟩
            · show 1 ≤ (cs.take _).length; rw [List.length_take]; omega
            · show (cs.take _).length ≤ 6; rw [List.length_take]; omega
          · have := congrArg List.length e
            simp only [F, List.length_take, hl6] at this
            omega
      | false =>
        walk_at "u"
        walk_at "tk"
        intro at' H5 a0 a1 B5 k5
        walk_at "u"
        refine s_rng (by omega) (by omega) ?_
        intro L hL
        let F : Nat → List Nat := fun k => cs.take at'.toNat ++ [letL.getD ((first + 7 * (0 + (k : Int))) % 26).toNat 0] ++ (cs.drop at'.toNat).take ((at' + (first + (0 + (k : Int))) % (6 - at')).toNat - at'.toNat)
        refine lc_R hL (fun i acc H' => Kp [L] H5 H' ∧ acc = (List.range i).map fun k => V.str (S (F k))) (fun H6 e6 k6 => ⟨by walk_at "k", rfl⟩) ?_ ?_
        · rintro i acc H6 hi ea6 ⟨k6, rfl⟩
          walk_at "u"
          refine ⟨rfl, ?_⟩
          walk_at "u"
          refine s_sls (zle (by omega)) ?_
          rw [S_pre cs a0]
          walk_at "u"
          have j0 : 0 ≤ (first + 7 * (0 + (i : Int))) % 26 := Int.emod_nonneg _ (by decide)
          have j1 : (first + 7 * (0 + (i : Int))) % 26 < 26 := Int.emod_lt_of_pos _ (by decide)
          obtain ⟨c, hc, ec, hc2⟩ := let_at j0 j1
          refine s_ixs (by decide +kernel) hc2 ?_
          have eS : (⟨#[c]⟩ : Str) = S [c] := rfl
          rw [eS]
          refine s_adds (zle (by rw [S_len, S_len]; simp; omega)) ?_
          rw [S_app]
          walk_at "u"
          have m0 : 0 ≤ (first + (0 + (i : Int))) % (6 - at') := Int.emod_nonneg _ (by omega)
          have m1 : (first + (0 + (i : Int))) % (6 - at') < 6 - at' := Int.emod_lt_of_pos _ (by omega)
          refine s_sls (zle (by omega)) ?_
          rw [S_mid cs a0 (by omega)]
          refine s_adds (zle (by rw [S_len, S_len]; simp; omega)) ?_
          rw [S_app]
          refine PvD.add ea6 (by simp; omega) fun H7 e7 k7 => ⟨by walk_at "k", ?_⟩
          rw [range_snoc]
          congr 1
          show [V.str (S _)] = [V.str (S (F i))]
          simp only [F, List.getD_eq_getElem?_getD, ec, Option.getD_some]
        · rintro acc H6 ea6 ⟨k6, rfl⟩
          walk_at "u"
          have gl : ∀ k : Nat, ∃ c, c ∈ letL ∧ letL[((first + 7 * (0 + (k : Int))) % 26).toNat]? = some c := fun k => by
            obtain ⟨c, hc, ec, _⟩ := let_at (i := (first + 7 * (0 + (k : Int))) % 26) (Int.emod_nonneg _ (by decide)) (Int.emod_lt_of_pos _ (by decide))
            exact ⟨c, hc, ec⟩
          refine kf (F := F) (by walk_at "f") ea6 (fun k hk => ?_) (fun j k hj hk e => ?_) (Box.more (n := n + 2 + 6 + 1) (by walk_at "g") (by omega)) (by walk_at "k")
          · obtain ⟨c, hc, ec⟩ := gl k
            have m0 : 0 ≤ (first + (0 + (k : Int))) % (6 - at') := Int.emod_nonneg _ (by omega)
            have m1 : (first + (0 + (k : Int))) % (6 - at') < 6 - at' := Int.emod_lt_of_pos _ (by omega)
            refine ⟨by simp [F]; omega, ?_, ?_⟩
            · simp only [F, List.length_append, List.length_take, List.length_drop, List.length_cons, List.length_nil, hl6]
              omega
            · intro x hx
              simp only [F, List.mem_append, List.mem_singleton, List.getD_eq_getElem?_getD, ec, Option.getD_some] at hx
              rcases hx with (hx | rfl) | hx
              · exact hcs x (List.mem_of_mem_take hx)
              · exact hc
              · exact hcs x (List.mem_of_mem_drop (List.mem_of_mem_take hx))
          · obtain ⟨c, hc, ec⟩ := gl j
            obtain ⟨c', hc', ec'⟩ := gl k
            have hF : ∀ (k : Nat) (c : Nat), letL[((first + 7 * (0 + (k : Int))) % 26).toNat]? = some c → (F k)[at'.toNat]? = some c := fun k c ec => by
              simp only [F, List.append_assoc]
              rw [List.getElem?_append_right (by rw [List.length_take]; omega), List.length_take, hl6, show at'.toNat - min at'.toNat 6 = 0 by omega]
              simp only [List.getD_eq_getElem?_getD, ec, Option.getD_some]
              rfl
            have := hF j c ec
            rw [e, hF k c' ec'] at this
            cases this
            have hj := (List.getElem?_eq_some_iff.mp ec).1
            have := (List.getElem?_inj hj let_nd).mp (ec.trans ec'.symm)
            omega
theorem NmsOk.cut {zs : List Str} (h : NmsOk zs) (n : Nat) : NmsOk (zs.take n) := ⟨h.nd.sublist (List.take_sublist _ _), fun z hz => h.ok z (List.mem_of_mem_take hz)⟩
theorem cut_last (xs : List V) (n : Nat) (h : xs.length = n + 1) : cutV xs none (some (-1)) = xs.take n := by
  unfold cutV
  rw [h, HT.sIx_none, List.drop_zero]
  simp only [HT.sIx]
  rw [if_pos (by decide)]
  congr 1
  omega
theorem low_app (lo : Lo) (q : Int × Int × Int) {low high : Int} (h : GoodL low high lo) (h1 : lowAt low lo lo.length ≤ q.1) (h2 : q.1 + 2 ≤ q.2.1) (h3 : q.2.1 ≤ high) (h4 : q.2.2 = 0 ∨ q.2.2 = 1) : GoodL low high (lo ++ [q]) := by
  induction lo generalizing low with
  | nil => exact ⟨h1, h2, h3, h4, trivial⟩
  | cons p r ih =>
    refine ⟨h.1, h.2.1, h.2.2.1, h.2.2.2.1, ih h.2.2.2.2 ?_⟩
    cases r with
    | nil => simpa [lowAt] using h1
    | cons p' r =>
      simp only [List.length_cons, lowAt, List.getElem?_cons_succ] at h1 ⊢
      have hi : r.length < (p' :: r).length := by simp
      rw [List.getElem?_eq_getElem hi] at h1 ⊢
      exact h1
theorem lowAt_app (lo : Lo) (q : Int × Int × Int) (low : Int) : lowAt low (lo ++ [q]) (lo ++ [q]).length = q.2.1 := by
  simp [lowAt]
def sp_law_world : Sp := sp1 fun x H Q _ => ∃ (p : Addr) (n : Nat), x = .ref p ∧ Box H p n ∧ n ≤ 800000 ∧
  ∀ (t a1 a2 a3 : Addr) (w : Wo) (vp vs vl : List V) (z : Str) (H' : Hp), H t = none → H' t = some (.lst [.ref a1, .ref a2, .ref a3, .str z]) → H a1 = none → H' a1 = some (.lst vp) → H a2 = none → H' a2 = some (.lst vs) → H a3 = none → H' a3 = some (.lst vl) →
    a1 ≠ a2 → a1 ≠ a3 → a2 ≠ a3 → t ≠ a1 → t ≠ a2 → t ≠ a3 →
    Rw H' vp (rP w.pl) → Rw H' vs (rP w.st) → Rw H' vl (rL w.lo) → GoodW w → isName (.str z) = true → SS z 20 → z ∉ nms w → Box H' p (n + 60) → Kp [p] H H' → Q (.ref t) H'
set_option maxHeartbeats 16000000 in
theorem ok_law_world (T : Tx K mg) : FnOk P w K mg base (L2.CX P w) 3 T.a_law_world T.d_law_world ["_law_box_here"] (sp_law_world) := by
  have G_law_names := ok_law_names (P := P) (w := w) (base := base) T
  have G_law_take := ok_law_take (P := P) (w := w) (base := base) T
  refine T.F_law_world.okX sc_law_world (fun vs H Q E h => ?_) (fun cd A o s H vs Q E hr h => ?_)
  · obtain ⟨v0, rfl, h⟩ := h; rfl
  obtain ⟨v0, rfl, h⟩ := h
  obtain ⟨p, n, rfl, hB, hn, k⟩ := h
  refine ⟨_, (pss_cons (ps_set (i := 1) sc_law_world.nd rfl (Or.inl rfl) (pe_op (o_add (K := K) rfl) pe_int (pe_co G_law_take (hr.mono (by decide)) rfl T.m_law_take T.F_law_take.kp T.B_law_take (takes_of (E := E) rfl rfl rfl rfl) (pa_cons (pv 0) (pa_cons pe_int pa_nil)))))
    (pss_cons (ps_set (i := 2) sc_law_world.nd rfl (Or.inl rfl) (pe_co G_law_names (hr.mono (by decide)) rfl T.m_law_names T.F_law_names.kp T.B_law_names (takes_of (E := E) rfl rfl rfl rfl) (pa_cons (pv 0) (pa_cons (pe_op (o_add (K := K) rfl) (pv 1) pe_int) pa_nil))))
    (pss_cons (ps_setLc (i := 3) (own := [("_law_name", 10)]) rfl sc_law_world.nd rfl rfl (sw_true rfl rfl rfl (by decide +kernel)) (pi_lst (K := K) rfl (pe_slice (sl_u (K := K) rfl) (pv 2) po_none (po_some (pe_un un_neg pe_int)))) (blkOk_by (own := [("_law_name", 10)]) (N := N_law_world) (sc := defScope s_law_world) (by decide +kernel)) (fun _ _ _ _ _ => (pg_name (i := 10) sc_law_world.nd rfl (Or.inl rfl))) (fun _ _ _ _ _ => pts_nil) (fun _ _ _ _ _ => (pe_tup (pa_cons (pv 10) (pa_cons (pe_op (o_add (K := K) rfl) pe_int (pe_co G_law_take (hr.mono (by decide)) rfl T.m_law_take T.F_law_take.kp T.B_law_take takes0 (pa_cons (pv 0) (pa_cons pe_int pa_nil)))) pa_nil)))))
    (pss_cons (ps_setLc (i := 4) (own := [("_law_k", 11)]) rfl sc_law_world.nd rfl rfl (sw_true rfl rfl rfl (by decide +kernel)) (pi_range1 rfl T.z_range (pa_cons (pe_op o_sub (pv 1) pe_int) pa_nil)) (blkOk_by (own := [("_law_k", 11)]) (N := N_law_world) (sc := defScope s_law_world) (by decide +kernel)) (fun _ _ _ _ _ => (pg_name (i := 11) sc_law_world.nd rfl (Or.inl rfl))) (fun _ _ _ _ _ => pts_nil) (fun _ _ _ _ _ => (pe_tup (pa_cons (pe_ix (ix_u (K := K) rfl) (pe_lst (pa_cons pe_str (pa_cons pe_str pa_nil))) (pe_co G_law_take (hr.mono (by decide)) rfl T.m_law_take T.F_law_take.kp T.B_law_take takes0 (pa_cons (pv 0) (pa_cons pe_int pa_nil))) (fun _ _ => rfl)) (pa_cons (pe_co G_law_take (hr.mono (by decide)) rfl T.m_law_take T.F_law_take.kp T.B_law_take takes0 (pa_cons (pv 0) (pa_cons pe_int pa_nil))) pa_nil)))))
    (pss_cons (ps_set (i := 5) sc_law_world.nd rfl (Or.inl rfl) (pe_lst pa_nil))
    (pss_cons (ps_set (i := 6) sc_law_world.nd rfl (Or.inl rfl) pe_int)
    (pss_cons (ps_for PassesOwn.leaving rfl (pi_range1 rfl T.z_range (pa_cons (pe_co G_law_take (hr.mono (by decide)) rfl T.m_law_take T.F_law_take.kp T.B_law_take (takes_of (E := E) rfl rfl rfl rfl) (pa_cons (pv 0) (pa_cons pe_int pa_nil))) pa_nil)) (pg_name (i := 7) sc_law_world.nd rfl (Or.inl rfl))
    (pss_one (ps_if (pt_cmpR o_lt (pe_op (o_add (K := K) rfl) (pv 6) pe_int) (pv 1) (nomark _))
    (pss_cons (ps_set (i := 8) sc_law_world.nd rfl (Or.inl rfl) (pe_op (o_add (K := K) rfl) (pv 6) (pe_co G_law_take (hr.mono (by decide)) rfl T.m_law_take T.F_law_take.kp T.B_law_take (takes_of (E := E) rfl rfl rfl rfl) (pa_cons (pv 0) (pa_cons (pe_op o_sub (pe_op o_sub (pv 1) pe_int) (pv 6)) pa_nil)))))
    (pss_cons (ps_set (i := 9) sc_law_world.nd rfl (Or.inl rfl) (pe_op (o_add (K := K) rfl) (pe_op (o_add (K := K) rfl) (pv 8) pe_int) (pe_co G_law_take (hr.mono (by decide)) rfl T.m_law_take T.F_law_take.kp T.B_law_take (takes_of (E := E) rfl rfl rfl rfl) (pa_cons (pv 0) (pa_cons (pe_op o_sub (pe_op o_sub (pv 1) pe_int) (pv 8)) pa_nil)))))
    (pss_cons (ps_expr (pe_bm PySem.F.plainAttrs_list PySem.F.slot_list_append PySem.F.type_list_append mt_append (pv 5) (pa_cons (pe_tup (pa_cons (pv 8) (pa_cons (pv 9) (pa_cons (pe_co G_law_take (hr.mono (by decide)) rfl T.m_law_take T.F_law_take.kp T.B_law_take (takes_of (E := E) rfl rfl rfl rfl) (pa_cons (pv 0) (pa_cons pe_int pa_nil))) pa_nil)))) pa_nil)))
    (pss_one (ps_set (i := 6) sc_law_world.nd rfl (Or.inl rfl) (pv 9))))))
    pss_nil)))
    (pss_one (ps_ret (pe_lst (pa_cons (pv 3) (pa_cons (pv 4) (pa_cons (pv 5) (pa_cons (pe_ix (ix_u (K := K) rfl) (pv 2) (pe_un un_neg pe_int) (fun _ _ => rfl)) pa_nil)))))))))))))), ?_⟩
  rw [st_law_world]
  walk_at "u"
  walk_at "tk"
  intro m' H1 m0 m1 B1 k1
  obtain ⟨m, rfl⟩ := Int.eq_ofNat_of_zero_le m0
  walk_at "u"
  refine ⟨_, _, rfl, p, n + 1, m + 3, rfl, congrArg V.int (by omega), by omega, by omega, B1, by omega, fun l0 zs H2 f2 e2 hz ok2 B2 k2 => ?_⟩
  walk_at "u"
  refine s_sll (SqL.of e2) fun l3 H3 f3 e3 k3 => ?_
  rw [cut_last (zs.map V.str) (m + 2) (by simpa using hz), ← List.map_take] at e3
  have okc := ok2.cut (m + 2)
  have lz : (zs.take (m + 2)).length = m + 2 := by rw [List.length_take]; omega
  walk_at "u"
  refine s_ilst (SqL.of e3) ?_
  intro D hD
  refine lc_L e3 hD (fun i acc H' => Kp [p, D] H3 H' ∧ Box H' p (n + 1 + 10 + i) ∧ ∃ pl : Pl, Rw H' acc (rP pl) ∧ pl.map (·.1) = (zs.take (m + 2)).take i ∧ ∀ q ∈ pl, 1 ≤ q.2 ∧ q.2 ≤ 3) (fun H4 e4 k4 => ⟨by walk_at "k", by walk_at "g", [], .nil, rfl, by simp⟩) (fun i acc H' q o e => q.1.get e (by walk_at "n")) ?_ ?_
  · rintro i x acc H4 ex ea ⟨k4, B4, pl, R4, em, hr4⟩
    rw [List.getElem?_map] at ex
    obtain ⟨z, ez, rfl⟩ := Option.map_eq_some_iff.mp ex
    have hi := (List.getElem?_eq_some_iff.mp ez).1
    have la : acc.length = i := by
      have h1 := R4.len
      have h2 := congrArg List.length em
      rw [rP, List.length_map] at h1
      rw [List.length_map, List.length_take] at h2
      omega
    walk_at "u"
    refine ⟨rfl, ?_⟩
    walk_at "u"
    walk_at "tk"
    intro d5 H5 d50 d51 B5 k5
    walk_at "u"
    walk_at "na"
    intro t6 H6 f6 e6 k6
    refine PvD.add (acc := acc) (by walk_at "g") (by omega) fun H7 e7 k7 => ⟨by walk_at "k", by walk_at "g", pl ++ [(z, 1 + d5)], ?_, ?_, ?_⟩
    · have : rP (pl ++ [(z, 1 + d5)]) = rP pl ++ [[V.str z, V.int (1 + d5)]] := by simp [rP]
      rw [this]
      exact (((R4.kp k5).kp k6).kp k7).app (Rw.one (by walk_at "gt"))
    · rw [List.map_append, em, take_one ez]
      rfl
    · intro q hq
      rcases List.mem_append.mp hq with hq | hq
      · exact hr4 q hq
      · rw [List.mem_singleton.mp hq]; simp only []; omega
  rintro vp H4 e4 ⟨k4, B4, pl, R4, em, hr4⟩
  rw [List.length_map, lz] at B4 em
  rw [List.take_of_length_le (by omega)] at em
  have lpl : pl.length = m + 2 := by rw [← lz, ← em, List.length_map]
  have gP : GoodP pl := ⟨by omega, by omega, fun q hq => okc.ok q.1 (em ▸ List.mem_map.mpr ⟨q, hq, rfl⟩), by rw [em]; exact okc.nd, hr4⟩
  have g0 : H4 l0 = some (.lst (zs.map V.str)) := by walk_at "g"
  have nDp : D ≠ p := by walk_at "ne"
  have nl0 : l0 ≠ p := by walk_at "ne"
  have nlD : l0 ≠ D := by walk_at "ne"
  have fD : Fz H D := ⟨by walk_at "f"⟩
  have kz4 : Kz [p] H H4 := ⟨by walk_at "k"⟩
  have hp0 : Th H p 0 := hB.th
  clear k4 e3 k3 f3 B2 k2 B1 k1 f2 e2 hB hD
  obtain ⟨k4⟩ := kz4
  walk_at "u"
  refine s_rng (by omega) (by omega) ?_
  rw [show (2 + (m : Int) - 1).toNat = m + 1 by omega]
  intro D5 hD5
  refine lc_R hD5 (fun i acc H' => Kp [p, D5] H4 H' ∧ Box H' p (n + 1 + 10 + (m + 2) + 2 * i) ∧ ∃ st : Pl, Rw H' acc (rP st) ∧ st.length = i ∧ ∀ q ∈ st, (q.1 = "staff" ∨ q.1 = "ticket") ∧ (q.2 = 0 ∨ q.2 = 1)) (fun H5 e5 k5 => ⟨by walk_at "k", by walk_at "g", [], .nil, rfl, by simp⟩) ?_ ?_
  · rintro i acc H5 hi ea ⟨k5, B5, st, R5, ls, hs5⟩
    have la : acc.length = i := by rw [R5.len, rP, List.length_map]; exact ls
    walk_at "u"
    refine ⟨rfl, ?_⟩
    walk_at "u"
    walk_at "na"
    intro l6 H6 f6 e6 k6
    walk_at "u"
    walk_at "tk"
    intro d7 H7 d70 d71 B7 k7
    obtain ⟨v, hv, ev⟩ := ix_mem (xs := [V.str "staff", V.str "ticket"]) d70 (by simpa using d71)
    obtain ⟨z, rfl, hz7⟩ : ∃ z : Str, v = .str z ∧ (z = "staff" ∨ z = "ticket") := by
      simp only [List.mem_cons, List.mem_nil_iff, or_false] at hv
      rcases hv with rfl | rfl
      · exact ⟨_, rfl, Or.inl rfl⟩
      · exact ⟨_, rfl, Or.inr rfl⟩
    refine s_ixl (by walk_at "g") ev ?_
    walk_at "u"
    walk_at "tk"
    intro d8 H8 d80 d81 B8 k8
    walk_at "u"
    walk_at "na"
    intro t9 H9 f9 e9 k9
    refine PvD.add (acc := acc) (by walk_at "g") (by omega) fun H10 e10 k10 => ⟨by walk_at "k", Box.more (n := n + 1 + 10 + (m + 2) + 2 * i + 1 + 1) (by walk_at "g") (by omega), st ++ [(z, d8)], ?_, by simp [ls], ?_⟩
    · have : rP (st ++ [(z, d8)]) = rP st ++ [[V.str z, V.int d8]] := by simp [rP]
      rw [this]
      exact (((((R5.kp k6).kp k7).kp k8).kp k9).kp k10).app (Rw.one (by walk_at "gt"))
    · intro q hq
      rcases List.mem_append.mp hq with hq | hq
      · exact hs5 q hq
      · rw [List.mem_singleton.mp hq]; exact ⟨hz7, by simp only []; omega⟩
  rintro vs H5 e5 ⟨k5, B5, st, R5, ls, hs5⟩
  have gS : GoodS st (pl.length - 1) := ⟨by omega, hs5⟩
  have n5p : D5 ≠ p := by walk_at "ne"
  have n5D : D5 ≠ D := by walk_at "ne"
  have n5l : D5 ≠ l0 := by walk_at "ne"
  have g0 : H5 l0 = some (.lst (zs.map V.str)) := by walk_at "g"
  have gD : H5 D = some (.lst vp) := by walk_at "g"
  have f5 : Fz H D5 := ⟨by walk_at "f"⟩
  have kz5 : Kz [p] H H5 := ⟨by walk_at "k"⟩
  have R4' := R4.kp k5
  clear k5 k4 e4 B4 R4 hD5
  obtain ⟨k5⟩ := kz5
  walk_at "u"
  walk_at "na"
  intro D6 H6 f6 e6 k6
  walk_at "u"
  walk_at "tk"
  intro d7 H7 d70 d71 B7 k7
  walk_at "u"
  refine s_rng (by omega) (by omega) ?_
  have e7 : H7 D6 = some (.lst []) := by walk_at "g"
  have n6 : D6 ≠ p ∧ D6 ≠ D ∧ D6 ≠ D5 ∧ D6 ≠ l0 := ⟨by walk_at "ne", by walk_at "ne", by walk_at "ne", by walk_at "ne"⟩
  have g0 : H7 l0 = some (.lst (zs.map V.str)) := by walk_at "g"
  have gD : H7 D = some (.lst vp) := by walk_at "g"
  have gE : H7 D5 = some (.lst vs) := by walk_at "g"
  have fD6 : Fz H D6 := ⟨by walk_at "f"⟩
  have kz7 : Kz [p] H H7 := ⟨by walk_at "k"⟩
  have R4'' := (R4'.kp k6).kp k7
  have R5'' := (R5.kp k6).kp k7
  obtain ⟨n61, n62, n63, n64⟩ := n6
  clear k7 k6 f6 e6 k5 B5 R4' R5
  obtain ⟨k7⟩ := kz7
  refine for_R (fun i σ H' => Kp [p, D6] H7 H' ∧ Box H' p (n + 1 + 10 + (m + 2) + 2 * (m + 1) + 1 + 3 * i) ∧ ∃ (vl : List V) (lo : Lo), H' D6 = some (.lst vl) ∧ Rw H' vl (rL lo) ∧ GoodL 0 ((m : Int) + 1) lo ∧ lo.length ≤ i ∧ 0 ≤ lowAt 0 lo lo.length ∧
    ∃ u7 u8 u9 u10 u11, σ = [some (.ref p), some (.int (2 + (m : Int))), some (.ref l0), some (.ref D), some (.ref D5), some (.ref D6), some (.int (lowAt 0 lo lo.length)), u7, u8, u9, u10, u11]) ⟨Kp.refl, B7, [], [], e7, .nil, trivial, by simp, by simp [lowAt], _, _, _, _, _, rfl⟩ ?_ ?_
  · rintro i σ H8 hi ⟨k8, B8, vl, lo, e8, R8, gl8, ll8, l08, u7, u8, u9, u10, u11, rfl⟩
    walk_at "u"
    refine s_ite (fun h => ?_) (fun h => ?_)
    · walk_at "u"
      walk_at "tk"
      intro d9 H9 d90 d91 B9 k9
      walk_at "u"
      walk_at "tk"
      intro d10 H10 d100 d101 B10 k10
      walk_at "u"
      walk_at "tk"
      intro d11 H11 d110 d111 B11 k11
      walk_at "u"
      walk_at "na"
      intro t12 H12 f12 e12 k12
      walk_at "u"
      have lv : vl.length = lo.length := by rw [R8.len]; simp [rL]
      refine s_app (xs := vl) (by walk_at "g") (zlt (by omega)) fun H13 e13 k13 => ?_
      walk_at "u"
      have hlo := lowAt_app lo (lowAt 0 lo lo.length + d9, lowAt 0 lo lo.length + d9 + 2 + d10, d11) 0
      refine ⟨by walk_at "k", Box.more (n := n + 1 + 10 + (m + 2) + 2 * (m + 1) + 1 + 3 * i + 1 + 1 + 1) (by walk_at "g") (by omega), _, lo ++ [(lowAt 0 lo lo.length + d9, lowAt 0 lo lo.length + d9 + 2 + d10, d11)], e13, ?_, low_app _ _ gl8 (by simp only []; omega) (by simp only []; omega) (by simp only []; omega) (by simp only []; omega), by simp; omega, by rw [hlo]; simp only []; omega, _, _, _, _, _, by first | (rw [hlo]; done) | (rw [hlo]; rfl)⟩
      have : rL (lo ++ [(lowAt 0 lo lo.length + d9, lowAt 0 lo lo.length + d9 + 2 + d10, d11)]) = rL lo ++ [[V.int (lowAt 0 lo lo.length + d9), V.int (lowAt 0 lo lo.length + d9 + 2 + d10), V.int d11]] := by simp [rL]
      rw [this]
      exact (((((R8.kp k9).kp k10).kp k11).kp k12).kp k13).app (Rw.one (by walk_at "gt"))
    · walk_at "u"
      exact ⟨k8, B8.more (by omega), vl, lo, e8, R8, gl8, by omega, l08, _, _, _, _, _, rfl⟩
  · rintro σ H8 ⟨k8, B8, vl, lo, e8, R8, gl8, ll8, l08, u7, u8, u9, u10, u11, rfl⟩
    walk_at "u"
    have hlast : atI (zs.map V.str) (-1) = some (V.str (zs.getD (m + 2) "")) := by
      unfold atI ixN
      rw [List.length_map, hz, if_neg (by decide), if_pos (by omega)]
      show (zs.map V.str)[((-1 : Int) + ((m + 3 : Nat) : Int)).toNat]? = _
      rw [show ((-1 : Int) + ((m + 3 : Nat) : Int)).toNat = m + 2 by omega, List.getElem?_map, List.getD_eq_getElem?_getD, List.getElem?_eq_getElem (show m + 2 < zs.length by omega)]
      rfl
    refine s_ixl (by walk_at "g") hlast ?_
    walk_at "u"
    walk_at "na"
    intro t9 H9 f9 e9 k9
    walk_at "u"
    have hm : zs.getD (m + 2) "" ∈ zs := by
      rw [List.getD_eq_getElem?_getD, List.getElem?_eq_getElem (show m + 2 < zs.length by omega)]
      exact List.getElem_mem _
    obtain ⟨z1, z2⟩ := ok2.ok _ hm
    have k09 : Kz [p] H H9 := ⟨by walk_at "k"⟩
    refine k t9 D D5 D6 ⟨pl, st, lo⟩ vp vs vl _ H9 (by walk_at "f") e9 fD.f (by walk_at "g") f5.f (by walk_at "g") fD6.f (by walk_at "g") n5D.symm n62.symm n63.symm (by walk_at "ne") (by walk_at "ne") (by walk_at "ne")
      ((R4''.kp k8).kp k9) ((R5''.kp k8).kp k9) (R8.kp k9) ⟨gP, gS, by rw [lpl, show (((m + 2 : Nat) : Int) - 1) = (m : Int) + 1 by omega]; exact gl8, (show lo.length ≤ 2 by omega)⟩ z1 z2 ?_ (Box.more (n := n + 1 + 10 + (m + 2) + 2 * (m + 1) + 1 + 3 * d7.toNat) (by walk_at "g") (by omega)) k09.k
    unfold nms
    rw [em]
    intro hin
    have nd := ok2.nd
    rw [← List.take_append_drop (m + 2) zs, List.nodup_append] at nd
    refine nd.2.2 _ hin _ ?_ rfl
    rw [List.getD_eq_getElem?_getD, List.getElem?_eq_getElem (show m + 2 < zs.length by omega)]
    exact List.mem_iff_getElem.mpr ⟨0, by rw [List.length_drop]; omega, by simp⟩

/-- a world, as the law holds it -/
structure Wd (H : Hp) (t : Addr) (w : Wo) : Prop where
  ex : ∃ (a1 a2 a3 : Addr) (vp vs vl : List V) (z : Str), H t = some (.lst [.ref a1, .ref a2, .ref a3, .str z]) ∧ H a1 = some (.lst vp) ∧ H a2 = some (.lst vs) ∧ H a3 = some (.lst vl) ∧ Rw H vp (rP w.pl) ∧ Rw H vs (rP w.st) ∧ Rw H vl (rL w.lo)
theorem Wd.kp {H H2 : Hp} {t : Addr} {w : Wo} (h : Wd H t w) (k : Kp [] H H2) : Wd H2 t w := by
  obtain ⟨a1, a2, a3, vp, vs, vl, z, e0, e1, e2, e3, r1, r2, r3⟩ := h.ex
  exact ⟨a1, a2, a3, vp, vs, vl, z, k.get0 e0, k.get0 e1, k.get0 e2, k.get0 e3, r1.kp k, r2.kp k, r3.kp k⟩
def nv : Option Nat → PyData | some j => .int j | none => .none
theorem optV_sh {H : Hp} {o : Option Nat} (h : ∀ j, o = some j → j ≤ 1000) : Sh K H (optV o) (nv o) := by
  cases o with
  | none => exact ⟨.non, by simp [nv, good], by simp [nv, PyData.depth], by simp [nv, sz]⟩
  | some j =>
    have := h j rfl
    exact ⟨.int _, Nat.lt_of_le_of_lt (show ((j : Nat) : Int).natAbs ≤ 1000 by omega) (by decide +kernel), by simp [nv, PyData.depth], by simp [nv, sz]⟩

theorem nm_ix {w : Wo} {i : Nat} {n : Int} (h : i < w.pl.length) (e : n = (i : Int)) : atI ((nms w).map V.str) n = some (.str (nmA w i)) := by
  subst e
  refine at_nat ?_
  unfold nmA
  rw [List.getElem?_map, List.getD_eq_getElem?_getD, List.getElem?_eq_getElem (show i < (nms w).length by simpa [nms] using h)]
  rfl
theorem nmA_ss {w : Wo} (h : GoodW w) {i : Nat} (hi : i < w.pl.length) : SS (nmA w i) 20 := by
  obtain ⟨q, e, n⟩ := nmA_at hi
  rw [← n]
  exact (h.p.nm q (List.mem_of_getElem? e)).2
theorem sh_ss {H : Hp} {t : Addr} {a b : Str} (e : H t = some (.tup [.str a, .str b])) (ha : SS a 20) (hb : SS b 20) : Sh K H (.ref t) (.tuple [.str a, .str b]) := by
  have := ha.len
  have := hb.len
  refine ⟨.tup (SqT.of e) (.cons (.str _) (.cons (.str _) .nil)), ?_, by simp [PyData.depth, PyData.depthAll], by simp [sz, szA]; omega⟩
  simp only [good, goodA, and_true]
  exact ⟨fun c hc => Nat.lt_trans (ha.ok c hc) (by decide), fun c hc => Nat.lt_trans (hb.ok c hc) (by decide)⟩
theorem int_sh {H : Hp} {i : Int} (h0 : 0 ≤ i) (h1 : i ≤ 1000000) : Sh K H (.int i) (.int i) :=
  ⟨.int i, Nat.lt_of_le_of_lt (show i.natAbs ≤ 1000000 by omega) (by decide +kernel), by simp [PyData.depth], by simp [sz]⟩
theorem rng_eq {a b : Int} {n : Nat} (h0 : 0 ≤ a) (h1 : a ≤ b) (h2 : b ≤ n) : ((List.range n).filter fun (k : Nat) => decide (a ≤ (k : Int)) && decide ((k : Int) < b)).map (fun k => V.int (k : Nat)) = rngV a (b - a).toNat := by
  obtain ⟨x, rfl⟩ := Int.eq_ofNat_of_zero_le h0
  obtain ⟨y, rfl⟩ := Int.eq_ofNat_of_zero_le (show 0 ≤ b by omega)
  have e : ((List.range n).filter fun (k : Nat) => decide ((x : Int) ≤ (k : Int)) && decide ((k : Int) < (y : Int))) = (List.range (y - x)).map (x + ·) := by
    apply List.Perm.eq_of_pairwise (le := (· ≤ ·))
    · intro a b _ _ h3 h4; omega
    · exact (List.pairwise_lt_range.sublist List.filter_sublist).imp fun h => Nat.le_of_lt h
    · rw [List.pairwise_map]
      exact List.pairwise_lt_range.imp fun h => by omega
    · refine (List.perm_ext_iff_of_nodup (List.nodup_range.sublist List.filter_sublist) ?_).mpr fun k => ?_
      · rw [List.nodup_iff_pairwise_ne, List.pairwise_map]
        exact List.pairwise_lt_range.imp fun h => by omega
      · simp only [List.mem_filter, List.mem_range, Bool.and_eq_true, decide_eq_true_eq, List.mem_map]
        constructor
        · rintro ⟨h3, h4, h5⟩
          exact ⟨k - x, by omega, by omega⟩
        · rintro ⟨m, h3, rfl⟩
          omega
  rw [e, List.map_map, rngV, show ((y : Int) - (x : Int)).toNat = y - x by omega]
  apply List.map_congr_left
  intro k _
  simp
theorem rng_dn {H : Hp} (i : Int) : ∀ n : Nat, ∀ m : Nat, DnA K H ((List.range' m n).map fun k => V.int (i + (k : Nat))) ((List.range' m n).map fun k => PyData.int (i + (k : Nat)))
  | 0, _ => .nil
  | n + 1, m => .cons (.int _) (rng_dn i n (m + 1))
theorem ints_good : ∀ {ns : List Int}, (∀ n ∈ ns, 0 ≤ n ∧ n ≤ 1000) → goodA (ns.map PyData.int) ∧ PyData.depthAll (ns.map PyData.int) ≤ 1 ∧ szA (ns.map PyData.int) ≤ 104 * ns.length
  | [], _ => ⟨trivial, by simp [PyData.depthAll], by simp [szA]⟩
  | n :: ns, h => by
    have h0 := h n (by simp)
    obtain ⟨a1, a2, a3⟩ := ints_good (ns := ns) fun x hx => h x (by simp [hx])
    exact ⟨⟨Nat.lt_of_le_of_lt (show n.natAbs ≤ 1000 by omega) (by decide +kernel), a1⟩, by simp only [List.map_cons, PyData.depthAll, PyData.depth]; omega, by simp only [List.map_cons, szA, sz, List.length_cons]; omega⟩
theorem ints_dn {H : Hp} : ∀ ns : List Int, DnA K H (ns.map V.int) (ns.map PyData.int)
  | [] => .nil
  | n :: ns => .cons (.int n) (ints_dn ns)
theorem rng_sh {H : Hp} {l : Addr} {i : Int} {n : Nat} (e : H l = some (.lst (rngV i n))) (h0 : 0 ≤ i) (h1 : i + n ≤ 1000) : Sh K H (.ref l) (.list (((List.range n).map fun k => i + ((k : Nat) : Int)).map PyData.int)) := by
  obtain ⟨a1, a2, a3⟩ := ints_good (ns := (List.range n).map fun k => i + ((k : Nat) : Int)) fun x hx => by
    obtain ⟨k, hk, rfl⟩ := List.mem_map.mp hx
    have := List.mem_range.mp hk
    omega
  have ev : rngV i n = ((List.range n).map fun k => i + ((k : Nat) : Int)).map V.int := by rw [List.map_map]; rfl
  rw [ev] at e
  rw [List.length_map, List.length_range] at a3
  exact ⟨.lst (Or.inl e) (ints_dn _), a1, by simp only [PyData.depth]; omega, by simp only [sz]; omega⟩
def dP (q : Str × Int) : PyData := .tuple [.str q.1, .int q.2]
def dL (q : Int × Int × Int) : PyData := .tuple [.int q.1, .int q.2.1, .int q.2.2]
theorem rP_dn {H : Hp} : ∀ {pl : Pl} {vs : List V}, Rw H vs (rP pl) → DnA K H vs (pl.map dP)
  | [], _, .nil => .nil
  | q :: pl, _, .cons e r => .cons (.tup (SqT.of e) (.cons (.str _) (.cons (.int _) .nil))) (rP_dn r)
theorem rL_dn {H : Hp} : ∀ {lo : Lo} {vs : List V}, Rw H vs (rL lo) → DnA K H vs (lo.map dL)
  | [], _, .nil => .nil
  | q :: lo, _, .cons e r => .cons (.tup (SqT.of e) (.cons (.int _) (.cons (.int _) (.cons (.int _) .nil)))) (rL_dn r)
theorem dP_ok : ∀ {pl : Pl}, (∀ q ∈ pl, SS q.1 20 ∧ 0 ≤ q.2 ∧ q.2 ≤ 1000) → goodA (pl.map dP) ∧ PyData.depthAll (pl.map dP) ≤ 2 ∧ szA (pl.map dP) ≤ 1000 * pl.length
  | [], _ => ⟨trivial, by simp [PyData.depthAll], by simp [szA]⟩
  | q :: pl, h => by
    obtain ⟨h1, h2, h3⟩ := h q (by simp)
    have := h1.len
    obtain ⟨a1, a2, a3⟩ := dP_ok (pl := pl) fun x hx => h x (by simp [hx])
    refine ⟨⟨⟨fun c hc => Nat.lt_trans (h1.ok c hc) (by decide), Nat.lt_of_le_of_lt (show q.2.natAbs ≤ 1000 by omega) (by decide +kernel), trivial⟩, a1⟩, ?_, ?_⟩
    · simp only [List.map_cons, dP, PyData.depthAll, PyData.depth]; omega
    · simp only [List.map_cons, dP, szA, sz, List.length_cons]; omega
theorem dL_ok : ∀ {lo : Lo}, (∀ q ∈ lo, (0 ≤ q.1 ∧ q.1 ≤ 1000) ∧ (0 ≤ q.2.1 ∧ q.2.1 ≤ 1000) ∧ 0 ≤ q.2.2 ∧ q.2.2 ≤ 1000) → goodA (lo.map dL) ∧ PyData.depthAll (lo.map dL) ≤ 2 ∧ szA (lo.map dL) ≤ 1000 * lo.length
  | [], _ => ⟨trivial, by simp [PyData.depthAll], by simp [szA]⟩
  | q :: lo, h => by
    obtain ⟨h1, h2, h3⟩ := h q (by simp)
    obtain ⟨a1, a2, a3⟩ := dL_ok (lo := lo) fun x hx => h x (by simp [hx])
    refine ⟨⟨⟨Nat.lt_of_le_of_lt (show q.1.natAbs ≤ 1000 by omega) (by decide +kernel), Nat.lt_of_le_of_lt (show q.2.1.natAbs ≤ 1000 by omega) (by decide +kernel), Nat.lt_of_le_of_lt (show q.2.2.natAbs ≤ 1000 by omega) (by decide +kernel), trivial⟩, a1⟩, ?_, ?_⟩
    · simp only [List.map_cons, dL, PyData.depthAll, PyData.depth]; omega
    · simp only [List.map_cons, dL, szA, sz, List.length_cons]; omega
def dW (w : Wo) : PyData := .tuple [.tuple (w.pl.map dP), .tuple (w.st.map dP), .tuple (w.lo.map dL)]
theorem st_ss : SS ("staff" : Str) 20 ∧ SS ("ticket" : Str) 20 := ⟨SS.mk' (by decide +kernel), SS.mk' (by decide +kernel)⟩
theorem told_sh {H : Hp} {w : Wo} {t tp ts tl : Addr} {vp vs vl : List V} (g : GoodW w) (e : H t = some (.tup [.ref tp, .ref ts, .ref tl])) (e1 : H tp = some (.tup vp)) (e2 : H ts = some (.tup vs)) (e3 : H tl = some (.tup vl)) (r1 : Rw H vp (rP w.pl)) (r2 : Rw H vs (rP w.st)) (r3 : Rw H vl (rL w.lo)) : Sh K H (.ref t) (dW w) := by
  obtain ⟨a1, a2, a3⟩ := dP_ok (pl := w.pl) fun q hq => ⟨(g.p.nm q hq).2, by have := g.p.rd q hq; omega⟩
  obtain ⟨b1, b2, b3⟩ := dP_ok (pl := w.st) fun q hq => ⟨by rcases (g.s.ok q hq).1 with h | h <;> rw [h]; exact st_ss.1; exact st_ss.2, by have := (g.s.ok q hq).2; omega⟩
  obtain ⟨c1, c2, c3⟩ := dL_ok (lo := w.lo) fun q hq => by
    obtain ⟨i, hi⟩ := List.getElem?_of_mem hq
    have := low0 g.l i q hi
    have := g.p.l6
    omega
  have := g.p.l6
  have := g.s.ln
  have := g.l2
  refine ⟨.tup (SqT.of e) (.cons (.tup (SqT.of e1) (rP_dn r1)) (.cons (.tup (SqT.of e2) (rP_dn r2)) (.cons (.tup (SqT.of e3) (rL_dn r3)) .nil))), ⟨a1, b1, c1, trivial⟩, ?_, ?_⟩
  · simp only [dW, PyData.depth, PyData.depthAll]; omega
  · simp only [dW, sz, szA]; omega
theorem strs_dn {H : Hp} : ∀ zs : List Str, DnA K H (zs.map V.str) (zs.map PyData.str)
  | [] => .nil
  | z :: zs => .cons (.str z) (strs_dn zs)
theorem lay_L : ∀ lo : Lo, PyData.canLayAll0 (lo.map dL) = true ∧ PyData.depthAll (lo.map dL) ≤ 2
  | [] => ⟨rfl, by simp [PyData.depthAll]⟩
  | q :: lo => by
    obtain ⟨h1, h2⟩ := lay_L lo
    refine ⟨?_, ?_⟩
    · simp only [List.map_cons, PyData.canLayAll0, dL, PyData.canLay0, h1, Bool.and_true]
    · simp only [List.map_cons, PyData.depthAll, PyData.depth, dL]
      omega
theorem shp_L (lo : Lo) : SeqAt.shaped (.list (lo.map dL)) = true := by
  obtain ⟨h1, h2⟩ := lay_L lo
  unfold SeqAt.shaped
  rw [Bool.and_eq_true]
  refine ⟨by simpa only [PyData.canLay0] using h1, decide_eq_true ?_⟩
  simp only [PyData.depth]
  omega

/-! lines as texts -/
theorem spz {n : Nat} (h : n ≤ 10000) : n + 2 ≤ sizeLine := Nat.le_trans (show n + 2 ≤ 10002 by omega) (by decide)
theorem s_spl2 {H : Hp} {Q : VK} {z sep : Str} {ws : List Str} (h0 : (sep.length == 0) = false) (hz : z.length + 2 ≤ sizeLine) (e : Txt.split z sep = ws) (q : ∀ p H', H p = none → H' p = some (.lst (ws.map V.str)) → Kp [] H H' → Q (.ref p) H') :
    ∃ a b, V.str z = V.str a ∧ [V.str sep] = [V.str b] ∧ (b.length == 0) = false ∧ a.length + 2 ≤ sizeLine ∧ rNewStrs (Txt.split a b) H Q := by
  obtain ⟨b, h1, h2, h3, h4⟩ := s_spl (z := z) h0 hz e q
  exact ⟨z, b, rfl, h1, h2, h3, h4⟩
def hm (h : Int) : Str := if h = 0 then "low" else "high"
inductive Ro
  | p (q : Str × Int)
  | s (q : Str × Int)
  | l (q : Int × Int × Int)
def wo (w : Wo) : Ro → List Str
  | .p q => ["place", q.1, (toString q.2 : String)]
  | .s q => ["stretch", q.1, hm q.2]
  | .l q => ["long", nmA w q.1.toNat, nmA w q.2.1.toNat, hm q.2.2]
def so : Ro → Nat | .p _ => 0 | .s _ => 1 | .l _ => 2
def ros (w : Wo) : List Ro := w.pl.map .p ++ w.st.map .s ++ w.lo.map .l
def row (w : Wo) (r : Ro) : Str := Txt.join " " (wo w r)
def txt (w : Wo) : Str := Txt.join "\n" ((ros w).map (row w))
/-- a row that may be read -/
inductive Gr : List Str → Nat → Prop
  | p {n : Str} {r : Int} : isName (.str n) = true → SS n 20 → (r = 1 ∨ r = 2 ∨ r = 3) → Gr ["place", n, (toString r : String)] 0
  | s {k h : Str} : (k = "staff" ∨ k = "ticket") → (h = "low" ∨ h = "high") → Gr ["stretch", k, h] 1
  | l {a b h : Str} : isName (.str a) = true → SS a 20 → isName (.str b) = true → SS b 20 → (h = "low" ∨ h = "high") → Gr ["long", a, b, h] 2
theorem hm_or (h : Int) : hm h = "low" ∨ hm h = "high" := by
  unfold hm
  by_cases c : h = 0
  · rw [if_pos c]; exact Or.inl rfl
  · rw [if_neg c]; exact Or.inr rfl
theorem nmA_nm {w : Wo} (h : GoodW w) {i : Nat} (hi : i < w.pl.length) : isName (.str (nmA w i)) = true ∧ SS (nmA w i) 20 := by
  obtain ⟨q, e, n⟩ := nmA_at hi
  rw [← n]
  exact h.p.nm q (List.mem_of_getElem? e)
theorem lo_b {w : Wo} (g : GoodW w) {q : Int × Int × Int} (hq : q ∈ w.lo) : 0 ≤ q.1 ∧ q.1 + 2 ≤ q.2.1 ∧ q.2.1 ≤ (w.pl.length : Int) - 1 ∧ (q.2.2 = 0 ∨ q.2.2 = 1) := by
  obtain ⟨i, hi⟩ := List.getElem?_of_mem hq
  have := low0 g.l i q hi
  omega
theorem gr_of {w : Wo} (g : GoodW w) {r : Ro} (h : r ∈ ros w) : Gr (wo w r) (so r) := by
  unfold ros at h
  rcases List.mem_append.mp h with h | h
  · rcases List.mem_append.mp h with h | h
    · obtain ⟨q, hq, rfl⟩ := List.mem_map.mp h
      obtain ⟨h1, h2⟩ := g.p.nm q hq
      exact .p h1 h2 (by have := g.p.rd q hq; omega)
    · obtain ⟨q, hq, rfl⟩ := List.mem_map.mp h
      exact .s (g.s.ok q hq).1 (hm_or _)
  · obtain ⟨q, hq, rfl⟩ := List.mem_map.mp h
    have b := lo_b g hq
    obtain ⟨h1, h2⟩ := nmA_nm g (i := q.1.toNat) (by omega)
    obtain ⟨h3, h4⟩ := nmA_nm g (i := q.2.1.toNat) (by omega)
    exact .l h1 h2 h3 h4 (hm_or _)
theorem name_ns {z : Str} (h : isName (.str z) = true) : 32 ∉ z.cps.toList ∧ 10 ∉ z.cps.toList := by
  unfold isName at h
  simp only [Bool.and_eq_true, decide_eq_true_eq, List.all_eq_true] at h
  refine ⟨fun m => ?_, fun m => ?_⟩
  · exact absurd (h.2 _ m) (by decide +kernel)
  · exact absurd (h.2 _ m) (by decide +kernel)
structure Wok (z : Str) : Prop where
  ss : SS z 20
  sp : 32 ∉ z.cps.toList
  nl : 10 ∉ z.cps.toList
theorem wok_name {z : Str} (h : isName (.str z) = true) (s : SS z 20) : Wok z := ⟨s, (name_ns h).1, (name_ns h).2⟩
theorem wok_c : Wok "place" ∧ Wok "stretch" ∧ Wok "long" ∧ Wok "low" ∧ Wok "high" ∧ Wok "staff" ∧ Wok "ticket" := by
  refine ⟨⟨SS.mk' ?_, ?_, ?_⟩, ⟨SS.mk' ?_, ?_, ?_⟩, ⟨SS.mk' ?_, ?_, ?_⟩, ⟨SS.mk' ?_, ?_, ?_⟩, ⟨SS.mk' ?_, ?_, ?_⟩, ⟨SS.mk' ?_, ?_, ?_⟩, ⟨SS.mk' ?_, ?_, ?_⟩⟩ <;> decide +kernel
theorem wok_d : Wok ((toString (1 : Int) : String) : Str) ∧ Wok ((toString (2 : Int) : String) : Str) ∧ Wok ((toString (3 : Int) : String) : Str) := by
  refine ⟨⟨SS.mk' ?_, ?_, ?_⟩, ⟨SS.mk' ?_, ?_, ?_⟩, ⟨SS.mk' ?_, ?_, ?_⟩⟩ <;> decide +kernel
theorem Gr.ok {ws : List Str} {j : Nat} (h : Gr ws j) : ∀ z ∈ ws, Wok z := by
  obtain ⟨c1, c2, c3, c4, c5, c6, c7⟩ := wok_c
  obtain ⟨d1, d2, d3⟩ := wok_d
  cases h with
  | p h1 h2 h3 =>
    simp only [List.mem_cons, List.not_mem_nil, or_false]
    rintro z (rfl | rfl | rfl)
    · exact c1
    · exact wok_name h1 h2
    · rcases h3 with rfl | rfl | rfl
      · exact d1
      · exact d2
      · exact d3
  | s h1 h2 =>
    simp only [List.mem_cons, List.not_mem_nil, or_false]
    rintro z (rfl | rfl | rfl)
    · exact c2
    · rcases h1 with rfl | rfl
      · exact c6
      · exact c7
    · rcases h2 with rfl | rfl
      · exact c4
      · exact c5
  | l h1 h2 h3 h4 h5 =>
    simp only [List.mem_cons, List.not_mem_nil, or_false]
    rintro z (rfl | rfl | rfl | rfl)
    · exact c3
    · exact wok_name h1 h2
    · exact wok_name h3 h4
    · rcases h5 with rfl | rfl
      · exact c4
      · exact c5
theorem Gr.ne {ws : List Str} {j : Nat} (h : Gr ws j) : ws ≠ [] ∧ ws.length ≤ 4 := by cases h <;> simp
theorem row_split {ws : List Str} {j : Nat} (h : Gr ws j) : Txt.split (Txt.join " " ws) " " = ws := by
  rw [sp_eq]
  exact split_join h.ne.1 fun z hz => (h.ok z hz).sp
theorem row_len {ws : List Str} {j : Nat} (h : Gr ws j) : (Txt.join " " ws).length ≤ 100 := by
  have h1 := join_len (a := " ") (ws := ws) (n := 20) fun z hz => (h.ok z hz).ss.len
  have h2 : (" " : Str).length = 1 := by decide +kernel
  have h3 := h.ne.2
  rw [h2] at h1
  have : ws.length * (20 + 1) ≤ 4 * 21 := Nat.mul_le_mul h3 (Nat.le_refl _)
  omega
theorem row_nl {ws : List Str} {j : Nat} (h : Gr ws j) : 10 ∉ (Txt.join " " ws).cps.toList := fun m => by
  rcases join_mem m with m | ⟨z, hz, m⟩
  · exact absurd m (by decide +kernel)
  · exact (h.ok z hz).nl m
theorem ros_len {w : Wo} (g : GoodW w) : (ros w).length ≤ 13 ∧ 2 ≤ (ros w).length := by
  have := g.p.l6
  have := g.p.l2
  have := g.s.ln
  have := g.l2
  unfold ros
  simp only [List.length_append, List.length_map]
  omega
theorem txt_split {w : Wo} (g : GoodW w) : Txt.split (txt w) "\n" = (ros w).map (row w) := by
  unfold txt
  rw [nl_eq]
  refine split_join ?_ fun z hz => ?_
  · intro e
    have := (ros_len g).2
    rw [List.map_eq_nil_iff] at e
    rw [e] at this
    simp at this
  · obtain ⟨r, hr, rfl⟩ := List.mem_map.mp hz
    exact row_nl (gr_of g hr)
theorem txt_len {w : Wo} (g : GoodW w) : (txt w).length ≤ 2000 := by
  have h1 := join_len (a := "\n") (ws := (ros w).map (row w)) (n := 100) fun z hz => by
    obtain ⟨r, hr, rfl⟩ := List.mem_map.mp hz
    exact row_len (gr_of g hr)
  have h2 : ("\n" : Str).length = 1 := by decide +kernel
  have h3 := (ros_len g).1
  rw [h2, List.length_map] at h1
  have : (ros w).length * (100 + 1) ≤ 13 * 101 := Nat.mul_le_mul h3 (Nat.le_refl _)
  unfold txt
  omega
theorem row_p (w : Wo) (q : Str × Int) : row w (.p q) = "place " ++ q.1 ++ " " ++ (toString q.2 : String) := by
  have e : ("place " : Str) = "place" ++ " " := by decide +kernel
  show Txt.join " " [_, _, _] = _
  rw [sj3, e]
  simp only [sa]
theorem row_s (w : Wo) (q : Str × Int) : row w (.s q) = "stretch " ++ q.1 ++ " " ++ hm q.2 := by
  have e : ("stretch " : Str) = "stretch" ++ " " := by decide +kernel
  show Txt.join " " [_, _, _] = _
  rw [sj3, e]
  simp only [sa]
theorem row_l (w : Wo) (q : Int × Int × Int) : row w (.l q) = "long " ++ nmA w q.1.toNat ++ " " ++ nmA w q.2.1.toNat ++ " " ++ hm q.2.2 := by
  have e : ("long " : Str) = "long" ++ " " := by decide +kernel
  show Txt.join " " [_, _, _, _] = _
  rw [sj4, e]
  simp only [sa]
theorem hm_ix {h : Int} (c : h = 0 ∨ h = 1) : atI [V.str "low", V.str "high"] h = some (.str (hm h)) := by
  rcases c with rfl | rfl <;> rfl
theorem sl10 {n : Nat} (h : n ≤ 10000) : n ≤ sizeLine := Nat.le_trans h (by decide)
theorem al {a b : Str} {n m : Nat} (h : a.length ≤ n) (g : b.length ≤ m) : (a ++ b).length ≤ n + m := by
  rw [Str.length_append]
  omega
theorem dig_ss {r : Int} (h : r = 1 ∨ r = 2 ∨ r = 3) : SS ((toString r : String) : Str) 20 := by
  obtain ⟨d1, d2, d3⟩ := wok_d
  rcases h with rfl | rfl | rfl
  · exact d1.ss
  · exact d2.ss
  · exact d3.ss
theorem hm_ss (h : Int) : SS (hm h) 20 := by
  obtain ⟨c1, c2, c3, c4, c5, c6, c7⟩ := wok_c
  rcases hm_or h with e | e
  · rw [e]; exact c4.ss
  · rw [e]; exact c5.ss
theorem lit_ss : SS ("place " : Str) 6 ∧ SS (" " : Str) 1 ∧ SS ("stretch " : Str) 8 ∧ SS ("long " : Str) 5 ∧ SS Str.empty 0 := by
  refine ⟨SS.mk' ?_, SS.mk' ?_, SS.mk' ?_, SS.mk' ?_, SS.mk' ?_⟩ <;> decide +kernel
def sp_show_line (T : Tx K mg) : Sp := sp1 fun x H Q _ => ∃ (p : Addr) (w : Wo), x = .ref p ∧ Ln T H p w ∧ ∀ H', Kp [] H H' → Q (.str (txt w)) H'
set_option maxHeartbeats 16000000 in
theorem ok_show_line (T : Tx K mg) : FnOk P w K mg base (L2.CX P w) 2 T.a_show_line T.d_show_line ["line"] (sp_show_line T) := by
  have G_Line_told := ok_Line_told (P := P) (w := w) (base := base) T
  have G_Line_names := ok_Line_names (P := P) (w := w) (base := base) T
  refine T.F_show_line.okX sc_show_line (fun vs H Q E h => ?_) (fun cd A o s H vs Q E hr h => ?_)
  · obtain ⟨v0, rfl, h⟩ := h; rfl
  obtain ⟨v0, rfl, h⟩ := h
  obtain ⟨p, w', rfl, hL, k⟩ := h
  refine ⟨_, (pss_cons (ps_asg (pe_mo0 T.cl_Line T.M_Line_told G_Line_told (hr.mono (by decide)) T.B_Line_told (takes_of (E := E) rfl rfl rfl rfl) (pv 0)) (pg_tupK (K := K) (n := 3) rfl rfl (pgs_cons (pg_name (i := 1) sc_show_line.nd rfl (Or.inl rfl)) (pgs_cons (pg_name (i := 2) sc_show_line.nd rfl (Or.inl rfl)) (pgs_cons (pg_name (i := 3) sc_show_line.nd rfl (Or.inl rfl)) pgs_nil)))))
    (pss_cons (ps_set (i := 4) sc_show_line.nd rfl (Or.inr rfl) (pe_mo0 T.cl_Line T.M_Line_names G_Line_names (hr.mono (by decide)) T.B_Line_names (takes_of (E := E) rfl rfl rfl rfl) (pv 0)))
    (pss_cons (ps_setLc (i := 5) (own := [("name", 6), ("roads", 7)]) rfl sc_show_line.nd rfl rfl (sw_true rfl rfl rfl (by decide +kernel)) (pi_tpl (K := K) rfl (pv 1)) (blkOk_by (own := [("name", 6), ("roads", 7)]) (N := N_show_line) (sc := defScope s_show_line) (by decide +kernel)) (fun _ _ _ _ _ => (pg_tupK (K := K) (n := 2) rfl rfl (pgs_cons (pg_name (i := 6) sc_show_line.nd rfl (Or.inl rfl)) (pgs_cons (pg_name (i := 7) sc_show_line.nd rfl (Or.inl rfl)) pgs_nil)))) (fun _ _ _ _ _ => pts_nil) (fun _ _ _ _ _ => (pe_jo (PJ.cons pe_str (PJ.cons (pe_fmt (pv 6)) (PJ.cons pe_str (PJ.cons (pe_fmt (pv 7)) PJ.nil)))))))
    (pss_cons (ps_expr (pe_bm PySem.F.plainAttrs_list PySem.F.slot_list_extend PySem.F.type_list_extend mt_extend (pv 5) (pa_cons (pe_lc (own := [("kind", 8), ("home", 9)]) rfl sc_show_line.nd (pi_tpl (K := K) rfl (pv 2)) (blkOk_by (own := [("kind", 8), ("home", 9)]) (N := N_show_line) (sc := defScope s_show_line) (by decide +kernel)) (fun _ _ _ _ _ => (pg_tupK (K := K) (n := 2) rfl rfl (pgs_cons (pg_name (i := 8) sc_show_line.nd rfl (Or.inl rfl)) (pgs_cons (pg_name (i := 9) sc_show_line.nd rfl (Or.inl rfl)) pgs_nil)))) (fun _ _ _ _ _ => pts_nil) (fun _ _ _ _ _ => (pe_jo (PJ.cons pe_str (PJ.cons (pe_fmt (pv 8)) (PJ.cons pe_str (PJ.cons (pe_fmt (pe_ix (ix_u (K := K) rfl) (pe_glob rfl T.mt_HOMES (show RelV (V.ref T.t_HOMES) (Value.ref T.t_HOMES) from rfl)) (pv 9) (fun _ _ => rfl))) PJ.nil))))))) pa_nil)))
    (pss_cons (ps_expr (pe_bm PySem.F.plainAttrs_list PySem.F.slot_list_extend PySem.F.type_list_extend mt_extend (pv 5) (pa_cons (pe_lc (own := [("first", 10), ("last", 11), ("home", 9)]) rfl sc_show_line.nd (pi_tpl (K := K) rfl (pv 3)) (blkOk_by (own := [("first", 10), ("last", 11), ("home", 9)]) (N := N_show_line) (sc := defScope s_show_line) (by decide +kernel)) (fun _ _ _ _ _ => (pg_tupK (K := K) (n := 3) rfl rfl (pgs_cons (pg_name (i := 10) sc_show_line.nd rfl (Or.inl rfl)) (pgs_cons (pg_name (i := 11) sc_show_line.nd rfl (Or.inl rfl)) (pgs_cons (pg_name (i := 9) sc_show_line.nd rfl (Or.inl rfl)) pgs_nil))))) (fun _ _ _ _ _ => pts_nil) (fun _ _ _ _ _ => (pe_jo (PJ.cons pe_str (PJ.cons (pe_fmt (pe_ix (ix_u (K := K) rfl) (pv 4) (pv 10) (fun _ _ => rfl))) (PJ.cons pe_str (PJ.cons (pe_fmt (pe_ix (ix_u (K := K) rfl) (pv 4) (pv 11) (fun _ _ => rfl))) (PJ.cons pe_str (PJ.cons (pe_fmt (pe_ix (ix_u (K := K) rfl) (pe_glob rfl T.mt_HOMES (show RelV (V.ref T.t_HOMES) (Value.ref T.t_HOMES) from rfl)) (pv 9) (fun _ _ => rfl))) PJ.nil))))))))) pa_nil)))
    (pss_one (ps_ret (pe_joinU (K := K) rfl pe_str (pv 5))))))))), ?_⟩
  rw [st_show_line]
  have gW := hL.ok
  obtain ⟨ls, l2, l6⟩ := hL.lens
  have ll2 := gW.l2
  obtain ⟨tp, ts, tl, vp0, vs0, vl0, at', _⟩ := hL.ex
  obtain ⟨y1, y2, y3, y4, y5⟩ := lit_ss
  walk_at "u"
  refine ⟨_, rfl, p, w', rfl, hL, fun t tp ts tl vp vs vl H1 f1 e1 g1 g2 g3 R1 R2 R3 k1 => ?_⟩
  have lp : vp.length = w'.pl.length := by rw [R1.len]; simp [rP]
  have lS : vs.length = w'.st.length := by rw [R2.len]; simp [rP]
  have lL : vl.length = w'.lo.length := by rw [R3.len]; simp [rL]
  walk_at "u"
  refine ⟨_, rfl, p, w', rfl, by walk_at "g", fun ln H2 f2 e2 k2 => ?_⟩
  walk_at "u"
  intro D hD
  refine lc_T (vs := vp) (by walk_at "gt") hD (fun i acc H' => Kp [D] H2 H' ∧ acc = (w'.pl.take i).map fun q => V.str (row w' (.p q))) (fun H3 e3 k3 => ⟨by walk_at "k", rfl⟩) (fun i acc H' p xs e => p.1.tgt e) ?_ ?_
  · rintro i x acc H3 ex ea ⟨k3, rfl⟩
    obtain ⟨u, r, rfl, er, eu⟩ := R1.at ex
    obtain ⟨q, eq, rfl⟩ := rP_at er
    have mq := List.mem_of_getElem? eq
    have hi := (List.getElem?_eq_some_iff.mp eq).1
    have s1 := y5.app y1
    have s2 := s1.app (gW.p.nm q mq).2
    have s3 := s2.app y2
    have hr := gW.p.rd q mq
    have s4 := s3.app (dig_ss (r := q.2) (by omega))
    have sn := (gW.p.nm q mq).2.len
    walk_at "u"
    refine ⟨rfl, ?_⟩
    walk_at "u"
    refine s_jsC (zle (by have := s1.len; omega)) (s_jsF ?_)
    walk_at "u"
    refine s_fmS (zle (by omega)) (zle (by have := s2.len; omega)) (s_jsC (zle (by have := s3.len; omega)) (s_jsF ?_))
    walk_at "u"
    refine s_fmI (log2s (Nat.lt_of_le_of_lt (show q.2.natAbs ≤ 1000 by omega) (by decide +kernel))) (zle (by have := s4.len; omega)) (s_js0 ?_)
    refine PvD.add ea (by simp; omega) fun H4 e4 k4 => ⟨by walk_at "k", ?_⟩
    rw [take_one eq, List.map_append, e_app]
    simp only [List.map_cons, List.map_nil, row_p]
  rintro acc H3 ea ⟨k3, rfl⟩
  rw [List.take_of_length_le (by omega)] at ea
  have nD : D ≠ ln := by walk_at "ne"
  walk_at "u"
  intro D4 hD4
  refine lc_T (vs := vs) (by walk_at "gt") hD4 (fun i acc H' => Kp [D4] H3 H' ∧ acc = (w'.st.take i).map fun q => V.str (row w' (.s q))) (fun H4 e4 k4 => ⟨by walk_at "k", rfl⟩) (fun i acc H' p xs e => p.1.tgt e) ?_ ?_
  · rintro i x acc H4 ex ea4 ⟨k4, rfl⟩
    obtain ⟨u, r, rfl, er, eu⟩ := R2.at ex
    obtain ⟨q, eq, rfl⟩ := rP_at er
    have mq := List.mem_of_getElem? eq
    have hi := (List.getElem?_eq_some_iff.mp eq).1
    have sk : SS q.1 20 := by
      rcases (gW.s.ok q mq).1 with h | h <;> rw [h]
      · exact st_ss.1
      · exact st_ss.2
    have s1 := y5.app y3
    have s2 := s1.app sk
    have s3 := s2.app y2
    have s4 := s3.app (hm_ss q.2)
    have sn := sk.len
    have sh := (hm_ss q.2).len
    walk_at "u"
    refine ⟨rfl, ?_⟩
    walk_at "u"
    refine s_jsC (zle (by have := s1.len; omega)) (s_jsF ?_)
    walk_at "u"
    refine s_fmS (zle (by omega)) (zle (by have := s2.len; omega)) (s_jsC (zle (by have := s3.len; omega)) (s_jsF ?_))
    walk_at "u"
    refine s_ixK T.kt_HOMES (hm_ix (gW.s.ok q mq).2) ?_
    refine s_fmS (zle (by omega)) (zle (by have := s4.len; omega)) (s_js0 ?_)
    refine PvD.add ea4 (by simp; omega) fun H5 e5 k5 => ⟨by walk_at "k", ?_⟩
    rw [take_one eq, List.map_append, e_app]
    simp only [List.map_cons, List.map_nil, row_s]
  rintro acc H4 ea4 ⟨k4, rfl⟩
  rw [List.take_of_length_le (by omega)] at ea4
  walk_at "u"
  refine s_ext (by walk_at "g") ea4 (zle (by simp; omega)) fun H5 e5 k5 => ?_
  have ln5 : H5 ln = some (.lst ((nms w').map V.str)) := by walk_at "g"
  walk_at "u"
  intro D6 hD6
  refine lc_T (vs := vl) (by walk_at "gt") hD6 (fun i acc H' => Kp [D6] H5 H' ∧ acc = (w'.lo.take i).map fun q => V.str (row w' (.l q))) (fun H6 e6 k6 => ⟨by walk_at "k", rfl⟩) (fun i acc H' p xs e => p.1.tgt e) ?_ ?_
  · rintro i x acc H6 ex ea6 ⟨k6, rfl⟩
    obtain ⟨u, r, rfl, er, eu⟩ := R3.at ex
    obtain ⟨q, eq, rfl⟩ := rL_at er
    have mq := List.mem_of_getElem? eq
    have hi := (List.getElem?_eq_some_iff.mp eq).1
    have b := lo_b gW mq
    have z1 := nmA_ss gW (i := q.1.toNat) (by omega)
    have z2 := nmA_ss gW (i := q.2.1.toNat) (by omega)
    have s1 := y5.app y4
    have s2 := s1.app z1
    have s3 := s2.app y2
    have s4 := s3.app z2
    have s5 := s4.app y2
    have s6 := s5.app (hm_ss q.2.2)
    have n1 := z1.len
    have n2 := z2.len
    have sh := (hm_ss q.2.2).len
    walk_at "u"
    refine ⟨rfl, ?_⟩
    walk_at "u"
    refine s_jsC (zle (by have := s1.len; omega)) (s_jsF ?_)
    walk_at "u"
    refine s_ixl (by walk_at "g") (nm_ix (i := q.1.toNat) (by omega) (by omega)) ?_
    refine s_fmS (zle (by omega)) (zle (by have := s2.len; omega)) (s_jsC (zle (by have := s3.len; omega)) (s_jsF ?_))
    walk_at "u"
    refine s_ixl (by walk_at "g") (nm_ix (i := q.2.1.toNat) (by omega) (by omega)) ?_
    refine s_fmS (zle (by omega)) (zle (by have := s4.len; omega)) (s_jsC (zle (by have := s5.len; omega)) (s_jsF ?_))
    walk_at "u"
    refine s_ixK T.kt_HOMES (hm_ix b.2.2.2) ?_
    refine s_fmS (zle (by omega)) (zle (by have := s6.len; omega)) (s_js0 ?_)
    refine PvD.add ea6 (by simp; omega) fun H7 e7 k7 => ⟨by walk_at "k", ?_⟩
    rw [take_one eq, List.map_append, e_app]
    simp only [List.map_cons, List.map_nil, row_l]
  rintro acc H6 ea6 ⟨k6, rfl⟩
  rw [List.take_of_length_le (by omega)] at ea6
  walk_at "u"
  refine s_ext (by walk_at "g") ea6 (zle (by simp; omega)) fun H7 e7 k7 => ?_
  walk_at "u"
  have er : H7 D = some (.lst (((ros w').map (row w')).map V.str)) := by
    rw [e7]
    unfold ros
    simp only [List.map_append, List.map_map]
    rfl
  have rl := ros_len gW
  have sum : (((ros w').map (row w')).map (·.length)).sum ≤ 13 * 100 := by
    have : ∀ l : List Ro, (∀ r ∈ l, r ∈ ros w') → ((l.map (row w')).map (·.length)).sum ≤ l.length * 100 := by
      intro l
      induction l with
      | nil => intro _; simp
      | cons r l ih =>
        intro h
        have h1 := row_len (gr_of gW (h r List.mem_cons_self))
        have h2 := ih fun x hx => h x (List.mem_cons_of_mem _ hx)
        simp only [List.map_cons, List.sum_cons, List.length_cons]
        have : (row w' r).length ≤ 100 := h1
        omega
    have := this (ros w') fun _ h => h
    omega
  refine s_join (ys := (ros w').map (row w')) er ?_ ?_
  · have : ("\n" : Str).length = 1 := by decide +kernel
    rw [this, List.length_map]
    omega
  walk_at "u"
  exact k _ (by walk_at "k")
def sp_is_form : Sp := sp1 fun x H Q _ => ∃ (l : Addr) (ws : List Str) (j : Nat), x = .ref l ∧ H l = some (.lst (ws.map V.str)) ∧ Gr ws j ∧ ∀ H', Kp [] H H' → Q (.bl true) H'
theorem dig_eq : (((toString (1 : Int) : String) : Str) = ⟨#[49]⟩) ∧ (((toString (2 : Int) : String) : Str) = ⟨#[50]⟩) ∧ (((toString (3 : Int) : String) : Str) = ⟨#[51]⟩) := by
  refine ⟨?_, ?_, ?_⟩ <;> decide +kernel
theorem dig_c {r : Int} (h : r = 1 ∨ r = 2 ∨ r = 3) : ∃ c : Nat, ((toString r : String) : Str) = ⟨#[c]⟩ ∧ c ∈ ("0123456789" : Str).cps.toList := by
  obtain ⟨d1, d2, d3⟩ := dig_eq
  rcases h with rfl | rfl | rfl
  · exact ⟨49, d1, by decide +kernel⟩
  · exact ⟨50, d2, by decide +kernel⟩
  · exact ⟨51, d3, by decide +kernel⟩
set_option maxHeartbeats 16000000 in
theorem ok_is_form (T : Tx K mg) : FnOk P w K mg base (L2.CX P w) 2 T.a_is_form T.d_is_form ["words"] (sp_is_form) := by
  have G_is_name := ok_is_name (P := P) (w := w) (base := base) T
  refine T.F_is_form.okX sc_is_form (fun vs H Q E h => ?_) (fun cd A o s H vs Q E hr h => ?_)
  · obtain ⟨v0, rfl, h⟩ := h; rfl
  obtain ⟨v0, rfl, h⟩ := h
  obtain ⟨l, ws, j, rfl, el, hG, k⟩ := h
  refine ⟨_, (pss_cons (ps_if (pt_cmpR (o_eq (K := K) rfl hr) (pe_ix (ix_u (K := K) rfl) (pv 0) pe_int (fun _ _ => rfl)) pe_str (nomark _))
    (pss_one (ps_ret (pe_and (pe_cmpR (o_eq (K := K) rfl hr) (pe_callB (c_len (K := K) rfl) rfl T.z_len bt_len (pa_cons (pv 0) pa_nil)) pe_int (nomark _)) (pe_and (pe_co G_is_name (hr.mono (by decide)) rfl T.m_is_name T.F_is_name.kp T.B_is_name (takes_of (E := E) rfl rfl rfl rfl) (pa_cons (pe_ix (ix_u (K := K) rfl) (pv 0) pe_int (fun _ _ => rfl)) pa_nil)) (pe_and (pe_cmpR (o_eq (K := K) rfl hr) (pe_callB (c_len (K := K) rfl) rfl T.z_len bt_len (pa_cons (pe_ix (ix_u (K := K) rfl) (pv 0) pe_int (fun _ _ => rfl)) pa_nil)) pe_int (nomark _)) (pe_one (pe_cmpR (o_in (K := K) rfl) (pe_ix (ix_u (K := K) rfl) (pv 0) pe_int (fun _ _ => rfl)) pe_str rfl)))))))
    pss_nil)
    (pss_cons (ps_if (pt_cmpR (o_eq (K := K) rfl hr) (pe_ix (ix_u (K := K) rfl) (pv 0) pe_int (fun _ _ => rfl)) pe_str (nomark _))
    (pss_one (ps_ret (pe_and (pe_cmpR (o_eq (K := K) rfl hr) (pe_callB (c_len (K := K) rfl) rfl T.z_len bt_len (pa_cons (pv 0) pa_nil)) pe_int (nomark _)) (pe_and (pe_cmpR (o_in (K := K) rfl) (pe_ix (ix_u (K := K) rfl) (pv 0) pe_int (fun _ _ => rfl)) (pe_tup (pa_cons pe_str (pa_cons pe_str pa_nil))) rfl) (pe_one (pe_cmpR (o_in (K := K) rfl) (pe_ix (ix_u (K := K) rfl) (pv 0) pe_int (fun _ _ => rfl)) (pe_glob rfl T.mt_HOMES (show RelV (V.ref T.t_HOMES) (Value.ref T.t_HOMES) from rfl)) rfl))))))
    pss_nil)
    (pss_cons (ps_if (pt_cmpR (o_eq (K := K) rfl hr) (pe_ix (ix_u (K := K) rfl) (pv 0) pe_int (fun _ _ => rfl)) pe_str (nomark _))
    (pss_one (ps_ret (pe_and (pe_cmpR (o_eq (K := K) rfl hr) (pe_callB (c_len (K := K) rfl) rfl T.z_len bt_len (pa_cons (pv 0) pa_nil)) pe_int (nomark _)) (pe_and (pe_co G_is_name (hr.mono (by decide)) rfl T.m_is_name T.F_is_name.kp T.B_is_name (takes_of (E := E) rfl rfl rfl rfl) (pa_cons (pe_ix (ix_u (K := K) rfl) (pv 0) pe_int (fun _ _ => rfl)) pa_nil)) (pe_and (pe_co G_is_name (hr.mono (by decide)) rfl T.m_is_name T.F_is_name.kp T.B_is_name (takes_of (E := E) rfl rfl rfl rfl) (pa_cons (pe_ix (ix_u (K := K) rfl) (pv 0) pe_int (fun _ _ => rfl)) pa_nil)) (pe_one (pe_cmpR (o_in (K := K) rfl) (pe_ix (ix_u (K := K) rfl) (pv 0) pe_int (fun _ _ => rfl)) (pe_glob rfl T.mt_HOMES (show RelV (V.ref T.t_HOMES) (Value.ref T.t_HOMES) from rfl)) rfl)))))))
    pss_nil)
    (pss_one (ps_ret pe_bl))))), ?_⟩
  rw [st_is_form]
  cases hG with
  | @p n r h1 h2 h3 =>
    obtain ⟨c, ec, mc⟩ := dig_c h3
    rw [ec] at el
    have el : H l = some (.lst [.str "place", .str n, .str ⟨#[c]⟩]) := el
    walk_at "u"
    refine s_lenl el ?_
    walk_at "u"
    refine c_name (h2.mono (by omega)) fun H1 k1 => ?_
    rw [h1]
    walk_at "u"
    refine s_lens (show (1 : Nat) ≤ sizeLine by decide) ?_
    walk_at "u"
    rw [decide_eq_true mc]
    exact k _ k1
  | @s kd h h1 h2 =>
    have el : H l = some (.lst [.str "stretch", .str kd, .str h]) := el
    walk_at "u"
    refine s_lenl el ?_
    walk_at "u"
    walk_at "na"
    intro t1 H1 f1 e1 k1
    refine s_inT (zs := ["staff", "ticket"]) (SqT.of e1) ?_
    rw [decide_eq_true (by simpa using h1)]
    walk_at "u"
    refine s_inT (zs := ["low", "high"]) T.kt_HOMES.sq ?_
    rw [decide_eq_true (by simpa using h2)]
    exact k _ k1
  | @l a b h h1 h2 h3 h4 h5 =>
    have el : H l = some (.lst [.str "long", .str a, .str b, .str h]) := el
    walk_at "u"
    refine s_lenl el ?_
    walk_at "u"
    refine c_name (h2.mono (by omega)) fun H1 k1 => ?_
    rw [h1]
    walk_at "u"
    refine c_name (h4.mono (by omega)) fun H2 k2 => ?_
    rw [h3]
    walk_at "u"
    refine s_inT (zs := ["low", "high"]) T.kt_HOMES.sq ?_
    rw [decide_eq_true (by simpa using h5)]
    exact k _ (by walk_at "k")
/-- lists of words -/
inductive Lw (H : Hp) : List V → List (List Str) → Prop
  | nil : Lw H [] []
  | cons {a : Addr} {ws : List Str} {vs : List V} {rs : List (List Str)} : H a = some (.lst (ws.map V.str)) → Lw H vs rs → Lw H (.ref a :: vs) (ws :: rs)
theorem Lw.kp {H H1 : Hp} {vs : List V} {rs : List (List Str)} (h : Lw H vs rs) (k : Kp [] H H1) : Lw H1 vs rs := by
  induction h with
  | nil => exact .nil
  | cons e _ ih => exact .cons (k.get0 e) ih
theorem Lw.kpf {H H1 : Hp} {vs : List V} {rs : List (List Str)} {ps : List Addr} (h : Lw H vs rs) (k : Kp ps H H1) (n : ∀ p ∈ ps, H p = none) : Lw H1 vs rs := h.kp (k.all n)
theorem Lw.at {H : Hp} {vs : List V} {rs : List (List Str)} (h : Lw H vs rs) {i : Nat} {x : V} (e : vs[i]? = some x) : ∃ a ws, x = .ref a ∧ rs[i]? = some ws ∧ H a = some (.lst (ws.map V.str)) := by
  induction h generalizing i with
  | nil => simp at e
  | @cons a ws vs rs e1 _ ih =>
    cases i with
    | zero => exact ⟨a, ws, by simpa using e.symm, rfl, e1⟩
    | succ i => exact ih (by simpa using e)
theorem Lw.app {H : Hp} {vs : List V} {rs : List (List Str)} {a : Addr} {ws : List Str} (h : Lw H vs rs) (e : H a = some (.lst (ws.map V.str))) : Lw H (vs ++ [.ref a]) (rs ++ [ws]) := by
  induction h with
  | nil => exact .cons e .nil
  | cons e1 _ ih => exact .cons e1 ih
theorem Lw.len {H : Hp} {vs : List V} {rs : List (List Str)} (h : Lw H vs rs) : vs.length = rs.length := by
  induction h with
  | nil => rfl
  | cons e _ ih => simp [ih]
theorem ros_pw (w : Wo) : (ros w).Pairwise fun a b => so a ≤ so b := by
  unfold ros
  rw [List.pairwise_append, List.pairwise_append]
  refine ⟨⟨?_, ?_, ?_⟩, ?_, ?_⟩
  · rw [List.pairwise_map]; exact List.pairwise_of_forall fun _ _ => Nat.le_refl _
  · rw [List.pairwise_map]; exact List.pairwise_of_forall fun _ _ => Nat.le_refl _
  · intro a ha b hb
    obtain ⟨q, _, rfl⟩ := List.mem_map.mp ha
    obtain ⟨q', _, rfl⟩ := List.mem_map.mp hb
    simp [so]
  · rw [List.pairwise_map]; exact List.pairwise_of_forall fun _ _ => Nat.le_refl _
  · intro a ha b hb
    obtain ⟨q', _, rfl⟩ := List.mem_map.mp hb
    show so a ≤ 2
    cases a <;> simp [so]
def bh (w : Wo) (i : Nat) : Nat := match i with | 0 => 0 | j + 1 => match (ros w)[j]? with | some r => so r | none => 0
theorem bh_le {w : Wo} {i : Nat} {r : Ro} (e : (ros w)[i]? = some r) : bh w i ≤ so r := by
  cases i with
  | zero => exact Nat.zero_le _
  | succ j =>
    have hi := (List.getElem?_eq_some_iff.mp e).1
    have hj : j < (ros w).length := by omega
    unfold bh
    simp only [List.getElem?_eq_getElem hj]
    have := List.pairwise_iff_getElem.mp (ros_pw w) j (j + 1) hj hi (by omega)
    rw [List.getElem?_eq_getElem hi] at e
    cases e
    exact this
theorem gr_head {ws : List Str} {j : Nat} (h : Gr ws j) : ∃ z r, ws = z :: r ∧ (["place", "stretch", "long"] : List Str)[j]? = some z ∧ ∀ m, m < j → (["place", "stretch", "long"] : List Str)[m]? ≠ some z := by
  cases h with
  | p h1 h2 h3 => exact ⟨_, _, rfl, rfl, fun m hm => by omega⟩
  | s h1 h2 =>
    refine ⟨_, _, rfl, rfl, fun m hm => ?_⟩
    obtain rfl : m = 0 := by omega
    decide +kernel
  | l h1 h2 h3 h4 h5 =>
    refine ⟨_, _, rfl, rfl, fun m hm => ?_⟩
    have : m = 0 ∨ m = 1 := by omega
    rcases this with rfl | rfl <;> decide +kernel
theorem txt_ne {w : Wo} (g : GoodW w) : txt w ≠ "" := fun e => by
  have h := txt_split g
  rw [e, show Txt.split "" "\n" = [Str.ofString ""] by decide +kernel] at h
  have h2 := congrArg List.length h
  have := (ros_len g).2
  rw [List.length_map] at h2
  simp at h2
  omega
def sp_rows_of : Sp := sp1 fun x H Q _ => ∃ w : Wo, x = .str (txt w) ∧ GoodW w ∧ ∀ (l : Addr) (vs : List V) H', H l = none → H' l = some (.lst vs) → Lw H' vs ((ros w).map (wo w)) → Kp [] H H' → Q (.ref l) H'
set_option maxHeartbeats 16000000 in
theorem ok_rows_of (T : Tx K mg) : FnOk P w K mg base (L2.CX P w) 3 T.a_rows_of T.d_rows_of ["text"] (sp_rows_of) := by
  have G_NoText_init := ok_NoText_init (P := P) (w := w) (base := base) T
  have G_is_form := ok_is_form (P := P) (w := w) (base := base) T
  refine T.F_rows_of.okX sc_rows_of (fun vs H Q E h => ?_) (fun cd A o s H vs Q E hr h => ?_)
  · obtain ⟨v0, rfl, h⟩ := h; rfl
  obtain ⟨v0, rfl, h⟩ := h
  obtain ⟨w', rfl, gW, k⟩ := h
  refine ⟨_, (pss_cons (ps_if (pt_not (pt_val (pe_callB (c_isi (K := K) rfl) rfl T.z_isinstance bt_isinstance (pa_cons (pv 0) (pa_cons (pe_ty rfl T.z_str bt_str) pa_nil)))))
    (pss_one (ps_rz rfl T.er_NoText.oex T.er_NoText.iC T.er_NoText.tI G_NoText_init (hr.mono (by decide)) T.B_NoText_init rfl T.m_NoText (takes_of (E := E) rfl rfl rfl rfl) pe_int))
    pss_nil)
    (pss_cons (ps_set (i := 1) sc_rows_of.nd rfl (Or.inl rfl) (pe_lst pa_nil))
    (pss_cons (ps_set (i := 2) sc_rows_of.nd rfl (Or.inl rfl) pe_int)
    (pss_cons (ps_set (i := 3) sc_rows_of.nd rfl (Or.inl rfl) (pe_ifExp (pt_cmpR (o_ne (K := K) rfl hr) (pv 0) pe_str (nomark _)) (pe_split (pv 0) pe_str) (pe_lst pa_nil)))
    (pss_cons (ps_for PassesOwn.leaving rfl (pi_enumS (K := K) rfl rfl T.z_enumerate (pa_cons (pv 3) (pa_cons pe_int pa_nil))) (pg_tupK (K := K) (n := 2) rfl rfl (pgs_cons (pg_name (i := 4) sc_rows_of.nd rfl (Or.inl rfl)) (pgs_cons (pg_name (i := 5) sc_rows_of.nd rfl (Or.inl rfl)) pgs_nil)))
    (pss_cons (ps_set (i := 6) sc_rows_of.nd rfl (Or.inl rfl) (pe_split (pv 5) pe_str))
    (pss_cons (ps_if (PW.pt (pw_or (pt_not (pt_val (pe_co G_is_form (hr.mono (by decide)) rfl T.m_is_form T.F_is_form.kp T.B_is_form (takes_of (E := E) rfl rfl rfl rfl) (pa_cons (pv 6) pa_nil)))) (pw_or1 (pt_cmpR o_lt (pe_bmK (K := K) rfl PySem.F.plainAttrs_tuple PySem.F.slot_tuple_index PySem.F.type_tuple_index (mt_tix (K := K) rfl) (pe_glob rfl T.mt_SORTS (show RelV (V.ref T.t_SORTS) (Value.ref T.t_SORTS) from rfl)) (pa_cons (pe_ix (ix_u (K := K) rfl) (pv 6) pe_int (fun _ _ => rfl)) pa_nil)) (pv 2) (nomark _)))))
    (pss_one (ps_rz rfl T.er_NoText.oex T.er_NoText.iC T.er_NoText.tI G_NoText_init (hr.mono (by decide)) T.B_NoText_init rfl T.m_NoText (takes_of (E := E) rfl rfl rfl rfl) (pv 4)))
    pss_nil)
    (pss_cons (ps_set (i := 2) sc_rows_of.nd rfl (Or.inl rfl) (pe_bmK (K := K) rfl PySem.F.plainAttrs_tuple PySem.F.slot_tuple_index PySem.F.type_tuple_index (mt_tix (K := K) rfl) (pe_glob rfl T.mt_SORTS (show RelV (V.ref T.t_SORTS) (Value.ref T.t_SORTS) from rfl)) (pa_cons (pe_ix (ix_u (K := K) rfl) (pv 6) pe_int (fun _ _ => rfl)) pa_nil)))
    (pss_one (ps_expr (pe_bm PySem.F.plainAttrs_list PySem.F.slot_list_append PySem.F.type_list_append mt_append (pv 1) (pa_cons (pv 6) pa_nil))))))))
    (pss_one (ps_ret (pv 1)))))))), ?_⟩
  rw [st_rows_of]
  have rl := ros_len gW
  have tl := txt_len gW
  walk_at "u"
  walk_at "na"
  intro fl H1 f1 e1 k1
  walk_at "u"
  rw [decide_eq_false (txt_ne gW)]
  walk_at "u"
  refine s_spl2 (by decide +kernel) (spz (by omega)) (txt_split gW) fun rw' H2 f2 e2 k2 => ?_
  walk_at "u"
  refine s_eS e2 (by omega) ?_
  refine for_eS e2 (fun i σ H' => (∃ acc : List V, H' fl = some (.lst acc) ∧ acc.length = i ∧ Lw (hid [fl] H') acc (((ros w').take i).map (wo w'))) ∧ Kp [fl] H2 H' ∧ ∃ u4 u5 u6, σ = [some (.str (txt w')), some (.ref fl), some (.int (bh w' i : Nat)), some (.ref rw'), u4, u5, u6]) ⟨⟨[], by walk_at "g", rfl, .nil⟩, Kp.refl, _, _, _, rfl⟩ (fun i σ' H' q o e => q.2.1.get1 e (by walk_at "ne")) ?_ ?_
  · rintro i x σ H3 T4 H4 ex ⟨⟨acc, ea, la, La⟩, k3, u4, u5, u6, rfl⟩ f4 e4 k4
    rw [List.getElem?_map, List.getElem?_map] at ex
    obtain ⟨z, ez, rfl⟩ := Option.map_eq_some_iff.mp ex
    obtain ⟨r, er, rfl⟩ := Option.map_eq_some_iff.mp ez
    have hi := (List.getElem?_eq_some_iff.mp er).1
    have hG := gr_of gW (List.mem_of_getElem? er)
    obtain ⟨z, zs, ew, iz, nz⟩ := gr_head hG
    have rln : (row w' r).length ≤ 100 := row_len hG
    walk_at "u"
    refine s_spl2 (by decide +kernel) (spz (by omega)) (row_split hG) fun wl H5 f5 e5 k5 => ?_
    walk_at "u"
    refine ⟨_, rfl, wl, wo w' r, so r, rfl, e5, hG, fun H6 k6 => ?_⟩
    have e6 : H6 wl = some (.lst (.str z :: zs.map V.str)) := by
      have : H6 wl = some (.lst ((wo w' r).map V.str)) := by walk_at "g"
      rw [this, ew]
      rfl
    walk_at "u"
    refine s_tyK T.kt_SORTS ?_
    walk_at "u"
    refine s_ixl e6 (at_nat (j := 0) rfl) ?_
    walk_at "u"
    refine s_tix (zs := ["place", "stretch", "long"]) T.kt_SORTS iz nz ?_
    walk_at "u"
    have hb := bh_le er
    rw [decide_eq_false (show ¬ ((so r : Nat) : Int) < ((bh w' i : Nat) : Int) by omega)]
    walk_at "u"
    refine s_tyK T.kt_SORTS ?_
    walk_at "u"
    refine s_ixl e6 (at_nat (j := 0) rfl) ?_
    walk_at "u"
    refine s_tix (zs := ["place", "stretch", "long"]) T.kt_SORTS iz nz ?_
    walk_at "u"
    refine s_app (xs := acc) (by walk_at "g") (zlt (by omega)) fun H7 e7 k7 => ?_
    walk_at "u"
    have nw : wl ≠ fl := by walk_at "ne"
    have z37 : Kz [fl] H3 H7 := ⟨by walk_at "k"⟩
    have ew7 : H7 wl = some (.lst ((wo w' r).map V.str)) := by walk_at "g"
    refine ⟨⟨acc ++ [.ref wl], e7, by simp [la], ?_⟩, by walk_at "k", some (.int (1 + (i : Int))), some (.str (row w' r)), some (.ref wl), ?_⟩
    · rw [take_one er, List.map_append]
      exact (La.kp (hid_kp z37.k (by simp))).app (hid_of ew7 (by simpa using nw))
    · have : bh w' (i + 1) = so r := by simp [bh, er]
      rw [this]
  · rintro σ H3 ⟨⟨acc, ea, la, La⟩, k3, u4, u5, u6, rfl⟩
    walk_at "u"
    rw [List.length_map, List.length_map, List.take_of_length_le (Nat.le_refl _)] at La
    exact k fl acc H3 f1 ea (La.kp hid_le) (by walk_at "k")
theorem int_dig {r : Int} (h : r = 1 ∨ r = 2 ∨ r = 3) : PySem.intText? ((toString r : String) : Str) = some r := by
  rcases h with rfl | rfl | rfl <;> decide +kernel
theorem hm_j {h : Int} (c : h = 0 ∨ h = 1) : (["low", "high"] : List Str)[h.toNat]? = some (hm h) ∧ (∀ m, m < h.toNat → (["low", "high"] : List Str)[m]? ≠ some (hm h)) ∧ ((h.toNat : Nat) : Int) = h := by
  rcases c with rfl | rfl
  · exact ⟨rfl, fun m hm => by simp at hm, rfl⟩
  · refine ⟨rfl, fun m hm => ?_, rfl⟩
    obtain rfl : m = 0 := by simpa using hm
    decide +kernel
def fp : Ro → Option (Str × Int) | .p q => some q | _ => none
def fs : Ro → Option (Str × Int) | .s q => some q | _ => none
def fl : Ro → Option (Int × Int × Int) | .l q => some q | _ => none
theorem fm_p (w : Wo) : (ros w).filterMap fp = w.pl := by
  unfold ros
  simp only [List.filterMap_append, List.filterMap_map]
  have a : w.pl.filterMap (fp ∘ Ro.p) = w.pl := by
    rw [show (fp ∘ Ro.p) = some from rfl, List.filterMap_some]
  have b : w.st.filterMap (fp ∘ Ro.s) = [] := List.filterMap_eq_nil_iff.mpr fun _ _ => rfl
  have c : w.lo.filterMap (fp ∘ Ro.l) = [] := List.filterMap_eq_nil_iff.mpr fun _ _ => rfl
  rw [a, b, c]
  simp
theorem fm_s (w : Wo) : (ros w).filterMap fs = w.st := by
  unfold ros
  simp only [List.filterMap_append, List.filterMap_map]
  have a : w.st.filterMap (fs ∘ Ro.s) = w.st := by
    rw [show (fs ∘ Ro.s) = some from rfl, List.filterMap_some]
  have b : w.pl.filterMap (fs ∘ Ro.p) = [] := List.filterMap_eq_nil_iff.mpr fun _ _ => rfl
  have c : w.lo.filterMap (fs ∘ Ro.l) = [] := List.filterMap_eq_nil_iff.mpr fun _ _ => rfl
  rw [a, b, c]
  simp
theorem fm_l (w : Wo) : (ros w).filterMap fl = w.lo := by
  unfold ros
  simp only [List.filterMap_append, List.filterMap_map]
  have a : w.lo.filterMap (fl ∘ Ro.l) = w.lo := by
    rw [show (fl ∘ Ro.l) = some from rfl, List.filterMap_some]
  have b : w.st.filterMap (fl ∘ Ro.s) = [] := List.filterMap_eq_nil_iff.mpr fun _ _ => rfl
  have c : w.pl.filterMap (fl ∘ Ro.p) = [] := List.filterMap_eq_nil_iff.mpr fun _ _ => rfl
  rw [a, b, c]
  simp
theorem fm_one {β : Type} (f : Ro → Option β) {l : List Ro} {i : Nat} {r : Ro} (e : l[i]? = some r) : (l.take (i + 1)).filterMap f = (l.take i).filterMap f ++ (f r).toList := by
  rw [take_one e, List.filterMap_append]
  cases h : f r <;> simp [h]
theorem fm_len {β : Type} (f : Ro → Option β) (l : List Ro) (i : Nat) : ((l.take i).filterMap f).length ≤ i := by
  refine Nat.le_trans (List.length_filterMap_le f _) ?_
  rw [List.length_take]
  omega
theorem good0 {w : Wo} (g : GoodW w) : GoodW { w with lo := [] } := ⟨g.p, g.s, trivial, by simp⟩
theorem nmA_at' {w : Wo} {i : Nat} (h : i < w.pl.length) : (nms w)[i]? = some (nmA w i) := by
  obtain ⟨q, e, n⟩ := nmA_at h
  rw [← n]
  simp [nms, e]
def sp_read_line (T : Tx K mg) : Sp := sp1 fun x H Q _ => ∃ w : Wo, x = .str (txt w) ∧ GoodW w ∧ ∀ p H', H p = none → Ln T H' p w → Kp [] H H' → Q (.ref p) H'
set_option maxHeartbeats 16000000 in
theorem ok_read_line (T : Tx K mg) : FnOk P w K mg base (L2.CX P w) 6 T.a_read_line T.d_read_line ["text"] (sp_read_line T) := by
  have G_rows_of := ok_rows_of (P := P) (w := w) (base := base) T
  have G_Line_init := ok_Line_init (P := P) (w := w) (base := base) T
  have G_Line_number_of := ok_Line_number_of (P := P) (w := w) (base := base) T
  refine T.F_read_line.okX sc_read_line (fun vs H Q E h => ?_) (fun cd A o s H vs Q E hr h => ?_)
  · obtain ⟨v0, rfl, h⟩ := h; rfl
  obtain ⟨v0, rfl, h⟩ := h
  obtain ⟨w', rfl, gW, k⟩ := h
  refine ⟨_, (pss_cons (ps_set (i := 1) sc_read_line.nd rfl (Or.inl rfl) (pe_co G_rows_of (hr.mono (by decide)) rfl T.m_rows_of T.F_rows_of.kp T.B_rows_of (takes_of (E := E) rfl rfl rfl rfl) (pa_cons (pv 0) pa_nil)))
    (pss_cons (ps_setLc (i := 2) (own := [("words", 6)]) rfl sc_read_line.nd rfl rfl (sw_true rfl rfl rfl (by decide +kernel)) (pi_lst (K := K) rfl (pv 1)) (blkOk_by (own := [("words", 6)]) (N := N_read_line) (sc := defScope s_read_line) (by decide +kernel)) (fun _ _ _ _ _ => (pg_name (i := 6) sc_read_line.nd rfl (Or.inl rfl))) (fun _ _ _ _ _ => (pts_one (pt_cmpR (o_eq (K := K) rfl hr) (pe_ix (ix_u (K := K) rfl) (pv 6) pe_int (fun _ _ => rfl)) pe_str (nomark _)))) (fun _ _ _ _ _ => (pe_tup (pa_cons (pe_ix (ix_u (K := K) rfl) (pv 6) pe_int (fun _ _ => rfl)) (pa_cons (pe_callTy c_intS rfl T.z_int bt_int (pa_cons (pe_ix (ix_u (K := K) rfl) (pv 6) pe_int (fun _ _ => rfl)) pa_nil)) pa_nil)))))
    (pss_cons (ps_setLc (i := 3) (own := [("words", 6)]) rfl sc_read_line.nd rfl rfl (sw_true rfl rfl rfl (by decide +kernel)) (pi_lst (K := K) rfl (pv 1)) (blkOk_by (own := [("words", 6)]) (N := N_read_line) (sc := defScope s_read_line) (by decide +kernel)) (fun _ _ _ _ _ => (pg_name (i := 6) sc_read_line.nd rfl (Or.inl rfl))) (fun _ _ _ _ _ => (pts_one (pt_cmpR (o_eq (K := K) rfl hr) (pe_ix (ix_u (K := K) rfl) (pv 6) pe_int (fun _ _ => rfl)) pe_str (nomark _)))) (fun _ _ _ _ _ => (pe_tup (pa_cons (pe_ix (ix_u (K := K) rfl) (pv 6) pe_int (fun _ _ => rfl)) (pa_cons (pe_bmK (K := K) rfl PySem.F.plainAttrs_tuple PySem.F.slot_tuple_index PySem.F.type_tuple_index (mt_tix (K := K) rfl) (pe_glob rfl T.mt_HOMES (show RelV (V.ref T.t_HOMES) (Value.ref T.t_HOMES) from rfl)) (pa_cons (pe_ix (ix_u (K := K) rfl) (pv 6) pe_int (fun _ _ => rfl)) pa_nil)) pa_nil)))))
    (pss_cons (ps_set (i := 4) sc_read_line.nd rfl (Or.inl rfl) (pe_nwD T.mk_Line G_Line_init (hr.mono (by decide)) rfl T.m_Line T.Bp_Line_init (takes_of (E := E) rfl rfl rfl rfl) (pa_cons (pv 2) (pa_cons (pv 3) pa_nil))))
    (pss_cons (ps_set (i := 5) sc_read_line.nd rfl (Or.inl rfl) (pe_lst pa_nil))
    (pss_cons (ps_for PassesOwn.leaving rfl (pi_lst (K := K) rfl (pv 1)) (pg_name (i := 6) sc_read_line.nd rfl (Or.inl rfl))
    (pss_one (ps_if (pt_cmpR (o_eq (K := K) rfl hr) (pe_ix (ix_u (K := K) rfl) (pv 6) pe_int (fun _ _ => rfl)) pe_str (nomark _))
    (pss_one (ps_expr (pe_bm PySem.F.plainAttrs_list PySem.F.slot_list_append PySem.F.type_list_append mt_append (pv 5) (pa_cons (pe_tup (pa_cons (pe_mo T.cl_Line T.M_Line_number_of G_Line_number_of (hr.mono (by decide)) T.B_Line_number_of (takes_of (E := E) rfl rfl rfl rfl) (pv 4) (pa_cons (pe_ix (ix_u (K := K) rfl) (pv 6) pe_int (fun _ _ => rfl)) pa_nil)) (pa_cons (pe_mo T.cl_Line T.M_Line_number_of G_Line_number_of (hr.mono (by decide)) T.B_Line_number_of (takes_of (E := E) rfl rfl rfl rfl) (pv 4) (pa_cons (pe_ix (ix_u (K := K) rfl) (pv 6) pe_int (fun _ _ => rfl)) pa_nil)) (pa_cons (pe_bmK (K := K) rfl PySem.F.plainAttrs_tuple PySem.F.slot_tuple_index PySem.F.type_tuple_index (mt_tix (K := K) rfl) (pe_glob rfl T.mt_HOMES (show RelV (V.ref T.t_HOMES) (Value.ref T.t_HOMES) from rfl)) (pa_cons (pe_ix (ix_u (K := K) rfl) (pv 6) pe_int (fun _ _ => rfl)) pa_nil)) pa_nil)))) pa_nil))))
    pss_nil)))
    (pss_one (ps_ret (pe_nw T.mk_Line G_Line_init (hr.mono (by decide)) rfl T.m_Line T.B_Line_init (takes_of (E := E) rfl rfl rfl rfl) (pa_cons (pv 2) (pa_cons (pv 3) (pa_cons (pv 5) pa_nil)))))))))))), ?_⟩
  rw [st_read_line]
  have rl := ros_len gW
  walk_at "u"
  refine ⟨_, rfl, w', rfl, gW, fun rw' vr H1 f1 e1 L1 k1 => ?_⟩
  have lr : vr.length = (ros w').length := by rw [L1.len, List.length_map]
  walk_at "u"
  refine s_ilst (SqL.of e1) ?_
  intro D hD
  refine lc_L e1 hD (fun i acc H' => Kp [D] H1 H' ∧ acc.length ≤ i ∧ Rw H' acc (rP (((ros w').take i).filterMap fp))) (fun H2 e2 k2 => ⟨by walk_at "k", by simp, .nil⟩) (fun i acc H' p o e => p.1.get1 e (by walk_at "ne")) ?_ ?_
  · rintro i x acc H2 ex ea ⟨k2, la, R⟩
    have hi := (List.getElem?_eq_some_iff.mp ex).1
    obtain ⟨a, ws, rfl, ew, el⟩ := (L1.kpf k2 (by simpa using hD)).at ex
    rw [List.getElem?_map] at ew
    obtain ⟨r, er, rfl⟩ := Option.map_eq_some_iff.mp ew
    have mr := List.mem_of_getElem? er
    have hG := gr_of gW mr
    have na : a ≠ D := by
      have el1 := L1.at ex
      obtain ⟨a', ws', e', _, ee⟩ := el1
      cases e'
      exact (Th.lst ee).ne hD
    cases r with
    | p q =>
      have el : H2 a = some (.lst [.str "place", .str q.1, .str (toString q.2 : String)]) := el
      have hq : q.2 = 1 ∨ q.2 = 2 ∨ q.2 = 3 := by
        have : q ∈ w'.pl := by
          rw [← fm_p w']
          exact List.mem_filterMap.mpr ⟨_, mr, rfl⟩
        have := gW.p.rd q this
        omega
      walk_at "u"
      refine ⟨rfl, ?_⟩
      walk_at "u"
      refine s_intS (int_dig hq) (by have := (dig_ss hq).len; omega) ?_
      walk_at "u"
      walk_at "na"
      intro t3 H3 f3 e3 k3
      refine PvD.add (acc := acc) (by walk_at "g") (by omega) fun H4 e4 k4 => ⟨by walk_at "k", by simp; omega, ?_⟩
      rw [fm_one fp er]
      unfold rP
      rw [List.map_append]
      exact ((R.kp k3).kp k4).app (.one (k4.tgt e3))
    | s q =>
      have el : H2 a = some (.lst [.str "stretch", .str q.1, .str (hm q.2)]) := el
      walk_at "u"
      refine ⟨rfl, ?_⟩
      walk_at "u"
      refine PvD.skip ea ⟨k2, by omega, ?_⟩
      rw [fm_one fp er]
      simpa [fp] using R
    | l q =>
      have el : H2 a = some (.lst [.str "long", .str (nmA w' q.1.toNat), .str (nmA w' q.2.1.toNat), .str (hm q.2.2)]) := el
      walk_at "u"
      refine ⟨rfl, ?_⟩
      walk_at "u"
      refine PvD.skip ea ⟨k2, by omega, ?_⟩
      rw [fm_one fp er]
      simpa [fp] using R
  rintro vp H2 ep ⟨k2, _, R1⟩
  rw [lr, List.take_of_length_le (Nat.le_refl _), fm_p] at R1
  have L2 := L1.kpf k2 (by simpa using hD)
  have e2 : H2 rw' = some (.lst vr) := by walk_at "g"
  walk_at "u"
  refine s_ilst (SqL.of e2) ?_
  intro D3 hD3
  refine lc_L e2 hD3 (fun i acc H' => Kp [D3] H2 H' ∧ acc.length ≤ i ∧ Rw H' acc (rP (((ros w').take i).filterMap fs))) (fun H3 e3 k3 => ⟨by walk_at "k", by simp, .nil⟩) (fun i acc H' p o e => p.1.get1 e (by walk_at "ne")) ?_ ?_
  · rintro i x acc H3 ex ea ⟨k3, la, R⟩
    have hi := (List.getElem?_eq_some_iff.mp ex).1
    obtain ⟨a, ws, rfl, ew, el⟩ := (L2.kpf k3 (by simpa using hD3)).at ex
    rw [List.getElem?_map] at ew
    obtain ⟨r, er, rfl⟩ := Option.map_eq_some_iff.mp ew
    have mr := List.mem_of_getElem? er
    have na : a ≠ D3 := by
      have el1 := L2.at ex
      obtain ⟨a', ws', e', _, ee⟩ := el1
      cases e'
      exact (Th.lst ee).ne hD3
    cases r with
    | p q =>
      have el : H3 a = some (.lst [.str "place", .str q.1, .str (toString q.2 : String)]) := el
      walk_at "u"
      refine ⟨rfl, ?_⟩
      walk_at "u"
      refine PvD.skip ea ⟨k3, by omega, ?_⟩
      rw [fm_one fs er]
      simpa [fs] using R
    | s q =>
      have el : H3 a = some (.lst [.str "stretch", .str q.1, .str (hm q.2)]) := el
      have hq : q.2 = 0 ∨ q.2 = 1 := by
        have : q ∈ w'.st := by
          rw [← fm_s w']
          exact List.mem_filterMap.mpr ⟨_, mr, rfl⟩
        exact (gW.s.ok q this).2
      obtain ⟨j1, j2, j3⟩ := hm_j hq
      walk_at "u"
      refine ⟨rfl, ?_⟩
      walk_at "u"
      refine s_tyK T.kt_HOMES ?_
      walk_at "u"
      refine s_tix (zs := ["low", "high"]) T.kt_HOMES j1 j2 ?_
      rw [j3]
      walk_at "u"
      walk_at "na"
      intro t4 H4 f4 e4 k4
      refine PvD.add (acc := acc) (by walk_at "g") (by omega) fun H5 e5 k5 => ⟨by walk_at "k", by simp; omega, ?_⟩
      rw [fm_one fs er]
      unfold rP
      rw [List.map_append]
      exact ((R.kp k4).kp k5).app (.one (k5.tgt e4))
    | l q =>
      have el : H3 a = some (.lst [.str "long", .str (nmA w' q.1.toNat), .str (nmA w' q.2.1.toNat), .str (hm q.2.2)]) := el
      walk_at "u"
      refine ⟨rfl, ?_⟩
      walk_at "u"
      refine PvD.skip ea ⟨k3, by omega, ?_⟩
      rw [fm_one fs er]
      simpa [fs] using R
  rintro vs H3 es ⟨k3, _, R2⟩
  rw [lr, List.take_of_length_le (Nat.le_refl _), fm_s] at R2
  have L3 := L2.kpf k3 (by simpa using hD3)
  walk_at "u"
  refine c_Line (w := { w' with lo := [] }) ⟨D, rfl, Or.inl (by walk_at "g")⟩ (R1.kp k3) ⟨D3, rfl, Or.inl es⟩ R2 (Or.inl ⟨rfl, rfl⟩) (good0 gW) fun q H4 f4 Lq k4 => ?_
  walk_at "u"
  walk_at "na"
  intro ll H5 f5 e5 k5
  have L5 := (L3.kp k4).kp k5
  have e5r : H5 rw' = some (.lst vr) := by walk_at "g"
  obtain ⟨tp0, ts0, tl0, vp0, vs0, vl0, at4, _⟩ := Lq.ex
  walk_at "u"
  refine s_ilst (SqL.of e5r) ?_
  refine for_L e5r (fun i σ H' => (∃ acc : List V, H' ll = some (.lst acc) ∧ acc.length ≤ i ∧ Rw H' acc (rL (((ros w').take i).filterMap fl))) ∧ Kp [ll] H5 H' ∧ ∃ u6, σ = [some (.str (txt w')), some (.ref rw'), some (.ref D), some (.ref D3), some (.ref q), some (.ref ll), u6]) ⟨⟨[], e5, by simp, .nil⟩, Kp.refl, _, rfl⟩ (fun i σ' H' q o e => q.2.1.get1 e (by walk_at "ne")) ?_ ?_
  · rintro i x σ H6 ex ⟨⟨acc, ea, la, R⟩, k6, u6, rfl⟩
    have hi := (List.getElem?_eq_some_iff.mp ex).1
    obtain ⟨a, ws, rfl, ew, el5⟩ := L5.at ex
    rw [List.getElem?_map] at ew
    obtain ⟨r, er, rfl⟩ := Option.map_eq_some_iff.mp ew
    have mr := List.mem_of_getElem? er
    have na : a ≠ ll := by
      have L4 := L3.kp k4
      obtain ⟨a', ws', e', _, ee⟩ := L4.at ex
      cases e'
      exact (Th.lst ee).ne f5
    have el : H6 a = some (.lst ((wo w' r).map V.str)) := by walk_at "g"
    clear el5
    cases r with
    | p q' =>
      have el : H6 a = some (.lst [.str "place", .str q'.1, .str (toString q'.2 : String)]) := el
      walk_at "u"
      refine ⟨⟨acc, ea, by omega, ?_⟩, k6, _, rfl⟩
      rw [fm_one fl er]
      simpa [fl] using R
    | s q' =>
      have el : H6 a = some (.lst [.str "stretch", .str q'.1, .str (hm q'.2)]) := el
      walk_at "u"
      refine ⟨⟨acc, ea, by omega, ?_⟩, k6, _, rfl⟩
      rw [fm_one fl er]
      simpa [fl] using R
    | l q' =>
      have el : H6 a = some (.lst [.str "long", .str (nmA w' q'.1.toNat), .str (nmA w' q'.2.1.toNat), .str (hm q'.2.2)]) := el
      have b := lo_b gW (q := q') (by
        rw [← fm_l w']
        exact List.mem_filterMap.mpr ⟨_, mr, rfl⟩)
      obtain ⟨j1, j2, j3⟩ := hm_j b.2.2.2
      walk_at "u"
      refine c_number_of (w := { w' with lo := [] }) (i := q'.1.toNat) (by walk_at "g") (nmA_at' (w := w') (by omega)) fun H7 k7 => ?_
      walk_at "u"
      refine c_number_of (w := { w' with lo := [] }) (i := q'.2.1.toNat) (by walk_at "g") (nmA_at' (w := w') (by omega)) fun H8 k8 => ?_
      walk_at "u"
      refine s_tyK T.kt_HOMES ?_
      walk_at "u"
      refine s_tix (zs := ["low", "high"]) T.kt_HOMES j1 j2 ?_
      rw [j3, show ((q'.1.toNat : Nat) : Int) = q'.1 by omega, show ((q'.2.1.toNat : Nat) : Int) = q'.2.1 by omega]
      walk_at "u"
      walk_at "na"
      intro t9 H9 f9 e9 k9
      walk_at "u"
      refine s_app (xs := acc) (by walk_at "g") (zlt (by omega)) fun H10 e10 k10 => ?_
      walk_at "u"
      have z10 : Kz [ll] H6 H10 := ⟨by walk_at "k"⟩
      refine ⟨⟨_, e10, by simp; omega, ?_⟩, by walk_at "k", _, rfl⟩
      rw [fm_one fl er]
      unfold rL
      rw [List.map_append]
      exact (R.kp z10.k).app (.one (k10.tgt e9))
  · rintro σ H6 ⟨⟨acc, ea, _, R3⟩, k6, u6, rfl⟩
    rw [lr, List.take_of_length_le (Nat.le_refl _), fm_l] at R3
    have z36 : Kz [] H3 H6 := ⟨by walk_at "k"⟩
    walk_at "u"
    refine c_Line (w := w') ⟨D, rfl, Or.inl (by walk_at "g")⟩ ((R1.kp k3).kp z36.k) ⟨D3, rfl, Or.inl (by walk_at "g")⟩ (R2.kp z36.k) (Or.inr ⟨acc, ⟨ll, rfl, Or.inl ea⟩, R3⟩) gW fun q2 H7 f7 L7 k7 => ?_
    exact k q2 H7 (by walk_at "f") L7 (by walk_at "k")

def sp_law_rows : Sp := sp1 fun x H Q _ => ∃ (t : Addr) (w : Wo), x = .ref t ∧ Wd H t w ∧ GoodW w ∧ ∀ l H', H l = none → H' l = some (.lst (((ros w).map (row w)).map V.str)) → Kp [] H H' → Q (.ref l) H'
set_option maxHeartbeats 16000000 in
theorem ok_law_rows (T : Tx K mg) : FnOk P w K mg base (L2.CX P w) 1 T.a_law_rows T.d_law_rows ["_law_world_here"] (sp_law_rows) := by
  refine T.F_law_rows.okX sc_law_rows (fun vs H Q E h => ?_) (fun cd A o s H vs Q E hr h => ?_)
  · obtain ⟨v0, rfl, h⟩ := h; rfl
  obtain ⟨v0, rfl, h⟩ := h
  obtain ⟨t, w', rfl, hW, gW, k⟩ := h
  refine ⟨_, (pss_cons (ps_asg (pe_slice (sl_u (K := K) rfl) (pv 0) po_none (po_some pe_int)) (pg_lstK (K := K) (n := 3) rfl rfl (pgs_cons (pg_name (i := 1) sc_law_rows.nd rfl (Or.inl rfl)) (pgs_cons (pg_name (i := 2) sc_law_rows.nd rfl (Or.inl rfl)) (pgs_cons (pg_name (i := 3) sc_law_rows.nd rfl (Or.inl rfl)) pgs_nil)))))
    (pss_cons (ps_set (i := 4) sc_law_rows.nd rfl (Or.inr rfl) (pe_lc (own := [("_law_name", 6), ("_law_roads", 7)]) rfl sc_law_rows.nd (pi_lst (K := K) rfl (pv 1)) (blkOk_by (own := [("_law_name", 6), ("_law_roads", 7)]) (N := N_law_rows) (sc := defScope s_law_rows) (by decide +kernel)) (fun _ _ _ _ _ => (pg_tupK (K := K) (n := 2) rfl rfl (pgs_cons (pg_name (i := 6) sc_law_rows.nd rfl (Or.inl rfl)) (pgs_cons (pg_name (i := 7) sc_law_rows.nd rfl (Or.inl rfl)) pgs_nil)))) (fun _ _ _ _ _ => pts_nil) (fun _ _ _ _ _ => (pv 6))))
    (pss_cons (ps_setLc (i := 5) (own := [("_law_name", 6), ("_law_roads", 7)]) rfl sc_law_rows.nd rfl rfl (sw_true rfl rfl rfl (by decide +kernel)) (pi_lst (K := K) rfl (pv 1)) (blkOk_by (own := [("_law_name", 6), ("_law_roads", 7)]) (N := N_law_rows) (sc := defScope s_law_rows) (by decide +kernel)) (fun _ _ _ _ _ => (pg_tupK (K := K) (n := 2) rfl rfl (pgs_cons (pg_name (i := 6) sc_law_rows.nd rfl (Or.inl rfl)) (pgs_cons (pg_name (i := 7) sc_law_rows.nd rfl (Or.inl rfl)) pgs_nil)))) (fun _ _ _ _ _ => pts_nil) (fun _ _ _ _ _ => (pe_op (o_add (K := K) rfl) (pe_op (o_add (K := K) rfl) (pe_op (o_add (K := K) rfl) pe_str (pv 6)) pe_str) (pe_callTy c_str rfl T.z_str bt_str (pa_cons (pv 7) pa_nil)))))
    (pss_cons (ps_set (i := 5) sc_law_rows.nd rfl (Or.inl rfl) (pe_op (o_add (K := K) rfl) (pv 5) (pe_lc (own := [("_law_kind", 8), ("_law_home", 9)]) rfl sc_law_rows.nd (pi_lst (K := K) rfl (pv 2)) (blkOk_by (own := [("_law_kind", 8), ("_law_home", 9)]) (N := N_law_rows) (sc := defScope s_law_rows) (by decide +kernel)) (fun _ _ _ _ _ => (pg_tupK (K := K) (n := 2) rfl rfl (pgs_cons (pg_name (i := 8) sc_law_rows.nd rfl (Or.inl rfl)) (pgs_cons (pg_name (i := 9) sc_law_rows.nd rfl (Or.inl rfl)) pgs_nil)))) (fun _ _ _ _ _ => pts_nil) (fun _ _ _ _ _ => (pe_op (o_add (K := K) rfl) (pe_op (o_add (K := K) rfl) (pe_op (o_add (K := K) rfl) pe_str (pv 8)) pe_str) (pe_ix (ix_u (K := K) rfl) (pe_lst (pa_cons pe_str (pa_cons pe_str pa_nil))) (pv 9) (fun _ _ => rfl)))))))
    (pss_one (ps_ret (pe_op (o_add (K := K) rfl) (pv 5) (pe_lc (own := [("_law_low", 10), ("_law_high", 11), ("_law_home", 9)]) rfl sc_law_rows.nd (pi_lst (K := K) rfl (pv 3)) (blkOk_by (own := [("_law_low", 10), ("_law_high", 11), ("_law_home", 9)]) (N := N_law_rows) (sc := defScope s_law_rows) (by decide +kernel)) (fun _ _ _ _ _ => (pg_tupK (K := K) (n := 3) rfl rfl (pgs_cons (pg_name (i := 10) sc_law_rows.nd rfl (Or.inl rfl)) (pgs_cons (pg_name (i := 11) sc_law_rows.nd rfl (Or.inl rfl)) (pgs_cons (pg_name (i := 9) sc_law_rows.nd rfl (Or.inl rfl)) pgs_nil))))) (fun _ _ _ _ _ => pts_nil) (fun _ _ _ _ _ => (pe_joinU (K := K) rfl pe_str (pe_lst (pa_cons pe_str (pa_cons (pe_ix (ix_u (K := K) rfl) (pv 4) (pv 10) (fun _ _ => rfl)) (pa_cons (pe_ix (ix_u (K := K) rfl) (pv 4) (pv 11) (fun _ _ => rfl)) (pa_cons (pe_ix (ix_u (K := K) rfl) (pe_lst (pa_cons pe_str (pa_cons pe_str pa_nil))) (pv 9) (fun _ _ => rfl)) pa_nil))))))))))))))), ?_⟩
  rw [st_law_rows]
  obtain ⟨a1, a2, a3, vp, vs, vl, z, e0, e1, e2, e3, r1, r2, r3⟩ := hW.ex
  have l6 := gW.p.l6
  have l2 := gW.p.l2
  have ls := gW.s.ln
  have ll2 := gW.l2
  have lp : vp.length = w'.pl.length := by rw [r1.len]; simp [rP]
  have lS : vs.length = w'.st.length := by rw [r2.len]; simp [rP]
  have lL : vl.length = w'.lo.length := by rw [r3.len]; simp [rL]
  obtain ⟨y1, y2, y3, y4, y5⟩ := lit_ss
  walk_at "u"
  refine s_sll (SqL.of e0) fun l1 H1 f1 g1 k1 => ?_
  have g1 : H1 l1 = some (.lst [.ref a1, .ref a2, .ref a3]) := g1
  walk_at "u"
  refine s_ilst (SqL.of (xs := vp) (by walk_at "g")) ?_
  intro D hD
  refine lc_L (vs := vp) (by walk_at "g") hD (fun i acc H' => Kp [D] H1 H' ∧ acc = ((nms w').take i).map V.str) (fun H2 e2 k2 => ⟨by walk_at "k", rfl⟩) (fun i acc H' p o e => p.1.get1 e (by walk_at "ne")) ?_ ?_
  · rintro i x acc H2 ex ea ⟨k2, rfl⟩
    obtain ⟨u, r, rfl, er, eu⟩ := r1.at ex
    obtain ⟨q, eq, rfl⟩ := rP_at er
    have hi := (List.getElem?_eq_some_iff.mp eq).1
    walk_at "u"
    refine ⟨rfl, ?_⟩
    walk_at "u"
    refine PvD.add ea (by simp [nms]; omega) fun H3 e3 k3 => ⟨by walk_at "k", ?_⟩
    rw [take_one (x := q.1) (by simp [nms, eq]), List.map_append]
    rfl
  rintro acc H2 ea ⟨k2, rfl⟩
  rw [List.take_of_length_le (by simp [nms]; omega)] at ea
  walk_at "u"
  refine s_ilst (SqL.of (xs := vp) (by walk_at "g")) ?_
  intro D3 hD3
  refine lc_L (vs := vp) (by walk_at "g") hD3 (fun i acc H' => Kp [D3] H2 H' ∧ acc = (w'.pl.take i).map fun q => V.str (row w' (.p q))) (fun H3 e3 k3 => ⟨by walk_at "k", rfl⟩) (fun i acc H' p o e => p.1.get1 e (by walk_at "ne")) ?_ ?_
  · rintro i x acc H3 ex ea3 ⟨k3, rfl⟩
    obtain ⟨u, r, rfl, er, eu⟩ := r1.at ex
    obtain ⟨q, eq, rfl⟩ := rP_at er
    have mq := List.mem_of_getElem? eq
    have hi := (List.getElem?_eq_some_iff.mp eq).1
    have hr := gW.p.rd q mq
    have sn := (gW.p.nm q mq).2.len
    have sd := (dig_ss (r := q.2) (by omega)).len
    have c1 := y1.len
    have c2 := y2.len
    walk_at "u"
    refine ⟨rfl, ?_⟩
    walk_at "u"
    refine s_adds (zle (by omega)) ?_
    walk_at "u"
    refine s_adds (zle (by rw [Str.length_append]; omega)) ?_
    walk_at "u"
    refine s_str (log2s (Nat.lt_of_le_of_lt (show q.2.natAbs ≤ 1000 by omega) (by decide +kernel))) ?_
    walk_at "u"
    refine s_adds (zle (by rw [Str.length_append, Str.length_append]; omega)) ?_
    refine PvD.add ea3 (by simp; omega) fun H4 e4 k4 => ⟨by walk_at "k", ?_⟩
    rw [take_one eq, List.map_append]
    simp only [List.map_cons, List.map_nil, row_p]
  rintro acc H3 ea3 ⟨k3, rfl⟩
  rw [List.take_of_length_le (by omega)] at ea3
  walk_at "u"
  refine s_ilst (SqL.of (xs := vs) (by walk_at "g")) ?_
  intro D4 hD4
  refine lc_L (vs := vs) (by walk_at "g") hD4 (fun i acc H' => Kp [D4] H3 H' ∧ acc = (w'.st.take i).map fun q => V.str (row w' (.s q))) (fun H4 e4 k4 => ⟨by walk_at "k", rfl⟩) (fun i acc H' p o e => p.1.get1 e (by walk_at "ne")) ?_ ?_
  · rintro i x acc H4 ex ea4 ⟨k4, rfl⟩
    obtain ⟨u, r, rfl, er, eu⟩ := r2.at ex
    obtain ⟨q, eq, rfl⟩ := rP_at er
    have mq := List.mem_of_getElem? eq
    have hi := (List.getElem?_eq_some_iff.mp eq).1
    have sk : SS q.1 20 := by
      rcases (gW.s.ok q mq).1 with h | h <;> rw [h]
      · exact st_ss.1
      · exact st_ss.2
    have sn := sk.len
    have sh := (hm_ss q.2).len
    have c1 := y3.len
    have c2 := y2.len
    walk_at "u"
    refine ⟨rfl, ?_⟩
    walk_at "u"
    refine s_adds (zle (by omega)) ?_
    walk_at "u"
    refine s_adds (zle (by rw [Str.length_append]; omega)) ?_
    walk_at "u"
    walk_at "na"
    intro l5 H5 f5 e5 k5
    walk_at "u"
    refine s_ixl e5 (hm_ix (gW.s.ok q mq).2) ?_
    refine s_adds (zle (by rw [Str.length_append, Str.length_append]; omega)) ?_
    refine PvD.add (acc := (w'.st.take i).map fun q => V.str (row w' (.s q))) (by walk_at "g") (by simp; omega) fun H6 e6 k6 => ⟨by walk_at "k", ?_⟩
    rw [take_one eq, List.map_append]
    simp only [List.map_cons, List.map_nil, row_s]
  rintro acc H4 ea4 ⟨k4, rfl⟩
  rw [List.take_of_length_le (by omega)] at ea4
  walk_at "u"
  refine s_addl (by walk_at "g") ea4 (zle (by simp; omega)) fun l5 H5 f5 e5 k5 => ?_
  walk_at "u"
  refine s_ilst (SqL.of (xs := vl) (by walk_at "g")) ?_
  intro D6 hD6
  refine lc_L (vs := vl) (by walk_at "g") hD6 (fun i acc H' => Kp [D6] H5 H' ∧ acc = (w'.lo.take i).map fun q => V.str (row w' (.l q))) (fun H6 e6 k6 => ⟨by walk_at "k", rfl⟩) (fun i acc H' p o e => p.1.get1 e (by walk_at "ne")) ?_ ?_
  · rintro i x acc H6 ex ea6 ⟨k6, rfl⟩
    obtain ⟨u, r, rfl, er, eu⟩ := r3.at ex
    obtain ⟨q, eq, rfl⟩ := rL_at er
    have mq := List.mem_of_getElem? eq
    have hi := (List.getElem?_eq_some_iff.mp eq).1
    have b := lo_b gW mq
    have n1 := (nmA_ss gW (i := q.1.toNat) (by omega)).len
    have n2 := (nmA_ss gW (i := q.2.1.toNat) (by omega)).len
    have sh := (hm_ss q.2.2).len
    walk_at "u"
    refine ⟨rfl, ?_⟩
    walk_at "u"
    refine s_ixl (by walk_at "g") (nm_ix (i := q.1.toNat) (by omega) (by omega)) ?_
    walk_at "u"
    refine s_ixl (by walk_at "g") (nm_ix (i := q.2.1.toNat) (by omega) (by omega)) ?_
    walk_at "u"
    walk_at "na"
    intro l7 H7 f7 e7 k7
    walk_at "u"
    refine s_ixl e7 (hm_ix b.2.2.2) ?_
    walk_at "u"
    walk_at "na"
    intro l8 H8 f8 e8 k8
    walk_at "u"
    refine s_join (ys := wo w' (.l q)) e8 ?_ ?_
    · have c4 : ("long" : Str).length = 4 := by decide +kernel
      have c5 : (" " : Str).length = 1 := by decide +kernel
      simp only [wo, List.map_cons, List.map_nil, List.sum_cons, List.sum_nil, List.length_cons, List.length_nil, c4, c5]
      omega
    refine PvD.add (acc := (w'.lo.take i).map fun q => V.str (row w' (.l q))) (by walk_at "g") (by simp; omega) fun H9 e9 k9 => ⟨by walk_at "k", ?_⟩
    rw [take_one eq, List.map_append]
    rfl
  rintro acc H6 ea6 ⟨k6, rfl⟩
  rw [List.take_of_length_le (by omega)] at ea6
  walk_at "u"
  refine s_addl (by walk_at "g") ea6 (zle (by simp; omega)) fun l7 H7 f7 e7 k7 => ?_
  walk_at "u"
  refine k l7 H7 (by walk_at "f") ?_ (by walk_at "k")
  rw [e7]
  unfold ros
  simp only [List.map_append, List.map_map]
  rfl
/-! all that a line tells, asked one by one -/
theorem sh_lst {H : Hp} {l : Addr} {vs : List V} {ds : List PyData} (e : H l = some (.lst vs)) (h : DnA K H vs ds) (b : goodA ds ∧ PyData.depthAll ds ≤ 90 ∧ szA ds ≤ 1000000) : Sh K H (.ref l) (.list ds) :=
  ⟨.lst (Or.inl e) h, b.1, by simp only [PyData.depth]; omega, by simp only [sz]; omega⟩
theorem ss_bd {z : Str} (h : SS z 20) : good (.str z) ∧ sz (.str z) ≤ 202 := ⟨(Bd.str h).good, (Bd.str h).sz⟩
theorem int_bd {i : Int} (h0 : -1000000 ≤ i) (h1 : i ≤ 1000000) : good (.int i) := Nat.lt_of_le_of_lt (show i.natAbs ≤ 1000000 by omega) (by decide +kernel)
theorem nv_bd {o : Option Nat} (h : ∀ j, o = some j → j ≤ 1000) : good (nv o) ∧ (nv o).depth ≤ 1 ∧ sz (nv o) ≤ 102 := by
  cases o with
  | none => exact ⟨trivial, by simp [nv, PyData.depth], by simp [nv, sz]⟩
  | some j =>
    have := h j rfl
    exact ⟨int_bd (by omega) (by omega), by simp [nv, PyData.depth], by simp [nv, sz]⟩
theorem optV_dn {H : Hp} {o : Option Nat} : Dn K H (optV o) (nv o) := by
  cases o with
  | none => exact .non
  | some j => exact .int _
theorem lo_find {w : Wo} (g : GoodW w) {P : Nat → Bool} {j : Nat} (e : (List.range w.lo.length).find? P = some j) : j ≤ 1000 := by
  have := List.mem_of_find?_eq_some e
  have := g.l2
  simp at *
  omega
def sp_law_stretches_asked_right (T : Tx K mg) : Sp := sp2 fun x y H Q _ => ∃ (p t : Addr) (w : Wo), x = .ref p ∧ y = .ref t ∧ Ln T H p w ∧ Wd H t w ∧ ∀ H', Kp [] H H' → Q (.bl true) H'
set_option maxHeartbeats 16000000 in
theorem ok_law_stretches_asked_right (T : Tx K mg) (hs : ∃ mm, base.Ns sysModules mm) : FnG P w K mg base (L2.CX P w) 6 T.a_law_stretches_asked_right T.d_law_stretches_asked_right ["_law_line", "_law_world_here"] (sp_law_stretches_asked_right T) := by
  have G_Line_many_stretches := ok_Line_many_stretches (P := P) (w := w) (base := base) T
  have G_Line_many_longs := ok_Line_many_longs (P := P) (w := w) (base := base) T
  have G_Line_ends := ok_Line_ends (P := P) (w := w) (base := base) T
  have G_Line_kind := ok_Line_kind (P := P) (w := w) (base := base) T
  have G_Line_home := ok_Line_home (P := P) (w := w) (base := base) T
  have G_Line_long_of := ok_Line_long_of (P := P) (w := w) (base := base) T
  have G_Line_long_ends := ok_Line_long_ends (P := P) (w := w) (base := base) T
  have G_Line_long_stretches := ok_Line_long_stretches (P := P) (w := w) (base := base) T
  have G_Line_long_home := ok_Line_long_home (P := P) (w := w) (base := base) T
  refine okG T.F_law_stretches_asked_right sc_law_stretches_asked_right (fun vs H Q E h => ?_) (fun cd A o s H vs Q E hg hr h => ?_)
  · obtain ⟨v0, v1, rfl, h⟩ := h; rfl
  obtain ⟨v0, v1, rfl, h⟩ := h
  obtain ⟨p, t, w', rfl, rfl, hL, hW, k⟩ := h
  refine ⟨_, (pss_cons (ps_setLc (i := 2) (own := [("_law_name", 10), ("_law_roads", 11)]) rfl sc_law_stretches_asked_right.nd rfl rfl (sw_true rfl rfl rfl (by decide +kernel)) (pi_lst (K := K) rfl (pe_ix (ix_u (K := K) rfl) (pv 1) pe_int (fun _ _ => rfl))) (blkOk_by (own := [("_law_name", 10), ("_law_roads", 11)]) (N := N_law_stretches_asked_right) (sc := defScope s_law_stretches_asked_right) (by decide +kernel)) (fun _ _ _ _ _ => (pg_tupK (K := K) (n := 2) rfl rfl (pgs_cons (pg_name (i := 10) sc_law_stretches_asked_right.nd rfl (Or.inl rfl)) (pgs_cons (pg_name (i := 11) sc_law_stretches_asked_right.nd rfl (Or.inl rfl)) pgs_nil)))) (fun _ _ _ _ _ => pts_nil) (fun _ _ _ _ _ => (pv 10)))
    (pss_cons (ps_if (pt_cmpR (o_ne (K := K) rfl hr) (pe_callB (c_repr (K := K) rfl hg hr hs) rfl T.z_repr bt_repr (pa_cons (pe_lst (pa_cons (pe_mo0 T.cl_Line T.M_Line_many_stretches G_Line_many_stretches (hr.mono (by decide)) T.B_Line_many_stretches (takes_of (E := E) rfl rfl rfl rfl) (pv 0)) (pa_cons (pe_mo0 T.cl_Line T.M_Line_many_longs G_Line_many_longs (hr.mono (by decide)) T.B_Line_many_longs (takes_of (E := E) rfl rfl rfl rfl) (pv 0)) pa_nil))) pa_nil)) (pe_callB (c_repr (K := K) rfl hg hr hs) rfl T.z_repr bt_repr (pa_cons (pe_lst (pa_cons (pe_callB (c_len (K := K) rfl) rfl T.z_len bt_len (pa_cons (pe_ix (ix_u (K := K) rfl) (pv 1) pe_int (fun _ _ => rfl)) pa_nil)) (pa_cons (pe_callB (c_len (K := K) rfl) rfl T.z_len bt_len (pa_cons (pe_ix (ix_u (K := K) rfl) (pv 1) pe_int (fun _ _ => rfl)) pa_nil)) pa_nil))) pa_nil)) (nomark _))
    (pss_one (ps_ret pe_bl))
    pss_nil)
    (pss_cons (ps_for PassesOwn.leaving rfl (pi_enumL (K := K) rfl rfl T.z_enumerate (pa_cons (pe_ix (ix_u (K := K) rfl) (pv 1) pe_int (fun _ _ => rfl)) pa_nil)) (pg_tupK (K := K) (n := 2) rfl rfl (pgs_cons (pg_name (i := 3) sc_law_stretches_asked_right.nd rfl (Or.inr rfl)) (pgs_cons (pg_tupK (K := K) (n := 2) rfl rfl (pgs_cons (pg_name (i := 4) sc_law_stretches_asked_right.nd rfl (Or.inl rfl)) (pgs_cons (pg_name (i := 5) sc_law_stretches_asked_right.nd rfl (Or.inl rfl)) pgs_nil))) pgs_nil)))
    (pss_cons (ps_set (i := 6) sc_law_stretches_asked_right.nd rfl (Or.inl rfl) (pe_ix (ix_u (K := K) rfl) (pe_op (o_add (K := K) rfl) (pe_lc (own := [("_law_one", 12), ("_law_low", 7), ("_law_high", 8), ("_law_at", 13)]) rfl sc_law_stretches_asked_right.nd (pi_enumL (K := K) rfl rfl T.z_enumerate (pa_cons (pe_ix (ix_u (K := K) rfl) (pv 1) pe_int (fun _ _ => rfl)) pa_nil)) (blkOk_by (own := [("_law_one", 12), ("_law_low", 7), ("_law_high", 8), ("_law_at", 13)]) (N := N_law_stretches_asked_right) (sc := defScope s_law_stretches_asked_right) (by decide +kernel)) (fun _ _ _ _ _ => (pg_tupK (K := K) (n := 2) rfl rfl (pgs_cons (pg_name (i := 12) sc_law_stretches_asked_right.nd rfl (Or.inl rfl)) (pgs_cons (pg_tupK (K := K) (n := 3) rfl rfl (pgs_cons (pg_name (i := 7) sc_law_stretches_asked_right.nd rfl (Or.inl rfl)) (pgs_cons (pg_name (i := 8) sc_law_stretches_asked_right.nd rfl (Or.inl rfl)) (pgs_cons (pg_name (i := 13) sc_law_stretches_asked_right.nd rfl (Or.inl rfl)) pgs_nil)))) pgs_nil)))) (fun _ _ _ _ _ => (pts_one (pt_chain o_le o_lt (pv 7) (pv 3) (pv 8)))) (fun _ _ _ _ _ => (pv 12))) (pe_lst (pa_cons pe_non pa_nil))) pe_int (fun _ _ => rfl)))
    (pss_cons (ps_set (i := 9) sc_law_stretches_asked_right.nd rfl (Or.inl rfl) (pe_lst (pa_cons (pe_tup (pa_cons (pe_ix (ix_u (K := K) rfl) (pv 2) (pv 3) (fun _ _ => rfl)) (pa_cons (pe_ix (ix_u (K := K) rfl) (pv 2) (pe_op (o_add (K := K) rfl) (pv 3) pe_int) (fun _ _ => rfl)) pa_nil))) (pa_cons (pv 4) (pa_cons (pe_ix (ix_u (K := K) rfl) (pv 2) (pe_op (o_add (K := K) rfl) (pv 3) (pv 5)) (fun _ _ => rfl)) (pa_cons (pv 6) pa_nil))))))
    (pss_one (ps_if (pt_cmpR (o_ne (K := K) rfl hr) (pe_callB (c_repr (K := K) rfl hg hr hs) rfl T.z_repr bt_repr (pa_cons (pe_lst (pa_cons (pe_mo T.cl_Line T.M_Line_ends G_Line_ends (hr.mono (by decide)) T.B_Line_ends (takes_of (E := E) rfl rfl rfl rfl) (pv 0) (pa_cons (pv 3) pa_nil)) (pa_cons (pe_mo T.cl_Line T.M_Line_kind G_Line_kind (hr.mono (by decide)) T.B_Line_kind (takes_of (E := E) rfl rfl rfl rfl) (pv 0) (pa_cons (pv 3) pa_nil)) (pa_cons (pe_mo T.cl_Line T.M_Line_home G_Line_home (hr.mono (by decide)) T.B_Line_home (takes_of (E := E) rfl rfl rfl rfl) (pv 0) (pa_cons (pv 3) pa_nil)) (pa_cons (pe_mo T.cl_Line T.M_Line_long_of G_Line_long_of (hr.mono (by decide)) T.B_Line_long_of (takes_of (E := E) rfl rfl rfl rfl) (pv 0) (pa_cons (pv 3) pa_nil)) pa_nil))))) pa_nil)) (pe_callB (c_repr (K := K) rfl hg hr hs) rfl T.z_repr bt_repr (pa_cons (pv 9) pa_nil)) (nomark _))
    (pss_one (ps_ret pe_bl))
    pss_nil)))))
    (pss_cons (ps_for PassesOwn.leaving rfl (pi_enumL (K := K) rfl rfl T.z_enumerate (pa_cons (pe_ix (ix_u (K := K) rfl) (pv 1) pe_int (fun _ _ => rfl)) pa_nil)) (pg_tupK (K := K) (n := 2) rfl rfl (pgs_cons (pg_name (i := 6) sc_law_stretches_asked_right.nd rfl (Or.inl rfl)) (pgs_cons (pg_tupK (K := K) (n := 3) rfl rfl (pgs_cons (pg_name (i := 7) sc_law_stretches_asked_right.nd rfl (Or.inl rfl)) (pgs_cons (pg_name (i := 8) sc_law_stretches_asked_right.nd rfl (Or.inl rfl)) (pgs_cons (pg_name (i := 5) sc_law_stretches_asked_right.nd rfl (Or.inl rfl)) pgs_nil)))) pgs_nil)))
    (pss_cons (ps_set (i := 9) sc_law_stretches_asked_right.nd rfl (Or.inl rfl) (pe_lst (pa_cons (pe_tup (pa_cons (pe_ix (ix_u (K := K) rfl) (pv 2) (pv 7) (fun _ _ => rfl)) (pa_cons (pe_ix (ix_u (K := K) rfl) (pv 2) (pv 8) (fun _ _ => rfl)) pa_nil))) (pa_cons (pe_callTy (c_listR rfl) rfl T.z_list bt_list (pa_cons (pe_callTy c_range2 rfl T.z_range bt_range (pa_cons (pv 7) (pa_cons (pv 8) pa_nil))) pa_nil)) (pa_cons (pe_ix (ix_u (K := K) rfl) (pv 2) (pe_ix (ix_u (K := K) rfl) (pe_lst (pa_cons (pv 7) (pa_cons (pv 8) pa_nil))) (pv 5) (fun _ _ => rfl)) (fun _ _ => rfl)) pa_nil)))))
    (pss_one (ps_if (pt_cmpR (o_ne (K := K) rfl hr) (pe_callB (c_repr (K := K) rfl hg hr hs) rfl T.z_repr bt_repr (pa_cons (pe_lst (pa_cons (pe_mo T.cl_Line T.M_Line_long_ends G_Line_long_ends (hr.mono (by decide)) T.B_Line_long_ends (takes_of (E := E) rfl rfl rfl rfl) (pv 0) (pa_cons (pv 6) pa_nil)) (pa_cons (pe_mo T.cl_Line T.M_Line_long_stretches G_Line_long_stretches (hr.mono (by decide)) T.B_Line_long_stretches (takes_of (E := E) rfl rfl rfl rfl) (pv 0) (pa_cons (pv 6) pa_nil)) (pa_cons (pe_mo T.cl_Line T.M_Line_long_home G_Line_long_home (hr.mono (by decide)) T.B_Line_long_home (takes_of (E := E) rfl rfl rfl rfl) (pv 0) (pa_cons (pv 6) pa_nil)) pa_nil)))) pa_nil)) (pe_callB (c_repr (K := K) rfl hg hr hs) rfl T.z_repr bt_repr (pa_cons (pv 9) pa_nil)) (nomark _))
    (pss_one (ps_ret pe_bl))
    pss_nil))))
    (pss_one (ps_ret pe_bl)))))), ?_⟩
  rw [st_law_stretches_asked_right]
  obtain ⟨a1, a2, a3, vp, vs, vl, z, e0, e1, e2, e3, r1, r2, r3⟩ := hW.ex
  obtain ⟨tp, ts, tl, vp', vs', vl', at', _⟩ := hL.ex
  obtain ⟨ls, l2, l6⟩ := hL.lens
  have gW := hL.ok
  have lp : vp.length = w'.pl.length := by rw [r1.len]; simp [rP]
  have lS : vs.length = w'.st.length := by rw [r2.len]; simp [rP]
  have lL : vl.length = w'.lo.length := by rw [r3.len]; simp [rL]
  have hl2 := hL.ok.l2
  walk_at "u"
  refine s_ilst (SqL.of e1) ?_
  intro D hD
  refine lc_L e1 hD (fun i acc H' => Kp [D] H H' ∧ acc = ((nms w').take i).map V.str) (fun H1 e4 k1 => ⟨by walk_at "k", rfl⟩) (fun i acc H' p o e => p.1.get1 e (by walk_at "ne")) ?_ ?_
  · rintro i x acc H' ex ea ⟨k1, rfl⟩
    obtain ⟨u, r, rfl, er, eu⟩ := r1.at ex
    obtain ⟨q, eq, rfl⟩ := rP_at er
    have hi := (List.getElem?_eq_some_iff.mp eq).1
    walk_at "u"
    refine ⟨rfl, ?_⟩
    walk_at "u"
    refine PvD.add ea (by simp [nms]; omega) fun H2 e2 k2 => ⟨by walk_at "k", ?_⟩
    rw [take_one (x := q.1) (by simp [nms, eq]), List.map_append]
    rfl
  rintro acc H1 ea ⟨k1, rfl⟩
  rw [List.take_of_length_le (by simp [nms]; omega)] at ea
  walk_at "u"
  refine ⟨_, rfl, p, w', rfl, by walk_at "g", ?_⟩
  walk_at "u"
  refine ⟨_, rfl, p, w', rfl, by walk_at "g", ?_⟩
  walk_at "u"
  walk_at "na"
  intro l1 H2 f2 g2 k2
  have sh2 : ∀ {H l}, H l = some (.lst [.int w'.st.length, .int w'.lo.length]) → Sh K H (.ref l) (.list [.int w'.st.length, .int w'.lo.length]) := fun e => sh_lst e (.cons (.int _) (.cons (.int _) .nil)) ⟨⟨int_bd (by omega) (by omega), int_bd (by omega) (by omega), trivial⟩, by simp [PyData.depthAll, PyData.depth], by simp [szA, sz]⟩
  walk_at "u"
  refine s_rep (sh2 g2) ?_
  walk_at "u"
  refine s_lenl (xs := vs) (by walk_at "g") ?_
  walk_at "u"
  refine s_lenl (xs := vl) (by walk_at "g") ?_
  rw [lS, lL]
  walk_at "u"
  walk_at "na"
  intro l3 H3 f3 g3 k3
  walk_at "u"
  refine s_rep (sh2 g3) ?_
  walk_at "u"
  rw [decide_eq_true rfl]
  walk_at "u"
  refine for_eL (vs := vs) (by walk_at "g") (fun i σ H' => Kp [] H3 H' ∧ ∃ u3 u4 u5 u6 u7 u8 u9 u10 u11 u12 u13, σ = [some (.ref p), some (.ref t), some (.ref D), u3, u4, u5, u6, u7, u8, u9, u10, u11, u12, u13]) ⟨Kp.refl, _, _, _, _, _, _, _, _, _, _, _, rfl⟩ (fun i σ' H' p o e => p.1.get0 e) ?_ ?_
  · rintro i x σ H4 T5 H5 ex ⟨k4, u3, u4, u5, u6, u7, u8, u9, u10, u11, u12, u13, rfl⟩ f5 eT k5
    obtain ⟨u, r, rfl, er, eu⟩ := r2.at ex
    obtain ⟨q, eq, rfl⟩ := rP_at er
    have hi := (List.getElem?_eq_some_iff.mp eq).1
    have mq := List.mem_of_getElem? eq
    have hq := (gW.s.ok q mq).2
    have n1 := nm_ix (w := w') (i := i) (by omega) rfl
    have n2 := nm_ix (w := w') (i := i + 1) (n := (i : Int) + 1) (by omega) (by omega)
    have n3 := nm_ix (w := w') (i := i + q.2.toNat) (n := (i : Int) + q.2) (by omega) (by omega)
    have s1 := ss_bd (nmA_ss gW (i := i) (by omega))
    have s2 := ss_bd (nmA_ss gW (i := i + 1) (by omega))
    have s3 := ss_bd (nmA_ss gW (i := i + q.2.toNat) (by omega))
    have sk : SS q.1 20 := by
      rcases (gW.s.ok q mq).1 with h | h <;> rw [h]
      · exact st_ss.1
      · exact st_ss.2
    have s4 := ss_bd sk
    have s5 := nv_bd (o := (List.range w'.lo.length).find? (loP w'.lo i)) fun j e => lo_find gW e
    have sh4 : ∀ {H l tu}, H l = some (.lst [.ref tu, .str q.1, .str (nmA w' (i + q.2.toNat)), loV w'.lo i]) → H tu = some (.tup [.str (nmA w' i), .str (nmA w' (i + 1))]) → Sh K H (.ref l) (.list [.tuple [.str (nmA w' i), .str (nmA w' (i + 1))], .str q.1, .str (nmA w' (i + q.2.toNat)), nv ((List.range w'.lo.length).find? (loP w'.lo i))]) := fun e e' =>
      sh_lst e (.cons (.tup (SqT.of e') (.cons (.str _) (.cons (.str _) .nil))) (.cons (.str _) (.cons (.str _) (.cons optV_dn .nil)))) ⟨⟨⟨s1.1, s2.1, trivial⟩, s4.1, s3.1, s5.1, trivial⟩, by
        have := s5.2.1
        simp only [PyData.depthAll, PyData.depth]
        omega, by
        have := s1.2
        have := s2.2
        have := s3.2
        have := s4.2
        have := s5.2.2
        simp only [szA, sz] at *
        omega⟩
    walk_at "u"
    intro D6 hD6
    refine lc_eL (vs := vl) (by walk_at "g") hD6 (fun m acc H' => Kp [D6] H5 H' ∧ acc = ((List.range m).filter (loP w'.lo i)).map fun j => V.int (j : Nat)) (fun H7 e7 k7 => ⟨by walk_at "k", rfl⟩) (fun m acc H' p o e => p.1.get1 e (by walk_at "ne")) ?_ ?_
    · rintro m x acc H7 T7 H8 ex8 ea6 ⟨k7, rfl⟩ f8 e8 k8
      obtain ⟨u2, r, rfl, er2, eu2⟩ := r3.at ex8
      obtain ⟨q2, eq2, rfl⟩ := rL_at er2
      have hm : m < vl.length := (List.getElem?_eq_some_iff.mp ex8).1
      have eu8 : H8 u2 = some (.tup [.int q2.1, .int q2.2.1, .int q2.2.2]) := by walk_at "gt"
      have ep : loP w'.lo i m = (decide (q2.1 ≤ (i : Int)) && decide ((i : Int) < q2.2.1)) := by unfold loP; rw [eq2]
      have sk : loP w'.lo i m = false → PvD D6 (fun m acc H' => Kp [D6] H5 H' ∧ acc = ((List.range m).filter (loP w'.lo i)).map fun j => V.int (j : Nat)) (m + 1) H8 := fun h => by
        refine PvD.skip (acc := ((List.range m).filter (loP w'.lo i)).map fun j => V.int (j : Nat)) (by walk_at "g") ⟨by walk_at "k", ?_⟩
        rw [List.range_succ, List.filter_append, List.map_append]
        simp [h]
      walk_at "u"
      refine ⟨rfl, ?_⟩
      walk_at "u"
      refine s_ite (fun h1 => ?_) (fun h1 => ?_)
      · walk_at "u"
        refine s_ite (fun h2 => ?_) (fun h2 => ?_)
        · have h : loP w'.lo i m = true := by rw [ep, decide_eq_true h1, decide_eq_true h2]; rfl
          walk_at "u"
          refine PvD.add (acc := ((List.range m).filter (loP w'.lo i)).map fun j => V.int (j : Nat)) (by walk_at "g") ?_ fun H11 e11 k11 => ⟨by walk_at "k", ?_⟩
          · rw [List.length_map]
            have := List.length_filter_le (loP w'.lo i) (List.range m)
            rw [List.length_range] at this
            omega
          · rw [List.range_succ, List.filter_append, List.map_append]
            simp [h]
        · exact sk (by rw [ep, decide_eq_false h2, Bool.and_false])
      · walk_at "u"
        exact sk (by rw [ep, decide_eq_false h1, Bool.false_and])
    · rintro acc H7 ea7 ⟨k7, rfl⟩
      rw [lL] at ea7
      walk_at "u"
      walk_at "na"
      intro l9 H9 f9 e9 k9
      walk_at "u"
      refine s_addl (by walk_at "g") e9 (zle ?_) fun l10 H10 f10 e10 k10 => ?_
      · have := List.length_filter_le (loP w'.lo i) (List.range w'.lo.length)
        rw [List.length_range] at this
        simp
        omega
      walk_at "u"
      refine s_ixl e10 at_head ?_
      have hh : ((((List.range w'.lo.length).filter (loP w'.lo i)).map fun j => V.int (j : Nat)).head?.getD V.non) = loV w'.lo i := by
        unfold loV
        rw [List.head?_map, List.head?_filter]
        cases (List.range w'.lo.length).find? (loP w'.lo i) <;> rfl
      rw [hh]
      walk_at "u"
      refine s_ixl (by walk_at "g") n1 ?_
      walk_at "u"
      refine s_ixl (by walk_at "g") n2 ?_
      walk_at "u"
      walk_at "na"
      intro t11 H11 f11 e11 k11
      walk_at "u"
      refine s_ixl (by walk_at "g") n3 ?_
      walk_at "u"
      walk_at "na"
      intro l12 H12 f12 e12 k12
      walk_at "u"
      refine c_ends (by walk_at "g") (by omega) fun t13 H13 f13 e13 k13 => ?_
      walk_at "u"
      refine c_kind (by walk_at "g") eq ?_
      walk_at "u"
      refine c_home (by walk_at "g") eq fun H14 k14 => ?_
      walk_at "u"
      refine c_long_of (by walk_at "g") (by omega) fun H15 k15 => ?_
      walk_at "u"
      walk_at "na"
      intro l16 H16 f16 e16 k16
      walk_at "u"
      refine s_rep (sh4 e16 (by walk_at "gt")) ?_
      walk_at "u"
      refine s_rep (sh4 (by walk_at "g") (by walk_at "gt")) ?_
      walk_at "u"
      rw [decide_eq_true rfl]
      walk_at "u"
      exact ⟨by walk_at "k", _, _, _, _, _, _, _, _, _, _, _, rfl⟩
  · rintro σ H4 ⟨k4, u3, u4, u5, u6, u7, u8, u9, u10, u11, u12, u13, rfl⟩
    walk_at "u"
    refine for_eL (vs := vl) (by walk_at "g") (fun i σ H' => Kp [] H4 H' ∧ ∃ u3 u4 u5 u6 u7 u8 u9 u10 u11 u12 u13, σ = [some (.ref p), some (.ref t), some (.ref D), u3, u4, u5, u6, u7, u8, u9, u10, u11, u12, u13]) ⟨Kp.refl, _, _, _, _, _, _, _, _, _, _, _, rfl⟩ (fun i σ' H' p o e => p.1.get0 e) ?_ ?_
    · rintro i x σ H5 T6 H6 ex ⟨k5, u3, u4, u5, u6, u7, u8, u9, u10, u11, u12, u13, rfl⟩ f6 eT k6
      obtain ⟨u, r, rfl, er, eu⟩ := r3.at ex
      obtain ⟨q, eq, rfl⟩ := rL_at er
      have hi := (List.getElem?_eq_some_iff.mp eq).1
      have b := low0 gW.l i q eq
      have n1 := nm_ix (w := w') (i := q.1.toNat) (n := q.1) (by omega) (by omega)
      have n2 := nm_ix (w := w') (i := q.2.1.toNat) (n := q.2.1) (by omega) (by omega)
      have s1 := ss_bd (nmA_ss gW (i := q.1.toNat) (by omega))
      have s2 := ss_bd (nmA_ss gW (i := q.2.1.toNat) (by omega))
      have s3 := ss_bd (nmA_ss gW (i := if q.2.2 = 0 then q.1.toNat else q.2.1.toNat) (by split <;> omega))
      obtain ⟨hq, n3⟩ : atI [V.int q.1, V.int q.2.1] q.2.2 = some (.int (if q.2.2 = 0 then q.1 else q.2.1)) ∧ atI ((nms w').map V.str) (if q.2.2 = 0 then q.1 else q.2.1) = some (.str (nmA w' (if q.2.2 = 0 then q.1.toNat else q.2.1.toNat))) := by
        rcases b.2.2.2.2 with hq | hq <;> rw [hq]
        · exact ⟨rfl, n1⟩
        · exact ⟨rfl, n2⟩
      obtain ⟨i1, i2, i3⟩ := ints_good (ns := (List.range (q.2.1 - q.1).toNat).map fun k => q.1 + ((k : Nat) : Int)) fun x hx => by
        obtain ⟨k, hk, rfl⟩ := List.mem_map.mp hx
        have := List.mem_range.mp hk
        omega
      rw [List.length_map, List.length_range] at i3
      have ev : rngV q.1 (q.2.1 - q.1).toNat = ((List.range (q.2.1 - q.1).toNat).map fun k => q.1 + ((k : Nat) : Int)).map V.int := by rw [List.map_map]; rfl
      have sh3 : ∀ {H l tu lr}, H l = some (.lst [.ref tu, .ref lr, .str (nmA w' (if q.2.2 = 0 then q.1.toNat else q.2.1.toNat))]) → H tu = some (.tup [.str (nmA w' q.1.toNat), .str (nmA w' q.2.1.toNat)]) → H lr = some (.lst (rngV q.1 (q.2.1 - q.1).toNat)) → Sh K H (.ref l) (.list [.tuple [.str (nmA w' q.1.toNat), .str (nmA w' q.2.1.toNat)], .list (((List.range (q.2.1 - q.1).toNat).map fun k => q.1 + ((k : Nat) : Int)).map PyData.int), .str (nmA w' (if q.2.2 = 0 then q.1.toNat else q.2.1.toNat))]) := fun e e' e'' => by
        rw [ev] at e''
        exact sh_lst e (.cons (.tup (SqT.of e') (.cons (.str _) (.cons (.str _) .nil))) (.cons (.lst (Or.inl e'') (ints_dn _)) (.cons (.str _) .nil))) ⟨⟨⟨s1.1, s2.1, trivial⟩, i1, s3.1, trivial⟩, by
          simp only [PyData.depthAll, PyData.depth]
          omega, by
          have := s1.2
          have := s2.2
          have := s3.2
          simp only [szA, sz] at *
          omega⟩
      walk_at "u"
      refine s_ixl (by walk_at "g") n1 ?_
      walk_at "u"
      refine s_ixl (by walk_at "g") n2 ?_
      walk_at "u"
      walk_at "na"
      intro t7 H7 f7 e7 k7
      walk_at "u"
      refine s_rngN fun r8 H8 f8 e8 k8 => ?_
      walk_at "u"
      refine s_listR e8 (by omega) fun l9 H9 f9 e9 k9 => ?_
      walk_at "u"
      walk_at "na"
      intro l10 H10 f10 e10 k10
      walk_at "u"
      refine s_ixl e10 hq ?_
      refine s_ixl (by walk_at "g") n3 ?_
      walk_at "u"
      walk_at "na"
      intro l11 H11 f11 e11 k11
      walk_at "u"
      refine c_long_ends (by walk_at "g") eq fun t12 H12 f12 e12 k12 => ?_
      walk_at "u"
      refine c_long_stretches (by walk_at "g") eq fun l13 H13 f13 e13 k13 => ?_
      walk_at "u"
      refine c_long_home (by walk_at "g") eq fun H14 k14 => ?_
      walk_at "u"
      walk_at "na"
      intro l15 H15 f15 e15 k15
      walk_at "u"
      refine s_rep (sh3 e15 (by walk_at "gt") (by walk_at "g")) ?_
      walk_at "u"
      refine s_rep (sh3 (by walk_at "g") (by walk_at "gt") (by walk_at "g")) ?_
      walk_at "u"
      rw [decide_eq_true rfl]
      walk_at "u"
      exact ⟨by walk_at "k", _, _, _, _, _, _, _, _, _, _, _, rfl⟩
    · rintro σ H5 ⟨k5, u3, u4, u5, u6, u7, u8, u9, u10, u11, u12, u13, rfl⟩
      walk_at "u"
      exact k _ (by walk_at "k")

theorem ints_sh {H : Hp} {l : Addr} {ns : List Int} (e : H l = some (.lst (ns.map V.int))) (h : ∀ n ∈ ns, 0 ≤ n ∧ n ≤ 1000) (hl : ns.length ≤ 1000) : Sh K H (.ref l) (.list (ns.map PyData.int)) := by
  obtain ⟨a1, a2, a3⟩ := ints_good h
  exact sh_lst e (ints_dn _) ⟨a1, by omega, by omega⟩
theorem strs_good : ∀ {zs : List Str}, (∀ z ∈ zs, SS z 20) → goodA (zs.map PyData.str) ∧ PyData.depthAll (zs.map PyData.str) ≤ 1 ∧ szA (zs.map PyData.str) ≤ 204 * zs.length
  | [], _ => ⟨trivial, by simp [PyData.depthAll], by simp [szA]⟩
  | z :: zs, h => by
    obtain ⟨b1, b2⟩ := ss_bd (h z (by simp))
    obtain ⟨a1, a2, a3⟩ := strs_good (zs := zs) fun x hx => h x (by simp [hx])
    exact ⟨⟨b1, a1⟩, by simp only [List.map_cons, PyData.depthAll, PyData.depth]; omega, by simp only [List.map_cons, szA, List.length_cons]; omega⟩
def rE (lo : Lo) : List (List V) := lo.map fun q => [V.int q.1, V.int q.2.1]
def dE (q : Int × Int × Int) : PyData := .tuple [.int q.1, .int q.2.1]
theorem rE_dn {H : Hp} : ∀ {lo : Lo} {vs : List V}, Rw H vs (rE lo) → DnA K H vs (lo.map dE)
  | [], _, .nil => .nil
  | q :: lo, _, .cons e r => .cons (.tup (SqT.of e) (.cons (.int _) (.cons (.int _) .nil))) (rE_dn r)
theorem lay_E : ∀ lo : Lo, PyData.canLayAll0 (lo.map dE) = true ∧ PyData.depthAll (lo.map dE) ≤ 2
  | [] => ⟨rfl, by simp [PyData.depthAll]⟩
  | q :: lo => by
    obtain ⟨h1, h2⟩ := lay_E lo
    refine ⟨?_, ?_⟩
    · simp only [List.map_cons, PyData.canLayAll0, dE, PyData.canLay0, h1, Bool.and_true]
    · simp only [List.map_cons, PyData.depthAll, PyData.depth, dE]
      omega
theorem shp_E (lo : Lo) : SeqAt.shaped (.list (lo.map dE)) = true := by
  obtain ⟨h1, h2⟩ := lay_E lo
  unfold SeqAt.shaped
  rw [Bool.and_eq_true]
  refine ⟨by simpa only [PyData.canLay0] using h1, decide_eq_true ?_⟩
  simp only [PyData.depth]
  omega
theorem lb_eqv {lo : Lo} {a b : Int} {j : Nat} {q : Int × Int × Int} (e : lo[j]? = some q) : PyData.eqv (dE q) (.tuple [.int a, .int b]) = lbP lo a b j := by
  unfold lbP dE
  rw [e, eqv2]
theorem any_lb {lo : Lo} {a b : Int} : ((lo.map dE).any fun z => PyData.eqv z (.tuple [.int a, .int b])) = ((List.range lo.length).find? (lbP lo a b)).isSome := by
  rw [Bool.eq_iff_iff, List.any_eq_true, List.find?_isSome]
  constructor
  · rintro ⟨z, hz, e⟩
    obtain ⟨q, hq, rfl⟩ := List.mem_map.mp hz
    obtain ⟨j, hj⟩ := List.getElem?_of_mem hq
    exact ⟨j, List.mem_range.mpr (List.getElem?_eq_some_iff.mp hj).1, by rw [← lb_eqv hj]; exact e⟩
  · rintro ⟨j, hj, e⟩
    have hj := List.mem_range.mp hj
    have ej := List.getElem?_eq_getElem hj
    exact ⟨dE lo[j], List.mem_map.mpr ⟨_, List.getElem_mem _, rfl⟩, by rw [lb_eqv ej]; exact e⟩
theorem rng0 (n : Nat) : rngV 0 n = ((List.range n).map fun k => ((k : Nat) : Int)).map V.int := by
  unfold rngV
  rw [List.map_map]
  simp
def sp_law_asked_right (T : Tx K mg) : Sp := sp2 fun x y H Q _ => ∃ (p t : Addr) (w : Wo), x = .ref p ∧ y = .ref t ∧ Ln T H p w ∧ Wd H t w ∧ ∀ H', Kp [] H H' → Q (.bl true) H'
set_option maxHeartbeats 16000000 in
theorem ok_law_asked_right (T : Tx K mg) (hs : ∃ mm, base.Ns sysModules mm) : FnG P w K mg base (L2.CX P w) 7 T.a_law_asked_right T.d_law_asked_right ["_law_line", "_law_world_here"] (sp_law_asked_right T) := by
  have G_law_stretches_asked_right := ok_law_stretches_asked_right (P := P) (w := w) (base := base) T hs
  have G_Line_roads := ok_Line_roads (P := P) (w := w) (base := base) T
  have G_Line_names := ok_Line_names (P := P) (w := w) (base := base) T
  have G_Line_number_of := ok_Line_number_of (P := P) (w := w) (base := base) T
  have G_Line_between := ok_Line_between (P := P) (w := w) (base := base) T
  have G_Line_long_between := ok_Line_long_between (P := P) (w := w) (base := base) T
  refine okG T.F_law_asked_right sc_law_asked_right (fun vs H Q E h => ?_) (fun cd A o s H vs Q E hg hr h => ?_)
  · obtain ⟨v0, v1, rfl, h⟩ := h; rfl
  obtain ⟨v0, v1, rfl, h⟩ := h
  obtain ⟨p, t, w', rfl, rfl, hL, hW, k⟩ := h
  refine ⟨_, (pss_cons (ps_setLc (i := 2) (own := [("_law_name", 10), ("_law_roads", 11)]) rfl sc_law_asked_right.nd rfl rfl (sw_true rfl rfl rfl (by decide +kernel)) (pi_lst (K := K) rfl (pe_ix (ix_u (K := K) rfl) (pv 1) pe_int (fun _ _ => rfl))) (blkOk_by (own := [("_law_name", 10), ("_law_roads", 11)]) (N := N_law_asked_right) (sc := defScope s_law_asked_right) (by decide +kernel)) (fun _ _ _ _ _ => (pg_tupK (K := K) (n := 2) rfl rfl (pgs_cons (pg_name (i := 10) sc_law_asked_right.nd rfl (Or.inl rfl)) (pgs_cons (pg_name (i := 11) sc_law_asked_right.nd rfl (Or.inl rfl)) pgs_nil)))) (fun _ _ _ _ _ => pts_nil) (fun _ _ _ _ _ => (pv 10)))
    (pss_cons (ps_if (pt_cmpR (o_ne (K := K) rfl hr) (pe_callB (c_repr (K := K) rfl hg hr hs) rfl T.z_repr bt_repr (pa_cons (pe_lc (own := [("_law_name", 10)]) rfl sc_law_asked_right.nd (pi_lst (K := K) rfl (pv 2)) (blkOk_by (own := [("_law_name", 10)]) (N := N_law_asked_right) (sc := defScope s_law_asked_right) (by decide +kernel)) (fun _ _ _ _ _ => (pg_name (i := 10) sc_law_asked_right.nd rfl (Or.inl rfl))) (fun _ _ _ _ _ => pts_nil) (fun _ _ _ _ _ => (pe_mo T.cl_Line T.M_Line_roads G_Line_roads (hr.mono (by decide)) T.B_Line_roads takes0 (pv 0) (pa_cons (pv 10) pa_nil)))) pa_nil)) (pe_callB (c_repr (K := K) rfl hg hr hs) rfl T.z_repr bt_repr (pa_cons (pe_lc (own := [("_law_name", 10), ("_law_roads", 11)]) rfl sc_law_asked_right.nd (pi_lst (K := K) rfl (pe_ix (ix_u (K := K) rfl) (pv 1) pe_int (fun _ _ => rfl))) (blkOk_by (own := [("_law_name", 10), ("_law_roads", 11)]) (N := N_law_asked_right) (sc := defScope s_law_asked_right) (by decide +kernel)) (fun _ _ _ _ _ => (pg_tupK (K := K) (n := 2) rfl rfl (pgs_cons (pg_name (i := 10) sc_law_asked_right.nd rfl (Or.inl rfl)) (pgs_cons (pg_name (i := 11) sc_law_asked_right.nd rfl (Or.inl rfl)) pgs_nil)))) (fun _ _ _ _ _ => pts_nil) (fun _ _ _ _ _ => (pv 11))) pa_nil)) (nomark _))
    (pss_one (ps_ret pe_bl))
    pss_nil)
    (pss_cons (ps_if (pt_cmpR (o_ne (K := K) rfl hr) (pe_callB (c_repr (K := K) rfl hg hr hs) rfl T.z_repr bt_repr (pa_cons (pe_lst (pa_cons (pe_mo0 T.cl_Line T.M_Line_names G_Line_names (hr.mono (by decide)) T.B_Line_names (takes_of (E := E) rfl rfl rfl rfl) (pv 0)) (pa_cons (pe_lc (own := [("_law_name", 10)]) rfl sc_law_asked_right.nd (pi_lst (K := K) rfl (pv 2)) (blkOk_by (own := [("_law_name", 10)]) (N := N_law_asked_right) (sc := defScope s_law_asked_right) (by decide +kernel)) (fun _ _ _ _ _ => (pg_name (i := 10) sc_law_asked_right.nd rfl (Or.inl rfl))) (fun _ _ _ _ _ => pts_nil) (fun _ _ _ _ _ => (pe_mo T.cl_Line T.M_Line_number_of G_Line_number_of (hr.mono (by decide)) T.B_Line_number_of takes0 (pv 0) (pa_cons (pv 10) pa_nil)))) pa_nil))) pa_nil)) (pe_callB (c_repr (K := K) rfl hg hr hs) rfl T.z_repr bt_repr (pa_cons (pe_lst (pa_cons (pv 2) (pa_cons (pe_callTy (c_listR rfl) rfl T.z_list bt_list (pa_cons (pe_callTy c_range1 rfl T.z_range bt_range (pa_cons (pe_callB (c_len (K := K) rfl) rfl T.z_len bt_len (pa_cons (pv 2) pa_nil)) pa_nil)) pa_nil)) pa_nil))) pa_nil)) (nomark _))
    (pss_one (ps_ret pe_bl))
    pss_nil)
    (pss_cons (ps_setLc (i := 3) (own := [("_law_low", 12), ("_law_high", 13), ("_law_home", 14)]) rfl sc_law_asked_right.nd rfl rfl (sw_true rfl rfl rfl (by decide +kernel)) (pi_lst (K := K) rfl (pe_ix (ix_u (K := K) rfl) (pv 1) pe_int (fun _ _ => rfl))) (blkOk_by (own := [("_law_low", 12), ("_law_high", 13), ("_law_home", 14)]) (N := N_law_asked_right) (sc := defScope s_law_asked_right) (by decide +kernel)) (fun _ _ _ _ _ => (pg_tupK (K := K) (n := 3) rfl rfl (pgs_cons (pg_name (i := 12) sc_law_asked_right.nd rfl (Or.inl rfl)) (pgs_cons (pg_name (i := 13) sc_law_asked_right.nd rfl (Or.inl rfl)) (pgs_cons (pg_name (i := 14) sc_law_asked_right.nd rfl (Or.inl rfl)) pgs_nil))))) (fun _ _ _ _ _ => pts_nil) (fun _ _ _ _ _ => (pe_tup (pa_cons (pv 12) (pa_cons (pv 13) pa_nil)))))
    (pss_cons (ps_for PassesOwn.leaving rfl (pi_enumL (K := K) rfl rfl T.z_enumerate (pa_cons (pv 2) pa_nil)) (pg_tupK (K := K) (n := 2) rfl rfl (pgs_cons (pg_name (i := 4) sc_law_asked_right.nd rfl (Or.inl rfl)) (pgs_cons (pg_name (i := 5) sc_law_asked_right.nd rfl (Or.inl rfl)) pgs_nil)))
    (pss_one (ps_for PassesOwn.leaving rfl (pi_enumL (K := K) rfl rfl T.z_enumerate (pa_cons (pv 2) pa_nil)) (pg_tupK (K := K) (n := 2) rfl rfl (pgs_cons (pg_name (i := 6) sc_law_asked_right.nd rfl (Or.inl rfl)) (pgs_cons (pg_name (i := 7) sc_law_asked_right.nd rfl (Or.inl rfl)) pgs_nil)))
    (pss_cons (ps_set (i := 8) sc_law_asked_right.nd rfl (Or.inl rfl) (pe_tup (pa_cons (pe_callB (c_min rfl) rfl T.z_min bt_min (pa_cons (pv 4) (pa_cons (pv 6) pa_nil))) (pa_cons (pe_callB (c_max rfl) rfl T.z_max bt_max (pa_cons (pv 4) (pa_cons (pv 6) pa_nil))) pa_nil))))
    (pss_cons (ps_set (i := 9) sc_law_asked_right.nd rfl (Or.inl rfl) (pe_lst (pa_cons (pe_ifExp (pt_cmpR (o_eq (K := K) rfl hr) (pe_op (o_add (K := K) rfl) (pe_ix (ix_u (K := K) rfl) (pv 8) pe_int (fun _ _ => rfl)) pe_int) (pe_ix (ix_u (K := K) rfl) (pv 8) pe_int (fun _ _ => rfl)) (nomark _)) (pe_ix (ix_u (K := K) rfl) (pv 8) pe_int (fun _ _ => rfl)) pe_non) (pa_cons (pe_ifExp (pt_cmpR (o_inX (K := K) rfl hr) (pv 8) (pv 3) rfl) (pe_bm PySem.F.plainAttrs_list PySem.F.slot_list_index PySem.F.type_list_index (mt_ixD (K := K) rfl hr) (pv 3) (pa_cons (pv 8) pa_nil)) pe_non) pa_nil))))
    (pss_one (ps_if (pt_cmpR (o_ne (K := K) rfl hr) (pe_callB (c_repr (K := K) rfl hg hr hs) rfl T.z_repr bt_repr (pa_cons (pe_lst (pa_cons (pe_mo T.cl_Line T.M_Line_between G_Line_between (hr.mono (by decide)) T.B_Line_between (takes_of (E := E) rfl rfl rfl rfl) (pv 0) (pa_cons (pv 5) (pa_cons (pv 7) pa_nil))) (pa_cons (pe_mo T.cl_Line T.M_Line_long_between G_Line_long_between (hr.mono (by decide)) T.B_Line_long_between (takes_of (E := E) rfl rfl rfl rfl) (pv 0) (pa_cons (pv 5) (pa_cons (pv 7) pa_nil))) pa_nil))) pa_nil)) (pe_callB (c_repr (K := K) rfl hg hr hs) rfl T.z_repr bt_repr (pa_cons (pv 9) pa_nil)) (nomark _))
    (pss_one (ps_ret pe_bl))
    pss_nil)))))))
    (pss_one (ps_ret (pe_cg G_law_stretches_asked_right hg (hr.mono (by decide)) rfl T.m_law_stretches_asked_right T.F_law_stretches_asked_right.kp T.B_law_stretches_asked_right (takes_of (E := E) rfl rfl rfl rfl) (pa_cons (pv 0) (pa_cons (pv 1) pa_nil)))))))))), ?_⟩
  rw [st_law_asked_right]
  obtain ⟨a1, a2, a3, vp, vs, vl, z, e0, e1, e2, e3, r1, r2, r3⟩ := hW.ex
  obtain ⟨tp, ts, tl, vp', vs', vl', at', _⟩ := hL.ex
  obtain ⟨ls, l2, l6⟩ := hL.lens
  have gW := hL.ok
  have lp : vp.length = w'.pl.length := by rw [r1.len]; simp [rP]
  have lL : vl.length = w'.lo.length := by rw [r3.len]; simp [rL]
  have ln : (nms w').length = w'.pl.length := by simp [nms]
  have hl2 := hL.ok.l2
  walk_at "u"
  refine s_ilst (SqL.of e1) ?_
  intro D hD
  refine lc_L e1 hD (fun i acc H' => Kp [D] H H' ∧ acc = ((nms w').take i).map V.str) (fun H1 e4 k1 => ⟨by walk_at "k", rfl⟩) (fun i acc H' p o e => p.1.get1 e (by walk_at "ne")) ?_ ?_
  · rintro i x acc H' ex ea ⟨k1, rfl⟩
    obtain ⟨u, r, rfl, er, eu⟩ := r1.at ex
    obtain ⟨q, eq, rfl⟩ := rP_at er
    have hi := (List.getElem?_eq_some_iff.mp eq).1
    walk_at "u"
    refine ⟨rfl, ?_⟩
    walk_at "u"
    refine PvD.add ea (by simp [nms]; omega) fun H2 e2 k2 => ⟨by walk_at "k", ?_⟩
    rw [take_one (x := q.1) (by simp [nms, eq]), List.map_append]
    rfl
  rintro acc H1 ea ⟨k1, rfl⟩
  rw [List.take_of_length_le (by simp [nms]; omega)] at ea
  have rd : ∀ n ∈ w'.pl.map (·.2), 0 ≤ n ∧ n ≤ 1000 := fun n hn => by
    obtain ⟨q, hq, rfl⟩ := List.mem_map.mp hn
    have := gW.p.rd q hq
    omega
  walk_at "u"
  refine s_ilst (SqL.of ea) ?_
  intro D2 hD2
  refine lc_L ea hD2 (fun i acc H' => Kp [D2] H1 H' ∧ acc = ((w'.pl.map (·.2)).take i).map V.int) (fun H2 e4 k2 => ⟨by walk_at "k", rfl⟩) (fun i acc H' p o e => p.1.get1 e (by walk_at "ne")) ?_ ?_
  · rintro i x acc H2 ex ea2 ⟨k2, rfl⟩
    rw [List.getElem?_map] at ex
    obtain ⟨zz, ez, rfl⟩ := Option.map_eq_some_iff.mp ex
    obtain ⟨q, eq, rfl⟩ := nms_at ez
    have hi := (List.getElem?_eq_some_iff.mp eq).1
    walk_at "u"
    refine ⟨rfl, ?_⟩
    walk_at "u"
    refine c_roads (by walk_at "g") eq fun H3 k3 => ?_
    refine PvD.add (acc := ((w'.pl.map (·.2)).take i).map V.int) (by walk_at "g") (by simp; omega) fun H4 e4 k4 => ⟨by walk_at "k", ?_⟩
    rw [take_one (x := q.2) (by simp [eq]), List.map_append]
    rfl
  rintro acc H2 ea2 ⟨k2, rfl⟩
  rw [List.take_of_length_le (by simp; omega)] at ea2
  walk_at "u"
  refine s_rep (ints_sh ea2 rd (by simp; omega)) ?_
  walk_at "u"
  refine s_ilst (SqL.of (xs := vp) (by walk_at "g")) ?_
  intro D3 hD3
  refine lc_L (vs := vp) (by walk_at "g") hD3 (fun i acc H' => Kp [D3] H2 H' ∧ acc = ((w'.pl.map (·.2)).take i).map V.int) (fun H3 e4 k3 => ⟨by walk_at "k", rfl⟩) (fun i acc H' p o e => p.1.get1 e (by walk_at "ne")) ?_ ?_
  · rintro i x acc H3 ex ea3 ⟨k3, rfl⟩
    obtain ⟨u, r, rfl, er, eu⟩ := r1.at ex
    obtain ⟨q, eq, rfl⟩ := rP_at er
    have hi := (List.getElem?_eq_some_iff.mp eq).1
    walk_at "u"
    refine ⟨rfl, ?_⟩
    walk_at "u"
    refine PvD.add ea3 (by simp; omega) fun H4 e4 k4 => ⟨by walk_at "k", ?_⟩
    rw [take_one (x := q.2) (by simp [eq]), List.map_append]
    rfl
  rintro acc H3 ea3 ⟨k3, rfl⟩
  rw [List.take_of_length_le (by simp; omega)] at ea3
  walk_at "u"
  refine s_rep (ints_sh ea3 rd (by simp; omega)) ?_
  walk_at "u"
  rw [decide_eq_true rfl]
  walk_at "u"
  refine ⟨_, rfl, p, w', rfl, by walk_at "g", fun ln4 H4 f4 e4 k4 => ?_⟩
  walk_at "u"
  refine s_ilst (SqL.of (xs := (nms w').map V.str) (by walk_at "g")) ?_
  intro D5 hD5
  refine lc_L (vs := (nms w').map V.str) (by walk_at "g") hD5 (fun i acc H' => Kp [D5] H4 H' ∧ acc = ((List.range i).map fun k => ((k : Nat) : Int)).map V.int) (fun H5 e5 k5 => ⟨by walk_at "k", rfl⟩) (fun i acc H' p o e => p.1.get1 e (by walk_at "ne")) ?_ ?_
  · rintro i x acc H5 ex ea5 ⟨k5, rfl⟩
    rw [List.getElem?_map] at ex
    obtain ⟨zz, ez, rfl⟩ := Option.map_eq_some_iff.mp ex
    have hi := (List.getElem?_eq_some_iff.mp ez).1
    walk_at "u"
    refine ⟨rfl, ?_⟩
    walk_at "u"
    refine c_number_of (by walk_at "g") ez fun H6 k6 => ?_
    refine PvD.add (acc := ((List.range i).map fun k => ((k : Nat) : Int)).map V.int) (by walk_at "g") (by simp; omega) fun H7 e7 k7 => ⟨by walk_at "k", ?_⟩
    rw [range_snoc, List.map_append]
    rfl
  rintro acc H5 ea5 ⟨k5, rfl⟩
  rw [List.length_map, ln] at ea5
  walk_at "u"
  walk_at "na"
  intro l6' H6 f6 e6 k6
  obtain ⟨g1, g2, g3⟩ := strs_good (zs := nms w') fun z hz => (nms_ss gW hz).2
  obtain ⟨i1, i2, i3⟩ := ints_good (ns := (List.range w'.pl.length).map fun k => ((k : Nat) : Int)) fun x hx => by
    obtain ⟨k, hk, rfl⟩ := List.mem_map.mp hx
    have := List.mem_range.mp hk
    omega
  rw [List.length_map, List.length_range] at i3
  have sh2 : ∀ {H l la lb}, H l = some (.lst [.ref la, .ref lb]) → H la = some (.lst ((nms w').map V.str)) → H lb = some (.lst (((List.range w'.pl.length).map fun k => ((k : Nat) : Int)).map V.int)) → Sh K H (.ref l) (.list [.list ((nms w').map PyData.str), .list (((List.range w'.pl.length).map fun k => ((k : Nat) : Int)).map PyData.int)]) := fun e e' e'' =>
    sh_lst e (.cons (.lst (Or.inl e') (strs_dn _)) (.cons (.lst (Or.inl e'') (ints_dn _)) .nil)) ⟨⟨g1, i1, trivial⟩, by
      simp only [PyData.depthAll, PyData.depth]
      omega, by
      simp only [szA, sz]
      omega⟩
  walk_at "u"
  refine s_rep (sh2 e6 (by walk_at "g") (by walk_at "g")) ?_
  walk_at "u"
  refine s_lenl (xs := (nms w').map V.str) (by walk_at "g") ?_
  rw [List.length_map, ln]
  walk_at "u"
  refine s_rngN1 fun r7 H7 f7 e7 k7 => ?_
  walk_at "u"
  refine s_listR e7 (by omega) fun l8 H8 f8 e8 k8 => ?_
  rw [show ((w'.pl.length : Int) - 0).toNat = w'.pl.length by omega, rng0] at e8
  walk_at "u"
  walk_at "na"
  intro l9 H9 f9 e9 k9
  walk_at "u"
  refine s_rep (sh2 e9 (by walk_at "g") (by walk_at "g")) ?_
  walk_at "u"
  rw [decide_eq_true rfl]
  walk_at "u"
  refine s_ilst (SqL.of (xs := vl) (by walk_at "g")) ?_
  intro De hDe
  refine lc_L (vs := vl) (by walk_at "g") hDe (fun i acc H' => Kp [De] H9 H' ∧ acc.length = i ∧ Rw H' acc (rE (w'.lo.take i))) (fun H10 e10 k10 => ⟨by walk_at "k", rfl, .nil⟩) (fun i acc H' p o e => p.1.get1 e (by walk_at "ne")) ?_ ?_
  · rintro i x acc H10 ex ea10 ⟨k10, la, R⟩
    obtain ⟨u, r, rfl, er, eu⟩ := r3.at ex
    obtain ⟨q, eq, rfl⟩ := rL_at er
    have hi := (List.getElem?_eq_some_iff.mp eq).1
    walk_at "u"
    refine ⟨rfl, ?_⟩
    walk_at "u"
    walk_at "na"
    intro t11 H11 f11 e11 k11
    refine PvD.add (acc := acc) (by walk_at "g") (by omega) fun H12 e12 k12 => ⟨by walk_at "k", by simp [la], ?_⟩
    rw [take_one eq]
    unfold rE
    rw [List.map_append]
    exact ((R.kp k11).kp k12).app (.one (k12.tgt e11))
  rintro acc H10 eE ⟨k10, _, R10⟩
  rw [lL, List.take_of_length_le (Nat.le_refl _)] at R10
  have z10 : Kz [] H H10 := ⟨by walk_at "k"⟩
  have en : H10 D = some (.lst ((nms w').map V.str)) := by walk_at "g"
  have L10 : Ln T H10 p w' := by walk_at "g"
  clear k10 k9 k8 k7 k6 k5 k4 k3 k2 k1 e9 e8 e7 e6 ea5 e4 ea3 ea2 ea f9 f8 f7 f6 f4 hD hD2 hD3 hD5 hDe at' hL e0 e1 e2 e3
  obtain ⟨z10⟩ := z10
  obtain ⟨tp, ts, tl, vp', vs', vl', at', _⟩ := L10.ex
  walk_at "u"
  refine for_eL en (fun i σ H' => Kp [] H10 H' ∧ ∃ u4 u5 u6 u7 u8 u9 u10 u11 u12 u13 u14, σ = [some (.ref p), some (.ref t), some (.ref D), some (.ref De), u4, u5, u6, u7, u8, u9, u10, u11, u12, u13, u14]) ⟨Kp.refl, _, _, _, _, _, _, _, _, _, _, _, rfl⟩ (fun i σ' H' p o e => p.1.get0 e) ?_ ?_
  · rintro i x σ H11 T1 H12 ex ⟨k11, u4, u5, u6, u7, u8, u9, u10, u11, u12, u13, u14, rfl⟩ f12 eT k12
    rw [List.getElem?_map] at ex
    obtain ⟨a, ea, rfl⟩ := Option.map_eq_some_iff.mp ex
    have hi := (List.getElem?_eq_some_iff.mp ea).1
    walk_at "u"
    refine for_eL (vs := (nms w').map V.str) (by walk_at "g") (fun j σ H' => Kp [] H12 H' ∧ ∃ u6 u7 u8 u9 u10 u11 u12 u13 u14, σ = [some (.ref p), some (.ref t), some (.ref D), some (.ref De), some (.int (i : Nat)), some (.str a), u6, u7, u8, u9, u10, u11, u12, u13, u14]) ⟨Kp.refl, _, _, _, _, _, _, _, _, _, rfl⟩ (fun i σ' H' p o e => p.1.get0 e) ?_ ?_
    · rintro j x σ H13 T2 H14 ex2 ⟨k13, u6, u7, u8, u9, u10, u11, u12, u13, u14, rfl⟩ f14 eT2 k14
      rw [List.getElem?_map] at ex2
      obtain ⟨b, eb, rfl⟩ := Option.map_eq_some_iff.mp ex2
      have hj := (List.getElem?_eq_some_iff.mp eb).1
      have em : (if (j : Int) < (i : Int) then (j : Int) else (i : Int)) = ((min i j : Nat) : Int) := by split <;> omega
      have ex' : (if (j : Int) > (i : Int) then (j : Int) else (i : Int)) = ((max i j : Nat) : Int) := by split <;> omega
      walk_at "u"
      rw [em, ex']
      walk_at "na"
      intro t15 H15 f15 e15 k15
      walk_at "s"
      refine s_seq (s_asg (s_lst (s_cons (jE (fun v H' => H15 = H' ∧ v = btw i j) (fun v H' => ?_) (fun _ key => ?_)))))
      rotate_left
      · walk_at "u"
        unfold btw at key
        refine s_ite (fun h => ?_) (fun h => ?_)
        · walk_at "u"
          exact key _ _ ⟨rfl, by rw [if_pos (by omega)]⟩
        · walk_at "u"
          exact key _ _ ⟨rfl, by rw [if_neg (by omega)]⟩
      rintro ⟨rfl, rfl⟩
      refine s_cons (jE (fun v H' => H15 = H' ∧ v = lbV w'.lo (min i j : Nat) (max i j : Nat)) (fun v H' => ?_) (fun _ key => ?_))
      rotate_left
      · have z15 : Kz [] H10 H15 := ⟨by walk_at "k"⟩
        have dl : Dn K H15 (.ref De) (.list (w'.lo.map dE)) := .lst (Or.inl (by walk_at "g")) (rE_dn (R10.kp z15.k))
        have dp := dn2 (K := K) e15
        walk_at "u"
        refine s_inD dl dp (shp_E _) shp2 ?_
        rw [any_lb]
        cases ef : (List.range w'.lo.length).find? (lbP w'.lo (min i j : Nat) (max i j : Nat)) with
        | none =>
          walk_at "u"
          exact key _ _ ⟨rfl, by unfold lbV; rw [ef]; rfl⟩
        | some m =>
          obtain ⟨m1, m2, m3⟩ := List.find?_range_eq_some.mp ef
          have m2 : m < w'.lo.length := by simpa using m2
          walk_at "u"
          refine s_ixD dl dp (shp_E _) shp2 (j := m) (by rw [List.getElem?_map, List.getElem?_eq_getElem m2]; rfl) (by rw [lb_eqv (List.getElem?_eq_getElem m2)]; exact m1) (fun m' z' hm' ez => ?_) ?_
          · rw [List.getElem?_map, List.getElem?_eq_getElem (show m' < w'.lo.length by omega)] at ez
            cases ez
            rw [lb_eqv (List.getElem?_eq_getElem (show m' < w'.lo.length by omega))]
            simpa using m3 m' hm'
          · walk_at "u"
            exact key _ _ ⟨rfl, by unfold lbV; rw [ef]; rfl⟩
      rintro ⟨rfl, rfl⟩
      have hb : ∀ H, Dn K H (btw i j) (nv (if i + 1 = j ∨ j + 1 = i then some (min i j) else none)) := fun H => by
        unfold btw
        by_cases c : i + 1 = j ∨ j + 1 = i
        · rw [if_pos c, if_pos c]; exact optV_dn (o := some (min i j))
        · rw [if_neg c, if_neg c]; exact optV_dn (o := none)
      have b1 := nv_bd (o := if i + 1 = j ∨ j + 1 = i then some (min i j) else none) fun j' e => by
        split at e
        · cases e; omega
        · cases e
      have b2 := nv_bd (o := (List.range w'.lo.length).find? (lbP w'.lo (min i j : Nat) (max i j : Nat))) fun j' e => lo_find gW e
      have shd : ∀ {H l}, H l = some (.lst [btw i j, lbV w'.lo (min i j : Nat) (max i j : Nat)]) → Sh K H (.ref l) (.list [nv (if i + 1 = j ∨ j + 1 = i then some (min i j) else none), nv ((List.range w'.lo.length).find? (lbP w'.lo (min i j : Nat) (max i j : Nat)))]) := fun e =>
        sh_lst e (.cons (hb _) (.cons optV_dn .nil)) ⟨⟨b1.1, b2.1, trivial⟩, by
          have := b1.2.1
          have := b2.2.1
          simp only [PyData.depthAll]
          omega, by
          have := b1.2.2
          have := b2.2.2
          simp only [szA]
          omega⟩
      walk_at "u"
      walk_at "na"
      intro l16 H16 f16 e16 k16
      walk_at "u"
      refine c_btw (f := fun _ i j => btw i j) (by walk_at "g") ea eb fun H17 k17 => ?_
      walk_at "u"
      refine c_btw (f := fun w i j => lbV w.lo (min i j : Nat) (max i j : Nat)) (by walk_at "g") ea eb fun H18 k18 => ?_
      walk_at "u"
      walk_at "na"
      intro l19 H19 f19 e19 k19
      walk_at "u"
      refine s_rep (shd e19) ?_
      walk_at "u"
      refine s_rep (shd (by walk_at "g")) ?_
      walk_at "u"
      rw [decide_eq_true rfl]
      walk_at "u"
      exact ⟨by walk_at "k", _, _, _, _, _, _, _, _, _, rfl⟩
    · rintro σ H13 ⟨k13, u6, u7, u8, u9, u10, u11, u12, u13, u14, rfl⟩
      walk_at "u"
      exact ⟨by walk_at "k", _, _, _, _, _, _, _, _, _, _, _, rfl⟩
  · rintro σ H11 ⟨k11, u4, u5, u6, u7, u8, u9, u10, u11, u12, u13, u14, rfl⟩
    walk_at "u"
    refine ⟨_, _, rfl, p, t, w', rfl, rfl, by walk_at "g", hW.kp (z10.trans k11), fun H12 k12 => ?_⟩
    exact k _ ((z10.trans k11).trans k12)

def sp_law_right (T : Tx K mg) : Sp := sp2 fun x y H Q _ => ∃ (p t : Addr) (w : Wo), x = .ref p ∧ y = .ref t ∧ Ln T H p w ∧ Wd H t w ∧ ∀ H', Kp [] H H' → Q (.bl true) H'
set_option maxHeartbeats 16000000 in
theorem ok_law_right (T : Tx K mg) (hs : ∃ mm, base.Ns sysModules mm) : FnG P w K mg base (L2.CX P w) 8 T.a_law_right T.d_law_right ["_law_line", "_law_world_here"] (sp_law_right T) := by
  have G_read_line := ok_read_line (P := P) (w := w) (base := base) T
  have G_law_rows := ok_law_rows (P := P) (w := w) (base := base) T
  have G_show_line := ok_show_line (P := P) (w := w) (base := base) T
  have G_law_asked_right := ok_law_asked_right (P := P) (w := w) (base := base) T hs
  have G_Line_told := ok_Line_told (P := P) (w := w) (base := base) T
  refine okG T.F_law_right sc_law_right (fun vs H Q E h => ?_) (fun cd A o s H vs Q E hg hr h => ?_)
  · obtain ⟨v0, v1, rfl, h⟩ := h; rfl
  obtain ⟨v0, v1, rfl, h⟩ := h
  obtain ⟨p, t, w', rfl, rfl, hL, hW, k⟩ := h
  refine ⟨_, (pss_cons (ps_set (i := 2) sc_law_right.nd rfl (Or.inl rfl) (pe_joinU (K := K) rfl pe_str (pe_co G_law_rows (hr.mono (by decide)) rfl T.m_law_rows T.F_law_rows.kp T.B_law_rows (takes_of (E := E) rfl rfl rfl rfl) (pa_cons (pv 1) pa_nil))))
    (pss_cons (ps_if (pt_cmpR (o_ne (K := K) rfl hr) (pe_co G_show_line (hr.mono (by decide)) rfl T.m_show_line T.F_show_line.kp T.B_show_line (takes_of (E := E) rfl rfl rfl rfl) (pa_cons (pv 0) pa_nil)) (pv 2) (nomark _))
    (pss_one (ps_ret pe_bl))
    pss_nil)
    (pss_cons (ps_set (i := 3) sc_law_right.nd rfl (Or.inl rfl) (pe_co G_read_line (hr.mono (by decide)) rfl T.m_read_line T.F_read_line.kp T.B_read_line (takes_of (E := E) rfl rfl rfl rfl) (pa_cons (pv 2) pa_nil)))
    (pss_cons (ps_set (i := 4) sc_law_right.nd rfl (Or.inl rfl) (pe_tup (pa_cons (pe_callTy (c_tuple (K := K) rfl) rfl T.z_tuple bt_tuple (pa_cons (pe_ix (ix_u (K := K) rfl) (pv 1) pe_int (fun _ _ => rfl)) pa_nil)) (pa_cons (pe_callTy (c_tuple (K := K) rfl) rfl T.z_tuple bt_tuple (pa_cons (pe_ix (ix_u (K := K) rfl) (pv 1) pe_int (fun _ _ => rfl)) pa_nil)) (pa_cons (pe_callTy (c_tuple (K := K) rfl) rfl T.z_tuple bt_tuple (pa_cons (pe_ix (ix_u (K := K) rfl) (pv 1) pe_int (fun _ _ => rfl)) pa_nil)) pa_nil)))))
    (pss_cons (ps_if (PW.pt (pw_or (pt_not (pt_val (pe_callB (c_isi (K := K) rfl) rfl T.z_isinstance bt_isinstance (pa_cons (pv 3) (pa_cons (pe_glob rfl T.m_Line (show RelV (V.ref T.C_Line) (Value.ref T.C_Line) from rfl)) pa_nil))))) (pw_or1 (pt_cmpR (o_ne (K := K) rfl hr) (pe_callB (c_repr (K := K) rfl hg hr hs) rfl T.z_repr bt_repr (pa_cons (pe_mo0 T.cl_Line T.M_Line_told G_Line_told (hr.mono (by decide)) T.B_Line_told (takes_of (E := E) rfl rfl rfl rfl) (pv 3)) pa_nil)) (pe_callB (c_repr (K := K) rfl hg hr hs) rfl T.z_repr bt_repr (pa_cons (pv 4) pa_nil)) (nomark _)))))
    (pss_one (ps_ret pe_bl))
    pss_nil)
    (pss_one (ps_ret (pe_and (pe_cg G_law_asked_right hg (hr.mono (by decide)) rfl T.m_law_asked_right T.F_law_asked_right.kp T.B_law_asked_right (takes_of (E := E) rfl rfl rfl rfl) (pa_cons (pv 3) (pa_cons (pv 1) pa_nil))) (pe_one (pe_cmpR (o_eq (K := K) rfl hr) (pe_co G_show_line (hr.mono (by decide)) rfl T.m_show_line T.F_show_line.kp T.B_show_line (takes_of (E := E) rfl rfl rfl rfl) (pa_cons (pv 3) pa_nil)) (pv 2) (nomark _))))))))))), ?_⟩
  rw [st_law_right]
  have gW := hL.ok
  have rl := ros_len gW
  obtain ⟨a1, a2, a3, vp, vs, vl, z, e0, e1, e2, e3, r1, r2, r3⟩ := hW.ex
  have sum : (((ros w').map (row w')).map (·.length)).sum ≤ 13 * 100 := by
    have : ∀ l : List Ro, (∀ r ∈ l, r ∈ ros w') → ((l.map (row w')).map (·.length)).sum ≤ l.length * 100 := by
      intro l
      induction l with
      | nil => intro _; simp
      | cons r l ih =>
        intro h
        have h1 := row_len (gr_of gW (h r List.mem_cons_self))
        have h2 := ih fun x hx => h x (List.mem_cons_of_mem _ hx)
        simp only [List.map_cons, List.sum_cons, List.length_cons]
        have : (row w' r).length ≤ 100 := h1
        omega
    have := this (ros w') fun _ h => h
    omega
  walk_at "u"
  refine ⟨_, rfl, t, w', rfl, hW, gW, fun l1 H1 f1 g1 k1 => ?_⟩
  walk_at "u"
  refine s_join (ys := (ros w').map (row w')) g1 ?_ ?_
  · have : ("\n" : Str).length = 1 := by decide +kernel
    rw [this, List.length_map]
    omega
  walk_at "u"
  refine ⟨_, rfl, p, w', rfl, by walk_at "g", fun H2 k2 => ?_⟩
  walk_at "u"
  rw [show txt w' = Txt.join "\n" ((ros w').map (row w')) from rfl, decide_eq_true rfl]
  walk_at "u"
  refine ⟨_, rfl, w', rfl, gW, fun q H3 f3 L3 k3 => ?_⟩
  obtain ⟨tp, ts, tl, vp', vs', vl', ⟨dx, at'⟩, _⟩ := L3.ex
  have at2 : At_Line T H3 q (.ref tp) (.ref ts) (.ref tl) := ⟨dx, at'⟩
  walk_at "u"
  refine s_tuple (SqL.of (xs := vp) (by walk_at "g")) fun t4 H4 f4 e4 k4 => ?_
  walk_at "u"
  refine s_tuple (SqL.of (xs := vs) (by walk_at "g")) fun t5 H5 f5 e5 k5 => ?_
  walk_at "u"
  refine s_tuple (SqL.of (xs := vl) (by walk_at "g")) fun t6 H6 f6 e6 k6 => ?_
  walk_at "u"
  walk_at "na"
  intro t7 H7 f7 e7 k7
  walk_at "u"
  refine s_isO (C := T.C_Line) (by walk_at "g") T.ic_Line T.ki_Line_Line ?_
  walk_at "u"
  refine ⟨_, rfl, q, w', rfl, by walk_at "g", fun t8 tp8 ts8 tl8 vp8 vs8 vl8 H8 f8 e8 g8 g8' g8'' S1 S2 S3 k8 => ?_⟩
  have z8 : Kz [] H H8 := ⟨by walk_at "k"⟩
  walk_at "u"
  refine s_rep (told_sh gW e8 g8 g8' g8'' S1 S2 S3) ?_
  walk_at "u"
  refine s_rep (told_sh (w := w') gW (k8.tgt e7) (by walk_at "gt") (by walk_at "gt") (by walk_at "gt") (r1.kp z8.k) (r2.kp z8.k) (r3.kp z8.k)) ?_
  walk_at "u"
  rw [decide_eq_true rfl]
  walk_at "u"
  refine ⟨_, _, rfl, q, t, w', rfl, rfl, by walk_at "g", hW.kp z8.k, fun H9 k9 => ?_⟩
  walk_at "u"
  refine ⟨_, rfl, q, w', rfl, by walk_at "g", fun H10 k10 => ?_⟩
  walk_at "u"
  rw [show txt w' = Txt.join "\n" ((ros w').map (row w')) from rfl, decide_eq_true rfl]
  exact k _ ((z8.k.trans k9).trans k10)
def sp_law (K : PySem.W.Frag) : Sp := sp1 fun x H Q _ => ∃ (a : Addr) (ns : List Int), x = .ref a ∧ SqL K H a (ns.map V.int) ∧ ns.length ≤ 63 ∧ ∀ H', Q (.bl true) H'
/-- what is kept: a line and its world -/
def Kept (T : Tx K mg) (H : Hp) (v : V) : Prop := ∃ u p t w, v = V.ref u ∧ H u = some (.tup [.ref p, .ref t]) ∧ Ln T H p w ∧ Wd H t w
theorem Kept.kp {T : Tx K mg} {H H2 : Hp} {v : V} (h : Kept T H v) (k : Kp [] H H2) : Kept T H2 v := by
  obtain ⟨u, p, t, w, e, e1, l, d⟩ := h
  exact ⟨u, p, t, w, e, k.get0 e1, l.kpn k (by simp), d.kp k⟩
theorem Kept.new {T : Tx K mg} {H : Hp} {l u p t a1 a2 a3 : Addr} {w : Wo} {vp vs vl : List V} {z : Str} (tl : Th H l 0) (e : H u = some (.tup [.ref p, .ref t])) (L : Ln T H p w) (h0 : H t = some (.lst [.ref a1, .ref a2, .ref a3, .str z])) (h1 : H a1 = some (.lst vp)) (h2 : H a2 = some (.lst vs)) (h3 : H a3 = some (.lst vl))
    (r1 : Rw H vp (rP w.pl)) (r2 : Rw H vs (rP w.st)) (r3 : Rw H vl (rL w.lo)) (n0 : t ≠ l) (n1 : a1 ≠ l) (n2 : a2 ≠ l) (n3 : a3 ≠ l) : Kept T (hid [l] H) (.ref u) := by
  obtain ⟨tp, ts, tt, vp', vs', vl', ⟨dx, a⟩, e1, e2, e3, q1, q2, q3⟩ := L.ex
  refine ⟨u, p, t, w, rfl, hid_tup e tl, ⟨⟨tp, ts, tt, vp', vs', vl', ⟨dx, hid_of a (by simpa using L.th.nk tl rfl)⟩, hid_tup e1 tl, hid_tup e2 tl, hid_tup e3 tl, q1.hid tl, q2.hid tl, q3.hid tl⟩, L.ok⟩, ⟨a1, a2, a3, vp, vs, vl, z, hid_of h0 (by simpa using n0), hid_of h1 (by simpa using n1), hid_of h2 (by simpa using n2), hid_of h3 (by simpa using n3), r1.hid tl, r2.hid tl, r3.hid tl⟩⟩
set_option maxHeartbeats 16000000 in
theorem ok_law (T : Tx K mg) (hs : ∃ mm, base.Ns sysModules mm) : FnG P w K mg base (L2.CX P w) 9 T.a_law T.d_law ["_law_script"] (sp_law K) := by
  have G_law_world := ok_law_world (P := P) (w := w) (base := base) T
  have G_law_box := ok_law_box (P := P) (w := w) (base := base) T
  have G_law_cell := ok_law_cell (P := P) (w := w) (base := base) T
  have G_Line_init := ok_Line_init (P := P) (w := w) (base := base) T
  have G_law_right := ok_law_right (P := P) (w := w) (base := base) T hs
  refine okG T.F_law sc_law (fun vs H Q E h => ?_) (fun cd A o s H vs Q E hg hr h => ?_)
  · obtain ⟨v0, rfl, h⟩ := h; rfl
  obtain ⟨v0, rfl, h⟩ := h
  obtain ⟨a, ns, rfl, hS, hl63, k⟩ := h
  refine ⟨_, (pss_cons (ps_set (i := 1) sc_law.nd rfl (Or.inl rfl) (pe_lst pa_nil))
    (pss_cons (ps_for PassesOwn.leaving rfl (pi_range1 rfl T.z_range (pa_cons (pe_callB (c_max rfl) rfl T.z_max bt_max (pa_cons pe_int (pa_cons (pe_callB (c_min rfl) rfl T.z_min bt_min (pa_cons pe_int (pa_cons (pe_callB (c_len (K := K) rfl) rfl T.z_len bt_len (pa_cons (pv 0) pa_nil)) pa_nil))) pa_nil))) pa_nil)) (pg_name (i := 2) sc_law.nd rfl (Or.inl rfl))
    (pss_cons (ps_set (i := 3) sc_law.nd rfl (Or.inl rfl) (pe_co G_law_world (hr.mono (by decide)) rfl T.m_law_world T.F_law_world.kp T.B_law_world (takes_of (E := E) rfl rfl rfl rfl) (pa_cons (pe_co G_law_box (hr.mono (by decide)) rfl T.m_law_box T.F_law_box.kp T.B_law_box (takes_of (E := E) rfl rfl rfl rfl) (pa_cons (pe_co G_law_cell (hr.mono (by decide)) rfl T.m_law_cell T.F_law_cell.kp T.B_law_cell (takes_of (E := E) rfl rfl rfl rfl) (pa_cons (pv 0) (pa_cons (pv 2) pa_nil))) pa_nil)) pa_nil)))
    (pss_cons (ps_expr (pe_bm PySem.F.plainAttrs_list PySem.F.slot_list_append PySem.F.type_list_append mt_append (pv 1) (pa_cons (pe_tup (pa_cons (pe_nw T.mk_Line G_Line_init (hr.mono (by decide)) rfl T.m_Line T.B_Line_init (takes_of (E := E) rfl rfl rfl rfl) (pa_cons (pe_ix (ix_u (K := K) rfl) (pv 3) pe_int (fun _ _ => rfl)) (pa_cons (pe_ix (ix_u (K := K) rfl) (pv 3) pe_int (fun _ _ => rfl)) (pa_cons (pe_ix (ix_u (K := K) rfl) (pv 3) pe_int (fun _ _ => rfl)) pa_nil)))) (pa_cons (pv 3) pa_nil))) pa_nil)))
    (pss_one (ps_for PassesOwn.leaving rfl (pi_lst (K := K) rfl (pe_slice (sl_u (K := K) rfl) (pv 1) (po_some (pe_un un_neg pe_int)) po_none)) (pg_tupK (K := K) (n := 2) rfl rfl (pgs_cons (pg_name (i := 4) sc_law.nd rfl (Or.inl rfl)) (pgs_cons (pg_name (i := 5) sc_law.nd rfl (Or.inl rfl)) pgs_nil)))
    (pss_one (ps_if (pt_not (pt_val (pe_cg G_law_right hg (hr.mono (by decide)) rfl T.m_law_right T.F_law_right.kp T.B_law_right (takes_of (E := E) rfl rfl rfl rfl) (pa_cons (pv 4) (pa_cons (pv 5) pa_nil)))))
    (pss_one (ps_ret pe_bl))
    pss_nil)))))))
    (pss_one (ps_ret pe_bl)))), ?_⟩
  rw [st_law]
  walk_at "u"
  walk_at "na"
  intro l0 H1 f1 e1 k1
  walk_at "u"
  refine s_lenL (by walk_at "g") ?_
  walk_at "u"
  rw [List.length_map]
  obtain ⟨j, ej, hj2, hj⟩ := many_j ns.length 2 10 (by omega) (by omega)
  rw [ej]
  refine s_rng (by omega) (by omega) ?_
  have fl : Fz H l0 := ⟨by walk_at "f"⟩
  have z1 : Kz [] H H1 := ⟨by walk_at "k"⟩
  clear k1 f1
  obtain ⟨z1⟩ := z1
  refine for_R (fun i σ H' => Kp [] H H' ∧ (∃ vs : List V, H' l0 = some (.lst vs) ∧ vs.length = i ∧ ∀ v ∈ vs, Kept T (hid [l0] H') v) ∧ ∃ u2 u3 u4 u5, σ = [some (.ref a), some (.ref l0), u2, u3, u4, u5]) ⟨z1, ⟨[], e1, rfl, by simp⟩, _, _, _, _, rfl⟩ ?_ ?_
  · rintro i σ H2 hi ⟨z2, ⟨vs, e2, lv, hv⟩, u2, u3, u4, u5, rfl⟩
    walk_at "u"
    walk_at "cl"
    intro q0
    walk_at "u"
    refine c_box fun p H3 f3 k3 B3 => ?_
    have z3 : Kz [] H H3 := ⟨by walk_at "k"⟩
    refine ⟨_, rfl, p, 0, rfl, B3, by omega, fun t a1 a2 a3 w' vp vs' vl z H4 ft et f1 g1 f2 g2 f3' g3 n12 n13 n23 nt1 nt2 nt3 R1 R2 R3 gW hz1 hz2 hz3 B4 k4 => ?_⟩
    walk_at "u"
    refine c_Line (w := w') ⟨a1, rfl, Or.inl g1⟩ R1 ⟨a2, rfl, Or.inl g2⟩ R2 (Or.inr ⟨vl, ⟨a3, rfl, Or.inl g3⟩, R3⟩) gW fun q H5 f5 L5 k5 => ?_
    walk_at "u"
    walk_at "na"
    intro u H6 f6 e6 k6
    walk_at "u"
    have lp : l0 ≠ p := by walk_at "ne"
    have lt : t ≠ l0 := by walk_at "ne"
    have l1 : a1 ≠ l0 := by walk_at "ne"
    have l2 : a2 ≠ l0 := by walk_at "ne"
    have l3 : a3 ≠ l0 := by walk_at "ne"
    refine s_app (xs := vs) (by walk_at "g") (zlt (by omega)) fun H7 e7 k7 => ?_
    have z7 : Kz [] H H7 := ⟨by walk_at "k"⟩
    have h27 : Kz [] (hid [l0] H2) (hid [l0] H7) := ⟨hid_kp (qs := [p, l0]) (by walk_at "k") (by simp [f3])⟩
    have hv7 : ∀ v ∈ vs ++ [V.ref u], Kept T (hid [l0] H7) v := by
      intro v hm
      rcases List.mem_append.mp hm with hm | hm
      · exact (hv v hm).kp h27.k
      · rw [List.mem_singleton.mp hm]
        exact Kept.new (.lst e7) (by walk_at "gt") (by walk_at "g") (by walk_at "g") (by walk_at "g") (by walk_at "g") (by walk_at "g") (((R1.kp k5).kp k6).kp k7) (((R2.kp k5).kp k6).kp k7) (((R3.kp k5).kp k6).kp k7) lt l1 l2 l3
    clear k7 k6 e6 f6 k5 L5 f5 k4 B4 R1 R2 R3 et g1 g2 g3 f1 f2 f3' ft k3 B3 f3 e2 hv h27 z3 z2
    obtain ⟨z7⟩ := z7
    walk_at "u"
    refine s_sll (SqL.of e7) fun l8 H8 f8 e8 k8 => ?_
    walk_at "u"
    refine s_ilst (SqL.of e8) ?_
    refine for_L e8 (fun i' σ H' => Kp [] H8 H' ∧ ∃ u4 u5, σ = [some (.ref a), some (.ref l0), some (.int (0 + (i : Int))), some (.ref t), u4, u5]) ⟨Kp.refl, _, _, rfl⟩ (fun i σ' H' p o e => p.1.get0 e) ?_ ?_
    · rintro i' x σ H9 ex ⟨k9, u4, u5, rfl⟩
      have K9 : Kept T H9 x := (((hv7 x (cut_sub (List.mem_of_getElem? ex))).kp hid_le).kp k8).kp k9
      obtain ⟨uu, pp, tt, ww, rfl, eu, LL, WW⟩ := K9
      walk_at "u"
      refine ⟨_, _, rfl, pp, tt, ww, rfl, rfl, LL, WW, fun H10 k10 => ?_⟩
      walk_at "u"
      exact ⟨by walk_at "k", _, _, rfl⟩
    · rintro σ H9 ⟨k9, u4, u5, rfl⟩
      walk_at "u"
      exact ⟨by walk_at "k", ⟨vs ++ [.ref u], by walk_at "g", by simp [lv], fun v hm => (hv7 v hm).kp (hid_kp (qs := []) (by walk_at "k") (by simp))⟩, _, _, _, _, rfl⟩
  · rintro σ H2 ⟨z2, _, u2, u3, u4, u5, rfl⟩
    walk_at "u"
    exact k _
theorem all_mk {l : PySem.W.OpenLaw} {w : World} {K : PySem.W.Frag} {h : Heap} {mg : Str → Option Value} {fa : Addr} (X : K.In h) (G : h.Ns mainGlobals mg) (hfa : mg "law" = some (.ref fa))
    {C_Line : Addr} (n_Line : PySem.W.nsIn K mainGlobals "Line" = some (some (.ref C_Line)))
    {C_NoName : Addr} (n_NoName : PySem.W.nsIn K mainGlobals "NoName" = some (some (.ref C_NoName)))
    {C_NoPlace : Addr} (n_NoPlace : PySem.W.nsIn K mainGlobals "NoPlace" = some (some (.ref C_NoPlace)))
    {C_NoStretch : Addr} (n_NoStretch : PySem.W.nsIn K mainGlobals "NoStretch" = some (some (.ref C_NoStretch)))
    {C_NoLong : Addr} (n_NoLong : PySem.W.nsIn K mainGlobals "NoLong" = some (some (.ref C_NoLong)))
    {C_NoPlaces : Addr} (n_NoPlaces : PySem.W.nsIn K mainGlobals "NoPlaces" = some (some (.ref C_NoPlaces)))
    {C_NoStretches : Addr} (n_NoStretches : PySem.W.nsIn K mainGlobals "NoStretches" = some (some (.ref C_NoStretches)))
    {C_NoLongs : Addr} (n_NoLongs : PySem.W.nsIn K mainGlobals "NoLongs" = some (some (.ref C_NoLongs)))
    {C_NoNumber : Addr} (n_NoNumber : PySem.W.nsIn K mainGlobals "NoNumber" = some (some (.ref C_NoNumber)))
    {C_Twice : Addr} (n_Twice : PySem.W.nsIn K mainGlobals "Twice" = some (some (.ref C_Twice)))
    {C_NoText : Addr} (n_NoText : PySem.W.nsIn K mainGlobals "NoText" = some (some (.ref C_NoText)))
    {C_StaffError : Addr} (n_StaffError : PySem.W.nsIn K mainGlobals "StaffError" = some (some (.ref C_StaffError)))
    {f1 : Addr} {od1 an1 : Option Addr} {sl1 : Array (Option Value)} {oc1 kV1 dc1 pm1 cd1 ct1 : Value}
    (a1 : PySem.W.findIn K (.ref C_NoName) "__init__" = some (some (.ref f1)))
    (l1 : K.lookup f1 = some ⟨oc1, od1, .func (PySem.W.fnOf "__init__" "NoName.__init__" (defArgs s_NoName_init) (defBody s_NoName_init) (defScope s_NoName_init) .none kV1 dc1 pm1 an1 cd1 ct1), sl1⟩) (c1 : PySem.W.codeIn K cd1 "NoName.__init__" = true) (k1 : PySem.W.keepIn K (.ref f1) = true)
    {f2 : Addr} {od2 an2 : Option Addr} {sl2 : Array (Option Value)} {oc2 kV2 dc2 pm2 cd2 ct2 : Value}
    (a2 : PySem.W.findIn K (.ref C_NoPlace) "__init__" = some (some (.ref f2)))
    (l2 : K.lookup f2 = some ⟨oc2, od2, .func (PySem.W.fnOf "__init__" "NoPlace.__init__" (defArgs s_NoPlace_init) (defBody s_NoPlace_init) (defScope s_NoPlace_init) .none kV2 dc2 pm2 an2 cd2 ct2), sl2⟩) (c2 : PySem.W.codeIn K cd2 "NoPlace.__init__" = true) (k2 : PySem.W.keepIn K (.ref f2) = true)
    {f3 : Addr} {od3 an3 : Option Addr} {sl3 : Array (Option Value)} {oc3 kV3 dc3 pm3 cd3 ct3 : Value}
    (a3 : PySem.W.findIn K (.ref C_NoStretch) "__init__" = some (some (.ref f3)))
    (l3 : K.lookup f3 = some ⟨oc3, od3, .func (PySem.W.fnOf "__init__" "NoStretch.__init__" (defArgs s_NoStretch_init) (defBody s_NoStretch_init) (defScope s_NoStretch_init) .none kV3 dc3 pm3 an3 cd3 ct3), sl3⟩) (c3 : PySem.W.codeIn K cd3 "NoStretch.__init__" = true) (k3 : PySem.W.keepIn K (.ref f3) = true)
    {f4 : Addr} {od4 an4 : Option Addr} {sl4 : Array (Option Value)} {oc4 kV4 dc4 pm4 cd4 ct4 : Value}
    (a4 : PySem.W.findIn K (.ref C_NoLong) "__init__" = some (some (.ref f4)))
    (l4 : K.lookup f4 = some ⟨oc4, od4, .func (PySem.W.fnOf "__init__" "NoLong.__init__" (defArgs s_NoLong_init) (defBody s_NoLong_init) (defScope s_NoLong_init) .none kV4 dc4 pm4 an4 cd4 ct4), sl4⟩) (c4 : PySem.W.codeIn K cd4 "NoLong.__init__" = true) (k4 : PySem.W.keepIn K (.ref f4) = true)
    {f5 : Addr} {od5 an5 : Option Addr} {sl5 : Array (Option Value)} {oc5 kV5 dc5 pm5 cd5 ct5 : Value}
    (a5 : PySem.W.findIn K (.ref C_NoPlaces) "__init__" = some (some (.ref f5)))
    (l5 : K.lookup f5 = some ⟨oc5, od5, .func (PySem.W.fnOf "__init__" "NoPlaces.__init__" (defArgs s_NoPlaces_init) (defBody s_NoPlaces_init) (defScope s_NoPlaces_init) .none kV5 dc5 pm5 an5 cd5 ct5), sl5⟩) (c5 : PySem.W.codeIn K cd5 "NoPlaces.__init__" = true) (k5 : PySem.W.keepIn K (.ref f5) = true)
    {f6 : Addr} {od6 an6 : Option Addr} {sl6 : Array (Option Value)} {oc6 kV6 dc6 pm6 cd6 ct6 : Value}
    (a6 : PySem.W.findIn K (.ref C_NoStretches) "__init__" = some (some (.ref f6)))
    (l6 : K.lookup f6 = some ⟨oc6, od6, .func (PySem.W.fnOf "__init__" "NoStretches.__init__" (defArgs s_NoStretches_init) (defBody s_NoStretches_init) (defScope s_NoStretches_init) .none kV6 dc6 pm6 an6 cd6 ct6), sl6⟩) (c6 : PySem.W.codeIn K cd6 "NoStretches.__init__" = true) (k6 : PySem.W.keepIn K (.ref f6) = true)
    {f7 : Addr} {od7 an7 : Option Addr} {sl7 : Array (Option Value)} {oc7 kV7 dc7 pm7 cd7 ct7 : Value}
    (a7 : PySem.W.findIn K (.ref C_NoLongs) "__init__" = some (some (.ref f7)))
    (l7 : K.lookup f7 = some ⟨oc7, od7, .func (PySem.W.fnOf "__init__" "NoLongs.__init__" (defArgs s_NoLongs_init) (defBody s_NoLongs_init) (defScope s_NoLongs_init) .none kV7 dc7 pm7 an7 cd7 ct7), sl7⟩) (c7 : PySem.W.codeIn K cd7 "NoLongs.__init__" = true) (k7 : PySem.W.keepIn K (.ref f7) = true)
    {f8 : Addr} {od8 an8 : Option Addr} {sl8 : Array (Option Value)} {oc8 kV8 dc8 pm8 cd8 ct8 : Value}
    (a8 : PySem.W.findIn K (.ref C_NoNumber) "__init__" = some (some (.ref f8)))
    (l8 : K.lookup f8 = some ⟨oc8, od8, .func (PySem.W.fnOf "__init__" "NoNumber.__init__" (defArgs s_NoNumber_init) (defBody s_NoNumber_init) (defScope s_NoNumber_init) .none kV8 dc8 pm8 an8 cd8 ct8), sl8⟩) (c8 : PySem.W.codeIn K cd8 "NoNumber.__init__" = true) (k8 : PySem.W.keepIn K (.ref f8) = true)
    {f9 : Addr} {od9 an9 : Option Addr} {sl9 : Array (Option Value)} {oc9 kV9 dc9 pm9 cd9 ct9 : Value}
    (a9 : PySem.W.findIn K (.ref C_Twice) "__init__" = some (some (.ref f9)))
    (l9 : K.lookup f9 = some ⟨oc9, od9, .func (PySem.W.fnOf "__init__" "Twice.__init__" (defArgs s_Twice_init) (defBody s_Twice_init) (defScope s_Twice_init) .none kV9 dc9 pm9 an9 cd9 ct9), sl9⟩) (c9 : PySem.W.codeIn K cd9 "Twice.__init__" = true) (k9 : PySem.W.keepIn K (.ref f9) = true)
    {f10 : Addr} {od10 an10 : Option Addr} {sl10 : Array (Option Value)} {oc10 kV10 dc10 pm10 cd10 ct10 : Value}
    (a10 : PySem.W.findIn K (.ref C_NoText) "__init__" = some (some (.ref f10)))
    (l10 : K.lookup f10 = some ⟨oc10, od10, .func (PySem.W.fnOf "__init__" "NoText.__init__" (defArgs s_NoText_init) (defBody s_NoText_init) (defScope s_NoText_init) .none kV10 dc10 pm10 an10 cd10 ct10), sl10⟩) (c10 : PySem.W.codeIn K cd10 "NoText.__init__" = true) (k10 : PySem.W.keepIn K (.ref f10) = true)
    {f11 : Addr} {od11 an11 : Option Addr} {sl11 : Array (Option Value)} {oc11 kV11 dc11 pm11 cd11 ct11 : Value}
    (a11 : PySem.W.nsIn K mainGlobals "is_whole" = some (some (.ref f11)))
    (l11 : K.lookup f11 = some ⟨oc11, od11, .func (PySem.W.fnOf "is_whole" "is_whole" (defArgs s_is_whole) (defBody s_is_whole) (defScope s_is_whole) .none kV11 dc11 pm11 an11 cd11 ct11), sl11⟩) (c11 : PySem.W.codeIn K cd11 "is_whole" = true) (k11 : PySem.W.keepIn K (.ref f11) = true)
    {f12 : Addr} {od12 an12 : Option Addr} {sl12 : Array (Option Value)} {oc12 kV12 dc12 pm12 cd12 ct12 : Value}
    (a12 : PySem.W.nsIn K mainGlobals "is_name" = some (some (.ref f12)))
    (l12 : K.lookup f12 = some ⟨oc12, od12, .func (PySem.W.fnOf "is_name" "is_name" (defArgs s_is_name) (defBody s_is_name) (defScope s_is_name) .none kV12 dc12 pm12 an12 cd12 ct12), sl12⟩) (c12 : PySem.W.codeIn K cd12 "is_name" = true) (k12 : PySem.W.keepIn K (.ref f12) = true)
    {f13 : Addr} {od13 an13 : Option Addr} {sl13 : Array (Option Value)} {oc13 kV13 dc13 pm13 cd13 ct13 : Value}
    (a13 : PySem.W.nsIn K mainGlobals "is_row" = some (some (.ref f13)))
    (l13 : K.lookup f13 = some ⟨oc13, od13, .func (PySem.W.fnOf "is_row" "is_row" (defArgs s_is_row) (defBody s_is_row) (defScope s_is_row) .none kV13 dc13 pm13 an13 cd13 ct13), sl13⟩) (c13 : PySem.W.codeIn K cd13 "is_row" = true) (k13 : PySem.W.keepIn K (.ref f13) = true)
    {f14 : Addr} {od14 an14 : Option Addr} {sl14 : Array (Option Value)} {oc14 kV14 dc14 pm14 cd14 ct14 : Value}
    (a14 : PySem.W.nsIn K mainGlobals "good_places" = some (some (.ref f14)))
    (l14 : K.lookup f14 = some ⟨oc14, od14, .func (PySem.W.fnOf "good_places" "good_places" (defArgs s_good_places) (defBody s_good_places) (defScope s_good_places) .none kV14 dc14 pm14 an14 cd14 ct14), sl14⟩) (c14 : PySem.W.codeIn K cd14 "good_places" = true) (k14 : PySem.W.keepIn K (.ref f14) = true)
    {f15 : Addr} {od15 an15 : Option Addr} {sl15 : Array (Option Value)} {oc15 kV15 dc15 pm15 cd15 ct15 : Value}
    (a15 : PySem.W.nsIn K mainGlobals "is_stretch" = some (some (.ref f15)))
    (l15 : K.lookup f15 = some ⟨oc15, od15, .func (PySem.W.fnOf "is_stretch" "is_stretch" (defArgs s_is_stretch) (defBody s_is_stretch) (defScope s_is_stretch) .none kV15 dc15 pm15 an15 cd15 ct15), sl15⟩) (c15 : PySem.W.codeIn K cd15 "is_stretch" = true) (k15 : PySem.W.keepIn K (.ref f15) = true)
    {f16 : Addr} {od16 an16 : Option Addr} {sl16 : Array (Option Value)} {oc16 kV16 dc16 pm16 cd16 ct16 : Value}
    (a16 : PySem.W.nsIn K mainGlobals "good_stretches" = some (some (.ref f16)))
    (l16 : K.lookup f16 = some ⟨oc16, od16, .func (PySem.W.fnOf "good_stretches" "good_stretches" (defArgs s_good_stretches) (defBody s_good_stretches) (defScope s_good_stretches) .none kV16 dc16 pm16 an16 cd16 ct16), sl16⟩) (c16 : PySem.W.codeIn K cd16 "good_stretches" = true) (k16 : PySem.W.keepIn K (.ref f16) = true)
    {f17 : Addr} {od17 an17 : Option Addr} {sl17 : Array (Option Value)} {oc17 kV17 dc17 pm17 cd17 ct17 : Value}
    (a17 : PySem.W.nsIn K mainGlobals "is_long" = some (some (.ref f17)))
    (l17 : K.lookup f17 = some ⟨oc17, od17, .func (PySem.W.fnOf "is_long" "is_long" (defArgs s_is_long) (defBody s_is_long) (defScope s_is_long) .none kV17 dc17 pm17 an17 cd17 ct17), sl17⟩) (c17 : PySem.W.codeIn K cd17 "is_long" = true) (k17 : PySem.W.keepIn K (.ref f17) = true)
    {f18 : Addr} {od18 an18 : Option Addr} {sl18 : Array (Option Value)} {oc18 kV18 dc18 pm18 cd18 ct18 : Value}
    (a18 : PySem.W.nsIn K mainGlobals "good_longs" = some (some (.ref f18)))
    (l18 : K.lookup f18 = some ⟨oc18, od18, .func (PySem.W.fnOf "good_longs" "good_longs" (defArgs s_good_longs) (defBody s_good_longs) (defScope s_good_longs) .none kV18 dc18 pm18 an18 cd18 ct18), sl18⟩) (c18 : PySem.W.codeIn K cd18 "good_longs" = true) (k18 : PySem.W.keepIn K (.ref f18) = true)
    {f19 : Addr} {od19 an19 : Option Addr} {sl19 : Array (Option Value)} {oc19 kV19 dc19 pm19 cd19 ct19 : Value}
    (a19 : PySem.W.findIn K (.ref C_Line) "__init__" = some (some (.ref f19)))
    {T19 : Addr} {oT19 : Obj} {nT19 : Nat}
    (l19 : K.lookup f19 = some ⟨oc19, od19, .func (PySem.W.fnOf "__init__" "Line.__init__" (defArgs s_Line_init) (defBody s_Line_init) (defScope s_Line_init) (.ref T19) kV19 dc19 pm19 an19 cd19 ct19), sl19⟩) (c19 : PySem.W.codeIn K cd19 "Line.__init__" = true) (k19 : PySem.W.keepIn K (.ref f19) = true)
    (lT19 : K.lookup T19 = some oT19) (dT19 : oT19.data = .seq #[Value.none] nT19)
    {f20 : Addr} {od20 an20 : Option Addr} {sl20 : Array (Option Value)} {oc20 kV20 dc20 pm20 cd20 ct20 : Value}
    (a20 : PySem.W.findIn K (.ref C_Line) "names" = some (some (.ref f20)))
    (l20 : K.lookup f20 = some ⟨oc20, od20, .func (PySem.W.fnOf "names" "Line.names" (defArgs s_Line_names) (defBody s_Line_names) (defScope s_Line_names) .none kV20 dc20 pm20 an20 cd20 ct20), sl20⟩) (c20 : PySem.W.codeIn K cd20 "Line.names" = true) (k20 : PySem.W.keepIn K (.ref f20) = true)
    {f21 : Addr} {od21 an21 : Option Addr} {sl21 : Array (Option Value)} {oc21 kV21 dc21 pm21 cd21 ct21 : Value}
    (a21 : PySem.W.findIn K (.ref C_Line) "number_of" = some (some (.ref f21)))
    (l21 : K.lookup f21 = some ⟨oc21, od21, .func (PySem.W.fnOf "number_of" "Line.number_of" (defArgs s_Line_number_of) (defBody s_Line_number_of) (defScope s_Line_number_of) .none kV21 dc21 pm21 an21 cd21 ct21), sl21⟩) (c21 : PySem.W.codeIn K cd21 "Line.number_of" = true) (k21 : PySem.W.keepIn K (.ref f21) = true)
    {f22 : Addr} {od22 an22 : Option Addr} {sl22 : Array (Option Value)} {oc22 kV22 dc22 pm22 cd22 ct22 : Value}
    (a22 : PySem.W.findIn K (.ref C_Line) "roads" = some (some (.ref f22)))
    (l22 : K.lookup f22 = some ⟨oc22, od22, .func (PySem.W.fnOf "roads" "Line.roads" (defArgs s_Line_roads) (defBody s_Line_roads) (defScope s_Line_roads) .none kV22 dc22 pm22 an22 cd22 ct22), sl22⟩) (c22 : PySem.W.codeIn K cd22 "Line.roads" = true) (k22 : PySem.W.keepIn K (.ref f22) = true)
    {f23 : Addr} {od23 an23 : Option Addr} {sl23 : Array (Option Value)} {oc23 kV23 dc23 pm23 cd23 ct23 : Value}
    (a23 : PySem.W.findIn K (.ref C_Line) "many_stretches" = some (some (.ref f23)))
    (l23 : K.lookup f23 = some ⟨oc23, od23, .func (PySem.W.fnOf "many_stretches" "Line.many_stretches" (defArgs s_Line_many_stretches) (defBody s_Line_many_stretches) (defScope s_Line_many_stretches) .none kV23 dc23 pm23 an23 cd23 ct23), sl23⟩) (c23 : PySem.W.codeIn K cd23 "Line.many_stretches" = true) (k23 : PySem.W.keepIn K (.ref f23) = true)
    {f24 : Addr} {od24 an24 : Option Addr} {sl24 : Array (Option Value)} {oc24 kV24 dc24 pm24 cd24 ct24 : Value}
    (a24 : PySem.W.findIn K (.ref C_Line) "need_stretch" = some (some (.ref f24)))
    (l24 : K.lookup f24 = some ⟨oc24, od24, .func (PySem.W.fnOf "need_stretch" "Line.need_stretch" (defArgs s_Line_need_stretch) (defBody s_Line_need_stretch) (defScope s_Line_need_stretch) .none kV24 dc24 pm24 an24 cd24 ct24), sl24⟩) (c24 : PySem.W.codeIn K cd24 "Line.need_stretch" = true) (k24 : PySem.W.keepIn K (.ref f24) = true)
    {f25 : Addr} {od25 an25 : Option Addr} {sl25 : Array (Option Value)} {oc25 kV25 dc25 pm25 cd25 ct25 : Value}
    (a25 : PySem.W.findIn K (.ref C_Line) "ends" = some (some (.ref f25)))
    (l25 : K.lookup f25 = some ⟨oc25, od25, .func (PySem.W.fnOf "ends" "Line.ends" (defArgs s_Line_ends) (defBody s_Line_ends) (defScope s_Line_ends) .none kV25 dc25 pm25 an25 cd25 ct25), sl25⟩) (c25 : PySem.W.codeIn K cd25 "Line.ends" = true) (k25 : PySem.W.keepIn K (.ref f25) = true)
    {f26 : Addr} {od26 an26 : Option Addr} {sl26 : Array (Option Value)} {oc26 kV26 dc26 pm26 cd26 ct26 : Value}
    (a26 : PySem.W.findIn K (.ref C_Line) "kind" = some (some (.ref f26)))
    (l26 : K.lookup f26 = some ⟨oc26, od26, .func (PySem.W.fnOf "kind" "Line.kind" (defArgs s_Line_kind) (defBody s_Line_kind) (defScope s_Line_kind) .none kV26 dc26 pm26 an26 cd26 ct26), sl26⟩) (c26 : PySem.W.codeIn K cd26 "Line.kind" = true) (k26 : PySem.W.keepIn K (.ref f26) = true)
    {f27 : Addr} {od27 an27 : Option Addr} {sl27 : Array (Option Value)} {oc27 kV27 dc27 pm27 cd27 ct27 : Value}
    (a27 : PySem.W.findIn K (.ref C_Line) "home" = some (some (.ref f27)))
    (l27 : K.lookup f27 = some ⟨oc27, od27, .func (PySem.W.fnOf "home" "Line.home" (defArgs s_Line_home) (defBody s_Line_home) (defScope s_Line_home) .none kV27 dc27 pm27 an27 cd27 ct27), sl27⟩) (c27 : PySem.W.codeIn K cd27 "Line.home" = true) (k27 : PySem.W.keepIn K (.ref f27) = true)
    {f28 : Addr} {od28 an28 : Option Addr} {sl28 : Array (Option Value)} {oc28 kV28 dc28 pm28 cd28 ct28 : Value}
    (a28 : PySem.W.findIn K (.ref C_Line) "between" = some (some (.ref f28)))
    (l28 : K.lookup f28 = some ⟨oc28, od28, .func (PySem.W.fnOf "between" "Line.between" (defArgs s_Line_between) (defBody s_Line_between) (defScope s_Line_between) .none kV28 dc28 pm28 an28 cd28 ct28), sl28⟩) (c28 : PySem.W.codeIn K cd28 "Line.between" = true) (k28 : PySem.W.keepIn K (.ref f28) = true)
    {f29 : Addr} {od29 an29 : Option Addr} {sl29 : Array (Option Value)} {oc29 kV29 dc29 pm29 cd29 ct29 : Value}
    (a29 : PySem.W.findIn K (.ref C_Line) "many_longs" = some (some (.ref f29)))
    (l29 : K.lookup f29 = some ⟨oc29, od29, .func (PySem.W.fnOf "many_longs" "Line.many_longs" (defArgs s_Line_many_longs) (defBody s_Line_many_longs) (defScope s_Line_many_longs) .none kV29 dc29 pm29 an29 cd29 ct29), sl29⟩) (c29 : PySem.W.codeIn K cd29 "Line.many_longs" = true) (k29 : PySem.W.keepIn K (.ref f29) = true)
    {f30 : Addr} {od30 an30 : Option Addr} {sl30 : Array (Option Value)} {oc30 kV30 dc30 pm30 cd30 ct30 : Value}
    (a30 : PySem.W.findIn K (.ref C_Line) "need_long" = some (some (.ref f30)))
    (l30 : K.lookup f30 = some ⟨oc30, od30, .func (PySem.W.fnOf "need_long" "Line.need_long" (defArgs s_Line_need_long) (defBody s_Line_need_long) (defScope s_Line_need_long) .none kV30 dc30 pm30 an30 cd30 ct30), sl30⟩) (c30 : PySem.W.codeIn K cd30 "Line.need_long" = true) (k30 : PySem.W.keepIn K (.ref f30) = true)
    {f31 : Addr} {od31 an31 : Option Addr} {sl31 : Array (Option Value)} {oc31 kV31 dc31 pm31 cd31 ct31 : Value}
    (a31 : PySem.W.findIn K (.ref C_Line) "long_ends" = some (some (.ref f31)))
    (l31 : K.lookup f31 = some ⟨oc31, od31, .func (PySem.W.fnOf "long_ends" "Line.long_ends" (defArgs s_Line_long_ends) (defBody s_Line_long_ends) (defScope s_Line_long_ends) .none kV31 dc31 pm31 an31 cd31 ct31), sl31⟩) (c31 : PySem.W.codeIn K cd31 "Line.long_ends" = true) (k31 : PySem.W.keepIn K (.ref f31) = true)
    {f32 : Addr} {od32 an32 : Option Addr} {sl32 : Array (Option Value)} {oc32 kV32 dc32 pm32 cd32 ct32 : Value}
    (a32 : PySem.W.findIn K (.ref C_Line) "long_stretches" = some (some (.ref f32)))
    (l32 : K.lookup f32 = some ⟨oc32, od32, .func (PySem.W.fnOf "long_stretches" "Line.long_stretches" (defArgs s_Line_long_stretches) (defBody s_Line_long_stretches) (defScope s_Line_long_stretches) .none kV32 dc32 pm32 an32 cd32 ct32), sl32⟩) (c32 : PySem.W.codeIn K cd32 "Line.long_stretches" = true) (k32 : PySem.W.keepIn K (.ref f32) = true)
    {f33 : Addr} {od33 an33 : Option Addr} {sl33 : Array (Option Value)} {oc33 kV33 dc33 pm33 cd33 ct33 : Value}
    (a33 : PySem.W.findIn K (.ref C_Line) "long_home" = some (some (.ref f33)))
    (l33 : K.lookup f33 = some ⟨oc33, od33, .func (PySem.W.fnOf "long_home" "Line.long_home" (defArgs s_Line_long_home) (defBody s_Line_long_home) (defScope s_Line_long_home) .none kV33 dc33 pm33 an33 cd33 ct33), sl33⟩) (c33 : PySem.W.codeIn K cd33 "Line.long_home" = true) (k33 : PySem.W.keepIn K (.ref f33) = true)
    {f34 : Addr} {od34 an34 : Option Addr} {sl34 : Array (Option Value)} {oc34 kV34 dc34 pm34 cd34 ct34 : Value}
    (a34 : PySem.W.findIn K (.ref C_Line) "long_between" = some (some (.ref f34)))
    (l34 : K.lookup f34 = some ⟨oc34, od34, .func (PySem.W.fnOf "long_between" "Line.long_between" (defArgs s_Line_long_between) (defBody s_Line_long_between) (defScope s_Line_long_between) .none kV34 dc34 pm34 an34 cd34 ct34), sl34⟩) (c34 : PySem.W.codeIn K cd34 "Line.long_between" = true) (k34 : PySem.W.keepIn K (.ref f34) = true)
    {f35 : Addr} {od35 an35 : Option Addr} {sl35 : Array (Option Value)} {oc35 kV35 dc35 pm35 cd35 ct35 : Value}
    (a35 : PySem.W.findIn K (.ref C_Line) "long_of" = some (some (.ref f35)))
    (l35 : K.lookup f35 = some ⟨oc35, od35, .func (PySem.W.fnOf "long_of" "Line.long_of" (defArgs s_Line_long_of) (defBody s_Line_long_of) (defScope s_Line_long_of) .none kV35 dc35 pm35 an35 cd35 ct35), sl35⟩) (c35 : PySem.W.codeIn K cd35 "Line.long_of" = true) (k35 : PySem.W.keepIn K (.ref f35) = true)
    {f36 : Addr} {od36 an36 : Option Addr} {sl36 : Array (Option Value)} {oc36 kV36 dc36 pm36 cd36 ct36 : Value}
    (a36 : PySem.W.findIn K (.ref C_Line) "told" = some (some (.ref f36)))
    (l36 : K.lookup f36 = some ⟨oc36, od36, .func (PySem.W.fnOf "told" "Line.told" (defArgs s_Line_told) (defBody s_Line_told) (defScope s_Line_told) .none kV36 dc36 pm36 an36 cd36 ct36), sl36⟩) (c36 : PySem.W.codeIn K cd36 "Line.told" = true) (k36 : PySem.W.keepIn K (.ref f36) = true)
    {f37 : Addr} {od37 an37 : Option Addr} {sl37 : Array (Option Value)} {oc37 kV37 dc37 pm37 cd37 ct37 : Value}
    (a37 : PySem.W.nsIn K mainGlobals "show_line" = some (some (.ref f37)))
    (l37 : K.lookup f37 = some ⟨oc37, od37, .func (PySem.W.fnOf "show_line" "show_line" (defArgs s_show_line) (defBody s_show_line) (defScope s_show_line) .none kV37 dc37 pm37 an37 cd37 ct37), sl37⟩) (c37 : PySem.W.codeIn K cd37 "show_line" = true) (k37 : PySem.W.keepIn K (.ref f37) = true)
    {f38 : Addr} {od38 an38 : Option Addr} {sl38 : Array (Option Value)} {oc38 kV38 dc38 pm38 cd38 ct38 : Value}
    (a38 : PySem.W.nsIn K mainGlobals "is_form" = some (some (.ref f38)))
    (l38 : K.lookup f38 = some ⟨oc38, od38, .func (PySem.W.fnOf "is_form" "is_form" (defArgs s_is_form) (defBody s_is_form) (defScope s_is_form) .none kV38 dc38 pm38 an38 cd38 ct38), sl38⟩) (c38 : PySem.W.codeIn K cd38 "is_form" = true) (k38 : PySem.W.keepIn K (.ref f38) = true)
    {f39 : Addr} {od39 an39 : Option Addr} {sl39 : Array (Option Value)} {oc39 kV39 dc39 pm39 cd39 ct39 : Value}
    (a39 : PySem.W.nsIn K mainGlobals "rows_of" = some (some (.ref f39)))
    (l39 : K.lookup f39 = some ⟨oc39, od39, .func (PySem.W.fnOf "rows_of" "rows_of" (defArgs s_rows_of) (defBody s_rows_of) (defScope s_rows_of) .none kV39 dc39 pm39 an39 cd39 ct39), sl39⟩) (c39 : PySem.W.codeIn K cd39 "rows_of" = true) (k39 : PySem.W.keepIn K (.ref f39) = true)
    {f40 : Addr} {od40 an40 : Option Addr} {sl40 : Array (Option Value)} {oc40 kV40 dc40 pm40 cd40 ct40 : Value}
    (a40 : PySem.W.nsIn K mainGlobals "read_line" = some (some (.ref f40)))
    (l40 : K.lookup f40 = some ⟨oc40, od40, .func (PySem.W.fnOf "read_line" "read_line" (defArgs s_read_line) (defBody s_read_line) (defScope s_read_line) .none kV40 dc40 pm40 an40 cd40 ct40), sl40⟩) (c40 : PySem.W.codeIn K cd40 "read_line" = true) (k40 : PySem.W.keepIn K (.ref f40) = true)
    {f41 : Addr} {od41 an41 : Option Addr} {sl41 : Array (Option Value)} {oc41 kV41 dc41 pm41 cd41 ct41 : Value}
    (a41 : PySem.W.nsIn K mainGlobals "_law_cell" = some (some (.ref f41)))
    (l41 : K.lookup f41 = some ⟨oc41, od41, .func (PySem.W.fnOf "_law_cell" "_law_cell" (defArgs s_law_cell) (defBody s_law_cell) (defScope s_law_cell) .none kV41 dc41 pm41 an41 cd41 ct41), sl41⟩) (c41 : PySem.W.codeIn K cd41 "_law_cell" = true) (k41 : PySem.W.keepIn K (.ref f41) = true)
    {f42 : Addr} {od42 an42 : Option Addr} {sl42 : Array (Option Value)} {oc42 kV42 dc42 pm42 cd42 ct42 : Value}
    (a42 : PySem.W.nsIn K mainGlobals "_law_box" = some (some (.ref f42)))
    (l42 : K.lookup f42 = some ⟨oc42, od42, .func (PySem.W.fnOf "_law_box" "_law_box" (defArgs s_law_box) (defBody s_law_box) (defScope s_law_box) .none kV42 dc42 pm42 an42 cd42 ct42), sl42⟩) (c42 : PySem.W.codeIn K cd42 "_law_box" = true) (k42 : PySem.W.keepIn K (.ref f42) = true)
    {f43 : Addr} {od43 an43 : Option Addr} {sl43 : Array (Option Value)} {oc43 kV43 dc43 pm43 cd43 ct43 : Value}
    (a43 : PySem.W.nsIn K mainGlobals "_law_take" = some (some (.ref f43)))
    (l43 : K.lookup f43 = some ⟨oc43, od43, .func (PySem.W.fnOf "_law_take" "_law_take" (defArgs s_law_take) (defBody s_law_take) (defScope s_law_take) .none kV43 dc43 pm43 an43 cd43 ct43), sl43⟩) (c43 : PySem.W.codeIn K cd43 "_law_take" = true) (k43 : PySem.W.keepIn K (.ref f43) = true)
    {f44 : Addr} {od44 an44 : Option Addr} {sl44 : Array (Option Value)} {oc44 kV44 dc44 pm44 cd44 ct44 : Value}
    (a44 : PySem.W.nsIn K mainGlobals "_law_names" = some (some (.ref f44)))
    (l44 : K.lookup f44 = some ⟨oc44, od44, .func (PySem.W.fnOf "_law_names" "_law_names" (defArgs s_law_names) (defBody s_law_names) (defScope s_law_names) .none kV44 dc44 pm44 an44 cd44 ct44), sl44⟩) (c44 : PySem.W.codeIn K cd44 "_law_names" = true) (k44 : PySem.W.keepIn K (.ref f44) = true)
    {f45 : Addr} {od45 an45 : Option Addr} {sl45 : Array (Option Value)} {oc45 kV45 dc45 pm45 cd45 ct45 : Value}
    (a45 : PySem.W.nsIn K mainGlobals "_law_world" = some (some (.ref f45)))
    (l45 : K.lookup f45 = some ⟨oc45, od45, .func (PySem.W.fnOf "_law_world" "_law_world" (defArgs s_law_world) (defBody s_law_world) (defScope s_law_world) .none kV45 dc45 pm45 an45 cd45 ct45), sl45⟩) (c45 : PySem.W.codeIn K cd45 "_law_world" = true) (k45 : PySem.W.keepIn K (.ref f45) = true)
    {f46 : Addr} {od46 an46 : Option Addr} {sl46 : Array (Option Value)} {oc46 kV46 dc46 pm46 cd46 ct46 : Value}
    (a46 : PySem.W.nsIn K mainGlobals "_law_rows" = some (some (.ref f46)))
    (l46 : K.lookup f46 = some ⟨oc46, od46, .func (PySem.W.fnOf "_law_rows" "_law_rows" (defArgs s_law_rows) (defBody s_law_rows) (defScope s_law_rows) .none kV46 dc46 pm46 an46 cd46 ct46), sl46⟩) (c46 : PySem.W.codeIn K cd46 "_law_rows" = true) (k46 : PySem.W.keepIn K (.ref f46) = true)
    {f47 : Addr} {od47 an47 : Option Addr} {sl47 : Array (Option Value)} {oc47 kV47 dc47 pm47 cd47 ct47 : Value}
    (a47 : PySem.W.nsIn K mainGlobals "_law_stretches_asked_right" = some (some (.ref f47)))
    (l47 : K.lookup f47 = some ⟨oc47, od47, .func (PySem.W.fnOf "_law_stretches_asked_right" "_law_stretches_asked_right" (defArgs s_law_stretches_asked_right) (defBody s_law_stretches_asked_right) (defScope s_law_stretches_asked_right) .none kV47 dc47 pm47 an47 cd47 ct47), sl47⟩) (c47 : PySem.W.codeIn K cd47 "_law_stretches_asked_right" = true) (k47 : PySem.W.keepIn K (.ref f47) = true)
    {f48 : Addr} {od48 an48 : Option Addr} {sl48 : Array (Option Value)} {oc48 kV48 dc48 pm48 cd48 ct48 : Value}
    (a48 : PySem.W.nsIn K mainGlobals "_law_asked_right" = some (some (.ref f48)))
    (l48 : K.lookup f48 = some ⟨oc48, od48, .func (PySem.W.fnOf "_law_asked_right" "_law_asked_right" (defArgs s_law_asked_right) (defBody s_law_asked_right) (defScope s_law_asked_right) .none kV48 dc48 pm48 an48 cd48 ct48), sl48⟩) (c48 : PySem.W.codeIn K cd48 "_law_asked_right" = true) (k48 : PySem.W.keepIn K (.ref f48) = true)
    {f49 : Addr} {od49 an49 : Option Addr} {sl49 : Array (Option Value)} {oc49 kV49 dc49 pm49 cd49 ct49 : Value}
    (a49 : PySem.W.nsIn K mainGlobals "_law_right" = some (some (.ref f49)))
    (l49 : K.lookup f49 = some ⟨oc49, od49, .func (PySem.W.fnOf "_law_right" "_law_right" (defArgs s_law_right) (defBody s_law_right) (defScope s_law_right) .none kV49 dc49 pm49 an49 cd49 ct49), sl49⟩) (c49 : PySem.W.codeIn K cd49 "_law_right" = true) (k49 : PySem.W.keepIn K (.ref f49) = true)
    {f50 : Addr} {od50 an50 : Option Addr} {sl50 : Array (Option Value)} {oc50 kV50 dc50 pm50 cd50 ct50 : Value}
    (a50 : PySem.W.nsIn K mainGlobals "law" = some (some (.ref f50)))
    (l50 : K.lookup f50 = some ⟨oc50, od50, .func (PySem.W.fnOf "law" "law" (defArgs s_law) (defBody s_law) (defScope s_law) .none kV50 dc50 pm50 an50 cd50 ct50), sl50⟩) (c50 : PySem.W.codeIn K cd50 "law" = true) (k50 : PySem.W.keepIn K (.ref f50) = true)
    (pg_Line : PySem.W.plainGet K C_Line Str.empty = true) (hd_Line : PySem.W.hasDictIn K C_Line = true) (po_Line : PySem.W.plainOver K C_Line = true) (sa_Line : PySem.W.findIn K (.ref C_Line) "__setattr__" = some (some (.builtin "object.__setattr__"))) (mk_Line : PySem.W.makesIn K C_Line = true) (kc_Line : PySem.W.keepIn K (.ref C_Line) = true)
    (if_Line : PySem.W.isFn K (.ref f19) = true)
    (na_Line_kept_places : PySem.W.findIn K (.ref C_Line) "kept_places" = some none)
    (na_Line_kept_stretches : PySem.W.findIn K (.ref C_Line) "kept_stretches" = some none)
    (na_Line_kept_longs : PySem.W.findIn K (.ref C_Line) "kept_longs" = some none)
    (fn_Line_names : PySem.W.isFn K (.ref f20) = true)
    (fn_Line_number_of : PySem.W.isFn K (.ref f21) = true)
    (fn_Line_roads : PySem.W.isFn K (.ref f22) = true)
    (fn_Line_many_stretches : PySem.W.isFn K (.ref f23) = true)
    (fn_Line_need_stretch : PySem.W.isFn K (.ref f24) = true)
    (fn_Line_ends : PySem.W.isFn K (.ref f25) = true)
    (fn_Line_kind : PySem.W.isFn K (.ref f26) = true)
    (fn_Line_home : PySem.W.isFn K (.ref f27) = true)
    (fn_Line_between : PySem.W.isFn K (.ref f28) = true)
    (fn_Line_many_longs : PySem.W.isFn K (.ref f29) = true)
    (fn_Line_need_long : PySem.W.isFn K (.ref f30) = true)
    (fn_Line_long_ends : PySem.W.isFn K (.ref f31) = true)
    (fn_Line_long_stretches : PySem.W.isFn K (.ref f32) = true)
    (fn_Line_long_home : PySem.W.isFn K (.ref f33) = true)
    (fn_Line_long_between : PySem.W.isFn K (.ref f34) = true)
    (fn_Line_long_of : PySem.W.isFn K (.ref f35) = true)
    (fn_Line_told : PySem.W.isFn K (.ref f36) = true)
    {nm_NoName q_NoName : Str} {N_NoName : Addr} {bs_NoName bm_NoName sub_NoName : List Value} {sn_NoName : List Str} {ab_NoName : Bool} {col_NoName : Option Bool} {dd_NoName : Option Addr} {e0_NoName e1_NoName e2_NoName e3_NoName e5_NoName : Option Value}
    (xL_NoName : K.lookup C_NoName = some (excClassObj nm_NoName q_NoName C_NoName N_NoName bs_NoName bm_NoName true sn_NoName sub_NoName ab_NoName col_NoName dd_NoName e0_NoName e1_NoName e2_NoName e3_NoName e5_NoName "ValueError.__new__")) (ve_NoName : PySem.HandSPX.refsVE bm_NoName = true)
    (sa_NoName : PySem.W.findIn K (.ref C_NoName) "__setattr__" = some (some (.builtin "object.__setattr__")))
    (ga_NoName : PySem.W.findIn K (.ref C_NoName) "__getattribute__" = some (some (.builtin "BaseException.__getattribute__")))
    (gg_NoName : PySem.W.findIn K (.ref C_NoName) "__getattr__" = some none)
    (no_NoName : PySem.W.findIn K (.ref C_NoName) "found" = some none)
    (ex_NoName : PySem.W.subIn K (.ref C_NoName) (.type "BaseException") = some true)
    (ty_NoName : PySem.W.typeIn K (.ref C_NoName) = some (.type "type"))
    (kC_NoName : PySem.W.keepIn K (.ref C_NoName) = true)
    (hd_NoName : PySem.W.hasDictIn K C_NoName = true)
    (ha_NoName : PySem.W.findIn K (.ref C_NoName) "__class__" = some (some (.builtin "object.__class__")))
    (hm_NoName : PySem.W.mroIn K C_NoName (.type "object") = some true)
    (ti_NoName : PySem.W.typeIn K (.ref f1) = some (.type "function"))
    {nm_NoPlace q_NoPlace : Str} {N_NoPlace : Addr} {bs_NoPlace bm_NoPlace sub_NoPlace : List Value} {sn_NoPlace : List Str} {ab_NoPlace : Bool} {col_NoPlace : Option Bool} {dd_NoPlace : Option Addr} {e0_NoPlace e1_NoPlace e2_NoPlace e3_NoPlace e5_NoPlace : Option Value}
    (xL_NoPlace : K.lookup C_NoPlace = some (excClassObj nm_NoPlace q_NoPlace C_NoPlace N_NoPlace bs_NoPlace bm_NoPlace true sn_NoPlace sub_NoPlace ab_NoPlace col_NoPlace dd_NoPlace e0_NoPlace e1_NoPlace e2_NoPlace e3_NoPlace e5_NoPlace "ValueError.__new__")) (ve_NoPlace : PySem.HandSPX.refsVE bm_NoPlace = true)
    (sa_NoPlace : PySem.W.findIn K (.ref C_NoPlace) "__setattr__" = some (some (.builtin "object.__setattr__")))
    (ga_NoPlace : PySem.W.findIn K (.ref C_NoPlace) "__getattribute__" = some (some (.builtin "BaseException.__getattribute__")))
    (gg_NoPlace : PySem.W.findIn K (.ref C_NoPlace) "__getattr__" = some none)
    (no_NoPlace : PySem.W.findIn K (.ref C_NoPlace) "found" = some none)
    (ex_NoPlace : PySem.W.subIn K (.ref C_NoPlace) (.type "BaseException") = some true)
    (ty_NoPlace : PySem.W.typeIn K (.ref C_NoPlace) = some (.type "type"))
    (kC_NoPlace : PySem.W.keepIn K (.ref C_NoPlace) = true)
    (hd_NoPlace : PySem.W.hasDictIn K C_NoPlace = true)
    (ha_NoPlace : PySem.W.findIn K (.ref C_NoPlace) "__class__" = some (some (.builtin "object.__class__")))
    (hm_NoPlace : PySem.W.mroIn K C_NoPlace (.type "object") = some true)
    (ti_NoPlace : PySem.W.typeIn K (.ref f2) = some (.type "function"))
    {nm_NoStretch q_NoStretch : Str} {N_NoStretch : Addr} {bs_NoStretch bm_NoStretch sub_NoStretch : List Value} {sn_NoStretch : List Str} {ab_NoStretch : Bool} {col_NoStretch : Option Bool} {dd_NoStretch : Option Addr} {e0_NoStretch e1_NoStretch e2_NoStretch e3_NoStretch e5_NoStretch : Option Value}
    (xL_NoStretch : K.lookup C_NoStretch = some (excClassObj nm_NoStretch q_NoStretch C_NoStretch N_NoStretch bs_NoStretch bm_NoStretch true sn_NoStretch sub_NoStretch ab_NoStretch col_NoStretch dd_NoStretch e0_NoStretch e1_NoStretch e2_NoStretch e3_NoStretch e5_NoStretch "ValueError.__new__")) (ve_NoStretch : PySem.HandSPX.refsVE bm_NoStretch = true)
    (sa_NoStretch : PySem.W.findIn K (.ref C_NoStretch) "__setattr__" = some (some (.builtin "object.__setattr__")))
    (ga_NoStretch : PySem.W.findIn K (.ref C_NoStretch) "__getattribute__" = some (some (.builtin "BaseException.__getattribute__")))
    (gg_NoStretch : PySem.W.findIn K (.ref C_NoStretch) "__getattr__" = some none)
    (no_NoStretch : PySem.W.findIn K (.ref C_NoStretch) "found" = some none)
    (ex_NoStretch : PySem.W.subIn K (.ref C_NoStretch) (.type "BaseException") = some true)
    (ty_NoStretch : PySem.W.typeIn K (.ref C_NoStretch) = some (.type "type"))
    (kC_NoStretch : PySem.W.keepIn K (.ref C_NoStretch) = true)
    (hd_NoStretch : PySem.W.hasDictIn K C_NoStretch = true)
    (ha_NoStretch : PySem.W.findIn K (.ref C_NoStretch) "__class__" = some (some (.builtin "object.__class__")))
    (hm_NoStretch : PySem.W.mroIn K C_NoStretch (.type "object") = some true)
    (ti_NoStretch : PySem.W.typeIn K (.ref f3) = some (.type "function"))
    {nm_NoLong q_NoLong : Str} {N_NoLong : Addr} {bs_NoLong bm_NoLong sub_NoLong : List Value} {sn_NoLong : List Str} {ab_NoLong : Bool} {col_NoLong : Option Bool} {dd_NoLong : Option Addr} {e0_NoLong e1_NoLong e2_NoLong e3_NoLong e5_NoLong : Option Value}
    (xL_NoLong : K.lookup C_NoLong = some (excClassObj nm_NoLong q_NoLong C_NoLong N_NoLong bs_NoLong bm_NoLong true sn_NoLong sub_NoLong ab_NoLong col_NoLong dd_NoLong e0_NoLong e1_NoLong e2_NoLong e3_NoLong e5_NoLong "ValueError.__new__")) (ve_NoLong : PySem.HandSPX.refsVE bm_NoLong = true)
    (sa_NoLong : PySem.W.findIn K (.ref C_NoLong) "__setattr__" = some (some (.builtin "object.__setattr__")))
    (ga_NoLong : PySem.W.findIn K (.ref C_NoLong) "__getattribute__" = some (some (.builtin "BaseException.__getattribute__")))
    (gg_NoLong : PySem.W.findIn K (.ref C_NoLong) "__getattr__" = some none)
    (no_NoLong : PySem.W.findIn K (.ref C_NoLong) "found" = some none)
    (ex_NoLong : PySem.W.subIn K (.ref C_NoLong) (.type "BaseException") = some true)
    (ty_NoLong : PySem.W.typeIn K (.ref C_NoLong) = some (.type "type"))
    (kC_NoLong : PySem.W.keepIn K (.ref C_NoLong) = true)
    (hd_NoLong : PySem.W.hasDictIn K C_NoLong = true)
    (ha_NoLong : PySem.W.findIn K (.ref C_NoLong) "__class__" = some (some (.builtin "object.__class__")))
    (hm_NoLong : PySem.W.mroIn K C_NoLong (.type "object") = some true)
    (ti_NoLong : PySem.W.typeIn K (.ref f4) = some (.type "function"))
    {nm_NoPlaces q_NoPlaces : Str} {N_NoPlaces : Addr} {bs_NoPlaces bm_NoPlaces sub_NoPlaces : List Value} {sn_NoPlaces : List Str} {ab_NoPlaces : Bool} {col_NoPlaces : Option Bool} {dd_NoPlaces : Option Addr} {e0_NoPlaces e1_NoPlaces e2_NoPlaces e3_NoPlaces e5_NoPlaces : Option Value}
    (xL_NoPlaces : K.lookup C_NoPlaces = some (excClassObj nm_NoPlaces q_NoPlaces C_NoPlaces N_NoPlaces bs_NoPlaces bm_NoPlaces true sn_NoPlaces sub_NoPlaces ab_NoPlaces col_NoPlaces dd_NoPlaces e0_NoPlaces e1_NoPlaces e2_NoPlaces e3_NoPlaces e5_NoPlaces "ValueError.__new__")) (ve_NoPlaces : PySem.HandSPX.refsVE bm_NoPlaces = true)
    (sa_NoPlaces : PySem.W.findIn K (.ref C_NoPlaces) "__setattr__" = some (some (.builtin "object.__setattr__")))
    (ga_NoPlaces : PySem.W.findIn K (.ref C_NoPlaces) "__getattribute__" = some (some (.builtin "BaseException.__getattribute__")))
    (gg_NoPlaces : PySem.W.findIn K (.ref C_NoPlaces) "__getattr__" = some none)
    (no_NoPlaces : PySem.W.findIn K (.ref C_NoPlaces) "found" = some none)
    (ex_NoPlaces : PySem.W.subIn K (.ref C_NoPlaces) (.type "BaseException") = some true)
    (ty_NoPlaces : PySem.W.typeIn K (.ref C_NoPlaces) = some (.type "type"))
    (kC_NoPlaces : PySem.W.keepIn K (.ref C_NoPlaces) = true)
    (hd_NoPlaces : PySem.W.hasDictIn K C_NoPlaces = true)
    (ha_NoPlaces : PySem.W.findIn K (.ref C_NoPlaces) "__class__" = some (some (.builtin "object.__class__")))
    (hm_NoPlaces : PySem.W.mroIn K C_NoPlaces (.type "object") = some true)
    (ti_NoPlaces : PySem.W.typeIn K (.ref f5) = some (.type "function"))
    {nm_NoStretches q_NoStretches : Str} {N_NoStretches : Addr} {bs_NoStretches bm_NoStretches sub_NoStretches : List Value} {sn_NoStretches : List Str} {ab_NoStretches : Bool} {col_NoStretches : Option Bool} {dd_NoStretches : Option Addr} {e0_NoStretches e1_NoStretches e2_NoStretches e3_NoStretches e5_NoStretches : Option Value}
    (xL_NoStretches : K.lookup C_NoStretches = some (excClassObj nm_NoStretches q_NoStretches C_NoStretches N_NoStretches bs_NoStretches bm_NoStretches true sn_NoStretches sub_NoStretches ab_NoStretches col_NoStretches dd_NoStretches e0_NoStretches e1_NoStretches e2_NoStretches e3_NoStretches e5_NoStretches "ValueError.__new__")) (ve_NoStretches : PySem.HandSPX.refsVE bm_NoStretches = true)
    (sa_NoStretches : PySem.W.findIn K (.ref C_NoStretches) "__setattr__" = some (some (.builtin "object.__setattr__")))
    (ga_NoStretches : PySem.W.findIn K (.ref C_NoStretches) "__getattribute__" = some (some (.builtin "BaseException.__getattribute__")))
    (gg_NoStretches : PySem.W.findIn K (.ref C_NoStretches) "__getattr__" = some none)
    (no_NoStretches : PySem.W.findIn K (.ref C_NoStretches) "found" = some none)
    (ex_NoStretches : PySem.W.subIn K (.ref C_NoStretches) (.type "BaseException") = some true)
    (ty_NoStretches : PySem.W.typeIn K (.ref C_NoStretches) = some (.type "type"))
    (kC_NoStretches : PySem.W.keepIn K (.ref C_NoStretches) = true)
    (hd_NoStretches : PySem.W.hasDictIn K C_NoStretches = true)
    (ha_NoStretches : PySem.W.findIn K (.ref C_NoStretches) "__class__" = some (some (.builtin "object.__class__")))
    (hm_NoStretches : PySem.W.mroIn K C_NoStretches (.type "object") = some true)
    (ti_NoStretches : PySem.W.typeIn K (.ref f6) = some (.type "function"))
    {nm_NoLongs q_NoLongs : Str} {N_NoLongs : Addr} {bs_NoLongs bm_NoLongs sub_NoLongs : List Value} {sn_NoLongs : List Str} {ab_NoLongs : Bool} {col_NoLongs : Option Bool} {dd_NoLongs : Option Addr} {e0_NoLongs e1_NoLongs e2_NoLongs e3_NoLongs e5_NoLongs : Option Value}
    (xL_NoLongs : K.lookup C_NoLongs = some (excClassObj nm_NoLongs q_NoLongs C_NoLongs N_NoLongs bs_NoLongs bm_NoLongs true sn_NoLongs sub_NoLongs ab_NoLongs col_NoLongs dd_NoLongs e0_NoLongs e1_NoLongs e2_NoLongs e3_NoLongs e5_NoLongs "ValueError.__new__")) (ve_NoLongs : PySem.HandSPX.refsVE bm_NoLongs = true)
    (sa_NoLongs : PySem.W.findIn K (.ref C_NoLongs) "__setattr__" = some (some (.builtin "object.__setattr__")))
    (ga_NoLongs : PySem.W.findIn K (.ref C_NoLongs) "__getattribute__" = some (some (.builtin "BaseException.__getattribute__")))
    (gg_NoLongs : PySem.W.findIn K (.ref C_NoLongs) "__getattr__" = some none)
    (no_NoLongs : PySem.W.findIn K (.ref C_NoLongs) "found" = some none)
    (ex_NoLongs : PySem.W.subIn K (.ref C_NoLongs) (.type "BaseException") = some true)
    (ty_NoLongs : PySem.W.typeIn K (.ref C_NoLongs) = some (.type "type"))
    (kC_NoLongs : PySem.W.keepIn K (.ref C_NoLongs) = true)
    (hd_NoLongs : PySem.W.hasDictIn K C_NoLongs = true)
    (ha_NoLongs : PySem.W.findIn K (.ref C_NoLongs) "__class__" = some (some (.builtin "object.__class__")))
    (hm_NoLongs : PySem.W.mroIn K C_NoLongs (.type "object") = some true)
    (ti_NoLongs : PySem.W.typeIn K (.ref f7) = some (.type "function"))
    {nm_NoNumber q_NoNumber : Str} {N_NoNumber : Addr} {bs_NoNumber bm_NoNumber sub_NoNumber : List Value} {sn_NoNumber : List Str} {ab_NoNumber : Bool} {col_NoNumber : Option Bool} {dd_NoNumber : Option Addr} {e0_NoNumber e1_NoNumber e2_NoNumber e3_NoNumber e5_NoNumber : Option Value}
    (xL_NoNumber : K.lookup C_NoNumber = some (excClassObj nm_NoNumber q_NoNumber C_NoNumber N_NoNumber bs_NoNumber bm_NoNumber true sn_NoNumber sub_NoNumber ab_NoNumber col_NoNumber dd_NoNumber e0_NoNumber e1_NoNumber e2_NoNumber e3_NoNumber e5_NoNumber "ValueError.__new__")) (ve_NoNumber : PySem.HandSPX.refsVE bm_NoNumber = true)
    (sa_NoNumber : PySem.W.findIn K (.ref C_NoNumber) "__setattr__" = some (some (.builtin "object.__setattr__")))
    (ga_NoNumber : PySem.W.findIn K (.ref C_NoNumber) "__getattribute__" = some (some (.builtin "BaseException.__getattribute__")))
    (gg_NoNumber : PySem.W.findIn K (.ref C_NoNumber) "__getattr__" = some none)
    (no_NoNumber : PySem.W.findIn K (.ref C_NoNumber) "found" = some none)
    (ex_NoNumber : PySem.W.subIn K (.ref C_NoNumber) (.type "BaseException") = some true)
    (ty_NoNumber : PySem.W.typeIn K (.ref C_NoNumber) = some (.type "type"))
    (kC_NoNumber : PySem.W.keepIn K (.ref C_NoNumber) = true)
    (hd_NoNumber : PySem.W.hasDictIn K C_NoNumber = true)
    (ha_NoNumber : PySem.W.findIn K (.ref C_NoNumber) "__class__" = some (some (.builtin "object.__class__")))
    (hm_NoNumber : PySem.W.mroIn K C_NoNumber (.type "object") = some true)
    (ti_NoNumber : PySem.W.typeIn K (.ref f8) = some (.type "function"))
    {nm_Twice q_Twice : Str} {N_Twice : Addr} {bs_Twice bm_Twice sub_Twice : List Value} {sn_Twice : List Str} {ab_Twice : Bool} {col_Twice : Option Bool} {dd_Twice : Option Addr} {e0_Twice e1_Twice e2_Twice e3_Twice e5_Twice : Option Value}
    (xL_Twice : K.lookup C_Twice = some (excClassObj nm_Twice q_Twice C_Twice N_Twice bs_Twice bm_Twice true sn_Twice sub_Twice ab_Twice col_Twice dd_Twice e0_Twice e1_Twice e2_Twice e3_Twice e5_Twice "ValueError.__new__")) (ve_Twice : PySem.HandSPX.refsVE bm_Twice = true)
    (sa_Twice : PySem.W.findIn K (.ref C_Twice) "__setattr__" = some (some (.builtin "object.__setattr__")))
    (ga_Twice : PySem.W.findIn K (.ref C_Twice) "__getattribute__" = some (some (.builtin "BaseException.__getattribute__")))
    (gg_Twice : PySem.W.findIn K (.ref C_Twice) "__getattr__" = some none)
    (no_Twice : PySem.W.findIn K (.ref C_Twice) "found" = some none)
    (ex_Twice : PySem.W.subIn K (.ref C_Twice) (.type "BaseException") = some true)
    (ty_Twice : PySem.W.typeIn K (.ref C_Twice) = some (.type "type"))
    (kC_Twice : PySem.W.keepIn K (.ref C_Twice) = true)
    (hd_Twice : PySem.W.hasDictIn K C_Twice = true)
    (ha_Twice : PySem.W.findIn K (.ref C_Twice) "__class__" = some (some (.builtin "object.__class__")))
    (hm_Twice : PySem.W.mroIn K C_Twice (.type "object") = some true)
    (ti_Twice : PySem.W.typeIn K (.ref f9) = some (.type "function"))
    {nm_NoText q_NoText : Str} {N_NoText : Addr} {bs_NoText bm_NoText sub_NoText : List Value} {sn_NoText : List Str} {ab_NoText : Bool} {col_NoText : Option Bool} {dd_NoText : Option Addr} {e0_NoText e1_NoText e2_NoText e3_NoText e5_NoText : Option Value}
    (xL_NoText : K.lookup C_NoText = some (excClassObj nm_NoText q_NoText C_NoText N_NoText bs_NoText bm_NoText true sn_NoText sub_NoText ab_NoText col_NoText dd_NoText e0_NoText e1_NoText e2_NoText e3_NoText e5_NoText "ValueError.__new__")) (ve_NoText : PySem.HandSPX.refsVE bm_NoText = true)
    (sa_NoText : PySem.W.findIn K (.ref C_NoText) "__setattr__" = some (some (.builtin "object.__setattr__")))
    (ga_NoText : PySem.W.findIn K (.ref C_NoText) "__getattribute__" = some (some (.builtin "BaseException.__getattribute__")))
    (gg_NoText : PySem.W.findIn K (.ref C_NoText) "__getattr__" = some none)
    (no_NoText : PySem.W.findIn K (.ref C_NoText) "row" = some none)
    (ex_NoText : PySem.W.subIn K (.ref C_NoText) (.type "BaseException") = some true)
    (ty_NoText : PySem.W.typeIn K (.ref C_NoText) = some (.type "type"))
    (kC_NoText : PySem.W.keepIn K (.ref C_NoText) = true)
    (hd_NoText : PySem.W.hasDictIn K C_NoText = true)
    (ha_NoText : PySem.W.findIn K (.ref C_NoText) "__class__" = some (some (.builtin "object.__class__")))
    (hm_NoText : PySem.W.mroIn K C_NoText (.type "object") = some true)
    (ti_NoText : PySem.W.typeIn K (.ref f10) = some (.type "function"))
    (rd_StaffError : PySem.W.readsIn K C_StaffError (.type "type") = true) (rg_StaffError : PySem.W.specialIn K (.ref C_StaffError) "__getattribute__" = some (some (.builtin "type.__getattribute__"))) (vi_StaffError : PySem.W.findCls K (.ref C_StaffError) (.type "type") "__init__" = some (.val (.builtin "ValueError.__init__")))
    (oc_get : PySem.W.specialIn K (.builtin "object.__class__") "__get__" = some (some (.builtin "getset_descriptor.__get__"))) (oc_take : PySem.W.takesIn K (.builtin "object.__class__") = some true)
    (ia_Line : PySem.W.findIn K (.ref C_Line) "__class__" = some (some (.builtin "object.__class__"))) (im_Line : PySem.W.mroIn K C_Line (.type "object") = some true)
    (ki_Line_Line : PySem.W.kitOne K (.ref C_Line) (.ref C_Line) = some true)
    {u_LONGEST : Value} (g_LONGEST : PySem.W.nsIn K mainGlobals "LONGEST" = some (some u_LONGEST)) (r_LONGEST : RelV (V.int 6) u_LONGEST)
    {u_LETTERS : Value} (g_LETTERS : PySem.W.nsIn K mainGlobals "LETTERS" = some (some u_LETTERS)) (r_LETTERS : RelV (V.str "abcdefghijklmnopqrstuvwxyz") u_LETTERS)
    {u_FEWEST_PLACES : Value} (g_FEWEST_PLACES : PySem.W.nsIn K mainGlobals "FEWEST_PLACES" = some (some u_FEWEST_PLACES)) (r_FEWEST_PLACES : RelV (V.int 2) u_FEWEST_PLACES)
    {u_MOST_PLACES : Value} (g_MOST_PLACES : PySem.W.nsIn K mainGlobals "MOST_PLACES" = some (some u_MOST_PLACES)) (r_MOST_PLACES : RelV (V.int 6) u_MOST_PLACES)
    {u_MOST_ROADS : Value} (g_MOST_ROADS : PySem.W.nsIn K mainGlobals "MOST_ROADS" = some (some u_MOST_ROADS)) (r_MOST_ROADS : RelV (V.int 3) u_MOST_ROADS)
    {u_MOST_LONGS : Value} (g_MOST_LONGS : PySem.W.nsIn K mainGlobals "MOST_LONGS" = some (some u_MOST_LONGS)) (r_MOST_LONGS : RelV (V.int 2) u_MOST_LONGS)
    {t_HOMES : Addr} {oT_HOMES : Obj} (gt_HOMES : PySem.W.nsIn K mainGlobals "HOMES" = some (some (.ref t_HOMES))) (lt_HOMES : K.lookup t_HOMES = some oT_HOMES) (kt_HOMES : (oT_HOMES.cls = .type "tuple" ∧ oT_HOMES.dict = none) ∧ ∃ (its : Array Value) (n : Nat), oT_HOMES.data = .seq its n ∧ its.size ≤ sizeLine ∧ Vals [V.str "low", V.str "high"] its.toList)
    {t_SORTS : Addr} {oT_SORTS : Obj} (gt_SORTS : PySem.W.nsIn K mainGlobals "SORTS" = some (some (.ref t_SORTS))) (lt_SORTS : K.lookup t_SORTS = some oT_SORTS) (kt_SORTS : (oT_SORTS.cls = .type "tuple" ∧ oT_SORTS.dict = none) ∧ ∃ (its : Array Value) (n : Nat), oT_SORTS.data = .seq its n ∧ its.size ≤ sizeLine ∧ Vals [V.str "place", V.str "stretch", V.str "long"] its.toList)
    (z_abs : PySem.W.nsIn K mainGlobals "abs" = some none)
    (z_all : PySem.W.nsIn K mainGlobals "all" = some none)
    (z_bool : PySem.W.nsIn K mainGlobals "bool" = some none)
    (z_enumerate : PySem.W.nsIn K mainGlobals "enumerate" = some none)
    (z_int : PySem.W.nsIn K mainGlobals "int" = some none)
    (z_isinstance : PySem.W.nsIn K mainGlobals "isinstance" = some none)
    (z_len : PySem.W.nsIn K mainGlobals "len" = some none)
    (z_list : PySem.W.nsIn K mainGlobals "list" = some none)
    (z_max : PySem.W.nsIn K mainGlobals "max" = some none)
    (z_min : PySem.W.nsIn K mainGlobals "min" = some none)
    (z_range : PySem.W.nsIn K mainGlobals "range" = some none)
    (z_repr : PySem.W.nsIn K mainGlobals "repr" = some none)
    (z_str : PySem.W.nsIn K mainGlobals "str" = some none)
    (z_tuple : PySem.W.nsIn K mainGlobals "tuple" = some none) :
    ∃ fd : FuncData, (∀ (s : Shared) (v : Value), BindsTo s fd ⟨[v], []⟩ [("_law_script", v)]) ∧ ∀ base : Heap, K.In base → base.Ns mainGlobals mg → (∃ mm, base.Ns sysModules mm) → FnG l.prog w K mg base (L2.CX l.prog w) 9 fa fd ["_law_script"] (sp_law K) := by
  have e : fa = f50 := by
    have z := hfa.symm.trans (PySem.W.mg_of X G a50)
    injection z with z; injection z
  let T : Tx K mg := {
    C_Line := C_Line, m_Line := PySem.W.mg_of X G n_Line,
    C_NoName := C_NoName, m_NoName := PySem.W.mg_of X G n_NoName,
    C_NoPlace := C_NoPlace, m_NoPlace := PySem.W.mg_of X G n_NoPlace,
    C_NoStretch := C_NoStretch, m_NoStretch := PySem.W.mg_of X G n_NoStretch,
    C_NoLong := C_NoLong, m_NoLong := PySem.W.mg_of X G n_NoLong,
    C_NoPlaces := C_NoPlaces, m_NoPlaces := PySem.W.mg_of X G n_NoPlaces,
    C_NoStretches := C_NoStretches, m_NoStretches := PySem.W.mg_of X G n_NoStretches,
    C_NoLongs := C_NoLongs, m_NoLongs := PySem.W.mg_of X G n_NoLongs,
    C_NoNumber := C_NoNumber, m_NoNumber := PySem.W.mg_of X G n_NoNumber,
    C_Twice := C_Twice, m_Twice := PySem.W.mg_of X G n_Twice,
    C_NoText := C_NoText, m_NoText := PySem.W.mg_of X G n_NoText,
    C_StaffError := C_StaffError, m_StaffError := PySem.W.mg_of X G n_StaffError,
    a_NoName_init := f1, d_NoName_init := _, F_NoName_init := fun_mk (st := s_NoName_init) l1 c1 k1, B_NoName_init := (fun_mk (st := s_NoName_init) l1 c1 k1).binds (ps := ["self", "found"]) (fun _ _ _ _ _ _ us hl => match us, hl with | [_, _], _ => rfl),
    a_NoPlace_init := f2, d_NoPlace_init := _, F_NoPlace_init := fun_mk (st := s_NoPlace_init) l2 c2 k2, B_NoPlace_init := (fun_mk (st := s_NoPlace_init) l2 c2 k2).binds (ps := ["self", "found"]) (fun _ _ _ _ _ _ us hl => match us, hl with | [_, _], _ => rfl),
    a_NoStretch_init := f3, d_NoStretch_init := _, F_NoStretch_init := fun_mk (st := s_NoStretch_init) l3 c3 k3, B_NoStretch_init := (fun_mk (st := s_NoStretch_init) l3 c3 k3).binds (ps := ["self", "found"]) (fun _ _ _ _ _ _ us hl => match us, hl with | [_, _], _ => rfl),
    a_NoLong_init := f4, d_NoLong_init := _, F_NoLong_init := fun_mk (st := s_NoLong_init) l4 c4 k4, B_NoLong_init := (fun_mk (st := s_NoLong_init) l4 c4 k4).binds (ps := ["self", "found"]) (fun _ _ _ _ _ _ us hl => match us, hl with | [_, _], _ => rfl),
    a_NoPlaces_init := f5, d_NoPlaces_init := _, F_NoPlaces_init := fun_mk (st := s_NoPlaces_init) l5 c5 k5, B_NoPlaces_init := (fun_mk (st := s_NoPlaces_init) l5 c5 k5).binds (ps := ["self", "found"]) (fun _ _ _ _ _ _ us hl => match us, hl with | [_, _], _ => rfl),
    a_NoStretches_init := f6, d_NoStretches_init := _, F_NoStretches_init := fun_mk (st := s_NoStretches_init) l6 c6 k6, B_NoStretches_init := (fun_mk (st := s_NoStretches_init) l6 c6 k6).binds (ps := ["self", "found"]) (fun _ _ _ _ _ _ us hl => match us, hl with | [_, _], _ => rfl),
    a_NoLongs_init := f7, d_NoLongs_init := _, F_NoLongs_init := fun_mk (st := s_NoLongs_init) l7 c7 k7, B_NoLongs_init := (fun_mk (st := s_NoLongs_init) l7 c7 k7).binds (ps := ["self", "found"]) (fun _ _ _ _ _ _ us hl => match us, hl with | [_, _], _ => rfl),
    a_NoNumber_init := f8, d_NoNumber_init := _, F_NoNumber_init := fun_mk (st := s_NoNumber_init) l8 c8 k8, B_NoNumber_init := (fun_mk (st := s_NoNumber_init) l8 c8 k8).binds (ps := ["self", "found"]) (fun _ _ _ _ _ _ us hl => match us, hl with | [_, _], _ => rfl),
    a_Twice_init := f9, d_Twice_init := _, F_Twice_init := fun_mk (st := s_Twice_init) l9 c9 k9, B_Twice_init := (fun_mk (st := s_Twice_init) l9 c9 k9).binds (ps := ["self", "found"]) (fun _ _ _ _ _ _ us hl => match us, hl with | [_, _], _ => rfl),
    a_NoText_init := f10, d_NoText_init := _, F_NoText_init := fun_mk (st := s_NoText_init) l10 c10 k10, B_NoText_init := (fun_mk (st := s_NoText_init) l10 c10 k10).binds (ps := ["self", "row"]) (fun _ _ _ _ _ _ us hl => match us, hl with | [_, _], _ => rfl),
    a_is_whole := f11, d_is_whole := _, F_is_whole := fun_mk (st := s_is_whole) l11 c11 k11, B_is_whole := (fun_mk (st := s_is_whole) l11 c11 k11).binds (ps := ["thing", "low", "high"]) (fun _ _ _ _ _ _ us hl => match us, hl with | [_, _, _], _ => rfl), m_is_whole := PySem.W.mg_of X G a11,
    a_is_name := f12, d_is_name := _, F_is_name := fun_mk (st := s_is_name) l12 c12 k12, B_is_name := (fun_mk (st := s_is_name) l12 c12 k12).binds (ps := ["thing"]) (fun _ _ _ _ _ _ us hl => match us, hl with | [_], _ => rfl), m_is_name := PySem.W.mg_of X G a12,
    a_is_row := f13, d_is_row := _, F_is_row := fun_mk (st := s_is_row) l13 c13 k13, B_is_row := (fun_mk (st := s_is_row) l13 c13 k13).binds (ps := ["thing", "size"]) (fun _ _ _ _ _ _ us hl => match us, hl with | [_, _], _ => rfl), m_is_row := PySem.W.mg_of X G a13,
    a_good_places := f14, d_good_places := _, F_good_places := fun_mk (st := s_good_places) l14 c14 k14, B_good_places := (fun_mk (st := s_good_places) l14 c14 k14).binds (ps := ["places"]) (fun _ _ _ _ _ _ us hl => match us, hl with | [_], _ => rfl), m_good_places := PySem.W.mg_of X G a14,
    a_is_stretch := f15, d_is_stretch := _, F_is_stretch := fun_mk (st := s_is_stretch) l15 c15 k15, B_is_stretch := (fun_mk (st := s_is_stretch) l15 c15 k15).binds (ps := ["thing"]) (fun _ _ _ _ _ _ us hl => match us, hl with | [_], _ => rfl), m_is_stretch := PySem.W.mg_of X G a15,
    a_good_stretches := f16, d_good_stretches := _, F_good_stretches := fun_mk (st := s_good_stretches) l16 c16 k16, B_good_stretches := (fun_mk (st := s_good_stretches) l16 c16 k16).binds (ps := ["stretches", "many"]) (fun _ _ _ _ _ _ us hl => match us, hl with | [_, _], _ => rfl), m_good_stretches := PySem.W.mg_of X G a16,
    a_is_long := f17, d_is_long := _, F_is_long := fun_mk (st := s_is_long) l17 c17 k17, B_is_long := (fun_mk (st := s_is_long) l17 c17 k17).binds (ps := ["thing", "low", "high"]) (fun _ _ _ _ _ _ us hl => match us, hl with | [_, _, _], _ => rfl), m_is_long := PySem.W.mg_of X G a17,
    a_good_longs := f18, d_good_longs := _, F_good_longs := fun_mk (st := s_good_longs) l18 c18 k18, B_good_longs := (fun_mk (st := s_good_longs) l18 c18 k18).binds (ps := ["longs", "many"]) (fun _ _ _ _ _ _ us hl => match us, hl with | [_, _], _ => rfl), m_good_longs := PySem.W.mg_of X G a18,
    a_Line_init := f19, d_Line_init := _, F_Line_init := funN_mk (st := s_Line_init) l19 c19 k19 lT19 dT19, B_Line_init := funN_full (ps := ["self", "places", "stretches", "longs"]) (funN_mk (st := s_Line_init) l19 c19 k19 lT19 dT19) 4 rfl (fun _ _ _ _ _ _ _ us its hu hi => match us, hu, its, hi with | [_, _, _, _], _, [_], _ => ⟨_, rfl, rfl⟩), Bp_Line_init := funN_part (ps := ["self", "places", "stretches", "longs"]) (funN_mk (st := s_Line_init) l19 c19 k19 lT19 dT19) 3 rfl (fun _ _ _ _ _ _ _ us its hu hi => match us, hu, its, hi with | [_, _, _], _, [_], _ => ⟨_, rfl, rfl⟩),
    a_Line_names := f20, d_Line_names := _, F_Line_names := fun_mk (st := s_Line_names) l20 c20 k20, B_Line_names := (fun_mk (st := s_Line_names) l20 c20 k20).binds (ps := ["self"]) (fun _ _ _ _ _ _ us hl => match us, hl with | [_], _ => rfl),
    a_Line_number_of := f21, d_Line_number_of := _, F_Line_number_of := fun_mk (st := s_Line_number_of) l21 c21 k21, B_Line_number_of := (fun_mk (st := s_Line_number_of) l21 c21 k21).binds (ps := ["self", "name"]) (fun _ _ _ _ _ _ us hl => match us, hl with | [_, _], _ => rfl),
    a_Line_roads := f22, d_Line_roads := _, F_Line_roads := fun_mk (st := s_Line_roads) l22 c22 k22, B_Line_roads := (fun_mk (st := s_Line_roads) l22 c22 k22).binds (ps := ["self", "name"]) (fun _ _ _ _ _ _ us hl => match us, hl with | [_, _], _ => rfl),
    a_Line_many_stretches := f23, d_Line_many_stretches := _, F_Line_many_stretches := fun_mk (st := s_Line_many_stretches) l23 c23 k23, B_Line_many_stretches := (fun_mk (st := s_Line_many_stretches) l23 c23 k23).binds (ps := ["self"]) (fun _ _ _ _ _ _ us hl => match us, hl with | [_], _ => rfl),
    a_Line_need_stretch := f24, d_Line_need_stretch := _, F_Line_need_stretch := fun_mk (st := s_Line_need_stretch) l24 c24 k24, B_Line_need_stretch := (fun_mk (st := s_Line_need_stretch) l24 c24 k24).binds (ps := ["self", "k"]) (fun _ _ _ _ _ _ us hl => match us, hl with | [_, _], _ => rfl),
    a_Line_ends := f25, d_Line_ends := _, F_Line_ends := fun_mk (st := s_Line_ends) l25 c25 k25, B_Line_ends := (fun_mk (st := s_Line_ends) l25 c25 k25).binds (ps := ["self", "k"]) (fun _ _ _ _ _ _ us hl => match us, hl with | [_, _], _ => rfl),
    a_Line_kind := f26, d_Line_kind := _, F_Line_kind := fun_mk (st := s_Line_kind) l26 c26 k26, B_Line_kind := (fun_mk (st := s_Line_kind) l26 c26 k26).binds (ps := ["self", "k"]) (fun _ _ _ _ _ _ us hl => match us, hl with | [_, _], _ => rfl),
    a_Line_home := f27, d_Line_home := _, F_Line_home := fun_mk (st := s_Line_home) l27 c27 k27, B_Line_home := (fun_mk (st := s_Line_home) l27 c27 k27).binds (ps := ["self", "k"]) (fun _ _ _ _ _ _ us hl => match us, hl with | [_, _], _ => rfl),
    a_Line_between := f28, d_Line_between := _, F_Line_between := fun_mk (st := s_Line_between) l28 c28 k28, B_Line_between := (fun_mk (st := s_Line_between) l28 c28 k28).binds (ps := ["self", "one", "other"]) (fun _ _ _ _ _ _ us hl => match us, hl with | [_, _, _], _ => rfl),
    a_Line_many_longs := f29, d_Line_many_longs := _, F_Line_many_longs := fun_mk (st := s_Line_many_longs) l29 c29 k29, B_Line_many_longs := (fun_mk (st := s_Line_many_longs) l29 c29 k29).binds (ps := ["self"]) (fun _ _ _ _ _ _ us hl => match us, hl with | [_], _ => rfl),
    a_Line_need_long := f30, d_Line_need_long := _, F_Line_need_long := fun_mk (st := s_Line_need_long) l30 c30 k30, B_Line_need_long := (fun_mk (st := s_Line_need_long) l30 c30 k30).binds (ps := ["self", "j"]) (fun _ _ _ _ _ _ us hl => match us, hl with | [_, _], _ => rfl),
    a_Line_long_ends := f31, d_Line_long_ends := _, F_Line_long_ends := fun_mk (st := s_Line_long_ends) l31 c31 k31, B_Line_long_ends := (fun_mk (st := s_Line_long_ends) l31 c31 k31).binds (ps := ["self", "j"]) (fun _ _ _ _ _ _ us hl => match us, hl with | [_, _], _ => rfl),
    a_Line_long_stretches := f32, d_Line_long_stretches := _, F_Line_long_stretches := fun_mk (st := s_Line_long_stretches) l32 c32 k32, B_Line_long_stretches := (fun_mk (st := s_Line_long_stretches) l32 c32 k32).binds (ps := ["self", "j"]) (fun _ _ _ _ _ _ us hl => match us, hl with | [_, _], _ => rfl),
    a_Line_long_home := f33, d_Line_long_home := _, F_Line_long_home := fun_mk (st := s_Line_long_home) l33 c33 k33, B_Line_long_home := (fun_mk (st := s_Line_long_home) l33 c33 k33).binds (ps := ["self", "j"]) (fun _ _ _ _ _ _ us hl => match us, hl with | [_, _], _ => rfl),
    a_Line_long_between := f34, d_Line_long_between := _, F_Line_long_between := fun_mk (st := s_Line_long_between) l34 c34 k34, B_Line_long_between := (fun_mk (st := s_Line_long_between) l34 c34 k34).binds (ps := ["self", "one", "other"]) (fun _ _ _ _ _ _ us hl => match us, hl with | [_, _, _], _ => rfl),
    a_Line_long_of := f35, d_Line_long_of := _, F_Line_long_of := fun_mk (st := s_Line_long_of) l35 c35 k35, B_Line_long_of := (fun_mk (st := s_Line_long_of) l35 c35 k35).binds (ps := ["self", "k"]) (fun _ _ _ _ _ _ us hl => match us, hl with | [_, _], _ => rfl),
    a_Line_told := f36, d_Line_told := _, F_Line_told := fun_mk (st := s_Line_told) l36 c36 k36, B_Line_told := (fun_mk (st := s_Line_told) l36 c36 k36).binds (ps := ["self"]) (fun _ _ _ _ _ _ us hl => match us, hl with | [_], _ => rfl),
    a_show_line := f37, d_show_line := _, F_show_line := fun_mk (st := s_show_line) l37 c37 k37, B_show_line := (fun_mk (st := s_show_line) l37 c37 k37).binds (ps := ["line"]) (fun _ _ _ _ _ _ us hl => match us, hl with | [_], _ => rfl), m_show_line := PySem.W.mg_of X G a37,
    a_is_form := f38, d_is_form := _, F_is_form := fun_mk (st := s_is_form) l38 c38 k38, B_is_form := (fun_mk (st := s_is_form) l38 c38 k38).binds (ps := ["words"]) (fun _ _ _ _ _ _ us hl => match us, hl with | [_], _ => rfl), m_is_form := PySem.W.mg_of X G a38,
    a_rows_of := f39, d_rows_of := _, F_rows_of := fun_mk (st := s_rows_of) l39 c39 k39, B_rows_of := (fun_mk (st := s_rows_of) l39 c39 k39).binds (ps := ["text"]) (fun _ _ _ _ _ _ us hl => match us, hl with | [_], _ => rfl), m_rows_of := PySem.W.mg_of X G a39,
    a_read_line := f40, d_read_line := _, F_read_line := fun_mk (st := s_read_line) l40 c40 k40, B_read_line := (fun_mk (st := s_read_line) l40 c40 k40).binds (ps := ["text"]) (fun _ _ _ _ _ _ us hl => match us, hl with | [_], _ => rfl), m_read_line := PySem.W.mg_of X G a40,
    a_law_cell := f41, d_law_cell := _, F_law_cell := fun_mk (st := s_law_cell) l41 c41 k41, B_law_cell := (fun_mk (st := s_law_cell) l41 c41 k41).binds (ps := ["_law_script", "_law_k"]) (fun _ _ _ _ _ _ us hl => match us, hl with | [_, _], _ => rfl), m_law_cell := PySem.W.mg_of X G a41,
    a_law_box := f42, d_law_box := _, F_law_box := fun_mk (st := s_law_box) l42 c42 k42, B_law_box := (fun_mk (st := s_law_box) l42 c42 k42).binds (ps := ["_law_cell_here"]) (fun _ _ _ _ _ _ us hl => match us, hl with | [_], _ => rfl), m_law_box := PySem.W.mg_of X G a42,
    a_law_take := f43, d_law_take := _, F_law_take := fun_mk (st := s_law_take) l43 c43 k43, B_law_take := (fun_mk (st := s_law_take) l43 c43 k43).binds (ps := ["_law_box_here", "_law_many"]) (fun _ _ _ _ _ _ us hl => match us, hl with | [_, _], _ => rfl), m_law_take := PySem.W.mg_of X G a43,
    a_law_names := f44, d_law_names := _, F_law_names := fun_mk (st := s_law_names) l44 c44 k44, B_law_names := (fun_mk (st := s_law_names) l44 c44 k44).binds (ps := ["_law_box_here", "_law_many"]) (fun _ _ _ _ _ _ us hl => match us, hl with | [_, _], _ => rfl), m_law_names := PySem.W.mg_of X G a44,
    a_law_world := f45, d_law_world := _, F_law_world := fun_mk (st := s_law_world) l45 c45 k45, B_law_world := (fun_mk (st := s_law_world) l45 c45 k45).binds (ps := ["_law_box_here"]) (fun _ _ _ _ _ _ us hl => match us, hl with | [_], _ => rfl), m_law_world := PySem.W.mg_of X G a45,
    a_law_rows := f46, d_law_rows := _, F_law_rows := fun_mk (st := s_law_rows) l46 c46 k46, B_law_rows := (fun_mk (st := s_law_rows) l46 c46 k46).binds (ps := ["_law_world_here"]) (fun _ _ _ _ _ _ us hl => match us, hl with | [_], _ => rfl), m_law_rows := PySem.W.mg_of X G a46,
    a_law_stretches_asked_right := f47, d_law_stretches_asked_right := _, F_law_stretches_asked_right := fun_mk (st := s_law_stretches_asked_right) l47 c47 k47, B_law_stretches_asked_right := (fun_mk (st := s_law_stretches_asked_right) l47 c47 k47).binds (ps := ["_law_line", "_law_world_here"]) (fun _ _ _ _ _ _ us hl => match us, hl with | [_, _], _ => rfl), m_law_stretches_asked_right := PySem.W.mg_of X G a47,
    a_law_asked_right := f48, d_law_asked_right := _, F_law_asked_right := fun_mk (st := s_law_asked_right) l48 c48 k48, B_law_asked_right := (fun_mk (st := s_law_asked_right) l48 c48 k48).binds (ps := ["_law_line", "_law_world_here"]) (fun _ _ _ _ _ _ us hl => match us, hl with | [_, _], _ => rfl), m_law_asked_right := PySem.W.mg_of X G a48,
    a_law_right := f49, d_law_right := _, F_law_right := fun_mk (st := s_law_right) l49 c49 k49, B_law_right := (fun_mk (st := s_law_right) l49 c49 k49).binds (ps := ["_law_line", "_law_world_here"]) (fun _ _ _ _ _ _ us hl => match us, hl with | [_, _], _ => rfl), m_law_right := PySem.W.mg_of X G a49,
    a_law := f50, d_law := _, F_law := fun_mk (st := s_law) l50 c50 k50, B_law := (fun_mk (st := s_law) l50 c50 k50).binds (ps := ["_law_script"]) (fun _ _ _ _ _ _ us hl => match us, hl with | [_], _ => rfl), m_law := PySem.W.mg_of X G a50,
    cl_Line := ⟨pg_Line, hd_Line, po_Line, sa_Line⟩,
    mk_Line := ⟨mk_Line, a19, if_Line, kc_Line⟩,
    na_Line_kept_places := na_Line_kept_places,
    na_Line_kept_stretches := na_Line_kept_stretches,
    na_Line_kept_longs := na_Line_kept_longs,
    M_Line_names := ⟨a20, fn_Line_names, k20⟩,
    M_Line_number_of := ⟨a21, fn_Line_number_of, k21⟩,
    M_Line_roads := ⟨a22, fn_Line_roads, k22⟩,
    M_Line_many_stretches := ⟨a23, fn_Line_many_stretches, k23⟩,
    M_Line_need_stretch := ⟨a24, fn_Line_need_stretch, k24⟩,
    M_Line_ends := ⟨a25, fn_Line_ends, k25⟩,
    M_Line_kind := ⟨a26, fn_Line_kind, k26⟩,
    M_Line_home := ⟨a27, fn_Line_home, k27⟩,
    M_Line_between := ⟨a28, fn_Line_between, k28⟩,
    M_Line_many_longs := ⟨a29, fn_Line_many_longs, k29⟩,
    M_Line_need_long := ⟨a30, fn_Line_need_long, k30⟩,
    M_Line_long_ends := ⟨a31, fn_Line_long_ends, k31⟩,
    M_Line_long_stretches := ⟨a32, fn_Line_long_stretches, k32⟩,
    M_Line_long_home := ⟨a33, fn_Line_long_home, k33⟩,
    M_Line_long_between := ⟨a34, fn_Line_long_between, k34⟩,
    M_Line_long_of := ⟨a35, fn_Line_long_of, k35⟩,
    M_Line_told := ⟨a36, fn_Line_told, k36⟩,
    er_NoName := ⟨⟨⟨_, _, _, _, _, _, _, _, _, _, _, _, _, _, _, xL_NoName, ve_NoName⟩, sa_NoName, ex_NoName, ty_NoName, kC_NoName⟩, ⟨ga_NoName, gg_NoName, ex_NoName, hd_NoName⟩, no_NoName, a1, ti_NoName, ha_NoName, hm_NoName⟩,
    er_NoPlace := ⟨⟨⟨_, _, _, _, _, _, _, _, _, _, _, _, _, _, _, xL_NoPlace, ve_NoPlace⟩, sa_NoPlace, ex_NoPlace, ty_NoPlace, kC_NoPlace⟩, ⟨ga_NoPlace, gg_NoPlace, ex_NoPlace, hd_NoPlace⟩, no_NoPlace, a2, ti_NoPlace, ha_NoPlace, hm_NoPlace⟩,
    er_NoStretch := ⟨⟨⟨_, _, _, _, _, _, _, _, _, _, _, _, _, _, _, xL_NoStretch, ve_NoStretch⟩, sa_NoStretch, ex_NoStretch, ty_NoStretch, kC_NoStretch⟩, ⟨ga_NoStretch, gg_NoStretch, ex_NoStretch, hd_NoStretch⟩, no_NoStretch, a3, ti_NoStretch, ha_NoStretch, hm_NoStretch⟩,
    er_NoLong := ⟨⟨⟨_, _, _, _, _, _, _, _, _, _, _, _, _, _, _, xL_NoLong, ve_NoLong⟩, sa_NoLong, ex_NoLong, ty_NoLong, kC_NoLong⟩, ⟨ga_NoLong, gg_NoLong, ex_NoLong, hd_NoLong⟩, no_NoLong, a4, ti_NoLong, ha_NoLong, hm_NoLong⟩,
    er_NoPlaces := ⟨⟨⟨_, _, _, _, _, _, _, _, _, _, _, _, _, _, _, xL_NoPlaces, ve_NoPlaces⟩, sa_NoPlaces, ex_NoPlaces, ty_NoPlaces, kC_NoPlaces⟩, ⟨ga_NoPlaces, gg_NoPlaces, ex_NoPlaces, hd_NoPlaces⟩, no_NoPlaces, a5, ti_NoPlaces, ha_NoPlaces, hm_NoPlaces⟩,
    er_NoStretches := ⟨⟨⟨_, _, _, _, _, _, _, _, _, _, _, _, _, _, _, xL_NoStretches, ve_NoStretches⟩, sa_NoStretches, ex_NoStretches, ty_NoStretches, kC_NoStretches⟩, ⟨ga_NoStretches, gg_NoStretches, ex_NoStretches, hd_NoStretches⟩, no_NoStretches, a6, ti_NoStretches, ha_NoStretches, hm_NoStretches⟩,
    er_NoLongs := ⟨⟨⟨_, _, _, _, _, _, _, _, _, _, _, _, _, _, _, xL_NoLongs, ve_NoLongs⟩, sa_NoLongs, ex_NoLongs, ty_NoLongs, kC_NoLongs⟩, ⟨ga_NoLongs, gg_NoLongs, ex_NoLongs, hd_NoLongs⟩, no_NoLongs, a7, ti_NoLongs, ha_NoLongs, hm_NoLongs⟩,
    er_NoNumber := ⟨⟨⟨_, _, _, _, _, _, _, _, _, _, _, _, _, _, _, xL_NoNumber, ve_NoNumber⟩, sa_NoNumber, ex_NoNumber, ty_NoNumber, kC_NoNumber⟩, ⟨ga_NoNumber, gg_NoNumber, ex_NoNumber, hd_NoNumber⟩, no_NoNumber, a8, ti_NoNumber, ha_NoNumber, hm_NoNumber⟩,
    er_Twice := ⟨⟨⟨_, _, _, _, _, _, _, _, _, _, _, _, _, _, _, xL_Twice, ve_Twice⟩, sa_Twice, ex_Twice, ty_Twice, kC_Twice⟩, ⟨ga_Twice, gg_Twice, ex_Twice, hd_Twice⟩, no_Twice, a9, ti_Twice, ha_Twice, hm_Twice⟩,
    er_NoText := ⟨⟨⟨_, _, _, _, _, _, _, _, _, _, _, _, _, _, _, xL_NoText, ve_NoText⟩, sa_NoText, ex_NoText, ty_NoText, kC_NoText⟩, ⟨ga_NoText, gg_NoText, ex_NoText, hd_NoText⟩, no_NoText, a10, ti_NoText, ha_NoText, hm_NoText⟩,
    rd_StaffError := ⟨rd_StaffError, rg_StaffError⟩, vi_StaffError := vi_StaffError,
    oc_get := oc_get, oc_take := oc_take,
    ic_Line := ⟨⟨pg_Line, hd_Line, po_Line, sa_Line⟩, ia_Line, oc_get, oc_take, im_Line⟩,
    ki_Line_Line := ki_Line_Line,
    c_LONGEST := u_LONGEST, mc_LONGEST := PySem.W.mg_of X G g_LONGEST, rc_LONGEST := r_LONGEST,
    c_LETTERS := u_LETTERS, mc_LETTERS := PySem.W.mg_of X G g_LETTERS, rc_LETTERS := r_LETTERS,
    c_FEWEST_PLACES := u_FEWEST_PLACES, mc_FEWEST_PLACES := PySem.W.mg_of X G g_FEWEST_PLACES, rc_FEWEST_PLACES := r_FEWEST_PLACES,
    c_MOST_PLACES := u_MOST_PLACES, mc_MOST_PLACES := PySem.W.mg_of X G g_MOST_PLACES, rc_MOST_PLACES := r_MOST_PLACES,
    c_MOST_ROADS := u_MOST_ROADS, mc_MOST_ROADS := PySem.W.mg_of X G g_MOST_ROADS, rc_MOST_ROADS := r_MOST_ROADS,
    c_MOST_LONGS := u_MOST_LONGS, mc_MOST_LONGS := PySem.W.mg_of X G g_MOST_LONGS, rc_MOST_LONGS := r_MOST_LONGS,
    t_HOMES := t_HOMES, mt_HOMES := PySem.W.mg_of X G gt_HOMES, kt_HOMES := KT.mk' lt_HOMES kt_HOMES,
    t_SORTS := t_SORTS, mt_SORTS := PySem.W.mg_of X G gt_SORTS, kt_SORTS := KT.mk' lt_SORTS kt_SORTS,
    z_abs := PySem.W.mg_none_of X G z_abs,
    z_all := PySem.W.mg_none_of X G z_all,
    z_bool := PySem.W.mg_none_of X G z_bool,
    z_enumerate := PySem.W.mg_none_of X G z_enumerate,
    z_int := PySem.W.mg_none_of X G z_int,
    z_isinstance := PySem.W.mg_none_of X G z_isinstance,
    z_len := PySem.W.mg_none_of X G z_len,
    z_list := PySem.W.mg_none_of X G z_list,
    z_max := PySem.W.mg_none_of X G z_max,
    z_min := PySem.W.mg_none_of X G z_min,
    z_range := PySem.W.mg_none_of X G z_range,
    z_repr := PySem.W.mg_none_of X G z_repr,
    z_str := PySem.W.mg_none_of X G z_str,
    z_tuple := PySem.W.mg_none_of X G z_tuple }
  rw [e]
  exact ⟨T.d_law, fun s v => .of_eq rfl, fun base _ _ hs => ok_law T hs⟩
theorem walk {l : PySem.W.OpenLaw} {q : Program} {lo : List Str} {XP : (Str → Option Value) → Heap → Prop} {YP : World → Heap → Prop} {d : DefRec} {K : Params → PySem.W.Frag} (hn : l.most = some 63) (hdf : d.params.defaults = []) (hi : PyProof.Rows.importsNone q = true)
    (hY : ∀ (w : World) (h : Heap), YP w h → (K w.params).In h)
    (F : ∀ (w : World) (mg : Str → Option Value) (fa : Addr) (h : Heap), (K w.params).In h → h.Ns mainGlobals mg → mg d.name = some (.ref fa) →
      ∃ fd : FuncData, (∀ (s : Shared) (u : Value), BindsTo s fd ⟨[u], []⟩ [("_law_script", u)]) ∧ ∀ base : Heap, (K w.params).In base → base.Ns mainGlobals mg → (∃ mm, base.Ns sysModules mm) → FnG l.prog w (K w.params) mg base (L2.CX l.prog w) 9 fa fd ["_law_script"] (sp_law (K w.params))) :
    PySem.W.WalkO q lo XP YP l.row.toRowW d [] (fun f vs => PySem.call f vs) :=
  walkG (n := 63) (k := 9) (x := "_law_script") (cx := fun w => L2.CX l.prog w) (sp := fun w => sp_law (K w.params)) hn (by decide) hdf ⟨rfl, by decide, by decide⟩ hi hY F (fun _ _ a ns hl _ hS => ⟨_, rfl, a, ns, rfl, hS, hl, fun _ => rfl⟩) fun _ _ _ _ _ z => by obtain ⟨_, _, _, _, _, _, _, _, _, _, _, _, y⟩ := z; exact y
end K07
open PySem PySem.W PyProof.Rows
set_option maxRecDepth 100000 in
set_option maxHeartbeats 0 in
theorem PySem.Challenge.cw_onestaff_k07_lines_as_texts_holds : PySem.Challenge.rw_onestaff_k07_lines_as_texts.Holds := by
  w_on; o_law; k_head; (case hw => w_witness2)
  k_fill
  refine K07.walk (l := PySem.Challenge.rw_onestaff_k07_lines_as_texts) rfl rfl rfl (fun w h Y => PySem.W.kIn_of Y) ?F
  case F =>
    intro w mg fa h KX G hmg
    refine' K07.all_mk KX G hmg ?n_Line ?n_NoName ?n_NoPlace ?n_NoStretch ?n_NoLong ?n_NoPlaces ?n_NoStretches ?n_NoLongs ?n_NoNumber ?n_Twice ?n_NoText ?n_StaffError ?a1 ?l1 ?c1 ?k1 ?a2 ?l2 ?c2 ?k2 ?a3 ?l3 ?c3 ?k3 ?a4 ?l4 ?c4 ?k4 ?a5 ?l5 ?c5 ?k5 ?a6 ?l6 ?c6 ?k6 ?a7 ?l7 ?c7 ?k7 ?a8 ?l8 ?c8 ?k8 ?a9 ?l9 ?c9 ?k9 ?a10 ?l10 ?c10 ?k10 ?a11 ?l11 ?c11 ?k11 ?a12 ?l12 ?c12 ?k12 ?a13 ?l13 ?c13 ?k13 ?a14 ?l14 ?c14 ?k14 ?a15 ?l15 ?c15 ?k15 ?a16 ?l16 ?c16 ?k16 ?a17 ?l17 ?c17 ?k17 ?a18 ?l18 ?c18 ?k18 ?a19 ?l19 ?c19 ?k19 ?lT19 ?dT19 ?a20 ?l20 ?c20 ?k20 ?a21 ?l21 ?c21 ?k21 ?a22 ?l22 ?c22 ?k22 ?a23 ?l23 ?c23 ?k23 ?a24 ?l24 ?c24 ?k24 ?a25 ?l25 ?c25 ?k25 ?a26 ?l26 ?c26 ?k26 ?a27 ?l27 ?c27 ?k27 ?a28 ?l28 ?c28 ?k28 ?a29 ?l29 ?c29 ?k29 ?a30 ?l30 ?c30 ?k30 ?a31 ?l31 ?c31 ?k31 ?a32 ?l32 ?c32 ?k32 ?a33 ?l33 ?c33 ?k33 ?a34 ?l34 ?c34 ?k34 ?a35 ?l35 ?c35 ?k35 ?a36 ?l36 ?c36 ?k36 ?a37 ?l37 ?c37 ?k37 ?a38 ?l38 ?c38 ?k38 ?a39 ?l39 ?c39 ?k39 ?a40 ?l40 ?c40 ?k40 ?a41 ?l41 ?c41 ?k41 ?a42 ?l42 ?c42 ?k42 ?a43 ?l43 ?c43 ?k43 ?a44 ?l44 ?c44 ?k44 ?a45 ?l45 ?c45 ?k45 ?a46 ?l46 ?c46 ?k46 ?a47 ?l47 ?c47 ?k47 ?a48 ?l48 ?c48 ?k48 ?a49 ?l49 ?c49 ?k49 ?a50 ?l50 ?c50 ?k50 ?pg_Line ?hd_Line ?po_Line ?sa_Line ?mk_Line ?kc_Line ?if_Line ?na_Line_kept_places ?na_Line_kept_stretches ?na_Line_kept_longs ?fn_Line_names ?fn_Line_number_of ?fn_Line_roads ?fn_Line_many_stretches ?fn_Line_need_stretch ?fn_Line_ends ?fn_Line_kind ?fn_Line_home ?fn_Line_between ?fn_Line_many_longs ?fn_Line_need_long ?fn_Line_long_ends ?fn_Line_long_stretches ?fn_Line_long_home ?fn_Line_long_between ?fn_Line_long_of ?fn_Line_told ?xL_NoName ?ve_NoName ?sa_NoName ?ga_NoName ?gg_NoName ?no_NoName ?ex_NoName ?ty_NoName ?kC_NoName ?hd_NoName ?ha_NoName ?hm_NoName ?ti_NoName ?xL_NoPlace ?ve_NoPlace ?sa_NoPlace ?ga_NoPlace ?gg_NoPlace ?no_NoPlace ?ex_NoPlace ?ty_NoPlace ?kC_NoPlace ?hd_NoPlace ?ha_NoPlace ?hm_NoPlace ?ti_NoPlace ?xL_NoStretch ?ve_NoStretch ?sa_NoStretch ?ga_NoStretch ?gg_NoStretch ?no_NoStretch ?ex_NoStretch ?ty_NoStretch ?kC_NoStretch ?hd_NoStretch ?ha_NoStretch ?hm_NoStretch ?ti_NoStretch ?xL_NoLong ?ve_NoLong ?sa_NoLong ?ga_NoLong ?gg_NoLong ?no_NoLong ?ex_NoLong ?ty_NoLong ?kC_NoLong ?hd_NoLong ?ha_NoLong ?hm_NoLong ?ti_NoLong ?xL_NoPlaces ?ve_NoPlaces ?sa_NoPlaces ?ga_NoPlaces ?gg_NoPlaces ?no_NoPlaces ?ex_NoPlaces ?ty_NoPlaces ?kC_NoPlaces ?hd_NoPlaces ?ha_NoPlaces ?hm_NoPlaces ?ti_NoPlaces ?xL_NoStretches ?ve_NoStretches ?sa_NoStretches ?ga_NoStretches ?gg_NoStretches ?no_NoStretches ?ex_NoStretches ?ty_NoStretches ?kC_NoStretches ?hd_NoStretches ?ha_NoStretches ?hm_NoStretches ?ti_NoStretches ?xL_NoLongs ?ve_NoLongs ?sa_NoLongs ?ga_NoLongs ?gg_NoLongs ?no_NoLongs ?ex_NoLongs ?ty_NoLongs ?kC_NoLongs ?hd_NoLongs ?ha_NoLongs ?hm_NoLongs ?ti_NoLongs ?xL_NoNumber ?ve_NoNumber ?sa_NoNumber ?ga_NoNumber ?gg_NoNumber ?no_NoNumber ?ex_NoNumber ?ty_NoNumber ?kC_NoNumber ?hd_NoNumber ?ha_NoNumber ?hm_NoNumber ?ti_NoNumber ?xL_Twice ?ve_Twice ?sa_Twice ?ga_Twice ?gg_Twice ?no_Twice ?ex_Twice ?ty_Twice ?kC_Twice ?hd_Twice ?ha_Twice ?hm_Twice ?ti_Twice ?xL_NoText ?ve_NoText ?sa_NoText ?ga_NoText ?gg_NoText ?no_NoText ?ex_NoText ?ty_NoText ?kC_NoText ?hd_NoText ?ha_NoText ?hm_NoText ?ti_NoText ?rd_StaffError ?rg_StaffError ?vi_StaffError ?oc_get ?oc_take ?ia_Line ?im_Line ?ki_Line_Line ?g_LONGEST ?r_LONGEST ?g_LETTERS ?r_LETTERS ?g_FEWEST_PLACES ?r_FEWEST_PLACES ?g_MOST_PLACES ?r_MOST_PLACES ?g_MOST_ROADS ?r_MOST_ROADS ?g_MOST_LONGS ?r_MOST_LONGS ?gt_HOMES ?lt_HOMES ?kt_HOMES ?gt_SORTS ?lt_SORTS ?kt_SORTS ?z_abs ?z_all ?z_bool ?z_enumerate ?z_int ?z_isinstance ?z_len ?z_list ?z_max ?z_min ?z_range ?z_repr ?z_str ?z_tuple
    (case n_Line => k_is)
    (case n_NoName => k_is)
    (case n_NoPlace => k_is)
    (case n_NoStretch => k_is)
    (case n_NoLong => k_is)
    (case n_NoPlaces => k_is)
    (case n_NoStretches => k_is)
    (case n_NoLongs => k_is)
    (case n_NoNumber => k_is)
    (case n_Twice => k_is)
    (case n_NoText => k_is)
    (case n_StaffError => k_is)
    (case a1 => k_is)
    (case l1 => k_is)
    (case c1 => k_is)
    (case k1 => k_is)
    (case a2 => k_is)
    (case l2 => k_is)
    (case c2 => k_is)
    (case k2 => k_is)
    (case a3 => k_is)
    (case l3 => k_is)
    (case c3 => k_is)
    (case k3 => k_is)
    (case a4 => k_is)
    (case l4 => k_is)
    (case c4 => k_is)
    (case k4 => k_is)
    (case a5 => k_is)
    (case l5 => k_is)
    (case c5 => k_is)
    (case k5 => k_is)
    (case a6 => k_is)
    (case l6 => k_is)
    (case c6 => k_is)
    (case k6 => k_is)
    (case a7 => k_is)
    (case l7 => k_is)
    (case c7 => k_is)
    (case k7 => k_is)
    (case a8 => k_is)
    (case l8 => k_is)
    (case c8 => k_is)
    (case k8 => k_is)
    (case a9 => k_is)
    (case l9 => k_is)
    (case c9 => k_is)
    (case k9 => k_is)
    (case a10 => k_is)
    (case l10 => k_is)
    (case c10 => k_is)
    (case k10 => k_is)
    (case a11 => k_is)
    (case l11 => k_is)
    (case c11 => k_is)
    (case k11 => k_is)
    (case a12 => k_is)
    (case l12 => k_is)
    (case c12 => k_is)
    (case k12 => k_is)
    (case a13 => k_is)
    (case l13 => k_is)
    (case c13 => k_is)
    (case k13 => k_is)
    (case a14 => k_is)
    (case l14 => k_is)
    (case c14 => k_is)
    (case k14 => k_is)
    (case a15 => k_is)
    (case l15 => k_is)
    (case c15 => k_is)
    (case k15 => k_is)
    (case a16 => k_is)
    (case l16 => k_is)
    (case c16 => k_is)
    (case k16 => k_is)
    (case a17 => k_is)
    (case l17 => k_is)
    (case c17 => k_is)
    (case k17 => k_is)
    (case a18 => k_is)
    (case l18 => k_is)
    (case c18 => k_is)
    (case k18 => k_is)
    (case a19 => k_is)
    (case l19 => k_is)
    (case c19 => k_is)
    (case k19 => k_is)
    (case lT19 => k_is)
    (case dT19 => rfl)
    (case a20 => k_is)
    (case l20 => k_is)
    (case c20 => k_is)
    (case k20 => k_is)
    (case a21 => k_is)
    (case l21 => k_is)
    (case c21 => k_is)
    (case k21 => k_is)
    (case a22 => k_is)
    (case l22 => k_is)
    (case c22 => k_is)
    (case k22 => k_is)
    (case a23 => k_is)
    (case l23 => k_is)
    (case c23 => k_is)
    (case k23 => k_is)
    (case a24 => k_is)
    (case l24 => k_is)
    (case c24 => k_is)
    (case k24 => k_is)
    (case a25 => k_is)
    (case l25 => k_is)
    (case c25 => k_is)
    (case k25 => k_is)
    (case a26 => k_is)
    (case l26 => k_is)
    (case c26 => k_is)
    (case k26 => k_is)
    (case a27 => k_is)
    (case l27 => k_is)
    (case c27 => k_is)
    (case k27 => k_is)
    (case a28 => k_is)
    (case l28 => k_is)
    (case c28 => k_is)
    (case k28 => k_is)
    (case a29 => k_is)
    (case l29 => k_is)
    (case c29 => k_is)
    (case k29 => k_is)
    (case a30 => k_is)
    (case l30 => k_is)
    (case c30 => k_is)
    (case k30 => k_is)
    (case a31 => k_is)
    (case l31 => k_is)
    (case c31 => k_is)
    (case k31 => k_is)
    (case a32 => k_is)
    (case l32 => k_is)
    (case c32 => k_is)
    (case k32 => k_is)
    (case a33 => k_is)
    (case l33 => k_is)
    (case c33 => k_is)
    (case k33 => k_is)
    (case a34 => k_is)
    (case l34 => k_is)
    (case c34 => k_is)
    (case k34 => k_is)
    (case a35 => k_is)
    (case l35 => k_is)
    (case c35 => k_is)
    (case k35 => k_is)
    (case a36 => k_is)
    (case l36 => k_is)
    (case c36 => k_is)
    (case k36 => k_is)
    (case a37 => k_is)
    (case l37 => k_is)
    (case c37 => k_is)
    (case k37 => k_is)
    (case a38 => k_is)
    (case l38 => k_is)
    (case c38 => k_is)
    (case k38 => k_is)
    (case a39 => k_is)
    (case l39 => k_is)
    (case c39 => k_is)
    (case k39 => k_is)
    (case a40 => k_is)
    (case l40 => k_is)
    (case c40 => k_is)
    (case k40 => k_is)
    (case a41 => k_is)
    (case l41 => k_is)
    (case c41 => k_is)
    (case k41 => k_is)
    (case a42 => k_is)
    (case l42 => k_is)
    (case c42 => k_is)
    (case k42 => k_is)
    (case a43 => k_is)
    (case l43 => k_is)
    (case c43 => k_is)
    (case k43 => k_is)
    (case a44 => k_is)
    (case l44 => k_is)
    (case c44 => k_is)
    (case k44 => k_is)
    (case a45 => k_is)
    (case l45 => k_is)
    (case c45 => k_is)
    (case k45 => k_is)
    (case a46 => k_is)
    (case l46 => k_is)
    (case c46 => k_is)
    (case k46 => k_is)
    (case a47 => k_is)
    (case l47 => k_is)
    (case c47 => k_is)
    (case k47 => k_is)
    (case a48 => k_is)
    (case l48 => k_is)
    (case c48 => k_is)
    (case k48 => k_is)
    (case a49 => k_is)
    (case l49 => k_is)
    (case c49 => k_is)
    (case k49 => k_is)
    (case a50 => k_is)
    (case l50 => k_is)
    (case c50 => k_is)
    (case k50 => k_is)
    (case pg_Line => k_is)
    (case hd_Line => k_is)
    (case po_Line => k_is)
    (case sa_Line => k_is)
    (case mk_Line => k_is)
    (case kc_Line => k_is)
    (case if_Line => k_is)
    (case na_Line_kept_places => k_is)
    (case na_Line_kept_stretches => k_is)
    (case na_Line_kept_longs => k_is)
    (case fn_Line_names => k_is)
    (case fn_Line_number_of => k_is)
    (case fn_Line_roads => k_is)
    (case fn_Line_many_stretches => k_is)
    (case fn_Line_need_stretch => k_is)
    (case fn_Line_ends => k_is)
    (case fn_Line_kind => k_is)
    (case fn_Line_home => k_is)
    (case fn_Line_between => k_is)
    (case fn_Line_many_longs => k_is)
    (case fn_Line_need_long => k_is)
    (case fn_Line_long_ends => k_is)
    (case fn_Line_long_stretches => k_is)
    (case fn_Line_long_home => k_is)
    (case fn_Line_long_between => k_is)
    (case fn_Line_long_of => k_is)
    (case fn_Line_told => k_is)
    (case xL_NoName => k_is)
    (case ve_NoName => rfl)
    (case sa_NoName => k_is)
    (case ga_NoName => k_is)
    (case gg_NoName => k_is)
    (case no_NoName => k_is)
    (case ex_NoName => k_is)
    (case ty_NoName => k_is)
    (case kC_NoName => k_is)
    (case hd_NoName => k_is)
    (case ha_NoName => k_is)
    (case hm_NoName => k_is)
    (case ti_NoName => k_is)
    (case xL_NoPlace => k_is)
    (case ve_NoPlace => rfl)
    (case sa_NoPlace => k_is)
    (case ga_NoPlace => k_is)
    (case gg_NoPlace => k_is)
    (case no_NoPlace => k_is)
    (case ex_NoPlace => k_is)
    (case ty_NoPlace => k_is)
    (case kC_NoPlace => k_is)
    (case hd_NoPlace => k_is)
    (case ha_NoPlace => k_is)
    (case hm_NoPlace => k_is)
    (case ti_NoPlace => k_is)
    (case xL_NoStretch => k_is)
    (case ve_NoStretch => rfl)
    (case sa_NoStretch => k_is)
    (case ga_NoStretch => k_is)
    (case gg_NoStretch => k_is)
    (case no_NoStretch => k_is)
    (case ex_NoStretch => k_is)
    (case ty_NoStretch => k_is)
    (case kC_NoStretch => k_is)
    (case hd_NoStretch => k_is)
    (case ha_NoStretch => k_is)
    (case hm_NoStretch => k_is)
    (case ti_NoStretch => k_is)
    (case xL_NoLong => k_is)
    (case ve_NoLong => rfl)
    (case sa_NoLong => k_is)
    (case ga_NoLong => k_is)
    (case gg_NoLong => k_is)
    (case no_NoLong => k_is)
    (case ex_NoLong => k_is)
    (case ty_NoLong => k_is)
    (case kC_NoLong => k_is)
    (case hd_NoLong => k_is)
    (case ha_NoLong => k_is)
    (case hm_NoLong => k_is)
    (case ti_NoLong => k_is)
    (case xL_NoPlaces => k_is)
    (case ve_NoPlaces => rfl)
    (case sa_NoPlaces => k_is)
    (case ga_NoPlaces => k_is)
    (case gg_NoPlaces => k_is)
    (case no_NoPlaces => k_is)
    (case ex_NoPlaces => k_is)
    (case ty_NoPlaces => k_is)
    (case kC_NoPlaces => k_is)
    (case hd_NoPlaces => k_is)
    (case ha_NoPlaces => k_is)
    (case hm_NoPlaces => k_is)
    (case ti_NoPlaces => k_is)
    (case xL_NoStretches => k_is)
    (case ve_NoStretches => rfl)
    (case sa_NoStretches => k_is)
    (case ga_NoStretches => k_is)
    (case gg_NoStretches => k_is)
    (case no_NoStretches => k_is)
    (case ex_NoStretches => k_is)
    (case ty_NoStretches => k_is)
    (case kC_NoStretches => k_is)
    (case hd_NoStretches => k_is)
    (case ha_NoStretches => k_is)
    (case hm_NoStretches => k_is)
    (case ti_NoStretches => k_is)
    (case xL_NoLongs => k_is)
    (case ve_NoLongs => rfl)
    (case sa_NoLongs => k_is)
    (case ga_NoLongs => k_is)
    (case gg_NoLongs => k_is)
    (case no_NoLongs => k_is)
    (case ex_NoLongs => k_is)
    (case ty_NoLongs => k_is)
    (case kC_NoLongs => k_is)
    (case hd_NoLongs => k_is)
    (case ha_NoLongs => k_is)
    (case hm_NoLongs => k_is)
    (case ti_NoLongs => k_is)
    (case xL_NoNumber => k_is)
    (case ve_NoNumber => rfl)
    (case sa_NoNumber => k_is)
    (case ga_NoNumber => k_is)
    (case gg_NoNumber => k_is)
    (case no_NoNumber => k_is)
    (case ex_NoNumber => k_is)
    (case ty_NoNumber => k_is)
    (case kC_NoNumber => k_is)
    (case hd_NoNumber => k_is)
    (case ha_NoNumber => k_is)
    (case hm_NoNumber => k_is)
    (case ti_NoNumber => k_is)
    (case xL_Twice => k_is)
    (case ve_Twice => rfl)
    (case sa_Twice => k_is)
    (case ga_Twice => k_is)
    (case gg_Twice => k_is)
    (case no_Twice => k_is)
    (case ex_Twice => k_is)
    (case ty_Twice => k_is)
    (case kC_Twice => k_is)
    (case hd_Twice => k_is)
    (case ha_Twice => k_is)
    (case hm_Twice => k_is)
    (case ti_Twice => k_is)
    (case xL_NoText => k_is)
    (case ve_NoText => rfl)
    (case sa_NoText => k_is)
    (case ga_NoText => k_is)
    (case gg_NoText => k_is)
    (case no_NoText => k_is)
    (case ex_NoText => k_is)
    (case ty_NoText => k_is)
    (case kC_NoText => k_is)
    (case hd_NoText => k_is)
    (case ha_NoText => k_is)
    (case hm_NoText => k_is)
    (case ti_NoText => k_is)
    (case rd_StaffError => k_is)
    (case rg_StaffError => k_is)
    (case vi_StaffError => k_is)
    (case oc_get => k_is)
    (case oc_take => k_is)
    (case ia_Line => k_is)
    (case im_Line => k_is)
    (case ki_Line_Line => kit_is)
    (case g_LONGEST => k_is)
    (case r_LONGEST => exact ⟨_, rfl⟩)
    (case g_LETTERS => k_is)
    (case r_LETTERS => exact ⟨_, rfl⟩)
    (case g_FEWEST_PLACES => k_is)
    (case r_FEWEST_PLACES => exact ⟨_, rfl⟩)
    (case g_MOST_PLACES => k_is)
    (case r_MOST_PLACES => exact ⟨_, rfl⟩)
    (case g_MOST_ROADS => k_is)
    (case r_MOST_ROADS => exact ⟨_, rfl⟩)
    (case g_MOST_LONGS => k_is)
    (case r_MOST_LONGS => exact ⟨_, rfl⟩)
    (case gt_HOMES => k_is)
    (case lt_HOMES => k_is)
    (case kt_HOMES => exact ⟨⟨rfl, rfl⟩, _, _, rfl, by decide, (.cons ⟨_, rfl⟩ (.cons ⟨_, rfl⟩ .nil))⟩)
    (case gt_SORTS => k_is)
    (case lt_SORTS => k_is)
    (case kt_SORTS => exact ⟨⟨rfl, rfl⟩, _, _, rfl, by decide, (.cons ⟨_, rfl⟩ (.cons ⟨_, rfl⟩ (.cons ⟨_, rfl⟩ .nil)))⟩)
    (case z_abs => k_is)
    (case z_all => k_is)
    (case z_bool => k_is)
    (case z_enumerate => k_is)
    (case z_int => k_is)
    (case z_isinstance => k_is)
    (case z_len => k_is)
    (case z_list => k_is)
    (case z_max => k_is)
    (case z_min => k_is)
    (case z_range => k_is)
    (case z_repr => k_is)
    (case z_str => k_is)
    (case z_tuple => k_is)
#print axioms PySem.Challenge.cw_onestaff_k07_lines_as_texts_holds

